import PyProof.Rows.All
import Wide.All
import OpenK.AllK
import Wide.FinOn
import HandS.ForMost
import HandS.ForExc
import HandS.WideBits
import HandS.StrMore
import HandS.Flow
import HandS.IsInst
import HandS.Defaults
import HandS.TupAny
import HandS.Walk
import HandS.More
import HandS.SortInts
import HandS.ListItems
import HandS.ExcValue
import KE.KUnpackStar
import HandS.DictTup
import KE.KSortTup
import HandS.Finally
import KE.GoesMore
import KE.GoesEnum
import HandS.TupSets
import HandS.SetFor
import HandS.Strs
import PyProof.Rows.SortStr
import PyProof.Rows.SetFrom
import HandS.TupLe
import HandS.IntHex
import HandS.Rindex
import PyProof.StrLawsLast
import PyProof.Rows.StrNews2
import PyProof.MeetsStr3
import PyProof.FactsAll.str_7
import HandS.ExcInit
import HandS.ExcOwn
import HandS.ExcIs
import HandS.ExcField
import HandS.TryOnly
import HandS.DeepEq
import PyProof.StrOps2
import PyProof.ExcBaseAll.ValueError
import HandS.HotCalls
import PyProof.AssignAttr
import HandS.Lambda
import HandS.EndTab
import HandS.Small
import KE.GoesRaise
import HandS.Deep
import KE.KSliceW
import PyProof.ListRange
import HandS.TupLen
import HandS.SortRule
import KE.KDictDisplayH
import KE.KDictCopyH
import KE.KDictWalk
import HandS.Conv
import PySem.Challenge.RW_cleanedlog_k32_make_and_create
set_option Elab.async false
set_option linter.all false
set_option maxRecDepth 100000
set_option maxHeartbeats 1000000
/-! ### ClG: defs that know that nothing is being shown (repr wants it): promises, calls, methods, makings, the law's own call -/
namespace Cl
open PySem PySem.Spec PyProof.Rows L2

/-- room for k calls, and no repr is running -/
structure Rm (k : Nat) (A : Around) : Prop where
  room : Room k A
  gd : A.guards = some []
theorem Rm.mono {j k : Nat} {A : Around} (r : Rm k A) (h : j ≤ k) : Rm j A := ⟨r.room.mono h, r.gd⟩
theorem Rm.deeper {k : Nat} {A : Around} (r : Rm (k + 1) A) (env : Env) : Rm k (A.deeper env) := ⟨r.room.deeper env, r.gd⟩
theorem Rm.make {k : Nat} {A : Around} (r : Rm (k + 1) A) (C : Addr) (us : List Value) (kw : List (Str × Value)) : Rm k (A.under (.builtin "type.__call__" ⟨.ref C :: us, kw⟩)) := by
  refine ⟨r.room.make C us kw, ?_⟩
  show pushGuards (Code.builtin "type.__call__" ⟨.ref C :: us, kw⟩).guards A.guards = some []
  rw [show (Code.builtin "type.__call__" ⟨.ref C :: us, kw⟩).guards = [] by simp [Code.guards, Code.isGuard, guardIds]]
  exact r.gd
theorem Rm.hu {A : Around} {k : Nat} (hr : Rm k A) : A.units + 1 < cLine := hu_of hr.room
theorem Rm.units {A : Around} {k : Nat} (hr : Rm k A) : A.units + 64 < cLine := hr.room.units

/-- a def that keeps its promise wherever there is such room -/
structure GnOk (P : Program) (w : World) (K : PySem.W.Frag) (mg : Str → Option Value) (base : Heap) (CX : CXT) (k : Nat) (f : Addr) (fd : FuncData) (ps : List Str) (sp : Sp) : Prop where
  len : ∀ vs H Q E, sp vs H Q E → vs.length = ps.length
  run : ∀ (A : Around) (out : List Env) (s : Shared) (H : Hp) (ar : Args) (us : List Value) (vs : List V) (Q : VK) (E : XK), Rm k A → Env0 P w K mg base A out s H →
    BindsTo s fd ar (ps.zip us) → Vals vs us → sp vs H Q E → codeAny (model P w) A (.call (.ref f) ar) (CR CX out P w H s Q E) s

section
variable {P : Program} {w : World} {K : PySem.W.Frag} {mg : Str → Option Value} {base : Heap}
theorem GnOk.mono {CX : CXT} {j k : Nat} {f : Addr} {fd : FuncData} {ps : List Str} {sp : Sp} (F : GnOk P w K mg base CX j f fd ps sp) (h : j ≤ k) : GnOk P w K mg base CX k f fd ps sp :=
  ⟨F.len, fun A out s H ar us vs Q E hr => F.run A out s H ar us vs Q E (hr.mono h)⟩
theorem GnOk.imp {CX : CXT} {k : Nat} {f : Addr} {fd : FuncData} {ps : List Str} {sp sp' : Sp} (F : GnOk P w K mg base CX k f fd ps sp) (h : ∀ vs H Q E, sp' vs H Q E → sp vs H Q E) : GnOk P w K mg base CX k f fd ps sp' :=
  ⟨fun vs H Q E q => F.len vs H Q E (h _ _ _ _ q), fun A out s H ar us vs Q E hr he hb hv hs => F.run A out s H ar us vs Q E hr he hb hv (h _ _ _ _ hs)⟩
/-- the end of a body is the end of the call -/
theorem body_end {CX : CXT} {N : List Str} {qual : Str} {sc : Scope} {f : Addr} {cd : Value} {A : Around} {out : List Env} {s : Shared} {H : Hp} {E : XK} {Q : VK} :
    ∀ {fl : Flow} {s' : Shared}, SP (cxOf CX P w K mg base N qual sc f cd A out s H E) [] { nx := fun _ H' => Q .non H', rt := Q } fl s' → CE out P w H s Q (match (generalizing := false) fl with | .ret v => v | _ => .none) s'
  | .ret _, _, ⟨v, _, H1, J, rv, q⟩ => ⟨v, H1, J.os, J.bare, J.base, J.hok, rv, q⟩
  | .next, _, ⟨_, H1, J, q⟩ => ⟨.non, H1, J.os, J.bare, J.base, J.hok, rfl, q⟩
  | .brk, _, ⟨_, _, _, q⟩ => q.elim
  | .cont, _, ⟨_, _, _, q⟩ => q.elim
theorem gn_of {CX : CXT} {k : Nat} {f : Addr} {nm qual : Str} {pars : Arguments} {body : List Stmt} {sc : Scope} {dV kV doc pm cdv ct oc : Value} {an od : Option Addr} {osl : Array (Option Value)} {N ps : List Str} {sp : Sp}
    (lk : K.lookup f = some ⟨oc, od, .func (PySem.W.fnOf nm qual pars body sc dV kV doc pm an cdv ct), osl⟩) (hc : PySem.W.codeIn K cdv qual = true) (S : FnScope N ps sc) (len : ∀ vs H Q E, sp vs H Q E → vs.length = ps.length)
    (hb : ∀ (A : Around) (out : List Env) (s : Shared) (H : Hp) (vs : List V) (Q : VK) (E : XK), Rm k (A.deeper (envOfC qual sc s.heap.objs.size f cdv)) → sp vs H Q E →
      ∃ t, PSs (cxOf CX P w K mg base N qual sc f cdv A out s H E) body t ∧ t { nx := fun _ H' => Q .non H', rt := Q } (start N vs) H) :
    GnOk P w K mg base CX (k + 1) f (PySem.W.fnOf nm qual pars body sc dV kV doc pm an cdv ct) ps sp := by
  constructor
  · exact len
  intro A out s H ar us vs Q E hr e0 hbd rv hs
  have lenv := len _ _ _ _ hs
  have inK : K.In s.heap := e0.mod.kin.keeps fun b o e => (e0.bs b o e).1
  have nolim : s.heap.NoLimit := e0.mod.nolimit.keeps fun b o e => (e0.bs b o e).1
  have kinds : ∀ y ∈ ps.zip us, sc.names.lookup y.1 = some .local ∨ (sc.names.lookup y.1 = some .cell ∧ ((cellsFrom (s.heap.objs.size + 1) sc.names []).lookup y.1).isSome = true) := by
    rintro ⟨n, v⟩ hy
    have hp := S.par n (List.of_mem_zip hy).1
    exact hp.imp id fun q => ⟨q, PySem.W.cellsFrom_some _ _ _ (.inl q)⟩
  refine codeAny_call_function hr.room.depth (inK _ _ lk) rfl S.co S.gen rfl (PySem.W.codeRec_of inK hc) (hbd _ _ _ _ (wpAny_newFunctionEnv_cells S.kind kinds ?_))
  rintro env rfl s1 x
  refine ⟨nolim.keeps x.toInCall.keep, codeAny_func ?_⟩
  obtain ⟨t, ht, hq⟩ := hb A out s H vs Q E (hr.deeper _) hs
  refine wpAny_mono (ht.run [] s1 (start N vs) H _ (inv_start S hr.room.hd e0 lenv rv x) hq) (fun fl s' z => ?_) fun e s' z => z
  have z' := body_end z
  cases fl <;> exact z'
/-- THE RULE for a def out of which nothing is raised -/
theorem gn_fun {x qual : Str} {st : Stmt} {f : Addr} {fd : FuncData} {N ps : List Str} {k : Nat} {sp : Sp} (F : Fun K x qual st f fd) (S : FnScope N ps (defScope st)) (len : ∀ vs H Q E, sp vs H Q E → vs.length = ps.length)
    (hb : ∀ (cdv : Value) (A : Around) (out : List Env) (s : Shared) (H : Hp) (vs : List V) (Q : VK) (E : XK), Rm k (A.deeper (envOfC qual (defScope st) s.heap.objs.size f cdv)) → sp vs H Q E →
      ∃ t, PSs (cxOf CX0 P w K mg base N qual (defScope st) f cdv A out s H E).nox (defBody st) t ∧ t { nx := fun _ H' => Q .non H', rt := Q } (start N vs) H) : GnOk P w K mg base CX0 (k + 1) f fd ps sp := by
  obtain ⟨oc, od, kV, doc, pm, an, cdv, ct, osl, rfl, lk, hc⟩ := F.ex
  refine gn_of lk hc S len fun A out s H vs Q E hr hs => ?_
  obtain ⟨t, h1, h2⟩ := hb cdv A out s H vs Q E hr hs
  exact ⟨t, h1.nox, h2⟩
/-- THE RULE for a def that may raise -/
theorem gn_funX {x qual : Str} {st : Stmt} {f : Addr} {fd : FuncData} {N ps : List Str} {k : Nat} {sp : Sp} (F : Fun K x qual st f fd) (S : FnScope N ps (defScope st)) (len : ∀ vs H Q E, sp vs H Q E → vs.length = ps.length)
    (hb : ∀ (cdv : Value) (A : Around) (out : List Env) (s : Shared) (H : Hp) (vs : List V) (Q : VK) (E : XK), Rm k (A.deeper (envOfC qual (defScope st) s.heap.objs.size f cdv)) → sp vs H Q E →
      ∃ t, PSs (cxOf (L2.CX P w) P w K mg base N qual (defScope st) f cdv A out s H E) (defBody st) t ∧ t { nx := fun _ H' => Q .non H', rt := Q } (start N vs) H) : GnOk P w K mg base (L2.CX P w) (k + 1) f fd ps sp := by
  obtain ⟨oc, od, kV, doc, pm, an, cdv, ct, osl, rfl, lk, hc⟩ := F.ex
  exact gn_of lk hc S len fun A out s H vs Q E hr hs => hb cdv A out s H vs Q E hr hs
end

/-! ### calls -/
section
variable {X : Cx} {CX : CXT} {k : Nat} {f C : Addr} {fd : FuncData} {ps : List Str} {sp : Sp} {E : XK} {pins : List (Addr × Obj)} {σ : L2.St} {H : Hp} {s : Shared} {Q : VK}
/-- the callee runs, its parameters bound to all -/
theorem gn_call {us : List Value} {kw : List (Str × Value)} {allU : List Value} {allV : List V} (F : GnOk X.prog X.w X.K X.mg X.base CX k f fd ps sp) (hr : Rm k X.A) (hb : BindsTo s fd ⟨us, kw⟩ (ps.zip allU)) (hx : Passes CX X E)
    (I : Inv X pins σ H s) (r : Vals allV allU) (h : sp allV H Q E) : wpAny (model X.prog X.w) X.A (call (.ref f) us kw) (EP X pins σ Q) X.xe s := by
  refine wpAny_call (codeAny_mono (F.run X.A X.stack s H ⟨us, kw⟩ allU allV Q E hr I.env0 hb r h) ?_)
  rintro (e | fl) s' hq
  · exact hx pins σ H s e s' I hq
  · cases fl with
    | ret u => exact I.after hq
    | next | brk | cont => exact hq.elim
/-- C(..): the instance and its dict are made, __init__ runs -/
theorem gn_make {us : List Value} {kw : List (Str × Value)} {allU : Addr → List Value} {allV : Addr → List V} (M : Mk X.K C f) (F : GnOk X.prog X.w X.K X.mg X.base CX k f fd ps sp) (hr : Rm (k + 1) X.A)
    (hb : ∀ (s' : Shared) (x : Addr), X.K.In s'.heap → BindsTo s' fd ⟨.ref x :: us, kw⟩ (ps.zip (allU x))) (hx : Passes CX X E)
    (I : Inv X pins σ H s) (r : ∀ x, Vals (allV x) (allU x)) (h : ∀ x dx, H x = none → H dx = none → dx ≠ x → sp (allV x) (upd (upd H dx (.own x)) x (.ins C dx [])) (fun v H2 => v = .non ∧ Q (.ref x) H2) E) :
    wpAny (model X.prog X.w) X.A (call (.ref C) us kw) (EP X pins σ Q) X.xe s := by
  have J := Inv.made (C := C) I
  have now := h (s.heap.objs.size + 1) s.heap.objs.size (I.hok.fresh (Nat.le_succ _)) (I.hok.fresh (Nat.le_refl _)) (Nat.ne_of_lt (Nat.lt_succ_self _))
  refine wpAny_call (make_map (f := f) I.kIn M.makes M.init (beq_iff_eq.mp M.fn) (codeAny_mono (F.run _ X.stack _ _ _ (allU (s.heap.objs.size + 1)) _ _ E (hr.make C us kw) (J.env0.make C us kw) (hb _ _ J.kIn) (r _) now) ?_))
  rintro (e | fl) s' hq
  · exact hx pins σ _ _ e s' J hq
  · cases fl with
    | ret u =>
      obtain ⟨v, H1, J1, rv, ev, q1⟩ := J.after hq
      subst ev
      exact ⟨rv, .ref (s.heap.objs.size + 1), H1, J1, rfl, q1⟩
    | next | brk | cont => exact hq.elim
end

/-! ### bundles: a def by its name; how it is bound -/
/-- n positional values and the keywords ks; gV puts the values in the parameters' order (defaults among them) -/
structure Cal (P : Program) (w : World) (K : PySem.W.Frag) (mg : Str → Option Value) (base : Heap) (CX : CXT) (x : Str) (k : Nat) (ps : List Str) (sp : Sp) : Prop where
  ex : ∃ (f : Addr) (fd : FuncData), GnOk P w K mg base CX k f fd ps sp ∧ mg x = some (.ref f) ∧ PySem.W.keepIn K (.ref f) = true ∧ Binds K fd ps []
structure CalK (P : Program) (w : World) (K : PySem.W.Frag) (mg : Str → Option Value) (base : Heap) (CX : CXT) (x : Str) (k : Nat) (ps : List Str) (n : Nat) (ks : List Str) (gV : List V → List V → List V) (sp : Sp) : Prop where
  ex : ∃ (f : Addr) (fd : FuncData) (g : List Value → List Value → List Value), GnOk P w K mg base CX k f fd ps sp ∧ mg x = some (.ref f) ∧ PySem.W.keepIn K (.ref f) = true ∧ KBn K fd ps n ks g gV
section
variable {X : Cx} {CX : CXT} {k n : Nat} {ps ks : List Str} {sp : Sp} {E : XK} {x : Str} {p pos : Pos} {e : Expr} {es : List Expr} {kws : List Keyword} {t tk : TA} {gV : List V → List V → List V}
theorem pe_cal (C : Cal X.prog X.w X.K X.mg X.base CX x k ps sp) (hr : Rm k X.A) (hg : Gl X x) (hx : Passes CX X E) (ha : PA X (e :: es) t) (hdb : (x == ("__debug__" : Str)) = false := by decide)
    (he : starEach (e :: es) X.env = (false, eval e X.env) :: starEach es X.env := by rfl) (hpl : (backTo pos (starEach es X.env)).any (·.1) = false := by rfl) :
    PE X (.Call (.Name x p) (e :: es) [] pos) (tCall sp [] E t) := by
  obtain ⟨f, fd, F, hm, hk, hb⟩ := C.ex
  constructor
  intro pins s σ H Q I h
  refine wpAny_Call_Name_kw (ld_glob I hg hm (PySem.W.callWith_K (h₀ := X.base) I.ok.mod.kin hk (thn (ha.run pos pins s σ H _ I h) ?_) he hpl) hdb)
  rintro us s1 ⟨vs, H1, I1, r, q⟩
  rw [List.append_nil] at q
  have hl := F.len _ _ _ _ q
  refine ⟨I1.kIn, gn_call F hr (?_ : BindsTo s1 fd ⟨us, []⟩ (ps.zip us)) hx I1 r q⟩
  have hb' := hb s1 us I1.kIn (by rw [List.append_nil, ← r.length]; exact hl)
  rwa [List.append_nil] at hb'
theorem pe_cal0 (C : Cal X.prog X.w X.K X.mg X.base CX x k ps sp) (hr : Rm k X.A) (hg : Gl X x) (hx : Passes CX X E) (hdb : (x == ("__debug__" : Str)) = false := by decide) :
    PE X (.Call (.Name x p) [] [] pos) (tCall sp [] E tNil) := by
  obtain ⟨f, fd, F, hm, hk, hb⟩ := C.ex
  constructor
  intro pins s σ H Q I h
  have hl := F.len _ _ _ _ (show sp ([] ++ []) H Q E from h)
  refine wpAny_Call_Name_kw (ld_glob I hg hm (PySem.W.callWith_K0 I.kIn hk (gn_call (us := []) (allU := []) F hr (hb s [] I.kIn hl) hx I .nil h)) hdb)
theorem pe_calk (C : CalK X.prog X.w X.K X.mg X.base CX x k ps n ks gV sp) (hr : Rm k X.A) (hg : Gl X x) (hx : Passes CX X E) (ha : PA X (e :: es) t) (hkw : PK X kws tk)
    (hall : (backToKw pos (keywordEach kws X.env)).all (·.1.isSome) = true := by rfl) (hks : (backToKw pos (keywordEach kws X.env)).filterMap (·.1) = ks := by rfl)
    (hdb : (x == ("__debug__" : Str)) = false := by decide) (he : starEach (e :: es) X.env = (false, eval e X.env) :: starEach es X.env := by rfl)
    (hpl : ((backTo pos (starEach (e :: es) X.env)).any (·.1) || (backToKw pos (keywordEach kws X.env)).any (·.1.isNone)) = false := by rfl) :
    PE X (.Call (.Name x p) (e :: es) kws pos) (tCallN n ks.length sp gV E t tk) := by
  obtain ⟨f, fd, g, F, hm, hk, hb⟩ := C.ex
  constructor
  intro pins s σ H Q I h
  refine wpAny_Call_Name_kw (ld_glob I hg hm (PySem.W.callWith_KW (h₀ := X.base) I.ok.mod.kin hk hall (thn (ha.run pos pins s σ H _ I h) ?_) hpl he) hdb)
  rintro us s1 ⟨vs, H1, I1, r, q⟩
  refine thn (hkw.run pos pins s1 σ H1 _ I1 q) ?_
  rintro ws s2 ⟨zs, H2, I2, rz, l1, l2, q2⟩
  rw [hks]
  exact ⟨I2.kIn, gn_call F hr (hb.to s2 us ws I2.kIn (r.length.symm.trans l1) (rz.length.symm.trans l2)) hx I2 (hb.rel r rz) q2⟩
theorem pe_calk0 (C : CalK X.prog X.w X.K X.mg X.base CX x k ps n ks gV sp) (hr : Rm k X.A) (hg : Gl X x) (hx : Passes CX X E) (hkw : PK X kws tk)
    (hall : (backToKw pos (keywordEach kws X.env)).all (·.1.isSome) = true := by rfl) (hks : (backToKw pos (keywordEach kws X.env)).filterMap (·.1) = ks := by rfl)
    (hdb : (x == ("__debug__" : Str)) = false := by decide)
    (hpl : ((backTo pos (starEach [] X.env)).any (·.1) || (backToKw pos (keywordEach kws X.env)).any (·.1.isNone)) = false := by rfl) :
    PE X (.Call (.Name x p) [] kws pos) (tCallN n ks.length sp gV E tNil tk) := by
  obtain ⟨f, fd, g, F, hm, hk, hb⟩ := C.ex
  constructor
  intro pins s σ H Q I h
  refine wpAny_Call_Name_kw (ld_glob I hg hm (PySem.W.callWith_KW0 (h₀ := X.base) I.ok.mod.kin hk hall (thn (hkw.run pos pins s σ H _ I h) ?_) hpl) hdb)
  rintro ws s2 ⟨zs, H2, I2, rz, l1, l2, q2⟩
  rw [hks]
  exact ⟨I2.kIn, gn_call (us := []) F hr (hb.to s2 [] ws I2.kIn l1 (rz.length.symm.trans l2)) hx I2 (hb.rel .nil rz) q2⟩
end
section
variable {P : Program} {w : World} {K : PySem.W.Frag} {mg : Str → Option Value} {base h : Heap} {CX : CXT} {x qual : Str} {k n : Nat} {ps ks : List Str} {sp : Sp} {st : Stmt} {f : Addr} {oc : Value} {od an : Option Addr} {osl : Array (Option Value)} {kV doc pm cdv ct : Value}
theorem cal_mk (KX : K.In h) (G : h.Ns mainGlobals mg) (a : PySem.W.nsIn K mainGlobals x = some (some (.ref f)))
    (l : K.lookup f = some ⟨oc, od, .func (PySem.W.fnOf x qual (defArgs st) (defBody st) (defScope st) .none kV doc pm an cdv ct), osl⟩) (c : PySem.W.codeIn K cdv qual = true) (kp : PySem.W.keepIn K (.ref f) = true)
    (hb : ∀ (kV doc pm : Value) (an : Option Addr) (cdv ct : Value) (us : List Value), us.length = ps.length → bindArgs (PySem.W.fnOf x qual (defArgs st) (defBody st) (defScope st) .none kV doc pm an cdv ct) ⟨us, []⟩ = pure (ps.zip us))
    (ok : ∀ {f : Addr} {fd : FuncData}, Fun K x qual st f fd → GnOk P w K mg base CX k f fd ps sp) : Cal P w K mg base CX x k ps sp :=
  have F := fun_mk (st := st) l c kp
  ⟨f, _, ok F, PySem.W.mg_of KX G a, kp, F.binds hb⟩
theorem calk_mk {g : List Value → List Value → List Value} {gV : List V → List V → List V} (KX : K.In h) (G : h.Ns mainGlobals mg) (a : PySem.W.nsIn K mainGlobals x = some (some (.ref f)))
    (l : K.lookup f = some ⟨oc, od, .func (PySem.W.fnOf x qual (defArgs st) (defBody st) (defScope st) .none kV doc pm an cdv ct), osl⟩) (c : PySem.W.codeIn K cdv qual = true) (kp : PySem.W.keepIn K (.ref f) = true)
    (hb : ∀ (kV doc pm : Value) (an : Option Addr) (cdv ct : Value) (us ws : List Value), us.length = n → ws.length = ks.length → bindArgs (PySem.W.fnOf x qual (defArgs st) (defBody st) (defScope st) .none kV doc pm an cdv ct) ⟨us, ks.zip ws⟩ = pure (ps.zip (g us ws)))
    (hrel : ∀ {vs : List V} {us : List Value} {zs : List V} {ws : List Value}, Vals vs us → Vals zs ws → Vals (gV vs zs) (g us ws))
    (ok : ∀ {f : Addr} {fd : FuncData}, Fun K x qual st f fd → GnOk P w K mg base CX k f fd ps sp) : CalK P w K mg base CX x k ps n ks gV sp :=
  have F := fun_mk (st := st) l c kp
  ⟨f, _, g, ok F, PySem.W.mg_of KX G a, kp, ⟨fun s us ws _ l1 l2 => BindsTo.of_eq (hb _ _ _ _ _ _ us ws l1 l2), hrel⟩⟩
end

/-! ### methods and makings by bundles -/
/-- a method of the class at C: n values behind the instance, the keywords ks -/
structure Mth (P : Program) (w : World) (K : PySem.W.Frag) (mg : Str → Option Value) (base : Heap) (CX : CXT) (C : Addr) (m : Str) (k : Nat) (ps : List Str) (sp : Sp) : Prop where
  ex : ∃ (f : Addr) (fd : FuncData), GnOk P w K mg base CX k f fd ps sp ∧ Meth K C m f ∧ Binds K fd ps []
structure MthK (P : Program) (w : World) (K : PySem.W.Frag) (mg : Str → Option Value) (base : Heap) (CX : CXT) (C : Addr) (m : Str) (k : Nat) (ps : List Str) (n : Nat) (ks : List Str) (gV : List V → List V → List V) (sp : Sp) : Prop where
  ex : ∃ (f : Addr) (fd : FuncData) (g : List Value → List Value → List Value), GnOk P w K mg base CX k f fd ps sp ∧ Meth K C m f ∧ KBn K fd ps (n + 1) ks g gV
/-- the class's __init__ -/
structure Mkr (P : Program) (w : World) (K : PySem.W.Frag) (mg : Str → Option Value) (base : Heap) (CX : CXT) (C : Addr) (k : Nat) (ps : List Str) (sp : Sp) : Prop where
  ex : ∃ (f : Addr) (fd : FuncData), GnOk P w K mg base CX k f fd ps sp ∧ Mk K C f ∧ Binds K fd ps []
structure MkrK (P : Program) (w : World) (K : PySem.W.Frag) (mg : Str → Option Value) (base : Heap) (CX : CXT) (C : Addr) (k : Nat) (ps : List Str) (n : Nat) (ks : List Str) (gV : List V → List V → List V) (sp : Sp) : Prop where
  ex : ∃ (f : Addr) (fd : FuncData) (g : List Value → List Value → List Value), GnOk P w K mg base CX k f fd ps sp ∧ Mk K C f ∧ KBn K fd ps (n + 1) ks g gV
/-- o.m(.., k = v, ..) -/
def tMthN (C : Addr) (m : Str) (n j : Nat) (sp : Sp) (gV : List V → List V → List V) (E : XK) (ta : TE) (t tk : TA) : TE := fun σ H Q => ta σ H fun x H1 => ∃ a dx fs, x = .ref a ∧ H1 a = some (.ins C dx fs) ∧ fs.lookup m = none ∧
  t σ H1 fun vs H2 => tk σ H2 fun zs H3 => vs.length = n ∧ zs.length = j ∧ sp (gV (x :: vs) zs) H3 Q E
/-- C(.., k = v, ..) -/
def tMkN (C : Addr) (n j : Nat) (sp : Sp) (gV : List V → List V → List V) (E : XK) (t tk : TA) : TE := fun σ H Q => t σ H fun vs H1 => tk σ H1 fun zs H2 => vs.length = n ∧ zs.length = j ∧ ∀ x dx, H2 x = none → H2 dx = none → dx ≠ x →
  sp (gV (.ref x :: vs) zs) (upd (upd H2 dx (.own x)) x (.ins C dx [])) (fun v H3 => v = .non ∧ Q (.ref x) H3) E
section
variable {X : Cx} {CX : CXT} {k n : Nat} {C : Addr} {m x : Str} {ps ks : List Str} {sp : Sp} {E : XK} {p pos apos : Pos} {o e : Expr} {es : List Expr} {kws : List Keyword} {ta : TE} {t tk : TA} {gV : List V → List V → List V} {pl : Sem Bool}
theorem pe_mth (M : Mth X.prog X.w X.K X.mg X.base CX C m k ps sp) (c : Cls X.K C) (hr : Rm k X.A) (hx : Passes CX X E) (ho : PE X o ta) (ha : PA X (e :: es) t)
    (hst : starEach (e :: es) X.env = (false, eval e X.env) :: starEach es X.env := by rfl) (hpl : (backTo pos (starEach es X.env)).any (·.1) = false := by rfl)
    (he : eval (.Call (.Attribute o m apos) (e :: es) [] pos) X.env = (do let ov ← eval o X.env; standAt apos.atName; let (f, first) ← holding [ov] (getMethod ov m pl); callWith pos f first (backTo pos (starEach (e :: es) X.env)) (backToKw pos (keywordEach [] X.env))) := by rfl) :
    PE X (.Call (.Attribute o m apos) (e :: es) [] pos) (tMeth C m sp [] E ta t) := by
  obtain ⟨f, fd, F, hm, hb⟩ := M.ex
  constructor
  intro pins s σ H Q I h
  refine PySem.W.methodCall_KW (pl := pl) (thn (ho.run pins s σ H _ I h) ?_) he
  rintro u s1 ⟨y, H1, I1, ry, a, dx, fs, rfl, ea, lk, q⟩
  obtain rfl : u = Value.ref a := ry
  refine getmeth_ok I1 ea c hm lk (PySem.W.callWith_K (first := [.ref a]) (h₀ := X.base) I.ok.mod.kin hm.kp (thn (ha.run pos pins s1 σ H1 _ I1 q) ?_) hst hpl)
  rintro us s2 ⟨vs, H2, I2, r, q2⟩
  rw [List.append_nil] at q2
  have r2 : Vals (V.ref a :: vs) (Value.ref a :: us) := .cons (show L2.RelV (V.ref a) (Value.ref a) from rfl) r
  have hl := F.len _ _ _ _ q2
  have hb' := hb s2 (Value.ref a :: us) I2.kIn (by rw [List.append_nil, ← r2.length]; exact hl)
  rw [List.append_nil] at hb'
  exact ⟨I2.kIn, gn_call F hr hb' hx I2 r2 q2⟩
theorem pe_mth0 (M : Mth X.prog X.w X.K X.mg X.base CX C m k ps sp) (c : Cls X.K C) (hr : Rm k X.A) (hx : Passes CX X E) (ho : PE X o ta)
    (he : eval (.Call (.Attribute o m apos) [] [] pos) X.env = (do let ov ← eval o X.env; standAt apos.atName; let (f, first) ← holding [ov] (getMethod ov m pl); callWith pos f first (backTo pos (starEach [] X.env)) (backToKw pos (keywordEach [] X.env))) := by rfl) :
    PE X (.Call (.Attribute o m apos) [] [] pos) (tMeth C m sp [] E ta tNil) := by
  obtain ⟨f, fd, F, hm, hb⟩ := M.ex
  constructor
  intro pins s σ H Q I h
  refine PySem.W.methodCall_KW (pl := pl) (thn (ho.run pins s σ H _ I h) ?_) he
  rintro u s1 ⟨y, H1, I1, ry, a, dx, fs, rfl, ea, lk, q⟩
  obtain rfl : u = Value.ref a := ry
  refine getmeth_ok I1 ea c hm lk ?_
  have q2 : sp [V.ref a] H1 Q E := q
  have r2 : Vals [V.ref a] [Value.ref a] := .cons (show L2.RelV (V.ref a) (Value.ref a) from rfl) .nil
  have hl := F.len _ _ _ _ q2
  have hb' := hb s1 [Value.ref a] I1.kIn (by rw [List.append_nil]; exact hl)
  rw [List.append_nil] at hb'
  exact PySem.W.callWith_K0 (first := [.ref a]) I1.kIn hm.kp (gn_call (us := [.ref a]) F hr hb' hx I1 r2 q2)
theorem pe_mthk (M : MthK X.prog X.w X.K X.mg X.base CX C m k ps n ks gV sp) (c : Cls X.K C) (hr : Rm k X.A) (hx : Passes CX X E) (ho : PE X o ta) (ha : PA X (e :: es) t) (hkw : PK X kws tk)
    (hall : (backToKw pos (keywordEach kws X.env)).all (·.1.isSome) = true := by rfl) (hks : (backToKw pos (keywordEach kws X.env)).filterMap (·.1) = ks := by rfl)
    (hst : starEach (e :: es) X.env = (false, eval e X.env) :: starEach es X.env := by rfl) (hpl : ((backTo pos (starEach (e :: es) X.env)).any (·.1) || (backToKw pos (keywordEach kws X.env)).any (·.1.isNone)) = false := by rfl)
    (he : eval (.Call (.Attribute o m apos) (e :: es) kws pos) X.env = (do let ov ← eval o X.env; standAt apos.atName; let (f, first) ← holding [ov] (getMethod ov m pl); callWith pos f first (backTo pos (starEach (e :: es) X.env)) (backToKw pos (keywordEach kws X.env))) := by rfl) :
    PE X (.Call (.Attribute o m apos) (e :: es) kws pos) (tMthN C m n ks.length sp gV E ta t tk) := by
  obtain ⟨f, fd, g, F, hm, hb⟩ := M.ex
  constructor
  intro pins s σ H Q I h
  refine PySem.W.methodCall_KW (pl := pl) (thn (ho.run pins s σ H _ I h) ?_) he
  rintro u s1 ⟨y, H1, I1, ry, a, dx, fs, rfl, ea, lk, q⟩
  obtain rfl : u = Value.ref a := ry
  refine getmeth_ok I1 ea c hm lk (PySem.W.callWith_KW (first := [.ref a]) (h₀ := X.base) I.ok.mod.kin hm.kp hall (thn (ha.run pos pins s1 σ H1 _ I1 q) ?_) hpl hst)
  rintro us s2 ⟨vs, H2, I2, r, q2⟩
  refine thn (hkw.run pos pins s2 σ H2 _ I2 q2) ?_
  rintro ws s3 ⟨zs, H3, I3, rz, l1, l2, q3⟩
  rw [hks]
  have r2 : Vals (V.ref a :: vs) (Value.ref a :: us) := .cons (show L2.RelV (V.ref a) (Value.ref a) from rfl) r
  exact ⟨I3.kIn, gn_call F hr (hb.to s3 (Value.ref a :: us) ws I3.kIn (by rw [← r2.length, List.length_cons, l1]) (rz.length.symm.trans l2)) hx I3 (hb.rel r2 rz) q3⟩
theorem pe_mthk0 (M : MthK X.prog X.w X.K X.mg X.base CX C m k ps n ks gV sp) (c : Cls X.K C) (hr : Rm k X.A) (hx : Passes CX X E) (ho : PE X o ta) (hkw : PK X kws tk)
    (hall : (backToKw pos (keywordEach kws X.env)).all (·.1.isSome) = true := by rfl) (hks : (backToKw pos (keywordEach kws X.env)).filterMap (·.1) = ks := by rfl)
    (hpl : ((backTo pos (starEach [] X.env)).any (·.1) || (backToKw pos (keywordEach kws X.env)).any (·.1.isNone)) = false := by rfl)
    (he : eval (.Call (.Attribute o m apos) [] kws pos) X.env = (do let ov ← eval o X.env; standAt apos.atName; let (f, first) ← holding [ov] (getMethod ov m pl); callWith pos f first (backTo pos (starEach [] X.env)) (backToKw pos (keywordEach kws X.env))) := by rfl) :
    PE X (.Call (.Attribute o m apos) [] kws pos) (tMthN C m n ks.length sp gV E ta tNil tk) := by
  obtain ⟨f, fd, g, F, hm, hb⟩ := M.ex
  constructor
  intro pins s σ H Q I h
  refine PySem.W.methodCall_KW (pl := pl) (thn (ho.run pins s σ H _ I h) ?_) he
  rintro u s1 ⟨y, H1, I1, ry, a, dx, fs, rfl, ea, lk, q⟩
  obtain rfl : u = Value.ref a := ry
  refine getmeth_ok I1 ea c hm lk (PySem.W.callWith_KW0 (first := [.ref a]) (h₀ := X.base) I.ok.mod.kin hm.kp hall (thn (hkw.run pos pins s1 σ H1 _ I1 q) ?_) hpl)
  rintro ws s3 ⟨zs, H3, I3, rz, l1, l2, q3⟩
  rw [hks]
  have r2 : Vals [V.ref a] [Value.ref a] := .cons (show L2.RelV (V.ref a) (Value.ref a) from rfl) .nil
  exact ⟨I3.kIn, gn_call (us := [.ref a]) F hr (hb.to s3 [Value.ref a] ws I3.kIn (by show 0 + 1 = n + 1; rw [← l1]; rfl) (rz.length.symm.trans l2)) hx I3 (hb.rel r2 rz) q3⟩
theorem pe_mk (M : Mkr X.prog X.w X.K X.mg X.base CX C k ps sp) (hr : Rm (k + 1) X.A) (hg : Gl X x) (hm : X.mg x = some (.ref C)) (hx : Passes CX X E) (ha : PA X (e :: es) t) (hdb : (x == ("__debug__" : Str)) = false := by decide)
    (he : starEach (e :: es) X.env = (false, eval e X.env) :: starEach es X.env := by rfl) (hpl : (backTo pos (starEach es X.env)).any (·.1) = false := by rfl) : PE X (.Call (.Name x p) (e :: es) [] pos) (tMake C sp [] E t) := by
  obtain ⟨f, fd, F, M, hb⟩ := M.ex
  constructor
  intro pins s σ H Q I h
  refine wpAny_Call_Name_kw (ld_glob I hg hm (PySem.W.callWith_K (h₀ := X.base) I.ok.mod.kin M.kp (thn (ha.run pos pins s σ H _ I h) ?_) he hpl) hdb)
  rintro us s1 ⟨vs, H1, I1, r, q⟩
  rw [List.append_nil] at q
  have hl := F.len _ _ _ _ (q (s1.heap.objs.size + 1) s1.heap.objs.size (I1.hok.fresh (Nat.le_succ _)) (I1.hok.fresh (Nat.le_refl _)) (Nat.ne_of_lt (Nat.lt_succ_self _)))
  refine ⟨I1.kIn, gn_make (allU := fun y => .ref y :: us) (allV := fun y => .ref y :: vs) M F hr (fun s' y hK => ?_) hx I1 (fun y => .cons (show L2.RelV (V.ref y) (Value.ref y) from rfl) r) q⟩
  have hb' := hb s' (Value.ref y :: us) hK (by rw [List.append_nil, List.length_cons, ← r.length]; exact hl)
  rwa [List.append_nil] at hb'
theorem pe_mkk (M : MkrK X.prog X.w X.K X.mg X.base CX C k ps n ks gV sp) (hr : Rm (k + 1) X.A) (hg : Gl X x) (hm : X.mg x = some (.ref C)) (hx : Passes CX X E) (ha : PA X (e :: es) t) (hkw : PK X kws tk)
    (hall : (backToKw pos (keywordEach kws X.env)).all (·.1.isSome) = true := by rfl) (hks : (backToKw pos (keywordEach kws X.env)).filterMap (·.1) = ks := by rfl)
    (hdb : (x == ("__debug__" : Str)) = false := by decide) (he : starEach (e :: es) X.env = (false, eval e X.env) :: starEach es X.env := by rfl)
    (hpl : ((backTo pos (starEach (e :: es) X.env)).any (·.1) || (backToKw pos (keywordEach kws X.env)).any (·.1.isNone)) = false := by rfl) :
    PE X (.Call (.Name x p) (e :: es) kws pos) (tMkN C n ks.length sp gV E t tk) := by
  obtain ⟨f, fd, g, F, M, hb⟩ := M.ex
  constructor
  intro pins s σ H Q I h
  refine wpAny_Call_Name_kw (ld_glob I hg hm (PySem.W.callWith_KW (h₀ := X.base) I.ok.mod.kin M.kp hall (thn (ha.run pos pins s σ H _ I h) ?_) hpl he) hdb)
  rintro us s1 ⟨vs, H1, I1, r, q⟩
  refine thn (hkw.run pos pins s1 σ H1 _ I1 q) ?_
  rintro ws s2 ⟨zs, H2, I2, rz, l1, l2, q2⟩
  rw [hks]
  have r2 : ∀ y, Vals (V.ref y :: vs) (Value.ref y :: us) := fun y => .cons (show L2.RelV (V.ref y) (Value.ref y) from rfl) r
  exact ⟨I2.kIn, gn_make (allU := fun y => g (.ref y :: us) ws) (allV := fun y => gV (.ref y :: vs) zs) M F hr (fun s' y hK => hb.to s' (.ref y :: us) ws hK (by rw [← (r2 y).length, List.length_cons, l1]) (rz.length.symm.trans l2)) hx I2 (fun y => hb.rel (r2 y) rz) q2⟩
theorem pe_mkk0 (M : MkrK X.prog X.w X.K X.mg X.base CX C k ps n ks gV sp) (hr : Rm (k + 1) X.A) (hg : Gl X x) (hm : X.mg x = some (.ref C)) (hx : Passes CX X E) (hkw : PK X kws tk)
    (hall : (backToKw pos (keywordEach kws X.env)).all (·.1.isSome) = true := by rfl) (hks : (backToKw pos (keywordEach kws X.env)).filterMap (·.1) = ks := by rfl) (hdb : (x == ("__debug__" : Str)) = false := by decide)
    (hpl : ((backTo pos (starEach [] X.env)).any (·.1) || (backToKw pos (keywordEach kws X.env)).any (·.1.isNone)) = false := by rfl) :
    PE X (.Call (.Name x p) [] kws pos) (tMkN C n ks.length sp gV E tNil tk) := by
  obtain ⟨f, fd, g, F, M, hb⟩ := M.ex
  constructor
  intro pins s σ H Q I h
  refine wpAny_Call_Name_kw (ld_glob I hg hm (PySem.W.callWith_KW0 (h₀ := X.base) I.ok.mod.kin M.kp hall (thn (hkw.run pos pins s σ H _ I h) ?_) hpl) hdb)
  rintro ws s2 ⟨zs, H2, I2, rz, l1, l2, q2⟩
  rw [hks]
  have r2 : ∀ y, Vals [V.ref y] [Value.ref y] := fun y => .cons (show L2.RelV (V.ref y) (Value.ref y) from rfl) .nil
  exact ⟨I2.kIn, gn_make (us := []) (allU := fun y => g [.ref y] ws) (allV := fun y => gV [.ref y] zs) M F hr (fun s' y hK => hb.to s' [.ref y] ws hK (by show 0 + 1 = n + 1; rw [← l1]; rfl) (rz.length.symm.trans l2)) hx I2 (fun y => hb.rel (r2 y) rz) q2⟩
theorem pe_mk0 (M : Mkr X.prog X.w X.K X.mg X.base CX C k ps sp) (hr : Rm (k + 1) X.A) (hg : Gl X x) (hm : X.mg x = some (.ref C)) (hx : Passes CX X E) (hdb : (x == ("__debug__" : Str)) = false := by decide) : PE X (.Call (.Name x p) [] [] pos) (tMake C sp [] E tNil) := by
  obtain ⟨f, fd, F, M, hb⟩ := M.ex
  constructor
  intro pins s σ H Q I h
  have hl := F.len _ _ _ _ (h (s.heap.objs.size + 1) s.heap.objs.size (I.hok.fresh (Nat.le_succ _)) (I.hok.fresh (Nat.le_refl _)) (Nat.ne_of_lt (Nat.lt_succ_self _)))
  refine wpAny_Call_Name_kw (ld_glob I hg hm (PySem.W.callWith_K0 I.kIn M.kp (gn_make (us := []) (allU := fun y => [.ref y]) (allV := fun y => [.ref y]) M F hr (fun s' y hK => ?_) hx I (fun y => .cons (show L2.RelV (V.ref y) (Value.ref y) from rfl) .nil) h)) hdb)
  have hb' := hb s' [Value.ref y] hK hl
  rwa [List.append_nil] at hb'
end

/-! ### the law's own call -/
theorem gn_law {P : Program} {w : World} {K : PySem.W.Frag} {mg mb : Str → Option Value} {CX : CXT} {k : Nat} {fa a : Addr} {fd : FuncData} {x : Str} {sp : Sp} {t : Shared} {vs : List Value} {ns : List Int}
    (inK : K.In t.heap) (gl : t.heap.Ns mainGlobals mg) (bl : t.heap.Ns builtinsNs mb) (bb : ∀ y : Str, y ≠ "__name__" → mb y = bootBuiltins y) (nolim : t.heap.NoLimit) (gens : t.gens = #[])
    (ha : t.heap.get? a = some { cls := .type "list", data := .seq vs.toArray }) (hin : IntsAre vs ns) (small : ns.length ≤ sizeLine) (hr : Room k callerA)
    (F : ∀ base : Heap, K.In base → base.Ns mainGlobals mg → GnOk P w K mg base CX k fa fd [x] sp) (bd : ∀ (s : Shared) (u : Value), BindsTo s fd ⟨[u], []⟩ [(x, u)])
    (hsp : ∀ H : Hp, SqL K H a (ns.map V.int) → sp [.ref a] H (fun v _ => v = .bl true) fun _ _ _ => False) (hx : ∀ H e s', CX [] H t (fun _ _ _ => False) e s' → False) :
    codeAny (model P w) callerA (.call (.ref fa) ⟨[.ref a], []⟩) (fun r s' => r = .ok (.ret (.bool true)) ∧ OldK t.heap s'.heap ∧ s'.os = t.os ∧ AllBare s'.gens) t := by
  have rel := vals_ints hin
  have same := hin.length
  -- the abstract heap: the script alone, where the top doesn't know it
  obtain ⟨H, hS, ok, only, apart⟩ : ∃ H : Hp, SqL K H a (ns.map V.int) ∧ HOk P w H t.heap ∧ (∀ b u, H b = some u → b = a ∧ ∃ o, u = .frz o (.lst (ns.map V.int))) ∧ (∀ u, H a = some u → K.lookup a = none) := by
    cases q : K.lookup a with
    | some o =>
      have e := inK a o q
      rw [ha] at e
      cases e
      exact ⟨fun _ => none, .inr ⟨_, vs.toArray, _, q, rfl, rfl, rfl, by rw [List.size_toArray, same]; exact small, by simpa using rel⟩, (fun b u z => by cases (show (none : Option HO) = some u from z)), (fun b u z => by cases (show (none : Option HO) = some u from z)), fun u z => by cases (show (none : Option HO) = some u from z)⟩
    | none =>
      refine ⟨upd (fun _ => none) a (.frz { cls := .type "list", data := .seq vs.toArray } (.lst (ns.map V.int))), .inl (.inr ⟨_, upd_same⟩), fun b u z => ?_, fun b u z => ?_, fun _ _ => rfl⟩
      · by_cases hb : b = a
        · subst hb
          rw [upd_same] at z
          cases z
          exact ⟨ha, by rw [List.length_map]; exact small, vs, _, rel, ha⟩
        · rw [upd_ne hb] at z
          cases z
      · by_cases hb : b = a
        · subst hb
          rw [upd_same] at z
          cases z
          exact ⟨rfl, _, rfl⟩
        · rw [upd_ne hb] at z
          cases z
  have dictNo : ∀ {b : Addr} {o : Obj} {es : Array DictEntry} {ep : Nat}, t.heap.get? b = some o → o.data = .dict es ep → H b = none := by
    intro b o es ep e d
    cases z : H b with
    | none => rfl
    | some u =>
      obtain ⟨rfl, _⟩ := only b u z
      rw [ha] at e
      cases e
      exact nomatch (show Data.seq vs.toArray _ = Data.dict es ep from d)
  have nsH : ∀ {b : Addr} {m : Str → Option Value}, t.heap.Ns b m → (hidT t.heap H).Ns b m := by
    rintro b m ⟨o, es, ep, e, d, r⟩
    exact ⟨o, es, ep, hidT_get e (dictNo e d), d, r⟩
  have inH : K.In (hidT t.heap H) := by
    intro b o e
    refine hidT_get (inK b o e) ?_
    cases z : H b with
    | none => rfl
    | some u =>
      obtain ⟨rfl, _⟩ := only b u z
      rw [apart u z] at e
      cases e
  obtain ⟨mc, c1, c2⟩ := nolim
  have md : Mod K mg (hidT t.heap H) := ⟨inH, nsH gl, ⟨mb, nsH bl, bb⟩, ⟨mc, nsH c1, c2⟩⟩
  have e0 : Env0 P w K mg (hidT t.heap H) callerA [] t H := ⟨rfl, md, fun b o e => of_hidT e, Nat.le_of_eq (hidT_size _ _), trivial, fun b hb => (List.not_mem_nil (show b ∈ ([] : List Addr) from hb)).elim, ok, .of_eq gens⟩
  refine codeAny_mono ((F _ inH (nsH gl)).run callerA [] t H ⟨[.ref a], []⟩ [.ref a] [.ref a] _ _ ⟨hr, rfl⟩ e0 (bd t (.ref a)) (.cons rfl .nil) (hsp H hS)) ?_
  rintro (e | fl) s' h
  · exact (hx H e s' h).elim
  · cases fl with
    | next | brk | cont => exact h.elim
    | ret u =>
      obtain ⟨v, H1, os, bare, un, ok1, r1, q⟩ := h
      obtain rfl : v = .bl true := q
      obtain rfl : u = Value.bool true := r1
      refine ⟨rfl, OldK.of_keep fun b o e => ?_, os, bare⟩
      cases z : H b with
      | none => exact un.keep b o e z (List.not_mem_nil (a := b)) (List.not_mem_nil (a := b))
      | some u =>
        obtain ⟨rfl, ob, rfl⟩ := only b u z
        have e1 := (ok b _ z).1
        have e2 := (ok1 b _ (un.frzs b ob _ z)).1
        rw [e] at e1
        cases e1
        exact e2
theorem gn_walk {l : PySem.W.OpenLaw} {n k : Nat} {q : Program} {loose : List Str} {XP : (Str → Option Value) → Heap → Prop} {YP : World → Heap → Prop} {d : DefRec} {K : Params → PySem.W.Frag} {CX : World → CXT} {sp : PySem.W.Frag → Sp} {x : Str}
    (hn : l.most = some n) (hn2 : n ≤ sizeLine) (hdf : d.params.defaults = []) (hr : Room k callerA) (hY : ∀ (w : World) (h : Heap), YP w h → (K w.params).In h)
    (F : ∀ (w : World) (mg : Str → Option Value) (fa : Addr) (h : Heap), (K w.params).In h → h.Ns mainGlobals mg → mg d.name = some (.ref fa) →
      ∃ fd : FuncData, (∀ (s : Shared) (u : Value), BindsTo s fd ⟨[u], []⟩ [(x, u)]) ∧ ∀ base : Heap, (K w.params).In base → base.Ns mainGlobals mg → GnOk l.prog w (K w.params) mg base (CX w) k fa fd [x] (sp (K w.params)))
    (hsp : ∀ (w : World) (H : Hp) (a : Addr) (ns : List Int), ns.length ≤ n → SqL (K w.params) H a (ns.map V.int) → sp (K w.params) [.ref a] H (fun v _ => v = .bl true) fun _ _ _ => False)
    (hx : ∀ (w : World) (H : Hp) (s : Shared) (e : Value) (s' : Shared), CX w [] H s (fun _ _ _ => False) e s' → False) : PySem.W.WalkO q loose XP YP l.row.toRowW d [] (fun f vs => PySem.call f vs) := by
  refine Att.attach_call hn hdf ?_
  intro w s₀ t mg mb fa o pm cd doc a vs ns G Y _ _ _ hmg hobj hints hlen hg
  obtain ⟨fd, hb, hF⟩ := F w mg fa _ (hY w _ Y) G.T.g hmg
  exact gn_law (hY w _ Y) G.T.g G.T.b G.T.builtins G.T.nolimit hg hobj hints (Nat.le_trans hlen hn2) hr hF hb (fun H hS => hsp w H a ns hlen hS) fun H e s' => hx w H t e s'
end Cl

/-! ### Cl0: words used by all laws: built-ins, calls of own defs by one bundle, heaps that grow, drawing from a pot -/
namespace Cl
open PySem L2

/-- the built-ins that the top leaves as they are -/
structure Bt (mg : Str → Option Value) : Prop where
  len : mg "len" = none
  max : mg "max" = none
  min : mg "min" = none
  abs : mg "abs" = none
  divmod : mg "divmod" = none
  range : mg "range" = none
  ord : mg "ord" = none
  isinstance : mg "isinstance" = none
  int : mg "int" = none
  str : mg "str" = none
  bool : mg "bool" = none
  list : mg "list" = none
  tuple : mg "tuple" = none
  dict : mg "dict" = none
  set : mg "set" = none
  all : mg "all" = none
  any : mg "any" = none
  sorted : mg "sorted" = none
  enumerate : mg "enumerate" = none
  zip : mg "zip" = none
  repr : mg "repr" = none
  sum : mg "sum" = none

theorem vget {xs : List V} {us : List Value} (h : Vals xs us) (i : Nat) : RelV (xs.getD i V.non) (us.getD i Value.none) := by
  rw [List.getD_eq_getElem?_getD, List.getD_eq_getElem?_getD]
  cases e : xs[i]? with
  | some x =>
    obtain ⟨u, h1, h2⟩ := h.get e
    rw [h1]
    exact h2
  | none =>
    rw [h.none_of e]
    exact (rfl : Value.none = Value.none)
/-! ### the attributes of an instance, written out -/
theorem lk0 {f : Str} {v : V} {r : List (Str × V)} : ((f, v) :: r).lookup f = some v := by
  rw [List.lookup_cons, beq_self_eq_true]
theorem lkS {f g : Str} {u : V} {r : List (Str × V)} {o : Option V} (h : decide (g = f) = false) (k : r.lookup g = o) : ((f, u) :: r).lookup g = o := by
  rw [List.lookup_cons, show (g == f) = false from h]
  exact k
theorem lk_no {m : Str} : ∀ {r : List (Str × V)}, (r.map (·.1)).all (fun f => !decide (m = f)) = true → r.lookup m = none
  | [], _ => rfl
  | (f, v) :: r, h => by
    rw [List.map_cons, List.all_cons, Bool.and_eq_true, Bool.not_eq_true'] at h
    exact lkS h.1 (lk_no h.2)
theorem put0 {f : Str} {u v : V} {r : List (Str × V)} : putF f v ((f, u) :: r) = (f, v) :: r := by
  show (if f = f then _ else _) = _
  rw [if_pos rfl]
theorem putS {f g : Str} {u v : V} {r q : List (Str × V)} (h : decide (f = g) = false) (k : putF g v r = q) : putF g v ((f, u) :: r) = (f, u) :: q := by
  show (if f = g then _ else _) = _
  rw [if_neg (of_decide_eq_false h), k]
theorem fewS {f : Str} {v : V} {n : Nat} : ∀ {r : List (Str × V)}, r.length < n → (putF f v r).length < n + 1
  | [], h => Nat.succ_lt_succ h
  | (g, u) :: r, h => by
    show (if g = f then (g, v) :: r else (g, u) :: putF f v r).length < n + 1
    split
    · exact Nat.lt_succ_of_lt h
    · rw [List.length_cons] at h ⊢
      exact Nat.succ_lt_succ (by
        cases n with
        | zero => cases h
        | succ n => exact fewS (Nat.lt_of_succ_lt_succ h))
/-- an own class as the top has made it -/
structure CF (K : PySem.W.Frag) (mg : Str → Option Value) (x : Str) (C : Addr) (fs : List Str) : Prop where
  cl : Cls K C
  mgC : mg x = some (.ref C)
  no : ∀ f ∈ fs, NoAttr K C f
  ic : PySem.W.findIn K (.ref C) "__class__" = some (some (.builtin "object.__class__"))
  ig : PySem.W.specialIn K (.builtin "object.__class__") "__get__" = some (some (.builtin "getset_descriptor.__get__"))
  it : PySem.W.takesIn K (.builtin "object.__class__") = some true
  im : PySem.W.mroIn K C (.type "object") = some true
theorem CF.ty {K : PySem.W.Frag} {mg : Str → Option Value} {x : Str} {C a dx : Addr} {fs : List Str} {gs : List (Str × V)} {H : Hp} (T : CF K mg x C fs) (h : H a = some (.ins C dx gs)) : TyX K H (.ref a) (.ref C) := .base (.ins h T.cl T.ic T.ig T.it T.im)
theorem kit_self {K : PySem.W.Frag} (C : Addr) : PySem.W.kitOne K (.ref C) (.ref C) = some true := by
  unfold PySem.W.kitOne
  rw [if_pos (by simp)]
theorem all_cons {α : Type} {P : α → Prop} {a : α} {l : List α} (h : P a) (r : ∀ x ∈ l, P x) : ∀ x ∈ a :: l, P x := fun x hx => by
  rcases List.mem_cons.mp hx with rfl | hx
  · exact h
  · exact r x hx

/-- all but the object at p stays -/
def SameBut (p : Addr) (H H' : Hp) : Prop := ∀ b o, H b = some o → b ≠ p → H' b = some o
theorem SameBut.of {p : Addr} {H H' : Hp} (h : Same H H') : SameBut p H H' := fun b o e _ => h b o e
theorem Same.new {H : Hp} {p : Addr} {o : HO} (h : H p = none) : Same H (upd H p o) := fun b u e => by
  rw [upd_ne (ne_of_none e h)]; exact e
theorem SameBut.upd {p : Addr} {H H' : Hp} {o : HO} (h : SameBut p H H') : SameBut p H (L2.upd H' p o) := fun b u e n => by
  rw [upd_ne n]; exact h b u e n
theorem SameBut.refl (p : Addr) (H : Hp) : SameBut p H H := fun _ _ e _ => e
theorem SameBut.trans {p : Addr} {H H1 H2 : Hp} (a : SameBut p H H1) (b : SameBut p H1 H2) : SameBut p H H2 := fun c o e n => b c o (a c o e n) n
theorem SameBut.same {p : Addr} {H H1 H2 : Hp} (a : SameBut p H H1) (b : Same H1 H2) : SameBut p H H2 := fun c o e n => b c o (a c o e n)
theorem SameBut.at {p : Addr} {H H' : Hp} (a : SameBut p H H') {b : Addr} {o : HO} (e : H b = some o) (n : b ≠ p) : H' b = some o := a b o e n
theorem SameBut.free {p : Addr} {H H' : Hp} (a : SameBut p H H') {q : Addr} (h : H' q = none) (n : q ≠ p) : H q = none := by
  cases e : H q with
  | none => rfl
  | some o => rw [a q o e n] at h; cases h
/-- q is new behind H: what then changes it, changes nothing of H -/
theorem SameBut.newer {p q : Addr} {H H1 : Hp} {o : HO} (a : SameBut p H H1) (h : H q = none) : SameBut p H (L2.upd H1 q o) := fun c u e n => by
  rw [upd_ne (ne_of_none e h)]; exact a c u e n
theorem Same.newer {q : Addr} {H H1 : Hp} {o : HO} (a : Same H H1) (h : H q = none) : Same H (L2.upd H1 q o) := fun c u e => by
  rw [upd_ne (ne_of_none e h)]; exact a c u e

/-! ### a list, a tuple, read -/
theorem SameBut.seq {K : PySem.W.Frag} {p : Addr} {H H' : Hp} {a : Addr} {xs : List V} (e : SameBut p H H') (h : SqL K H a xs) (n : a ≠ p) : SqL K H' a xs := by
  rcases h with (h | ⟨o, h⟩) | h
  · exact .inl (.inl (e _ _ h n))
  · exact .inl (.inr ⟨o, e _ _ h n⟩)
  · exact .inr h
/-- p is newer than H -/
theorem Same.but {p : Addr} {H H1 H2 : Hp} (s : Same H H1) (b : SameBut p H1 H2) (n : H p = none) : Same H H2 := fun c o e => b c o (s c o e) (ne_of_none e n)

theorem iteF' {b : Bool} {A B : Prop} (e : b = false) (h : B) : if b = true then A else B := by
  rw [e]
  exact iteF h
theorem iteT' {b : Bool} {A B : Prop} (e : b = true) (h : A) : if b = true then A else B := by
  rw [e]
  exact iteT h
/-! ### rules over a written part that is named -/
section
variable {X : Cx}
theorem ix_listK (K : PySem.W.Frag)  (hK : X.K = K := by rfl) : IxR X (rIxL K) := by subst hK; exact ix_list
theorem ix_tupK (K : PySem.W.Frag)  (hK : X.K = K := by rfl) : IxR X (rIxT K) := by subst hK; exact ix_tup
theorem ix_seqK (K : PySem.W.Frag)  (hK : X.K = K := by rfl) : IxR X (rIx K) := by subst hK; exact ix_seq
theorem ix_kdictK (K : PySem.W.Frag) (w : World) (hw : X.w = w := by rfl) (hK : X.K = K := by rfl) : IxR X (rIxD K w) := by subst hK; subst hw; exact ix_kdict
theorem sl_listK (K : PySem.W.Frag)  (hK : X.K = K := by rfl) : SlR X (rSlL K) := by subst hK; exact sl_list
theorem sl_tupAK (K : PySem.W.Frag)  (hK : X.K = K := by rfl) : SlR X (rSlA K) := by subst hK; exact sl_tupA
theorem op_in_seqK (K : PySem.W.Frag)  (hK : X.K = K := by rfl) : OpR X (compareOp .In) (rIn K false) := by subst hK; exact op_in_seq
theorem op_notIn_seqK (K : PySem.W.Frag)  (hK : X.K = K := by rfl) : OpR X (compareOp .NotIn) (rIn K true) := by subst hK; exact op_notIn_seq
theorem op_eqDK (K : PySem.W.Frag) (hu : X.A.units + 64 < cLine) (hK : X.K = K := by rfl) : OpR X (compareOp .Eq) (rEqD K) := by subst hK; exact op_eqD hu
theorem op_neDK (K : PySem.W.Frag) (hu : X.A.units + 64 < cLine) (hK : X.K = K := by rfl) : OpR X (compareOp .NotEq) (rNeD K) := by subst hK; exact op_neD hu
theorem op_catTK (K : PySem.W.Frag)  (hK : X.K = K := by rfl) : OpR X (binaryOp .Add) (rCatT K) := by subst hK; exact op_catT
def rLen (K : PySem.W.Frag) : List V → Hp → VK → Prop := fun xs H Q => ∃ x n, xs = [x] ∧ LenV K x H n ∧ Q (.int n) H
theorem call_lenK (K : PySem.W.Frag)  (hK : X.K = K := by rfl) : CallR X (.builtin "len") (rLen K) := by subst hK; exact call_len
theorem call_isiK (K : PySem.W.Frag)  (hK : X.K = K := by rfl) : CallR X (.builtin "isinstance") (rIsi K) := by subst hK; exact call_isi
theorem call_isiTK (K : PySem.W.Frag)  (hK : X.K = K := by rfl) : CallR X (.builtin "isinstance") (rIsiT K) := by subst hK; exact call_isiT
def rListOf (K : PySem.W.Frag) : List V → Hp → VK → Prop := fun xs H Q => ∃ p ys, xs = [.ref p] ∧ (SqL K H p ys ∨ SqT K H p ys) ∧ ∀ l, H l = none → Q (.ref l) (upd H l (.lst ys))
theorem call_list_ofK (K : PySem.W.Frag)  (hK : X.K = K := by rfl) : CallR X (.type "list") (rListOf K) := by subst hK; exact call_list_of
def rTupleOf (K : PySem.W.Frag) : List V → Hp → VK → Prop := fun xs H Q => ∃ p ys, xs = [.ref p] ∧ ((SqL K H p ys ∧ ∀ l, H l = none → Q (.ref l) (upd H l (.tup ys))) ∨ (SqT K H p ys ∧ Q (.ref p) H))
theorem call_tuple_ofK (K : PySem.W.Frag)  (hK : X.K = K := by rfl) : CallR X (.type "tuple") (rTupleOf K) := by subst hK; exact call_tuple_of
theorem cr_allK (K : PySem.W.Frag) (hc : X.calm = true) (hK : X.K = K := by rfl) : CallR X (.builtin "all") (rAll K) := by subst hK; exact cr_all hc
theorem cr_anyK (K : PySem.W.Frag) (hc : X.calm = true) (hK : X.K = K := by rfl) : CallR X (.builtin "any") (rAny K) := by subst hK; exact cr_any hc
theorem cr_sumK (K : PySem.W.Frag) (hc : X.calm = true) (hK : X.K = K := by rfl) : CallR X (.builtin "sum") (rSum K) := by subst hK; exact cr_sum hc
theorem cr_maxK (K : PySem.W.Frag) (hc : X.calm = true) (hK : X.K = K := by rfl) : CallR X (.builtin "max") (rMax K) := by subst hK; exact cr_max hc
theorem cr_minK (K : PySem.W.Frag) (hc : X.calm = true) (hK : X.K = K := by rfl) : CallR X (.builtin "min") (rMin K) := by subst hK; exact cr_min hc
theorem cr_sortedSK (K : PySem.W.Frag)  (hK : X.K = K := by rfl) : CallR X (.builtin "sorted") (rSortedS K) := by subst hK; exact cr_sortedS
theorem cr_sortedIK (K : PySem.W.Frag)  (hK : X.K = K := by rfl) : CallR X (.builtin "sorted") (rSortedI K) := by subst hK; exact cr_sortedI
theorem mt_indexK (K : PySem.W.Frag)  (hK : X.K = K := by rfl) : MtR X "list.index" (rIndex K) := by subst hK; exact mt_index
theorem pi_listK (K : PySem.W.Frag) {tg l : Expr} {tl : TE} (hl : PE X l tl) (hK : X.K = K := by rfl) : PI X tg l (iList K tl) := by subst hK; exact pi_list hl
theorem pi_tupK (K : PySem.W.Frag) {tg l : Expr} {tl : TE} (hl : PE X l tl) (hK : X.K = K := by rfl) : PI X tg l (iTup K tl) := by subst hK; exact pi_tup hl
variable {o e : Expr} {es : List Expr} {to : TE} {t : TA} {name : Str} {apos cpos : Pos} {T id : String} {r : V → List V → Hp → VK → Prop}
theorem pe_bmK (K : PySem.W.Frag) (pa : PlainAttrs T) (slot : Slot T name id) (hty : typeOf (.builtin id) = pure (.type "method_descriptor")) (hm : MtR X id r) (ho : PE X o to) (ha : PA X (e :: es) t)
    (hbase : attributeBase o name X.env (eval o X.env) = eval o X.env := by rfl)
    (hfew : ((backTo cpos (starEach (e :: es) X.env)).all (fun x => !x.1) && (backToKw cpos (keywordEach [] X.env)).all (fun x => x.1.isSome)
      && decide ((e :: es).length + ([] : List Keyword).length + (if ([] : List Keyword).isEmpty then 0 else 1) < 30)) = true := by rfl)
    (hline : (apos.endLine == cpos.line) = true := by rfl) (hs : starEach (e :: es) X.env = (false, eval e X.env) :: starEach es X.env := by rfl) (hplain : (backTo cpos (starEach es X.env)).any (·.1) = false := by rfl) (hK : X.K = K := by rfl) :
    PE X (.Call (.Attribute o name apos) (e :: es) [] cpos) (tBM K T r to t) := by subst hK; exact pe_bm pa slot hty hm ho ha hbase hfew hline hs hplain
theorem pe_bm0K (K : PySem.W.Frag) (pa : PlainAttrs T) (slot : Slot T name id) (hty : typeOf (.builtin id) = pure (.type "method_descriptor")) (hm : MtR X id r) (ho : PE X o to)
    (hbase : attributeBase o name X.env (eval o X.env) = eval o X.env := by rfl) (hline : (apos.endLine == cpos.line) = true := by rfl) (hK : X.K = K := by rfl) :
    PE X (.Call (.Attribute o name apos) [] [] cpos) (tBM0 K T r to) := by subst hK; exact pe_bm0 pa slot hty hm ho hbase hline
end
theorem rel_s (x : Str) (t : Tok) : RelV (.str x) (.str x t) := ⟨t, rfl⟩
theorem rel_i (x : Int) (t : Tok) : RelV (.int x) (.int x t) := ⟨t, rfl⟩
theorem rel_r (a : Addr) : RelV (.ref a) (.ref a) := rfl

/-! ### isinstance -/
theorem kSS {K : PySem.W.Frag} : PySem.W.kitOne K (.type "str") (.type "str") = some true := kit_ty (by decide +kernel)
/-! ### loops -/
theorem for_str {z : Str} {g : TG} {tb : TS} {D : Ends} {σ : St} {H : Hp} (Pv : Nat → St → Hp → Prop) (h0 : Pv 0 σ H)
    (hs : ∀ i c σ H, z.cps.toList[i]? = some c → Pv i σ H → g (.str ⟨#[c]⟩) σ H fun σ2 H2 => tb { D with nx := Pv (i + 1), ct := Pv (i + 1), bk := D.nx } σ2 H2) (hd : ∀ σ H, Pv z.cps.size σ H → D.nx σ H) :
    ∃ W : Nat → Nat → St → Hp → Prop, (∃ m, W 0 m σ H) ∧ ∀ i m σ H, W i m σ H →
      ((Its z).stop i H ∧ D.nx σ H) ∨ ((Its z).go i H ∧ ∃ N : St → Hp → Prop, (∀ σ' H', N σ' H' → ∃ m', m' < m ∧ W (i + 1) m' σ' H') ∧ ∀ x H', (Its z).yld i H x H' → g x σ H' fun σ2 H2 => tb { D with nx := N, ct := N, bk := D.nx } σ2 H2) := by
  refine ⟨fun i m σ H => m = z.cps.size - i ∧ i ≤ z.cps.size ∧ Pv i σ H, ⟨z.cps.size, by simp, Nat.zero_le _, h0⟩, ?_⟩
  rintro i m σ H ⟨rfl, hi, p⟩
  by_cases hlt : i < z.cps.size
  · refine .inr ⟨hlt, Pv (i + 1), fun σ' H' p' => ⟨z.cps.size - (i + 1), by omega, rfl, hlt, p'⟩, fun x H' y => ?_⟩
    obtain ⟨rfl, c, hc, rfl⟩ := y
    exact hs i c σ H' (by rw [Array.getElem?_toList]; exact hc) p
  · have : i = z.cps.size := by omega
    subst this
    exact .inl ⟨Nat.le_refl _, hd σ H p⟩

/-! ### drawing -/
def potA (c : Int) : Int := if c - 10 ^ 18 > 0 then c - 10 ^ 18 else 0
def potB (c : Int) : Int := ((if c < 0 then -c else c) % 2147483563 + 1) ^ 2 % 2147483549 + 17
def tkD (a b m : Int) : Int := if 0 < a then a % m else ((b * 48271 + 12347) % 2147483647) * ((b * 48271 + 12347) % 2147483647) % 2147483579 / 13 % m
def tkA (a b m : Int) : Int := if 0 < a then a / m else a
def tkB (a b m : Int) : Int := if 0 < a then b else (b * 48271 + 12347) % 2147483647
theorem tkD_nn {a b m : Int} (h : 0 < m) : 0 ≤ tkD a b m := by
  unfold tkD
  split <;> exact Int.emod_nonneg _ (by omega)
theorem tkD_lt {a b m : Int} (h : 0 < m) : tkD a b m < m := by
  unfold tkD
  split <;> exact Int.emod_lt_of_pos _ h
def PotOk (b : Int) : Prop := 0 ≤ b ∧ b < 4294967296
theorem tkB_ok {a b m : Int} (h : PotOk b) : PotOk (tkB a b m) := by
  unfold tkB PotOk at *
  split <;> omega
theorem potB_ok (c : Int) : PotOk (potB c) := by
  unfold potB PotOk
  omega
/-- a pot stands at p -/
def Pot (H : Hp) (p : Addr) (a b : Int) : Prop := H p = some (.lst [.int a, .int b]) ∧ PotOk b
def sp_l_pot : Sp := fun vs H Q _ => ∃ c : Int, vs = [.int c] ∧ ∀ p H', Same H H' → H p = none → Pot H' p (potA c) (potB c) → Q (.ref p) H'
def sp_l_take : Sp := fun vs H Q _ => ∃ (p : Addr) (a b m : Int), vs = [.ref p, .int m] ∧ Pot H p a b ∧ 0 < m ∧ m.natAbs.log2 < 9000 ∧
  ∀ H', SameBut p H H' → Pot H' p (tkA a b m) (tkB a b m) → Q (.int (tkD a b m)) H'
theorem atI_mem {α : Type} {xs : List α} {i : Int} (h0 : 0 ≤ i) (h1 : i < (xs.length : Int)) : ∃ v, atI xs i = some v ∧ v ∈ xs := by
  obtain ⟨j, rfl⟩ : ∃ j : Nat, i = (j : Int) := ⟨i.toNat, by omega⟩
  have hj : j < xs.length := by omega
  exact ⟨xs[j], atI_nat (by simp [hj]), List.getElem_mem hj⟩
theorem sz_of {n : Nat} (h : n ≤ 100000) : n ≤ sizeLine := Nat.le_trans h (by decide)
theorem sz_lt {n : Nat} (h : n < 100000) : n < sizeLine := Nat.lt_of_lt_of_le h (by decide)
theorem sum_ones {ys : List Str} (h : ∀ y ∈ ys, y.length = 1) : (ys.map (·.length)).sum = ys.length := by
  induction ys with
  | nil => rfl
  | cons y r ih =>
    rw [List.map_cons, List.sum_cons, ih fun z hz => h z (List.mem_cons_of_mem _ hz), h y List.mem_cons_self, List.length_cons]
    omega
theorem len_append (a b : Str) : (a ++ b).length = a.length + b.length := by
  show (a.cps ++ b.cps).size = _
  rw [Array.size_append]
  rfl
theorem len_toList (a : Str) : a.cps.toList.length = a.length := by
  rw [Array.length_toList]
  rfl
theorem Pot.ne {H : Hp} {p q : Addr} {a b : Int} (h : Pot H p a b) (n : H q = none) : q ≠ p := fun e => by
  subst e
  rw [h.1] at n
  cases n
theorem Pot.new {H : Hp} {p q : Addr} {a b : Int} {o : HO} (h : Pot H p a b) (n : H q = none) : Pot (L2.upd H q o) p a b := ⟨by rw [upd_ne (Ne.symm (h.ne n))]; exact h.1, h.2⟩
theorem Pot.other {H : Hp} {p q : Addr} {a b : Int} {o : HO} (h : Pot H p a b) (n : q ≠ p) : Pot (L2.upd H q o) p a b := ⟨by rw [upd_ne (Ne.symm n)]; exact h.1, h.2⟩
theorem SameBut.new {p q : Addr} {H H' : Hp} {o : HO} (h : SameBut p H H') (n : H' q = none) : SameBut p H (L2.upd H' q o) := h.same (Same.new n)
/-- a draw below m, small -/
theorem draw3 {m : Int} (h0 : 0 < m) (h : m < 2 ^ 60) : 0 < m ∧ m.natAbs.log2 < 9000 := ⟨h0, Nat.lt_of_lt_of_le (PySem.Flt.log2_lt_of (k := 60) (by decide) (by omega)) (by decide)⟩
/-- a cell of the script, or 0: some int -/
def sp_l_at (K : PySem.W.Frag) : Sp := fun vs H Q _ => ∃ (a : Addr) (ns : List Int) (i : Nat), vs = [.ref a, .int i] ∧ SqL K H a (ns.map V.int) ∧ ∀ c : Int, Q (.int c) H
/-- the law's own promise -/
def sp_law (K : PySem.W.Frag) : Sp := fun vs H Q _ => ∃ (a : Addr) (ns : List Int), vs = [.ref a] ∧ SqL K H a (ns.map V.int) ∧ ns.length ≤ 63 ∧ ∀ H', Q (.bl true) H'
/-- a draw, whatever comes -/
def sp_l_tk : Sp := fun vs H Q _ => ∃ (p : Addr) (a b m : Int), vs = [.ref p, .int m] ∧ Pot H p a b ∧ 0 < m ∧ m.natAbs.log2 < 9000 ∧
  ∀ (d a' b' : Int) (H' : Hp), SameBut p H H' → Pot H' p a' b' → 0 ≤ d → d < m → Q (.int d) H'
theorem take_any : ∀ vs H Q E, sp_l_tk vs H Q E → sp_l_take vs H Q E := by
  rintro vs H Q E ⟨p, a, b, m, rfl, hp, h0, h1, k⟩
  exact ⟨p, a, b, m, rfl, hp, h0, h1, fun H' s' p' => k _ _ _ H' s' p' (tkD_nn h0) (tkD_lt h0)⟩
theorem log2_small {m : Int} (h0 : 0 < m) (h : m < 2 ^ 60) : m.natAbs.log2 < 9000 :=
  Nat.lt_of_lt_of_le (PySem.Flt.log2_lt_of (k := 60) (by decide) (by omega)) (by decide)
end Cl

/-! ### ClHex: numbers in base sixteen, sums of texts -/
namespace Cl
open PySem L2
def hd (k : Nat) : Nat := if k < 10 then 48 + k else 87 + k
def hxR : Nat → Nat → List Nat → List Nat
  | 0, _, f => f
  | k + 1, r, f => if r = 0 then f else hxR k (r / 16) (hd (r % 16) :: f)
def hexL (n : Nat) : List Nat := hxR n (n / 16) [hd (n % 16)]
def sOf (l : List Nat) : Str := ⟨l.toArray⟩
def hexS (n : Nat) : Str := sOf (hexL n)
theorem hxR_fuel : ∀ (k r : Nat) (f : List Nat), r ≤ k → ∀ j, r ≤ j → hxR k r f = hxR j r f
  | 0, r, f, h, j, hj => by
    have : r = 0 := by omega
    subst this
    cases j with
    | zero => rfl
    | succ j => rfl
  | k + 1, r, f, h, j, hj => by
    cases j with
    | zero =>
      have : r = 0 := by omega
      subst this
      rfl
    | succ j =>
      show (if r = 0 then f else hxR k (r / 16) (hd (r % 16) :: f)) = if r = 0 then f else hxR j (r / 16) (hd (r % 16) :: f)
      split
      · rfl
      · exact hxR_fuel k (r / 16) _ (by omega) j (by omega)
theorem hxR_step {k r : Nat} (f : List Nat) (h : r ≤ k) (h0 : r ≠ 0) : hxR k r f = hxR k (r / 16) (hd (r % 16) :: f) := by
  cases k with
  | zero => omega
  | succ k =>
    show (if r = 0 then f else hxR k (r / 16) (hd (r % 16) :: f)) = _
    rw [if_neg h0]
    exact hxR_fuel _ _ _ (by omega) _ (by omega)
theorem hxR_zero (k : Nat) (f : List Nat) : hxR k 0 f = f := by
  cases k <;> rfl
def figs : Str := "0123456789abcdef"
theorem figs_at {k : Nat} (h : k < 16) : atI figs.cps.toList ((k : Nat) : Int) = some (hd k) := by
  have : ∀ k : Fin 16, atI figs.cps.toList ((k.val : Nat) : Int) = some (hd k.val) := by decide +kernel
  exact this ⟨k, h⟩
theorem figs_len : figs.length ≤ sizeLine := by decide +kernel
theorem sOf_app (a b : List Nat) : sOf a ++ sOf b = sOf (a ++ b) := by
  show (⟨a.toArray ++ b.toArray⟩ : Str) = ⟨(a ++ b).toArray⟩
  rw [List.append_toArray]
theorem sOf_len (l : List Nat) : (sOf l).length = l.length := by
  show l.toArray.size = _
  simp
theorem emod_nat (m k : Nat) : ((m : Int) % (k : Int)) = ((m % k : Nat) : Int) := by omega
theorem ediv_nat (m k : Nat) : ((m : Int) / (k : Int)) = ((m / k : Nat) : Int) := by omega
def sp_hex : Sp := fun vs H Q _ => ∃ n : Nat, vs = [.int n] ∧ n < 2 ^ 60 ∧ Q (.str (hexS n)) H
theorem hex_lt {i n j : Nat} (h : n < 2 ^ 60) (hj : j = n / 16 ^ i) (h0 : 0 < j) : i < 15 := by
  refine Nat.lt_of_not_le fun q => ?_
  have h1 : (16:Nat) ^ 15 ≤ 16 ^ i := Nat.pow_le_pow_right (by decide) q
  have h2 : (16:Nat) ^ 15 = 2 ^ 60 := by decide
  have h3 : n / 16 ^ i = 0 := Nat.div_eq_of_lt (by omega)
  omega
theorem hex_le {i n j : Nat} (hj : j = n / 16 ^ i) : j ≤ n := by
  rw [hj]
  exact Nat.div_le_self _ _
theorem str17 {l : List Nat} (h : l.length ≤ 100) : (sOf l).length ≤ sizeLine := by
  rw [sOf_len]
  exact Nat.le_trans h (by decide)

/-- the two numbers of a text's sum -/
def smA : List Nat → Nat → Nat
  | [], a => a
  | c :: r, a => smA r ((a + c) % 251)
def smB : List Nat → Nat → Nat → Nat
  | [], _, b => b
  | c :: r, a, b => smB r ((a + c) % 251) ((b + (a + c) % 251) % 241)
def smA' (l : List Nat) (n : Nat) : Nat := smA (l.take n) 0
def smB' (l : List Nat) (n : Nat) : Nat := smB (l.take n) 0 0
theorem smA_snoc : ∀ (l : List Nat) (c a : Nat), smA (l ++ [c]) a = (smA l a + c) % 251
  | [], _, _ => rfl
  | _ :: r, c, a => smA_snoc r c _
theorem smB_snoc : ∀ (l : List Nat) (c a b : Nat), smB (l ++ [c]) a b = (smB l a b + (smA l a + c) % 251) % 241
  | [], _, _, _ => rfl
  | _ :: r, c, a, b => smB_snoc r c _ _
theorem take_snoc {α : Type} {l : List α} {i : Nat} {c : α} (h : l[i]? = some c) : l.take (i + 1) = l.take i ++ [c] := by
  rw [List.take_add_one, h]
  rfl
theorem smA_lt : ∀ (l : List Nat) (a : Nat), a < 251 → smA l a < 251
  | [], _, h => h
  | _ :: r, _, _ => smA_lt r _ (Nat.mod_lt _ (by decide))
theorem smB_lt : ∀ (l : List Nat) (a b : Nat), b < 241 → smB l a b < 241
  | [], _, _, h => h
  | _ :: r, _, _, _ => smB_lt r _ _ (Nat.mod_lt _ (by decide))
def two (n : Nat) : Str := sOf [hd (n / 16), hd (n % 16)]
theorem two_zfill {n : Nat} (h : n < 256) : Txt.zfill (hexS n) 2 = two n := by
  have : ∀ n : Fin 256, Txt.zfill (hexS n.val) 2 = two n.val := by decide +kernel
  exact this ⟨n, h⟩
theorem two_cut {n : Nat} (h : n < 256) : cutS (hexS (256 + n)) (some 1) none = two n := by
  have : ∀ n : Fin 256, cutS (hexS (256 + n.val)) (some 1) none = two n.val := by decide +kernel
  exact this ⟨n, h⟩
theorem hex3 {n : Nat} (h : n < 256) : (hexS (256 + n)).length ≤ sizeLine := by
  have : ∀ n : Fin 256, (hexS (256 + n.val)).length = 3 := by decide +kernel
  exact Nat.le_trans (Nat.le_of_eq (this ⟨n, h⟩)) (by decide)
def sumS (z : Str) : Str := two (smA z.cps.toList 0) ++ two (smB z.cps.toList 0 0)
def sp_sum : Sp := fun vs H Q _ => ∃ z : Str, vs = [.str z] ∧ Q (.str (sumS z)) H
end Cl

/-! ### ClD: data made of tuples: how they stand, stay, are cut, compared and shown -/
namespace Cl
open PySem L2

/-- tuples, and what is read only, stay -/
structure TS (H H' : Hp) : Prop where
  tup : ∀ a xs, H a = some (.tup xs) → H' a = some (.tup xs)
  frz : ∀ a o u, H a = some (.frz o u) → H' a = some (.frz o u)
theorem TS.refl (H : Hp) : TS H H := ⟨fun _ _ h => h, fun _ _ _ h => h⟩
theorem TS.trans {H H1 H2 : Hp} (a : TS H H1) (b : TS H1 H2) : TS H H2 := ⟨fun x y h => b.tup x y (a.tup x y h), fun x y z h => b.frz x y z (a.frz x y z h)⟩
theorem TS.of {H H' : Hp} (s : Same H H') : TS H H' := ⟨fun a _ h => s a _ h, fun a _ _ h => s a _ h⟩
theorem TS.new {H : Hp} {p : Addr} {o : HO} (h : H p = none) : TS H (upd H p o) := TS.of (Same.new h)
theorem TS.lst {H : Hp} {p : Addr} {xs : List V} {o : HO} (h : H p = some (.lst xs)) : TS H (upd H p o) := by
  refine ⟨fun a ys e => ?_, fun a u v e => ?_⟩
  all_goals
    have n : a ≠ p := fun q => by
      subst q
      rw [h] at e
      cases e
    rw [upd_ne n]
    exact e
theorem TS.but {p : Addr} {H H' : Hp} {xs : List V} (s : SameBut p H H') (h : H p = some (.lst xs)) : TS H H' := by
  refine ⟨fun a ys e => ?_, fun a u v e => ?_⟩
  all_goals
    refine s a _ e fun q => ?_
    subst q
    rw [h] at e
    cases e
theorem TS.butI {p C dx : Addr} {H H' : Hp} {fs : List (Str × V)} (s : SameBut p H H') (h : H p = some (.ins C dx fs)) : TS H H' := by
  refine ⟨fun a ys e => ?_, fun a u v e => ?_⟩
  all_goals
    refine s a _ e fun q => ?_
    subst q
    rw [h] at e
    cases e
theorem SameBut.seqI {K : PySem.W.Frag} {p C dx a : Addr} {H H' : Hp} {fs : List (Str × V)} {xs : List V} (s : SameBut p H H') (h : H p = some (.ins C dx fs)) (q : SqL K H a xs) : SqL K H' a xs := by
  rcases q with (q | ⟨o, q⟩) | q
  · refine .inl (.inl (s _ _ q fun e => ?_))
    subst e
    rw [h] at q
    cases q
  · refine .inl (.inr ⟨o, s _ _ q fun e => ?_⟩)
    subst e
    rw [h] at q
    cases q
  · exact .inr q
theorem TS.dK {p : Addr} {H : Hp} {kvs : List (Key × V)} {o : HO} (h : H p = some (.dK kvs)) : TS H (upd H p o) := by
  refine ⟨fun a ys e => ?_, fun a u v e => ?_⟩
  all_goals
    have n : a ≠ p := fun q => by
      subst q
      rw [h] at e
      cases e
    rw [upd_ne n]
    exact e
theorem TS.pot {p : Addr} {H H' : Hp} {a b : Int} (s : SameBut p H H') (h : Pot H p a b) : TS H H' := TS.but s h.1
theorem TS.seq {K : PySem.W.Frag} {H H' : Hp} {a : Addr} {xs : List V} (e : TS H H') (h : SqT K H a xs) : SqT K H' a xs := by
  rcases h with (h | ⟨o, h⟩) | h
  · exact .inl (.inl (e.tup _ _ h))
  · exact .inl (.inr ⟨o, e.frz _ _ _ h⟩)
  · exact .inr h

mutual
/-- v stands for d in H; d has tuples alone within -/
inductive Dt (K : PySem.W.Frag) (H : Hp) : V → PyData → Prop
  | non : Dt K H .non .none
  | bl (b : Bool) : Dt K H (.bl b) (.bool b)
  | int (i : Int) : Dt K H (.int i) (.int i)
  | str (x : Str) : Dt K H (.str x) (.str x)
  | tup {a : Addr} {xs : List V} {ds : List PyData} : SqT K H a xs → DtAll K H xs ds → Dt K H (.ref a) (.tuple ds)
inductive DtAll (K : PySem.W.Frag) (H : Hp) : List V → List PyData → Prop
  | nil : DtAll K H [] []
  | cons {v : V} {vs : List V} {d : PyData} {ds : List PyData} : Dt K H v d → DtAll K H vs ds → DtAll K H (v :: vs) (d :: ds)
end
section
variable {K : PySem.W.Frag} {H H' : Hp}
mutual
theorem Dt.mono (e : TS H H') : ∀ (d : PyData) {v : V}, Dt K H v d → Dt K H' v d
  | .none, _, h => by cases h; exact .non
  | .bool b, _, h => by cases h; exact .bl b
  | .int i, _, h => by cases h; exact .int i
  | .str x, _, h => by cases h; exact .str x
  | .tuple ds, _, h => by
    cases h with
    | tup hs ha => exact .tup (e.seq hs) (DtAll.mono e ds ha)
  | .list _, _, h => by cases h
  | .dict _, _, h => by cases h
theorem DtAll.mono (e : TS H H') : ∀ (ds : List PyData) {vs : List V}, DtAll K H vs ds → DtAll K H' vs ds
  | [], _, h => by cases h; exact .nil
  | d :: ds, _, h => by
    cases h with
    | cons h1 h2 => exact .cons (Dt.mono e d h1) (DtAll.mono e ds h2)
end
mutual
theorem Dt.dp : ∀ (d : PyData) {v : V}, Dt K H v d → Dp K H v d
  | .none, _, h => by cases h; exact .non
  | .bool b, _, h => by cases h; exact .bl b
  | .int i, _, h => by cases h; exact .int i
  | .str x, _, h => by cases h; exact .str x
  | .tuple ds, _, h => by
    cases h with
    | tup hs ha => exact .tup hs (DtAll.dp ds ha)
  | .list _, _, h => by cases h
  | .dict _, _, h => by cases h
theorem DtAll.dp : ∀ (ds : List PyData) {vs : List V}, DtAll K H vs ds → DpAll K H vs ds
  | [], _, h => by cases h; exact .nil
  | d :: ds, _, h => by
    cases h with
    | cons h1 h2 => exact .cons (Dt.dp d h1) (DtAll.dp ds h2)
end
theorem Dt.m (e : TS H H') {d : PyData} {v : V} (h : Dt K H v d) : Dt K H' v d := Dt.mono e d h
theorem DtAll.m (e : TS H H') {ds : List PyData} {vs : List V} (h : DtAll K H vs ds) : DtAll K H' vs ds := DtAll.mono e ds h
theorem DtAll.length : ∀ {ds : List PyData} {vs : List V}, DtAll K H vs ds → vs.length = ds.length
  | [], _, h => by cases h; rfl
  | _ :: _, _, h => by
    cases h with
    | cons h1 h2 => rw [List.length_cons, List.length_cons, DtAll.length h2]
theorem DtAll.get : ∀ {ds : List PyData} {vs : List V} {i : Nat} {d : PyData}, DtAll K H vs ds → ds[i]? = some d → ∃ v, vs[i]? = some v ∧ Dt K H v d
  | [], _, _, _, _, e => by simp at e
  | _ :: _, _, 0, _, h, e => by
    cases h with
    | cons h1 h2 =>
      rw [List.getElem?_cons_zero] at e
      cases e
      exact ⟨_, rfl, h1⟩
  | _ :: _, _, i + 1, _, h, e => by
    cases h with
    | cons h1 h2 =>
      rw [List.getElem?_cons_succ] at e
      obtain ⟨v, q1, q2⟩ := DtAll.get h2 e
      exact ⟨v, by rw [List.getElem?_cons_succ]; exact q1, q2⟩
theorem DtAll.getV : ∀ {ds : List PyData} {vs : List V} {i : Nat} {v : V}, DtAll K H vs ds → vs[i]? = some v → ∃ d, ds[i]? = some d ∧ Dt K H v d
  | [], _, _, _, h, e => by cases h; simp at e
  | _ :: _, _, 0, _, h, e => by
    cases h with
    | cons h1 h2 =>
      rw [List.getElem?_cons_zero] at e
      cases e
      exact ⟨_, rfl, h1⟩
  | _ :: _, _, i + 1, _, h, e => by
    cases h with
    | cons h1 h2 =>
      rw [List.getElem?_cons_succ] at e
      obtain ⟨d, q1, q2⟩ := DtAll.getV h2 e
      exact ⟨d, by rw [List.getElem?_cons_succ]; exact q1, q2⟩
theorem DtAll.app : ∀ {ds es : List PyData} {vs us : List V}, DtAll K H vs ds → DtAll K H us es → DtAll K H (vs ++ us) (ds ++ es)
  | [], _, _, _, h, k => by cases h; exact k
  | _ :: _, _, _, _, h, k => by
    cases h with
    | cons h1 h2 => exact .cons h1 (DtAll.app h2 k)
theorem DtAll.take : ∀ {ds : List PyData} {vs : List V} (n : Nat), DtAll K H vs ds → DtAll K H (vs.take n) (ds.take n)
  | _, _, 0, _ => .nil
  | [], _, _ + 1, h => by cases h; exact .nil
  | _ :: _, _, n + 1, h => by
    cases h with
    | cons h1 h2 => exact .cons h1 (DtAll.take n h2)
theorem DtAll.drop : ∀ {ds : List PyData} {vs : List V} (n : Nat), DtAll K H vs ds → DtAll K H (vs.drop n) (ds.drop n)
  | _, _, 0, h => h
  | [], _, _ + 1, h => by cases h; exact .nil
  | _ :: _, _, n + 1, h => by
    cases h with
    | cons h1 h2 => exact DtAll.drop n h2
theorem DtAll.of : ∀ {ds : List PyData} {vs : List V}, vs.length = ds.length → (∀ (i : Nat) v d, vs[i]? = some v → ds[i]? = some d → Dt K H v d) → DtAll K H vs ds
  | [], [], _, _ => .nil
  | [], _ :: _, e, _ => by cases e
  | _ :: _, [], e, _ => by cases e
  | d :: ds, v :: vs, e, h => .cons (h 0 v d rfl rfl) (DtAll.of (by simpa using e) fun i w c h1 h2 => h (i + 1) w c (by simpa using h1) (by simpa using h2))
theorem DtAll.strs (ys : List Str) : DtAll K H (ys.map V.str) (ys.map PyData.str) := by
  induction ys with
  | nil => exact .nil
  | cons y r ih => exact .cons (.str y) ih
theorem DtAll.ints (ys : List Int) : DtAll K H (ys.map V.int) (ys.map PyData.int) := by
  induction ys with
  | nil => exact .nil
  | cons y r ih => exact .cons (.int y) ih
/-- a new tuple of such -/
theorem Dt.new {p : Addr} {xs : List V} {ds : List PyData} (h : DtAll K H xs ds) (hp : H p = none) : Dt K (upd H p (.tup xs)) (.ref p) (.tuple ds) := .tup (SqT.of upd_same) (h.m (TS.new hp))
theorem Dt.inv {v : V} {ds : List PyData} (h : Dt K H v (.tuple ds)) : ∃ a xs, v = .ref a ∧ SqT K H a xs ∧ DtAll K H xs ds := by
  cases h with
  | tup hs ha => exact ⟨_, _, rfl, hs, ha⟩
theorem Dt.two {v : V} {d1 d2 : PyData} (h : Dt K H v (.tuple [d1, d2])) : ∃ a v1 v2, v = .ref a ∧ SqT K H a [v1, v2] ∧ Dt K H v1 d1 ∧ Dt K H v2 d2 := by
  obtain ⟨a, xs, rfl, hs, ha⟩ := h.inv
  cases ha with
  | cons h1 ha => cases ha with
    | cons h2 ha => cases ha with
      | nil => exact ⟨_, _, _, rfl, hs, h1, h2⟩
theorem Dt.three {v : V} {d1 d2 d3 : PyData} (h : Dt K H v (.tuple [d1, d2, d3])) : ∃ a v1 v2 v3, v = .ref a ∧ SqT K H a [v1, v2, v3] ∧ Dt K H v1 d1 ∧ Dt K H v2 d2 ∧ Dt K H v3 d3 := by
  obtain ⟨a, xs, rfl, hs, ha⟩ := h.inv
  cases ha with
  | cons h1 ha => cases ha with
    | cons h2 ha => cases ha with
      | cons h3 ha => cases ha with
        | nil => exact ⟨_, _, _, _, rfl, hs, h1, h2, h3⟩
theorem Dt.strI {v : V} {x : Str} (h : Dt K H v (.str x)) : v = .str x := by cases h; rfl
theorem Dt.intI {v : V} {i : Int} (h : Dt K H v (.int i)) : v = .int i := by cases h; rfl
theorem Dt.nonI {v : V} (h : Dt K H v .none) : v = .non := by cases h; rfl

/-! ### slices -/
def cutG {α : Type} (xs : List α) (lo hi : Option Int) : List α := (xs.drop (HT.sIx xs.length 0 lo)).take (HT.sIx xs.length xs.length hi - HT.sIx xs.length 0 lo)
theorem cutG_V (xs : List V) (lo hi : Option Int) : cutG xs lo hi = cutV xs lo hi := rfl
theorem DtAll.cut {ds : List PyData} {vs : List V} (h : DtAll K H vs ds) (lo hi : Option Int) : DtAll K H (cutV vs lo hi) (cutG ds lo hi) := by
  unfold cutV cutG
  rw [h.length]
  exact (h.drop _).take _
theorem sl_dt {v : V} {ds : List PyData} {lo hi : Option Int} {Q : VK} (h : Dt K H v (.tuple ds)) (k : ∀ v' H', Same H H' → Dt K H' v' (.tuple (cutG ds lo hi)) → Q v' H') : rSlA K v lo hi H Q := by
  obtain ⟨a, xs, rfl, hs, ha⟩ := h.inv
  refine ⟨a, xs, rfl, hs, fun e => k _ H (Same.refl H) ?_, fun _ p hp => k _ _ (Same.new hp) (Dt.new (ha.cut lo hi) hp)⟩
  have : cutG ds lo hi = ds := by
    unfold cutG
    rw [← ha.length, e.1, e.2, ha.length]
    simp
  rw [this]
  exact h
theorem sIx_le {n k : Nat} (d : Nat) (h : k ≤ n) : HT.sIx n d (some (k : Int)) = k := by
  rw [HT.sIx_nat]
  omega
theorem sIx_big {n k : Nat} (d : Nat) (h : n ≤ k) : HT.sIx n d (some (k : Int)) = n := by
  rw [HT.sIx_nat]
  omega
theorem cutG_nat {α : Type} (xs : List α) (i j : Nat) : cutG xs (some (i : Int)) (some (j : Int)) = (xs.drop i).take (j - i) := by
  unfold cutG
  by_cases h1 : i ≤ xs.length
  · rw [sIx_le _ h1]
    by_cases h2 : j ≤ xs.length
    · rw [sIx_le _ h2]
    · rw [sIx_big _ (by omega), List.take_of_length_le (by simp), List.take_of_length_le (by simp; omega)]
  · rw [sIx_big _ (by omega : xs.length ≤ i), List.drop_of_length_le (by omega), List.drop_of_length_le (by omega)]
    simp
end

/-! ### ranges by fours, by sixes -/
theorem rgc4 {n : Nat} (hn : n < 1000000) : RgC 0 (n : Int) 4 ((n + 3) / 4) := by
  have e : Builtin.Range.rangeSize 0 (n : Int) 4 = (((n + 3) / 4 : Nat) : Int) := by
    unfold Builtin.Range.rangeSize
    rw [if_pos (by decide)]
    split <;> omega
  refine ⟨by decide, by decide, ?_, e⟩
  have fits : ∀ z : Int, -(2 ^ 62) ≤ z → z < 2 ^ 62 → Builtin.Range.rangeFitsLong z = true := fun z h1 h2 => by
    unfold Builtin.Range.rangeFitsLong
    rw [decide_eq_true (show -(2 ^ 63) ≤ z by omega), decide_eq_true (show z < 2 ^ 63 by omega)]
    rfl
  unfold Builtin.Range.small
  rw [e]
  repeat rw [fits _ (by omega) (by omega)]
  simp
theorem rgc6 {n : Nat} (hn : n < 1000000) : RgC 0 (n : Int) 6 ((n + 5) / 6) := by
  have e : Builtin.Range.rangeSize 0 (n : Int) 6 = (((n + 5) / 6 : Nat) : Int) := by
    unfold Builtin.Range.rangeSize
    rw [if_pos (by decide)]
    split <;> omega
  refine ⟨by decide, by decide, ?_, e⟩
  have fits : ∀ z : Int, -(2 ^ 62) ≤ z → z < 2 ^ 62 → Builtin.Range.rangeFitsLong z = true := fun z h1 h2 => by
    unfold Builtin.Range.rangeFitsLong
    rw [decide_eq_true (show -(2 ^ 63) ≤ z by omega), decide_eq_true (show z < 2 ^ 63 by omega)]
    rfl
  unfold Builtin.Range.small
  rw [e]
  repeat rw [fits _ (by omega) (by omega)]
  simp
/-! ### texts of signs -/
def chS (c : Nat) : Str := ⟨#[c]⟩
theorem join_ones0 : ∀ cs : List Nat, Str.join (Str.ofString "") (cs.map chS) = ⟨cs.toArray⟩
  | [] => by decide +kernel
  | [c] => rfl
  | c :: d :: r => by
    have ih := join_ones0 (d :: r)
    show chS c ++ Str.ofString "" ++ Str.join (Str.ofString "") (chS d :: r.map chS) = _
    rw [show Str.join (Str.ofString "") (chS d :: r.map chS) = ⟨(d :: r).toArray⟩ from ih]
    show (⟨(#[c] ++ (Str.ofString "").cps) ++ (d :: r).toArray⟩ : Str) = ⟨(c :: d :: r).toArray⟩
    rw [show (Str.ofString "").cps = #[] by decide +kernel]
    simp
theorem join_ones (cs : List Nat) : Txt.join (Str.ofString "") (cs.map chS) = ⟨cs.toArray⟩ := by
  rw [TL.join_eq]
  exact join_ones0 cs
/-! ### data compared -/
/-- what can be compared: depth at most k -/
structure Shp (k : Nat) (d : PyData) : Prop where
  lay : d.canLay0 = true
  dep : d.depth ≤ k
theorem Shp.mono {k k' : Nat} {d : PyData} (h : Shp k d) (hk : k ≤ k') : Shp k' d := ⟨h.lay, Nat.le_trans h.dep hk⟩
theorem Shp.none {k : Nat} : Shp k .none := ⟨by simp [PyData.canLay0], by simp [PyData.depth]⟩
theorem Shp.bool {k : Nat} (b : Bool) : Shp k (.bool b) := ⟨by simp [PyData.canLay0], by simp [PyData.depth]⟩
theorem Shp.int {k : Nat} (i : Int) : Shp k (.int i) := ⟨by simp [PyData.canLay0], by simp [PyData.depth]⟩
theorem Shp.str {k : Nat} {x : Str} (h : ∀ c ∈ x.cps.toList, c < 1114112) : Shp k (.str x) := by
  refine ⟨?_, by simp [PyData.depth]⟩
  simp only [PyData.canLay0]
  unfold PyData.strOk
  rw [Array.all_eq_true]
  intro i hi
  exact decide_eq_true (h _ (by simp))
theorem shpAll {k : Nat} : ∀ {ds : List PyData}, (∀ d ∈ ds, Shp k d) → PyData.canLayAll0 ds = true ∧ PyData.depthAll ds ≤ k
  | [], _ => ⟨by simp [PyData.canLayAll0], by simp [PyData.depthAll]⟩
  | d :: ds, h => by
    obtain ⟨a, b⟩ := shpAll (ds := ds) fun x hx => h x (List.mem_cons_of_mem _ hx)
    have hd := h d List.mem_cons_self
    exact ⟨by simp only [PyData.canLayAll0, hd.lay, a, Bool.and_self], by simp only [PyData.depthAll]; exact Nat.max_le.mpr ⟨hd.dep, b⟩⟩
theorem Shp.list {k : Nat} {ds : List PyData} (h : ∀ d ∈ ds, Shp k d) : Shp (k + 1) (.list ds) := by
  obtain ⟨a, b⟩ := shpAll h
  exact ⟨by simp only [PyData.canLay0]; exact a, by simp only [PyData.depth]; omega⟩
theorem Shp.tuple {k : Nat} {ds : List PyData} (h : ∀ d ∈ ds, Shp k d) : Shp (k + 1) (.tuple ds) := by
  obtain ⟨a, b⟩ := shpAll h
  exact ⟨by simp only [PyData.canLay0]; exact a, by simp only [PyData.depth]; omega⟩
theorem Shp.shaped {k : Nat} {d : PyData} (h : Shp k d) (hk : k ≤ 64) : SeqAt.shaped d = true := by
  unfold SeqAt.shaped
  rw [h.lay, decide_eq_true (Nat.le_trans h.dep hk)]
  rfl
theorem eq_same {K : PySem.W.Frag} {H : Hp} {x y : V} {d : PyData} {k : Nat} {Q : VK} (hx : Dp K H x d) (hy : Dp K H y d) (h : Shp k d) (q : Q (.bl true) H) (hk : k ≤ 64 := by decide) : rEqD K x y H Q := by
  refine ⟨d, d, hx, hy, h.shaped hk, h.shaped hk, ?_⟩
  rw [SeqAt.eqv_refl d h.lay]
  exact q
theorem ne_same {K : PySem.W.Frag} {H : Hp} {x y : V} {d : PyData} {k : Nat} {Q : VK} (hx : Dp K H x d) (hy : Dp K H y d) (h : Shp k d) (q : Q (.bl false) H) (hk : k ≤ 64 := by decide) : rNeD K x y H Q := by
  refine ⟨d, d, hx, hy, h.shaped hk, h.shaped hk, ?_⟩
  rw [SeqAt.eqv_refl d h.lay]
  exact q
theorem Dp.ofL {K : PySem.W.Frag} {H : Hp} {l : Addr} {xs : List V} {ds : List PyData} (h : H l = some (.lst xs)) (ha : DtAll K H xs ds) : Dp K H (.ref l) (.list ds) := .lst (SqL.of h) ha.dp
theorem Dp.ofLints {K : PySem.W.Frag} {H : Hp} {l : Addr} {ns : List Int} (h : H l = some (.lst (ns.map V.int))) : Dp K H (.ref l) (.list (ns.map PyData.int)) := Dp.ofL h (DtAll.ints ns)
theorem Shp.ints {k : Nat} (ns : List Int) : Shp (k + 1) (.list (ns.map PyData.int)) := Shp.list fun d hd => by
  obtain ⟨i, _, rfl⟩ := List.mem_map.mp hd
  exact Shp.int i
/-! ### repr -/
/-- what can be shown: depth at most k, at most n signs -/
structure Sz (k n : Nat) (d : PyData) : Prop where
  sh : d.showable = true
  dep : d.depth ≤ k
  len : d.shown.length ≤ n
theorem Sz.mono {k n k' n' : Nat} {d : PyData} (h : Sz k n d) (hk : k ≤ k') (hn : n ≤ n') : Sz k' n' d := ⟨h.sh, Nat.le_trans h.dep hk, Nat.le_trans h.len hn⟩
theorem Sz.none {k : Nat} : Sz k 4 .none := ⟨by simp [PyData.showable], by simp [PyData.depth], by decide +kernel⟩
theorem Sz.bool {k : Nat} (b : Bool) : Sz k 5 (.bool b) := ⟨by simp [PyData.showable], by simp [PyData.depth], by cases b <;> decide +kernel⟩
theorem ofString_len (s : String) : (Str.ofString s).length = s.length := by
  rw [Str.ofString_eq_toList]
  show (s.toList.map Char.toNat).toArray.size = _
  rw [List.size_toArray, List.length_map, String.length_toList]
theorem Sz.int {k m : Nat} {i : Int} (h0 : 0 < m) (h : i.natAbs < 2 ^ m) (hm : m < 1920) : Sz k (m + 1) (.int i) := by
  have hl := PySem.Flt.log2_lt_of h0 h
  refine ⟨by simp only [PyData.showable]; exact decide_eq_true (Nat.lt_trans hl hm), by simp [PyData.depth], ?_⟩
  simp only [PyData.shown]
  rw [ofString_len]
  exact PySem.int_text_length_le h0 hl
theorem Sz.str {k : Nat} {x : Str} (h : ∀ c ∈ x.cps.toList, c < 16 ^ 8) : Sz k (10 * x.length + 2) (.str x) :=
  ⟨by simp [PyData.showable], by simp [PyData.depth], by simp only [PyData.shown]; exact PySem.StrLaws.reprText_len x h⟩
theorem szAll {k n : Nat} : ∀ {ds : List PyData}, (∀ d ∈ ds, Sz k n d) → PyData.showableAll ds = true ∧ PyData.depthAll ds ≤ k ∧ PySem.piled (PyData.shownAll ds) ≤ (n + 2) * ds.length ∧ (PyData.shownAll ds).length = ds.length
  | [], _ => ⟨by simp [PyData.showableAll], by simp [PyData.depthAll], by simp [PyData.shownAll, PySem.piled], by simp [PyData.shownAll]⟩
  | d :: ds, h => by
    obtain ⟨a, b, c, e⟩ := szAll (ds := ds) fun x hx => h x (List.mem_cons_of_mem _ hx)
    have hd := h d List.mem_cons_self
    refine ⟨by simp only [PyData.showableAll, hd.sh, a, Bool.and_self], by simp only [PyData.depthAll]; exact Nat.max_le.mpr ⟨hd.dep, b⟩, ?_, by simp only [PyData.shownAll, List.length_cons, e]⟩
    simp only [PyData.shownAll]
    rw [PySem.piled_cons, List.length_cons, Nat.mul_succ]
    have := hd.len
    omega
theorem textFrom_le : ∀ (ts : List Str) (k : Nat) (acc : Str), (PySem.textFrom k acc ts).length ≤ acc.length + PySem.piled ts
  | [], _, acc => by
    show acc.length ≤ acc.length + _
    omega
  | t :: r, k, acc => by
    have h := textFrom_le r (k + 1) (acc ++ (if k > 0 then ", " else "" : String) ++ t)
    have e : (acc ++ (if k > 0 then ", " else "" : String) ++ t).length ≤ acc.length + 2 + t.length := by
      rw [len_append, len_append]
      have : ((if k > 0 then ", " else "" : String) : Str).length ≤ 2 := by split <;> decide +kernel
      omega
    show (PySem.textFrom (k + 1) _ r).length ≤ _
    rw [PySem.piled_cons]
    omega
theorem Sz.list {k n : Nat} {ds : List PyData} (h : ∀ d ∈ ds, Sz k n d) : Sz (k + 1) ((n + 2) * ds.length + 2) (.list ds) := by
  obtain ⟨a, b, c, e⟩ := szAll h
  refine ⟨by simp only [PyData.showable]; exact a, by simp only [PyData.depth]; omega, ?_⟩
  simp only [PyData.shown]
  unfold PySem.listText
  rw [len_append]
  have h1 := textFrom_le (PyData.shownAll ds) 0 "["
  have e1 : (("[" : String) : Str).length = 1 := by decide +kernel
  have e2 : (("]" : String) : Str).length = 1 := by decide +kernel
  omega
theorem Sz.tuple {k n : Nat} {ds : List PyData} (h : ∀ d ∈ ds, Sz k n d) : Sz (k + 1) ((n + 2) * ds.length + 3) (.tuple ds) := by
  obtain ⟨a, b, c, e⟩ := szAll h
  refine ⟨by simp only [PyData.showable]; exact a, by simp only [PyData.depth]; omega, ?_⟩
  simp only [PyData.shown]
  unfold PySem.tupleText
  rw [len_append, len_append]
  have e1 : (("(" : String) : Str).length = 1 := by decide +kernel
  have e2 : ((if (PyData.shownAll ds).length == 1 then ",)" else ")" : String) : Str).length ≤ 2 := by split <;> decide +kernel
  have h1 : (Str.join ", " (PyData.shownAll ds)).length ≤ PySem.piled (PyData.shownAll ds) := by
    cases hq : PyData.shownAll ds with
    | nil =>
      show 0 ≤ _
      omega
    | cons x r =>
      have := PySem.join_length_add (x :: r) (by simp)
      omega
  omega
section
variable {X : Cx}
def rRepr (K : PySem.W.Frag) : List V → Hp → VK → Prop := fun xs H Q => ∃ (a : Addr) (d : PyData), xs = [.ref a] ∧ Dp K H (.ref a) d ∧ Sz 60 sizeLine d ∧ Q (.str d.shown) H
theorem dp_noDict {K : PySem.W.Frag} {H : Hp} : ∀ (d : PyData) {v : V}, Dp K H v d → d.hasDict = false
  | .none, _, _ => by simp [PyData.hasDict]
  | .bool _, _, _ => by simp [PyData.hasDict]
  | .int _, _, _ => by simp [PyData.hasDict]
  | .str _, _, _ => by simp [PyData.hasDict]
  | .list ds, _, h => by
    cases h with
    | lst _ ha =>
      simp only [PyData.hasDict]
      exact go ds ha
  | .tuple ds, _, h => by
    cases h with
    | tup _ ha =>
      simp only [PyData.hasDict]
      exact go ds ha
  | .dict _, _, h => by cases h
where go : ∀ (ds : List PyData) {vs : List V}, DpAll K H vs ds → PyData.hasDictAll ds = false
  | [], _, _ => by simp [PyData.hasDictAll]
  | d :: ds, _, h => by
    cases h with
    | cons h1 h2 =>
      simp only [PyData.hasDictAll, dp_noDict d h1, go ds h2, Bool.or_self]
theorem call_repr {k : Nat} (hr : Rm k X.A) : CallR X (.builtin "repr") (rRepr X.K) := by
  intro pins s σ H xs us Q I r h
  obtain ⟨a, d, rfl, hd, sz, q⟩ := h
  obtain ⟨u, rfl, hu⟩ := vals1 r
  obtain ⟨as, hr1⟩ := Dp.reads I d _ u hd hu
  cases hu
  have hz := sz.dep
  have hun := hr.units
  exact PySem.repr_of_reads' (h₀ := s.heap) hr1 sz.sh (PyData.noDict_hsm (dp_noDict d hd)) hr.gd (by omega) (fun _ _ e => e)
    (fun h' u tk hk => ⟨.str d.shown, H, I.kept hk, ⟨_, rfl⟩, q⟩) sz.len
theorem call_reprK (K : PySem.W.Frag) {k : Nat} (hr : Rm k X.A) (hK : X.K = K := by rfl) : CallR X (.builtin "repr") (rRepr K) := by subst hK; exact call_repr hr
end
end Cl

/-! ### ClTab: tables of a disk, as an object -/
namespace Cl
open PySem L2
/-- v is an address: a tuple of two numbers -/
def AddrV (K : PySem.W.Frag) (H : Hp) (v : V) : Prop := ∃ i j : Int, Dt K H v (.tuple [.int i, .int j]) ∧ 0 ≤ i ∧ i < 10 ^ 12 ∧ 0 ≤ j ∧ j < 10 ^ 12
theorem AddrV.m {K : PySem.W.Frag} {H H' : Hp} {v : V} (t : TS H H') (h : AddrV K H v) : AddrV K H' v := by
  obtain ⟨i, j, h, r⟩ := h
  exact ⟨i, j, h.m t, r⟩
/-- a dict from numbers to addresses -/
structure Pl (K : PySem.W.Frag) (H : Hp) (kvs : List (Key × V)) : Prop where
  ks : ∃ ns : List Int, kvs.map (·.1) = ns.map Sum.inl ∧ ∀ n ∈ ns, 0 ≤ n ∧ n < 10 ^ 12
  nd : (kvs.map (·.1)).Nodup
  l0 : 0 < kvs.length
  l1 : kvs.length ≤ 24
  vs : ∀ p ∈ kvs, AddrV K H p.2
theorem Pl.m {K : PySem.W.Frag} {H H' : Hp} {kvs : List (Key × V)} (t : TS H H') (h : Pl K H kvs) : Pl K H' kvs := ⟨h.ks, h.nd, h.l0, h.l1, fun p hp => (h.vs p hp).m t⟩
def Ad (K : PySem.W.Frag) (H : Hp) (ws : List V) : Prop := ws.length ≤ 10 ∧ ∀ v ∈ ws, AddrV K H v
theorem Ad.m {K : PySem.W.Frag} {H H' : Hp} {ws : List V} (t : TS H H') (h : Ad K H ws) : Ad K H' ws := ⟨h.1, fun p hp => (h.2 p hp).m t⟩
/-- a list of addresses is data -/
theorem addr_data {K : PySem.W.Frag} {H : Hp} : ∀ {ws : List V}, (∀ v ∈ ws, AddrV K H v) → ∃ ds, DtAll K H ws ds ∧ (∀ d ∈ ds, Shp 1 d) ∧ (∀ d ∈ ds, Sz 1 89 d)
  | [], _ => ⟨[], .nil, (fun _ h => nomatch h), fun _ h => nomatch h⟩
  | v :: r, h => by
    obtain ⟨ds, a, b, c⟩ := addr_data (ws := r) fun x hx => h x (List.mem_cons_of_mem _ hx)
    obtain ⟨i, j, hd, i0, i1, j0, j1⟩ := h v List.mem_cons_self
    refine ⟨.tuple [.int i, .int j] :: ds, .cons hd a, fun d hd => ?_, fun d hd => ?_⟩
    · rcases List.mem_cons.mp hd with rfl | hd
      · refine Shp.tuple (k := 0) fun d hd => ?_
        rcases List.mem_cons.mp hd with rfl | hd
        · exact Shp.int _
        · rw [List.mem_singleton.mp hd]
          exact Shp.int _
      · exact b d hd
    · rcases List.mem_cons.mp hd with rfl | hd
      · refine (Sz.tuple (k := 0) (n := 41) (ds := [.int i, .int j]) fun d hd => ?_).mono (by decide) (by simp)
        rcases List.mem_cons.mp hd with rfl | hd
        · exact Sz.int (m := 40) (by decide) (by omega) (by decide)
        · rw [List.mem_singleton.mp hd]
          exact Sz.int (m := 40) (by decide) (by omega) (by decide)
      · exact c d hd
theorem valV_mem {kvs : List (Key × V)} {k : Key} {v : V} (h : valV kvs k = some v) : (k, v) ∈ kvs := by
  unfold valV at h
  cases e : kvs.find? (fun kv => decide (kv.1 = k)) with
  | none => rw [e] at h; cases h
  | some p =>
    rw [e] at h
    cases h
    have h1 : p.1 = k := of_decide_eq_true (List.find?_some (p := fun kv : Key × V => decide (kv.1 = k)) e)
    have h2 := List.mem_of_find?_eq_some e
    rw [← h1]
    exact h2
theorem valV_of_key {kvs : List (Key × V)} {k : Key} (h : k ∈ kvs.map (·.1)) : ∃ v, valV kvs k = some v := by
  obtain ⟨p, hp, rfl⟩ := List.mem_map.mp h
  have : (valV kvs p.1).isSome = true := by
    rw [← valV_any]
    exact List.any_eq_true.mpr ⟨p, hp, decide_eq_true rfl⟩
  exact Option.isSome_iff_exists.mp this
def tabF (d l : Addr) (nb dd lg : Int) : List (Str × V) := [("spots_by_number", V.ref d), ("number_behind", V.int nb), ("deeds_done", V.int dd), ("last_group", V.int lg), ("checkpoint_spots", V.ref l)]
theorem tab_1 (d l : Addr) (nb dd lg : Int) : (tabF d l nb dd lg).lookup ("spots_by_number" : Str) = some (.ref d) := lk0
theorem tab_2 (d l : Addr) (nb dd lg : Int) : (tabF d l nb dd lg).lookup ("number_behind" : Str) = some (.int nb) := lkS (by decide +kernel) lk0
theorem tab_3 (d l : Addr) (nb dd lg : Int) : (tabF d l nb dd lg).lookup ("deeds_done" : Str) = some (.int dd) := lkS (by decide +kernel) (lkS (by decide +kernel) lk0)
theorem tab_4 (d l : Addr) (nb dd lg : Int) : (tabF d l nb dd lg).lookup ("last_group" : Str) = some (.int lg) := lkS (by decide +kernel) (lkS (by decide +kernel) (lkS (by decide +kernel) lk0))
theorem tab_5 (d l : Addr) (nb dd lg : Int) : (tabF d l nb dd lg).lookup ("checkpoint_spots" : Str) = some (.ref l) := lkS (by decide +kernel) (lkS (by decide +kernel) (lkS (by decide +kernel) (lkS (by decide +kernel) lk0)))
theorem tab_no (d l : Addr) (nb dd lg : Int) {m : Str} (h : ([("spots_by_number" : Str), "number_behind", "deeds_done", "last_group", "checkpoint_spots"] : List Str).all (fun f => !decide (m = f)) = true) : (tabF d l nb dd lg).lookup m = none := lk_no h
/-- tables stand at x -/
structure Tab (C : Addr) (H : Hp) (x d l : Addr) (kvs : List (Key × V)) (nb dd lg : Int) (ws : List V) : Prop where
  ob : ∃ dx, H x = some (.ins C dx (tabF d l nb dd lg))
  dc : H d = some (.dK kvs)
  ls : H l = some (.lst ws)
theorem Tab.m {C : Addr} {H H' : Hp} {x d l : Addr} {kvs : List (Key × V)} {nb dd lg : Int} {ws : List V} (t : Same H H') (h : Tab C H x d l kvs nb dd lg ws) : Tab C H' x d l kvs nb dd lg ws := by
  obtain ⟨⟨dx, e⟩, h1, h2⟩ := h
  exact ⟨⟨dx, t _ _ e⟩, t _ _ h1, t _ _ h2⟩
end Cl

/-! ### ClStar: targets with a star -/
namespace Cl
open PySem PySem.Spec PySem.Calls PySem.W PyProof.Rows L2
section
variable {prog : Program} {w : World} {A : Around} {E : Value → Shared → Prop} {s : Shared}
/-- what a target with a star takes of a list -/
theorem star_list {l : Addr} {items : Array Value} {n i : Nat} {Q : List Value → Shared → Prop} (hl : s.heap.IsList l items) (hh : A.handled = none) (hi : i < n) (hn : n ≤ items.size + 1) (hz : items.size ≤ 16384)
    (h : ∀ (h' : Heap) (tk : Nat), (∀ b o, s.heap.get? b = some o → h'.get? b = some o) → Q (items.toList.take i ++ [.ref h'.objs.size] ++ (items.toList.drop i).drop (items.size + 1 - n))
      { s with heap := h'.push { cls := .type "list", data := .seq ((items.toList.drop i).take (items.size + 1 - n)).toArray }, toks := tk }) : wpAny (model prog w) A (unpackItems (.ref l) n (some i)) Q E s := by
  have hlt : l ≠ s.heap.objs.size := by obtain ⟨o, ho, _⟩ := hl; exact Nat.ne_of_lt (Heap.lt_size ho)
  have hll : l < s.heap.objs.size := by obtain ⟨o, ho, _⟩ := hl; exact Heap.lt_size ho
  unfold unpackItems
  refine wpAny_bind ?_
  unfold notIterableAtAll
  refine wpAny_bind (wpAny_specialOf hl.typeIs slot_list_iter.lookup ?_)
  refine wpAny_pure ?_
  simp only [Bool.false_eq_true, if_false]
  refine wpAny_bind (wpAny_holding (wpAny_pyIter_list hl ?_))
  refine wpAny_bind (wpAny_holding (kun_draw hlt i 0 _ _ ⟨_, Heap.get?_push_size _ rfl, rfl, rfl⟩ (hl.push _) (by omega) fun h₁ hit₁ hs₁ => ?_))
  have hl₁ : h₁.IsList l items := (hl.push _).extBut hs₁.extBut hlt
  rw [Nat.zero_add] at hit₁
  have hit₁' := hit₁
  obtain ⟨oi, hoi, _⟩ := hit₁'
  have hl₁' := hl₁
  obtain ⟨ol, hol, _⟩ := hl₁'
  rw [List.drop_zero]
  have hfl : (items.toList.take i).length = i := by rw [List.length_take, Array.length_toList]; omega
  rw [if_neg (show ¬ ((items.toList.take i).length < i) by rw [hfl]; omega)]
  refine wpAny_bind (wpAny_holding (kun_collect (s := { s with heap := h₁ }) (T := "list_iterator") (.inr (.inr (.inl rfl))) (Walks.list (A := A.in1) hh s.heap.objs.size l hlt items) (fun j u st => st.1.typeIs) (k := i) (by omega) ⟨hit₁, hl₁⟩ (Heap.lt_size hoi) (Heap.lt_size hol) (fun h₂ tk hk => ?_) (by rw [sizeLine_eq]; omega)))
  have hrl : (items.toList.drop i).length = items.size - i := by rw [List.length_drop, Array.length_toList]
  have hmid : (items.toList.drop i).length - (n - 1 - i) = items.size + 1 - n := by rw [hrl]; omega
  show wpAny _ _ (if (items.toList.drop i).length < n - 1 - i then _ else _) _ _ _
  rw [if_neg (by rw [hrl]; omega)]
  show wpAny _ _ (newList ((items.toList.drop i).take ((items.toList.drop i).length - (n - 1 - i))) >>= fun d => pure (items.toList.take i ++ [d] ++ (items.toList.drop i).drop ((items.toList.drop i).length - (n - 1 - i)))) _ _ _
  rw [hmid]
  have he : ∀ b o, s.heap.get? b = some o → h₂.get? b = some o := fun b o e => hk b o (Nat.ne_of_lt (Heap.lt_size e)) (hs₁.extBut b o (Nat.ne_of_lt (Heap.lt_size e)) (Heap.get?_push_of_some _ e))
  exact wpAny_bind (wpAny_newList (s := { s with heap := h₂, toks := tk }) (wpAny_pure (h h₂ tk he)) (by rw [List.length_take, hrl, sizeLine_eq]; omega))
theorem star_tuple {l : Addr} {items : Array Value} {n i : Nat} {Q : List Value → Shared → Prop} (hl : IsTup s.heap l items) (hh : A.handled = none) (hi : i < n) (hn : n ≤ items.size + 1) (hz : items.size ≤ 16384)
    (h : ∀ (h' : Heap) (tk : Nat), (∀ b o, s.heap.get? b = some o → h'.get? b = some o) → Q (items.toList.take i ++ [.ref h'.objs.size] ++ (items.toList.drop i).drop (items.size + 1 - n))
      { s with heap := h'.push { cls := .type "list", data := .seq ((items.toList.drop i).take (items.size + 1 - n)).toArray }, toks := tk }) : wpAny (model prog w) A (unpackItems (.ref l) n (some i)) Q E s := by
  have hlt : l ≠ s.heap.objs.size := by obtain ⟨o, ho, _⟩ := hl; exact Nat.ne_of_lt (Heap.lt_size ho)
  have hll : l < s.heap.objs.size := by obtain ⟨o, ho, _⟩ := hl; exact Heap.lt_size ho
  unfold unpackItems
  refine wpAny_bind ?_
  unfold notIterableAtAll
  refine wpAny_bind (wpAny_specialOf hl.typeIs slot_tuple_iter.lookup ?_)
  refine wpAny_pure ?_
  simp only [Bool.false_eq_true, if_false]
  refine wpAny_bind (wpAny_holding (iter_tuple hl ?_))
  refine wpAny_bind (wpAny_holding (draw_tuple hlt i 0 _ _ ⟨_, Heap.get?_push_size _ rfl, rfl, rfl⟩ (hl.push _) (by omega) fun h₁ hit₁ hs₁ => ?_))
  have hl₁ : IsTup h₁ l items := (hl.push _).extBut hs₁.extBut hlt
  rw [Nat.zero_add] at hit₁
  have hit₁' := hit₁
  obtain ⟨oi, hoi, _⟩ := hit₁'
  have hl₁' := hl₁
  obtain ⟨ol, hol, _⟩ := hl₁'
  rw [List.drop_zero]
  have hfl : (items.toList.take i).length = i := by rw [List.length_take, Array.length_toList]; omega
  rw [if_neg (show ¬ ((items.toList.take i).length < i) by rw [hfl]; omega)]
  refine wpAny_bind (wpAny_holding (kun_collect (s := { s with heap := h₁ }) (T := "tuple_iterator") (.inr (.inr (.inr rfl))) (Walks.tuple (A := A.in1) hh s.heap.objs.size l hlt items) (fun j u st => st.1.typeIs) (k := i) (by omega) ⟨hit₁, hl₁⟩ (Heap.lt_size hoi) (Heap.lt_size hol) (fun h₂ tk hk => ?_) (by rw [sizeLine_eq]; omega)))
  have hrl : (items.toList.drop i).length = items.size - i := by rw [List.length_drop, Array.length_toList]
  have hmid : (items.toList.drop i).length - (n - 1 - i) = items.size + 1 - n := by rw [hrl]; omega
  show wpAny _ _ (if (items.toList.drop i).length < n - 1 - i then _ else _) _ _ _
  rw [if_neg (by rw [hrl]; omega)]
  show wpAny _ _ (newList ((items.toList.drop i).take ((items.toList.drop i).length - (n - 1 - i))) >>= fun d => pure (items.toList.take i ++ [d] ++ (items.toList.drop i).drop ((items.toList.drop i).length - (n - 1 - i)))) _ _ _
  rw [hmid]
  have he : ∀ b o, s.heap.get? b = some o → h₂.get? b = some o := fun b o e => hk b o (Nat.ne_of_lt (Heap.lt_size e)) (hs₁.extBut b o (Nat.ne_of_lt (Heap.lt_size e)) (Heap.get?_push_of_some _ e))
  exact wpAny_bind (wpAny_newList (s := { s with heap := h₂, toks := tk }) (wpAny_pure (h h₂ tk he)) (by rw [List.length_take, hrl, sizeLine_eq]; omega))
end
section
variable {X : Cx} {pos : Pos}
theorem objOk_get {P : Program} {w : World} {H : Hp} {h : Heap} {a : Addr} {o : HO} (x : ObjOk P w H h a o) : ∃ u, h.get? a = some u := by
  cases o with
  | lst xs => obtain ⟨_, _, _, _, e⟩ := x; exact ⟨_, e⟩
  | tup xs => obtain ⟨_, _, _, _, e, _⟩ := x; exact ⟨_, e⟩
  | dK kvs => obtain ⟨_, _, _, _, o, _, _, e, _⟩ := x; exact ⟨_, e⟩
  | dT kvs => obtain ⟨_, _, _, _, o, _, _, e, _⟩ := x; exact ⟨_, e⟩
  | set S n => obtain ⟨o, _, _, _, e, _⟩ := x; exact ⟨_, e⟩
  | ins C dx fs => obtain ⟨_, _, _, e, _⟩ := x; exact ⟨_, e⟩
  | own y => exact x
  | xd fs => obtain ⟨_, ⟨_, _, _, e, _⟩, _⟩ := x; exact ⟨_, e⟩
  | rng lo hi => obtain ⟨_, _, _, e⟩ := x; exact ⟨_, e⟩
  | frz ob u => exact ⟨_, x.1⟩
  | tbl ps => exact ⟨_, x⟩
  | met f x' => exact ⟨_, x⟩
  | ext φ => exact x.2.1
/-- a target among others that has a star -/
theorem pgs_star {e : Expr} {es : List Expr} {t : TG} {u : TGs} {p : Pos} (h1 : PG X e t) (h2 : PGs X es u)
    (hs : (assignEach (.Starred e p :: es) X.env).map (·.2) = assign e X.env :: (assignEach es X.env).map (·.2) := by rfl) : PGs X (.Starred e p :: es) (gCons t u) := by
  refine ⟨fun pins s σ H vs us Q I r h => ?_⟩
  obtain ⟨v, vr, e1, h⟩ := h
  subst e1
  cases r with
  | cons r rr =>
    rw [hs]
    refine assignInOrder_cons (thn (h1.run pins s σ H _ _ _ I r h) fun _ s1 ⟨σ1, H1, I1, q1⟩ => ?_)
    exact h2.run pins s1 σ1 H1 _ _ Q I1 rr q1
/-- the things of a list or a tuple to n targets, of which the i-th has a star -/
def gStar (K : PySem.W.Frag) (n i : Nat) (t : TGs) : TG := fun v σ H Q => ∃ a xs, v = .ref a ∧ (SqL K H a xs ∨ SqT K H a xs) ∧ n ≤ xs.length + 1 ∧ xs.length ≤ 16384 ∧
  ∀ D, H D = none → t (xs.take i ++ [.ref D] ++ (xs.drop i).drop (xs.length + 1 - n)) σ (upd H D (.lst ((xs.drop i).take (xs.length + 1 - n)))) Q
theorem pg_tupStar {es : List Expr} {k : Nat} {t : TGs} {n i : Nat} (hc : X.calm = true) (h : PGs X es t)
    (hn : (assignEach es X.env).length = n := by rfl) (hst : (assignEach es X.env).findIdx? (·.1) = some i := by rfl) (hi : i < n := by decide) : PG X (.Tuple es k pos) (gStar X.K n i t) := by
  refine ⟨fun pins s σ H v u Q I r hw => ?_⟩
  obtain ⟨a, xs, e1, hq, hl, hz, hw⟩ := hw
  subst e1
  cases r
  have fin : ∀ (its : List Value), Vals xs its → ∀ (h' : Heap) (tk : Nat), (∀ b o, s.heap.get? b = some o → h'.get? b = some o) →
      wpAny (model X.prog X.w) X.A (assignInOrder ((assignEach es X.env).map (·.2)) (its.toArray.toList.take i ++ [.ref h'.objs.size] ++ (its.toArray.toList.drop i).drop (its.toArray.size + 1 - n))) (fun _ s' => ∃ σ' H', Inv X pins σ' H' s' ∧ Q σ' H') X.xe
        { s with heap := h'.push { cls := .type "list", data := .seq ((its.toArray.toList.drop i).take (its.toArray.size + 1 - n)).toArray }, toks := tk } := by
    intro its rv h' tk hk
    have hlen := rv.length
    rw [show its.toArray.size = xs.length from by rw [List.size_toArray, ← hlen]]
    have hg : s.heap.get? h'.objs.size = none := by
      cases q : s.heap.get? h'.objs.size with
      | none => rfl
      | some o => exact absurd (Heap.lt_size (hk _ o q)) (Nat.lt_irrefl _)
    have hf : H h'.objs.size = none := by
      cases q : H h'.objs.size with
      | none => rfl
      | some u =>
        obtain ⟨o, e⟩ := objOk_get (I.hok _ u q)
        rw [hg] at e
        cases e
    refine h.run pins _ σ _ _ _ Q (I.laidN (t' := tk) (fun b u e => Heap.get?_push_of_some _ (hk b u e)) hg hf ?_) ?_ (hw _ hf)
    · exact ⟨by rw [sizeLine_eq, List.length_take, List.length_drop]; omega, _, 0, (rv.drop i).take _, Heap.get?_push_size _ rfl⟩
    · exact Vals.append (Vals.append (rv.take i) (.cons rfl .nil)) ((rv.drop i).drop _)
  rcases hq with hq | hq
  · obtain ⟨its, rv, ht, _⟩ := I.list hq
    rw [assign_Tuple]
    refine wpAny_bind (wpAny_standAt ?_)
    unfold unpack
    rw [hn, hst]
    exact wpAny_bind (wpAny_holding (star_list ht.isList (I.ok.hd hc) hi (by simpa [← rv.length] using hl) (by simpa [← rv.length] using hz) (fin its rv)))
  · obtain ⟨its, rv, ht, _⟩ := I.tuple hq
    rw [assign_Tuple]
    refine wpAny_bind (wpAny_standAt ?_)
    unfold unpack
    rw [hn, hst]
    exact wpAny_bind (wpAny_holding (star_tuple ht (I.ok.hd hc) hi (by simpa [← rv.length] using hl) (by simpa [← rv.length] using hz) (fin its rv)))
end
end Cl

/-! ### ClSortIt: sorted(d.items()) of a dict from ints to objects -/
namespace Cl
open PySem PySem.Spec PySem.Calls PySem.W PyProof.Rows L2 L2.DX
section
variable {X : Cx}
def rItemsK : V → List V → Hp → VK → Prop := fun x xs H Q => ∃ (a : Addr) (kvs : List (Key × V)), x = .ref a ∧ xs = [] ∧ H a = some (.dK kvs) ∧ ∀ p, H p = none → Q (.ref p) (upd H p (itemsO p a))
theorem dk_raw {P : Program} {w : World} {H : Hp} {h : Heap} {a : Addr} {kvs : List (Key × V)} (x : ObjOk P w H h a (.dK kvs)) :
    kvs.length ≤ sizeLine ∧ (a == sysModules) = false ∧ ∃ (vs : List (Key × Value)) (es : Array DictEntry) (ep : Nat), KV kvs vs ∧ DT.Raw h a es ep ∧ Pairs (mixKind P w) es.toList vs ∧ (vs.map (·.1)).Nodup := by
  obtain ⟨z, hd, vs, kv, o, es, ep, ho, hx, hdat, _, hp, hn⟩ := x
  exact ⟨z, hd, vs, es, ep, kv, ⟨o, ho, hx, hdat⟩, hp, hn⟩
theorem mt_itemsK : MtR X "dict.items" rItemsK := by
  intro pins s σ H x xs v us Q I rx rxs h
  obtain ⟨a, kvs, rfl, rfl, ha, q⟩ := h
  cases rx
  cases rxs
  obtain ⟨z, hd, vs, es, ep, kv, raw, _⟩ := dk_raw (I.hok a _ ha)
  refine DT.callItems (es := es) (ep := ep) hd raw ?_
  have hf : H s.heap.objs.size = none := I.hok.fresh (Nat.le_refl _)
  exact ⟨.ref s.heap.objs.size, upd H s.heap.objs.size (itemsO s.heap.objs.size a), I.laid (t' := s.toks) (fun b u e => Heap.get?_push_of_some _ e) (Nat.le_refl _) (itemsO_ok (Heap.get?_push_size _ rfl)), rfl, q _ hf⟩
end
theorem pairs_get {P : Program} {w : World} : ∀ {es : List DictEntry} {vs : List (Key × Value)}, Pairs (mixKind P w) es vs → ∀ {j : Nat} {e : DictEntry}, es[j]? = some e → ∃ kv, vs[j]? = some kv ∧ keyIs kv.1 e.key = true ∧ e.val = kv.2
  | _, _, .nil, j, e, h => by cases h
  | _, _, .cons a b t, 0, e, h => by
    cases h
    exact ⟨_, rfl, a, b⟩
  | _, _, .cons a b t, j + 1, e, h => pairs_get t h
theorem pairs_len {P : Program} {w : World} : ∀ {es : List DictEntry} {vs : List (Key × Value)}, Pairs (mixKind P w) es vs → es.length = vs.length
  | _, _, .nil => rfl
  | _, _, .cons _ _ t => congrArg (· + 1) (pairs_len t)
/-- the value is a pair of an int and an object -/
def PairI (h : Heap) (v : Value) (n : Int) (c : Addr) : Prop := ∃ (a : Addr) (t : Tok), v = .ref a ∧ IsTup h a #[.int n t, .ref c]
def fstI (h : Heap) (v : Value) : Int := match DT.seqAt0 h (DT.refOf (some v)) with
  | some (.int n _) => n
  | _ => 0
theorem PairI.fst {h : Heap} {v : Value} {n : Int} {c : Addr} (x : PairI h v n c) : fstI h v = n := by
  obtain ⟨a, t, rfl, h1⟩ := x
  unfold fstI
  show (match DT.seqAt0 h a with | some (.int n _) => n | _ => 0) = n
  rw [DT.seqAt0_of h1]
  rfl
theorem firsts_pi {h : Heap} : ∀ vs : List Value, (∀ v ∈ vs, ∃ n c, PairI h v n c) → ∃ fs : List Value, KatTups h vs fs ∧ fs.length = vs.length ∧ ∀ f ∈ fs, ∃ n t, f = Value.int n t
  | [], _ => ⟨[], KatTups.nil, rfl, fun f hf => by simp at hf⟩
  | v :: vs, x => by
    obtain ⟨fs, k, hl, hi⟩ := firsts_pi vs fun u hu => x u (List.mem_cons_of_mem _ hu)
    obtain ⟨m, c, a, t, rfl, ⟨o, ho, hc, n, hd⟩⟩ := x v (List.mem_cons_self ..)
    refine ⟨.int m t :: fs, KatTups.cons ho hc hd rfl k, by rw [List.length_cons, List.length_cons, hl], fun f hf => ?_⟩
    rcases List.mem_cons.mp hf with rfl | hf
    · exact ⟨m, t, rfl⟩
    · exact hi f hf
section
variable {prog : Program} {w : World} {A : Around} {E : Value → Shared → Prop} {s : Shared}
theorem eqBool_same {a : Addr} {Q : Bool → Shared → Prop} (h : Q true s) : wpAny (model prog w) A (eqBool (.ref a) (.ref a)) Q E s := by
  unfold eqBool
  refine wpAny_holding ?_
  refine wpAny_ite_split (fun _ => ?_) (fun hab => absurd (beq_self_eq_true _) hab)
  exact wpAny_bind (wpAny_rule (wpAny_pure h))
theorem kind_pi {vs : List Value} (h2 : 2 ≤ vs.length) (x : ∀ v ∈ vs, ∃ n c, PairI s.heap v n c) (inj : ∀ v ∈ vs, ∀ u ∈ vs, ∀ n c d, PairI s.heap v n c → PairI s.heap u n d → c = d) (Q : SortKind → Shared → Prop)
    (h : ∀ κ, TS.Cmp prog w A s κ (pairsOf vs) (fstI s.heap) → Q κ s) : wpAny (model prog w) A (keyKind' vs.toArray) Q E s := by
  obtain ⟨fs, k, hl, hi⟩ := firsts_pi vs x
  refine kat_kind (T := Value.type "int") k (by omega) (fun f hf => ?_) rfl (h _ ?_)
  · obtain ⟨n, t, rfl⟩ := hi f hf
    exact PySem.W.Looks.of_pure rfl
  · intro p q hp hq Q' E' hQ
    rw [pairsOf_toList] at hp hq
    have mp := (mem_zip_self hp).2
    have mq := (mem_zip_self hq).2
    obtain ⟨n, c, py⟩ := x _ mp
    obtain ⟨m, d, pz⟩ := x _ mq
    have hQ' : Q' (decide (n < m)) s := by
      have hQ2 : Q' (decide (fstI s.heap p.1 < fstI s.heap q.1)) s := hQ
      rw [py.fst, pz.fst] at hQ2
      exact hQ2
    have ij : n = m → c = d := fun e => inj _ mp _ mq n c d py (e ▸ pz)
    obtain ⟨a, t, e1, ⟨o, ho, hc, k1, hd⟩⟩ := py
    obtain ⟨b, u, e2, ⟨o', ho', hc', k2, hd'⟩⟩ := pz
    rw [e1, e2]
    refine kat_lt ho hd ho' hd' ?_
    show KatLex prog w A _ false Q' [(Value.int n t, Value.int m u), (Value.ref c, Value.ref d)] 0 s
    refine kat_cons (wpAny_eqBool_int ?_)
    by_cases e : n = m
    · have ec := ij e
      subst e
      subst ec
      rw [beq_self_eq_true]
      rw [decide_eq_false (Int.lt_irrefl _)] at hQ'
      exact kat_yes (kat_cons (eqBool_same (kat_yes (kat_nil hQ'))))
    · rw [show (n == m) = false from beq_eq_false_iff_ne.mpr e]
      exact kat_no (TS.oneLt_ints _ hQ')
end
/-- the number of an entry -/
def keyN (q : Key × V) : Int := match q.1 with
  | .inl n => n
  | .inr _ => 0
def rSortItI : List V → Hp → VK → Prop := fun vs H Q => ∃ (p a : Addr) (kvs : List (Key × V)), vs = [.ref p] ∧ H p = some (itemsO p a) ∧ H a = some (.dK kvs) ∧ kvs.length < 64 ∧ (∀ q ∈ kvs, ∃ (n : Int) (c : Addr), q = (Sum.inl n, V.ref c)) ∧
  ∀ (H' : Hp) (l : Addr) (ts : List Addr) (rows : List (Key × V)), Same H H' → H l = none → rows.Perm kvs → rows.Pairwise (fun e f => keyN e ≤ keyN f) → H' l = some (.lst (ts.map V.ref)) →
    Paired (fun (t : Addr) (q : Key × V) => H' t = some (.tup [kV q.1, q.2])) ts rows → (∀ t ∈ ts, H t = none) → Q (.ref l) H'
theorem paired_of {α β : Type} {F : α → β → Prop} : ∀ (zs : List (α × β)), (∀ z ∈ zs, F z.1 z.2) → Paired F (zs.map (·.1)) (zs.map (·.2))
  | [], _ => .nil
  | z :: zs, h => .cons (h z List.mem_cons_self) (paired_of zs fun y hy => h y (List.mem_cons_of_mem _ hy))
theorem cr_sortedItI {X : Cx} (hc : X.calm = true) : CallR X (.builtin "sorted") rSortItI := by
  intro pins s σ H xs us Q I r h
  obtain ⟨p, a, kvs, rfl, hp, ha, h64, hv, q⟩ := h
  obtain rfl := Vals.ref1 r
  have view : s.heap.IsItemsView p a := (show ObjOk X.prog X.w H s.heap p (itemsO p a) from I.hok p _ hp).1
  obtain ⟨z, hd, vs, es, ep, kv, raw, hprs, hnd⟩ := dk_raw (I.hok a _ ha)
  have l1 : kvs.length = vs.length := Paired.length kv
  have l2 : es.size = vs.length := by rw [← Array.length_toList]; exact pairs_len hprs
  have hh : X.A.handled = none := I.ok.hd hc
  refine DT.sortedI (es := es) (ep := ep) hh view raw (by rw [sizeLine_eq]; omega) fun h' tk as hk hlt hl hG => ?_
  have lak : as.length = kvs.length := by omega
  have nd : as.Nodup := List.Pairwise.imp (fun h => Nat.ne_of_lt h) hG.rise
  -- the pairs that were made
  have pr : ∀ (j : Nat) (b : Addr), as[j]? = some b → ∃ (n : Int) (c : Addr) (t : Tok), kvs[j]? = some (Sum.inl n, V.ref c) ∧ h'.get? b = some { cls := .type "tuple", data := .seq #[Value.int n t, Value.ref c] } := by
    intro j b hj
    obtain ⟨en, he, hg⟩ := hG.pairs j b hj
    obtain ⟨w0, hw, hkey, hval⟩ := pairs_get hprs (j := j) (e := en) (by rw [Array.getElem?_toList]; exact he)
    obtain ⟨e0, he0, r1, r2⟩ := pget kv hw
    obtain ⟨n, c, rfl⟩ := hv e0 (List.mem_of_getElem? he0)
    have r1' : w0.1 = Sum.inl n := r1.symm
    rw [r1'] at hkey
    obtain ⟨t, ht⟩ : ∃ t, en.key = Value.int n t := by
      rcases keyIs_shape hkey with ⟨i, t, e1, e2⟩ | ⟨x, t, e1, e2⟩
      · cases e1
        exact ⟨t, e2⟩
      · cases e1
    have hx : en.val = Value.ref c := by
      rw [hval]
      exact (show RelV (V.ref c) w0.2 from r2)
    refine ⟨n, c, t, he0, ?_⟩
    rw [hg, ht, hx]
  have kn : (kvs.map (·.1)).Nodup := by
    have e : kvs.map (·.1) = vs.map (·.1) := by
      have go : ∀ {l1 : List (Key × V)} {l2 : List (Key × Value)}, KV l1 l2 → l1.map (·.1) = l2.map (·.1) := by
        intro l1 l2 h
        induction h with
        | nil => rfl
        | cons f _ ih =>
          exact (congr (congrArg List.cons f.1) ih)
      exact go kv
    rw [e]
    exact hnd
  -- the heap of the sort
  have hob : (h'.push { cls := .type "list", data := .seq (as.map Value.ref).toArray }).get? h'.objs.size = some (seqObj "list" (as.map Value.ref).toArray 0) := Heap.get?_push_size _ rfl
  have kb : ∀ b o, s.heap.get? b = some o → (h'.push { cls := .type "list", data := .seq (as.map Value.ref).toArray }).get? b = some o := fun b o e => Heap.get?_push_of_some _ (hk b o e)
  have ne0 : ∀ b o, h'.get? b = some o → b ≠ h'.objs.size := fun b o e => Nat.ne_of_lt (Heap.lt_size e)
  generalize hh2 : h'.push { cls := .type "list", data := .seq (as.map Value.ref).toArray } = h2 at hob kb ⊢
  have ka : ∀ b o, h'.get? b = some o → h2.get? b = some o := fun b o e => by rw [← hh2]; exact Heap.get?_push_of_some _ e
  have pin : ∀ (j : Nat) (b : Addr), as[j]? = some b → ∃ (n : Int) (c : Addr), kvs[j]? = some (Sum.inl n, V.ref c) ∧ PairI (TS.midHeap h2 h'.objs.size (as.map Value.ref)) (.ref b) n c := by
    intro j b hj
    obtain ⟨n, c, t, he, hg⟩ := pr j b hj
    exact ⟨n, c, he, b, t, rfl, ⟨_, TS.midHeap_old (ne0 _ _ hg) (ka _ _ hg), rfl, 0, rfl⟩⟩
  have tx : ∀ (j : Nat) (b : Addr) (e : Key × V), as[j]? = some b → kvs[j]? = some e → fstI (TS.midHeap h2 h'.objs.size (as.map Value.ref)) (.ref b) = keyN e := by
    intro j b e hj he
    obtain ⟨n, c, he', hp'⟩ := pin j b hj
    have ee := Option.some.inj (he'.symm.trans he)
    rw [← ee]
    exact hp'.fst
  have at_ : ∀ v ∈ as.map Value.ref, ∃ (j : Nat) (b : Addr), v = .ref b ∧ as[j]? = some b := by
    intro v hv'
    obtain ⟨b, hb, rfl⟩ := List.mem_map.mp hv'
    obtain ⟨j, hj⟩ := List.mem_iff_getElem?.mp hb
    exact ⟨j, b, rfl, hj⟩
  refine wpAny_call_entry PyProof.Rows.slot_list_sort ⟨_, hob, rfl⟩ PyProof.Rows.entry_list_sort
    (SK.plain_sort (s := { s with heap := h2, toks := tk }) (r := fun v => fstI (TS.midHeap h2 h'.objs.size (as.map Value.ref)) v) hob (by rw [List.length_map]; omega) (fun h2' Qk hQk => ?_) fun ps out o1 o2 o3 => ⟨.none, rfl, ?_⟩) (PyProof.Rows.args_list_sort _)
  · refine kind_pi (s := { s with heap := TS.midHeap h2 h'.objs.size (as.map Value.ref), toks := tk }) h2' (fun v hv' => ?_) (fun v hv' u hu' n c d pv pu => ?_) Qk hQk
    · obtain ⟨j, b, rfl, hj⟩ := at_ v hv'
      obtain ⟨n, c, _, hp'⟩ := pin j b hj
      exact ⟨n, c, hp'⟩
    · obtain ⟨j, b, rfl, hj⟩ := at_ v hv'
      obtain ⟨i, b2, rfl, hi⟩ := at_ u hu'
      obtain ⟨n1, c1, hk1, hp1⟩ := pin j b hj
      obtain ⟨n2, c2, hk2, hp2⟩ := pin i b2 hi
      have e1 : n1 = n := hp1.fst.symm.trans pv.fst
      have e2 : n2 = n := hp2.fst.symm.trans pu.fst
      have eij : j = i := by
        have a1 : (kvs.map (·.1))[j]? = some (Sum.inl n) := by rw [List.getElem?_map, hk1, e1]; rfl
        have a2 : (kvs.map (·.1))[i]? = some (Sum.inl n) := by rw [List.getElem?_map, hk2, e2]; rfl
        exact (List.getElem?_inj (List.getElem?_eq_some_iff.mp a1).1 kn).mp (a1.trans a2.symm)
      subst eij
      have eb : b = b2 := Option.some.inj (hj.symm.trans hi)
      subst eb
      obtain ⟨a1, t1, f1, ⟨o1, g1, _, _, d1⟩⟩ := pv
      obtain ⟨a2, t2, f2, ⟨o2, g2, _, _, d2⟩⟩ := pu
      cases f1
      cases f2
      have eo := Option.some.inj (g1.symm.trans g2)
      subst eo
      rw [d1] at d2
      injection d2 with d3 _
      have d4 := congrArg Array.toList d3
      simpa using (List.cons.inj (List.cons.inj d4).2).1
  · show EP X pins σ Q (.ref h'.objs.size) { s with heap := sortedHeap h2 h'.objs.size (as.map Value.ref) out, toks := tk }
    obtain ⟨zs, pz, ez⟩ := perm_lift (fun z : Addr × (Key × V) => (Value.ref z.1, Value.ref z.1)) o2 (as.zip kvs) (zip_self Value.ref as kvs lak)
    have idx : ∀ z ∈ zs, ∃ j : Nat, as[j]? = some z.1 ∧ kvs[j]? = some z.2 := by
      intro z' hz'
      obtain ⟨j, hj⟩ := List.mem_iff_getElem?.mp (pz.mem_iff.mp hz')
      exact ⟨j, List.getElem?_zip_eq_some.mp hj⟩
    have hout : out.toList = zs.map fun z => Value.ref z.1 := by
      rw [o1, ← ez, List.map_map]
      all_goals rfl
    have hperm : (zs.map (·.2)).Perm kvs := by
      have e := pz.map (·.2)
      have m2 : (as.zip kvs).map (·.2) = kvs := List.map_snd_zip (by rw [lak]; exact Nat.le_refl _)
      rw [m2] at e
      exact e
    have hsort : (zs.map (·.2)).Pairwise (fun e f => keyN e ≤ keyN f) := by
      rw [← ez, List.pairwise_map] at o3
      rw [List.pairwise_map]
      refine List.Pairwise.imp_of_mem (fun {x y} hx hy h => ?_) o3
      obtain ⟨j, j1, j2⟩ := idx x hx
      obtain ⟨i, i1, i2⟩ := idx y hy
      have h' : fstI (TS.midHeap h2 h'.objs.size (as.map Value.ref)) (.ref x.1) ≤ fstI (TS.midHeap h2 h'.objs.size (as.map Value.ref)) (.ref y.1) := h
      rw [tx j _ _ j1 j2, tx i _ _ i1 i2] at h'
      exact h'
    -- behind the sort
    have kF : ∀ b o, b ≠ h'.objs.size → h2.get? b = some o → (sortedHeap h2 h'.objs.size (as.map Value.ref) out).get? b = some o := fun b o hb e => (PyProof.Rows.sortedHeap_old hb (Heap.lt_size e)).trans e
    have kS : ∀ b o, s.heap.get? b = some o → (sortedHeap h2 h'.objs.size (as.map Value.ref) out).get? b = some o := fun b o e => kF b o (ne0 _ _ (hk b o e)) (kb b o e)
    obtain ⟨eF, heF⟩ := PyProof.Rows.sortedHeap_at (vs := as.map Value.ref) (out := out) hob
    have I1 : L2.Inv X pins σ H { s with heap := sortedHeap h2 h'.objs.size (as.map Value.ref) out, toks := tk } := I.kept (t' := tk) kS
    have hn0 : H h'.objs.size = none := I.hok.fresh (Nat.le_of_lt hlt)
    have hlen : (zs.map fun z => V.ref z.1).length ≤ sizeLine := by
      have e := hperm.length_eq
      rw [List.length_map] at e
      rw [List.length_map, sizeLine_eq]
      omega
    have rv : Vals (zs.map fun z => V.ref z.1) out.toList := by
      rw [hout]
      exact vals_maps (fun z : Addr × (Key × V) => V.ref z.1) (fun z => Value.ref z.1) zs fun _ _ => rfl
    have I2 : L2.Inv X pins σ (upd H h'.objs.size (.lst (zs.map fun z => V.ref z.1))) { s with heap := sortedHeap h2 h'.objs.size (as.map Value.ref) out, toks := tk } :=
      I1.take (h' := sortedHeap h2 h'.objs.size (as.map Value.ref) out) (t' := tk) (fun b ob _ e => e) (I.fpOk (Nat.le_of_lt hlt) hn0) ⟨hlen, out.toList, eF, rv, heF⟩
    obtain ⟨H2, I3, g, qt⟩ := takeT (P := fun b vs => ∃ (j : Nat) (e : Key × V), as[j]? = some b ∧ kvs[j]? = some e ∧ vs = [kV e.1, e.2]) I as _ I2 nd fun b hb => by
      obtain ⟨j, hj⟩ := List.mem_iff_getElem?.mp hb
      obtain ⟨n, c, t, he, hg⟩ := pr j b hj
      have hbl : s.heap.objs.size ≤ b := Nat.le_of_lt (hG.above b hb)
      refine ⟨hbl, ?_, [.int n, .ref c], ⟨j, (Sum.inl n, V.ref c), hj, he, rfl⟩, fun H3 => ⟨(by rw [sizeLine_eq]; show 2 ≤ 16777216; omega), [Value.int n t, Value.ref c], .cons ⟨t, rfl⟩ (.cons rfl .nil), ⟨_, kF _ _ (ne0 _ _ hg) (ka _ _ hg), rfl, 0, rfl⟩⟩⟩
      rw [upd_ne (ne0 _ _ hg)]
      exact I.hok.fresh hbl
    have gr : Same H H2 := fun b o e => g b o (by rw [upd_ne (ne_of_none e hn0)]; exact e)
    have em : (zs.map fun z => V.ref z.1) = (zs.map (·.1)).map V.ref := by rw [List.map_map]; rfl
    refine ⟨.ref h'.objs.size, H2, I3, rfl, q H2 h'.objs.size (zs.map (·.1)) (zs.map (·.2)) gr hn0 hperm hsort (by rw [← em]; exact g _ _ upd_same) (paired_of zs fun z' hz' => ?_) fun t ht => ?_⟩
    · obtain ⟨i, i1, i2⟩ := idx z' hz'
      obtain ⟨vs, ⟨j, e, j1, j2, ev⟩, hH⟩ := qt z'.1 (List.mem_of_getElem? i1)
      have eij : i = j := (List.getElem?_inj (List.getElem?_eq_some_iff.mp i1).1 nd).mp (i1.trans j1.symm)
      subst eij
      have ee : e = z'.2 := Option.some.inj (j2.symm.trans i2)
      rw [ev, ee] at hH
      exact hH
    · obtain ⟨z', hz', rfl⟩ := List.mem_map.mp ht
      obtain ⟨i, i1, _⟩ := idx z' hz'
      exact I.hok.fresh (Nat.le_of_lt (hG.above _ (List.mem_of_getElem? i1)))
end Cl

/-! ### ClEnum: enumerate(tuple) -/
namespace Cl
open PySem PySem.Spec PySem.Calls PySem.W PyProof.Rows L2
theorem meets_enumerate_new1 {v : Value} {o : Obj} {H : Heap → Prop} (B : Begins v o H) :
    Meets (Builtin.«enumerate.__new__» ⟨[.type "enumerate", v], []⟩) (fun _ R s => H s.heap ∧
      R (.ok (.ret (.ref (s.heap.push o).objs.size)))
        { s with heap := (s.heap.push o).push { cls := .type "enumerate", data := .fields #[.none, .bool false, .ref s.heap.objs.size, rawInt 0, .none, .none] } }) :=
  .of_wp fun prog w A R s h => by
    obtain ⟨hp, g, d, tk, os⟩ := s; obtain ⟨h1, h⟩ := h
    have hsub := sub_enumerate
    have q1 : ∀ {A' : Around} {E : Value → Shared → Prop} {Q : Value → Shared → Prop}, Q (.ref hp.objs.size) ⟨hp.push o, g, d, tk, os⟩ → wpAny (model prog w) A' (pyIter v) Q E ⟨hp, g, d, tk, os⟩ :=
      fun q => B.iter prog w _ _ ⟨hp, g, d, tk, os⟩ _ h1 q
    wp_walk using q1
    refine wpAny_stack_any fun st => wpAny_pure ?_
    split
    · rename_i c _ _ _ _ _
      cases (c == Value.type "enumerate")
      · wp_walk using q1
        exact ⟨_, rfl, h⟩
      · wp_walk using q1
        exact ⟨_, rfl, h⟩
    · wp_walk using q1
      exact ⟨_, rfl, h⟩
section
variable {prog : Program} {w : World} {A : Around} {E : Value → Shared → Prop} {s : Shared}
theorem enum_begins1 {v : Value} {o : Obj} {H : Heap → Prop} {Q : Value → Shared → Prop} (B : Begins v o H) (h1 : H s.heap)
    (h : ∀ h', IsEnum h' (s.heap.objs.size + 1) s.heap.objs.size 0 .none → h'.get? s.heap.objs.size = some o → h'.objs.size = s.heap.objs.size + 2 →
      (∀ b o, s.heap.get? b = some o → h'.get? b = some o) → Q (.ref (s.heap.objs.size + 1)) { s with heap := h' }) :
    wpAny (model prog w) A (call (.type "enumerate") [v]) Q E s := by
  refine callType_new F.called_enumerate (by decide) (F.typeCall_enumerate_1 _) (F.newCall_enumerate_1 _) (fun obj => F.args_object_init_2 obj _) F.entry_enumerate_new
    (meets_enumerate_new1 B) ⟨h1, ?_⟩
  have hz : (s.heap.push o).objs.size = s.heap.objs.size + 1 := Heap.size_push ..
  show _ ∧ _
  rw [hz]
  have he : IsEnum ((s.heap.push o).push { cls := .type "enumerate", data := .fields #[.none, .bool false, .ref s.heap.objs.size, rawInt 0, .none, .none] }) (s.heap.objs.size + 1) s.heap.objs.size 0 .none := by
    have := Heap.get?_push_size (s.heap.push o) (o := { cls := .type "enumerate", data := .fields #[.none, .bool false, .ref s.heap.objs.size, rawInt 0, .none, .none] }) rfl
    rw [hz] at this; exact this
  refine ⟨⟨_, he, rfl⟩, h _ he (Heap.get?_push_of_some _ (Heap.get?_push_size _ B.free)) (by rw [Heap.size_push, hz]) fun b o x => Heap.get?_push_of_some _ (Heap.get?_push_of_some _ x)⟩
end
section
variable {prog : Program} {w : World} {A : Around} {E : Value → Shared → Prop} {s : Shared}
theorem enumT_end {e it l : Addr} {i : Nat} {items : Array Value} {old : Value} {Q : Option Value → Shared → Prop} (hh : A.handled = none)
    (he : IsEnum s.heap e it i old) (hit : s.heap.IsTupleIter it l i) (hl : s.heap.IsTuple l items) (hx : items[i]? = none)
    (hQ : ∀ h', Heap.ExtBut it s.heap h' → Q none { s with heap := h' }) : wpAny (model prog w) A (pyNext (.ref e)) Q E s := by
  have hT : s.TypeIs (.ref e) "enumerate" := ⟨_, he, rfl⟩
  unfold pyNext
  refine wpAny_bind (wpAny_attempt (wpAny_callSpecial?_slot (name := Str.ofString "__next__") hT F.slot_enumerate_next
    (wpAny_call_entry F.slot_enumerate_next hT F.entry_enumerate_next ?_ (F.args_enumerate_next_1 _))))
  show wpAny _ _ (field (.ref e) 2 >>= _) _ _ _
  refine wpAny_bind (wpAny_field he rfl (x := .ref it) rfl ?_)
  refine wpAny_bind (wpAny_nextOf_tuple_end hh hit hl hx fun h' x he' hx' => ?_)
  obtain ⟨o, ho, hc⟩ := hx'
  refine wpAny_bind (wpAny_isInstance (T := "StopIteration") (b := true) ⟨o, ho, hc⟩ isSubtype_stop ?_)
  exact wpAny_pure (hQ _ he')
end
/-- the tuple at a, each item in a new pair -/
def IteT (K : PySem.W.Frag) (a : Addr) : It :=
  ⟨fun i H => ∃ (xs : List V) (x : V), SqT K H a xs ∧ xs[i]? = some x, fun i H v H' => ∃ T x, v = .ref T ∧ H T = none ∧ H' = upd H T (.tup [.int (i : Nat), x]) ∧ ∀ xs, SqT K H a xs → xs[i]? = some x, fun i H => ∃ xs : List V, SqT K H a xs ∧ xs.length ≤ i⟩
theorem turn_enumT {P : Program} {w : World} {K : PySem.W.Frag} {elts : List Expr} {kk : Nat} {tpos : Pos} (a e it : Addr) (hai : a ≠ it) :
    Turn P w K (.Tuple elts kk tpos) (IteT K a) [e, it] e (fun i h => (∃ old, IsEnum h e it ((i : Nat) : Int) old) ∧ h.IsTupleIter it a i ∧ e ≠ it ∧ e ≠ a) where
  mem := by simp
  obj := fun i h st b hb => by
    obtain ⟨⟨old, he⟩, ⟨o, ho, hc, hd⟩, _⟩ := st
    have e' : b = e ∨ b = it := by simpa using hb
    rcases e' with z | z
    · rw [z]; exact ⟨_, he, fun v q => nomatch q⟩
    · rw [z]; exact ⟨o, ho, fun v q => by rw [hd] at q; cases q⟩
  keep := fun i h h' st k => let ⟨⟨old, he⟩, hi, hne⟩ := st; ⟨⟨old, k e (by simp) _ he⟩, hi.at fun o q => k it (by simp) o q, hne⟩
  item := by
    intro X hP hw hK hc i pins s σ H E I hf st hg
    subst hP hw hK
    obtain ⟨⟨old, he⟩, hit, hne, hea⟩ := st
    obtain ⟨xs, x, hq, hx⟩ := hg
    obtain ⟨its, rv, p, hz⟩ := I.tuple hq
    obtain ⟨u, hu, ru⟩ := rv.get hx
    have hel : e < s.heap.objs.size := Heap.lt_size he
    have hil : it < s.heap.objs.size := by obtain ⟨_, q, _⟩ := hit; exact Heap.lt_size q
    have hlt : i < its.toArray.size := by
      rw [List.size_toArray, ← rv.length]
      exact (List.getElem?_eq_some_iff.mp hx).1
    refine wpAny_pyNext_enum_itemD (Draws.tuple (A := X.A.in1) (I.ok.hd hc) it a hai its.toArray) he ⟨hit, p⟩ hlt hne (by simp [hne, hea]) fun u' h' tk hu' ho hst' hT hsz hk => ?_
    obtain ⟨hit', _⟩ := hst'
    obtain rfl : u' = u := by
      have : its[i]? = some u' := by simpa using hu'
      exact Option.some.inj (this.symm.trans hu)
    refine ⟨_, rfl, wpAny_letOwnedTupleGo_enum (s := { s with heap := h', toks := tk + 1 }) ho fun h'' he' sb => ?_⟩
    have hT2 : h''.get? s.heap.objs.size = some { cls := .type "tuple", data := .seq #[.int i tk, u'] } := (sb.2 _ (Nat.ne_of_gt hel)).trans hT
    have new : ObjOk X.prog X.w (upd H s.heap.objs.size (.tup [.int (i : Nat), x])) h'' s.heap.objs.size (.tup [.int (i : Nat), x]) :=
      ⟨by show 2 ≤ sizeLine; decide, [.int i tk, u'], .cons ⟨_, rfl⟩ (.cons ru .nil), ⟨_, hT2, rfl, _, rfl⟩⟩
    have I1 : L2.Inv X pins σ (upd H s.heap.objs.size (.tup [.int (i : Nat), x])) { s with heap := h'', toks := tk + 1 } :=
      I.turnedNew (ch := [e, it]) (fun b ob hb q => (sb.2 b (fun z => hb (by simp [z]))).trans (hk b ob (fun z => hb (by simp [z])) (fun z => hb (by simp [z])) q)) hf (Nat.le_refl _) new
    refine ⟨.ref s.heap.objs.size, _, I1, rfl, ⟨_, x, rfl, I.hok.fresh (Nat.le_refl _), rfl, fun ys hy => by rw [I.tuple_inj hy hq]; exact hx⟩, ⟨⟨u', ?_⟩, hit'.at fun o q => (sb.2 it (Ne.symm hne)).trans q, hne, hea⟩, fun b hb => ?_⟩
    · have e1 : ((i + 1 : Nat) : Int) = (i : Int) + 1 := by omega
      rw [e1]; exact he'
    · have hb' : b < s.heap.objs.size := by
        have e' : b = e ∨ b = it := by simpa using hb
        rcases e' with z | z
        · rw [z]; exact hel
        · rw [z]; exact hil
      rw [upd_ne (Nat.ne_of_lt hb')]
      exact (hf b hb).1
  done := by
    intro X hP hw hK hc i pins s σ H E I hf st hg
    subst hP hw hK
    obtain ⟨⟨old, he⟩, hit, hne, hea⟩ := st
    obtain ⟨xs, hq, hx⟩ := hg
    obtain ⟨its, rv, p, hz⟩ := I.tuple hq
    obtain ⟨f0, f1, f2, f3, f4, f5⟩ := hf it (by simp)
    have hl := rv.length
    exact enumT_end (I.ok.hd hc) he hit p (by simp; omega) fun h' eb => ⟨rfl, I.turned (t' := s.toks) (fun b o hb q => eb b o hb q) f0 f1 f3 f4 f5⟩
  self := fun A i s Q E st h => let ⟨⟨_, he⟩, _⟩ := st; wpAny_pyIter_enum he h
def iEnumT (K : PySem.W.Frag) (ta : TA) : TI := fun σ H R => ta σ H fun vs H1 => ∃ a xs, vs = [.ref a] ∧ SqT K H1 a xs ∧ R (IteT K a) H1
theorem pi_enumT {X : Cx} {e : Expr} {ta : TA} {p pos tpos : Pos} {elts : List Expr} {kk : Nat} (K : PySem.W.Frag) (hg : Gl X "enumerate") (hm : X.mg "enumerate" = none) (ha : PA X [e] ta) (hs : starEach [e] X.env = [(false, eval e X.env)] := by rfl) (hK : X.K = K := by rfl) :
    PI X (.Tuple elts kk tpos) (.Call (.Name "enumerate" p) [e] [] pos) (iEnumT K ta) := by
  subst hK
  refine ⟨fun pins s σ H R I h => ?_⟩
  refine Call_ (ld_blt I hg hm boot_enumerate (PyProof.Rows.callWith_type1 (thn (ha.run pos pins s σ H _ I h) fun us s1 ⟨vs, H1, I1, r1, q1⟩ => ?_) hs rfl))
  obtain ⟨a, xs, ex, hq, q⟩ := q1
  subst ex
  cases r1 with
  | cons r rr =>
    cases rr
    cases r
    obtain ⟨its, rv, p', hz⟩ := I1.tuple hq
    have hal : a < s1.heap.objs.size := p'.lt
    refine enum_begins1 (begins_tuple a its.toArray) p' fun h' he hit hsz hk => wpAny_pyIter_enum he ?_
    have I2 : L2.Inv X pins σ H1 { s1 with heap := h' } := I1.kept (t' := s1.toks) hk
    refine ⟨s1.heap.objs.size + 1, [s1.heap.objs.size + 1, s1.heap.objs.size], _, _, H1, rfl, I2, turn_enumT a (s1.heap.objs.size + 1) s1.heap.objs.size (Nat.ne_of_lt hal), ⟨⟨.none, he⟩, ⟨_, hit, rfl, rfl⟩, Nat.succ_ne_self _, Nat.ne_of_gt (Nat.lt_succ_of_lt hal)⟩, fun b hb => ?_, q⟩
    have e' : b = s1.heap.objs.size + 1 ∨ b = s1.heap.objs.size := by simpa using hb
    have hle : s1.heap.objs.size ≤ b := by
      rcases e' with z | z
      · rw [z]; exact Nat.le_add_right _ _
      · rw [z]; exact Nat.le_refl _
    exact I1.fpOk hle (I1.hok.fresh hle)
theorem walk_enumT {K : PySem.W.Frag} {a : Addr} {xs : List V} : Walk (IteT K a) xs.length (fun H => SqT K H a xs) (YPair (fun i => some (.int (i : Nat))) (fun i => xs[i]?)) := by
  refine ⟨fun i _ hi q => ⟨xs, xs[i], q, by simp [hi]⟩, fun _ q => ⟨xs, q, Nat.le_refl _⟩, fun i H v H' _ q y => ?_⟩
  obtain ⟨T, x, h1, h2, h3, h4⟩ := y
  exact ⟨T, .int (i : Nat), x, h1, h2, h3, rfl, h4 xs q⟩
end Cl

/-! ### ClFn: defs held in names and dicts; statements that are not reached; kinds of data -/
namespace Cl
open PySem PySem.Spec PyProof.Rows L2
/-- a def at an address that keeps a promise -/
structure CalF (P : Program) (w : World) (K : PySem.W.Frag) (mg : Str → Option Value) (base : Heap) (CX : CXT) (f : Addr) (k : Nat) (ps : List Str) (sp : Sp) : Prop where
  ex : ∃ fd : FuncData, GnOk P w K mg base CX k f fd ps sp ∧ PySem.W.keepIn K (.ref f) = true ∧ Binds K fd ps []
theorem CalF.mono {P : Program} {w : World} {K : PySem.W.Frag} {mg : Str → Option Value} {base : Heap} {CX : CXT} {f : Addr} {j k : Nat} {ps : List Str} {sp : Sp} (C : CalF P w K mg base CX f j ps sp) (h : j ≤ k) : CalF P w K mg base CX f k ps sp := by
  obtain ⟨fd, a, b⟩ := C.ex
  exact ⟨fd, a.mono h, b⟩
theorem calf_mk {P : Program} {w : World} {K : PySem.W.Frag} {mg : Str → Option Value} {base : Heap} {CX : CXT} {x qual : Str} {st : Stmt} {f : Addr} {oc : Value} {od an : Option Addr} {osl : Array (Option Value)} {kV doc pm cdv ct : Value} {ps : List Str} {k : Nat} {sp : Sp}
    (l : K.lookup f = some ⟨oc, od, .func (PySem.W.fnOf x qual (defArgs st) (defBody st) (defScope st) .none kV doc pm an cdv ct), osl⟩) (c : PySem.W.codeIn K cdv qual = true) (kp : PySem.W.keepIn K (.ref f) = true)
    (hb : ∀ (kV doc pm : Value) (an : Option Addr) (cdv ct : Value) (us : List Value), us.length = ps.length → bindArgs (PySem.W.fnOf x qual (defArgs st) (defBody st) (defScope st) .none kV doc pm an cdv ct) ⟨us, []⟩ = pure (ps.zip us))
    (ok : ∀ {f : Addr} {fd : FuncData}, Fun K x qual st f fd → GnOk P w K mg base CX k f fd ps sp) : CalF P w K mg base CX f k ps sp :=
  have F := fun_mk (st := st) l c kp
  ⟨_, ok F, kp, F.binds hb⟩
/-- x(e, ..), x a local name that holds a def -/
def tCallF (P : Program) (w : World) (K : PySem.W.Frag) (mg : Str → Option Value) (base : Heap) (CX : CXT) (k i : Nat) (E : XK) (t : TA) : TE := fun σ H Q => ∃ (f : Addr) (ps : List Str) (sp : Sp), σ[i]? = some (some (.ref f)) ∧ CalF P w K mg base CX f k ps sp ∧ t σ H fun vs H1 => sp vs H1 Q E
section
variable {X : Cx} {CX : CXT} {k i : Nat} {E : XK} {x : Str} {p pos : Pos} {e : Expr} {es : List Expr} {t : TA}
theorem pe_calF (P : Program) (w : World) (K : PySem.W.Frag) (mg : Str → Option Value) (base : Heap) (hr : Rm k X.A) (hx : Passes CX X E) (hN : X.N[i]? = some x) (hv : Vis X.env.scope x) (ha : PA X (e :: es) t)
    (hd : (x == ("__debug__" : Str)) = false := by decide) (hcd : (x == ("__classdict__" : Str)) = false := by decide)
    (he : starEach (e :: es) X.env = (false, eval e X.env) :: starEach es X.env := by rfl) (hpl : (backTo pos (starEach es X.env)).any (·.1) = false := by rfl)
    (hP : X.prog = P := by rfl) (hw : X.w = w := by rfl) (hK : X.K = K := by rfl) (hm : X.mg = mg := by rfl) (hb : X.base = base := by rfl) :
    PE X (.Call (.Name x p) (e :: es) [] pos) (tCallF P w K mg base CX k i E t) := by
  subst hP hw hK hm hb
  refine ⟨fun pins s σ H Q I h => ?_⟩
  obtain ⟨f, ps, sp, hs, C, h⟩ := h
  obtain ⟨fd, F, hk, hbd⟩ := C.ex
  refine wpAny_Call_Name_kw (thn ((pe_var (pos := p) (i := i) hN hv hd hcd).run pins s σ H (fun v H1 => v = .ref f ∧ H1 = H) I ⟨.ref f, hs, rfl, rfl⟩) fun u s1 ⟨v, H1, I1, r1, ev, eH⟩ => ?_)
  subst ev
  rw [eH] at I1
  cases r1
  refine PySem.W.callWith_K (h₀ := X.base) I.ok.mod.kin hk (thn (ha.run pos pins s1 σ H _ I1 h) ?_) he hpl
  rintro us s2 ⟨vs, H2, I2, r, q⟩
  have hl := F.len _ _ _ _ q
  refine ⟨I2.kIn, gn_call F hr (?_ : BindsTo s2 fd ⟨us, []⟩ (ps.zip us)) hx I2 r q⟩
  have hb' := hbd s2 us I2.kIn (by rw [List.append_nil, ← r.length]; exact hl)
  rwa [List.append_nil] at hb'
/-- a statement that is not reached -/
theorem ps_never {st : Stmt} : PS X st (fun _ _ _ => False) := ⟨fun _ _ _ _ _ _ h => h.elim⟩
/-- a key that stands in a dict of the module -/
def rInKD (K : PySem.W.Frag) (w : World) (neg : Bool) : R2 := fun x y H Q => ∃ p z v, x = .str z ∧ y = .ref p ∧ (p == sysModules) = false ∧ KDct K w p z v ∧ Q (.bl (!neg)) H
theorem op_in_kdK (K : PySem.W.Frag) (w : World) (hw : X.w = w := by rfl) (hK : X.K = K := by rfl) : OpR X (compareOp .In) (rInKD K w false) := by
  subst hw hK
  intro pins s σ H x y v u Q I rx ry h
  obtain ⟨p, z, v0, ex, ey, hs, ⟨es, n, u0, hl, hk, e, _⟩, q⟩ := h
  exact op_in_kd (d := p) ⟨hl, hk, hs⟩ pins s σ H x y v u Q I rx ry ⟨z, _, ex, ey, e, q⟩
theorem op_notIn_kdK (K : PySem.W.Frag) (w : World) (hw : X.w = w := by rfl) (hK : X.K = K := by rfl) : OpR X (compareOp .NotIn) (rInKD K w true) := by
  subst hw hK
  intro pins s σ H x y v u Q I rx ry h
  obtain ⟨p, z, v0, ex, ey, hs, ⟨es, n, u0, hl, hk, e, _⟩, q⟩ := h
  exact op_notIn_kd (d := p) ⟨hl, hk, hs⟩ pins s σ H x y v u Q I rx ry ⟨z, _, ex, ey, e, q⟩
end
theorem pg_tupK {X : Cx} {pos : Pos} {es : List Expr} {k : Nat} {t : TGs} (K : PySem.W.Frag) (n : Nat) (hc : X.calm = true) (h : PGs X es t)
    (hn : (assignEach es X.env).length = n := by rfl) (hst : (assignEach es X.env).findIdx? (·.1) = none := by rfl) (hK : X.K = K := by rfl) : PG X (.Tuple es k pos) (gTup K n t) := by
  subst hK
  exact pg_tup hc h hn hst
/-! two fors in a comprehension -/
section
variable {J J1 : It} {n n1 : Nat} {G G1 : Hp → Prop} {Y Y1 : Nat → Hp → V → Hp → Prop}
/-- the inner for -/
theorem in_it (w : Walk J1 n1 G1 Y1) {g1 : TG} {tt1 : TT} {te : TE} {vs1 : List Nat} {σ2 : L2.St} {H4 : Hp} {D : Addr} {Nx : Hp → Prop} (Pv : Nat → Hp → Prop) (h0 : Pv 0 H4) (hG : ∀ i H, i ≤ n1 → Pv i H → G1 H)
    (hs : ∀ i x H H', i < n1 → Pv i H → Y1 i H x H' → g1 x (wipe σ2 vs1) H' fun σ3 H5 => wipe σ3 vs1 = wipe σ2 vs1 ∧ tt1 σ3 H5 fun b H6 =>
      if b = true then te σ3 H6 fun y H7 => ∃ acc, H7 D = some (.lst acc) ∧ acc.length < sizeLine ∧ Pv (i + 1) (upd H7 D (.lst (acc ++ [y]))) else Pv (i + 1) H6) (hd : ∀ H, Pv n1 H → Nx H) :
    ∃ W1 : Nat → Nat → Hp → Prop, (∃ m, W1 0 m H4) ∧ ∀ j k H, W1 j k H →
      (J1.stop j H ∧ Nx H) ∨ (J1.go j H ∧ ∃ Nx1 : Hp → Prop, (∀ H', Nx1 H' → ∃ k', k' < k ∧ W1 (j + 1) k' H') ∧ ∀ x H', J1.yld j H x H' → g1 x (wipe σ2 vs1) H' fun σ3 H5 => wipe σ3 vs1 = wipe σ2 vs1 ∧ tt1 σ3 H5 fun b H6 =>
        if b = true then te σ3 H6 fun y H7 => ∃ acc, H7 D = some (.lst acc) ∧ acc.length < sizeLine ∧ Nx1 (upd H7 D (.lst (acc ++ [y]))) else Nx1 H6) := by
  refine ⟨fun i m H => m = n1 - i ∧ i ≤ n1 ∧ Pv i H, ⟨n1, by simp, Nat.zero_le _, h0⟩, ?_⟩
  rintro i m H ⟨rfl, hi, p⟩
  have q := hG i H hi p
  by_cases hlt : i < n1
  · exact .inr ⟨w.goes i H hlt q, Pv (i + 1), fun H' p' => ⟨n1 - (i + 1), by omega, rfl, hlt, p'⟩, fun x H' y => hs i x H H' hlt p (w.yields i H x H' hlt q y)⟩
  · have e : i = n1 := by omega
    subst e
    exact .inl ⟨w.stops H q, hd H p⟩
/-- the outer for -/
theorem out_it (w : Walk J n G Y) {g : TG} {tt : TT} {wi1 : TI} {g1 : TG} {tt1 : TT} {te : TE} {vs vs1 : List Nat} {σ : L2.St} {H1 : Hp} {D : Addr} {Qd : Hp → Prop} (Pv : Nat → Hp → Prop) (h0 : Pv 0 (upd H1 D (.lst []))) (hG : ∀ i H, i ≤ n → Pv i H → G H)
    (hs : ∀ i x H H', i < n → Pv i H → Y i H x H' → g x (wipe σ vs) H' fun σ2 H2 => wipe σ2 vs = wipe σ vs ∧ tt σ2 H2 fun b H3 =>
      if b = true then wi1 σ2 H3 fun J1 H4 => ∃ W1 : Nat → Nat → Hp → Prop, (∃ m, W1 0 m H4) ∧ ∀ j k H, W1 j k H →
        (J1.stop j H ∧ Pv (i + 1) H) ∨ (J1.go j H ∧ ∃ Nx1 : Hp → Prop, (∀ H', Nx1 H' → ∃ k', k' < k ∧ W1 (j + 1) k' H') ∧ ∀ x H', J1.yld j H x H' → g1 x (wipe σ2 vs1) H' fun σ3 H5 => wipe σ3 vs1 = wipe σ2 vs1 ∧ tt1 σ3 H5 fun b H6 =>
          if b = true then te σ3 H6 fun y H7 => ∃ acc, H7 D = some (.lst acc) ∧ acc.length < sizeLine ∧ Nx1 (upd H7 D (.lst (acc ++ [y]))) else Nx1 H6)
      else Pv (i + 1) H3) (hd : ∀ H, Pv n H → Qd H) :
    ∃ W : Nat → Nat → Hp → Prop, (∃ m, W 0 m (upd H1 D (.lst []))) ∧ ∀ i m H, W i m H →
      (J.stop i H ∧ Qd H) ∨ (J.go i H ∧ ∃ Nx : Hp → Prop, (∀ H', Nx H' → ∃ m', m' < m ∧ W (i + 1) m' H') ∧ ∀ x H', J.yld i H x H' → g x (wipe σ vs) H' fun σ2 H2 => wipe σ2 vs = wipe σ vs ∧ tt σ2 H2 fun b H3 =>
        if b = true then wi1 σ2 H3 fun J1 H4 => ∃ W1 : Nat → Nat → Hp → Prop, (∃ m, W1 0 m H4) ∧ ∀ j k H, W1 j k H →
          (J1.stop j H ∧ Nx H) ∨ (J1.go j H ∧ ∃ Nx1 : Hp → Prop, (∀ H', Nx1 H' → ∃ k', k' < k ∧ W1 (j + 1) k' H') ∧ ∀ x H', J1.yld j H x H' → g1 x (wipe σ2 vs1) H' fun σ3 H5 => wipe σ3 vs1 = wipe σ2 vs1 ∧ tt1 σ3 H5 fun b H6 =>
            if b = true then te σ3 H6 fun y H7 => ∃ acc, H7 D = some (.lst acc) ∧ acc.length < sizeLine ∧ Nx1 (upd H7 D (.lst (acc ++ [y]))) else Nx1 H6)
        else Nx H3) := by
  refine ⟨fun i m H => m = n - i ∧ i ≤ n ∧ Pv i H, ⟨n, by simp, Nat.zero_le _, h0⟩, ?_⟩
  rintro i m H ⟨rfl, hi, p⟩
  have q := hG i H hi p
  by_cases hlt : i < n
  · exact .inr ⟨w.goes i H hlt q, Pv (i + 1), fun H' p' => ⟨n - (i + 1), by omega, rfl, hlt, p'⟩, fun x H' y => hs i x H H' hlt p (w.yields i H x H' hlt q y)⟩
  · have e : i = n := by omega
    subst e
    exact .inl ⟨w.stops H q, hd H p⟩
end
/-! two rules, one or the other -/
def rOr (r r' : R2) : R2 := fun x y H Q => r x y H Q ∨ r' x y H Q
theorem ix_or {X : Cx} {r r' : R2} (h : IxR X r) (h' : IxR X r') : IxR X (rOr r r') := fun value slice pins s σ H x y v u Q I rx ry q hs =>
  q.elim (fun q => h value slice pins s σ H x y v u Q I rx ry q hs) fun q => h' value slice pins s σ H x y v u Q I rx ry q hs
theorem op_or {X : Cx} {f : Value → Value → Sem Value} {r r' : R2} (h : OpR X f r) (h' : OpR X f r') : OpR X f (rOr r r') := fun pins s σ H x y v u Q I rx ry q =>
  q.elim (fun q => h pins s σ H x y v u Q I rx ry q) fun q => h' pins s σ H x y v u Q I rx ry q
/-! what a thing is -/
def isIntD : PyData → Bool
  | .int _ => true
  | .bool _ => true
  | _ => false
def isBoolD : PyData → Bool
  | .bool _ => true
  | _ => false
def isStrD : PyData → Bool
  | .str _ => true
  | _ => false
def isTupD : PyData → Bool
  | .tuple _ => true
  | _ => false
section
variable {K : PySem.W.Frag} {H : Hp} {v : V} {d : PyData} {Q : VK}
theorem tup_ty {a : Addr} {xs : List V} (h : SqT K H a xs) : TyX K H (.ref a) (.type "tuple") := by
  rcases h with (h | ⟨o, h⟩) | ⟨o, its, n, h, c, _⟩
  · exact .base (.tup h)
  · exact .fTuple h
  · exact .kTuple h c
/-- a thing's type, and what isinstance says of it -/
theorem ty_of (h : Dt K H v d) : ∃ t : Value, TyX K H v t ∧ PySem.W.kitOne K t (.type "int") = some (isIntD d) ∧ PySem.W.kitOne K t (.type "bool") = some (isBoolD d) ∧ PySem.W.kitOne K t (.type "str") = some (isStrD d) ∧ PySem.W.kitOne K t (.type "tuple") = some (isTupD d) := by
  cases h with
  | non => exact ⟨_, .base .non, kit_ty (r := false) (by decide +kernel), kit_ty (r := false) (by decide +kernel), kit_ty (r := false) (by decide +kernel), kit_ty (r := false) (by decide +kernel)⟩
  | bl b => exact ⟨_, .base (.bl b), kit_ty (r := true) (by decide +kernel), kit_ty (r := true) (by decide +kernel), kit_ty (r := false) (by decide +kernel), kit_ty (r := false) (by decide +kernel)⟩
  | int b => exact ⟨_, .base (.int b), kit_ty (r := true) (by decide +kernel), kit_ty (r := false) (by decide +kernel), kit_ty (r := false) (by decide +kernel), kit_ty (r := false) (by decide +kernel)⟩
  | str b => exact ⟨_, .base (.str b), kit_ty (r := false) (by decide +kernel), kit_ty (r := false) (by decide +kernel), kit_ty (r := true) (by decide +kernel), kit_ty (r := false) (by decide +kernel)⟩
  | tup hs _ => exact ⟨_, tup_ty hs, kit_ty (r := false) (by decide +kernel), kit_ty (r := false) (by decide +kernel), kit_ty (r := false) (by decide +kernel), kit_ty (r := true) (by decide +kernel)⟩
end
end Cl

/-! ### ClSet: set(xs) of a list of ints or of texts, and sorted of such a set -/
namespace Cl
open PySem PySem.Spec PyProof.Rows L2

/-- keys of one kind, each by its value -/
structure KN (P : Program) (w : World) (κ : Type) [DecidableEq κ] where
  kn : PySem.KeyKind P w κ
  mkv : κ → Tok → Value
  ko : Value → κ
  at_mk : ∀ k t, ko (mkv k t) = k
  is_mk : ∀ k t, kn.is k (mkv k t) = true
  sc_mk : ∀ k t, (mkv k t).scannable = true
  of_is : ∀ k v, kn.is k v = true → ∃ t, v = mkv k t
def intN (P : Program) (w : World) : KN P w Int where
  kn := PySem.intKind P w
  mkv := Value.int
  ko := fun v => match v with
    | .int k _ => k
    | _ => 0
  at_mk := fun _ _ => rfl
  is_mk := intKind_is P w
  sc_mk := fun _ _ => rfl
  of_is := fun _ _ h => Value.isInt_shape h
def strN (P : Program) (w : World) : KN P w Str where
  kn := PySem.strKind P w
  mkv := Value.str
  ko := fun v => match v with
    | .str k _ => k
    | _ => Str.empty
  at_mk := fun _ _ => rfl
  is_mk := strKind_is P w
  sc_mk := fun _ _ => rfl
  of_is := fun _ _ h => Value.isStrOf_shape h
section
variable {P : Program} {w : World} {κ : Type} [DecidableEq κ] {N : KN P w κ}
theorem KN.is_ko (N : KN P w κ) {k : κ} {v : Value} (h : N.kn.is k v = true) : N.ko v = k := by
  obtain ⟨t, rfl⟩ := N.of_is k v h
  exact N.at_mk k t
def KN.keys (N : KN P w κ) (es : List (Int × Value)) : List κ := es.map fun e => N.ko e.2
theorem KN.mem_keys (N : KN P w κ) {es : List (Int × Value)} (g : ElemsOf N.kn es) {k : κ} : k ∈ N.keys es ↔ ∃ e ∈ es, N.kn.is k e.2 = true := by
  refine List.mem_map.trans ⟨fun ⟨e, he, q⟩ => ?_, fun ⟨e, he, q⟩ => ⟨e, he, N.is_ko q⟩⟩
  obtain ⟨⟨j, hj, _⟩, _⟩ := g e he
  have z := N.is_ko hj
  rw [q] at z
  exact ⟨e, he, z ▸ hj⟩
/-- at a stands a set of just what l has; it can be walked -/
def SetG (N : KN P w κ) (h : Heap) (a : Addr) (l : List κ) : Prop :=
  ∃ (o : Obj) (es : Array (Int × Value)) (ep : Nat) (t : SetTable), (h.get? a = some o ∧ o.ExactSet ∧ o.data = .set es ep t) ∧ ElemsOf N.kn es.toList ∧ ((N.keys es.toList).Nodup ∧ ∀ k, k ∈ N.keys es.toList ↔ k ∈ l) ∧
    (es.size ≤ l.length ∧ es.size < scanBound ∧ t.fits es.size = true) ∧ Ris t.place.toList ∧ (w.params.followText "set-order" = true ∨ t.led = true)
theorem SetG.keep {h h' : Heap} {a : Addr} {l : List κ} (R : SetG N h a l) (k : ∀ o, h.get? a = some o → h'.get? a = some o) : SetG N h' a l := by
  obtain ⟨o, es, ep, t, ⟨h1, r1⟩, r⟩ := R
  exact ⟨o, es, ep, t, ⟨k o h1, r1⟩, r⟩
section
variable {A : Around} {E : Value → Shared → Prop} {s : Shared} {a : Addr}
/-- what is stored: the new entries, laid anew where they are too many -/
theorem sg_store {g : Bool → Sem Unit} (hg : ∀ (b : Bool) (z : Shared) (Z : Unit → Shared → Prop), Z () z → wpAny (model P w) A (g b) Z E z) {o : Obj} {es xs : Array (Int × Value)} {ep : Nat} {t u : SetTable} {l : List κ}
    (ho : s.heap.get? a = some o) (hx : o.ExactSet) (hd : o.data = .set es ep t) (ge : ElemsOf N.kn xs.toList) (hn : (N.keys xs.toList).Nodup) (hm : ∀ k, k ∈ N.keys xs.toList ↔ k ∈ l) (hl : xs.size ≤ l.length)
    (hb : xs.size < scanBound) (hf : u.fits xs.size = true) (hr : Ris u.place.toList) (hw : w.params.followText "set-order" = true ∨ u.led = true) {dm : Bool} {R : Option Bool → Shared → Prop}
    (hR : ∀ h', Heap.SameBut a s.heap h' → SetG N h' a l → R (some true) { s with heap := h' }) :
    wpAny (model P w) A (do
        storeSet a xs u
        if (!dm && u.tooFull) = true then do
            g (relayAll u xs (SetTable.grown xs.size)).2.2
            storeSet a (relayAll u xs (SetTable.grown xs.size)).1 (relayAll u xs (SetTable.grown xs.size)).2.1
            pure (some true)
          else pure (some true)) R E s := by
  refine wpAny_bind (wpAny_storeSet_of ho hd ?_ (fits_of_scanBound hb))
  have o1 := store_at (es' := xs) (t' := u) ho hd
  have b1 := Heap.SameBut.update s.heap a (Obj.putSet xs u)
  split
  · have q1 := relayAll_perm u xs (SetTable.grown xs.size)
    have q2 := relayAll_fits u xs (SetTable.grown xs.size)
    have q3 := relayAll_ris u xs (SetTable.grown xs.size)
    have q4 := relayAll_led u xs (SetTable.grown xs.size)
    generalize relayAll u xs (SetTable.grown xs.size) = Z at q1 q2 q3 q4 ⊢
    obtain ⟨ys, v, gv⟩ := Z
    dsimp only at q1 q2 q3 q4 ⊢
    have ez : ys.size = xs.size := by
      have := q1.length_eq
      rwa [Array.length_toList, Array.length_toList] at this
    have pk : (N.keys ys.toList).Perm (N.keys xs.toList) := q1.map fun e : Int × Value => N.ko e.2
    refine wpAny_bind (hg _ _ _ (wpAny_bind (wpAny_storeSet_of o1 rfl ?_ (fits_of_scanBound (by rw [ez]; exact hb)))))
    refine wpAny_pure (hR _ (b1.trans (Heap.SameBut.update _ a _)) ⟨_, ys, _, v, ⟨store_at (es' := ys) (t' := v) o1 rfl, hx, rfl⟩, fun e he => ge e (q1.mem_iff.mp he), ⟨pk.nodup_iff.mpr hn, fun k => pk.mem_iff.trans (hm k)⟩, ⟨by rw [ez]; exact hl, by rw [ez]; exact hb, q2⟩, q3, ?_⟩)
    rw [q4]
    exact hw
  · exact wpAny_pure (hR _ b1 ⟨_, xs, _, u, ⟨o1, hx, rfl⟩, ge, ⟨hn, hm⟩, ⟨hl, hb, hf⟩, hr, hw⟩)
/-- one key more -/
theorem sg_add {k : κ} {tk : Tok} {l : List κ} {Q : Bool → Shared → Prop} (R : SetG N s.heap a l) (room : l.length + 1 < scanBound)
    (hQ : ∀ h' b, Heap.SameBut a s.heap h' → SetG N h' a (l ++ [k]) → Q b { s with heap := h' }) : wpAny (model P w) A (setAddHashed a (N.mkv k tk) (N.kn.hash k)) Q E s := by
  obtain ⟨o, es, ep, t, ⟨ho, hx, hd⟩, ge, ⟨hn, hm⟩, ⟨hl, hb, hf⟩, hr, hw⟩ := R
  have hel := N.is_mk k tk
  unfold setAddHashed setAddHashedIn
  refine wpAny_holding (wpAny_bind (wpAny_setState_of ho hd hf ?_))
  dsimp only
  rw [byScan_of (N.sc_mk k tk) hb ge]
  simp only [↓reduceIte]
  unfold setAddByScan
  refine wpAny_bind (wpAny_bind (wpAny_rule (wpAny_bind (wpAny_setScan_of hel ho hd hf ge ?_))))
  cases hi : List.findIdx? (fun e => N.kn.is k e.2) es.toList with
  | some j =>
    dsimp only
    obtain ⟨hj, pj, _⟩ := List.findIdx?_eq_some_iff_getElem.mp hi
    have hk : k ∈ l := (hm k).mp ((N.mem_keys ge).mpr ⟨_, List.getElem_mem hj, pj⟩)
    refine wpAny_pure (wpAny_pure (hQ s.heap _ (Heap.SameBut.refl a s.heap) ⟨o, es, ep, t, ⟨ho, hx, hd⟩, ge, ⟨hn, fun i => (hm i).trans ?_⟩, ⟨by rw [List.length_append]; omega, hb, hf⟩, hr, hw⟩))
    rw [List.mem_append, List.mem_singleton]
    exact ⟨.inl, fun z => z.elim id fun e => e ▸ hk⟩
  | none =>
    dsimp only
    have hk : k ∉ N.keys es.toList := fun z => by
      obtain ⟨e, he, q⟩ := (N.mem_keys ge).mp z
      have := List.findIdx?_eq_none_iff.mp hi e he
      rw [q] at this
      cases this
    have quiet : ∀ (b : Bool) {z : Shared} {Z : Unit → Shared → Prop}, Z () z → wpAny (model P w) A (match b with | true => rule "set.scan.the-table-gave-way" | false => pure ()) Z E z :=
      fun b z Z q => by cases b <;> first | exact wpAny_pure q | exact wpAny_rule q
    have q1 := layNew_perm t es (N.kn.hash k) (N.mkv k tk)
    have q2 := layNew_fits t es (N.kn.hash k) (N.mkv k tk)
    have q3 := layNew_ris t es (N.kn.hash k) (N.mkv k tk) hr
    have q4 := layNew_led t es (N.kn.hash k) (N.mkv k tk)
    generalize layNew t es (N.kn.hash k) (N.mkv k tk) = Z at q1 q2 q3 q4 ⊢
    obtain ⟨xs, u, dm, gv⟩ := Z
    dsimp only at q1 q2 q3 q4 ⊢
    rw [Array.toList_push] at q1
    have pc := q1.trans (List.perm_append_singleton (N.kn.hash k, N.mkv k tk) es.toList)
    have pk : (N.keys xs.toList).Perm (k :: N.keys es.toList) := by
      have := pc.map fun e : Int × Value => N.ko e.2
      rw [List.map_cons, N.at_mk] at this
      exact this
    have g1 : ElemsOf N.kn xs.toList := fun e he => by
      rcases List.mem_cons.mp (pc.mem_iff.mp he) with z | z
      · rw [z]
        exact ⟨⟨k, hel, rfl⟩, N.sc_mk k tk⟩
      · exact ge e z
    have n1 : (N.keys xs.toList).Nodup := pk.nodup_iff.mpr (List.nodup_cons.mpr ⟨hk, hn⟩)
    have m1 : ∀ i, i ∈ N.keys xs.toList ↔ i ∈ l ++ [k] := fun i => by
      rw [pk.mem_iff, List.mem_cons, hm i, List.mem_append, List.mem_singleton]
      exact Or.comm
    have ez : xs.size = es.size + 1 := by
      have := pc.length_eq
      rwa [List.length_cons, Array.length_toList, Array.length_toList] at this
    have l1 : xs.size ≤ (l ++ [k]).length := by
      rw [ez, List.length_append]
      exact Nat.succ_le_succ hl
    have b1 : xs.size < scanBound := by omega
    have w1 : w.params.followText "set-order" = true ∨ u.led = true := by
      rw [q4]
      exact hw
    refine wpAny_bind (quiet _ ?_)
    split
    · refine wpAny_bind ?_
      rw [hashByValue_scannable 8 (N.sc_mk k tk)]
      refine wpAny_pure (sg_store (fun b z Z q => ?_) ho hx hd g1 n1 m1 l1 b1 ?_ ?_ ?_ fun h' sb r => ?_)
      · cases b <;> first | exact wpAny_pure q | exact wpAny_rule q
      · first | (split <;> first | exact q2 | exact SetTable.fits_plain_off q2) | exact q2
      · first | (split <;> exact q3) | exact q3
      · first | (split <;> exact w1) | exact w1
      · dsimp only
        exact wpAny_pure (hQ h' _ sb r)
    · refine wpAny_bind (wpAny_pure ?_)
      simp only [↓reduceIte]
      refine sg_store (fun b z Z q => ?_) ho hx hd g1 n1 m1 l1 b1 q2 q3 w1 fun h' sb r => ?_
      · cases b <;> first | exact wpAny_pure q | exact wpAny_rule q
      · dsimp only
        exact wpAny_pure (hQ h' _ sb r)
/-- the new set -/
theorem sg_new {h : Heap} (ho : h.get? a = some { cls := .type "set", dict := none, data := .set #[] 0 (.fresh 0 0 (!w.params.followText "set-order")) }) : SetG N h a [] := by
  refine ⟨_, #[], 0, _, ⟨ho, ⟨rfl, rfl, rfl⟩, rfl⟩, (fun e he => by simp at he), ⟨by simp [KN.keys], fun k => by simp [KN.keys]⟩, ⟨Nat.le_refl _, by decide, rfl⟩, List.Pairwise.nil, ?_⟩
  show _ ∨ (!w.params.followText "set-order") = true
  cases w.params.followText "set-order"
  · exact .inr rfl
  · exact .inl rfl
/-- the walk that fills it -/
theorem sg_fill {I : Addr} {fp wr : List Addr} {G : Array GenState → Array GenState → Prop} {n : Nat} {Pv : Nat → Value → Prop} {St : Nat → Shared → Prop} {R : Result → Shared → Prop} (W : WalksS P w A.in1 I fp wr G n Pv St) (S : Addr) (hS : S ∉ fp)
    (ns : List κ) (hn : n = ns.length) (hb : ns.length + 1 < scanBound) (hv : ∀ i v, Pv i v → ∃ k t, ns[i]? = some k ∧ v = N.mkv k t) :
    ∀ (m i : Nat) (s : Shared), n - i = m → i ≤ n → St i s → SetG N s.heap S (ns.take i) → (∀ s', Moved (S :: wr) G s s' → SetG N s'.heap S ns → R (.ok (.ret .none)) s') →
      codeAny (model P w) A (.builtin "set.update.loop" ⟨[.ref S, .ref I], []⟩) R s := by
  have nw : S ∉ wr := fun h => hS (W.sub _ h)
  have up : ∀ b ∈ wr, b ∈ S :: wr := fun b hb => List.mem_cons_of_mem _ hb
  intro m
  induction m with
  | zero =>
    intro i s hm hi hst hg hR
    have e : i = n := by omega
    subst e
    refine codeAny_builtin F.entry_set_update_loop ?_
    rw [Around.under_plainId F.plain_set_update_loop _]
    show wpAny _ A.in1 (pyNext (.ref I) >>= _) _ _ s
    refine wpAny_bind (W.done s _ _ hst fun s' mv => ?_)
    show wpAny _ A.in1 (ret Value.none) _ _ s'
    rw [List.take_of_length_le (by omega)] at hg
    exact wpAny_pure (hR s' (mv.mono up) (hg.keep fun o e => mv.heap S o nw e))
  | succ m ih =>
    intro i s hm hi hst hg hR
    have lt : i < n := by omega
    refine codeAny_builtin F.entry_set_update_loop ?_
    rw [Around.under_plainId F.plain_set_update_loop _]
    show wpAny _ A.in1 (pyNext (.ref I) >>= _) _ _ s
    refine wpAny_bind (W.item i s _ _ lt hst fun v s' pv hst' mv => ?_)
    obtain ⟨k, t, hk, rfl⟩ := hv i v pv
    have g' : SetG N s'.heap S (ns.take i) := hg.keep fun o e => mv.heap S o nw e
    show wpAny _ A.in1 (holding [N.mkv k t] (setAdd S (N.mkv k t)) >>= _) _ _ s'
    refine wpAny_bind (wpAny_holding ?_)
    unfold setAdd
    refine wpAny_holding (wpAny_bind (N.kn.pyHash (N.is_mk k t) ?_))
    refine sg_add (s := { s' with toks := s'.toks + 1 }) g' (by rw [List.length_take]; omega) fun h' b sb g2 => ?_
    rw [← take_snoc hk] at g2
    refine wpAny_pure ⟨plainId_quiet F.plain_set_update_loop _, ih (i + 1) _ (by omega) lt (W.frame _ s' _ _ hst' (Nat.le_succ _) fun b hb o e => ?_) g2 fun s2 mv2 g3 => ?_⟩
    · exact (sb.2 b fun q => hS (q ▸ hb)).trans e
    · refine hR s2 (Moved.trans W.gtrans ((mv.mono up).then_heap (Nat.le_succ _) fun b o nb e => ?_) mv2) g3
      exact (sb.2 b fun q => nb (q ▸ List.mem_cons_self)).trans e
end
end
section
variable {P : Program} {w : World} {κ : Type} [DecidableEq κ] {N : KN P w κ} {A : Around} {E : Value → Shared → Prop} {s : Shared}
/-- an empty set, as it is laid -/
def set0 (w : World) : Obj := { cls := .type "set", dict := none, data := .set #[] 0 (.fresh 0 0 (!w.params.followText "set-order")) }
set_option maxRecDepth 100000 in
set_option maxHeartbeats 3200000 in
/-- set(xs) -/
theorem sg_call {l : Addr} {items : Array Value} (ns : List κ) {Q : Value → Shared → Prop} (hh : A.handled = none) (hl : s.heap.IsList l items) (hv : ∀ (i : Nat) (v : Value), items[i]? = some v → ∃ k t, ns[i]? = some k ∧ v = N.mkv k t) (hz : items.size = ns.length) (hb : ns.length + 1 < scanBound)
    (h : ∀ (h' : Heap) (tk : Nat), SetG N h' s.heap.objs.size ns → (∀ b o, s.heap.get? b = some o → h'.get? b = some o) → Q (.ref s.heap.objs.size) { s with heap := h', toks := tk }) :
    wpAny (model P w) A (call (.type "set") [.ref l]) Q E s := by
  obtain ⟨c, tl, hmro⟩ := F.called_set.mro
  have hmade := F.called_set.made
  have hsub := F.called_set.sub
  refine wpAny_call (codeAny_of_tree ?_)
  show wpAny _ _ (callAny (.type "set") _) _ _ _
  refine wpAny_pure ⟨Code.quiet_builtin _ (by decide +kernel), codeAny_builtin F.entry_type_call ?_⟩
  rw [Around.under_plain (weight_type_call_type "set" [.ref l] []) rfl]
  have h1 := F.called_set.notType
  have h2 := F.called_set.canCreate
  have hct := F.typeCall_set_1 (.ref l)
  repeat (any_goals (first | assumption | wp_step))
  refine codeAny_mono (code_set_led1 (.ref l) (E := E) (Q₁ := fun obj z => obj = .ref s.heap.objs.size ∧ z = { s with heap := s.heap.push (set0 w) }) ⟨rfl, rfl⟩) fun r z hr => ?_
  cases r with
  | error e => exact hr
  | ok fl =>
    cases fl with
    | next | brk | cont => exact hr.elim
    | ret obj =>
      obtain ⟨rfl, rfl⟩ := hr
      have oS : (s.heap.push (set0 w)).get? s.heap.objs.size = some (set0 w) := Heap.get?_push_size _ rfl
      have tS : Shared.TypeIs { s with heap := s.heap.push (set0 w) } (.ref s.heap.objs.size) "set" := ⟨_, oS, rfl⟩
      have hli := F.called_set.init.lookup
      have hbi := F.called_set.init.bind (.ref s.heap.objs.size)
      repeat (any_goals (first | assumption | wp_step))
      refine codeAny_mono (codeAny_call_builtin (R := wants (fun r z => r = .none ∧ ∃ h' tk, z = { s with heap := h', toks := tk } ∧ SetG N h' s.heap.objs.size ns ∧
          (∀ b o, s.heap.get? b = some o → h'.get? b = some o)) E) F.called_set.init.plain F.entry_set_init (check_set_init_1 tS ?_)) fun r z hr => ?_
      · obtain ⟨ol, hol, hcl, nl, hdl⟩ := hl
        obtain ⟨ocls, odict, odata, oslots⟩ := ol
        simp only at hcl hdl
        subst hcl hdl
        have hol' : (s.heap.push (set0 w)).get? l = some { cls := .type "list", dict := odict, data := .seq items nl, slots := oslots } := Heap.get?_push_of_some _ hol
        have e1 := F.sub_list_set
        have e2 := F.sub_list_frozenset
        have e3 : (Value.type "list" == Value.type "dict") = false := by decide
        have hl1 : (s.heap.push (set0 w)).IsList l items := ⟨_, hol', rfl, nl, rfl⟩
        unfold Builtin.«set.__init__» noKeywords Builtin.Frozenset.updateFrom
        generalize hPI : pyIter = PI
        wp_walk
        subst hPI
        refine wpAny_pyIter_list hl1 (wpAny_bind (wpAny_runValue ?_))
        have lS : l < s.heap.objs.size := Heap.lt_size hol
        have hh3 : A.in1.in1.in1.handled = none := by simp [hh]
        have z1 : (s.heap.push (set0 w)).objs.size = s.heap.objs.size + 1 := Heap.size_push ..
        have nI : l ≠ (s.heap.push (set0 w)).objs.size := by
          rw [z1]
          exact Nat.ne_of_lt (Nat.lt_succ_of_lt lS)
        have nS : s.heap.objs.size ∉ [(s.heap.push (set0 w)).objs.size, l] := by
          rw [z1]
          simp only [List.mem_cons, List.not_mem_nil, or_false, not_or]
          exact ⟨Nat.ne_of_lt (Nat.lt_succ_self _), Nat.ne_of_gt lS⟩
        refine sg_fill (N := N) ((Walks.list hh3 _ l nI items).toS) s.heap.objs.size nS ns hz hb hv (items.size - 0) 0 _ (by omega) (Nat.zero_le _) ⟨⟨_, Heap.get?_push_size _ rfl, rfl, rfl⟩, (hl1.push _)⟩ ?g0 ?gR
        case g0 =>
          rw [List.take_zero]
          exact sg_new (Heap.get?_push_of_some _ oS)
        case gR =>
          rintro ⟨h', g2, d', tk', os'⟩ mv g3
          have eg : g2 = s.gens := mv.gens
          have ed : d' = s.drawn := mv.drawn
          have eo : os' = s.os := mv.os
          subst eg ed eo
          show wpAny _ _ _ _ _ _
          refine wpAny_pure ?_
          show wpAny _ _ (ret Value.none) _ _ _
          refine wpAny_pure ⟨rfl, h', tk', rfl, g3, fun b o e => ?_⟩
          have b0 : b < s.heap.objs.size := Heap.lt_size e
          refine mv.heap b o ?_ (Heap.get?_push_of_some _ (Heap.get?_push_of_some _ e))
          simp only [List.mem_cons, List.not_mem_nil, or_false, not_or]
          exact ⟨Nat.ne_of_lt b0, by rw [z1]; exact Nat.ne_of_lt (Nat.lt_succ_of_lt b0)⟩
      · cases r with
        | error e => exact hr
        | ok fl =>
          cases fl with
          | next | brk | cont => exact hr.elim
          | ret r =>
            obtain ⟨rfl, h', tk, rfl, g3, kp⟩ := hr
            repeat (any_goals (first | assumption | wp_step))
            exact h _ _ g3 kp
/-- sorted(s), what is walked -/
theorem sg_walk {a : Addr} {ns : List κ} {Q : Value → Shared → Prop} (R : SetG N s.heap a ns) (hh : A.handled = none) (h64 : ns.length < 64)
    (hQ : ∀ (z : Shared) (vs : List Value), (∀ b o, s.heap.get? b = some o → z.heap.get? b = some o) → s.heap.objs.size ≤ z.heap.objs.size → z.gens = s.gens → z.os = s.os → (∀ v ∈ vs, ∃ k t, v = N.mkv k t) → (vs.map N.ko).Nodup → (∀ k, k ∈ vs.map N.ko ↔ k ∈ ns) → vs.length ≤ ns.length →
      (z.heap.push (seqObj "list" vs.toArray 0)).get? z.heap.objs.size = some (seqObj "list" vs.toArray 0) →
      wpAny (model P w) A.in1.in1 (Builtin.«list.sort» ⟨[.ref z.heap.objs.size], []⟩) (fun f z2 => ∃ u, f = .done (.ret u) ∧ Q (.ref z.heap.objs.size) z2) E { z with heap := z.heap.push (seqObj "list" vs.toArray 0) }) :
    wpAny (model P w) A (call (.builtin "sorted") [.ref a]) Q E s := by
  obtain ⟨o, es, ep, t, ⟨ho, hx, hd⟩, ge, ⟨hn, hm⟩, ⟨hl, hb, hf⟩, hr, hw⟩ := R
  refine Calls.call_function_entry kind_sorted plain_sorted entry_sorted (args_sorted1 _) ?_
  unfold Builtin.«sorted»
  refine wpAny_bind (m := checkCount "sorted" 1 1 _) (wpAny_pure (wpAny_bind (collect_set (A := A.in1) hh ⟨o, ho, hx.1, hd⟩ hf hb hr hw fun z vs kp hs g1 o1 pm => ?_)))
  have pk : (vs.map N.ko).Perm (N.keys es.toList) := by
    have := pm.map N.ko
    rwa [List.map_map] at this
  have hvl : vs.length ≤ ns.length := by
    have e : vs.length = es.size := by simpa using pm.length_eq
    rw [e]
    exact hl
  refine wpAny_bind (wpAny_newList ?_ (by rw [sizeLine_eq]; omega))
  have hoL : (z.heap.push (seqObj "list" vs.toArray 0)).get? z.heap.objs.size = some (seqObj "list" vs.toArray 0) := Heap.get?_push_size _ rfl
  refine wpAny_bind (wpAny_holding (wpAny_call_entry slot_list_sort ⟨_, hoL, rfl⟩ entry_list_sort ?_ (args_list_sort _)))
  refine wpAny_mono (hQ z vs kp hs g1 o1 (fun v hv => ?_) (pk.nodup_iff.mpr hn) (fun k => pk.mem_iff.trans (hm k)) hvl hoL) (fun f z2 ⟨u, e, q⟩ => ?_) fun _ _ e => e
  · obtain ⟨e, he, rfl⟩ := List.mem_map.mp (pm.mem_iff.mp hv)
    obtain ⟨⟨k, hk, _⟩, _⟩ := ge e he
    obtain ⟨t, e2⟩ := N.of_is k _ hk
    exact ⟨k, t, e2⟩
  · exact ⟨u, e, wpAny_pure ⟨_, rfl, q⟩⟩
end
section
variable {X : Cx}
/-- the set at a, of just what l has -/
def SetGO {P : Program} {w : World} {κ : Type} [DecidableEq κ] (N : KN P w κ) (a : Addr) (l : List κ) : HO := .ext fun h => SetG N h a l
theorem sgo_new {P : Program} {w : World} {κ : Type} [DecidableEq κ] {N : KN P w κ} {H : Hp} {h : Heap} {a : Addr} {l : List κ} (R : SetG N h a l) : ObjOk P w H h a (SetGO N a l) := by
  have ⟨o, _, _, _, ⟨ho, _⟩, _⟩ := R
  exact ⟨R, ⟨o, ho⟩, fun h1 h2 p k => SetG.keep p k⟩
def rSetI (P : Program) (w : World) (K : PySem.W.Frag) : List V → Hp → VK → Prop := fun xs H Q => ∃ (l : Addr) (ns : List Int), xs = [.ref l] ∧ SqL K H l (ns.map V.int) ∧ ns.length < 1000 ∧ ∀ a, H a = none → Q (.ref a) (upd H a (SetGO (intN P w) a ns))
def rSetS (P : Program) (w : World) (K : PySem.W.Frag) : List V → Hp → VK → Prop := fun xs H Q => ∃ (l : Addr) (ns : List Str), xs = [.ref l] ∧ SqL K H l (ns.map V.str) ∧ ns.length < 1000 ∧ ∀ a, H a = none → Q (.ref a) (upd H a (SetGO (strN P w) a ns))
theorem strs_get : ∀ {vs : List Value} {ss : List Str}, StrsAre vs ss → ∀ (i : Nat) (v : Value), vs[i]? = some v → ∃ k t, ss[i]? = some k ∧ v = Value.str k t
  | _, _, .nil, i, v, h => by simp at h
  | _, _, .cons k t r, 0, v, h => ⟨k, t, rfl, by simpa using h.symm⟩
  | _, _, .cons k t r, i + 1, v, h => by
    obtain ⟨k', t', h1, h2⟩ := strs_get r i v (by simpa using h)
    exact ⟨k', t', by simpa using h1, h2⟩
theorem cr_setI (hc : X.calm = true) : CallR X (.type "set") (rSetI X.prog X.w X.K) := by
  intro pins s σ H xs us Q I r h
  obtain ⟨l, ns, rfl, hs, hb, q⟩ := h
  obtain ⟨its, rv, hl, _⟩ := I.list hs
  rw [Vals.ref1 r]
  have hi := rv.ints
  refine sg_call (N := intN X.prog X.w) ns (I.ok.hd hc) hl.isList (fun i v hv => ?_) (by rw [List.size_toArray, ← rv.length, List.length_map]) (by unfold scanBound; omega) fun h' tk g k => ?_
  · have hlt : i < ns.length := by
      have := (Array.getElem?_eq_some_iff.mp hv).1
      rwa [List.size_toArray, ← rv.length, List.length_map] at this
    obtain ⟨t, e⟩ := PyProof.Rows.IntsAre.int_at (show IntsAre its.toArray.toList ns by simpa using hi) i v (by rw [Array.getElem?_toList]; exact hv)
    refine ⟨ns[i], t, List.getElem?_eq_getElem hlt, ?_⟩
    rw [e, List.getD_eq_getElem?_getD, List.getElem?_eq_getElem hlt]
    rfl
  · exact ⟨.ref _, upd H s.heap.objs.size (SetGO (intN X.prog X.w) s.heap.objs.size ns), I.laid (t' := tk) k (Nat.le_refl _) (sgo_new g), rfl, q _ (I.hok.fresh (Nat.le_refl _))⟩
theorem cr_setS (hc : X.calm = true) : CallR X (.type "set") (rSetS X.prog X.w X.K) := by
  intro pins s σ H xs us Q I r h
  obtain ⟨l, ns, rfl, hs, hb, q⟩ := h
  obtain ⟨its, rv, hl, _⟩ := I.list hs
  rw [Vals.ref1 r]
  have hi := rv.strs
  refine sg_call (N := strN X.prog X.w) ns (I.ok.hd hc) hl.isList (fun i v hv => ?_) (by rw [List.size_toArray, ← rv.length, List.length_map]) (by unfold scanBound; omega) fun h' tk g k => ?_
  · have hlt : i < ns.length := by
      have := (Array.getElem?_eq_some_iff.mp hv).1
      rwa [List.size_toArray, ← rv.length, List.length_map] at this
    exact strs_get hi i v (by simpa using hv)
  · exact ⟨.ref _, upd H s.heap.objs.size (SetGO (strN X.prog X.w) s.heap.objs.size ns), I.laid (t' := tk) k (Nat.le_refl _) (sgo_new g), rfl, q _ (I.hok.fresh (Nat.le_refl _))⟩
theorem ints_ko (P : Program) (w : World) : ∀ {vs : List Value}, (∀ v ∈ vs, ∃ k t, v = (intN P w).mkv k t) → IntsAre vs (vs.map (intN P w).ko)
  | [], _ => .nil
  | v :: r, h => by
    obtain ⟨k, t, rfl⟩ := h v List.mem_cons_self
    exact .cons k t (ints_ko P w fun x hx => h x (List.mem_cons_of_mem _ hx))
theorem strs_ko (P : Program) (w : World) : ∀ {vs : List Value}, (∀ v ∈ vs, ∃ k t, v = (strN P w).mkv k t) → StrsAre vs (vs.map (strN P w).ko)
  | [], _ => .nil
  | v :: r, h => by
    obtain ⟨k, t, rfl⟩ := h v List.mem_cons_self
    exact .cons k t (strs_ko P w fun x hx => h x (List.mem_cons_of_mem _ hx))
/-- each above the one ahead -/
def RisS (ss : List Str) : Prop := ∀ i a b, ss[i]? = some a → ss[i + 1]? = some b → a.cps.toList < b.cps.toList
theorem rising_adj : ∀ (p : Str) (l : List Str), risingS p l = true → ∀ i a b, (p :: l)[i]? = some a → (p :: l)[i + 1]? = some b → Spec.ltCps b.cps.toList a.cps.toList = false
  | p, [], _, i, a, b, _, h2 => by simp at h2
  | p, x :: r, h, 0, a, b, h1, h2 => by
    have e1 : p = a := by simpa using h1
    have e2 : x = b := by simpa using h2
    subst e1 e2
    simp only [risingS, Bool.and_eq_true, Bool.not_eq_true'] at h
    exact h.1
  | p, x :: r, h, i + 1, a, b, h1, h2 => by
    simp only [risingS, Bool.and_eq_true] at h
    exact rising_adj x r h.2 i a b (by simpa using h1) (by simpa using h2)
theorem sortedS_ris {ss : List Str} (h : sortedS ss = true) (nd : ss.Nodup) : RisS ss := by
  intro i a b h1 h2
  have hl : Spec.ltCps b.cps.toList a.cps.toList = false := by
    cases ss with
    | nil => simp at h1
    | cons x r => exact rising_adj x r h i a b h1 h2
  rw [ltCps_eq] at hl
  have n1 : ¬ b.cps.toList < a.cps.toList := of_decide_eq_false hl
  have ne : a ≠ b := by
    obtain ⟨l1, e1⟩ := List.getElem?_eq_some_iff.mp h1
    obtain ⟨l2, e2⟩ := List.getElem?_eq_some_iff.mp h2
    rw [← e1, ← e2]
    exact List.pairwise_iff_getElem.mp nd i (i + 1) l1 l2 (Nat.lt_succ_self i)
  refine Classical.byContradiction fun n2 => ne ?_
  have e : a.cps.toList = b.cps.toList := List.le_antisymm n1 n2
  have e' : a.cps = b.cps := Array.toList_inj.mp e
  cases a
  cases b
  exact congrArg Str.mk e'
def rSortGI (P : Program) (w : World) : List V → Hp → VK → Prop := fun vs H Q => ∃ (a : Addr) (l : List Int), vs = [V.ref a] ∧ H a = some (SetGO (intN P w) a l) ∧ l.length < 64 ∧
  ∀ (ns : List Int) (p : Addr), ns.Pairwise (· < ·) → (∀ k, k ∈ ns ↔ k ∈ l) → ns.length ≤ l.length → H p = none → Q (.ref p) (upd H p (.lst (ns.map V.int)))
def rSortGS (P : Program) (w : World) : List V → Hp → VK → Prop := fun vs H Q => ∃ (a : Addr) (l : List Str), vs = [V.ref a] ∧ H a = some (SetGO (strN P w) a l) ∧ l.length < 64 ∧
  ∀ (ns : List Str) (p : Addr), RisS ns → (∀ k, k ∈ ns ↔ k ∈ l) → ns.length ≤ l.length → H p = none → Q (.ref p) (upd H p (.lst (ns.map V.str)))
theorem sg_end {pins : List (Addr × Obj)} {σ : L2.St} {H : Hp} {s z : Shared} {vs : List Value} {out : Array Value} {xs : List V} {Q : VK} (I : Inv X pins σ H s) (kp : ∀ b o, s.heap.get? b = some o → z.heap.get? b = some o) (hs : s.heap.objs.size ≤ z.heap.objs.size) (g1 : z.gens = s.gens) (o1 : z.os = s.os)
    (hoL : (z.heap.push (seqObj "list" vs.toArray 0)).get? z.heap.objs.size = some (seqObj "list" vs.toArray 0)) (hl : xs.length ≤ sizeLine) (hv : Vals xs out.toList) (q : ∀ p, H p = none → Q (.ref p) (upd H p (.lst xs))) :
    EP X pins σ Q (.ref z.heap.objs.size) { z with heap := sortedHeap (z.heap.push (seqObj "list" vs.toArray 0)) z.heap.objs.size vs out } := by
  obtain ⟨c, hc⟩ := sortedHeap_at (vs := vs) (out := out) hoL
  have k2 : ∀ b o, s.heap.get? b = some o → (sortedHeap (z.heap.push (seqObj "list" vs.toArray 0)) z.heap.objs.size vs out).get? b = some o := fun b u e => by
    have e2 := kp b u e
    have lt := Heap.lt_size e2
    rw [sortedHeap_old (Nat.ne_of_lt lt) (by rw [size_push']; exact Nat.lt_succ_of_lt lt)]
    exact Heap.get?_push_of_some _ e2
  have hn : H z.heap.objs.size = none := I.hok.fresh hs
  have J : Inv X pins σ (upd H z.heap.objs.size (.lst xs)) { s with heap := sortedHeap (z.heap.push (seqObj "list" vs.toArray 0)) z.heap.objs.size vs out, gens := z.gens, drawn := z.drawn, toks := z.toks } :=
    I.call (ch := []) (Un.laid k2 hs hn) (I.hok.laid k2 hs ⟨hl, out.toList, c, hv, hc⟩) (by show AllBare z.gens; rw [g1]; exact I.bare) (fun _ y => nomatch y)
  have e : ({ z with heap := sortedHeap (z.heap.push (seqObj "list" vs.toArray 0)) z.heap.objs.size vs out } : Shared) = { s with heap := sortedHeap (z.heap.push (seqObj "list" vs.toArray 0)) z.heap.objs.size vs out, gens := z.gens, drawn := z.drawn, toks := z.toks } := by
    cases z
    cases s
    cases o1
    rfl
  rw [e]
  exact ⟨.ref _, _, J, rfl, q _ hn⟩
theorem cr_sortedGI (hc : X.calm = true) : CallR X (.builtin "sorted") (rSortGI X.prog X.w) := by
  intro pins s σ H vs us Q I r h
  obtain ⟨a, l, rfl, ha, hl, q⟩ := h
  have R : SetG (intN X.prog X.w) s.heap a l := (I.hok a _ ha).1
  rw [Vals.ref1 r]
  refine sg_walk R (I.ok.hd hc) hl fun z vs kp hs g1 o1 hv nd hm hlen hoL => ?_
  refine list_sort_tree hoL (ints_ko X.prog X.w hv) (by omega) fun out ns' a1 a2 a3 => ⟨.none, rfl, ?_⟩
  have e2 : ns'.length ≤ l.length := by
    rw [a2.length_eq, List.length_map]
    exact hlen
  exact sg_end I kp hs g1 o1 hoL (by rw [List.length_map, sizeLine_eq]; omega) (vals_of_ints a1) fun p hp => q ns' p (lt_of_le_nodup ns' a3 (a2.nodup_iff.mpr nd)) (fun k => a2.mem_iff.trans (hm k)) e2 hp
theorem cr_sortedGS (hc : X.calm = true) : CallR X (.builtin "sorted") (rSortGS X.prog X.w) := by
  intro pins s σ H vs us Q I r h
  obtain ⟨a, l, rfl, ha, hl, q⟩ := h
  have R : SetG (strN X.prog X.w) s.heap a l := (I.hok a _ ha).1
  rw [Vals.ref1 r]
  refine sg_walk R (I.ok.hd hc) hl fun z vs kp hs g1 o1 hv nd hm hlen hoL => ?_
  have hS := strs_ko X.prog X.w hv
  refine list_sort_treeK strKind_oneLt hoL hS.keysOf (fun v₁ v₂ rest e => keyKind_strs (by rw [← e]; exact hS)) (by omega) fun st' hp hso => ⟨.none, rfl, ?_⟩
  obtain ⟨ss', a1, a2, a3⟩ := sorted_out_str hS hp hso
  have e2 : ss'.length ≤ l.length := by
    rw [a2.length_eq, List.length_map]
    exact hlen
  exact sg_end I kp hs g1 o1 hoL (by rw [List.length_map, sizeLine_eq]; omega) (vals_of_strs a1) fun p hp => q ss' p (sortedS_ris a3 (a2.nodup_iff.mpr nd)) (fun k => a2.mem_iff.trans (hm k)) e2 hp
theorem cr_setIK (P : Program) (w : World) (K : PySem.W.Frag) (hc : X.calm = true) (hP : X.prog = P := by rfl) (hw : X.w = w := by rfl) (hK : X.K = K := by rfl) : CallR X (.type "set") (rSetI P w K) := by subst hP hw hK; exact cr_setI hc
theorem cr_setSK (P : Program) (w : World) (K : PySem.W.Frag) (hc : X.calm = true) (hP : X.prog = P := by rfl) (hw : X.w = w := by rfl) (hK : X.K = K := by rfl) : CallR X (.type "set") (rSetS P w K) := by subst hP hw hK; exact cr_setS hc
theorem cr_sortedGIK (P : Program) (w : World) (hc : X.calm = true) (hP : X.prog = P := by rfl) (hw : X.w = w := by rfl) : CallR X (.builtin "sorted") (rSortGI P w) := by subst hP hw; exact cr_sortedGI hc
theorem cr_sortedGSK (P : Program) (w : World) (hc : X.calm = true) (hP : X.prog = P := by rfl) (hw : X.w = w := by rfl) : CallR X (.builtin "sorted") (rSortGS P w) := by subst hP hw; exact cr_sortedGS hc
end
end Cl

/-! ### ClRec: what is a record, and its text, over data -/
namespace Cl
open PySem L2
section
variable {K : PySem.W.Frag} {H : Hp}
theorem DtAll.two {xs : List V} {d1 d2 : PyData} (h : DtAll K H xs [d1, d2]) : ∃ v1 v2, xs = [v1, v2] ∧ Dt K H v1 d1 ∧ Dt K H v2 d2 := by
  cases h with
  | cons h1 h => cases h with
    | cons h2 h => cases h with
      | nil => exact ⟨_, _, rfl, h1, h2⟩
theorem DtAll.three {xs : List V} {d1 d2 d3 : PyData} (h : DtAll K H xs [d1, d2, d3]) : ∃ v1 v2 v3, xs = [v1, v2, v3] ∧ Dt K H v1 d1 ∧ Dt K H v2 d2 ∧ Dt K H v3 d3 := by
  cases h with
  | cons h1 h =>
    obtain ⟨v2, v3, rfl, h2, h3⟩ := h.two
    exact ⟨_, _, _, rfl, h1, h2, h3⟩
theorem DtAll.four {xs : List V} {d1 d2 d3 d4 : PyData} (h : DtAll K H xs [d1, d2, d3, d4]) : ∃ v1 v2 v3 v4, xs = [v1, v2, v3, v4] ∧ Dt K H v1 d1 ∧ Dt K H v2 d2 ∧ Dt K H v3 d3 ∧ Dt K H v4 d4 := by
  cases h with
  | cons h1 h =>
    obtain ⟨v2, v3, v4, rfl, h2⟩ := h.three
    exact ⟨_, _, _, _, rfl, h1, h2⟩
theorem DtAll.six {xs : List V} {d1 d2 d3 d4 d5 d6 : PyData} (h : DtAll K H xs [d1, d2, d3, d4, d5, d6]) : ∃ v1 v2 v3 v4 v5 v6, xs = [v1, v2, v3, v4, v5, v6] ∧ Dt K H v1 d1 ∧ Dt K H v2 d2 ∧ Dt K H v3 d3 ∧ Dt K H v4 d4 ∧ Dt K H v5 d5 ∧ Dt K H v6 d6 := by
  cases h with
  | cons h1 h => cases h with
    | cons h2 h =>
      obtain ⟨v3, v4, v5, v6, rfl, h3⟩ := h.four
      exact ⟨_, _, _, _, _, _, rfl, h1, h2, h3⟩
end
mutual
/-- no text and no tuple is long -/
def smallD : PyData → Bool
  | .str x => decide (x.length ≤ 5000)
  | .tuple ds => decide (ds.length ≤ 5000) && smallAll ds
  | _ => true
def smallAll : List PyData → Bool
  | [] => true
  | d :: ds => smallD d && smallAll ds
end
theorem smallAll_mem : ∀ {ds : List PyData}, smallAll ds = true → ∀ d ∈ ds, smallD d = true
  | [], _, _, h => nomatch h
  | e :: ds, h, d, hd => by
    unfold smallAll at h
    obtain ⟨h1, h2⟩ := Bool.and_eq_true_iff.mp h
    rcases List.mem_cons.mp hd with rfl | hd
    · exact h1
    · exact smallAll_mem h2 d hd
theorem small_tup {ds : List PyData} (h : smallD (.tuple ds) = true) : ds.length ≤ 5000 ∧ ∀ d ∈ ds, smallD d = true := by
  unfold smallD at h
  obtain ⟨h1, h2⟩ := Bool.and_eq_true_iff.mp h
  exact ⟨of_decide_eq_true h1, smallAll_mem h2⟩
theorem small_str {x : Str} (h : smallD (.str x) = true) : x.length ≤ 5000 := by
  unfold smallD at h
  exact of_decide_eq_true h
/-- each of a tuple's things -/
def allD (f : PyData → Bool) : PyData → Bool
  | .tuple ds => ds.all f
  | _ => false
def isNum : PyData → Bool
  | .int n => decide (0 ≤ n) && decide (n ≤ 999999999999)
  | _ => false
def isOf (signs : Str) : PyData → Bool
  | .str x => decide (1 ≤ x.length) && decide (x.length ≤ 8) && x.cps.toList.all fun c => decide (c ∈ signs.cps.toList)
  | _ => false
def lettersS : Str := "abcdefghijklmnopqrstuvwxyz"
def wordsS : Str := "abcdefghijklmnopqrstuvwxyz0123456789"
def isTupL (lo hi : Nat) : PyData → Bool
  | .tuple ds => decide (lo ≤ ds.length) && decide (ds.length ≤ hi)
  | _ => false
def isAddr : PyData → Bool
  | .tuple [a, b] => isNum a && isNum b
  | _ => false
def isKindOf (ks : List Str) : PyData → Bool
  | .str x => ks.any fun k => decide (x = k)
  | _ => false
def isZ : PyData → Bool
  | .int n => decide (n = 0)
  | _ => false
def isEntry : PyData → Bool
  | .tuple [k, n, a] => isKindOf ["words", "names", "more", "node", "piece", "seal", "root"] k && isNum n && isNum a &&
      (isKindOf ["words", "names", "more", "node"] k || isZ n) && (isKindOf ["words", "names", "piece"] k || isZ a)
  | _ => false
def ltD : PyData → PyData → Bool
  | .int i, .int j => decide (i < j)
  | .str i, .str j => decide (i.cps.toList < j.cps.toList)
  | _, _ => false
def rising (ds : List PyData) : Bool := (List.range (ds.length - 1)).all fun k => ltD (ds.getD k .none) (ds.getD (k + 1) .none)
def isRow : PyData → Bool
  | .tuple [a, b] => isOf lettersS a && isNum b
  | _ => false
def isStanding : PyData → Bool
  | .tuple [a, b] => isNum a && isAddr b
  | _ => false
def isNoneD : PyData → Bool
  | .none => true
  | _ => false
/-- the firsts of a tuple of tuples -/
def firstD : PyData → PyData
  | .tuple (a :: _) => a
  | _ => .none
def firsts : PyData → List PyData
  | .tuple ds => ds.map firstD
  | _ => []
def itemsD : PyData → List PyData
  | .tuple ds => ds
  | _ => []
def isHead (ds : List PyData) : Bool := decide (ds.length = 1) && ds.all isNum
def isPart : List PyData → Bool
  | [a, b, c] => isNum a && isNum b && (isTupL 1 20 c && allD isEntry c)
  | _ => false
def isWords : List PyData → Bool
  | [a, b, c] => isNum a && isNum b && (isTupL 1 4 c && allD (isOf wordsS) c)
  | _ => false
def isNames : List PyData → Bool
  | [a, b, c] => isNum a && isNum b && isTupL 1 4 c && (allD isRow c && rising (firsts c))
  | _ => false
def isMore : List PyData → Bool
  | [a, b] => isNum a && (isTupL 1 12 b && allD isAddr b)
  | _ => false
def isNode : List PyData → Bool
  | [a, b, c, d, e, f] => isNum a && isKindOf ["file", "dir"] b && (isNum c && isNum d) && (isTupL 0 3 e && allD isAddr e) && (isNoneD f || isAddr f)
  | _ => false
def isPiece : List PyData → Bool
  | [a, b] => isNum a && isTupL 1 6 b && (allD isStanding b && rising (firsts b))
  | _ => false
def isSeal : List PyData → Bool
  | [a, b, c, d] => isNum a && isNum b && isNum c && isTupL 0 30 d && (allD isNum d && rising (itemsD d))
  | _ => false
def isRoot : List PyData → Bool
  | [a, b, c, d] => isNum a && isNum b && isNum c && (isTupL 1 10 d && allD isAddr d)
  | _ => false
/-- what is a record -/
def isRec : PyData → Bool
  | .tuple (.str k :: ds) =>
    if k = "head" then isHead ds else if k = "part" then isPart ds else if k = "words" then isWords ds else if k = "names" then isNames ds else if k = "more" then isMore ds
    else if k = "node" then isNode ds else if k = "piece" then isPiece ds else if k = "seal" then isSeal ds else if k = "root" then isRoot ds else false
  | _ => false
mutual
/-- a thing within a record as texts -/
def flatL : PyData → List Str
  | .none => ["-"]
  | .str x => [x]
  | .int n => [hexS n.toNat]
  | .tuple ds => flatAll ds
  | _ => []
def flatAll : List PyData → List Str
  | [] => []
  | d :: ds => flatL d ++ flatAll ds
end
/-- None, texts, whole numbers from nought on, tuples of such, at most so deep -/
def okF : Nat → PyData → Bool
  | _, .none => true
  | _, .str _ => true
  | _, .int n => decide (0 ≤ n) && decide (n < 2 ^ 60)
  | k + 1, .tuple ds => ds.all (okF k)
  | _, _ => false
theorem flatAll_take : ∀ {ds : List PyData} {i : Nat} {d : PyData}, ds[i]? = some d → flatAll (ds.take (i + 1)) = flatAll (ds.take i) ++ flatL d
  | [], _, _, h => by simp at h
  | e :: ds, 0, d, h => by
    have h' : e = d := by simpa using h
    subst h'
    show flatL e ++ flatAll [] = [] ++ flatL e
    simp [flatAll]
  | e :: ds, i + 1, d, h => by
    have h' : ds[i]? = some d := by simpa using h
    show flatL e ++ flatAll (ds.take (i + 1)) = (flatL e ++ flatAll (ds.take i)) ++ flatL d
    rw [flatAll_take h', List.append_assoc]
theorem flatAll_len : ∀ (ds : List PyData) (i : Nat), (flatAll (ds.take i)).length ≤ (flatAll ds).length
  | [], i => by simp
  | d :: ds, 0 => Nat.zero_le _
  | d :: ds, i + 1 => by
    show (flatL d ++ flatAll (ds.take i)).length ≤ (flatL d ++ flatAll ds).length
    rw [List.length_append, List.length_append]
    have := flatAll_len ds i
    omega
end Cl

/-! ### ClMild: what a record has within is small; texts one behind another -/
namespace Cl
open PySem L2
/-- a small letter or a figure -/
def pch (c : Nat) : Bool := (decide (48 ≤ c) && decide (c ≤ 57)) || (decide (97 ≤ c) && decide (c ≤ 122))
theorem pch_ok {c : Nat} (h : pch c = true) : (48 ≤ c ∧ c ≤ 57) ∨ (97 ≤ c ∧ c ≤ 122) := by
  unfold pch at h
  simpa only [Bool.or_eq_true, Bool.and_eq_true, decide_eq_true_eq] using h
theorem pch_lt {c : Nat} (h : pch c = true) : c < 128 := by have := pch_ok h; omega
theorem pch_nb {c : Nat} (h : pch c = true) : c ≠ 32 := fun e => by have := pch_ok h; omega
/-- None, small numbers, short plain texts, tuples so long, so deep -/
def mild : List Nat → PyData → Bool
  | _, .none => true
  | _, .int n => decide (0 ≤ n) && decide (n < 2 ^ 60)
  | _, .str x => decide (x.length ≤ 8) && x.cps.toList.all pch
  | b :: bs, .tuple ds => decide (ds.length ≤ b) && ds.all (mild bs)
  | _, _ => false
theorem mild_none (bs : List Nat) : mild bs .none = true := by cases bs <;> rfl
theorem mild_num {bs : List Nat} {d : PyData} (h : isNum d = true) : mild bs d = true := by
  cases d with
  | int n =>
    have h' : (decide (0 ≤ n) && decide (n ≤ 999999999999)) = true := h
    have q : (decide (0 ≤ n) && decide (n < 2 ^ 60)) = true := by
      simp only [Bool.and_eq_true, decide_eq_true_eq] at h' ⊢
      omega
    cases bs <;> exact q
  | _ => cases h
theorem mild_str {bs : List Nat} {x : Str} (h : x.length ≤ 8) (hc : ∀ c ∈ x.cps.toList, pch c = true) : mild bs (.str x) = true := by
  have q : (decide (x.length ≤ 8) && x.cps.toList.all pch) = true := by
    rw [decide_eq_true h, Bool.true_and, List.all_eq_true]
    exact hc
  cases bs <;> exact q
theorem mild_of {bs : List Nat} {y : Str} {d : PyData} (hy : y.cps.toList.all pch = true) (h : isOf y d = true) : mild bs d = true := by
  cases d with
  | str x =>
    have h' : (decide (1 ≤ x.length) && decide (x.length ≤ 8) && x.cps.toList.all fun c => decide (c ∈ y.cps.toList)) = true := h
    simp only [Bool.and_eq_true, decide_eq_true_eq] at h'
    exact mild_str h'.1.2 fun c hc => List.all_eq_true.mp hy c (of_decide_eq_true (List.all_eq_true.mp h'.2 c hc))
  | _ => cases h
theorem mild_kind {bs : List Nat} {ks : List Str} {d : PyData} (hk : ks.all (fun k => mild [] (.str k)) = true) (h : isKindOf ks d = true) : mild bs d = true := by
  cases d with
  | str x =>
    obtain ⟨k, hm, e⟩ := List.any_eq_true.mp (show (ks.any fun k => decide (x = k)) = true from h)
    have e' : x = k := of_decide_eq_true e
    have := List.all_eq_true.mp hk k hm
    rw [← e'] at this
    cases bs <;> exact this
  | _ => cases h
theorem mild_tup {b : Nat} {bs : List Nat} {ds : List PyData} (hl : ds.length ≤ b) (h : ∀ d ∈ ds, mild bs d = true) : mild (b :: bs) (.tuple ds) = true := by
  show (decide (ds.length ≤ b) && ds.all (mild bs)) = true
  rw [decide_eq_true hl, Bool.true_and, List.all_eq_true]
  exact h
theorem mild_tupI {b : Nat} {bs : List Nat} {ds : List PyData} (h : mild (b :: bs) (.tuple ds) = true) : ds.length ≤ b ∧ ∀ d ∈ ds, mild bs d = true := by
  obtain ⟨h1, h2⟩ := Bool.and_eq_true_iff.mp (show (decide (ds.length ≤ b) && ds.all (mild bs)) = true from h)
  exact ⟨of_decide_eq_true h1, List.all_eq_true.mp h2⟩
theorem mild_addr {b : Nat} {bs : List Nat} {d : PyData} (hb : 2 ≤ b) (h : isAddr d = true) : mild (b :: bs) d = true := by
  match d, h with
  | .tuple [x, y], h =>
    obtain ⟨h1, h2⟩ := Bool.and_eq_true_iff.mp (show (isNum x && isNum y) = true from h)
    refine mild_tup hb fun d hd => ?_
    rcases List.mem_cons.mp hd with rfl | hd
    · exact mild_num h1
    · exact List.mem_singleton.mp hd ▸ mild_num h2
theorem mild_row {b : Nat} {bs : List Nat} {d : PyData} (hb : 2 ≤ b) (h : isRow d = true) : mild (b :: bs) d = true := by
  match d, h with
  | .tuple [x, y], h =>
    obtain ⟨h1, h2⟩ := Bool.and_eq_true_iff.mp (show (isOf lettersS x && isNum y) = true from h)
    refine mild_tup hb fun d hd => ?_
    rcases List.mem_cons.mp hd with rfl | hd
    · exact mild_of (by decide +kernel) h1
    · exact List.mem_singleton.mp hd ▸ mild_num h2
theorem mild_standing {b c : Nat} {bs : List Nat} {d : PyData} (hb : 2 ≤ b) (hc : 2 ≤ c) (h : isStanding d = true) : mild (b :: c :: bs) d = true := by
  match d, h with
  | .tuple [x, y], h =>
    obtain ⟨h1, h2⟩ := Bool.and_eq_true_iff.mp (show (isNum x && isAddr y) = true from h)
    refine mild_tup hb fun d hd => ?_
    rcases List.mem_cons.mp hd with rfl | hd
    · exact mild_num h1
    · exact List.mem_singleton.mp hd ▸ mild_addr hc h2
theorem mild_entry {b : Nat} {bs : List Nat} {d : PyData} (hb : 3 ≤ b) (h : isEntry d = true) : mild (b :: bs) d = true := by
  match d, h with
  | .tuple [x, y, z], h =>
    simp only [isEntry, Bool.and_eq_true] at h
    refine mild_tup hb fun d hd => ?_
    rcases List.mem_cons.mp hd with rfl | hd
    · exact mild_kind (by decide +kernel) h.1.1.1.1
    · rcases List.mem_cons.mp hd with rfl | hd
      · exact mild_num h.1.1.1.2
      · exact List.mem_singleton.mp hd ▸ mild_num h.1.1.2
theorem mild_all {lo hi b : Nat} {bs : List Nat} {f : PyData → Bool} {d : PyData} (h1 : isTupL lo hi d = true) (h2 : allD f d = true) (hb : hi ≤ b) (hf : ∀ d, f d = true → mild bs d = true) : mild (b :: bs) d = true := by
  match d, h1 with
  | .tuple ds, h1 =>
    obtain ⟨_, q⟩ := Bool.and_eq_true_iff.mp (show (decide (lo ≤ ds.length) && decide (ds.length ≤ hi)) = true from h1)
    exact mild_tup (Nat.le_trans (of_decide_eq_true q) hb) fun d hd => hf d (List.all_eq_true.mp (show ds.all f = true from h2) d hd)
theorem mem1 {p : PyData → Prop} {a : PyData} (h : p a) : ∀ d ∈ [a], p d := fun d hd => List.mem_singleton.mp hd ▸ h
theorem memc {p : PyData → Prop} {a : PyData} {r : List PyData} (h : p a) (k : ∀ d ∈ r, p d) : ∀ d ∈ a :: r, p d := fun d hd => (List.mem_cons.mp hd).elim (fun e => e ▸ h) (k d)
/-- what a record has within is mild -/
theorem rec_mild {k : Str} {ds : List PyData} (h : isRec (.tuple (.str k :: ds)) = true) : ds.length ≤ 6 ∧ (k.length ≤ 8 ∧ ∀ c ∈ k.cps.toList, pch c = true) ∧ ∀ d ∈ ds, mild [30, 3, 2] d = true := by
  have kd : ∀ {x : Str}, k = x → (decide (x.length ≤ 8) && x.cps.toList.all pch) = true → k.length ≤ 8 ∧ ∀ c ∈ k.cps.toList, pch c = true := by
    rintro x rfl h
    obtain ⟨h1, h2⟩ := Bool.and_eq_true_iff.mp h
    exact ⟨of_decide_eq_true h1, List.all_eq_true.mp h2⟩
  have en : ∀ {d : PyData}, isNum d = true → mild [30, 3, 2] d = true := fun h => mild_num h
  replace h : (if k = "head" then isHead ds else if k = "part" then isPart ds else if k = "words" then isWords ds else if k = "names" then isNames ds else if k = "more" then isMore ds
    else if k = "node" then isNode ds else if k = "piece" then isPiece ds else if k = "seal" then isSeal ds else if k = "root" then isRoot ds else false) = true := h
  split at h
  · rename_i e
    obtain ⟨h1, h2⟩ := Bool.and_eq_true_iff.mp (show (decide (ds.length = 1) && ds.all isNum) = true from h)
    have := of_decide_eq_true h1
    exact ⟨by omega, kd e (by decide +kernel), fun d hd => en (List.all_eq_true.mp h2 d hd)⟩
  split at h
  · rename_i e
    match ds, h with
    | [a, b, c], h =>
      simp only [isPart, Bool.and_eq_true] at h
      exact ⟨by simp, kd e (by decide +kernel), memc (en h.1.1) (memc (en h.1.2) (mem1 (mild_all h.2.1 h.2.2 (by decide) fun d hd => mild_entry (by decide) hd)))⟩
  split at h
  · rename_i e
    match ds, h with
    | [a, b, c], h =>
      simp only [isWords, Bool.and_eq_true] at h
      exact ⟨by simp, kd e (by decide +kernel), memc (en h.1.1) (memc (en h.1.2) (mem1 (mild_all h.2.1 h.2.2 (by decide) fun d hd => mild_of (by decide +kernel) hd)))⟩
  split at h
  · rename_i e
    match ds, h with
    | [a, b, c], h =>
      simp only [isNames, Bool.and_eq_true] at h
      exact ⟨by simp, kd e (by decide +kernel), memc (en h.1.1.1) (memc (en h.1.1.2) (mem1 (mild_all h.1.2 h.2.1 (by decide) fun d hd => mild_row (by decide) hd)))⟩
  split at h
  · rename_i e
    match ds, h with
    | [a, b], h =>
      simp only [isMore, Bool.and_eq_true] at h
      exact ⟨by simp, kd e (by decide +kernel), memc (en h.1) (mem1 (mild_all h.2.1 h.2.2 (by decide) fun d hd => mild_addr (by decide) hd))⟩
  split at h
  · rename_i e
    match ds, h with
    | [a, b, c, d, e1, f], h =>
      simp only [isNode, Bool.and_eq_true, Bool.or_eq_true] at h
      refine ⟨by simp, kd e (by decide +kernel), memc (en h.1.1.1.1) (memc (mild_kind (by decide +kernel) h.1.1.1.2) (memc (en h.1.1.2.1) (memc (en h.1.1.2.2) (memc (mild_all h.1.2.1 h.1.2.2 (by decide) fun d hd => mild_addr (by decide) hd) (mem1 ?_)))))⟩
      rcases h.2 with q | q
      · match f, q with
        | .none, _ => rfl
      · exact mild_addr (by decide) q
  split at h
  · rename_i e
    match ds, h with
    | [a, b], h =>
      simp only [isPiece, Bool.and_eq_true] at h
      exact ⟨by simp, kd e (by decide +kernel), memc (en h.1.1) (mem1 (mild_all h.1.2 h.2.1 (by decide) fun d hd => mild_standing (by decide) (by decide) hd))⟩
  split at h
  · rename_i e
    match ds, h with
    | [a, b, c, d], h =>
      simp only [isSeal, Bool.and_eq_true] at h
      exact ⟨by simp, kd e (by decide +kernel), memc (en h.1.1.1.1) (memc (en h.1.1.1.2) (memc (en h.1.1.2) (mem1 (mild_all h.1.2 h.2.1 (by decide) fun d hd => mild_num hd))))⟩
  split at h
  · rename_i e
    match ds, h with
    | [a, b, c, d], h =>
      simp only [isRoot, Bool.and_eq_true] at h
      exact ⟨by simp, kd e (by decide +kernel), memc (en h.1.1.1) (memc (en h.1.1.2) (memc (en h.1.2) (mem1 (mild_all h.2.1 h.2.2 (by decide) fun d hd => mild_addr (by decide) hd))))⟩
  · cases h
/-! what follows -/
theorem mild_okF : ∀ (bs : List Nat) (k : Nat) (d : PyData), bs.length ≤ k → mild bs d = true → okF k d = true
  | _, k, .none, _, _ => by cases k <;> rfl
  | bs, k, .int n, _, h => by
    have q : (decide (0 ≤ n) && decide (n < 2 ^ 60)) = true := by cases bs <;> exact h
    cases k <;> exact q
  | _, k, .str _, _, _ => by cases k <;> rfl
  | [], _, .tuple _, _, h => by cases h
  | b :: bs, 0, .tuple _, hk, _ => by simp at hk
  | b :: bs, k + 1, .tuple ds, hk, h => by
    show ds.all (okF k) = true
    exact List.all_eq_true.mpr fun d hd => mild_okF bs k d (by simpa using hk) ((mild_tupI h).2 d hd)
  | bs, _, .bool _, _, h => by cases bs <;> cases h
  | bs, _, .list _, _, h => by cases bs <;> cases h
  | bs, _, .dict _, _, h => by cases bs <;> cases h
theorem smallAll_of : ∀ {ds : List PyData}, (∀ d ∈ ds, smallD d = true) → smallAll ds = true
  | [], _ => rfl
  | d :: ds, h => by
    unfold smallAll
    rw [h d List.mem_cons_self, smallAll_of fun x hx => h x (List.mem_cons_of_mem _ hx)]
    rfl
theorem mild_strI {bs : List Nat} {x : Str} (h : mild bs (.str x) = true) : x.length ≤ 8 ∧ ∀ c ∈ x.cps.toList, pch c = true := by
  have q : (decide (x.length ≤ 8) && x.cps.toList.all pch) = true := by cases bs <;> exact h
  obtain ⟨h1, h2⟩ := Bool.and_eq_true_iff.mp q
  exact ⟨of_decide_eq_true h1, List.all_eq_true.mp h2⟩
theorem mild_intI {bs : List Nat} {n : Int} (h : mild bs (.int n) = true) : 0 ≤ n ∧ n < 2 ^ 60 := by
  have q : (decide (0 ≤ n) && decide (n < 2 ^ 60)) = true := by cases bs <;> exact h
  simpa using q
theorem mild_small : ∀ (bs : List Nat) (d : PyData), (∀ b ∈ bs, b ≤ 5000) → mild bs d = true → smallD d = true
  | _, .none, _, _ => rfl
  | _, .int _, _, _ => rfl
  | _, .bool _, _, _ => rfl
  | bs, .str x, _, h => by
    unfold smallD
    exact decide_eq_true (by have := (mild_strI h).1; omega)
  | [], .tuple _, _, h => by cases h
  | b :: bs, .tuple ds, hb, h => by
    unfold smallD
    obtain ⟨h1, h2⟩ := mild_tupI h
    rw [decide_eq_true (Nat.le_trans h1 (hb b List.mem_cons_self)), smallAll_of fun d hd => mild_small bs d (fun x hx => hb x (List.mem_cons_of_mem _ hx)) (h2 d hd)]
    rfl
  | bs, .list _, _, h => by cases bs <;> cases h
  | bs, .dict _, _, h => by cases bs <;> cases h
theorem mild_shp : ∀ (bs : List Nat) (d : PyData), mild bs d = true → Shp bs.length d
  | _, .none, _ => Shp.none
  | _, .int n, _ => Shp.int n
  | bs, .bool _, h => by cases bs <;> cases h
  | bs, .str x, h => Shp.str fun c hc => Nat.lt_trans (pch_lt ((mild_strI h).2 c hc)) (by decide)
  | [], .tuple _, h => by cases h
  | b :: bs, .tuple ds, h => Shp.tuple fun d hd => mild_shp bs d ((mild_tupI h).2 d hd)
  | bs, .list _, h => by cases bs <;> cases h
  | bs, .dict _, h => by cases bs <;> cases h
def cntB : List Nat → Nat
  | [] => 1
  | b :: bs => b * cntB bs + 1
theorem cntB_pos (bs : List Nat) : 1 ≤ cntB bs := by
  cases bs with
  | nil => exact Nat.le_refl 1
  | cons b bs => exact Nat.le_add_left _ _
theorem hexS_len {n : Nat} (h : n < 2 ^ 60) : (hexS n).length ≤ 15 := by
  have key : ∀ (i j : Nat) (l : List Nat), i ≤ 15 → l.length = 15 - i → j < 16 ^ i → ∀ k, (hxR k j l).length ≤ 15 := by
    intro i
    induction i with
    | zero =>
      intro j l _ hl hj k
      have : j = 0 := by simpa using hj
      subst this
      rw [hxR_zero, hl]
      exact Nat.le_refl _
    | succ i ih =>
      intro j l hi hl hj k
      cases k with
      | zero =>
        show l.length ≤ 15
        omega
      | succ k =>
        show (if j = 0 then l else hxR k (j / 16) (Cl.hd (j % 16) :: l)).length ≤ 15
        split
        · omega
        · refine ih _ _ (by omega) (by rw [List.length_cons]; omega) ?_ k
          rw [Nat.pow_succ] at hj
          exact Nat.div_lt_of_lt_mul (by omega)
  unfold hexS
  rw [sOf_len]
  unfold hexL
  refine key 14 (n / 16) _ (by decide) rfl ?_ n
  have e : (2:Nat) ^ 60 = 16 ^ 14 * 16 := by decide
  rw [e] at h
  exact Nat.div_lt_of_lt_mul (by omega)
theorem flatAll_mild {bs : List Nat} {c : Nat} (ih : ∀ d, mild bs d = true → (flatL d).length ≤ c ∧ ∀ t ∈ flatL d, t.length ≤ 15) : ∀ (ds : List PyData), (∀ d ∈ ds, mild bs d = true) → (flatAll ds).length ≤ ds.length * c ∧ ∀ t ∈ flatAll ds, t.length ≤ 15
  | [], _ => ⟨by simp [flatAll], fun t h => by simp [flatAll] at h⟩
  | d :: ds, h => by
    obtain ⟨a1, a2⟩ := ih d (h d List.mem_cons_self)
    obtain ⟨b1, b2⟩ := flatAll_mild ih ds fun x hx => h x (List.mem_cons_of_mem _ hx)
    refine ⟨?_, fun t ht => ?_⟩
    · show (flatL d ++ flatAll ds).length ≤ _
      rw [List.length_append, List.length_cons, Nat.succ_mul]
      omega
    · rcases List.mem_append.mp (show t ∈ flatL d ++ flatAll ds from ht) with h | h
      · exact a2 t h
      · exact b2 t h
theorem mild_flat : ∀ (bs : List Nat) (d : PyData), mild bs d = true → (flatL d).length ≤ cntB bs ∧ ∀ t ∈ flatL d, t.length ≤ 15
  | bs, .none, _ => ⟨cntB_pos bs, fun t ht => by rw [List.mem_singleton.mp ht]; decide⟩
  | bs, .int n, h => ⟨cntB_pos bs, fun t ht => by
    rw [List.mem_singleton.mp ht]
    have := mild_intI h
    exact hexS_len (by omega)⟩
  | bs, .bool _, h => by cases bs <;> cases h
  | bs, .str x, h => ⟨cntB_pos bs, fun t ht => by
    rw [List.mem_singleton.mp ht]
    have := (mild_strI h).1
    omega⟩
  | [], .tuple _, h => by cases h
  | b :: bs, .tuple ds, h => by
    obtain ⟨h1, h2⟩ := mild_tupI h
    obtain ⟨q1, q2⟩ := flatAll_mild (fun d hd => mild_flat bs d hd) ds h2
    refine ⟨?_, q2⟩
    show (flatAll ds).length ≤ b * cntB bs + 1
    have := Nat.mul_le_mul_right (cntB bs) h1
    omega
  | bs, .list _, h => by cases bs <;> cases h
  | bs, .dict _, h => by cases bs <;> cases h
def szB : List Nat → Nat
  | [] => 82
  | b :: bs => (szB bs + 2) * b + 3 + 82
theorem szB_ge (bs : List Nat) : 82 ≤ szB bs := by
  cases bs with
  | nil => exact Nat.le_refl _
  | cons b bs => exact Nat.le_add_left _ _
theorem mild_sz : ∀ (bs : List Nat) (d : PyData), mild bs d = true → Sz bs.length (szB bs) d
  | bs, .none, _ => Sz.none.mono (Nat.le_refl _) (by have := szB_ge bs; omega)
  | bs, .int n, h => by
    have := mild_intI h
    exact (Sz.int (k := bs.length) (m := 60) (by decide) (by omega) (by decide)).mono (Nat.le_refl _) (by have := szB_ge bs; omega)
  | bs, .bool _, h => by cases bs <;> cases h
  | bs, .str x, h => by
    obtain ⟨h1, h2⟩ := mild_strI h
    exact (Sz.str (k := bs.length) fun c hc => Nat.lt_trans (pch_lt (h2 c hc)) (by decide)).mono (Nat.le_refl _) (by have := szB_ge bs; omega)
  | [], .tuple _, h => by cases h
  | b :: bs, .tuple ds, h => by
    obtain ⟨h1, h2⟩ := mild_tupI h
    refine (Sz.tuple (k := bs.length) (n := szB bs) fun d hd => mild_sz bs d (h2 d hd)).mono (Nat.le_refl _) ?_
    show _ ≤ (szB bs + 2) * b + 3 + 82
    have := Nat.mul_le_mul_left (szB bs + 2) h1
    omega
  | bs, .list _, h => by cases bs <;> cases h
  | bs, .dict _, h => by cases bs <;> cases h
/-- a record as a whole -/
theorem rec_all {k : Str} {ds : List PyData} (h : isRec (.tuple (.str k :: ds)) = true) : mild [7, 30, 3, 2] (.tuple (.str k :: ds)) = true := by
  obtain ⟨h1, ⟨h2, h3⟩, h4⟩ := rec_mild h
  exact mild_tup (by rw [List.length_cons]; omega) (memc (mild_str h2 h3) h4)
/-! ### texts one behind another, a blank ahead of each -/
def spc : List Str → Str
  | [] => Str.empty
  | t :: r => " " ++ t ++ spc r
theorem str_app_empty (a : Str) : a ++ Str.empty = a := by
  cases a
  show (⟨_ ++ #[]⟩ : Str) = _
  rw [Array.append_empty]
theorem str_empty_app (a : Str) : Str.empty ++ a = a := by
  cases a
  show (⟨#[] ++ _⟩ : Str) = _
  rw [Array.empty_append]
theorem str_app_assoc (a b c : Str) : a ++ b ++ c = a ++ (b ++ c) := by
  cases a
  cases b
  cases c
  show (⟨_ ++ _ ++ _⟩ : Str) = ⟨_ ++ (_ ++ _)⟩
  rw [Array.append_assoc]
theorem spc_app : ∀ (a b : List Str), spc (a ++ b) = spc a ++ spc b
  | [], b => (str_empty_app _).symm
  | t :: r, b => by
    show " " ++ t ++ spc (r ++ b) = " " ++ t ++ spc r ++ spc b
    rw [spc_app r b, ← str_app_assoc]
theorem join_spc : ∀ (t : Str) (r : List Str), Txt.join " " (t :: r) = t ++ spc r := by
  intro t r
  rw [TL.join_eq]
  induction r generalizing t with
  | nil => exact (str_app_empty t).symm
  | cons u r ih =>
    show t ++ " " ++ Str.join " " (u :: r) = t ++ (" " ++ u ++ spc r)
    rw [ih u, str_app_assoc, str_app_assoc]
theorem join_cat : ∀ l : List Str, Txt.join Str.empty l = l.foldr (· ++ ·) Str.empty := by
  intro l
  rw [TL.join_eq]
  induction l with
  | nil => rfl
  | cons t r ih =>
    cases r with
    | nil => exact (str_app_empty t).symm
    | cons u r =>
      show t ++ Str.empty ++ Str.join Str.empty (u :: r) = t ++ List.foldr (· ++ ·) Str.empty (u :: r)
      rw [ih, str_app_empty]
theorem spc_len : ∀ l : List Str, (spc l).length = (l.map (·.length)).sum + l.length
  | [] => rfl
  | t :: r => by
    show (" " ++ t ++ spc r).length = _
    rw [len_append, len_append, spc_len r, List.map_cons, List.sum_cons, List.length_cons]
    have : (Str.ofString " ").length = 1 := rfl
    omega
theorem sum15 : ∀ {l : List Str}, (∀ t ∈ l, t.length ≤ 15) → (l.map (·.length)).sum ≤ 15 * l.length
  | [], _ => Nat.le_refl _
  | t :: r, h => by
    rw [List.map_cons, List.sum_cons, List.length_cons]
    have := sum15 (l := r) fun x hx => h x (List.mem_cons_of_mem _ hx)
    have := h t List.mem_cons_self
    omega
end Cl

/-! ### ClGen: comprehensions that draw, menus -/
namespace Cl
open PySem L2
section
variable {K : PySem.W.Frag}
theorem lc_data {lo : Int} {n j : Nat} {te : TE} {vs : List Nat} {σ : L2.St} {H1 : Hp} {D p : Addr} {a b : Int} {Qd : Hp → Prop} (G : PyData → Prop) (hw : ∀ x, wipe ((wipe σ vs).set j x) vs = wipe σ vs) (hp : Pot H1 p a b) (hD : H1 D = none) (hn : n ≤ 50000)
    (hs : ∀ (i : Nat) (H : Hp) (a' b' : Int) (k : VK), i < n → Pot H p a' b' → SameBut p H1 H → (∀ (v : V) (d : PyData) (H' : Hp) (a2 b2 : Int), SameBut p H H' → Pot H' p a2 b2 → Dt K H' v d → G d → k v H') → te ((wipe σ vs).set j (some (.int (lo + i)))) H k)
    (hd : ∀ (H : Hp) (ws : List V) (ds : List PyData) (a' b' : Int), H D = some (.lst ws) → DtAll K H ws ds → ds.length = n → (∀ d ∈ ds, G d) → Pot H p a' b' → SameBut p H1 H → Qd H) :
    ∃ W : Nat → Nat → Hp → Prop, (∃ m, W 0 m (upd H1 D (.lst []))) ∧ ∀ i m H, W i m H →
      ((Itr lo n).stop i H ∧ Qd H) ∨ ((Itr lo n).go i H ∧ ∃ Nx : Hp → Prop, (∀ H', Nx H' → ∃ m', m' < m ∧ W (i + 1) m' H') ∧ ∀ x H', (Itr lo n).yld i H x H' → gName j x (wipe σ vs) H' fun σ2 H2 => wipe σ2 vs = wipe σ vs ∧ tYes σ2 H2 fun b H3 =>
        if b = true then te σ2 H3 fun y H4 => ∃ acc, H4 D = some (.lst acc) ∧ acc.length < sizeLine ∧ Nx (upd H4 D (.lst (acc ++ [y]))) else Nx H3) := by
  have nDp : D ≠ p := hp.ne hD
  refine lc_range (fun i H => ∃ (ws : List V) (ds : List PyData) (a' b' : Int), H D = some (.lst ws) ∧ DtAll K H ws ds ∧ ds.length = i ∧ (∀ d ∈ ds, G d) ∧ Pot H p a' b' ∧ SameBut p H1 H) ⟨[], [], _, _, upd_same, .nil, rfl, (fun _ h => nomatch h), hp.new hD, (SameBut.refl p H1).new hD⟩ ?_ ?_
  · rintro i H hi ⟨ws, ds, a', b', hl, hdt, hdl, hg, hp5, hsb⟩
    refine ⟨hw _, ?_⟩
    refine hs i H a' b' _ hi hp5 hsb fun v d H' a2 b2 s2 p2 hv gv => ?_
    have hl2 := s2.at hl nDp
    have hwl : ws.length = i := by rw [hdt.length, hdl]
    have tl : TS H' (upd H' D (.lst (ws ++ [v]))) := TS.lst hl2
    refine ⟨ws, hl2, sz_lt (by omega), ws ++ [v], ds ++ [d], a2, b2, upd_same, ((hdt.m (TS.pot s2 hp5)).m tl).app (.cons (hv.m tl) .nil), by rw [List.length_append, hdl]; rfl, fun x hx => ?_, p2.other nDp, (hsb.trans s2).newer hD⟩
    rcases List.mem_append.mp hx with h | h
    · exact hg x h
    · exact List.mem_singleton.mp h ▸ gv
  · rintro H ⟨ws, ds, a', b', hl, hdt, hdl, hg, hp5, hsb⟩
    exact hd H ws ds a' b' hl hdt hdl hg hp5 hsb
theorem DtAll.ints_of {H : Hp} {P : Int → Prop} : ∀ {ws : List V} {ds : List PyData}, DtAll K H ws ds → (∀ d ∈ ds, ∃ n, d = .int n ∧ P n) → ∃ ns : List Int, ws = ns.map V.int ∧ ds = ns.map PyData.int ∧ ∀ n ∈ ns, P n
  | _, [], h, _ => by
    cases h
    exact ⟨[], rfl, rfl, fun _ h => nomatch h⟩
  | _, d :: ds, h, g => by
    cases h with
    | cons h1 h2 =>
      obtain ⟨ns, e1, e2, e3⟩ := DtAll.ints_of h2 fun x hx => g x (List.mem_cons_of_mem _ hx)
      obtain ⟨n, rfl, hn⟩ := g d List.mem_cons_self
      obtain rfl := h1.intI
      refine ⟨n :: ns, by rw [e1]; rfl, by rw [e2]; rfl, fun m hm => ?_⟩
      rcases List.mem_cons.mp hm with rfl | hm
      · exact hn
      · exact e3 m hm
theorem DtAll.strs_of {H : Hp} {P : Str → Prop} : ∀ {ws : List V} {ds : List PyData}, DtAll K H ws ds → (∀ d ∈ ds, ∃ n, d = .str n ∧ P n) → ∃ ns : List Str, ws = ns.map V.str ∧ ds = ns.map PyData.str ∧ ∀ n ∈ ns, P n
  | _, [], h, _ => by
    cases h
    exact ⟨[], rfl, rfl, fun _ h => nomatch h⟩
  | _, d :: ds, h, g => by
    cases h with
    | cons h1 h2 =>
      obtain ⟨ns, e1, e2, e3⟩ := DtAll.strs_of h2 fun x hx => g x (List.mem_cons_of_mem _ hx)
      obtain ⟨n, rfl, hn⟩ := g d List.mem_cons_self
      obtain rfl := h1.strI
      refine ⟨n :: ns, by rw [e1]; rfl, by rw [e2]; rfl, fun m hm => ?_⟩
      rcases List.mem_cons.mp hm with rfl | hm
      · exact hn
      · exact e3 m hm
end
/-- one of a written list, by its place -/
theorem menu {α : Type} {P : α → Prop} {xs : List α} {i : Int} (h : ∀ v ∈ xs, P v) (h0 : 0 ≤ i) (h1 : i < (xs.length : Int)) : ∃ v, atI xs i = some v ∧ P v := by
  obtain ⟨v, hv, hm⟩ := atI_mem h0 h1
  exact ⟨v, hv, h v hm⟩
theorem allc {α : Type} {p : α → Prop} {a : α} {r : List α} (h : p a) (k : ∀ d ∈ r, p d) : ∀ d ∈ a :: r, p d := fun d hd => (List.mem_cons.mp hd).elim (fun e => e ▸ h) (k d)
theorem alln {α : Type} {p : α → Prop} : ∀ d ∈ ([] : List α), p d := fun _ h => nomatch h
end Cl

/-! ### ClTs: a record's texts, how many, how long -/
namespace Cl
open PySem L2
/-- whether the i-th thing of a record is told with how many it has -/
def sevB (kd : Str) (i : Nat) (d : PyData) : Bool := isTupD d && (decide (kd ≠ "node") || decide (i ≠ 6))
/-- a record's texts, of the first i things -/
def recTs (kd : Str) (ds : List PyData) : Nat → List Str
  | 0 => []
  | i + 1 => recTs kd ds i ++ (match (PyData.str kd :: ds)[i]? with
    | some d => (if sevB kd i d then [hexS (itemsD d).length] else []) ++ flatL d
    | none => [])
def recBody (kd : Str) (ds : List PyData) : Str := Txt.join " " (recTs kd ds (ds.length + 1))
def recText (kd : Str) (ds : List PyData) : Str := recBody kd ds ++ "#" ++ sumS (recBody kd ds)
theorem recTs_hd (kd : Str) (ds : List PyData) : ∀ i, ∃ r, recTs kd ds (i + 1) = kd :: r
  | 0 => ⟨[], rfl⟩
  | i + 1 => by
    obtain ⟨r, h⟩ := recTs_hd kd ds i
    exact ⟨_, by show recTs kd ds (i + 1) ++ _ = _; rw [h]; rfl⟩
theorem join_more {kd : Str} {r l : List Str} : Txt.join " " ((kd :: r) ++ l) = Txt.join " " (kd :: r) ++ spc l := by
  show Txt.join " " (kd :: (r ++ l)) = _
  rw [join_spc, join_spc, spc_app, str_app_assoc]
/-- what is known of a record's texts -/
structure RecOk (kd : Str) (ds : List PyData) : Prop where
  len : ds.length ≤ 6
  sm : smallD (.tuple (.str kd :: ds)) = true
  sh : SeqAt.shaped (.tuple (.str kd :: ds)) = true
  ok : ∀ d ∈ PyData.str kd :: ds, okF 5 d = true
  fl : ∀ d ∈ PyData.str kd :: ds, (flatL d).length ≤ 301 ∧ ∀ t ∈ flatL d, t.length ≤ 15
  sz : Sz 60 sizeLine (.tuple (.str kd :: ds))
theorem recOk {kd : Str} {ds : List PyData} (h : isRec (.tuple (.str kd :: ds)) = true) : RecOk kd ds := by
  have m := rec_all h
  have mk := (mild_tupI m).2
  refine ⟨(rec_mild h).1, mild_small _ _ (by decide) m, (mild_shp _ _ m).shaped (by decide), fun d hd => mild_okF _ _ d (by decide) (mk d hd), fun d hd => mild_flat [30, 3, 2] d (mk d hd), (mild_sz _ _ m).mono (by decide) (by decide)⟩
theorem recTs_le {kd : Str} {ds : List PyData} (h : RecOk kd ds) : ∀ i, (recTs kd ds i).length ≤ 302 * i ∧ ∀ t ∈ recTs kd ds i, t.length ≤ 15
  | 0 => ⟨Nat.le_refl _, fun _ h => nomatch h⟩
  | i + 1 => by
    obtain ⟨a, b⟩ := recTs_le h i
    cases e : (PyData.str kd :: ds)[i]? with
    | none =>
      have q : recTs kd ds (i + 1) = recTs kd ds i := by
        show recTs kd ds i ++ (match (PyData.str kd :: ds)[i]? with | some d => _ | none => _) = _
        rw [e]
        exact List.append_nil _
      rw [q]
      exact ⟨by omega, b⟩
    | some d =>
      have hm := List.mem_of_getElem? e
      have q : recTs kd ds (i + 1) = recTs kd ds i ++ ((if sevB kd i d then [hexS (itemsD d).length] else []) ++ flatL d) := by
        show recTs kd ds i ++ (match (PyData.str kd :: ds)[i]? with | some d => _ | none => _) = _
        rw [e]
      rw [q]
      have h1 : ((if sevB kd i d then [hexS (itemsD d).length] else []) : List Str).length ≤ 1 := by split <;> simp
      have hf := h.fl d hm
      have hit : (itemsD d).length < 2 ^ 60 := by
        have hs : smallD d = true := (small_tup h.sm).2 d hm
        cases d with
        | tuple es =>
          have := (small_tup hs).1
          show es.length < _
          omega
        | _ => exact Nat.lt_of_lt_of_le Nat.zero_lt_one (by decide)
      refine ⟨by rw [List.length_append, List.length_append]; omega, fun t ht => ?_⟩
      rcases List.mem_append.mp ht with ht | ht
      · exact b t ht
      rcases List.mem_append.mp ht with ht | ht
      · split at ht
        · rw [List.mem_singleton.mp ht]
          exact hexS_len hit
        · cases ht
      · exact hf.2 t ht
theorem recTs_far {kd : Str} {ds : List PyData} : ∀ i, ds.length + 1 ≤ i → recTs kd ds i = recTs kd ds (ds.length + 1) := by
  intro i hi
  obtain ⟨j, rfl⟩ : ∃ j, i = ds.length + 1 + j := ⟨i - (ds.length + 1), by omega⟩
  induction j with
  | zero => rfl
  | succ j ih =>
    rw [← ih (by omega)]
    show recTs kd ds (ds.length + 1 + j) ++ (match (PyData.str kd :: ds)[ds.length + 1 + j]? with | some d => _ | none => _) = _
    rw [List.getElem?_eq_none (by rw [List.length_cons]; omega)]
    exact List.append_nil _
theorem recTs_all {kd : Str} {ds : List PyData} (h : RecOk kd ds) (i : Nat) : (recTs kd ds i).length ≤ 2114 ∧ ∀ t ∈ recTs kd ds i, t.length ≤ 15 := by
  have hl := h.len
  by_cases q : i ≤ ds.length + 1
  · have := recTs_le h i
    exact ⟨by omega, this.2⟩
  · rw [recTs_far i (by omega)]
    have := recTs_le h (ds.length + 1)
    exact ⟨by omega, this.2⟩
theorem recJoin_len {kd : Str} {ds : List PyData} (h : RecOk kd ds) (i : Nat) : (Txt.join " " (recTs kd ds (i + 1))).length ≤ 40000 := by
  obtain ⟨r, e⟩ := recTs_hd kd ds i
  obtain ⟨a, b⟩ := recTs_all h (i + 1)
  rw [e] at a b ⊢
  rw [join_spc, len_append, spc_len]
  have h1 := b kd List.mem_cons_self
  have h2 := sum15 (l := r) fun t ht => b t (List.mem_cons_of_mem _ ht)
  rw [List.length_cons] at a
  omega
end Cl

/-! ### ClRead: rpartition; numbers read in base sixteen; texts that are read one behind another -/
namespace Cl
open PySem PySem.Spec PyProof.Rows L2
section
variable {X : Cx}
theorem mt_rpartition : MtR X "str.rpartition" (fun x xs H Q => ∃ a b, x = .str a ∧ xs = [.str b] ∧ (b.length == 0) = false ∧ a.length ≤ sizeLine ∧
    ∀ p, H p = none → Q (.ref p) (upd H p (.tup [.str (Txt.rpartition a b).1, .str (Txt.rpartition a b).2.1, .str (Txt.rpartition a b).2.2]))) := by
  intro pins s σ H x xs v us Q I rx rs h
  obtain ⟨a, b, rfl, rfl, hb, hz, h⟩ := h
  obtain ⟨t, rfl⟩ := rx
  cases rs with
  | cons r1 rs =>
    cases rs
    obtain ⟨u, rfl⟩ := r1
    refine call_meets PySem.F.slot_str_rpartition (typeIs_str _ _ _) PySem.F.entry_str_rpartition (PySem.F.args_str_rpartition_2 _ _) (PySem.meets_str_rpartition a b t u hb hz) ?_
    unfold Txt.rpartition at h
    revert h
    cases Builtin.Str.lastOccurrence a b 0 a.length with
    | none => intro h; exact laid_parts I h
    | some i => intro h; exact laid_parts I h
variable {o e : Expr} {to te : TE}
theorem pe_rpartition {apos pos : Pos} (ho : PE X o to) (he : PE X e te) (hs : starEach [e] X.env = [(false, eval e X.env)] := by rfl) (hbase : attributeBase o "rpartition" X.env (eval o X.env) = eval o X.env := by rfl) (hline : (apos.endLine == pos.line) = true := by rfl) :
    PE X (.Call (.Attribute o "rpartition" apos) [e] [] pos) (tM1 (fun x xs H Q => ∃ a b, x = .str a ∧ xs = [.str b] ∧ (b.length == 0) = false ∧ a.length ≤ sizeLine ∧
      ∀ p, H p = none → Q (.ref p) (upd H p (.tup [.str (Txt.rpartition a b).1, .str (Txt.rpartition a b).2.1, .str (Txt.rpartition a b).2.2]))) to te) :=
  pe_m1 PySem.F.slot_str_rpartition PySem.F.type_str_rpartition mt_rpartition ho he hs hbase hline
end
theorem op_catAK {X : Cx} (K : PySem.W.Frag) (hK : X.K = K := by rfl) : OpR X (binaryOp .Add) (rCatA K) := by subst hK; exact op_catA
theorem str_ext {a b : Str} (h : a.cps.toList = b.cps.toList) : a = b := by
  cases a
  cases b
  exact congrArg Str.mk (Array.toList_inj.mp h)
theorem tl_app (a b : Str) : (a ++ b).cps.toList = a.cps.toList ++ b.cps.toList := by
  show (a.cps ++ b.cps).toList = _
  rw [Array.toList_append]
/-- the last mark parts a text -/
theorem rpart {a b : Str} (h : 35 ∉ b.cps.toList) : Txt.rpartition (a ++ "#" ++ b) "#" = (a, ("#" : Str), b) := by
  have ey : TL.tl (Str.ofString "#") = [35] := by decide +kernel
  have ny : TL.tl (Str.ofString "#") ≠ [] := by rw [ey]; simp
  have ex : TL.tl (a ++ "#" ++ b) = TL.tl a ++ 35 :: TL.tl b := by
    show (a ++ Str.ofString "#" ++ b).cps.toList = _
    rw [tl_app, tl_app, show (Str.ofString "#").cps.toList = [35] from ey, List.append_assoc]
    rfl
  have at_ : ∀ i, StrLaws.At (a ++ "#" ++ b) "#" (a ++ "#" ++ b).length i ↔ (TL.tl a ++ 35 :: TL.tl b)[i]? = some 35 := fun i => by
    rw [TL.at_iff ny, ey, ex]
    generalize TL.tl a ++ 35 :: TL.tl b = l
    cases hd : l.drop i with
    | nil =>
      have : l.length ≤ i := List.drop_eq_nil_iff.mp hd
      rw [List.getElem?_eq_none this]
      constructor
      · intro z; cases z
      · intro z; cases z
    | cons c r =>
      have e : l[i]? = some c := by
        have := congrArg (·[0]?) hd
        simpa using this
      rw [e]
      constructor
      · intro z
        have z2 : ([c] : List Nat) = [35] := eq_of_beq z
        have z' : c = 35 := by injection z2
        rw [z']
      · intro z
        cases z
        rfl
  have hit : (TL.tl a ++ 35 :: TL.tl b)[(TL.tl a).length]? = some 35 := by
    rw [List.getElem?_append_right (Nat.le_refl _), Nat.sub_self]
    rfl
  have la : (TL.tl a).length = a.length := len_toList a
  have e : Builtin.Str.lastOccurrence (a ++ "#" ++ b) "#" 0 (a ++ "#" ++ b).length = some a.length := by
    rcases StrLaws.last_spec (a ++ "#" ++ b) "#" with ⟨_, no⟩ | ⟨i, e, hi, no⟩
    · exact absurd ((at_ _).mpr hit) (no _)
    · rw [e]
      have h1 : ¬ i < a.length := fun q => no _ q ((at_ _).mpr (la ▸ hit))
      have h2 := (at_ i).mp hi
      by_cases q : i = a.length
      · rw [q]
      · exfalso
        rw [List.getElem?_append_right (by omega), la] at h2
        obtain ⟨j, hj⟩ : ∃ j, i - a.length = j + 1 := ⟨i - a.length - 1, by omega⟩
        rw [hj, List.getElem?_cons_succ] at h2
        exact h (List.mem_of_getElem? h2)
  unfold Txt.rpartition
  rw [e]
  have hl : (Str.ofString "#").length = 1 := rfl
  have e1 : Builtin.Str.strSub (a ++ "#" ++ b) 0 a.length = a := by
    refine str_ext ?_
    have := TL.tl_strSub (a ++ "#" ++ b) 0 a.length
    rw [ex] at this
    refine this.trans ?_
    rw [List.drop_zero, Nat.sub_zero, ← la, List.take_left]
    try rfl
  have e2 : Builtin.Str.strSub (a ++ "#" ++ b) (a.length + 1) (a ++ "#" ++ b).length = b := by
    refine str_ext ?_
    have := TL.tl_strSub_end (a ++ "#" ++ b) (a.length + 1)
    rw [ex] at this
    refine this.trans ?_
    rw [← la, List.drop_append, Nat.add_sub_cancel_left]
    have e0 : (TL.tl a).drop ((TL.tl a).length + 1) = [] := List.drop_eq_nil_of_le (by omega)
    rw [e0]
    try rfl
  show (Builtin.Str.strSub (a ++ "#" ++ b) 0 a.length, Str.ofString "#", Builtin.Str.strSub (a ++ "#" ++ b) (a.length + (Str.ofString "#").length) (a ++ "#" ++ b).length) = _
  rw [hl, e1, e2]
/-! ### numbers -/
theorem hd_hex {k : Nat} (h : k < 16) : Hx.IsHex (Cl.hd k) ∧ Hx.hv (Cl.hd k) = k ∧ Cl.hd k ∈ figs.cps.toList := by
  have : ∀ k : Fin 16, ((48 ≤ Cl.hd k.val ∧ Cl.hd k.val ≤ 57) ∨ (97 ≤ Cl.hd k.val ∧ Cl.hd k.val ≤ 102) ∨ (65 ≤ Cl.hd k.val ∧ Cl.hd k.val ≤ 70)) ∧ Hx.hv (Cl.hd k.val) = k.val ∧ Cl.hd k.val ∈ figs.cps.toList := by decide +kernel
  exact this ⟨k, h⟩
theorem hxR_all {P : Nat → Prop} (hP : ∀ k, k < 16 → P (Cl.hd k)) : ∀ (k r : Nat) (f : List Nat), (∀ c ∈ f, P c) → ∀ c ∈ hxR k r f, P c
  | 0, _, f, h => h
  | k + 1, r, f, h => by
    show ∀ c ∈ (if r = 0 then f else hxR k (r / 16) (Cl.hd (r % 16) :: f)), P c
    split
    · exact h
    · exact hxR_all hP k _ _ fun c hc => (List.mem_cons.mp hc).elim (fun e => e ▸ hP _ (Nat.mod_lt _ (by decide))) (h c)
theorem hex_all {P : Nat → Prop} (hP : ∀ k, k < 16 → P (Cl.hd k)) (n : Nat) : ∀ c ∈ hexL n, P c :=
  hxR_all hP n (n / 16) _ fun c hc => List.mem_singleton.mp hc ▸ hP _ (Nat.mod_lt _ (by decide))
theorem hexNum_app (a b : List Nat) : Hx.hexNum (a ++ b) = b.foldl (fun x c => x * 16 + Hx.hv c) (Hx.hexNum a) := List.foldl_append ..
theorem fold_from (l : List Nat) : ∀ a : Nat, l.foldl (fun x c => x * 16 + Hx.hv c) a = a * 16 ^ l.length + Hx.hexNum l := by
  induction l with
  | nil => intro a; simp [Hx.hexNum]
  | cons c r ih =>
    intro a
    show r.foldl _ (a * 16 + Hx.hv c) = a * 16 ^ (r.length + 1) + r.foldl (fun x c => x * 16 + Hx.hv c) (0 * 16 + Hx.hv c)
    rw [ih, ih, Nat.pow_succ]
    have e : a * (16 ^ r.length * 16) = a * 16 * 16 ^ r.length := by rw [Nat.mul_comm (16 ^ r.length) 16, Nat.mul_assoc]
    rw [e, Nat.add_mul, Nat.zero_mul, Nat.zero_add, Nat.add_assoc]
theorem hxR_num : ∀ (k r : Nat) (f : List Nat), r ≤ k → Hx.hexNum (hxR k r f) = r * 16 ^ f.length + Hx.hexNum f
  | 0, r, f, h => by
    have : r = 0 := by omega
    subst this
    show Hx.hexNum f = _
    omega
  | k + 1, r, f, h => by
    show Hx.hexNum (if r = 0 then f else hxR k (r / 16) (Cl.hd (r % 16) :: f)) = _
    split
    · rename_i e
      subst e
      omega
    · rw [hxR_num k (r / 16) _ (by omega), List.length_cons]
      have e1 : Hx.hexNum (Cl.hd (r % 16) :: f) = (r % 16) * 16 ^ f.length + Hx.hexNum f := by
        show f.foldl _ (0 * 16 + Hx.hv (Cl.hd (r % 16))) = _
        rw [fold_from, (hd_hex (Nat.mod_lt r (by decide))).2.1, Nat.zero_mul, Nat.zero_add]
      rw [e1, Nat.pow_succ, ← Nat.add_assoc]
      have e2 : r / 16 * (16 ^ f.length * 16) + r % 16 * 16 ^ f.length = r * 16 ^ f.length := by
        rw [Nat.mul_comm (16 ^ f.length) 16, ← Nat.mul_assoc, ← Nat.add_mul]
        congr 1
        omega
      rw [e2]
theorem hexNum_hexL (n : Nat) : Hx.hexNum (hexL n) = n := by
  unfold hexL
  rw [hxR_num n (n / 16) _ (Nat.div_le_self _ _)]
  have e1 : Hx.hexNum [Cl.hd (n % 16)] = n % 16 := by
    show 0 * 16 + Hx.hv (Cl.hd (n % 16)) = _
    rw [(hd_hex (Nat.mod_lt n (by decide))).2.1]
    omega
  rw [e1]
  show n / 16 * 16 ^ 1 + n % 16 = n
  omega
theorem hexL_ne (n : Nat) : hexL n ≠ [] := by
  have : ∀ (k r : Nat) (f : List Nat), f ≠ [] → hxR k r f ≠ [] := by
    intro k
    induction k with
    | zero => intro r f h; exact h
    | succ k ih =>
      intro r f h
      show (if r = 0 then f else hxR k (r / 16) (Cl.hd (r % 16) :: f)) ≠ []
      split
      · exact h
      · exact ih _ _ (by simp)
  exact this n _ _ (by simp)
theorem hexL_len {b n : Nat} (hb : 1 ≤ b) (h : n < 16 ^ b) : (hexL n).length ≤ b := by
  have key : ∀ (i j : Nat) (l : List Nat), i ≤ b → l.length = b - i → j < 16 ^ i → ∀ k, (hxR k j l).length ≤ b := by
    intro i
    induction i with
    | zero =>
      intro j l _ hl hj k
      have : j = 0 := by simpa using hj
      subst this
      rw [hxR_zero]
      omega
    | succ i ih =>
      intro j l hi hl hj k
      cases k with
      | zero =>
        show l.length ≤ b
        omega
      | succ k =>
        show (if j = 0 then l else hxR k (j / 16) (Cl.hd (j % 16) :: l)).length ≤ b
        split
        · omega
        · refine ih _ _ (by omega) (by rw [List.length_cons]; omega) ?_ k
          rw [Nat.pow_succ] at hj
          exact Nat.div_lt_of_lt_mul (by omega)
  unfold hexL
  refine key (b - 1) (n / 16) _ (by omega) (by rw [List.length_singleton]; omega) ?_ n
  refine Nat.div_lt_of_lt_mul ?_
  rw [Nat.mul_comm, ← Nat.pow_succ, show (b - 1).succ = b by omega]
  exact h
theorem hex_len10 {n : Nat} (h : n < 10 ^ 12) : 1 ≤ (hexS n).length ∧ (hexS n).length ≤ 10 := by
  unfold hexS
  rw [sOf_len]
  exact ⟨List.length_pos_iff.mpr (hexL_ne n), hexL_len (by decide) (Nat.lt_trans h (by decide))⟩
/-! ### texts that are read -/
def txF (r : Addr) (i : Int) : List (Str × V) := [("row", V.ref r), ("read", V.int i)]
theorem tx_1 (r : Addr) (i : Int) : (txF r i).lookup ("row" : Str) = some (.ref r) := lk0
theorem tx_2 (r : Addr) (i : Int) : (txF r i).lookup ("read" : Str) = some (.int i) := lkS (by decide +kernel) lk0
theorem tx_no (r : Addr) (i : Int) {m : Str} (h : ([("row" : Str), "read"] : List Str).all (fun f => !decide (m = f)) = true) : (txF r i).lookup m = none := lk_no h
/-- texts stand at x, i of them read -/
structure Tx (K : PySem.W.Frag) (C : Addr) (H : Hp) (x r : Addr) (ss : List Str) (i : Nat) : Prop where
  ob : ∃ dx, H x = some (.ins C dx (txF r i))
  ls : SqL K H r (ss.map V.str)
  le : ss.length ≤ 50000
theorem Tx.m {K : PySem.W.Frag} {C : Addr} {H H' : Hp} {x r : Addr} {ss : List Str} {i : Nat} (h : Tx K C H x r ss i) (e : Same H H') : Tx K C H' x r ss i := by
  obtain ⟨⟨dx, h1⟩, h2, h3⟩ := h
  exact ⟨⟨dx, e _ _ h1⟩, e.seq h2, h3⟩
theorem Tx.ts {K : PySem.W.Frag} {C : Addr} {H H' : Hp} {x r : Addr} {ss : List Str} {i : Nat} (h : Tx K C H x r ss i) (e : SameBut x H H') : TS H H' := by
  obtain ⟨⟨dx, h1⟩, _, _⟩ := h
  exact TS.butI e h1
theorem Tx.ne {K : PySem.W.Frag} {C : Addr} {H : Hp} {x r q : Addr} {ss : List Str} {i : Nat} (h : Tx K C H x r ss i) (n : H q = none) : q ≠ x := fun e => by
  obtain ⟨⟨dx, h1⟩, _, _⟩ := h
  subst e
  rw [h1] at n
  cases n
theorem Tx.re {K : PySem.W.Frag} {C : Addr} {H H' : Hp} {x r : Addr} {ss : List Str} {i j : Nat} (h : Tx K C H x r ss i) (e : SameBut x H H') (ob : ∃ dx, H' x = some (.ins C dx (txF r j))) : Tx K C H' x r ss j := by
  obtain ⟨⟨dx, h1⟩, h2, h3⟩ := h
  exact ⟨ob, e.seqI h1 h2, h3⟩
theorem Tx.newer {K : PySem.W.Frag} {C : Addr} {H H1 : Hp} {x r D : Addr} {ss : List Str} {i j : Nat} {o : HO} (h : Tx K C H x r ss i) (hD : H D = none) (e : SameBut x H H1) (t : Tx K C H1 x r ss j) : Tx K C (L2.upd H1 D o) x r ss j := by
  obtain ⟨⟨dx, q1⟩, _, _⟩ := t
  exact h.re (e.newer hD) ⟨dx, by rw [upd_ne (h.ne hD).symm]; exact q1⟩
/-- what a def reads: of data that are so, just their texts -/
def spFrom (K : PySem.W.Frag) (C : Addr) (G : PyData → Prop) (L : PyData → List Str) : Sp := fun vs H Q _ => ∃ (x r : Addr) (ss : List Str) (i : Nat) (d : PyData), vs = [.ref x] ∧ Tx K C H x r ss i ∧ G d ∧ (∃ rest, ss.drop i = L d ++ rest) ∧
  ∀ (v : V) (H' : Hp), SameBut x H H' → Tx K C H' x r ss (i + (L d).length) → Dt K H' v d → Q v H'
theorem drop_add {α : Type} {l a b : List α} {i : Nat} (h : l.drop i = a ++ b) : l.drop (i + a.length) = b := by
  rw [← List.drop_drop, h, List.drop_left]
/-- a tuple's things told with how many -/
def sevL (d : PyData) : List Str := hexS (itemsD d).length :: flatL d
theorem hex_nb (n : Nat) : ∀ c ∈ (hexS n).cps.toList, c ≠ 32 := by
  have e : (hexS n).cps.toList = hexL n := by simp [hexS, sOf]
  rw [e]
  refine hex_all (P := fun c => c ≠ 32) (fun k hk => ?_) n
  have : ∀ k : Fin 16, Cl.hd k.val ≠ 32 := by decide +kernel
  exact this ⟨k, hk⟩
mutual
theorem mild_nb : ∀ (bs : List Nat) (d : PyData), mild bs d = true → ∀ t ∈ flatL d, ∀ c ∈ t.cps.toList, c ≠ 32
  | bs, .none, _ => fun t ht => by
    rw [List.mem_singleton.mp ht]
    decide +kernel
  | bs, .int n, h => fun t ht => by
    rw [List.mem_singleton.mp ht]
    exact hex_nb _
  | bs, .bool _, h => by cases bs <;> cases h
  | bs, .str x, h => fun t ht c hc => by
    rw [List.mem_singleton.mp ht] at hc
    exact pch_nb ((mild_strI h).2 c hc)
  | [], .tuple _, h => by cases h
  | b :: bs, .tuple ds, h => mild_nbs bs ds (mild_tupI h).2
  | bs, .list _, h => by cases bs <;> cases h
  | bs, .dict _, h => by cases bs <;> cases h
theorem mild_nbs : ∀ (bs : List Nat) (ds : List PyData), (∀ d ∈ ds, mild bs d = true) → ∀ t ∈ flatAll ds, ∀ c ∈ t.cps.toList, c ≠ 32
  | _, [], _ => fun t ht => by simp [flatAll] at ht
  | bs, d :: ds, h => fun t ht => by
    rcases List.mem_append.mp (show t ∈ flatL d ++ flatAll ds from ht) with ht | ht
    · exact mild_nb bs d (h d List.mem_cons_self) t ht
    · exact mild_nbs bs ds (fun x hx => h x (List.mem_cons_of_mem _ hx)) t ht
end
/-- signs of a record's texts: figures, small letters, the stroke of None -/
def TxC (c : Nat) : Prop := (48 ≤ c ∧ c ≤ 57) ∨ (97 ≤ c ∧ c ≤ 122) ∨ c = 45
theorem hex_txc (n : Nat) : ∀ c ∈ (hexS n).cps.toList, TxC c := by
  have e : (hexS n).cps.toList = hexL n := by simp [hexS, sOf]
  rw [e]
  refine hex_all (P := TxC) (fun k hk => ?_) n
  have : ∀ k : Fin 16, (48 ≤ Cl.hd k.val ∧ Cl.hd k.val ≤ 57) ∨ (97 ≤ Cl.hd k.val ∧ Cl.hd k.val ≤ 122) ∨ Cl.hd k.val = 45 := by decide +kernel
  exact this ⟨k, hk⟩
mutual
theorem mild_txc : ∀ (bs : List Nat) (d : PyData), mild bs d = true → ∀ t ∈ flatL d, ∀ c ∈ t.cps.toList, TxC c
  | bs, .none, _ => fun t ht c hc => by
    rw [List.mem_singleton.mp ht] at hc
    have : c ∈ [45] := hc
    exact .inr (.inr (List.mem_singleton.mp this))
  | bs, .int n, h => fun t ht => by
    rw [List.mem_singleton.mp ht]
    exact hex_txc _
  | bs, .bool _, h => by cases bs <;> cases h
  | bs, .str x, h => fun t ht c hc => by
    rw [List.mem_singleton.mp ht] at hc
    exact (pch_ok ((mild_strI h).2 c hc)).imp id .inl
  | [], .tuple _, h => by cases h
  | b :: bs, .tuple ds, h => mild_txcs bs ds (mild_tupI h).2
  | bs, .list _, h => by cases bs <;> cases h
  | bs, .dict _, h => by cases bs <;> cases h
theorem mild_txcs : ∀ (bs : List Nat) (ds : List PyData), (∀ d ∈ ds, mild bs d = true) → ∀ t ∈ flatAll ds, ∀ c ∈ t.cps.toList, TxC c
  | _, [], _ => fun t ht => by simp [flatAll] at ht
  | bs, d :: ds, h => fun t ht => by
    rcases List.mem_append.mp (show t ∈ flatL d ++ flatAll ds from ht) with ht | ht
    · exact mild_txc bs d (h d List.mem_cons_self) t ht
    · exact mild_txcs bs ds (fun x hx => h x (List.mem_cons_of_mem _ hx)) t ht
end
theorem recTs_txc {kd : Str} {ds : List PyData} (h : isRec (.tuple (.str kd :: ds)) = true) : ∀ i, ∀ t ∈ recTs kd ds i, ∀ c ∈ t.cps.toList, TxC c
  | 0 => fun _ h => nomatch h
  | i + 1 => by
    intro t ht
    have mk := (mild_tupI (rec_all h)).2
    rcases List.mem_append.mp (show t ∈ recTs kd ds i ++ (match (PyData.str kd :: ds)[i]? with | some d => (if sevB kd i d then [hexS (itemsD d).length] else []) ++ flatL d | none => []) from ht) with ht | ht
    · exact recTs_txc h i t ht
    · cases e : (PyData.str kd :: ds)[i]? with
      | none => rw [e] at ht; cases ht
      | some d =>
        rw [e] at ht
        rcases List.mem_append.mp ht with ht | ht
        · split at ht
          · rw [List.mem_singleton.mp ht]
            exact hex_txc _
          · cases ht
        · exact mild_txc [30, 3, 2] d (mk d (List.mem_of_getElem? e)) t ht
theorem spc_mem : ∀ (r : List Str) (c : Nat), c ∈ (spc r).cps.toList → c = 32 ∨ ∃ t ∈ r, c ∈ t.cps.toList
  | [], c, h => nomatch (show c ∈ ([] : List Nat) from h)
  | b :: r, c, h => by
    have h' : c ∈ ((" " : Str) ++ b ++ spc r).cps.toList := h
    rw [tl_app, tl_app] at h'
    rcases List.mem_append.mp h' with h' | h'
    · rcases List.mem_append.mp h' with h' | h'
      · exact .inl (List.mem_singleton.mp (show c ∈ [32] from h'))
      · exact .inr ⟨b, List.mem_cons_self, h'⟩
    · rcases spc_mem r c h' with q | ⟨t, q1, q2⟩
      · exact .inl q
      · exact .inr ⟨t, List.mem_cons_of_mem _ q1, q2⟩
theorem join_mem {a : Str} {r : List Str} {c : Nat} (h : c ∈ (Txt.join " " (a :: r)).cps.toList) : c = 32 ∨ ∃ t ∈ a :: r, c ∈ t.cps.toList := by
  rw [join_spc, tl_app] at h
  rcases List.mem_append.mp h with h | h
  · exact .inr ⟨a, List.mem_cons_self, h⟩
  · rcases spc_mem r c h with q | ⟨t, q1, q2⟩
    · exact .inl q
    · exact .inr ⟨t, List.mem_cons_of_mem _ q1, q2⟩
theorem body_txc {kd : Str} {ds : List PyData} (h : isRec (.tuple (.str kd :: ds)) = true) : ∀ c ∈ (recBody kd ds).cps.toList, c = 32 ∨ TxC c := fun c hc => by
  obtain ⟨r, e⟩ := recTs_hd kd ds ds.length
  unfold recBody at hc
  have k := recTs_txc h (ds.length + 1)
  rw [e] at hc k
  rcases join_mem hc with q | ⟨t, q1, q2⟩
  · exact .inl q
  · exact .inr (k t q1 c q2)
/-- a plan: which def reads which thing, and what it reads of it -/
abbrev Plan := List (Addr × (PyData → Prop) × (PyData → List Str))
def planTs : Plan → List PyData → List Str
  | p :: pl, d :: ds => p.2.2 d ++ planTs pl ds
  | _, _ => []
theorem plan_take : ∀ {pl : Plan} {ds : List PyData} {i : Nat} {p : Addr × (PyData → Prop) × (PyData → List Str)} {d : PyData}, pl[i]? = some p → ds[i]? = some d →
    planTs (pl.take (i + 1)) (ds.take (i + 1)) = planTs (pl.take i) (ds.take i) ++ p.2.2 d ∧ ∃ rest, planTs pl ds = planTs (pl.take i) (ds.take i) ++ (p.2.2 d ++ rest)
  | [], _, _, _, _, h, _ => by simp at h
  | _ :: _, [], _, _, _, _, h => by simp at h
  | q :: pl, e :: ds, 0, p, d, h1, h2 => by
    have e1 : q = p := by simpa using h1
    have e2 : e = d := by simpa using h2
    subst e1 e2
    exact ⟨by show q.2.2 e ++ planTs [] [] = [] ++ q.2.2 e; simp [planTs], planTs pl ds, rfl⟩
  | q :: pl, e :: ds, i + 1, p, d, h1, h2 => by
    obtain ⟨a, rest, b⟩ := plan_take (pl := pl) (ds := ds) (i := i) (by simpa using h1) (by simpa using h2)
    refine ⟨by show q.2.2 e ++ planTs (pl.take (i + 1)) (ds.take (i + 1)) = (q.2.2 e ++ planTs (pl.take i) (ds.take i)) ++ p.2.2 d; rw [a, List.append_assoc], rest, ?_⟩
    show q.2.2 e ++ planTs pl ds = (q.2.2 e ++ planTs (pl.take i) (ds.take i)) ++ (p.2.2 d ++ rest)
    rw [b, List.append_assoc]
end Cl

/-! ### ClParse: what texts tell, read one behind another (the reading defs' model) -/
namespace Cl
open PySem PySem.Spec PyProof.Rows L2
abbrev Rd := List Str → Option (PyData × List Str)
/-- one to ten figures of base sixteen -/
def okHx (z : Str) : Bool := decide (1 ≤ z.length) && decide (z.length ≤ 10) && z.cps.toList.all fun c => decide (c ∈ figs.cps.toList)
def rdNum : Rd
  | [] => none
  | z :: r => if okHx z = true then some (.int (Hx.hexNum z.cps.toList : Nat), r) else none
def rdText : Rd
  | [] => none
  | z :: r => some (.str z, r)
def rdThen (f g : Rd) (mk : PyData → PyData → PyData) : Rd := fun L => match f L with
  | none => none
  | some (d, L1) => match g L1 with
    | none => none
    | some (e, L2) => some (mk d e, L2)
def pairD (a b : PyData) : PyData := .tuple [a, b]
def rdAddr : Rd := rdThen rdNum rdNum pairD
def rdEntry : Rd := rdThen rdText rdAddr fun a b => .tuple (a :: itemsD b)
def rdRow : Rd := rdThen rdText rdNum pairD
def rdStand : Rd := rdThen rdNum rdAddr pairD
/-- several, one behind another -/
def rdAll : List Rd → List Str → Option (List PyData × List Str)
  | [], L => some ([], L)
  | f :: fs, L => match f L with
    | none => none
    | some (d, L1) => match rdAll fs L1 with
      | none => none
      | some (ds, L2) => some (d :: ds, L2)
theorem rdAll_snoc : ∀ (fs : List Rd) (f : Rd) (L : List Str), rdAll (fs ++ [f]) L = match rdAll fs L with
    | none => none
    | some (ds, L1) => match f L1 with
      | none => none
      | some (d, L2) => some (ds ++ [d], L2)
  | [], f, L => by
    simp only [List.nil_append, rdAll]
  | g :: fs, f, L => by
    simp only [List.cons_append, rdAll]
    cases g L with
    | none => rfl
    | some p =>
      simp only [rdAll_snoc fs f]
      cases rdAll fs p.2 with
      | none => rfl
      | some q =>
        simp only
        cases f q.2 <;> rfl
def rdSev (f : Rd) : Rd
  | [] => none
  | z :: r => if okHx z = true then (match rdAll (List.replicate (Hx.hexNum z.cps.toList) f) r with
      | none => none
      | some (ds, L) => some (.tuple ds, L)) else none
def rdMore : Rd
  | [] => none
  | z :: r => if z = "-" then some (.none, r) else rdAddr (z :: r)
/-- the readers behind each kind -/
def rdPlan (k : Str) : Option (List Rd) :=
  if k = "head" then some [rdNum] else if k = "part" then some [rdNum, rdNum, rdSev rdEntry] else if k = "words" then some [rdNum, rdNum, rdSev rdText] else if k = "names" then some [rdNum, rdNum, rdSev rdRow]
  else if k = "more" then some [rdNum, rdSev rdAddr] else if k = "node" then some [rdNum, rdText, rdNum, rdNum, rdSev rdAddr, rdMore] else if k = "piece" then some [rdNum, rdSev rdStand]
  else if k = "seal" then some [rdNum, rdNum, rdNum, rdSev rdNum] else if k = "root" then some [rdNum, rdNum, rdNum, rdSev rdAddr] else none
/-! #### each reader takes something, and what it tells is of small things -/
def TakesR (f : Rd) : Prop := ∀ L d L', f L = some (d, L') → ∃ a : List Str, a ≠ [] ∧ L = a ++ L'
theorem take_num : TakesR rdNum := by
  intro L d L' h
  cases L with
  | nil => cases h
  | cons z r =>
    have h : (if okHx z = true then some (PyData.int (Hx.hexNum z.cps.toList : Nat), r) else none) = some (d, L') := h
    split at h
    · injection h with h
      injection h with _ h
      exact ⟨[z], by simp, by rw [h]; rfl⟩
    · cases h
theorem take_text : TakesR rdText := by
  intro L d L' h
  cases L with
  | nil => cases h
  | cons z r =>
    injection h with h
    injection h with _ h
    exact ⟨[z], by simp, by rw [h]; rfl⟩
theorem then_inv {f g : Rd} {mk : PyData → PyData → PyData} {L L' : List Str} {d : PyData} (h : rdThen f g mk L = some (d, L')) : ∃ a b L1, f L = some (a, L1) ∧ g L1 = some (b, L') ∧ d = mk a b := by
  unfold rdThen at h
  cases e : f L with
  | none => rw [e] at h; cases h
  | some p =>
    obtain ⟨a, L1⟩ := p
    rw [e] at h
    have h : (match g L1 with | none => none | some (e, L2) => some (mk a e, L2)) = some (d, L') := h
    cases e2 : g L1 with
    | none => rw [e2] at h; cases h
    | some q =>
      obtain ⟨b, L2⟩ := q
      rw [e2] at h
      injection h with h
      injection h with h1 h2
      exact ⟨a, b, L1, rfl, by rw [← h2]; exact e2, h1.symm⟩
theorem then_none {f g : Rd} {mk : PyData → PyData → PyData} {L : List Str} (h : rdThen f g mk L = none) : f L = none ∨ ∃ a L1, f L = some (a, L1) ∧ g L1 = none := by
  unfold rdThen at h
  cases e : f L with
  | none => exact .inl rfl
  | some p =>
    obtain ⟨a, L1⟩ := p
    rw [e] at h
    have h : (match g L1 with | none => none | some (e, L2) => some (mk a e, L2)) = none := h
    cases e2 : g L1 with
    | none => exact .inr ⟨a, L1, rfl, e2⟩
    | some q =>
      rw [e2] at h
      cases h
theorem take_then {f g : Rd} {mk : PyData → PyData → PyData} (hf : TakesR f) (hg : TakesR g) : TakesR (rdThen f g mk) := by
  intro L d L' h
  obtain ⟨a, b, L1, h1, h2, _⟩ := then_inv h
  obtain ⟨p, p0, p1⟩ := hf _ _ _ h1
  obtain ⟨q, q0, q1⟩ := hg _ _ _ h2
  exact ⟨p ++ q, by simp [p0], by rw [p1, q1, List.append_assoc]⟩
theorem take_addr : TakesR rdAddr := take_then take_num take_num
theorem take_entry : TakesR rdEntry := take_then take_text take_addr
theorem take_row : TakesR rdRow := take_then take_text take_num
theorem take_stand : TakesR rdStand := take_then take_num take_addr
theorem rdAll_cons {f : Rd} {fs : List Rd} {L L' : List Str} {ds : List PyData} (h : rdAll (f :: fs) L = some (ds, L')) : ∃ d es L1, f L = some (d, L1) ∧ rdAll fs L1 = some (es, L') ∧ ds = d :: es := by
  have h : (match f L with | none => none | some (d, L1) => match rdAll fs L1 with | none => none | some (ds, L2) => some (d :: ds, L2)) = some (ds, L') := h
  cases e : f L with
  | none => rw [e] at h; cases h
  | some p =>
    obtain ⟨d, L1⟩ := p
    rw [e] at h
    have h : (match rdAll fs L1 with | none => none | some (ds, L2) => some (d :: ds, L2)) = some (ds, L') := h
    cases e2 : rdAll fs L1 with
    | none => rw [e2] at h; cases h
    | some q =>
      obtain ⟨es, L2⟩ := q
      rw [e2] at h
      injection h with h
      injection h with h1 h2
      exact ⟨d, es, L1, rfl, by rw [← h2]; exact e2, h1.symm⟩
/-- so many things, one taken by each at least -/
theorem all_len : ∀ {fs : List Rd} {L L' : List Str} {ds : List PyData}, (∀ f ∈ fs, TakesR f) → rdAll fs L = some (ds, L') → ds.length = fs.length ∧ ∃ a : List Str, fs.length ≤ a.length ∧ L = a ++ L'
  | [], L, L', ds, _, h => by
    have h : some (([] : List PyData), L) = some (ds, L') := h
    injection h with h
    injection h with h1 h2
    subst h1 h2
    exact ⟨rfl, [], Nat.le_refl _, rfl⟩
  | f :: fs, L, L', ds, ht, h => by
    obtain ⟨d, es, L1, h1, h2, rfl⟩ := rdAll_cons h
    obtain ⟨a, a0, rfl⟩ := ht f List.mem_cons_self _ _ _ h1
    obtain ⟨b1, b, b2, rfl⟩ := all_len (fun g hg => ht g (List.mem_cons_of_mem _ hg)) h2
    refine ⟨by rw [List.length_cons, List.length_cons, b1], a ++ b, ?_, (List.append_assoc ..).symm⟩
    have := List.length_pos_iff.mpr a0
    rw [List.length_cons, List.length_append]
    omega
theorem sev_inv {f : Rd} {L L' : List Str} {d : PyData} (h : rdSev f L = some (d, L')) : ∃ z r ds, L = z :: r ∧ okHx z = true ∧ rdAll (List.replicate (Hx.hexNum z.cps.toList) f) r = some (ds, L') ∧ d = .tuple ds := by
  cases L with
  | nil => cases h
  | cons z r =>
    have h : (if okHx z = true then (match rdAll (List.replicate (Hx.hexNum z.cps.toList) f) r with | none => none | some (ds, L) => some (PyData.tuple ds, L)) else none) = some (d, L') := h
    split at h
    · rename_i hz
      cases e : rdAll (List.replicate (Hx.hexNum z.cps.toList) f) r with
      | none => rw [e] at h; cases h
      | some p =>
        obtain ⟨ds, L2⟩ := p
        rw [e] at h
        injection h with h
        injection h with h1 h2
        exact ⟨z, r, ds, rfl, hz, by rw [← h2]; exact e, h1.symm⟩
    · cases h
theorem take_sev {f : Rd} (hf : TakesR f) : TakesR (rdSev f) := by
  intro L d L' h
  obtain ⟨z, r, ds, rfl, _, h1, _⟩ := sev_inv h
  obtain ⟨_, a, _, rfl⟩ := all_len (fun g hg => by rw [List.eq_of_mem_replicate hg]; exact hf) h1
  exact ⟨z :: a, by simp, rfl⟩
theorem take_more : TakesR rdMore := by
  intro L d L' h
  cases L with
  | nil => cases h
  | cons z r =>
    have h : (if z = "-" then some (PyData.none, r) else rdAddr (z :: r)) = some (d, L') := h
    split at h
    · injection h with h
      injection h with _ h
      exact ⟨[z], by simp, by rw [h]; rfl⟩
    · exact take_addr _ _ _ h
/-- told things are small ones, not deep -/
structure Tell (k : Nat) (f : Rd) : Prop where
  t : TakesR f
  s : ∀ L d L', (∀ z ∈ L, z.length ≤ 5000 ∧ ∀ c ∈ z.cps.toList, c < 1114112) → L.length ≤ 5000 → f L = some (d, L') → smallD d = true ∧ Shp k d
theorem tell_num : Tell 0 rdNum := ⟨take_num, fun L d L' _ _ h => by
  cases L with
  | nil => cases h
  | cons z r =>
    have h : (if okHx z = true then some (PyData.int (Hx.hexNum z.cps.toList : Nat), r) else none) = some (d, L') := h
    split at h
    · injection h with h
      injection h with h _
      rw [← h]
      exact ⟨rfl, Shp.int _⟩
    · cases h⟩
theorem tell_text : Tell 0 rdText := ⟨take_text, fun L d L' hz _ h => by
  cases L with
  | nil => cases h
  | cons z r =>
    injection h with h
    injection h with h _
    rw [← h]
    obtain ⟨h1, h2⟩ := hz z List.mem_cons_self
    refine ⟨?_, Shp.str h2⟩
    unfold smallD
    exact decide_eq_true h1⟩
theorem small_mk {ds : List PyData} (h : ds.length ≤ 5000) (k : ∀ d ∈ ds, smallD d = true) : smallD (.tuple ds) = true := by
  have : ∀ es : List PyData, (∀ d ∈ es, smallD d = true) → smallAll es = true := by
    intro es
    induction es with
    | nil => intro _; unfold smallAll; rfl
    | cons e es ih =>
      intro k
      unfold smallAll
      rw [k e List.mem_cons_self, ih fun d hd => k d (List.mem_cons_of_mem _ hd)]
      rfl
  unfold smallD
  rw [decide_eq_true h, this ds k]
  rfl
theorem two_mem {P : PyData → Prop} {a b : PyData} (ha : P a) (hb : P b) : ∀ d ∈ [a, b], P d := by
  intro d hd
  rcases List.mem_cons.mp hd with rfl | hd
  · exact ha
  · rw [List.mem_singleton.mp hd]
    exact hb
theorem rest_ok {L L1 : List Str} {P : Str → Prop} (h : ∃ a : List Str, a ≠ [] ∧ L = a ++ L1) (hz : ∀ z ∈ L, P z) (hl : L.length ≤ 5000) : (∀ z ∈ L1, P z) ∧ L1.length ≤ 5000 := by
  obtain ⟨a, _, rfl⟩ := h
  rw [List.length_append] at hl
  exact ⟨fun z h => hz z (List.mem_append_right _ h), by omega⟩
theorem tell_pair {f g : Rd} {k : Nat} (hf : Tell k f) (hg : Tell k g) : Tell (k + 1) (rdThen f g pairD) := ⟨take_then hf.t hg.t, fun L d L' hz hl h => by
  obtain ⟨a, b, L1, h1, h2, rfl⟩ := then_inv h
  obtain ⟨x1, x2⟩ := hf.s _ _ _ hz hl h1
  obtain ⟨r1, r2⟩ := rest_ok (hf.t _ _ _ h1) hz hl
  obtain ⟨y1, y2⟩ := hg.s _ _ _ r1 r2 h2
  exact ⟨small_mk (by simp) (two_mem x1 y1), Shp.tuple (two_mem x2 y2)⟩⟩
theorem Tell.mono {f : Rd} {j k : Nat} (h : Tell j f) (e : j ≤ k) : Tell k f := ⟨h.t, fun L d L' a b c => ⟨(h.s L d L' a b c).1, (h.s L d L' a b c).2.mono e⟩⟩
theorem tell_addr : Tell 1 rdAddr := tell_pair tell_num tell_num
theorem tell_row : Tell 1 rdRow := tell_pair tell_text tell_num
theorem tell_stand : Tell 2 rdStand := tell_pair (tell_num.mono (by decide)) tell_addr
theorem addr_two {L L' : List Str} {d : PyData} (h : rdAddr L = some (d, L')) : ∃ a b L1, d = .tuple [a, b] ∧ rdNum L = some (a, L1) ∧ rdNum L1 = some (b, L') := by
  obtain ⟨a, b, L1, h1, h2, rfl⟩ := then_inv h
  exact ⟨a, b, L1, rfl, h1, h2⟩
theorem tell_entry : Tell 1 rdEntry := ⟨take_entry, fun L d L' hz hl h => by
  obtain ⟨a, b, L1, h1, h2, rfl⟩ := then_inv h
  obtain ⟨x1, x2⟩ := tell_text.s _ _ _ hz hl h1
  obtain ⟨r1, r2⟩ := rest_ok (take_text _ _ _ h1) hz hl
  obtain ⟨p, q, L2, rfl, h3, h4⟩ := addr_two h2
  obtain ⟨y1, y2⟩ := tell_num.s _ _ _ r1 r2 h3
  obtain ⟨r3, r4⟩ := rest_ok (take_num _ _ _ h3) r1 r2
  obtain ⟨w1, w2⟩ := tell_num.s _ _ _ r3 r4 h4
  have m : ∀ {P : PyData → Prop}, P a → P p → P q → ∀ d ∈ [a, p, q], P d := fun ha hp hq d hd => by
    rcases List.mem_cons.mp hd with rfl | hd
    · exact ha
    · exact two_mem hp hq d hd
  exact ⟨small_mk (by simp [itemsD]) (m x1 y1 w1), Shp.tuple (m x2 y2 w2)⟩⟩
theorem tell_all {k : Nat} : ∀ {fs : List Rd} {L L' : List Str} {ds : List PyData}, (∀ f ∈ fs, Tell k f) → (∀ z ∈ L, z.length ≤ 5000 ∧ ∀ c ∈ z.cps.toList, c < 1114112) → L.length ≤ 5000 → rdAll fs L = some (ds, L') → ∀ d ∈ ds, smallD d = true ∧ Shp k d
  | [], L, L', ds, _, _, _, h => by
    have h : some (([] : List PyData), L) = some (ds, L') := h
    injection h with h
    injection h with h1 _
    rw [← h1]
    intro d hd
    cases hd
  | f :: fs, L, L', ds, ht, hz, hl, h => by
    obtain ⟨d, es, L1, h1, h2, rfl⟩ := rdAll_cons h
    have hf := ht f List.mem_cons_self
    obtain ⟨r1, r2⟩ := rest_ok (hf.t _ _ _ h1) hz hl
    intro x hx
    rcases List.mem_cons.mp hx with rfl | hx
    · exact hf.s _ _ _ hz hl h1
    · exact tell_all (fun g hg => ht g (List.mem_cons_of_mem _ hg)) r1 r2 h2 x hx
theorem tell_sev {f : Rd} {k : Nat} (hf : Tell k f) : Tell (k + 1) (rdSev f) := ⟨take_sev hf.t, fun L d L' hz hl h => by
  obtain ⟨z, r, ds, rfl, _, h1, rfl⟩ := sev_inv h
  obtain ⟨r1, r2⟩ := rest_ok (L := z :: r) (L1 := r) ⟨[z], by simp, rfl⟩ hz hl
  have m := tell_all (fun g hg => by rw [List.eq_of_mem_replicate hg]; exact hf) r1 r2 h1
  obtain ⟨e, a, e2, e3⟩ := all_len (fun g hg => by rw [List.eq_of_mem_replicate hg]; exact hf.t) h1
  rw [e3, List.length_append] at r2
  exact ⟨small_mk (by omega) fun d hd => (m d hd).1, Shp.tuple fun d hd => (m d hd).2⟩⟩
theorem tell_more : Tell 1 rdMore := ⟨take_more, fun L d L' hz hl h => by
  cases L with
  | nil => cases h
  | cons z r =>
    have h : (if z = "-" then some (PyData.none, r) else rdAddr (z :: r)) = some (d, L') := h
    split at h
    · injection h with h
      injection h with h _
      rw [← h]
      exact ⟨rfl, Shp.none⟩
    · exact tell_addr.s _ _ _ hz hl h⟩
/-! #### what is written is read -/
/-- of things that are so, just their texts are read as they -/
def ReadsR (f : Rd) (G : PyData → Prop) (L : PyData → List Str) : Prop := ∀ d rest, G d → f (L d ++ rest) = some (d, rest)
theorem okHx_hex {n : Nat} (h : n < 10 ^ 12) : okHx (hexS n) = true := by
  obtain ⟨l1, l10⟩ := hex_len10 h
  unfold okHx
  rw [decide_eq_true l1, decide_eq_true l10]
  refine List.all_eq_true.mpr fun c hc => decide_eq_true ?_
  have e : (hexS n).cps.toList = hexL n := by simp [hexS, sOf]
  rw [e] at hc
  exact hex_all (fun k hk => (hd_hex hk).2.2) n c hc
theorem hexNum_hexS (n : Nat) : Hx.hexNum (hexS n).cps.toList = n := by
  have e : (hexS n).cps.toList = hexL n := by simp [hexS, sOf]
  rw [e, hexNum_hexL]
theorem isNum_inv {d : PyData} (h : isNum d = true) : ∃ n : Nat, d = .int n ∧ n < 10 ^ 12 := by
  cases d with
  | int n =>
    obtain ⟨a, b⟩ := Bool.and_eq_true_iff.mp (show (decide (0 ≤ n) && decide (n ≤ 999999999999)) = true from h)
    have := of_decide_eq_true a
    have := of_decide_eq_true b
    exact ⟨n.toNat, by rw [Int.toNat_of_nonneg (by assumption)], by omega⟩
  | _ => cases h
theorem reads_num : ReadsR rdNum (fun d => isNum d = true) flatL := by
  intro d rest h
  obtain ⟨n, rfl, hn⟩ := isNum_inv h
  show (if okHx (hexS n) = true then some (PyData.int (Hx.hexNum (hexS n).cps.toList : Nat), rest) else none) = _
  rw [if_pos (okHx_hex hn), hexNum_hexS]
theorem reads_text : ReadsR rdText (fun d => ∃ z, d = .str z) flatL := by
  rintro d rest ⟨z, rfl⟩
  rfl
theorem reads_addr : ReadsR rdAddr (fun d => isAddr d = true) flatL := by
  intro d rest h
  match d, h with
  | .tuple [a, b], h =>
    obtain ⟨ha, hb⟩ := Bool.and_eq_true_iff.mp (show (isNum a && isNum b) = true from h)
    have e : flatL (.tuple [a, b]) ++ rest = flatL a ++ (flatL b ++ rest) := by
      show (flatL a ++ (flatL b ++ [])) ++ rest = _
      simp
    unfold rdAddr rdThen
    rw [e, reads_num a _ ha]
    show (match rdNum (flatL b ++ rest) with | none => none | some (e, L2) => some (pairD a e, L2)) = _
    rw [reads_num b _ hb]
    rfl
theorem reads_row : ReadsR rdRow (fun d => isRow d = true) flatL := by
  intro d rest h
  match d, h with
  | .tuple [a, b], h =>
    obtain ⟨ha, hb⟩ := Bool.and_eq_true_iff.mp (show (isOf lettersS a && isNum b) = true from h)
    have hs : ∃ z, a = .str z := by
      cases a with
      | str z => exact ⟨z, rfl⟩
      | _ => cases ha
    have e : flatL (.tuple [a, b]) ++ rest = flatL a ++ (flatL b ++ rest) := by
      show (flatL a ++ (flatL b ++ [])) ++ rest = _
      simp
    unfold rdRow rdThen
    rw [e, reads_text a _ hs]
    show (match rdNum (flatL b ++ rest) with | none => none | some (e, L2) => some (pairD a e, L2)) = _
    rw [reads_num b _ hb]
    rfl
theorem reads_stand : ReadsR rdStand (fun d => isStanding d = true) flatL := by
  intro d rest h
  match d, h with
  | .tuple [a, b], h =>
    obtain ⟨ha, hb⟩ := Bool.and_eq_true_iff.mp (show (isNum a && isAddr b) = true from h)
    have e : flatL (.tuple [a, b]) ++ rest = flatL a ++ (flatL b ++ rest) := by
      show (flatL a ++ (flatL b ++ [])) ++ rest = _
      simp
    unfold rdStand rdThen
    rw [e, reads_num a _ ha]
    show (match rdAddr (flatL b ++ rest) with | none => none | some (e, L2) => some (pairD a e, L2)) = _
    rw [reads_addr b _ hb]
    rfl
theorem reads_entry : ReadsR rdEntry (fun d => isEntry d = true) flatL := by
  intro d rest h
  match d, h with
  | .tuple [k, a, b], h =>
    simp only [isEntry, Bool.and_eq_true] at h
    have hs : ∃ z, k = .str z := by
      cases k with
      | str z => exact ⟨z, rfl⟩
      | _ => exact absurd h.1.1.1.1 (by intro z; cases z)
    have e : flatL (.tuple [k, a, b]) ++ rest = flatL k ++ (flatL (.tuple [a, b]) ++ rest) := by
      show (flatL k ++ (flatL a ++ (flatL b ++ []))) ++ rest = flatL k ++ ((flatL a ++ (flatL b ++ [])) ++ rest)
      simp
    have hab : isAddr (.tuple [a, b]) = true := by
      show (isNum a && isNum b) = true
      rw [h.1.1.1.2, h.1.1.2]
      rfl
    unfold rdEntry rdThen
    rw [e, reads_text k _ hs]
    show (match rdAddr (flatL (.tuple [a, b]) ++ rest) with | none => none | some (e, L2) => some (PyData.tuple (k :: itemsD e), L2)) = _
    rw [reads_addr _ _ hab]
    rfl
theorem reads_all {f : Rd} {G : PyData → Prop} (h : ReadsR f G flatL) : ∀ (ds : List PyData) (rest : List Str), (∀ d ∈ ds, G d) → rdAll (List.replicate ds.length f) (flatAll ds ++ rest) = some (ds, rest)
  | [], rest, _ => rfl
  | d :: ds, rest, hg => by
    have e : flatAll (d :: ds) ++ rest = flatL d ++ (flatAll ds ++ rest) := by
      show (flatL d ++ flatAll ds) ++ rest = _
      simp
    show (match f (flatAll (d :: ds) ++ rest) with | none => none | some (d, L1) => match rdAll (List.replicate ds.length f) L1 with | none => none | some (ds, L2) => some (d :: ds, L2)) = _
    rw [e, h d _ (hg d List.mem_cons_self)]
    show (match rdAll (List.replicate ds.length f) (flatAll ds ++ rest) with | none => none | some (ds, L2) => some (d :: ds, L2)) = _
    rw [reads_all h ds rest fun x hx => hg x (List.mem_cons_of_mem _ hx)]
theorem reads_sev {f : Rd} {g : PyData → Bool} {lo hi : Nat} (h : ReadsR f (fun d => g d = true) flatL) (hh : hi ≤ 1000) : ReadsR (rdSev f) (fun d => (isTupL lo hi d && allD g d) = true) sevL := by
  intro d rest hg
  obtain ⟨h1, h2⟩ := Bool.and_eq_true_iff.mp hg
  match d, h1, h2 with
  | .tuple ds, h1, h2 =>
    have hl := of_decide_eq_true (Bool.and_eq_true_iff.mp (show (decide (lo ≤ ds.length) && decide (ds.length ≤ hi)) = true from h1)).2
    show (if okHx (hexS ds.length) = true then (match rdAll (List.replicate (Hx.hexNum (hexS ds.length).cps.toList) f) (flatAll ds ++ rest) with | none => none | some (ds, L) => some (PyData.tuple ds, L)) else none) = _
    rw [if_pos (okHx_hex (by omega)), hexNum_hexS, reads_all h ds rest fun d hd => List.all_eq_true.mp (show ds.all g = true from h2) d hd]
theorem reads_more : ReadsR rdMore (fun d => (isNoneD d || isAddr d) = true) flatL := by
  intro d rest h
  rcases Bool.or_eq_true_iff.mp h with h | h
  · match d, h with
    | .none, _ => rfl
  · match d, h with
    | .tuple [a, b], h =>
      obtain ⟨ha, hb⟩ := Bool.and_eq_true_iff.mp (show (isNum a && isNum b) = true from h)
      obtain ⟨n, rfl, hn⟩ := isNum_inv ha
      have nn : hexS n ≠ "-" := fun e => by
        have h1 : (hexS n).cps.toList = hexL n := by simp [hexS, sOf]
        have h2 : (45 : Nat) ∈ hexL n := by
          rw [← h1, e]
          decide +kernel
        have h3 : (45 : Nat) ≠ 45 := hex_all (P := fun c => c ≠ 45) (fun k hk => by
          have : ∀ k : Fin 16, Cl.hd k.val ≠ 45 := by decide +kernel
          exact this ⟨k, hk⟩) n 45 h2
        exact h3 rfl
      have := reads_addr (.tuple [.int n, b]) rest h
      have e : flatL (.tuple [.int n, b]) ++ rest = hexS n :: (flatL b ++ [] ++ rest) := rfl
      rw [e] at this ⊢
      show (if hexS n = "-" then some (PyData.none, _) else rdAddr (hexS n :: _)) = _
      rw [if_neg nn, this]
end Cl
namespace Cl
open PySem PySem.Spec PyProof.Rows L2
/-- texts of a moderate size -/
def SsOk (ss : List Str) : Prop := (∀ z ∈ ss, z.length ≤ 5000 ∧ ∀ c ∈ z.cps.toList, c < 1114112) ∧ ss.length ≤ 5000
theorem SsOk.drop {ss : List Str} (h : SsOk ss) (i : Nat) : SsOk (ss.drop i) := ⟨fun z hz => h.1 z (List.mem_of_mem_drop hz), by rw [List.length_drop]; have := h.2; omega⟩
/-- what a reading def tells: what its model tells of the texts left; else it refuses -/
def spRd (K : PySem.W.Frag) (C n0 : Addr) (f : Rd) : Sp := fun vs H Q E => ∃ (x r : Addr) (ss : List Str) (i : Nat), vs = [.ref x] ∧ Tx K C H x r ss i ∧ SsOk ss ∧ i ≤ ss.length ∧
  (∀ (d : PyData) (L' : List Str), f (ss.drop i) = some (d, L') → ∀ (v : V) (H' : Hp) (j : Nat), SameBut x H H' → Tx K C H' x r ss j → j ≤ ss.length → ss.drop j = L' → Dt K H' v d → Q v H') ∧
  (f (ss.drop i) = none → ∀ H', SameBut x H H' → E (.ref n0) none H')
theorem figs_hex {c : Nat} (h : c ∈ figs.cps.toList) : Hx.IsHex c := by
  have : ∀ c ∈ figs.cps.toList, ((48 ≤ c ∧ c ≤ 57) ∨ (97 ≤ c ∧ c ≤ 102) ∨ (65 ≤ c ∧ c ≤ 70)) := by decide +kernel
  exact this c h
theorem drop_at {ss : List Str} {i : Nat} {z : Str} (h : ss[i]? = some z) : ss.drop i = z :: ss.drop (i + 1) := by
  have h1 := (List.getElem?_eq_some_iff.mp h).1
  rw [List.drop_eq_getElem_cons h1, (List.getElem?_eq_some_iff.mp h).2]
theorem rdNum_at {ss : List Str} {i : Nat} {z : Str} (h : ss[i]? = some z) : rdNum (ss.drop i) = if okHx z = true then some (.int (Hx.hexNum z.cps.toList : Nat), ss.drop (i + 1)) else none := by
  rw [drop_at h]
  rfl
theorem rd_end {ss : List Str} {i : Nat} (h : ss.length ≤ i) : ss.drop i = [] := List.drop_eq_nil_of_le h
theorem then_some {f g : Rd} {mk : PyData → PyData → PyData} {L L1 L2 : List Str} {a b : PyData} (h1 : f L = some (a, L1)) (h2 : g L1 = some (b, L2)) : rdThen f g mk L = some (mk a b, L2) := by
  unfold rdThen
  rw [h1]
  show (match g L1 with | none => none | some (e, L2) => some (mk a e, L2)) = _
  rw [h2]
theorem then_no1 {f g : Rd} {mk : PyData → PyData → PyData} {L : List Str} (h1 : f L = none) : rdThen f g mk L = none := by
  unfold rdThen
  rw [h1]
theorem then_no2 {f g : Rd} {mk : PyData → PyData → PyData} {L L1 : List Str} {a : PyData} (h1 : f L = some (a, L1)) (h2 : g L1 = none) : rdThen f g mk L = none := by
  unfold rdThen
  rw [h1]
  show (match g L1 with | none => none | some (e, L2) => some (mk a e, L2)) = _
  rw [h2]
theorem hexNum_lt {l : List Nat} (h : ∀ c ∈ l, c ∈ figs.cps.toList) : Hx.hexNum l < 16 ^ l.length := by
  induction l with
  | nil => decide
  | cons c r ih =>
    have h1 : Hx.hexNum (c :: r) = Hx.hv c * 16 ^ r.length + Hx.hexNum r := by
      show r.foldl _ (0 * 16 + Hx.hv c) = _
      rw [fold_from, Nat.zero_mul, Nat.zero_add]
    have h2 : Hx.hv c < 16 := by
      have : ∀ c ∈ figs.cps.toList, Hx.hv c < 16 := by decide +kernel
      exact this c (h c List.mem_cons_self)
    have h3 := ih fun c hc => h c (List.mem_cons_of_mem _ hc)
    rw [h1, List.length_cons, Nat.pow_succ]
    have : Hx.hv c * 16 ^ r.length ≤ 15 * 16 ^ r.length := Nat.mul_le_mul_right _ (by omega)
    omega
theorem okHx_inv {z : Str} (h : okHx z = true) : 1 ≤ z.length ∧ z.length ≤ 10 ∧ ∀ c ∈ z.cps.toList, c ∈ figs.cps.toList := by
  unfold okHx at h
  simp only [Bool.and_eq_true, decide_eq_true_eq, List.all_eq_true] at h
  exact ⟨h.1.1, h.1.2, h.2⟩
theorem okHx_lt {z : Str} (h : okHx z = true) : Hx.hexNum z.cps.toList < 2 ^ 40 := by
  obtain ⟨_, h2, h3⟩ := okHx_inv h
  refine Nat.lt_of_lt_of_le (hexNum_lt h3) ?_
  rw [show (2 : Nat) ^ 40 = 16 ^ 10 by decide]
  refine Nat.pow_le_pow_right (by decide) ?_
  rw [len_toList]
  exact h2
theorem all_snoc {f : Rd} {n : Nat} {L L1 : List Str} {ds : List PyData} (h : rdAll (List.replicate n f) L = some (ds, L1)) : rdAll (List.replicate (n + 1) f) L = match f L1 with
    | none => none
    | some (d, L2) => some (ds ++ [d], L2) := by
  rw [List.replicate_succ', rdAll_snoc, h]
theorem all_fail : ∀ (gs : List Rd) {fs : List Rd} {L : List Str}, rdAll fs L = none → rdAll (fs ++ gs) L = none
  | [], fs, L, h => by rw [List.append_nil]; exact h
  | g :: gs, fs, L, h => by
    rw [show fs ++ g :: gs = (fs ++ [g]) ++ gs by simp]
    exact all_fail gs (by rw [rdAll_snoc, h])
theorem rep_fail {f : Rd} {j n : Nat} {L : List Str} (h : rdAll (List.replicate j f) L = none) (hj : j ≤ n) : rdAll (List.replicate n f) L = none := by
  have := all_fail (List.replicate (n - j) f) h
  rwa [List.replicate_append_replicate, Nat.add_sub_cancel' hj] at this
end Cl
namespace Cl
open PySem PySem.Spec PyProof.Rows L2
/-! #### keys that a module's dict hasn't -/
def noKeys : List Str → Str → Bool
  | [], _ => true
  | k :: ks, z => (!(k == z)) && noKeys ks z
def allNo (es : List DictEntry) (z : Str) : Bool := es.all fun e => !(e.key.isStr z)
structure KNo (K : PySem.W.Frag) (w : World) (p : Addr) (z : Str) : Prop where
  ex : ∃ (es : Array DictEntry) (n : Nat), K.lookup p = some ⟨.type "dict", none, .dict es n, #[]⟩ ∧ PySem.W.KeysLit w.params es.toList ∧ PySem.W.nsIn K p z = some none
theorem kno_mk {K : PySem.W.Frag} {w : World} {p : Addr} {es : Array DictEntry} {n : Nat} {ks : List Str} (l : K.lookup p = some ⟨.type "dict", none, .dict es n, #[]⟩) (k : PySem.W.KeysLit w.params es.toList) (a : ∀ z, allNo es.toList z = noKeys ks z) (r : es.toList.any (·.refKey) = false) : ∀ z, noKeys ks z = true → KNo K w p z := fun z hz => by
  refine ⟨es, n, l, k, ?_⟩
  unfold PySem.W.nsIn
  rw [l]
  show (match es.toList.find? (·.key.isStr z) with | some e => some (some e.val) | none => if es.toList.any (·.refKey) then none else some none) = some none
  have e : es.toList.find? (·.key.isStr z) = none := by
    rw [List.find?_eq_none]
    intro x hx
    have := List.all_eq_true.mp ((a z).trans hz) x hx
    simpa using this
  rw [e, r]
  rfl
def rInKD2 (K : PySem.W.Frag) (w : World) (neg : Bool) : R2 := fun x y H Q => ∃ p z b, x = .str z ∧ y = .ref p ∧ (p == sysModules) = false ∧ ((b = true ∧ ∃ v, KDct K w p z v) ∨ (b = false ∧ KNo K w p z)) ∧ Q (.bl (b != neg)) H
section
variable {X : Cx}
theorem op_in_kdK2 (K : PySem.W.Frag) (w : World) (hw : X.w = w := by rfl) (hK : X.K = K := by rfl) : OpR X (compareOp .In) (rInKD2 K w false) := by
  subst hw hK
  intro pins s σ H x y v u Q I rx ry h
  obtain ⟨p, z, b, ex, ey, hs, ⟨rfl, v0, es, n, u0, hl, hk, e, _⟩ | ⟨rfl, es, n, hl, hk, e⟩, q⟩ := h
  · exact op_in_kd (d := p) ⟨hl, hk, hs⟩ pins s σ H x y v u Q I rx ry ⟨z, _, ex, ey, e, q⟩
  · exact op_in_kd (d := p) ⟨hl, hk, hs⟩ pins s σ H x y v u Q I rx ry ⟨z, _, ex, ey, e, q⟩
theorem op_notIn_kdK2 (K : PySem.W.Frag) (w : World) (hw : X.w = w := by rfl) (hK : X.K = K := by rfl) : OpR X (compareOp .NotIn) (rInKD2 K w true) := by
  subst hw hK
  intro pins s σ H x y v u Q I rx ry h
  obtain ⟨p, z, b, ex, ey, hs, ⟨rfl, v0, es, n, u0, hl, hk, e, _⟩ | ⟨rfl, es, n, hl, hk, e⟩, q⟩ := h
  · exact op_notIn_kd (d := p) ⟨hl, hk, hs⟩ pins s σ H x y v u Q I rx ry ⟨z, _, ex, ey, e, q⟩
  · exact op_notIn_kd (d := p) ⟨hl, hk, hs⟩ pins s σ H x y v u Q I rx ry ⟨z, _, ex, ey, e, q⟩
end
/-! #### the last mark -/
theorem rpart_no {z : Str} (h : 35 ∉ z.cps.toList) : Txt.rpartition z "#" = (Str.empty, Str.empty, z) := by
  have ey : TL.tl (Str.ofString "#") = [35] := by decide +kernel
  have ny : TL.tl (Str.ofString "#") ≠ [] := by rw [ey]; simp
  have e : Builtin.Str.lastOccurrence z "#" 0 z.length = none := by
    rcases StrLaws.last_spec z "#" with ⟨e, _⟩ | ⟨i, e, hi, no⟩
    · exact e
    · exfalso
      have h1 := (TL.at_iff ny i).mp hi
      rw [ey] at h1
      cases hd : (TL.tl z).drop i with
      | nil => rw [hd] at h1; cases h1
      | cons c r =>
        rw [hd] at h1
        have z2 : ([c] : List Nat) = [35] := eq_of_beq h1
        have z' : c = 35 := by injection z2
        have hm : c ∈ (TL.tl z).drop i := by rw [hd]; exact List.mem_cons_self
        exact h (by rw [← z']; exact List.mem_of_mem_drop hm)
  unfold Txt.rpartition
  rw [e]
theorem last_mark : ∀ {L : List Nat}, 35 ∈ L → ∃ B F : List Nat, L = B ++ 35 :: F ∧ 35 ∉ F
  | [], h => nomatch h
  | c :: r, h => by
    by_cases q : 35 ∈ r
    · obtain ⟨B, F, e, n⟩ := last_mark q
      exact ⟨c :: B, F, by rw [e]; rfl, n⟩
    · rcases List.mem_cons.mp h with rfl | h
      · exact ⟨[], r, rfl, q⟩
      · exact absurd h q
theorem sOf_list (l : List Nat) : (sOf l).cps.toList = l := by simp [sOf]
theorem mark_cases (z : Str) : (35 ∉ z.cps.toList ∧ Txt.rpartition z "#" = (Str.empty, Str.empty, z)) ∨ ∃ b f : Str, z = b ++ "#" ++ f ∧ 35 ∉ f.cps.toList ∧ Txt.rpartition z "#" = (b, ("#" : Str), f) := by
  by_cases h : 35 ∈ z.cps.toList
  · obtain ⟨B, F, e, n⟩ := last_mark h
    have n' : 35 ∉ (sOf F).cps.toList := by rw [sOf_list]; exact n
    have ez : z = sOf B ++ "#" ++ sOf F := by
      refine str_ext ?_
      rw [tl_app, tl_app, sOf_list, sOf_list, e]
      show B ++ 35 :: F = (B ++ [35]) ++ F
      simp
    refine .inr ⟨sOf B, sOf F, ez, n', ?_⟩
    rw [ez]
    exact rpart n'
  · exact .inl ⟨h, rpart_no h⟩
/-! #### the pieces between blanks -/
theorem spl_cnt : ∀ (L acc : List Nat), (TL.spl [32] 0 acc L).length = L.count 32 + 1
  | [], acc => rfl
  | c :: r, acc => by
    by_cases e : c = 32
    · subst e
      rw [TL.spl_hit (by show (List.take 1 (32 :: r) == [32]) = true; simp), List.length_cons]
      show (TL.spl [32] 0 [] r).length + 1 = _
      rw [spl_cnt r [], List.count_cons_self]
    · have h : TL.spl [32] 0 acc (c :: r) = TL.spl [32] 0 (acc ++ [c]) r := by
        show (if TL.pre [32] (c :: r) = true then acc :: TL.spl [32] 0 [] r else TL.spl [32] 0 (acc ++ [c]) r) = _
        rw [if_neg]
        intro q
        have z2 : ([c] : List Nat) = [32] := eq_of_beq q
        exact e (by injection z2)
      rw [h, spl_cnt r, List.count_cons_of_ne e]
theorem spl_mem : ∀ (L acc : List Nat), ∀ t ∈ TL.spl [32] 0 acc L, t.length ≤ acc.length + L.length ∧ ∀ c ∈ t, c ∈ acc ∨ c ∈ L
  | [], acc => fun t ht => by
    rw [List.mem_singleton.mp (show t ∈ [acc] from ht)]
    exact ⟨by simp, fun c h => .inl h⟩
  | c :: r, acc => fun t ht => by
    by_cases e : c = 32
    · subst e
      rw [TL.spl_hit (by show (List.take 1 (32 :: r) == [32]) = true; simp)] at ht
      rcases List.mem_cons.mp ht with rfl | ht
      · exact ⟨by omega, fun c h => .inl h⟩
      · obtain ⟨h1, h2⟩ := spl_mem r [] t ht
        rw [List.length_nil] at h1
        refine ⟨by rw [List.length_cons]; omega, fun c h => (h2 c h).elim (fun z => nomatch z) fun z => .inr (List.mem_cons_of_mem _ z)⟩
    · have h : TL.spl [32] 0 acc (c :: r) = TL.spl [32] 0 (acc ++ [c]) r := by
        show (if TL.pre [32] (c :: r) = true then acc :: TL.spl [32] 0 [] r else TL.spl [32] 0 (acc ++ [c]) r) = _
        rw [if_neg]
        intro q
        have z2 : ([c] : List Nat) = [32] := eq_of_beq q
        exact e (by injection z2)
      rw [h] at ht
      obtain ⟨h1, h2⟩ := spl_mem r _ t ht
      rw [List.length_append, List.length_singleton] at h1
      refine ⟨by rw [List.length_cons]; omega, fun d hd => (h2 d hd).elim (fun z => (List.mem_append.mp z).imp id fun z => ?_) fun z => .inr (List.mem_cons_of_mem _ z)⟩
      rw [List.mem_singleton.mp z]
      exact List.mem_cons_self
theorem split_ok {z : Str} (h : z.length < 5000) (hc : ∀ c ∈ z.cps.toList, c < 1114112) : SsOk (Txt.split z " ") ∧ ∃ k r, Txt.split z " " = k :: r := by
  have e := TL.split_spl z " " (by decide +kernel) (TL.kind_ok (by decide +kernel))
  have e32 : TL.tl (Str.ofString " ") = [32] := by decide +kernel
  rw [e32] at e
  have hl : (Txt.split z " ").length = z.cps.toList.count 32 + 1 := by
    rw [← List.length_map (f := TL.tl), e]
    exact spl_cnt _ _
  have hcount : z.cps.toList.count 32 ≤ z.length := by rw [← len_toList]; exact List.count_le_length
  refine ⟨⟨fun t ht => ?_, by omega⟩, ?_⟩
  · have hm : TL.tl t ∈ TL.spl [32] 0 [] (TL.tl z) := by
      have h1 : TL.tl t ∈ (Txt.split z " ").map TL.tl := List.mem_map.mpr ⟨t, ht, rfl⟩
      rw [e] at h1
      exact h1
    obtain ⟨h1, h2⟩ := spl_mem _ _ _ hm
    have l1 : (TL.tl t).length = t.length := len_toList t
    have l2 : (TL.tl z).length = z.length := len_toList z
    rw [List.length_nil] at h1
    exact ⟨by omega, fun c hc' => hc c ((h2 c hc').elim (fun z => nomatch z) id)⟩
  · cases eq : Txt.split z " " with
    | nil => rw [eq] at hl; cases hl
    | cons k r => exact ⟨k, r, rfl⟩
end Cl

/-! ### ClExc: exceptions of own classes: their making by a base's __init__, isinstance of a caught one, calls within a try -/
namespace PySem.W
open PySem PyProof.Rows
section
variable {prog : Program} {w : World} {K : Frag} {D x : Addr} {ox : Obj} {od : Option Obj}
/-- what the class D must say, so that isinstance asks its instances rightly -/
structure ExcK (K : Frag) (D : Addr) : Prop where
  ga : findIn K (.ref D) "__getattribute__" = some (some (.builtin "BaseException.__getattribute__"))
  gg : findIn K (.ref D) "__getattr__" = some none
  be : subIn K (.ref D) (.type "BaseException") = some true
  hd : hasDictIn K D = true
  ca : findIn K (.ref D) "__class__" = some (some (.builtin "object.__class__"))
  gs : specialIn K (.builtin "object.__class__") "__get__" = some (some (.builtin "getset_descriptor.__get__"))
  tk : takesIn K (.builtin "object.__class__") = some true
  mo : mroIn K D (.type "object") = some true
theorem find_clsX (C : ExcK K D) (od : Option Obj) : findObj K D od "__class__" = some (.bind (.builtin "getset_descriptor.__get__") (.builtin "object.__class__")) := by
  obtain ⟨cd, hc, _⟩ := any_some C.hd
  unfold findObj
  rw [hc, Option.bind_some, C.ca, Option.bind_some]
  simp [C.gs, C.tk]
theorem cls_ofX {A : Around} {E : Value → Shared → Prop} {s : Shared} {Q : Option Value → Shared → Prop} (C : ExcK K D) (X : K.In s.heap) (I : InstAt s.heap x ox D od) (h : Q (some (.ref D)) { s with toks := s.toks + 1 }) : wpAny (model prog w) A (getAttr? (.ref x) "__class__") Q E s := by
  obtain ⟨hp, g, d, t, os⟩ := s
  have l0 := I.type (M := model prog w)
  have l1 := looks_findIn (M := model prog w) X C.ga
  have l2 := looks_findIn (M := model prog w) X C.gg
  have l3 := looks_find (M := model prog w) X I (find_clsX C od)
  have sub : Looks (model prog w) hp (isInstance (.ref x) (.type "BaseException")) true := l0.andThen (looks_subIn X C.be)
  have q0 : (false && onTheHeap (Value.builtin "BaseException.__getattribute__")) = false := rfl
  have q2 : (Value.builtin "BaseException.__getattribute__" == Value.builtin "object.__getattribute__") = false := by decide +kernel
  have q1 : (onTheHeap (Value.ref D) && Value.builtin "BaseException.__getattribute__" == Value.builtin "object.__getattribute__") = false := by rw [q2]; rfl
  unfold getAttr? getAttrBy? getAttrBy
  refine wpAny_bind (wpAny_mkText (wpAny_bind (wpAny_attempt (wpAny_holding (wpAny_bind (l0.at (wpAny_bind (l1.at ?_))))))))
  show wpAny _ _ (if (onTheHeap (Value.ref D) && Value.builtin "BaseException.__getattribute__" == Value.builtin "object.__getattribute__") = true then _ else _) _ _ _
  rw [q1, if_neg Bool.false_ne_true]
  unfold getAttrByItsOwn hookBefore
  refine wpAny_bind ?_
  rw [if_pos (show onTheHeap (Value.ref D) = true from rfl)]
  refine l2.at (wpAny_bind (wpAny_attempt (wpAny_holding ?_)))
  unfold callGetattribute
  rw [q0, if_neg Bool.false_ne_true]
  unfold boundAndCalled
  rw [PySem.F.excAttr_ValueError.ga.bind (.ref x)]
  refine wpAny_bind (wpAny_pure ?_)
  show wpAny _ _ (call (.builtin "BaseException.__getattribute__") [.ref x, .str "__class__" t]) _ _ _
  refine wpAny_call (codeAny_call_builtin PySem.F.excAttr_ValueError.ga.plain PySem.F.entry_bexc_ga ?_)
  refine @check_slot (model prog w) _ _ ⟨hp, g, d, t + 1, os⟩ "BaseException.__getattribute__" "BaseException" "__getattribute__" (.ref x) [.str "__class__" t] [] _ (by decide +kernel) (by decide +kernel) sub (PySem.F.args_bexc_ga (.ref x) (.str "__class__" t)) ?_
  unfold Builtin.«object.__getattribute__»
  refine wpAny_bind (wpAny_of_eq (a := ((Value.ref x : Value), [Value.str "__class__" t])) (by first | rfl | (simp only [slotArgs]; rfl)) ?_)
  refine wpAny_bind (wpAny_pure (wpAny_bind (l0.at (wpAny_bind (l3.at ?_)))))
  show wpAny _ _ (holding [Value.builtin "object.__class__"] (call (.builtin "getset_descriptor.__get__") [.builtin "object.__class__", .ref x, .ref D]) >>= ret) _ _ _
  refine wpAny_bind (wpAny_holding (wpAny_call (class_get (s := ⟨hp, g, d, t + 1, os⟩) (ox := ox) (od := od) X I C.mo ?_)))
  refine wpAny_pure ?_
  show wpAny _ _ (handedOut (.ref D)) _ _ _
  rw [handedOut_of (v := .ref D) rfl]
  first
    | exact wpAny_pure (wpAny_pure h)
    | exact wpAny_pure h
    | exact wpAny_pure (wpAny_bind (wpAny_pure (wpAny_pure h)))
theorem kit_exc (C : ExcK K D) : KitX K (.ref x) (.ref D) (fun h => ∃ ox od, InstAt h x ox D od) where
  ty := fun _ _ _ ⟨_, _, I⟩ => I.type
  it := fun _ _ X _ => by
    obtain ⟨cd, hc, _⟩ := any_some C.hd
    unfold clsIn at hc
    split at hc
    · rename_i c' d' cd' sl' ho
      intro A' Q' E' s' k q
      unfold isType loadHead
      exact wpAny_bind (wpAny_loadPart (k _ _ (X _ _ ho)) (wpAny_pure q))
    · cases hc
  ne := fun h tp dd its n sl X htp => by
    obtain ⟨cd, hc, _⟩ := any_some C.hd
    refine Bool.eq_false_iff.mpr fun q => ?_
    have e : D = tp := Value.ref.inj (beq_iff_eq.mp q)
    subst e
    unfold clsIn at hc
    split at hc
    · rename_i c' d' cd' sl' ho
      have z := (X _ _ ho).symm.trans htp
      cases z
    · cases hc
  ca := fun X I k => by
    obtain ⟨_, _, I⟩ := I
    exact cls_ofX C X I k
end
end PySem.W
namespace Cl
open PySem PySem.Spec PyProof.Rows L2
/-- the caught exception's dict, as it stands -/
def DctOk (d : Option Addr) (H : Hp) : Prop := d = none ∨ ∃ dd fs, d = some dd ∧ H dd = some (.xd fs)
section
variable {X : Cx} {a : Addr} {oe : Obj} {cls : Value} {d : Option Addr} {pn : List (Addr × Obj)}
theorem inst_caught {pins : List (Addr × Obj)} {σ : L2.St} {H : Hp} {s : Shared} {D : Addr} (I : Inv (X.suite a ((a, oe) :: pn)) pins σ H s) (hz : Zc (.ref D) d oe) (hf : ∃ vs, oe.data = .fields vs) (hd : DctOk d H) : ∃ ox od, PySem.W.InstAt s.heap a ox D od := by
  obtain ⟨hget, _⟩ := I.pin (a, oe) (List.mem_append.mpr (.inl List.mem_cons_self))
  obtain ⟨vs, hv⟩ := hf
  rcases hd with rfl | ⟨dd, fs, rfl, hx⟩
  · refine ⟨oe, none, hget, hz.1, ?_, ?_⟩
    · unfold PySem.W.notCls
      rw [hv]
    · rw [hz.2]
      trivial
  · have ob : ObjOk X.prog X.w H s.heap dd (.xd fs) := I.hok dd _ hx
    obtain ⟨mA, hns, _⟩ := ob
    obtain ⟨od, ho, _⟩ := lookIn_ns hns
    refine ⟨oe, some od, hget, hz.1, ?_, ?_⟩
    · unfold PySem.W.notCls
      rw [hv]
    · rw [hz.2]
      exact ho
/-- isinstance(e, c), e the exception that the suite holds -/
def rIsX (K : PySem.W.Frag) (a : Addr) (cls : Value) (d : Option Addr) : List V → Hp → VK → Prop := fun xs H Q => ∃ (c : V) (cv : Value) (D : Addr) (b : Bool), xs = [.ref a, c] ∧ cls = .ref D ∧ PySem.W.ExcK K D ∧ DctOk d H ∧ ClsV c cv ∧ PySem.W.kitOne K (.ref D) cv = some b ∧ Q (.bl b) H
def rIsXT (K : PySem.W.Frag) (a : Addr) (cls : Value) (d : Option Addr) : List V → Hp → VK → Prop := fun xs H Q => ∃ (tp : Addr) (cs : List V) (us : List Value) (D : Addr) (b : Bool), xs = [.ref a, .ref tp] ∧ cls = .ref D ∧ PySem.W.ExcK K D ∧ DctOk d H ∧ H tp = some (.tup cs) ∧ Paired ClsV cs us ∧ PySem.W.kitAny K (.ref D) us = some b ∧ Q (.bl b) H
theorem call_isX (hz : Zc cls d oe) (hf : ∃ vs, oe.data = .fields vs) (K : PySem.W.Frag) (hK : X.K = K := by rfl) : CallR (X.suite a ((a, oe) :: pn)) (.builtin "isinstance") (rIsX K a cls d) := by
  subst hK
  intro pins s σ H xs us Q I r h
  obtain ⟨c, cv, D, b, rfl, rfl, C, hd, k, e, q⟩ := h
  obtain ⟨u1, u2, rfl, r1, r2⟩ := vals2 r
  have e2 := k.eq r2
  subst e2
  cases (show u1 = Value.ref a from r1)
  exact PySem.W.kia_one (PySem.W.kit_exc C) I.kIn (inst_caught I hz hf hd) e (fun z => nomatch z) fun tk => ⟨.bl b, H, I.tok tk, rfl, q⟩
theorem call_isXT (hz : Zc cls d oe) (hf : ∃ vs, oe.data = .fields vs) (K : PySem.W.Frag) (hK : X.K = K := by rfl) : CallR (X.suite a ((a, oe) :: pn)) (.builtin "isinstance") (rIsXT K a cls d) := by
  subst hK
  intro pins s σ H xs us Q I r h
  obtain ⟨tp, cs, ws, D, b, rfl, rfl, C, hd, hT, k, e, q⟩ := h
  obtain ⟨u1, u2, rfl, r1, r2⟩ := vals2 r
  cases (show u1 = Value.ref a from r1)
  cases (show u2 = Value.ref tp from r2)
  obtain ⟨_, its, rv, o, h1, h2, n, h3⟩ := (show ObjOk X.prog X.w H s.heap tp (.tup cs) from I.hok tp _ hT)
  have e3 := ClsV.all k rv
  subst e3
  obtain ⟨oc, od, dt, sl⟩ := o
  simp only at h2 h3
  subst h2 h3
  exact PySem.W.kia_tup (PySem.W.kit_exc C) I.kIn (inst_caught I hz hf hd) h1 e (fun z => nomatch z) fun tk => ⟨.bl b, H, I.tok tk, rfl, q⟩
end
/-! calls of defs that may raise, in a try -/
section
variable {X : Cx} {k n : Nat} {ps ks : List Str} {sp : Sp} {E : L2.St → XK} {x : Str} {p pos : Pos} {e : Expr} {es : List Expr} {t tk : TA} {f : Addr} {fd : FuncData}
theorem gn_callS {CX : CXT} {pins : List (Addr × Obj)} {σ : L2.St} {H : Hp} {s : Shared} {Q : VK} {E : XK} {us : List Value} {kw : List (Str × Value)} {allU : List Value} {allV : List V} (F : GnOk X.prog X.w X.K X.mg X.base CX k f fd ps sp) (hr : Rm k X.A) (hb : BindsTo s fd ⟨us, kw⟩ (ps.zip allU)) (hx : PassesAt CX X σ E)
    (I : Inv X pins σ H s) (r : Vals allV allU) (h : sp allV H Q E) : wpAny (model X.prog X.w) X.A (call (.ref f) us kw) (EP X pins σ Q) X.xe s := by
  refine wpAny_call (codeAny_mono (F.run X.A X.stack s H ⟨us, kw⟩ allU allV Q E hr I.env0 hb r h) ?_)
  rintro (e | fl) s' hq
  · exact hx pins H s e s' I hq
  · cases fl with
    | ret u => exact I.after hq
    | next | brk | cont => exact hq.elim
theorem pe_calS {CX : CXT} (C : Cal X.prog X.w X.K X.mg X.base CX x k ps sp) (hr : Rm k X.A) (hg : Gl X x) (hx : ∀ σ, PassesAt CX X σ (E σ)) (ha : PA X (e :: es) t) (hdb : (x == ("__debug__" : Str)) = false := by decide)
    (he : starEach (e :: es) X.env = (false, eval e X.env) :: starEach es X.env := by rfl) (hpl : (backTo pos (starEach es X.env)).any (·.1) = false := by rfl) :
    PE X (.Call (.Name x p) (e :: es) [] pos) (tCallS sp E t) := by
  obtain ⟨f, fd, F, hm, hk, hb⟩ := C.ex
  constructor
  intro pins s σ H Q I h
  refine wpAny_Call_Name_kw (ld_glob I hg hm (PySem.W.callWith_K (h₀ := X.base) I.ok.mod.kin hk (thn (ha.run pos pins s σ H _ I h) ?_) he hpl) hdb)
  rintro us s1 ⟨vs, H1, I1, r, q⟩
  have hl := F.len _ _ _ _ q
  refine ⟨I1.kIn, gn_callS F hr (?_ : BindsTo s1 fd ⟨us, []⟩ (ps.zip us)) (hx σ) I1 r q⟩
  have hb' := hb s1 us I1.kIn (by rw [List.append_nil, ← r.length]; exact hl)
  rwa [List.append_nil] at hb'
/-! Base.__init__(self, ..) -/
structure OBase (K : PySem.W.Frag) (mg : Str → Option Value) (x : Str) (C : Addr) : Prop where
  mgC : mg x = some (.ref C)
  sp : PySem.W.specialIn K (.ref C) "__getattribute__" = some (some (.builtin "type.__getattribute__"))
  rd : PySem.W.readsIn K C (.type "type") = true
  fi : PySem.W.findCls K (.ref C) (.type "type") "__init__" = some (.val (.builtin "ValueError.__init__"))
theorem pe_oinit {C : Addr} {p1 p2 : Pos} {pl : Sem Bool} (hg : Gl X x) (T : OBase X.K X.mg x C) (ha : PA X (e :: es) t) (hdb : (x == ("__debug__" : Str)) = false := by decide)
    (hc : eval (.Call (.Attribute (.Name x p1) "__init__" p2) (e :: es) [] pos) X.env = (do
      let ov ← eval (.Name x p1) X.env
      standAt p2.atName
      let (f, first) ← holding [ov] (getMethod ov "__init__" pl)
      callWith pos f first (backTo pos (starEach (e :: es) X.env)) (backToKw pos (keywordEach [] X.env))) := by rfl)
    (he : starEach (e :: es) X.env = (false, eval e X.env) :: starEach es X.env := by rfl) (hpl : (backTo pos (starEach es X.env)).any (·.1) = false := by rfl) :
    PE X (.Call (.Attribute (.Name x p1) "__init__" p2) (e :: es) [] pos) (tVeI X.K t) := by
  refine ⟨fun pins s σ H Q I h => ?_⟩
  refine PySem.W.methodCall_KW (ld_glob I hg T.mgC ?_ hdb) hc
  refine PySem.W.method_cls I.kIn T.sp (PySem.W.cls_value I.kIn T.rd T.fi (by decide +kernel) ?_)
  show wpAny _ _ (callWith pos (Value.builtin "ValueError.__init__") [] (backTo pos (starEach (e :: es) X.env)) []) _ _ _
  refine PyProof.Rows.callWith_method1 (thn (ha.run pos pins _ σ H _ (I.tok _) h) fun us s1 ⟨vs, H1, I1, r1, a, C, ws, ev, hl, T, ea, q⟩ => ?_) he hpl
  subst ev
  cases r1 with
  | @cons _ u0 _ ur ra rw' =>
    obtain rfl : u0 = Value.ref a := ra
    have hlen : ur.length ≤ sizeLine := by
      rw [← Paired.length rw', sizeLine_eq]
      omega
    exact oinit_ok T I1 ea hlen fun s' J => ⟨.non, H1, J, rfl, q⟩
end
/-! an own exception with one field -/
def sp_exc1 (f : Str) (C : Addr) : Sp := fun vs H Q _ => ∃ (x : Addr) (v : V), vs = [.ref x, v] ∧ H x = some (exo x C none) ∧ ∀ dx, H dx = none → dx ≠ x → Q .non (upd (upd H dx (exd dx [(f, v)])) x (exo x C (some dx)))
/-- the class at C, whose __init__ keeps sp -/
structure ExI (P : Program) (w : World) (K : PySem.W.Frag) (mg : Str → Option Value) (base : Heap) (x : Str) (C : Addr) (ps : List Str) (sp : Sp) : Prop where
  mgC : mg x = some (.ref C)
  ox : OexC K C
  ex : ∃ (fI : Addr) (fd : FuncData), PySem.W.findIn K (.ref C) "__init__" = some (some (.ref fI)) ∧ PySem.W.typeIn K (.ref fI) = some (.type "function") ∧ FnOk P w K mg base CX0 1 fI fd ps sp ∧ Binds K fd ps []
/-- the reading of its making, from the field's value on -/
theorem exc1_way {C : Addr} {f : Str} {vs : List V} {H1 : Hp} {Q : XK} (h : ∃ v, vs = [v] ∧ ∀ (d : Addr) (H2 : Hp), Same H1 H2 → H1 d = none → H2 d = some (.xd [(f, v)]) → Q (.ref C) (some d) H2) :
    vs.length ≤ 1000 ∧ ∀ a, H1 a = none → sp_exc1 f C (.ref a :: (vs ++ [])) (upd H1 a (exo a C none))
      (fun v H2 => v = .non ∧ ∃ (d : Addr) (fs : List (Str × V)), H2 a = some (exo a C (some d)) ∧ H2 d = some (exd d fs) ∧ H1 d = none ∧ Q (.ref C) (some d) (upd (del H2 a) d (.xd fs))) (fun _ _ _ => False) := by
  obtain ⟨v, rfl, q⟩ := h
  refine ⟨by simp, fun a ha => ⟨a, v, rfl, upd_same, fun dx hdx nda => ?_⟩⟩
  have hdx' : H1 dx = none := by rw [upd_ne nda] at hdx; exact hdx
  refine ⟨rfl, dx, [(f, v)], upd_same, by rw [upd_ne nda]; exact upd_same, hdx', q dx _ (fun b o hb => ?_) hdx' upd_same⟩
  have nb1 : b ≠ a := ne_of_none hb ha
  have nb2 : b ≠ dx := ne_of_none hb hdx'
  rw [upd_ne nb2, del_ne nb1, upd_ne nb1, upd_ne nb2, upd_ne nb1]
  exact hb
section
variable {X : Cx} {C : Addr} {x f : Str} {p pos : Pos} {e : Expr} {t : TA} {k : Nat}
theorem pmk_ex1 (T : ExI X.prog X.w X.K X.mg X.base x C ["self", f] (sp_exc1 f C)) (hr : Rm (k + 2) X.A) (hg : Gl X x) (ha : PA X [e] t) (hdb : (x == ("__debug__" : Str)) = false := by decide)
    (he : starEach [e] X.env = (false, eval e X.env) :: starEach [] X.env := by rfl) (hpl : (backTo pos (starEach [] X.env)).any (·.1) = false := by rfl) : PMk X (.Call (.Name x p) [e] [] pos) (tMkO C (sp_exc1 f C) [] t) := by
  obtain ⟨fI, fd, hi, ht, F, hb⟩ := T.ex
  exact pmk_oex T.ox hi ht F (hr.room.mono (by omega)) hb .nil pass0 hg T.mgC ha hdb he hpl
end
/-! a def that may raise, seen as one in this layer -/
theorem passE {X : Cx} {W : WX} {E : XK} (tk : Takes X W) (hW : ∀ cls d σ H, E cls d H → W cls d σ H) : Passes (L2.CX X.prog X.w) X E := passes_call tk hW
end Cl

/-! ### ClPath: classes of exceptions by their bundle; paths -/
namespace Cl
open PySem PySem.Spec PyProof.Rows L2
/-- an own class of exceptions -/
structure XCls (K : PySem.W.Frag) (mg : Str → Option Value) (x : Str) (C : Addr) : Prop where
  mgC : mg x = some (.ref C)
  ox : OexC K C
  ek : PySem.W.ExcK K C
theorem _root_.PySem.W.ExcK.xf {K : PySem.W.Frag} {C : Addr} (h : PySem.W.ExcK K C) : XfC K C := ⟨h.ga, h.gg, h.be, h.hd⟩
theorem kitAny_f {K : PySem.W.Frag} {t c : Value} {r : List Value} {b : Option Bool} (h : PySem.W.kitOne K t c = some false) (k : PySem.W.kitAny K t r = b) : PySem.W.kitAny K t (c :: r) = b := by
  unfold PySem.W.kitAny
  rw [h]
  exact k
theorem kitAny_t {K : PySem.W.Frag} {t c : Value} {r : List Value} (h : PySem.W.kitOne K t c = some true) : PySem.W.kitAny K t (c :: r) = some true := by
  unfold PySem.W.kitAny
  rw [h]
/-- equal lists, dicts: by their things, or as they are one -/
theorem op_eqVK {X : Cx} (K : PySem.W.Frag) (hu : X.A.units + 64 < cLine) (hK : X.K = K := by rfl) : OpR X (compareOp .Eq) (rEqV K) := by subst hK; exact op_eqV hu
/-! ### a text cut at each stroke -/
theorem spl_facts (S : List Nat) : ∀ (l : List Nat) (k : Nat) (acc : List Nat), TL.spl S k acc l ≠ [] ∧ (TL.spl S k acc l).length ≤ l.length + 1 ∧ (∀ t ∈ TL.spl S k acc l, t.length ≤ acc.length + l.length) ∧ ∃ t r, TL.spl S k acc l = t :: r ∧ acc.length ≤ t.length
  | [], k, acc => by
    rw [TL.spl_nil]
    exact ⟨by simp, by simp, fun t ht => by rw [List.mem_singleton.mp ht]; omega, acc, [], rfl, Nat.le_refl _⟩
  | c :: r, 0, acc => by
    cases hp : TL.pre S (c :: r) with
    | true =>
      rw [TL.spl_hit hp]
      obtain ⟨h1, h2, h3, _⟩ := spl_facts S r (S.length - 1) []
      refine ⟨by simp, ?_, fun t ht => ?_, _, _, rfl, Nat.le_refl _⟩
      · rw [List.length_cons, List.length_cons]
        omega
      · rcases List.mem_cons.mp ht with rfl | ht
        · omega
        · have := h3 t ht
          rw [List.length_nil] at this
          rw [List.length_cons]
          omega
    | false =>
      rw [TL.spl_miss hp]
      obtain ⟨h1, h2, h3, t, q, e, h4⟩ := spl_facts S r 0 (acc ++ [c])
      refine ⟨h1, ?_, fun t ht => ?_, t, q, e, ?_⟩
      · rw [List.length_cons]
        omega
      · have := h3 t ht
        rw [List.length_append, List.length_singleton] at this
        rw [List.length_cons]
        omega
      · rw [List.length_append, List.length_singleton] at h4
        omega
  | c :: r, k + 1, acc => by
    obtain ⟨h1, h2, h3, t, q, e, h4⟩ := spl_facts S r k acc
    refine ⟨h1, ?_, fun t ht => ?_, t, q, e, h4⟩
    · rw [List.length_cons]
      exact Nat.le_succ_of_le h2
    · have := h3 t ht
      rw [List.length_cons]
      omega
theorem split_st (z : Str) : (Txt.split z "/").map TL.tl = TL.spl [47] 0 [] (TL.tl z) := TL.split_spl z "/" (by decide +kernel) (TL.kind_ok (by decide +kernel))
theorem split_len (z : Str) : (Txt.split z "/").length ≤ z.length + 1 ∧ ∀ t ∈ Txt.split z "/", t.length ≤ z.length := by
  obtain ⟨_, h2, h3, _⟩ := spl_facts [47] (TL.tl z) 0 []
  rw [← split_st, List.length_map, ← TL.len_tl] at h2
  refine ⟨h2, fun t ht => ?_⟩
  have := h3 (TL.tl t) (by rw [← split_st]; exact List.mem_map.mpr ⟨t, ht, rfl⟩)
  rw [← TL.len_tl, ← TL.len_tl, List.length_nil] at this
  omega
theorem split_ne (z : Str) : ∃ f r, Txt.split z "/" = f :: r := by
  obtain ⟨h1, _⟩ := spl_facts [47] (TL.tl z) 0 []
  rw [← split_st] at h1
  cases e : Txt.split z "/" with
  | nil => rw [e] at h1; exact absurd rfl h1
  | cons f r => exact ⟨f, r, rfl⟩
/-- a stroke ahead -/
theorem split_stroke {z y : Str} (h : TL.tl z = 47 :: TL.tl y) : Txt.split z "/" = Str.empty :: Txt.split y "/" := by
  refine TL.map_tl_inj ?_
  rw [split_st, h, TL.spl_hit (by show (List.take 1 (47 :: TL.tl y) == [47]) = true; simp), List.map_cons, split_st]
  rfl
/-- no stroke ahead: the first part is no empty one, or there is just it -/
theorem split_other {z : Str} (h : ∀ r, TL.tl z ≠ 47 :: r) : (∃ f r, Txt.split z "/" = f :: r ∧ 1 ≤ f.length) ∨ Txt.split z "/" = [Str.empty] := by
  cases e : TL.tl z with
  | nil =>
    right
    refine TL.map_tl_inj ?_
    rw [split_st, e]
    rfl
  | cons c r =>
    left
    have hc : c ≠ 47 := fun q => h r (by rw [e, q])
    obtain ⟨_, _, _, t, q, e2, h4⟩ := spl_facts [47] r 0 ([] ++ [c])
    have e3 : (Txt.split z "/").map TL.tl = t :: q := by rw [split_st, e, TL.spl_miss (TL.pre_of_head [] r hc), e2]
    cases e4 : Txt.split z "/" with
    | nil => rw [e4] at e3; cases e3
    | cons f s =>
      rw [e4] at e3
      refine ⟨f, s, rfl, ?_⟩
      rw [TL.len_tl, (List.cons.inj e3).1]
      exact h4
theorem ne_none2 {H : Hp} {p q : Addr} {o : HO} (h : upd H p o q = none) : H q = none := by
  by_cases e : q = p
  · rw [e, upd_same] at h; cases h
  · rwa [upd_ne e] at h
theorem same_none {H H' : Hp} {q : Addr} (s : Same H H') (h : H' q = none) : H q = none := by
  cases e : H q with
  | none => rfl
  | some o => rw [s q o e] at h; cases h
theorem joinL_len (S : List Nat) : ∀ ps : List (List Nat), (TL.joinL S ps).length ≤ (ps.map (·.length)).sum + ps.length * S.length
  | [] => by simp [TL.joinL]
  | [p] => by simp [TL.joinL]
  | p :: q :: r => by
    have ih := joinL_len S (q :: r)
    show (p ++ (S ++ TL.joinL S (q :: r))).length ≤ _
    rw [List.length_append, List.length_append, List.map_cons, List.sum_cons, List.length_cons, Nat.add_mul]
    omega
theorem join_len (y : Str) (ps : List Str) : (Txt.join y ps).length ≤ (ps.map (·.length)).sum + ps.length * y.length := by
  have h := joinL_len (TL.tl y) (ps.map TL.tl)
  rw [TL.len_tl, TL.join_eq, TL.tl_join]
  rw [List.map_map, List.length_map] at h
  have e : (List.map ((fun x => x.length) ∘ TL.tl) ps) = ps.map (·.length) := List.map_congr_left fun t _ => (TL.len_tl t).symm
  rw [e, ← TL.len_tl] at h
  exact h
theorem sum_le {l : List Str} {b : Nat} (h : ∀ t ∈ l, t.length ≤ b) : (l.map (·.length)).sum ≤ b * l.length := by
  induction l with
  | nil => simp
  | cons t r ih =>
    have h1 := h t List.mem_cons_self
    have h2 := ih fun x hx => h x (List.mem_cons_of_mem _ hx)
    rw [List.map_cons, List.sum_cons, List.length_cons, Nat.mul_add]
    omega
/-! ### a text, so many times -/
def repS (x : Str) (n : Nat) : Str := ⟨(List.replicate n x.cps).foldl (· ++ ·) #[]⟩
theorem repS_0 (x : Str) : repS x 0 = Str.empty := rfl
theorem repS_1 (x : Str) : repS x 1 = x := by
  unfold repS
  show (⟨#[] ++ x.cps⟩ : Str) = x
  rw [Array.empty_append]
theorem repS_tl (x : Str) : ∀ (n : Nat) (a : Array Nat), ((List.replicate n x.cps).foldl (· ++ ·) a).size = a.size + n * x.length
  | 0, a => by simp
  | n + 1, a => by
    rw [List.replicate_succ, List.foldl_cons, repS_tl x n, Array.size_append, Nat.add_mul, Nat.one_mul]
    show a.size + x.cps.size + n * x.cps.size = a.size + (n * x.cps.size + x.cps.size)
    omega
theorem repS_len (x : Str) (n : Nat) : (repS x n).length = n * x.length := by
  show ((List.replicate n x.cps).foldl (· ++ ·) #[]).size = _
  rw [repS_tl]
  simp
def rMulS : R2 := fun x y H Q => ∃ z n, x = .str z ∧ y = .int n ∧ -1000000 ≤ n ∧ n ≤ 1000000 ∧ z.length * n.toNat ≤ 1000000 ∧ Q (.str (repS z n.toNat)) H
theorem op_mul_s {X : Cx} : OpR X (binaryOp .Mult) rMulS := by
  intro pins s σ H x y v u Q I rx ry h
  obtain ⟨z, n, rfl, rfl, h0, h1, h2, q⟩ := h
  obtain ⟨t, rfl⟩ := rx
  obtain ⟨t', rfl⟩ := ry
  refine PySem.P.mul_str ?_ (fun a b => ?_) (fun a b => ?_) ?_
  · rw [decide_eq_false (by omega), decide_eq_false (by omega)]
    rfl
  · have hn : ((n.toNat : Nat) : Int) = n := Int.toNat_of_nonneg (by omega)
    have e : (z.length : Int) * n ≤ 1000000 := by
      rw [← hn, ← Int.natCast_mul]
      exact Int.ofNat_le.mpr h2
    have e2 : (z.length : Int) ≤ (2 ^ 63 - 1) / n := Int.le_ediv_of_mul_le (by omega) (by omega)
    omega
  · show decide (z.length * n.toNat > sizeLine) = false
    exact decide_eq_false (by rw [sizeLine_eq]; omega)
  · by_cases c : n < 1
    · rw [if_pos c]
      have e : n.toNat = 0 := by omega
      rw [e] at q
      exact ⟨by decide, ⟨.str Str.empty, H, I.tok _, ⟨_, rfl⟩, q⟩⟩
    · rw [if_neg c]
      by_cases d : (n == 1 || z.length == 0) = true
      · rw [if_pos d]
        have e : repS z n.toNat = z := by
          rcases Bool.or_eq_true_iff.mp d with d | d
          · have : n = 1 := eq_of_beq d
            subst this
            exact repS_1 z
          · have h0 : z.length = 0 := eq_of_beq d
            have z1 : (repS z n.toNat).length = 0 := by rw [repS_len, h0, Nat.mul_zero]
            refine TL.ext_tl ?_
            have e1 : TL.tl (repS z n.toNat) = [] := List.length_eq_zero_iff.mp (by rw [← TL.len_tl]; exact z1)
            have e2 : TL.tl z = [] := List.length_eq_zero_iff.mp (by rw [← TL.len_tl]; exact h0)
            rw [e1, e2]
        rw [e] at q
        exact ⟨.str z, H, I, ⟨_, rfl⟩, q⟩
      · rw [if_neg d]
        have l := repS_len z n.toNat
        refine ⟨?_, ⟨.str (repS z n.toNat), H, I.tok _, ⟨_, rfl⟩, q⟩⟩
        show (repS z n.toNat).length ≤ sizeLine
        rw [l, sizeLine_eq, Nat.mul_comm]
        omega
theorem callS1 {sp : Sp} {E : L2.St → XK} {σ : L2.St} {H : Hp} {Q : VK} {i : Nat} {v : V} (hi : σ[i]? = some (some v)) (h : sp [v] H Q (E σ)) : tCallS sp E (tCons (tVar i) tNil) σ H Q := ⟨v, hi, h⟩
theorem drop1 {te : TE} {D : Ends} {σ : L2.St} {H : Hp} (h : te σ H fun _ H1 => D.nx σ H1) : tDrop te D σ H := h
/-- a def that may raise, called where it doesn't -/
theorem passN {X : Cx} : Passes (L2.CX X.prog X.w) X (fun _ _ _ => False) := fun _ _ _ _ _ _ _ h => by
  obtain ⟨_, _, _, _, _, _, _, _, _, _, _, _, h⟩ := h
  exact h.elim
theorem cut_last (xs : List V) : cutV xs none (some (-1)) = xs.dropLast := by
  unfold cutV
  rw [List.dropLast_eq_take]
  show (List.take (HT.sIx xs.length xs.length (some (-1)) - 0) (List.drop 0 xs)) = _
  rw [List.drop_zero, Nat.sub_zero]
  have e3 : HT.sIx xs.length xs.length (some (-1)) = (-1 + (xs.length : Int)).toNat := by
    show (if (-1 : Int) < 0 then (-1 + (xs.length : Int)).toNat else min (-1 : Int).toNat xs.length) = _
    exact if_pos (by decide)
  rw [e3]
  refine congrFun (congrArg List.take ?_) _
  omega
/-- both ways go on alike -/
theorem two_ways {α : Type} (R : α → Hp → Prop) {G : Prop} {F : α → Hp → Prop} (h : (∀ x H, R x H → F x H) → G) (hF : ∀ x H, R x H → F x H) : G := h hF
theorem kit_own {K : PySem.W.Frag} {D C : Addr} {b : Bool} (hd : PySem.W.hasDictIn K C = true) (ht : PySem.W.typeIn K (.ref C) = some (.type "type")) (h : PySem.W.subIn K (.ref D) (.ref C) = some b) (hs : PySem.W.subIn K (.ref D) (.ref D) = some true) : PySem.W.kitOne K (.ref D) (.ref C) = some b := by
  unfold PySem.W.kitOne
  by_cases e : D = C
  · subst e
    rw [if_pos (by simp)]
    exact hs.symm.trans h
  · rw [if_neg (by simpa using e)]
    obtain ⟨cd, hc, _⟩ := PySem.W.any_some hd
    have e2 : ((PySem.W.clsIn K C).isSome && PySem.W.typeIn K (.ref C) == some (.type "type")) = true := by rw [hc, ht] <;> rfl
    show (if ((PySem.W.clsIn K C).isSome && PySem.W.typeIn K (.ref C) == some (.type "type")) = true then PySem.W.subIn K (.ref D) (.ref C) else none) = some b
    rw [if_pos e2]
    exact h
theorem kit_bi {K : PySem.W.Frag} {D : Addr} {b : Bool} (h : PySem.W.subIn K (.ref D) (.type "ValueError") = some b) : PySem.W.kitOne K (.ref D) (.type "ValueError") = some b := by
  unfold PySem.W.kitOne
  rw [if_neg (by simp)]
  show (if PySem.W.kitMeta "ValueError" = true then PySem.W.subIn K (.ref D) (.type "ValueError") else none) = some b
  rw [if_pos (by decide +kernel)]
  exact h
/-- an own exception without an own __init__ is made -/
theorem pmk_xo {X : Cx} {C : Addr} {x m : Str} {j : Nat} {p p2 pos : Pos} (T : XCls X.K X.mg x C) (q : PySem.W.excIn X.K C [.type "ValueError", .type "Exception", .type "BaseException", .type "object"] "ValueError.__new__" = true) (hg : Gl X x)
    (hdb : (x == ("__debug__" : Str)) = false := by decide) : PMk X (.Call (.Name x p) [.Constant (.str m) j p2] [] pos) (fun _ H Q => Q (.ref C) none H) :=
  pmk_own PySem.F.excBase_ValueError q T.mgC T.ox.kC (raises_own T.ox.exC T.ox.tyC) hg hdb
end Cl

/-! ### ClTry: a def that gets the exception which an except suite holds -/
namespace Cl
open PySem PySem.Spec PyProof.Rows L2
section
variable {X : Cx} {p : Addr × Obj} {cls : Value} {d : Option Addr}
theorem inst_pn {pins : List (Addr × Obj)} {σ : L2.St} {H : Hp} {s : Shared} {D : Addr} (hp : p ∈ X.pn) (I : Inv X pins σ H s) (hz : Zc (.ref D) d p.2) (hf : ∃ vs, p.2.data = .fields vs) (hd : DctOk d H) : ∃ ox od, PySem.W.InstAt s.heap p.1 ox D od := by
  obtain ⟨hget, _⟩ := I.pin p (List.mem_append_left _ hp)
  obtain ⟨vs, hv⟩ := hf
  rcases hd with rfl | ⟨dd, fs, rfl, hx⟩
  · refine ⟨p.2, none, hget, hz.1, ?_, ?_⟩
    · unfold PySem.W.notCls
      rw [hv]
    · rw [hz.2]
      trivial
  · have ob : ObjOk X.prog X.w H s.heap dd (.xd fs) := I.hok dd _ hx
    obtain ⟨mA, hns, _⟩ := ob
    obtain ⟨od, ho, _⟩ := lookIn_ns hns
    refine ⟨p.2, some od, hget, hz.1, ?_, ?_⟩
    · unfold PySem.W.notCls
      rw [hv]
    · rw [hz.2]
      exact ho
theorem call_isP (hp : p ∈ X.pn) (hz : Zc cls d p.2) (hf : ∃ vs, p.2.data = .fields vs) (K : PySem.W.Frag) (hK : X.K = K := by rfl) : CallR X (.builtin "isinstance") (rIsX K p.1 cls d) := by
  subst hK
  intro pins s σ H xs us Q I r h
  obtain ⟨c, cv, D, b, rfl, rfl, C, hd, k, e, q⟩ := h
  obtain ⟨u1, u2, rfl, r1, r2⟩ := vals2 r
  have e2 := k.eq r2
  subst e2
  cases (show u1 = Value.ref p.1 from r1)
  exact PySem.W.kia_one (PySem.W.kit_exc C) I.kIn (inst_pn hp I hz hf hd) e (fun z => nomatch z) fun tk => ⟨.bl b, H, I.tok tk, rfl, q⟩
theorem call_isPT (hp : p ∈ X.pn) (hz : Zc cls d p.2) (hf : ∃ vs, p.2.data = .fields vs) (K : PySem.W.Frag) (hK : X.K = K := by rfl) : CallR X (.builtin "isinstance") (rIsXT K p.1 cls d) := by
  subst hK
  intro pins s σ H xs us Q I r h
  obtain ⟨tp, cs, ws, D, b, rfl, rfl, C, hd, hT, k, e, q⟩ := h
  obtain ⟨u1, u2, rfl, r1, r2⟩ := vals2 r
  cases (show u1 = Value.ref p.1 from r1)
  cases (show u2 = Value.ref tp from r2)
  obtain ⟨_, its, rv, o, h1, h2, n, h3⟩ := (show ObjOk X.prog X.w H s.heap tp (.tup cs) from I.hok tp _ hT)
  have e3 := ClsV.all k rv
  subst e3
  obtain ⟨oc, od, dt, sl⟩ := o
  simp only at h2 h3
  subst h2 h3
  exact PySem.W.kia_tup (PySem.W.kit_exc C) I.kIn (inst_pn hp I hz hf hd) h1 e (fun z => nomatch z) fun tk => ⟨.bl b, H, I.tok tk, rfl, q⟩
end
/-- such a def: p is the exception, of the class cls, its dict at d -/
structure FnE (P : Program) (w : World) (K : PySem.W.Frag) (mg : Str → Option Value) (base : Heap) (CX : CXT) (k : Nat) (f : Addr) (fd : FuncData) (ps : List Str) (cls : Value) (d : Option Addr) (sp : Addr → Sp) : Prop where
  len : ∀ a vs H Q E, sp a vs H Q E → vs.length = ps.length
  run : ∀ (A : Around) (outer : List Env) (s : Shared) (H : Hp) (args : Args) (us : List Value) (vs : List V) (Q : VK) (E : XK) (p : Addr × Obj), L2H.RoomH k A → Zc cls d p.2 → (∃ vs, p.2.data = .fields vs) → DctOk d H → L2H.PinOk outer H s p → Env0 P w K mg base A outer s H → BindsTo s fd args (ps.zip us) → Vals vs us → sp p.1 vs H Q E →
    codeAny (model P w) A (.call (.ref f) args) (CR CX outer P w H s Q E) s
theorem fn_ofE {CX : CXT} {P : Program} {w : World} {K : PySem.W.Frag} {mg : Str → Option Value} {base : Heap} {k : Nat} {f : Addr} {name qual : Str} {params : Arguments} {body : List Stmt} {scope : Scope} {dV kV doc pm cdv ct oc : Value} {an od : Option Addr}
    {osl : Array (Option Value)} {N ps : List Str} {sp : Addr → Sp} {cls : Value} {d : Option Addr} (lk : K.lookup f = some ⟨oc, od, .func (PySem.W.fnOf name qual params body scope dV kV doc pm an cdv ct), osl⟩) (hcd : PySem.W.codeIn K cdv qual = true) (S : FnScope N ps scope)
    (len : ∀ a vs H Q E, sp a vs H Q E → vs.length = ps.length)
    (hbody : ∀ (A : Around) (outer : List Env) (s : Shared) (H : Hp) (vs : List V) (Q : VK) (E : XK) (p : Addr × Obj), Zc cls d p.2 → (∃ vs, p.2.data = .fields vs) → DctOk d H → L2H.RoomH k (A.deeper (PyProof.Rows.envOfC qual scope s.heap.objs.size f cdv)) → sp p.1 vs H Q E →
      ∃ t, PSs (L2H.cxH CX P w K mg base N qual scope f cdv A outer s H E p) body t ∧ t { nx := fun _ H' => Q .non H', rt := Q } (L2.start N vs) H) :
    FnE P w K mg base CX (k + 1) f (PySem.W.fnOf name qual params body scope dV kV doc pm an cdv ct) ps cls d sp := by
  refine ⟨len, fun A outer s H args us vs Q E p hr hz hf hd hpin e0 hb r hsp => ?_⟩
  have hl := len _ _ _ _ _ hsp
  have KX : K.In s.heap := e0.mod.kin.keeps fun b o e => (e0.bs b o e).1
  have lim : s.heap.NoLimit := e0.mod.nolimit.keeps fun b o e => (e0.bs b o e).1
  have hkind : ∀ y ∈ ps.zip us, scope.names.lookup y.1 = some .local ∨ (scope.names.lookup y.1 = some .cell ∧ ((cellsFrom (s.heap.objs.size + 1) scope.names []).lookup y.1).isSome = true) := fun ⟨n, v⟩ hy => by
    rcases S.par n (List.of_mem_zip hy).1 with q | q
    · exact .inl q
    · exact .inr ⟨q, PySem.W.cellsFrom_some _ _ _ (.inl q)⟩
  refine codeAny_call_function hr.depth (KX _ _ lk) rfl S.co S.gen rfl (PySem.W.codeRec_of KX hcd) (hb _ _ _ _ ?_)
  refine wpAny_newFunctionEnv_cells S.kind hkind fun env he s1 x => ?_
  subst he
  refine ⟨lim.keeps x.toInCall.keep, codeAny_func ?_⟩
  obtain ⟨t, ht, hq⟩ := hbody A outer s H vs Q E p hz hf hd (hr.deeper _) hsp
  have I : Inv (L2H.cxH CX P w K mg base N qual scope f cdv A outer s H E p) [] (L2.start N vs) H s1 := L2H.inv_startH S hpin e0 hl r x
  refine wpAny_mono (ht.run [] s1 (L2.start N vs) H _ I hq) (fun fl s' hs => ?_) fun e s' hs => hs
  have fin : ∀ {σ' : L2.St} {H' : Hp} {v : V} {u : Value}, Inv (L2H.cxH CX P w K mg base N qual scope f cdv A outer s H E p) [] σ' H' s' → RelV v u → Q v H' → CE outer P w H s Q u s' :=
    fun {σ' H' v u} J rv q => ⟨v, H', J.os, J.bare, J.base, J.hok, rv, q⟩
  cases fl with
  | ret u =>
    obtain ⟨v, σ', H', J, rv, q⟩ := hs
    exact fin J rv q
  | next =>
    obtain ⟨σ', H', J, q⟩ := hs
    exact fin (v := V.non) (u := Value.none) J rfl q
  | brk =>
    obtain ⟨_, _, _, q⟩ := hs
    exact False.elim q
  | cont =>
    obtain ⟨_, _, _, q⟩ := hs
    exact False.elim q
section
variable {X : Cx} {k : Nat} {f : Addr} {fd : FuncData} {ps : List Str} {sp : Addr → Sp} {x : Str} {q pos : Pos} {e : Expr} {es : List Expr} {t : TA} {p : Addr × Obj} {cls : Value} {d : Option Addr}
theorem run_fnE {pins : List (Addr × Obj)} {σ : L2.St} {H : Hp} {s : Shared} {Q : VK} {us : List Value} {vs : List V} (F : FnE X.prog X.w X.K X.mg X.base CX0 k f fd ps cls d sp) (hr : L2H.RoomH k X.A) (hp : p ∈ X.pn) (hz : Zc cls d p.2) (hf : ∃ vs, p.2.data = .fields vs) (hb : Binds X.K fd ps [])
    (I : Inv X pins σ H s) (r : Vals vs us) (hd : DctOk d H) (h : sp p.1 vs H Q E0) : wpAny (model X.prog X.w) X.A (call (.ref f) us) (EP X pins σ Q) X.xe s := by
  have hl : us.length = ps.length := by rw [← r.length]; exact F.len _ _ _ _ _ h
  have b := hb s us I.kIn (by rw [List.append_nil]; exact hl)
  rw [List.append_nil] at b
  have P1 := I.pin p (List.mem_append_left _ hp)
  have hpin : L2H.PinOk X.stack H s p := ⟨P1.1, P1.2.1, fun hm => (List.mem_cons.mp (I.stkSub p.1 hm)).elim P1.2.2.1 P1.2.2.2.1, P1.2.2.2.2⟩
  refine wpAny_call (codeAny_mono (F.run X.A X.stack s H ⟨us, []⟩ us vs Q E0 p hr hz hf hd hpin I.env0 b r h) fun r s' hq => ?_)
  cases r with
  | error e => exact (show False from hq).elim
  | ok fl =>
    cases fl with
    | ret u => exact I.after hq
    | next => exact False.elim hq
    | brk => exact False.elim hq
    | cont => exact False.elim hq
/-- its call: the dict of the exception stands still, if there is one -/
def tCallE (d : Option Addr) (sp : Sp) (t : TA) : TE := fun σ H Q => t σ H fun vs H1 => DctOk d H1 ∧ sp vs H1 Q E0
theorem pe_callE (F : FnE X.prog X.w X.K X.mg X.base CX0 k f fd ps cls d sp) (hr : L2H.RoomH k X.A) (hp : p ∈ X.pn) (hz : Zc cls d p.2) (hf : ∃ vs, p.2.data = .fields vs) (hg : Gl X x) (hm : X.mg x = some (.ref f)) (hk : PySem.W.keepIn X.K (.ref f) = true) (hb : Binds X.K fd ps [])
    (ha : PA X (e :: es) t) (hdb : (x == ("__debug__" : Str)) = false := by decide) (he : starEach (e :: es) X.env = (false, eval e X.env) :: starEach es X.env := by rfl) (hpl : (backTo pos (starEach es X.env)).any (·.1) = false := by rfl) :
    PE X (.Call (.Name x q) (e :: es) [] pos) (tCallE d (sp p.1) t) := by
  refine ⟨fun pins s σ H Q I h => ?_⟩
  refine wpAny_Call_Name_kw (ld_glob I hg hm ?_ hdb)
  refine PySem.W.callWith_K (h₀ := X.base) I.ok.mod.kin hk (thn (ha.run pos pins s σ H _ I h) fun us s1 ⟨vs, H1, I1, r, hd, q⟩ => ⟨I1.kIn, ?_⟩) he hpl
  exact run_fnE F hr hp hz hf hb I1 r hd q
end
/-- xs[i] += e: the reading of xs[i] -/
theorem get_listK {X : Cx} (K : PySem.W.Frag) (hK : X.K = K := by rfl) : PGet X (rIxL K) := by
  subst hK
  intro pins s σ H x y v u Q I rx ry h
  obtain ⟨p, xs, i, z, rfl, rfl, hq, he, q⟩ := h
  cases rx
  obtain ⟨t, rfl⟩ := ry
  obtain ⟨its, r, pl, hz⟩ := I.list hq
  obtain ⟨j, h1, h2, h3, h4, h5⟩ := atI_get he
  obtain ⟨w, ew, rw'⟩ := r.get h2
  have hl := r.length
  have hn := line63
  have fin : EP X pins σ Q w s := ⟨z, H, I, rw', q⟩
  by_cases h0 : 0 ≤ i
  · have hj : i.toNat = j := by
      rw [seqIndex_of h0 h5] at h1
      exact Option.some.inj h1
    exact wpAny_getItem_list pl.isList h0 (by omega) (by rw [hj]; simpa using ew) fin
  · have hj : (i + (its.toArray.size : Int)).toNat = j := by
      rw [seqIndex_neg (by omega) h4] at h1
      rw [List.size_toArray, ← hl]
      exact Option.some.inj h1
    exact wpAny_getItem_list_neg pl.isList (by omega) (by rw [List.size_toArray] <;> omega) (by omega) (by rw [hj]; simpa using ew) fin
/-- o.f among targets -/
def gAttr (K : PySem.W.Frag) (f : Str) (to : TE) : TG := fun v σ H Q => to σ H fun x H1 => ∃ a C dx fs, x = .ref a ∧ H1 a = some (.ins C dx fs) ∧ Cls K C ∧ NoAttr K C f ∧ fs.length < 1000 ∧ Q σ (upd H1 a (.ins C dx (putF f v fs)))
theorem pg_attr {X : Cx} {o : Expr} {to : TE} {f : Str} {pos : Pos} (ho : PE X o to) : PG X (.Attribute o f pos) (gAttr X.K f to) := by
  refine ⟨fun pins s σ H v u Q I r h => ?_⟩
  rw [assign_Attribute]
  refine wpAny_bind (wpAny_holding (thn (ho.run pins s σ H _ I h) fun ov s1 ⟨x, H1, I1, rx, a, C, dx, fs, ex, ea, c, n, l, q⟩ => ?_))
  subst ex
  obtain rfl : ov = Value.ref a := rx
  refine wpAny_bind (wpAny_standAt (wpAny_bind (wpAny_holding (setattr_ok I1 ea c n l r fun s3 I3 => ?_))))
  exact wpAny_release ⟨σ, _, I3, q⟩
theorem pg_attrK {X : Cx} (K : PySem.W.Frag) {o : Expr} {to : TE} {f : Str} {pos : Pos} (ho : PE X o to) (hK : X.K = K := by rfl) : PG X (.Attribute o f pos) (gAttr K f to) := by subst hK; exact pg_attr ho
end Cl

/-! ### ClDisk: things of any kind; a disk, as an object -/
namespace Cl
open PySem PySem.Spec PyProof.Rows L2
/-- a thing of any kind: what isinstance tells of it -/
structure Th (K : PySem.W.Frag) (H : Hp) (v : V) : Prop where
  th : ∃ (t : Value) (b1 b2 b3 : Bool), TyX K H v t ∧ PySem.W.kitOne K t (.type "int") = some b1 ∧ PySem.W.kitOne K t (.type "bool") = some b2 ∧ PySem.W.kitOne K t (.type "str") = some b3 ∧
    ((∃ n, v = .int n ∧ b1 = true ∧ b2 = false) ∨ ((∀ n, v ≠ .int n) ∧ (b1 = false ∨ b2 = true))) ∧ ((∃ z, v = .str z ∧ b3 = true) ∨ ((∀ z, v ≠ .str z) ∧ b3 = false))
section
variable {K : PySem.W.Frag} {H : Hp}
theorem Th.int (n : Int) : Th K H (.int n) := ⟨_, true, false, false, .base (.int n), kit_ty (by decide +kernel), kit_ty (by decide +kernel), kit_ty (by decide +kernel), .inl ⟨n, rfl, rfl, rfl⟩, .inr ⟨fun _ h => (by cases h), rfl⟩⟩
theorem Th.bl (b : Bool) : Th K H (.bl b) := ⟨_, true, true, false, .base (.bl b), kit_ty (by decide +kernel), kit_ty (by decide +kernel), kit_ty (by decide +kernel), .inr ⟨fun _ h => (by cases h), .inr rfl⟩, .inr ⟨fun _ h => (by cases h), rfl⟩⟩
theorem Th.non : Th K H .non := ⟨_, false, false, false, .base .non, kit_ty (by decide +kernel), kit_ty (by decide +kernel), kit_ty (by decide +kernel), .inr ⟨fun _ h => (by cases h), .inl rfl⟩, .inr ⟨fun _ h => (by cases h), rfl⟩⟩
theorem Th.str (z : Str) : Th K H (.str z) := ⟨_, false, false, true, .base (.str z), kit_ty (by decide +kernel), kit_ty (by decide +kernel), kit_ty (by decide +kernel), .inr ⟨fun _ h => (by cases h), .inl rfl⟩, .inl ⟨z, rfl, rfl⟩⟩
theorem Th.lst {a : Addr} {xs : List V} (e : H a = some (.lst xs)) : Th K H (.ref a) := ⟨_, false, false, false, .base (.lst e), kit_ty (by decide +kernel), kit_ty (by decide +kernel), kit_ty (by decide +kernel), .inr ⟨fun _ h => (by cases h), .inl rfl⟩, .inr ⟨fun _ h => (by cases h), rfl⟩⟩
theorem Th.tup {a : Addr} {xs : List V} (e : H a = some (.tup xs)) : Th K H (.ref a) := ⟨_, false, false, false, .base (.tup e), kit_ty (by decide +kernel), kit_ty (by decide +kernel), kit_ty (by decide +kernel), .inr ⟨fun _ h => (by cases h), .inl rfl⟩, .inr ⟨fun _ h => (by cases h), rfl⟩⟩
theorem Th.dct {a : Addr} {kvs : List (Key × V)} (e : H a = some (.dK kvs)) : Th K H (.ref a) := ⟨_, false, false, false, .base (.dK e), kit_ty (by decide +kernel), kit_ty (by decide +kernel), kit_ty (by decide +kernel), .inr ⟨fun _ h => (by cases h), .inl rfl⟩, .inr ⟨fun _ h => (by cases h), rfl⟩⟩
end
/-- a whole number within bounds -/
def withinV (v : V) (lo hi : Int) : Bool := match v with
  | .int n => decide (lo ≤ n) && decide (n ≤ hi)
  | _ => false
theorem withinV_no {v : V} {lo hi : Int} (h : ∀ n, v ≠ .int n) : withinV v lo hi = false := by
  cases v with
  | int n => exact absurd rfl (h n)
  | _ => rfl
/-! ### a disk -/
structure DS where
  texts : List (List Str)
  wear : List Int
  pl : Int
  wr : Int
  lf : Option Int
  kp : Int
  ov : Bool
def lfV : Option Int → V
  | none => .non
  | some n => .int n
def dkF (rl wl : Addr) (pl wr : Int) (lf : Option Int) (kp : Int) (ov : Bool) : List (Str × V) :=
  [("written_rows", .ref rl), ("erasings", .ref wl), ("many_places", .int pl), ("count_of_writes", .int wr), ("writes_left", lfV lf), ("signs_kept", .int kp), ("is_over", .bl ov)]
section
variable (rl wl : Addr) (pl wr : Int) (lf : Option Int) (kp : Int) (ov : Bool)
theorem dk_1 : (dkF rl wl pl wr lf kp ov).lookup ("written_rows" : Str) = some (.ref rl) := lk0
theorem dk_2 : (dkF rl wl pl wr lf kp ov).lookup ("erasings" : Str) = some (.ref wl) := lkS (by decide +kernel) lk0
theorem dk_3 : (dkF rl wl pl wr lf kp ov).lookup ("many_places" : Str) = some (.int pl) := lkS (by decide +kernel) (lkS (by decide +kernel) lk0)
theorem dk_4 : (dkF rl wl pl wr lf kp ov).lookup ("count_of_writes" : Str) = some (.int wr) := lkS (by decide +kernel) (lkS (by decide +kernel) (lkS (by decide +kernel) lk0))
theorem dk_5 : (dkF rl wl pl wr lf kp ov).lookup ("writes_left" : Str) = some (lfV lf) := lkS (by decide +kernel) (lkS (by decide +kernel) (lkS (by decide +kernel) (lkS (by decide +kernel) lk0)))
theorem dk_6 : (dkF rl wl pl wr lf kp ov).lookup ("signs_kept" : Str) = some (.int kp) := lkS (by decide +kernel) (lkS (by decide +kernel) (lkS (by decide +kernel) (lkS (by decide +kernel) (lkS (by decide +kernel) lk0))))
theorem dk_7 : (dkF rl wl pl wr lf kp ov).lookup ("is_over" : Str) = some (.bl ov) := lkS (by decide +kernel) (lkS (by decide +kernel) (lkS (by decide +kernel) (lkS (by decide +kernel) (lkS (by decide +kernel) (lkS (by decide +kernel) lk0)))))
theorem dk_no {m : Str} (h : ([("written_rows" : Str), "erasings", "many_places", "count_of_writes", "writes_left", "signs_kept", "is_over"] : List Str).all (fun f => !decide (m = f)) = true) : (dkF rl wl pl wr lf kp ov).lookup m = none := lk_no h
end
section
variable {rl wl : Addr} {pl wr : Int} {lf : Option Int} {kp : Int} {ov : Bool}
theorem put_4 {z : Int} : putF "count_of_writes" (V.int z) (dkF rl wl pl wr lf kp ov) = dkF rl wl pl z lf kp ov := putS (by decide +kernel) (putS (by decide +kernel) (putS (by decide +kernel) put0))
theorem put_5 {z : Option Int} : putF "writes_left" (lfV z) (dkF rl wl pl wr lf kp ov) = dkF rl wl pl wr z kp ov := putS (by decide +kernel) (putS (by decide +kernel) (putS (by decide +kernel) (putS (by decide +kernel) put0)))
theorem put_6 {z : Int} : putF "signs_kept" (V.int z) (dkF rl wl pl wr lf kp ov) = dkF rl wl pl wr lf z ov := putS (by decide +kernel) (putS (by decide +kernel) (putS (by decide +kernel) (putS (by decide +kernel) (putS (by decide +kernel) put0))))
theorem put_7 {z : Bool} : putF "is_over" (V.bl z) (dkF rl wl pl wr lf kp ov) = dkF rl wl pl wr lf kp z := putS (by decide +kernel) (putS (by decide +kernel) (putS (by decide +kernel) (putS (by decide +kernel) (putS (by decide +kernel) (putS (by decide +kernel) put0)))))
end
/-- a disk stands at x: its rows' list at rl, its erasings at wl, the rows at ras -/
structure Dk (C : Addr) (H : Hp) (x rl wl : Addr) (ras : List Addr) (S : DS) : Prop where
  ob : ∃ dx, H x = some (.ins C dx (dkF rl wl S.pl S.wr S.lf S.kp S.ov))
  rl : H rl = some (.lst (ras.map V.ref))
  wl : H wl = some (.lst (S.wear.map V.int))
  rs : ∀ (i : Nat) (a : Addr) (ts : List Str), ras[i]? = some a → S.texts[i]? = some ts → H a = some (.lst (ts.map V.str))
  nd : ras.Nodup
  l1 : S.texts.length = ras.length
  l2 : S.wear.length = ras.length
  lo : 4 ≤ ras.length
  hi : ras.length ≤ 8
  p0 : 6 ≤ S.pl
  p1 : S.pl ≤ 16
  tx : ∀ ts ∈ S.texts, (ts.length : Int) ≤ S.pl ∧ ∀ t ∈ ts, 1 ≤ t.length ∧ t.length ≤ 2000
theorem Dk.m {C : Addr} {H H' : Hp} {x rl wl : Addr} {ras : List Addr} {S : DS} (e : Same H H') (h : Dk C H x rl wl ras S) : Dk C H' x rl wl ras S := by
  obtain ⟨⟨dx, h1⟩, h2, h3, h4, h5, h6, h7, h8, h9, h10, h11, h12⟩ := h
  exact ⟨⟨dx, e _ _ h1⟩, e _ _ h2, e _ _ h3, fun i a ts q1 q2 => e _ _ (h4 i a ts q1 q2), h5, h6, h7, h8, h9, h10, h11, h12⟩
/-- what belongs to it -/
def DkFoot (x rl wl : Addr) (ras : List Addr) (b : Addr) : Prop := b = x ∨ b = rl ∨ b = wl ∨ b ∈ ras
theorem Dk.nrx {C : Addr} {H : Hp} {x rl wl : Addr} {ras : List Addr} {S : DS} (h : Dk C H x rl wl ras S) : rl ≠ x := fun e => by
  obtain ⟨dx, q⟩ := h.ob
  have := h.rl
  rw [e, q] at this
  cases this
theorem Dk.nwx {C : Addr} {H : Hp} {x rl wl : Addr} {ras : List Addr} {S : DS} (h : Dk C H x rl wl ras S) : wl ≠ x := fun e => by
  obtain ⟨dx, q⟩ := h.ob
  have := h.wl
  rw [e, q] at this
  cases this
theorem Dk.text {C : Addr} {H : Hp} {x rl wl : Addr} {ras : List Addr} {S : DS} (h : Dk C H x rl wl ras S) {i : Nat} {a : Addr} (ha : ras[i]? = some a) : ∃ ts, S.texts[i]? = some ts ∧ H a = some (.lst (ts.map V.str)) := by
  have hlt : i < S.texts.length := by
    rw [h.l1]
    exact (List.getElem?_eq_some_iff.mp ha).1
  exact ⟨_, List.getElem?_eq_getElem hlt, h.rs i a _ ha (List.getElem?_eq_getElem hlt)⟩
theorem Dk.nax {C : Addr} {H : Hp} {x rl wl : Addr} {ras : List Addr} {S : DS} (h : Dk C H x rl wl ras S) {i : Nat} {a : Addr} (ha : ras[i]? = some a) : a ≠ x := fun e => by
  obtain ⟨dx, q⟩ := h.ob
  obtain ⟨ts, _, q2⟩ := h.text ha
  rw [e, q] at q2
  cases q2
theorem Dk.nar {C : Addr} {H : Hp} {x rl wl : Addr} {ras : List Addr} {S : DS} (h : Dk C H x rl wl ras S) {i : Nat} {a : Addr} (ha : ras[i]? = some a) : a ≠ rl := fun e => by
  obtain ⟨ts, _, q2⟩ := h.text ha
  rw [e, h.rl] at q2
  have q4 := Option.some.inj q2
  have q3 : ras.map V.ref = ts.map V.str := by injection q4
  have := h.lo
  cases ras with
  | nil => simp at this
  | cons r rs =>
    cases ts with
    | nil => cases q3
    | cons t ts => cases q3
/-- other fields: all else stays -/
theorem Dk.re {C : Addr} {H H' : Hp} {x rl wl : Addr} {ras : List Addr} {S S' : DS} (h : Dk C H x rl wl ras S) (e : SameBut x H H') (ob : ∃ dx, H' x = some (.ins C dx (dkF rl wl S'.pl S'.wr S'.lf S'.kp S'.ov))) (e1 : S'.texts = S.texts) (e2 : S'.wear = S.wear) (e3 : S'.pl = S.pl) : Dk C H' x rl wl ras S' := by
  refine ⟨ob, e _ _ h.rl h.nrx, by rw [e2]; exact e _ _ h.wl h.nwx, fun i a ts q1 q2 => ?_, h.nd, by rw [e1]; exact h.l1, by rw [e2]; exact h.l2, h.lo, h.hi, by rw [e3]; exact h.p0, by rw [e3]; exact h.p1, by rw [e1, e3]; exact h.tx⟩
  rw [e1] at q2
  exact e _ _ (h.rs i a ts q1 q2) (h.nax q1)
theorem Dk.naw {C : Addr} {H : Hp} {x rl wl : Addr} {ras : List Addr} {S : DS} (h : Dk C H x rl wl ras S) {i : Nat} {a : Addr} (ha : ras[i]? = some a) : a ≠ wl := fun e => by
  obtain ⟨ts, _, q2⟩ := h.text ha
  rw [e, h.wl] at q2
  have q4 := Option.some.inj q2
  have q3 : S.wear.map V.int = ts.map V.str := by injection q4
  have l1 := h.lo
  have l2 := h.l2
  cases e1 : S.wear with
  | nil => rw [e1] at l2; simp at l2; omega
  | cons r rs =>
    rw [e1] at q3
    cases ts with
    | nil => cases q3
    | cons t ts => cases q3
theorem nodup_at {l : List Addr} (h : l.Nodup) {i j : Nat} {a : Addr} (hi : l[i]? = some a) (hj : l[j]? = some a) : i = j := by
  exact (List.getElem?_inj (List.getElem?_eq_some_iff.mp hi).1 h).mp (hi.trans hj.symm)
/-- one row otherwise -/
theorem Dk.row {C : Addr} {H : Hp} {x rl wl : Addr} {ras : List Addr} {S : DS} (h : Dk C H x rl wl ras S) {n : Nat} {a : Addr} (ha : ras[n]? = some a) {ts : List Str} (hl : (ts.length : Int) ≤ S.pl) (ht : ∀ t ∈ ts, 1 ≤ t.length ∧ t.length ≤ 2000) :
    Dk C (upd H a (.lst (ts.map V.str))) x rl wl ras { S with texts := S.texts.set n ts } := by
  obtain ⟨dx, ob⟩ := h.ob
  refine ⟨⟨dx, by rw [upd_ne (h.nax ha).symm]; exact ob⟩, by rw [upd_ne (h.nar ha).symm]; exact h.rl, by rw [upd_ne (h.naw ha).symm]; exact h.wl, fun i b us q1 q2 => ?_, h.nd, by rw [List.length_set]; exact h.l1, h.l2, h.lo, h.hi, h.p0, h.p1, fun us hu => ?_⟩
  · by_cases e : i = n
    · subst e
      have e2 : b = a := Option.some.inj (q1.symm.trans ha)
      subst e2
      have hlt : i < S.texts.length := by
        rw [h.l1]
        exact (List.getElem?_eq_some_iff.mp ha).1
      have e3 : us = ts := by
        rw [show ({ S with texts := S.texts.set i ts } : DS).texts = S.texts.set i ts from rfl, List.getElem?_set_self hlt] at q2
        exact (Option.some.inj q2).symm
      rw [e3]
      exact upd_same
    · have q3 : S.texts[i]? = some us := by
        rw [show ({ S with texts := S.texts.set n ts } : DS).texts = S.texts.set n ts from rfl, List.getElem?_set_ne (Ne.symm e)] at q2
        exact q2
      rw [upd_ne (fun z => e (nodup_at h.nd (by rw [← z]; exact q1) ha))]
      exact h.rs i b us q1 q3
  · rcases List.mem_or_eq_of_mem_set hu with hu | rfl
    · exact h.tx us hu
    · exact ⟨hl, ht⟩
def oneD (S : DS) : DS := { S with wr := S.wr + 1, lf := S.lf.map (· - 1) }
theorem ixN_nat {n j : Nat} (h : j < n) : ixN n (j : Int) = some j := by
  unfold ixN
  rw [if_pos (by omega), if_pos (by omega), Int.toNat_natCast]
/-- one row anew, at a' -/
theorem Dk.anew {C : Addr} {H : Hp} {x rl wl : Addr} {ras : List Addr} {S : DS} (h : Dk C H x rl wl ras S) {n : Nat} {a' : Addr} (hn : n < ras.length) (hf : H a' = none) :
    Dk C (upd (upd H a' (.lst [])) rl (.lst ((ras.set n a').map V.ref))) x rl wl (ras.set n a') { S with texts := S.texts.set n [] } := by
  obtain ⟨dx, ob⟩ := h.ob
  have n1 : x ≠ a' := ne_of_none ob hf
  have n2 : rl ≠ a' := ne_of_none h.rl hf
  have n3 : wl ≠ a' := ne_of_none h.wl hf
  have nwr : wl ≠ rl := fun e => by
    have q2 := h.wl
    rw [e, h.rl] at q2
    have q4 := Option.some.inj q2
    have q3 : ras.map V.ref = S.wear.map V.int := by injection q4
    have l1 := h.lo
    cases e1 : ras with
    | nil => rw [e1] at l1; simp at l1
    | cons r rs =>
      rw [e1] at q3
      cases e2 : S.wear with
      | nil => rw [e2] at q3; cases q3
      | cons t ts => rw [e2] at q3; cases q3
  have fresh : ∀ (i : Nat) (b : Addr), ras[i]? = some b → b ≠ a' := fun i b hb e => by
    obtain ⟨ts, _, q⟩ := h.text hb
    rw [e, hf] at q
    cases q
  refine ⟨⟨dx, by rw [upd_ne h.nrx.symm, upd_ne n1]; exact ob⟩, upd_same, by rw [upd_ne nwr, upd_ne n3]; exact h.wl, fun i b us q1 q2 => ?_, ?_, by rw [List.length_set, List.length_set]; exact h.l1, by rw [List.length_set]; exact h.l2, by rw [List.length_set]; exact h.lo, by rw [List.length_set]; exact h.hi, h.p0, h.p1, fun us hu => ?_⟩
  · rw [show ({ S with texts := S.texts.set n [] } : DS).texts = S.texts.set n [] from rfl] at q2
    by_cases e : i = n
    · subst e
      rw [List.getElem?_set_self hn] at q1
      rw [List.getElem?_set_self (by rw [h.l1]; exact hn)] at q2
      have e1 := Option.some.inj q1
      have e2 := Option.some.inj q2
      rw [← e1, ← e2, upd_ne n2.symm]
      exact upd_same
    · rw [List.getElem?_set_ne (Ne.symm e)] at q1 q2
      rw [upd_ne (h.nar q1), upd_ne (fresh i b q1)]
      exact h.rs i b us q1 q2
  · refine List.pairwise_iff_getElem.mpr fun i j hi hj hij => ?_
    have hi' : i < ras.length := by simpa using hi
    have hj' : j < ras.length := by simpa using hj
    intro e
    have gi : (ras.set n a')[i]? = some ((ras.set n a')[i]'hi) := List.getElem?_eq_getElem _
    have gj : (ras.set n a')[j]? = some ((ras.set n a')[j]'hj) := List.getElem?_eq_getElem _
    rw [e] at gi
    by_cases ei : i = n
    · subst ei
      rw [List.getElem?_set_self hi'] at gi
      rw [List.getElem?_set_ne (by omega), ← gi] at gj
      exact fresh j a' gj rfl
    · by_cases ej : j = n
      · subst ej
        rw [List.getElem?_set_self hj'] at gj
        rw [List.getElem?_set_ne (by omega), ← gj] at gi
        exact fresh i a' gi rfl
      · rw [List.getElem?_set_ne (by omega)] at gi gj
        exact absurd (nodup_at h.nd gi gj) (by omega)
  · rcases List.mem_or_eq_of_mem_set hu with hu | rfl
    · exact h.tx us hu
    · exact ⟨by have := h.p0; show (0 : Int) ≤ S.pl; omega, fun _ h => nomatch h⟩
/-- one segment's wear otherwise -/
theorem Dk.worn {C : Addr} {H : Hp} {x rl wl : Addr} {ras : List Addr} {S : DS} (h : Dk C H x rl wl ras S) (ws : List Int) (hl : ws.length = S.wear.length) :
    Dk C (upd H wl (.lst (ws.map V.int))) x rl wl ras { S with wear := ws } := by
  obtain ⟨dx, ob⟩ := h.ob
  have nwr : rl ≠ wl := fun e => by
    have q2 := h.wl
    rw [← e, h.rl] at q2
    have q4 := Option.some.inj q2
    have q3 : ras.map V.ref = S.wear.map V.int := by injection q4
    have l1 := h.lo
    cases e1 : ras with
    | nil => rw [e1] at l1; simp at l1
    | cons r rs =>
      rw [e1] at q3
      cases e2 : S.wear with
      | nil => rw [e2] at q3; cases q3
      | cons t ts => rw [e2] at q3; cases q3
  exact ⟨⟨dx, by rw [upd_ne h.nwx.symm]; exact ob⟩, by rw [upd_ne nwr]; exact h.rl, upd_same, fun i b us q1 q2 => by rw [upd_ne (h.naw q1)]; exact h.rs i b us q1 q2, h.nd, h.l1, by rw [hl]; exact h.l2, h.lo, h.hi, h.p0, h.p1, h.tx⟩
end Cl

/-! ### ClLam: a lambda handed to a def that calls it in a try; all but the tables stays -/
namespace Cl
open PySem PySem.Spec PyProof.Rows L2
open LamX (CodeO TabS Tabs ExtN TabB LamS lamEnv lamCx lam_make2 lam_start2)
section
variable {X : Cx} {pins : List (Addr × Obj)} {σ : L2.St} {H HZ : Hp} {s s1 : Shared}
/-- x() in the def that got the lambda x, in its try: what is raised is the try's -/
theorem pe_act2 {CXg : CXT} {Eg : XK} {Ng : List Str} {qg : Str} {sg : Scope} {g f c' : Addr} {cdg pm ctv : Value} {params : Arguments} {body : Expr} {scope : Scope} {k i : Nat} {a : Str} {pn : List (Addr × Obj)} {xe : Value → Shared → Prop} {W : WX} {t : XK → TE} {p1 p2 : Pos}
    (I : Inv X pins σ H s) (L : LamS X.env.scope scope) (hf : s.heap.get? f = some (PySem.W.kla_obj "<lambda>" (X.env.qual ++ "<lambda>") params body scope (cloFrom X.env.cells scope.names []) pm c' ctv)) (hfn : H f = none) (hfr : f ∉ frs X.stack)
    (hbind : bindArgs (PySem.W.kla_fn "<lambda>" (X.env.qual ++ "<lambda>") params body scope (cloFrom X.env.cells scope.names []) pm (.ref c') ctv) ⟨[], []⟩ = pure [])
    (tk : Takes ((cxOf CXg X.prog X.w X.K X.mg X.base Ng qg sg g cdg X.A X.stack s H Eg).tr pn xe) W) (hr : Rm (k + 1) (X.A.deeper (envOfC qg sg s.heap.objs.size g cdg)))
    (hbody : ∀ (A : Around) (outer : List Env) (s : Shared) (H : Hp) (E : XK), Rm k (A.deeper (lamEnv X scope s.heap.objs.size f c')) → PE (lamCx X A outer s H E scope f c') body (t E))
    (hN : Ng[i]? = some a) (hv : Vis sg a) (hd : (a == ("__debug__" : Str)) = false := by decide) (hcd : (a == ("__classdict__" : Str)) = false := by decide) :
    PE ((cxOf CXg X.prog X.w X.K X.mg X.base Ng qg sg g cdg X.A X.stack s H Eg).tr pn xe) (.Call (.Name a p1) [] [] p2)
      (fun σZ HZ Q => σZ[i]? = some (some (.ref f)) ∧ HZ c' = some (CodeO c' (X.env.qual ++ "<lambda>")) ∧ t (WE W σZ) σ HZ Q) := by
  constructor
  rintro pinsZ sZ σZ HZ Q IZ ⟨hs, hc, ht⟩
  have look := (pe_var (pos := p1) (i := i) hN hv hd hcd).run pinsZ sZ σZ HZ (fun v H1 => v = .ref f ∧ H1 = HZ) IZ ⟨.ref f, hs, rfl, rfl⟩
  refine wpAny_Call_Name_kw (thn look ?_)
  rintro u s1 ⟨v, H1, I1, r1, rfl, rfl⟩
  obtain rfl : u = Value.ref f := r1
  have stands : s1.heap.get? f = some (PySem.W.kla_obj "<lambda>" (X.env.qual ++ "<lambda>") params body scope (cloFrom X.env.cells scope.names []) pm c' ctv) := I1.base.keep f _ hf hfn hfr (fun z => nomatch (show f ∈ ([] : List Addr) from z))
  have un : Un (frs X.stack) [] H H1 s.heap s1.heap := I1.base
  obtain ⟨⟨oc, vs, tt, hoc, hdc, hvc⟩, _, _⟩ := I1.hok c' _ hc
  refine PySem.W.callWith_F0 ⟨_, _, _, _, stands⟩ ?_
  have pass : PassesAt (L2.CX X.prog X.w) ((cxOf CXg X.prog X.w X.K X.mg X.base Ng qg sg g cdg X.A X.stack s H Eg).tr pn xe) σZ (WE W σZ) := passAt tk σZ
  have rc : codeAny (model X.prog X.w) (X.A.deeper (envOfC qg sg s.heap.objs.size g cdg)) (.call (.ref f) ⟨[], []⟩) (CR (L2.CX X.prog X.w) (envOfC qg sg s.heap.objs.size g cdg :: X.stack) X.prog X.w H1 s1 Q (WE W σZ)) s1 := by
    refine PySem.W.kla_callFunE hr.room.depth stands rfl L.co L.gen rfl ⟨c', oc, vs, tt, rfl, hoc, hdc, hvc⟩ ?_
    rw [hbind]
    refine wpAny_pure (wpAny_newFunctionEnv (fun y hy => (L.own y hy).2) (fun y hy => absurd hy (by simp)) (fun h₁ hns hsb => ⟨I1.nolimit.fresh _ hsb, ?_⟩) L.kind)
    show codeAny _ _ (.expr body (lamEnv X scope s1.heap.objs.size f c')) _ _
    have kept : ∀ b o, s1.heap.get? b = some o → h₁.get? b = some o := fun b o e => hsb.extBut b o (Nat.ne_of_lt (Heap.lt_size e)) (Heap.get?_push_of_some _ e)
    have J : Inv (lamCx X (X.A.deeper (envOfC qg sg s.heap.objs.size g cdg)) (envOfC qg sg s.heap.objs.size g cdg :: X.stack) s1 H1 (WE W σZ) scope f c') [] σ H1 { s1 with heap := h₁, toks := s1.toks + ([] : List (Str × Value)).length } := lam_start2 I L I1.env0 hr.room.hd un hns kept
    refine PySem.W.kla_codeExpr (wpAny_mono ((hbody _ _ s1 H1 (WE W σZ) (hr.deeper _)).run [] _ _ H1 Q J ht) ?_ fun e s' hq => hq)
    rintro v s' ⟨w', H', J', rv, q⟩
    exact ⟨w', H', J'.os, J'.bare, J'.base, J'.hok, rv, q⟩
  refine wpAny_call (codeAny_mono rc ?_)
  rintro (e | fl) s' hq
  · exact pass pinsZ H1 s1 e s' I1 hq
  · cases fl with
    | ret u => exact I1.after hq
    | next | brk | cont => exact False.elim hq
end
/-- a def that calls what it gets, in a try: TT is what it makes of that -/
structure LamTo (P : Program) (w : World) (K : PySem.W.Frag) (mg : Str → Option Value) (base : Heap) (x a : Str) (k : Nat) (TT : (XK → Hp → VK → Prop) → Hp → VK → Prop) : Prop where
  ex : ∃ (g : Addr) (pg : Arguments) (bg : List Stmt) (sg : Scope) (dV kV doc pm cdv ct oc : Value) (an od : Option Addr) (osl : Array (Option Value)) (Ng : List Str),
    mg x = some (.ref g) ∧ PySem.W.keepIn K (.ref g) = true ∧ K.lookup g = some ⟨oc, od, .func (PySem.W.fnOf x x pg bg sg dV kV doc pm an cdv ct), osl⟩ ∧ PySem.W.codeIn K cdv x = true ∧ L2.Binds K (PySem.W.fnOf x x pg bg sg dV kV doc pm an cdv ct) [a] [] ∧
    FnScope Ng [a] sg ∧ Ng[0]? = some a ∧ Vis sg a ∧
    ∀ (A : Around) (stack : List Env) (s : Shared) (H : Hp) (f : Addr) (Q : VK) (tl : XK → Hp → VK → Prop) (ok : Hp → Prop), Rm k (A.deeper (envOfC x sg s.heap.objs.size g cdv)) →
      (∀ (W : WX) (pn : List (Addr × Obj)) (xe : Value → Shared → Prop) (p1 p2 : Pos), Takes ((cxOf CX0 P w K mg base Ng x sg g cdv A stack s H E0).tr pn xe) W →
        PE ((cxOf CX0 P w K mg base Ng x sg g cdv A stack s H E0).tr pn xe) (.Call (.Name a p1) [] [] p2) (fun σZ HZ Q => σZ[0]? = some (some (.ref f)) ∧ ok HZ ∧ tl (WE W σZ) HZ Q)) →
      ok H → TT tl H Q → ∃ t, PSs (cxOf CX0 P w K mg base Ng x sg g cdv A stack s H E0).nox bg t ∧ t { nx := fun _ H' => Q .non H', rt := Q } (L2.start Ng [.ref f]) H
def tLamT (T : List (Addr × Str)) (TT : (XK → Hp → VK → Prop) → Hp → VK → Prop) (t : XK → TE) : TE := fun σ H Q => Tabs T H ∧ ∀ H1, ExtN H H1 → Tabs T H1 → TT (fun E H' Q' => t E σ H' Q') H1 Q
/-- x(lambda: body) -/
theorem pe_lamto {X : Cx} (n : Nat) {T : List (Addr × Str)} {TT : (XK → Hp → VK → Prop) → Hp → VK → Prop} {x a : Str} {c P : Addr} {k : Nat} {params : Arguments} {body : Expr} {scope : Scope} {t : XK → TE} {p lpos pos : Pos}
    (M : LamTo X.prog X.w X.K X.mg X.base x a k TT) (hg : Gl X x) (TB : TabB X.base X.mg c P) (hcode : X.env.code = .ref c) (hmT : (P, X.env.qual ++ "<lambda>") ∈ T) (hu : ∀ p ∈ T, p.1 = P → p.2 = X.env.qual ++ "<lambda>")
    (hr : Rm (n + 2) X.A) (hk : k ≤ n + 1) (L : LamS X.env.scope scope) (hdef : defaultsOf params X.env = ([], []))
    (hbind : ∀ (q : Str) (cl : List (Str × Addr)) (pm cv ctv : Value), bindArgs (PySem.W.kla_fn "<lambda>" q params body scope cl pm cv ctv) ⟨[], []⟩ = pure [])
    (hbody : ∀ (A : Around) (outer : List Env) (s : Shared) (H : Hp) (E : XK) (f c' : Addr), Rm n (A.deeper (lamEnv X scope s.heap.objs.size f c')) → PE (lamCx X A outer s H E scope f c') body (t E))
    (hdb : (x == ("__debug__" : Str)) = false := by decide) (hd : (a == ("__debug__" : Str)) = false := by decide) (hcd : (a == ("__classdict__" : Str)) = false := by decide) :
    PE X (.Call (.Name x p) [.Lambda params body scope lpos] [] pos) (tLamT T TT t) := by
  constructor
  rintro pins s σ H Q I ⟨hT, h⟩
  obtain ⟨g, pg, bg, sg, dV, kV, doc, pm, cdv, ct, oc, an, od, osl, Ng, hm, hkp, lk, hcg, hb, Sg, hNg, hva, gives⟩ := M.ex
  refine wpAny_Call_Name_kw (ld_glob I hg hm ?_ hdb)
  refine PySem.W.callWith_K (h₀ := X.base) I.ok.mod.kin hkp ?_ (by rfl) (by rfl)
  show wpAny _ _ (spliced ((false, eval (.Lambda params body scope lpos) X.env) :: backTo pos (starEach [] X.env))) _ _ s
  refine Calls.spliced_cons (lam_make2 I TB hcode hmT hu hT hdef (L.has I.ok) ?_)
  intro f c' pm' ctv H1 s' I1 eN T1 hf hfn hfr hco
  refine Calls.spliced_nil ⟨I1.kIn, ?_⟩
  have rc : codeAny (model X.prog X.w) X.A (.call (.ref g) ⟨[.ref f], []⟩) (CR CX0 X.stack X.prog X.w H1 s' Q E0) s' := by
    refine LamX.run_ofS (k := n) (N := Ng) (ps := [a]) (us := [.ref f]) (vs := [.ref f]) lk hcg Sg (hr.room.mono (by omega)) I1.env0 (hb s' [.ref f] I1.kIn rfl) (.cons rfl .nil) rfl fun _ => ?_
    obtain ⟨t', ht', hq'⟩ := gives X.A X.stack s' H1 f Q (fun E H' Q' => t E σ H' Q') (fun HZ => HZ c' = some (CodeO c' (X.env.qual ++ "<lambda>"))) ((hr.deeper _).mono hk)
      (fun W pn xe p1 p2 tk => pe_act2 (i := 0) I1 L hf hfn hfr (hbind _ _ _ _ _) tk (hr.deeper _) (fun A outer s H E hr2 => hbody A outer s H E f c' hr2) hNg hva hd hcd) hco (h H1 eN T1)
    exact ⟨t', ht'.nox, hq'⟩
  refine wpAny_call (codeAny_mono rc ?_)
  rintro (e | fl) s2 hq
  · exact (show False from hq).elim
  · cases fl with
    | ret u => exact I1.after hq
    | next | brk | cont => exact False.elim hq
/-! how many of a list's flat things are equal -/
def rCountF (K : PySem.W.Frag) : V → List V → Hp → VK → Prop := fun x xs H Q => ∃ (a : Addr) (ys : List V) (y : V), x = V.ref a ∧ xs = [y] ∧ SqL K H a ys ∧ flatV y = true ∧ ys.all flatV = true ∧ Q (.int (ys.countP fun z => eqV z y : Nat)) H
section
variable {X : Cx}
theorem countF_its {H : Hp} {y : V} {uy : Value} : ∀ {ys : List V} {its : List Value}, Vals ys its → ys.all flatV = true → its.countP (eqU y) = ys.countP fun z => eqV z y
  | [], [], _, _ => rfl
  | z :: ys, u :: its, .cons r rs, f => by
    obtain ⟨f1, f2⟩ := Bool.and_eq_true_iff.mp f
    rw [List.countP_cons, List.countP_cons, countF_its (H := H) (uy := uy) rs f2, eqU_of r f1]
theorem mt_countF (K : PySem.W.Frag) (hK : X.K = K := by rfl) : MtR X "list.count" (rCountF K) := by
  subst hK
  intro pins s σ H x xs v us Q I rx rxs h
  obtain ⟨a, ys, y, rfl, rfl, hs, fy, fys, q⟩ := h
  cases rx
  obtain ⟨uy, rfl, ry⟩ := rxs.one
  obtain ⟨its, rv, ⟨⟨cls, dd, data, sl⟩, n, ho, hc, hdn, hd⟩, hlen⟩ := I.list hs
  simp only at hc hd
  subst hc hd
  refine call_meets PySem.F.slot_list_count ⟨_, ho, rfl⟩ PySem.F.entry_list_count (PySem.F.args_list_count_2 _ _) (SeqAt.list_countAt a its.toArray n dd sl uy (eqU y)) ⟨ho, fun u' hu' => mem_eqAt ry fy rv fys u' (by simpa using hu'), ?_⟩
  refine ⟨.int (ys.countP fun z => eqV z y : Nat), H, I.tok _, ⟨s.toks, ?_⟩, q⟩
  show Value.int ((its.toArray.toList.countP (eqU y) : Nat) : Int) s.toks = _
  rw [countF_its (H := H) (uy := uy) rv fys]
end
/-! a def that gets the caught exception, by its name -/
theorem roomHm {j k : Nat} {A : Around} {h : Option Value} (r : Rm k A) (l : j ≤ k) : L2H.RoomH j (A.mark h) := ⟨(r.mono l).room.dp, (r.mono l).room.un⟩
structure CalE (P : Program) (w : World) (K : PySem.W.Frag) (mg : Str → Option Value) (base : Heap) (x : Str) (k : Nat) (ps : List Str) (sp : Value → Option Addr → Addr → Sp) : Prop where
  ex : ∃ (f : Addr) (fd : FuncData), (∀ cls d, FnE P w K mg base CX0 k f fd ps cls d (sp cls d)) ∧ mg x = some (.ref f) ∧ PySem.W.keepIn K (.ref f) = true ∧ L2.Binds K fd ps []
section
variable {X : Cx} {k : Nat} {ps : List Str} {sp : Value → Option Addr → Addr → Sp} {x : Str} {q pos : Pos} {e : Expr} {es : List Expr} {t : TA} {a : Addr} {oe : Obj} {cls : Value} {d : Option Addr}
theorem pe_callE2 (C : CalE X.prog X.w X.K X.mg X.base x k ps sp) (hr : L2H.RoomH k X.A) (hp : (a, oe) ∈ X.pn) (hz : Zc cls d oe) (hf : ∃ vs, oe.data = .fields vs) (hg : Gl X x) (ha : PA X (e :: es) t) (hdb : (x == ("__debug__" : Str)) = false := by decide)
    (he : starEach (e :: es) X.env = (false, eval e X.env) :: starEach es X.env := by rfl) (hpl : (backTo pos (starEach es X.env)).any (·.1) = false := by rfl) : PE X (.Call (.Name x q) (e :: es) [] pos) (tCallE d (sp cls d a) t) := by
  obtain ⟨f, fd, F, hm, hk, hb⟩ := C.ex
  exact pe_callE (F cls d) hr hp hz hf hg hm hk hb ha hdb he hpl
end
end Cl

/-! ### ClLamEnd: defs that make lambdas; the law's own call where some of its defs do -/
namespace Cl
open PySem PySem.Spec PyProof.Rows L2
open LamX (CodeO TabS Tabs ExtN TabB)
/-- a def whose code object is at c -/
structure FunL (K : PySem.W.Frag) (x qual : Str) (st : Stmt) (f : Addr) (fd : FuncData) (c : Addr) : Prop where
  ex : ∃ (oc : Value) (od : Option Addr) (kV doc pm : Value) (an : Option Addr) (ct : Value) (osl : Array (Option Value)),
    fd = PySem.W.fnOf x qual (defArgs st) (defBody st) (defScope st) .none kV doc pm an (.ref c) ct ∧ K.lookup f = some ⟨oc, od, .func fd, osl⟩ ∧ PySem.W.codeIn K (.ref c) qual = true
section
variable {P : Program} {w : World} {K : PySem.W.Frag} {mg : Str → Option Value} {base : Heap}
theorem funl_mk {x qual : Str} {st : Stmt} {f c : Addr} {oc kV doc pm cd ct : Value} {od an : Option Addr} {osl : Array (Option Value)} (l : K.lookup f = some ⟨oc, od, .func (PySem.W.fnOf x qual (defArgs st) (defBody st) (defScope st) .none kV doc pm an cd ct), osl⟩)
    (h : PySem.W.codeIn K cd qual = true) (e : cd = .ref c) : FunL K x qual st f (PySem.W.fnOf x qual (defArgs st) (defBody st) (defScope st) .none kV doc pm an cd ct) c := by
  subst e
  exact ⟨_, _, _, _, _, _, _, _, rfl, l, h⟩
theorem gn_funL {x qual : Str} {st : Stmt} {f c : Addr} {fd : FuncData} {N ps : List Str} {k : Nat} {sp : Sp} (F : FunL K x qual st f fd c) (S : FnScope N ps (defScope st)) (len : ∀ vs H Q E, sp vs H Q E → vs.length = ps.length)
    (hb : ∀ (A : Around) (out : List Env) (s : Shared) (H : Hp) (vs : List V) (Q : VK) (E : XK), Rm k (A.deeper (envOfC qual (defScope st) s.heap.objs.size f (.ref c))) → sp vs H Q E →
      ∃ t, PSs (cxOf CX0 P w K mg base N qual (defScope st) f (.ref c) A out s H E).nox (defBody st) t ∧ t { nx := fun _ H' => Q .non H', rt := Q } (start N vs) H) : GnOk P w K mg base CX0 (k + 1) f fd ps sp := by
  obtain ⟨oc, od, kV, doc, pm, an, ct, osl, rfl, lk, hc⟩ := F.ex
  refine gn_of lk hc S len fun A out s H vs Q E hr hs => ?_
  obtain ⟨t, h1, h2⟩ := hb A out s H vs Q E hr hs
  exact ⟨t, h1.nox, h2⟩
end
/-- gn_law with tables: cs, the code objects and their tables -/
theorem gn_lawT {P : Program} {w : World} {K : PySem.W.Frag} {mg mb : Str → Option Value} {CX : CXT} {k : Nat} {fa a : Addr} {cs : List (Addr × Addr)} {fd : FuncData} {x : Str} {sp : Sp} {t : Shared} {vs : List Value} {ns : List Int}
    (inK : K.In t.heap) (gl : t.heap.Ns mainGlobals mg) (bl : t.heap.Ns builtinsNs mb) (bb : ∀ y : Str, y ≠ "__name__" → mb y = bootBuiltins y) (nolim : t.heap.NoLimit) (gens : t.gens = #[])
    (hT : ∀ p ∈ cs, t.heap.get? p.2 = some { cls := .none, data := .fields #[] }) (nT : ∀ p ∈ cs, K.lookup p.2 = none) (hC : ∀ p ∈ cs, PySem.W.CodeHd t.heap p.1 p.2)
    (hbm : ∃ (bm : Addr) (ob : Obj), mg "__builtins__" = some (.ref bm) ∧ bm ≠ builtinsNs ∧ t.heap.get? bm = some ob ∧ ob.cls = .type "module" ∧ ob.dict = some builtinsNs ∧ ob.data = .plain)
    (ha : t.heap.get? a = some { cls := .type "list", data := .seq vs.toArray }) (hin : IntsAre vs ns) (small : ns.length ≤ sizeLine) (hr : Room k callerA)
    (F : ∀ base : Heap, K.In base → base.Ns mainGlobals mg → (∀ p ∈ cs, TabB base mg p.1 p.2) → GnOk P w K mg base CX k fa fd [x] sp) (bd : ∀ (s : Shared) (u : Value), BindsTo s fd ⟨[u], []⟩ [(x, u)])
    (hsp : ∀ H : Hp, (∀ p ∈ cs, H p.2 = some (.tbl #[])) → SqL K H a (ns.map V.int) → sp [.ref a] H (fun v _ => v = .bl true) fun _ _ _ => False) (hx : ∀ H e s', CX [] H t (fun _ _ _ => False) e s' → False) :
    codeAny (model P w) callerA (.call (.ref fa) ⟨[.ref a], []⟩) (fun r s' => r = .ok (.ret (.bool true)) ∧ OldK t.heap s'.heap ∧ s'.os = t.os ∧ AllBare s'.gens) t := by
  have rel := vals_ints hin
  have same := hin.length
  obtain ⟨isT, eT⟩ : ∃ isT : Addr → Prop, isT = fun b => b ∈ cs.map (·.2) := ⟨_, rfl⟩
  have tabAt : ∀ b, isT b → t.heap.get? b = some { cls := .none, data := .fields #[] } := by
    intro b hb
    rw [eT] at hb
    obtain ⟨p, hp, rfl⟩ := List.mem_map.mp hb
    exact hT p hp
  have ofT : ∀ p ∈ cs, isT p.2 := fun p hp => by rw [eT]; exact List.mem_map.mpr ⟨p, hp, rfl⟩
  have notT : ¬ isT a := fun z => by
    have q := tabAt a z
    rw [ha] at q
    exact nomatch (show Data.seq vs.toArray _ = Data.fields #[] from congrArg Obj.data (Option.some.inj q))
  -- what is tracked: the tables, and the script where the top doesn't know it
  obtain ⟨H, hH, hS, ok, only, apart⟩ : ∃ H : Hp, (∀ p ∈ cs, H p.2 = some (.tbl #[])) ∧ SqL K H a (ns.map V.int) ∧ HOk P w H t.heap ∧
      (∀ b u, H b = some u → (isT b ∧ u = .tbl #[]) ∨ (b = a ∧ ∃ o, u = .frz o (.lst (ns.map V.int)))) ∧ (∀ u, H a = some u → K.lookup a = none) := by
    classical
    obtain ⟨G, hG⟩ : ∃ G : Hp, G = fun b => if isT b then some (.tbl #[]) else none := ⟨_, rfl⟩
    have gT : ∀ b, isT b → G b = some (.tbl #[]) := fun b hb => by rw [hG]; exact if_pos hb
    have gN : ∀ b, ¬ isT b → G b = none := fun b hb => by rw [hG]; exact if_neg hb
    have gO : ∀ b u, G b = some u → isT b ∧ u = .tbl #[] := fun b u z => by
      by_cases hb : isT b
      · rw [gT b hb] at z
        exact ⟨hb, (Option.some.inj z).symm⟩
      · rw [gN b hb] at z
        cases z
    have gK : ∀ b u, G b = some u → ObjOk P w G t.heap b u := fun b u z => by
      obtain ⟨hb, rfl⟩ := gO b u z
      exact tabAt b hb
    cases q : K.lookup a with
    | some o =>
      have e := inK a o q
      rw [ha] at e
      cases e
      exact ⟨G, fun p hp => gT _ (ofT p hp), .inr ⟨_, vs.toArray, _, q, rfl, rfl, rfl, by rw [List.size_toArray, same]; exact small, by simpa using rel⟩, gK, (fun b u z => .inl (gO b u z)), fun u z => by rw [gN a notT] at z; cases z⟩
    | none =>
      refine ⟨upd G a (.frz { cls := .type "list", data := .seq vs.toArray } (.lst (ns.map V.int))), fun p hp => ?_, .inl (.inr ⟨_, upd_same⟩), fun b u z => ?_, fun b u z => ?_, fun _ _ => rfl⟩
      · rw [upd_ne (fun e => notT (by rw [← e]; exact ofT p hp))]
        exact gT _ (ofT p hp)
      · by_cases hb : b = a
        · subst hb
          rw [upd_same] at z
          cases z
          exact ⟨ha, by rw [List.length_map]; exact small, vs, _, rel, ha⟩
        · rw [upd_ne hb] at z
          obtain ⟨hb2, rfl⟩ := gO b u z
          exact tabAt b hb2
      · by_cases hb : b = a
        · subst hb
          rw [upd_same] at z
          cases z
          exact .inr ⟨rfl, _, rfl⟩
        · rw [upd_ne hb] at z
          exact .inl (gO b u z)
  have free : ∀ {b : Addr} {o : Obj}, t.heap.get? b = some o → (∀ xs n, o.data ≠ .seq xs n) → o.data ≠ .fields #[] → H b = none := by
    intro b o e n1 n2
    cases z : H b with
    | none => rfl
    | some u =>
      rcases only b u z with ⟨hb, _⟩ | ⟨rfl, _⟩
      · rw [tabAt b hb] at e
        cases e
        exact (n2 rfl).elim
      · rw [ha] at e
        cases e
        exact (n1 _ _ rfl).elim
  have hid : ∀ {b : Addr} {o : Obj}, t.heap.get? b = some o → H b = none → (hidT t.heap H).get? b = some o := fun e n => hidT_get e n
  have nsH : ∀ {b : Addr} {m : Str → Option Value}, t.heap.Ns b m → (hidT t.heap H).Ns b m := by
    rintro b m ⟨o, es, ep, e, d, r⟩
    refine ⟨o, es, ep, hid e (free e (fun xs n z => ?_) fun z => ?_), d, r⟩ <;> (rw [d] at z; cases z)
  have inH : K.In (hidT t.heap H) := by
    intro b o e
    refine hid (inK b o e) ?_
    cases z : H b with
    | none => rfl
    | some u =>
      rcases only b u z with ⟨hb, _⟩ | ⟨rfl, _⟩
      · rw [eT] at hb
        obtain ⟨p, hp, rfl⟩ := List.mem_map.mp hb
        rw [nT p hp] at e
        cases e
      · rw [apart u z] at e
        cases e
  have TB : ∀ p ∈ cs, TabB (hidT t.heap H) mg p.1 p.2 := by
    intro p hp
    have atP := hT p hp
    refine ⟨?_, ?_, fun z => ?_⟩
    · obtain ⟨o, us, file, tf, flags, tg, inF, text, tt, e1, r1, r2, r3, r⟩ := hC p hp
      refine ⟨o, us, file, tf, flags, tg, inF, text, tt, hid e1 (free e1 (fun xs n z => ?_) fun z => ?_), r1, r2, r3, r⟩
      · rw [r2] at z
        cases z
      · rw [r2] at z
        cases z
        cases r3
    · obtain ⟨bm, ob, b1, b2, b3, b4, b5, b6⟩ := hbm
      refine ⟨bm, ob, b1, b2, fun e => ?_, fun e => ?_, hid b3 (free b3 (fun xs n z => ?_) fun z => ?_), b4, b5, b6⟩
      · obtain ⟨o, es, ep, e1, d, _⟩ := gl
        rw [e, e1] at b3
        cases b3
        rw [d] at b6
        cases b6
      · rw [e, atP] at b3
        cases b3
        cases b6
      · rw [b6] at z
        cases z
      · rw [b6] at z
        cases z
    · obtain ⟨o, es, ep, e1, d, _⟩ := gl
      rw [z, atP] at e1
      cases e1
      cases d
  obtain ⟨mc, c1, c2⟩ := nolim
  have md : Mod K mg (hidT t.heap H) := ⟨inH, nsH gl, ⟨mb, nsH bl, bb⟩, ⟨mc, nsH c1, c2⟩⟩
  have e0 : Env0 P w K mg (hidT t.heap H) callerA [] t H := ⟨rfl, md, fun b o e => of_hidT e, Nat.le_of_eq (hidT_size _ _), trivial, fun b hb => (List.not_mem_nil (show b ∈ ([] : List Addr) from hb)).elim, ok, .of_eq gens⟩
  refine codeAny_mono ((F _ inH (nsH gl) TB).run callerA [] t H ⟨[.ref a], []⟩ [.ref a] [.ref a] _ _ ⟨hr, rfl⟩ e0 (bd t (.ref a)) (.cons rfl .nil) (hsp H hH hS)) ?_
  rintro (e | fl) s' h
  · exact (hx H e s' h).elim
  cases fl with
  | next | brk | cont => exact h.elim
  | ret u =>
    obtain ⟨v, H1, os, bare, un, ok1, r1, q⟩ := h
    obtain rfl : v = .bl true := q
    obtain rfl : u = Value.bool true := r1
    have stays : ∀ b o, ¬ isT b → t.heap.get? b = some o → s'.heap.get? b = some o := by
      intro b o nb e
      cases z : H b with
      | none => exact un.keep b o e z (List.not_mem_nil (a := b)) (List.not_mem_nil (a := b))
      | some u =>
        rcases only b u z with ⟨hb, _⟩ | ⟨rfl, ob, rfl⟩
        · exact absurd hb nb
        · have e1 := (ok b _ z).1
          have e2 := (ok1 b _ (un.frzs b ob _ z)).1
          rw [e] at e1
          cases e1
          exact e2
    have grown : ∀ p ∈ cs, ∃ more : Array Value, s'.heap.get? p.2 = some { cls := .none, data := .fields more } := fun p hp => by
      obtain ⟨more, z⟩ := un.tbls p.2 #[] (hH p hp)
      exact ⟨_, ok1 p.2 _ z⟩
    refine ⟨rfl, ⟨fun b o e => ?_, fun b o e => ?_⟩, os, bare⟩
    · by_cases hb : isT b
      · rw [eT] at hb
        obtain ⟨p, hp, rfl⟩ := List.mem_map.mp hb
        obtain ⟨more, hm⟩ := grown p hp
        rw [hT p hp] at e
        cases e
        exact .inr (.inl ⟨((hC p hp).tab (hT p hp)).isCodeTable, rfl, #[], more, rfl, by rw [Array.empty_append]; exact hm⟩)
      · exact .inl (stays b o hb e)
    · by_cases hb : isT b
      · rw [eT] at hb
        obtain ⟨p, hp, rfl⟩ := List.mem_map.mp hb
        obtain ⟨more, hm⟩ := grown p hp
        exact ⟨_, hm⟩
      · exact ⟨o, stays b o hb e⟩
theorem gn_walkT {l : PySem.W.OpenLaw} {n k : Nat} {q : Program} {loose : List Str} {XP : (Str → Option Value) → Heap → Prop} {YP : World → Heap → Prop} {d : DefRec} {K : Params → PySem.W.Frag} {CX : World → CXT} {x : Str}
    (hn : l.most = some n) (hn2 : n ≤ sizeLine) (hdf : d.params.defaults = []) (hr : Room k callerA) (hY : ∀ (w : World) (h : Heap), YP w h → (K w.params).In h)
    (F : ∀ (w : World) (mg : Str → Option Value) (fa : Addr) (h : Heap), YP w h → (K w.params).In h → h.Ns mainGlobals mg → mg d.name = some (.ref fa) →
      ∃ (fd : FuncData) (cs : List (Addr × Addr)) (sp : Sp), (∀ p ∈ cs, h.get? p.2 = some { cls := .none, data := .fields #[] }) ∧ (∀ p ∈ cs, (K w.params).lookup p.2 = none) ∧ (∀ p ∈ cs, PySem.W.CodeHd h p.1 p.2) ∧ (∀ (s : Shared) (u : Value), BindsTo s fd ⟨[u], []⟩ [(x, u)]) ∧
        (∀ (H : Hp) (a : Addr) (ns : List Int), ns.length ≤ n → (∀ p ∈ cs, H p.2 = some (.tbl #[])) → SqL (K w.params) H a (ns.map V.int) → sp [.ref a] H (fun v _ => v = .bl true) fun _ _ _ => False) ∧
        ∀ base : Heap, (K w.params).In base → base.Ns mainGlobals mg → (∀ p ∈ cs, TabB base mg p.1 p.2) → GnOk l.prog w (K w.params) mg base (CX w) k fa fd [x] sp)
    (hx : ∀ (w : World) (H : Hp) (s : Shared) (e : Value) (s' : Shared), CX w [] H s (fun _ _ _ => False) e s' → False) : PySem.W.WalkO q loose XP YP l.row.toRowW d [] (fun f vs => PySem.call f vs) := by
  refine Att.attach_call hn hdf ?_
  intro w s₀ t mg mb fa o pm cd doc a vs ns G Y _ _ _ hmg hobj hints hlen hg
  obtain ⟨fd, cs, sp, h1, h2, h3, hb, hs, hF⟩ := F w mg fa _ Y (hY w _ Y) G.T.g hmg
  exact gn_lawT (hY w _ Y) G.T.g G.T.b G.T.builtins G.T.nolimit hg h1 h2 h3 G.T.bmain hobj hints (Nat.le_trans hlen hn2) hr hF hb (fun H hH hS => hs H a ns hlen hH hS) fun H e s' => hx w H t e s'
/-! defs with defaults -/
structure FunV (K : PySem.W.Frag) (x qual : Str) (st : Stmt) (f : Addr) (fd : FuncData) : Prop where
  ex : ∃ (oc : Value) (od : Option Addr) (dV kV doc pm : Value) (an : Option Addr) (cdv ct : Value) (osl : Array (Option Value)),
    fd = PySem.W.fnOf x qual (defArgs st) (defBody st) (defScope st) dV kV doc pm an cdv ct ∧ K.lookup f = some ⟨oc, od, .func fd, osl⟩ ∧ PySem.W.codeIn K cdv qual = true
section
variable {P : Program} {w : World} {K : PySem.W.Frag} {mg : Str → Option Value} {base : Heap}
theorem gn_funXV {x qual : Str} {st : Stmt} {f : Addr} {fd : FuncData} {N ps : List Str} {k : Nat} {sp : Sp} (F : FunV K x qual st f fd) (S : FnScope N ps (defScope st)) (len : ∀ vs H Q E, sp vs H Q E → vs.length = ps.length)
    (hb : ∀ (cdv : Value) (A : Around) (out : List Env) (s : Shared) (H : Hp) (vs : List V) (Q : VK) (E : XK), Rm k (A.deeper (envOfC qual (defScope st) s.heap.objs.size f cdv)) → sp vs H Q E →
      ∃ t, PSs (cxOf (L2.CX P w) P w K mg base N qual (defScope st) f cdv A out s H E) (defBody st) t ∧ t { nx := fun _ H' => Q .non H', rt := Q } (start N vs) H) : GnOk P w K mg base (L2.CX P w) (k + 1) f fd ps sp := by
  obtain ⟨oc, od, dV, kV, doc, pm, an, cdv, ct, osl, rfl, lk, hc⟩ := F.ex
  exact gn_of lk hc S len fun A out s H vs Q E hr hs => hb cdv A out s H vs Q E hr hs
theorem kb_dflt {x qual : Str} {params : Arguments} {body : List Stmt} {scope : Scope} {D : Addr} {kV doc pm cdv ct : Value} {an : Option Addr} {o : Obj} {its : List Value} {m n : Nat} {ps ks : List Str} (lD : K.lookup D = some o) (oD : o.data = .seq its.toArray m)
    (gu : List Value → List Value → List Value) (gv : List V → List V → List V) (hrel : ∀ {vs zs : List V} {us ws : List Value}, Vals vs us → Vals zs ws → Vals (gv vs zs) (gu us ws))
    (h : ∀ us ws : List Value, us.length = n → ws.length = ks.length → ∃ k, bindArgs (PySem.W.fnOf x qual params body scope (.ref D) kV doc pm an cdv ct) ⟨us, ks.zip ws⟩ = seqItems? (.ref D) >>= k ∧ k (some its.toArray) = pure (ps.zip (gu us ws))) :
    KBn K (PySem.W.fnOf x qual params body scope (.ref D) kV doc pm an cdv ct) ps n ks gu gv := by
  refine ⟨fun s us ws X l1 l2 => ?_, fun r1 r2 => hrel r1 r2⟩
  obtain ⟨k, e1, e2⟩ := h us ws l1 l2
  refine BindsTo.of_looks fun M => ?_
  rw [e1]
  exact looks_items X lD oD (.of_pure e2)
end
theorem kb_kwd {K : PySem.W.Frag} {x qual : Str} {params : Arguments} {body : List Stmt} {scope : Scope} {D : Addr} {doc pm cdv ct : Value} {an : Option Addr} {n : Nat} {ps ks : List Str} {q : Str × Value} (lq : PySem.W.nsIn K D q.1 = some (some q.2))
    (gu : List Value → List Value → List Value) (gv : List V → List V → List V) (hrel : ∀ {vs zs : List V} {us ws : List Value}, Vals vs us → Vals zs ws → Vals (gv vs zs) (gu us ws))
    (h : ∀ us ws : List Value, us.length = n → ws.length = ks.length → KwChain D [q] (bindArgs (PySem.W.fnOf x qual params body scope .none (.ref D) doc pm an cdv ct) ⟨us, ks.zip ws⟩) (ps.zip (gu us ws))) :
    KBn K (PySem.W.fnOf x qual params body scope .none (.ref D) doc pm an cdv ct) ps n ks gu gv := by
  refine ⟨fun s us ws X l1 l2 => BindsTo.of_looks fun M => KwChain.looks X (fun p hp => ?_) (h us ws l1 l2), fun r1 r2 => hrel r1 r2⟩
  rw [List.mem_singleton.mp hp]
  exact lq
/-- the law's promise, where its defs make lambdas -/
def sp_lawT (K : PySem.W.Frag) (T : List (Addr × Str)) : Sp := fun vs H Q _ => ∃ (a : Addr) (ns : List Int), vs = [.ref a] ∧ SqL K H a (ns.map V.int) ∧ ns.length ≤ 63 ∧ Tabs T H ∧ ∀ H', Q (.bl true) H'
/-! what is new since H0 (or was a table) may change -/
def NwT (H0 : Hp) (b : Addr) : Prop := ∀ o, H0 b = some o → ∃ ps, o = .tbl ps
theorem NwT.of {H0 H : Hp} {b : Addr} (e : ExtN H0 H) (n : H b = none) : NwT H0 b := fun o q => Classical.byContradiction fun z => by
  rw [e _ _ q (fun ps h => z ⟨ps, h⟩)] at n
  cases n
theorem ext_same {H0 H1 H2 : Hp} (e : ExtN H0 H1) (s : Same H1 H2) : ExtN H0 H2 := fun b o h m => s b o (e b o h m)
theorem ext_but {H0 H1 H2 : Hp} {p : Addr} (e : ExtN H0 H1) (n : NwT H0 p) (s : SameBut p H1 H2) : ExtN H0 H2 := fun b o h m => s b o (e b o h m) fun q => by
  obtain ⟨ps, z⟩ := n o (by rw [← q]; exact h)
  exact m ps z
theorem codeO_lst {c : Addr} {q : Str} {xs : List V} : CodeO c q ≠ .lst xs := fun z => by
  unfold CodeO at z
  cases z
theorem codeO_ins {c : Addr} {q : Str} {C : Addr} {dx : Addr} {fs : List (Str × V)} : CodeO c q ≠ .ins C dx fs := fun z => by
  unfold CodeO at z
  cases z
theorem tabs_butO {T : List (Addr × Str)} {H1 H2 : Hp} {p : Addr} {o : HO} (t : Tabs T H1) (h : H1 p = some o) (n1 : ∀ ps, o ≠ .tbl ps) (n2 : ∀ c q, CodeO c q ≠ o) (s : SameBut p H1 H2) : Tabs T H2 := fun r hr => by
  obtain ⟨ps, h1, h2, h3⟩ := t r hr
  refine ⟨ps, s _ _ h1 (fun e => by rw [e, h] at h1; exact n1 _ (Option.some.inj h1)), h2, fun pos cv hc => ?_⟩
  obtain ⟨c, e1, e2⟩ := h3 pos cv hc
  exact ⟨c, e1, s _ _ e2 (fun e => n2 _ _ (Option.some.inj (e2.symm.trans (by rw [e]; exact h))))⟩
theorem tabs_but {T : List (Addr × Str)} {H1 H2 : Hp} {p : Addr} {xs : List V} (t : Tabs T H1) (h : H1 p = some (.lst xs)) (s : SameBut p H1 H2) : Tabs T H2 :=
  tabs_butO t h (fun _ z => by cases z) (fun _ _ => codeO_lst) s
theorem sql_ext {K : PySem.W.Frag} {H0 H1 : Hp} {a : Addr} {xs : List V} (h : SqL K H0 a xs) (e : ExtN H0 H1) : SqL K H1 a xs := by
  rcases h with (h | ⟨o, h⟩) | h
  · exact .inl (.inl (e _ _ h (fun _ z => by cases z)))
  · exact .inl (.inr ⟨o, e _ _ h (fun _ z => by cases z)⟩)
  · exact .inr h
end Cl

/-! ### ClLcX: a comprehension whose element may raise -/
namespace Cl
open PySem PySem.Spec PyProof.Rows L2
theorem frames_less {h B B2 : Heap} (hb : ∀ b, B.get? b = none → B2.get? b = none) : ∀ {l : List Env}, h.FunFrames B l → h.FunFrames B2 l
  | [], _ => trivial
  | _ :: _, ⟨hk, ⟨L, o, hf, hn, ho, hd⟩, hr⟩ => ⟨hk, ⟨L, o, hf, hb _ hn, ho, hd⟩, frames_less hb hr⟩
section
variable {X : Cx} {W : WX} {E : XK} {pins : List (Addr × Obj)} {σ : L2.St} {H3 : Hp} {s3 : Shared} {scope : Scope} {ce : Env} {fp : List Addr}
/-- what a call in the element may let out goes on in the def's own air -/
theorem passB (tk : Takes X W) (hW : ∀ cls d σ H, E cls d H → W cls d σ H) (hs : X.stack = X.env :: X.outer) (hf : X.env.frame = some X.env.locals) (I3 : L2.Inv X pins σ H3 s3) (hcf : ce.frame = X.env.frame) (hcL : ce.locals = s3.heap.objs.size)
    (f3 : ∀ b ∈ fp, FpOk X pins H3 b) : Passes (L2.CX X.prog X.w) ((X.blk s3 H3 scope ce fp).wish (notedBy (model X.prog X.w) X.A ce (CompFails (model X.prog X.w) X.A X.xe ce))) E := by
  intro pins' σ' H' s u s' I c
  obtain ⟨a, B, H2, cls, d, rfl, fl, hok, ub, na, os, ag, hE⟩ := c
  have fl : HandSPX.FlyingZ B X.stack a (Zc cls d) s'.heap := fl
  obtain ⟨G, g1, g2⟩ := restrict s'.heap fun b => (B.get? b).isSome || decide (b ∈ frs X.stack)
  have st : B.StaysIn s'.heap := fl.1
  have gB : ∀ b o, B.get? b = some o → G.get? b = some o := fun b o e => by
    rw [g1 b (by simp [e])]
    exact st b o e
  have gF : ∀ b, b ∈ frs X.stack → G.get? b = s'.heap.get? b := fun b hb => g1 b (by simp [hb])
  have og : ∀ b o, G.get? b = some o → s'.heap.get? b = some o ∧ ((B.get? b).isSome = true ∨ b ∈ frs X.stack) := fun b o e => by
    cases q : ((B.get? b).isSome || decide (b ∈ frs X.stack)) with
    | false => rw [g2 b q] at e; cases e
    | true =>
      rw [g1 b q] at e
      exact ⟨e, by simpa [Bool.or_eq_true] using q⟩
  have ub' : UB (frs X.stack) H' H2 s.heap B s'.heap := ub
  -- the block's state behind the call
  have IB : L2.Inv ((X.blk s3 H3 scope ce fp).wish (notedBy (model X.prog X.w) X.A ce (CompFails (model X.prog X.w) X.A X.xe ce))) pins' σ' H2 { s with heap := G, gens := s'.gens, drawn := s'.drawn, toks := s'.toks } := by
    refine I.call (ch := []) ⟨fun b o e n hb _ => gB b o (ub'.keep b o e n hb), fun b o e n hb _ => ?_, fun b o e n _ => ub'.free b o e n, fun b o e _ => ?_, ub'.tups, ub'.frzs, ub'.tbls⟩ (hok.kept gB) ag (fun _ z => nomatch z)
    · obtain ⟨sl, q⟩ := ub'.slot b o e hb
      exact ⟨sl, by rw [gF b hb]; exact q⟩
    · by_cases hb : b ∈ frs X.stack
      · obtain ⟨sl, q⟩ := ub'.slot b o e hb
        exact ⟨_, by rw [gF b hb]; exact q⟩
      · obtain ⟨o', q⟩ := ub'.there b o e hb
        exact ⟨o', gB b o' q⟩
  have IB2 : L2.Inv (X.blk s3 H3 scope ce fp) pins' σ' H2 { s with heap := G, gens := s'.gens, drawn := s'.drawn, toks := s'.toks } := IB.unwish
  -- the def's
  have ID : L2.Inv X pins σ H2 { s with heap := G, gens := s'.gens, drawn := s'.drawn, toks := s'.toks } := I3.call' (ch := fp) IB2.os IB2.base IB2.hok IB2.bare fun b hb => ⟨(f3 b hb).2.2.2.1, (f3 b hb).2.1, (f3 b hb).2.2.2.2.1, (f3 b hb).2.2.2.2.2⟩
  have nC : H2 s3.heap.objs.size = none := by
    have z : H2 ce.locals = none := IB2.free
    rw [hcL] at z
    exact z
  obtain ⟨f0, f1, f2, f4, f5, f6⟩ := I3.fpOk (Nat.le_refl _) nC
  obtain ⟨m, hn, _⟩ := IB2.loc
  have hn : G.Ns ce.locals m := hn
  obtain ⟨G2, k1, k2⟩ := restrict G fun b => !decide (b = ce.locals)
  obtain ⟨B2, b1, b2⟩ := restrict B fun b => !decide (b = ce.locals)
  have kG : ∀ b o, G2.get? b = some o → b ≠ ce.locals ∧ G.get? b = some o := fun b o e => by
    by_cases q : b = ce.locals
    · rw [k2 b (by simp [q])] at e
      cases e
    · rw [k1 b (by simp [q])] at e
      exact ⟨q, e⟩
  have kB : ∀ b o, B2.get? b = some o → b ≠ ce.locals ∧ B.get? b = some o := fun b o e => by
    by_cases q : b = ce.locals
    · rw [b2 b (by simp [q])] at e
      cases e
    · rw [b1 b (by simp [q])] at e
      exact ⟨q, e⟩
  have lB : ∀ b, B.get? b = none → B2.get? b = none := fun b e => by
    cases q : B2.get? b with
    | none => rfl
    | some o => rw [(kB b o q).2] at e; cases e
  have ID2 : L2.Inv X pins σ H2 { s with heap := G2, gens := s'.gens, drawn := s'.drawn, toks := s'.toks } := by
    rw [hcL] at k1
    exact ID.turned (t' := s'.toks) (h' := G2) (it := s3.heap.objs.size) (fun b o hb e => by rw [k1 b (by simp [hb])]; exact e) f0 f1 f4 f5 f6
  have hfr : X.A.frames = some (X.env :: X.outer) := by rw [I3.ok.frames, hs]
  have fl2 : HandSPX.FlyingZ B2 (X.env :: X.outer) a (Zc cls d) s'.heap := by
    rw [← hs]
    obtain ⟨_, x2, x3, oe, vs, T, oT, ts, y1, y2, y3, y4, y5, y6⟩ := fl
    exact ⟨fun b o e => st b o (kB b o e).2, lB _ x2, frames_less lB x3, oe, vs, T, oT, ts, y1, y2, y3, y4, lB _ y5, y6⟩
  show wpAny (model X.prog X.w) X.A (noteFrame (.ref a) ce) (fun _ s'' => CompFails (model X.prog X.w) X.A X.xe ce (.ref a) s'') (CompFails (model X.prog X.w) X.A X.xe ce) s'
  rw [noteFrame_env _ hcf]
  refine HandSPX.looks_onZ Zc.steady hfr hf fl2 fun h1 held1 up1 => ?_
  have hn1 : h1.Ns ce.locals m := by
    obtain ⟨oL, es, ep, hoL, hdL, r⟩ := hn
    obtain ⟨sl, e⟩ := up1 ce.locals oL (og _ _ hoL).1 fun vs q => by rw [hdL] at q; cases q
    exact ⟨_, es, ep, e, hdL, r⟩
  refine ⟨m, hn1, fun h2 m2 hn2 hs2 => ?_⟩
  obtain ⟨p1, p0, p2, oe, vs, T, oT, ts, he, hc, hd, hv, hbT, hTa, hgT, hdT, h3f⟩ := held1
  have nCl : ∀ b o vs, h1.get? b = some o → o.data = .fields vs → b ≠ ce.locals := fun b o vs e q z => by
    obtain ⟨oL, es, ep, hoL, hdL, _⟩ := hn1
    rw [z, hoL] at e
    injection e with e
    rw [← e, hdL] at q
    cases q
  have he2 : h2.get? a = some oe := (hs2.2 a (nCl _ _ _ he hd)).trans he
  have hT2 : h2.get? T = some oT := (hs2.2 T (nCl _ _ _ hgT hdT)).trans hgT
  have st2 : B2.StaysIn h2 := fun b o e => (hs2.2 b (kB b o e).1).trans (p1 b o e)
  have fr2 : h2.FunFrames B2 (X.env :: X.outer) := Heap.FunFrames.sameBut hs2 hn2 p2
  unfold PySem.passOn
  refine wpAny_bind (wpAny_field he2 hd hv ?_)
  rw [if_neg (show ¬ ((Value.ref T == Value.none) = true) from by simp), hcf, hf]
  refine wpAny_bind (HandSPX.setFlight_onZ (L := X.env.locals) ⟨st2, p0, fr2, oe, vs, T, oT, ts, he2, hc, hd, hv, hbT, hTa, hT2, hdT, h3f⟩ fun h3 held3 up3 => ?_)
  refine wpAny_throw (tk _ _ ⟨a, B2, _, pins, σ, H2, cls, d, rfl, ID2, fun b o e hb => ?_, fun b o e hnf => ?_, .inr (.inr ?_), na, os, ag, hW _ _ _ _ hE⟩)
  · obtain ⟨q1, q2⟩ := kG b o e
    obtain ⟨q3, q4⟩ := og b o q2
    rcases q4 with q4 | q4
    · obtain ⟨o', q5⟩ := Option.isSome_iff_exists.mp q4
      have z := st b o' q5
      rw [q3] at z
      injection z with z
      rw [b1 b (by simp [q1]), q5, z]
    · exact absurd q4 hb
  · obtain ⟨q1, q2⟩ := kG b o e
    obtain ⟨sl1, e1⟩ := up1 b o (og b o q2).1 hnf
    have e2 : h2.get? b = some { o with slots := sl1 } := (hs2.2 b q1).trans e1
    obtain ⟨sl3, e3⟩ := up3 b _ e2 hnf
    exact ⟨sl3, e3⟩
  · rw [hs]
    exact held3
/-- the block of a list comprehension, begun where its iterator stands -/
theorem lcx_core {wi : TI} {g : TG} {tt : TT} {te : TE} {elt tg iter : Expr} {ifs : List Expr} {own : List (Str × Nat)} {pos pos' : Pos} {H : Hp} {s : Shared} {Q : VK} {use : Option (Value → Sem Unit)} {Qf : Value → Shared → Prop}
    (tk : Takes X W) (hW : ∀ cls d σ H, E cls d H → W cls d σ H) (hst : X.stack = X.env :: X.outer) (hf : X.env.frame = some X.env.locals) (hc : X.calm = true) (hN : X.N.Nodup) (I : L2.Inv X pins σ H s) (hi : PI X tg iter wi) (ok : BlkOk X.N X.env.scope scope own)
    (hg : ∀ (s : Shared) (H : Hp) (C : Addr) (cl : List (Str × Addr)) (fp : List Addr) (xe : Value → Shared → Prop), PG ((X.blk s H scope (compEnvC scope cl C X.env) fp).wish xe) tg g)
    (ht : ∀ (s : Shared) (H : Hp) (C : Addr) (cl : List (Str × Addr)) (fp : List Addr) (xe : Value → Shared → Prop), PTs ((X.blk s H scope (compEnvC scope cl C X.env) fp).wish xe) ifs tt)
    (he : ∀ (s : Shared) (H : Hp) (C : Addr) (cl : List (Str × Addr)) (fp : List Addr) (xe : Value → Shared → Prop), Passes (L2.CX X.prog X.w) ((X.blk s H scope (compEnvC scope cl C X.env) fp).wish xe) E → PE ((X.blk s H scope (compEnvC scope cl C X.env) fp).wish xe) elt te)
    (hs : ∀ x, foldedSetIterable iter X.env x = pure x) (h : tLc wi g tt te (own.map (·.2)) σ H Q)
    (hRR : ∀ D ce s' m H', L2.Inv X pins σ H' s' → Q (.ref D) H' → s'.heap.Ns ce.locals m → FpOk X pins H' ce.locals → compEnds (model X.prog X.w) X.A X.xe use Qf (.ref D) ce (.ok .next) s') :
    wpAny (model X.prog X.w) X.A (comprehension (.ListComp elt [⟨tg, iter, ifs, 0⟩] scope pos) scope X.env pos' (newList []) false (eval iter X.env) use) Qf X.xe s := by
  have hfree : ∀ y ∈ scope.names, y.2 = .free → ∃ c, X.env.cells.lookup y.1 = some c := fun y hy e => by
    rcases ok.free y hy e with k | k
    · exact I.ok.has _ (.inl k)
    · exact I.ok.has _ (.inr k)
  refine comprehension_at (use := use) rfl hs (closure_ok hfree) ok.kind (fun y hy e => by rw [ok.uniq y hy, e]) (thn (hi.run pins s σ H _ I h) fun xv s1 hx => thn hx fun itv s2 h2 => ?_)
  obtain ⟨it, fp, tn, J, H2, rfl, I2, T, st2, f2, q⟩ := h2
  refine wpAny_newObj_type (newEnv_comp ?_) (by show 0 ≤ sizeLine; decide)
  generalize hD : s2.heap.objs.size = D
  have hDn : H2 D = none := I2.hok.fresh (Nat.le_of_eq hD)
  obtain ⟨Wv, ⟨m0, w0⟩, turn⟩ := q D hDn
  generalize hs3 : ({ s2 with heap := s2.heap.push { cls := .type "list", data := .seq ([] : List Value).toArray } } : Shared) = s3
  have I3 : L2.Inv X pins σ (upd H2 D (.lst [])) s3 := by
    rw [← hs3]
    refine I2.laid (t' := s2.toks) (fun b o e => Heap.get?_push_of_some _ e) (Nat.le_of_eq hD) ⟨Nat.zero_le _, [], 0, .nil, ?_⟩
    rw [← hD]
    exact Heap.get?_push_size _ rfl
  have e3 : s3.heap = s2.heap.push { cls := .type "list", data := .seq ([] : List Value).toArray } := by rw [← hs3]
  have f3 : ∀ b ∈ fp, FpOk X pins (upd H2 D (.lst [])) b ∧ b < s3.heap.objs.size := fun b hb => by
    obtain ⟨o, eo, _⟩ := T.obj _ _ st2 b hb
    have lt2 : b < s2.heap.objs.size := Heap.lt_size eo
    refine ⟨⟨?_, (f2 b hb).2⟩, by rw [e3, Heap.size_push]; exact Nat.lt_succ_of_lt lt2⟩
    rw [upd_ne (by rw [← hD]; exact Nat.ne_of_lt lt2)]
    exact (f2 b hb).1
  have st3 : tn 0 s3.heap := T.keep _ _ _ st2 fun b _ o e => by rw [e3]; exact Heap.get?_push_of_some _ e
  have I4 := block_start I3 ok hN f3
  have nfp : ∀ b ∈ fp, (upd H2 D (.lst [])) b = none := fun b hb => (f3 b hb).1.1
  have pg := fun xe => hg s3 (upd H2 D (.lst [])) s3.heap.objs.size (cellsFrom (s3.heap.objs.size + 1) scope.names (cloFrom X.env.cells scope.names [])) fp xe
  have pt := fun xe => ht s3 (upd H2 D (.lst [])) s3.heap.objs.size (cellsFrom (s3.heap.objs.size + 1) scope.names (cloFrom X.env.cells scope.names [])) fp xe
  have pe := fun xe => he s3 (upd H2 D (.lst [])) s3.heap.objs.size (cellsFrom (s3.heap.objs.size + 1) scope.names (cloFrom X.env.cells scope.names [])) fp xe
  show codeAny _ _ (.compStart (.ListComp elt [⟨tg, iter, ifs, 0⟩] scope pos) 0 (.ref it) (.ref D) (compEnvC scope (cellsFrom (s3.heap.objs.size + 1) scope.names (cloFrom X.env.cells scope.names [])) s3.heap.objs.size X.env)) (compEnds (model X.prog X.w) X.A X.xe use Qf (.ref D) (compEnvC scope (cellsFrom (s3.heap.objs.size + 1) scope.names (cloFrom X.env.cells scope.names [])) s3.heap.objs.size X.env)) { s3 with heap := pushCells (s3.heap.push { cls := .type "dict", data := .dict #[] }) scope.names }
  have hcf : (compEnvC scope (cellsFrom (s3.heap.objs.size + 1) scope.names (cloFrom X.env.cells scope.names [])) s3.heap.objs.size X.env).frame = X.env.frame := rfl
  have hcL : (compEnvC scope (cellsFrom (s3.heap.objs.size + 1) scope.names (cloFrom X.env.cells scope.names [])) s3.heap.objs.size X.env).locals = s3.heap.objs.size := rfl
  generalize compEnvC scope (cellsFrom (s3.heap.objs.size + 1) scope.names (cloFrom X.env.cells scope.names [])) s3.heap.objs.size X.env = ce at I4 pg pt pe hcf hcL ⊢
  generalize upd H2 D (.lst []) = H3 at I3 I4 pg pt pe w0 nfp f3
  have ps := passB (scope := scope) (fp := fp) tk hW hst hf I3 hcf hcL fun b hb => (f3 b hb).1
  generalize hs4 : ({ s3 with heap := pushCells (s3.heap.push { cls := .type "dict", data := .dict #[] }) scope.names } : Shared) = s4 at I4 ⊢
  have st4 : tn 0 s4.heap := T.keep _ _ _ st3 fun b _ o e => by rw [← hs4]; exact pushCells_keeps _ _ _ _ (Heap.get?_push_of_some _ e)
  -- the wish within the block
  generalize hxe : notedBy (model X.prog X.w) X.A ce (CompFails (model X.prog X.w) X.A X.xe ce) = xe at ps
  have I4' := I4.wish xe
  have pg' := pg xe
  have pt' := pt xe
  have pe' := pe xe ps
  have stat : ∀ {σ' : L2.St} {H' : Hp} {s' : Shared}, L2.Inv ((X.blk s3 H3 scope ce fp).wish xe) [] σ' H' s' → (∀ b ∈ fp, H' b = none) → ∀ b ∈ fp, FpOk ((X.blk s3 H3 scope ce fp).wish xe) [] H' b := fun {σ' H' s'} I' hn b hb =>
    ⟨hn b hb, (I'.ok.exf b hb).1, I'.ok.exfs b hb, .inl hb, fun x c e => (I'.ok.exf b hb).2 x c e, fun p hp => absurd (show p ∈ ([] : List (Addr × Obj)) ++ [] from hp) (by simp)⟩
  have loop : codeAny (model X.prog X.w) X.A (.compLoop (.ListComp elt [⟨tg, iter, ifs, 0⟩] scope pos) 0 (.ref it) (.ref D) ce) (compEnds (model X.prog X.w) X.A X.xe use Qf (.ref D) ce) s4 := by
    have hx : ∀ (u : Value) (s' : Shared), xe u s' → notedBy (model X.prog X.w) X.A ce (fun e s' => compEnds (model X.prog X.w) X.A X.xe use Qf (.ref D) ce (.error e) s') u s' := fun u s' z => by
      rw [← hxe] at z
      have ee : ∀ e s', CompFails (model X.prog X.w) X.A X.xe ce e s' → compEnds (model X.prog X.w) X.A X.xe use Qf (.ref D) ce (.error e) s' := fun e s' y => by cases use <;> exact y
      exact wpAny_mono z (fun _ _ y => ee _ _ y) fun _ _ y => ee _ _ y
    refine compLoop_any (fun n s' => ∃ i H', L2.Inv ((X.blk s3 H3 scope ce fp).wish xe) [] (wipe σ (own.map (·.2))) H' s' ∧ tn i s'.heap ∧ (∀ b ∈ fp, H' b = none) ∧ Wv i n H') ?_ m0 ⟨0, H3, I4', st4, nfp, w0⟩
    rintro n s5 ⟨i, H5, I5, st5, n5, w5⟩
    rcases turn i n H5 w5 with ⟨stop, qq⟩ | ⟨go, Nx, hNx, step⟩
    · refine thnF (T.done ((X.blk s3 H3 scope ce fp).wish xe) rfl rfl rfl hc i [] s5 _ H5 (fun _ _ => False) I5 (stat I5 n5) st5 stop) fun r s6 ⟨hr, I6⟩ => ?_
      subst hr
      have I6 : L2.Inv (X.blk s3 H3 scope ce fp) [] _ H5 s6 := I6.unwish
      have I7 : L2.Inv X pins σ H5 s6 := I3.call' (ch := fp) I6.os I6.base I6.hok I6.bare fun b hb => ⟨(f3 b hb).1.2.2.2.1, (f3 b hb).1.2.1, (f3 b hb).1.2.2.2.2.1, (f3 b hb).1.2.2.2.2.2⟩
      have nC : H5 ce.locals = none := I6.free
      obtain ⟨m, hn, _⟩ := I6.loc
      exact hRR D ce s6 m H5 I7 qq hn (by rw [hcL] at nC ⊢; exact I3.fpOk (Nat.le_refl _) nC)
    · refine thnF (T.item ((X.blk s3 H3 scope ce fp).wish xe) rfl rfl rfl hc i [] s5 _ H5 (fun _ _ => False) I5 (stat I5 n5) st5 go) fun r s6 ⟨u, hr, h6⟩ => ?_
      subst hr
      refine thnF h6 fun _ s7 ⟨x, H7, I7, r7, y7, st7, n7⟩ => ?_
      refine wpAny_mono (pg'.run _ s7 _ H7 x u _ (I7.pinned (stat I7 n7) (T.obj _ _ st7)) r7 (step x H7 y7)) (fun _ s8 ⟨σ8, H8, I8, hw8, q8⟩ => ?_) hx
      refine wpAny_mono (pt'.run _ s8 σ8 H8 _ I8 q8) (fun b s9 ⟨H9, I9, q9⟩ => ?_) hx
      have fin : ∀ {s' : Shared} {H' : Hp}, L2.Inv ((X.blk s3 H3 scope ce fp).wish xe) ([] ++ pinsAt fp s7.heap) σ8 H' s' → Nx H' → ∃ m, m < n ∧ ∃ i H', L2.Inv ((X.blk s3 H3 scope ce fp).wish xe) [] (wipe σ (own.map (·.2))) H' s' ∧ tn i s'.heap ∧ (∀ b ∈ fp, H' b = none) ∧ Wv i m H' := fun {s' H'} I' nx => by
        obtain ⟨m', hm, w'⟩ := hNx H' nx
        have pin' : ∀ b ∈ fp, ∀ o, s7.heap.get? b = some o → s'.heap.get? b = some o ∧ H' b = none := fun b hb o e =>
          let z := I'.pin (b, o) (List.mem_append_right _ (List.mem_append_right _ (mem_pinsAt hb e)))
          ⟨z.1, z.2.1⟩
        have hl : (wipe σ (own.map (·.2))).length = σ8.length := by rw [← hw8, wipe_length]
        refine ⟨m', hm, i + 1, H', (I'.unpinned (pins := [])).weak hl (fun j v e => ?_), T.keep _ _ _ st7 fun b hb o e => (pin' b hb o e).1, fun b hb => ?_, w'⟩
        · rw [← hw8] at e
          exact (wipe_some e).1
        · obtain ⟨o, e, _⟩ := T.obj _ _ st7 b hb
          exact (pin' b hb o e).2
      cases b with
      | false => exact fin I9 q9
      | true =>
        refine wpAny_mono (pe'.run _ s9 σ8 H9 _ I9 q9) (fun z s10 ⟨yv, H10, I10, r10, acc, hD10, hz10, nx⟩ => ?_) hx
        exact app_ok (X := (X.blk s3 H3 scope ce fp).wish xe) I10 hD10 hz10 r10 fun s11 I11 => fin I11 nx
  exact codeAny_compStart_list loop (T.self X.A 0 _ _ _ st4 loop)
/-- as a value -/
theorem pe_lcX {wi : TI} {g : TG} {tt : TT} {te : TE} {elt tg iter : Expr} {ifs : List Expr} {own : List (Str × Nat)} {pos : Pos} (tk : Takes X W) (hW : ∀ cls d σ H, E cls d H → W cls d σ H) (hst : X.stack = X.env :: X.outer) (hf : X.env.frame = some X.env.locals) (hc : X.calm = true) (hN : X.N.Nodup)
    (hi : PI X tg iter wi) (ok : BlkOk X.N X.env.scope scope own)
    (hg : ∀ (s : Shared) (H : Hp) (C : Addr) (cl : List (Str × Addr)) (fp : List Addr) (xe : Value → Shared → Prop), PG ((X.blk s H scope (compEnvC scope cl C X.env) fp).wish xe) tg g)
    (ht : ∀ (s : Shared) (H : Hp) (C : Addr) (cl : List (Str × Addr)) (fp : List Addr) (xe : Value → Shared → Prop), PTs ((X.blk s H scope (compEnvC scope cl C X.env) fp).wish xe) ifs tt)
    (he : ∀ (s : Shared) (H : Hp) (C : Addr) (cl : List (Str × Addr)) (fp : List Addr) (xe : Value → Shared → Prop), Passes (L2.CX X.prog X.w) ((X.blk s H scope (compEnvC scope cl C X.env) fp).wish xe) E → PE ((X.blk s H scope (compEnvC scope cl C X.env) fp).wish xe) elt te)
    (hs : ∀ x, foldedSetIterable iter X.env x = pure x := by intro _; rfl) : PE X (.ListComp elt [⟨tg, iter, ifs, 0⟩] scope pos) (tLc wi g tt te (own.map (·.2))) := by
  refine ⟨fun pins s σ H Q I h => ?_⟩
  rw [eval_ListComp]
  refine lcx_core (use := none) tk hW hst hf hc hN I hi ok hg ht he hs h fun D ce s' m H' I' q hn f => ⟨m, hn, fun h'' sb => ?_⟩
  obtain ⟨f0, f1, f2, f3, f4, f5⟩ := f
  exact ⟨.ref D, H', I'.turned (t' := s'.toks) (fun b o hb e => (sb.2 b hb).trans e) f0 f1 f3 f4 f5, rfl, q⟩
/-- given to a local name, on one line -/
theorem ps_setLcX {i : Nat} {y : Str} {py : Pos} {wi : TI} {g : TG} {tt : TT} {te : TE} {elt tg iter : Expr} {ifs : List Expr} {own : List (Str × Nat)} {pos spos : Pos} (tk : Takes X W) (hW : ∀ cls d σ H, E cls d H → W cls d σ H) (hst : X.stack = X.env :: X.outer) (hf : X.env.frame = some X.env.locals) (hc : X.calm = true) (hN : X.N.Nodup)
    (hy : X.N[i]? = some y) (hyl : X.env.scope.names.lookup y = some .local) (hsw : swapsWith (.ListComp elt [⟨tg, iter, ifs, 0⟩] scope pos) (some (.Name y py)) spos.line X.env = pure true)
    (hi : PI X tg iter wi) (ok : BlkOk X.N X.env.scope scope own)
    (hg : ∀ (s : Shared) (H : Hp) (C : Addr) (cl : List (Str × Addr)) (fp : List Addr) (xe : Value → Shared → Prop), PG ((X.blk s H scope (compEnvC scope cl C X.env) fp).wish xe) tg g)
    (ht : ∀ (s : Shared) (H : Hp) (C : Addr) (cl : List (Str × Addr)) (fp : List Addr) (xe : Value → Shared → Prop), PTs ((X.blk s H scope (compEnvC scope cl C X.env) fp).wish xe) ifs tt)
    (he : ∀ (s : Shared) (H : Hp) (C : Addr) (cl : List (Str × Addr)) (fp : List Addr) (xe : Value → Shared → Prop), Passes (L2.CX X.prog X.w) ((X.blk s H scope (compEnvC scope cl C X.env) fp).wish xe) E → PE ((X.blk s H scope (compEnvC scope cl C X.env) fp).wish xe) elt te)
    (hs : ∀ x, foldedSetIterable iter X.env x = pure x := by intro _; rfl) : PS X (.Assign [.Name y py] (.ListComp elt [⟨tg, iter, ifs, 0⟩] scope pos) spos) (tAsg (tLc wi g tt te (own.map (·.2))) (gName i)) := by
  refine ⟨fun pins s σ H D I h => ?_⟩
  rw [exec_Assign_Name_used _ _ _ _ hsw]
  refine wpAny_bind (wpAny_standAt (wpAny_bind ?_))
  show wpAny _ X.A (do let _ ← comprehension (.ListComp elt [⟨tg, iter, ifs, 0⟩] scope pos) scope X.env (firstIterPos [⟨tg, iter, ifs, 0⟩] pos) (newList []) false (eval iter X.env) (some (assign (.Name y py) X.env))) _ _ s
  have h : tLc wi g tt te (own.map (·.2)) σ H (fun x H1 => gName i x σ H1 D.nx) := h
  refine wpAny_bind (thn (lcx_core (Qf := fun _ s' => SP X pins D .next s') tk hW hst hf hc hN I hi ok hg ht he hs h fun L ce s' m H' I' q hn f => ?_) fun _ s' hq => wpAny_pure (wpAny_pure hq))
  show wpAny _ _ (assign (.Name y py) X.env (.ref L)) _ _ _
  refine wpAny_assign_Name (store_ok2 (v := V.ref L) I' hN hy (.inl hyl) rfl (fun s2 I2 ⟨a, sb, ha⟩ => ?_) (.inr hyl))
  obtain ⟨f0, f1, f2, f3, f4, f5⟩ := f
  have haC : ce.locals ≠ a := by
    rcases ha with z | z
    · rw [z]
      exact f1
    · exact fun e => f4 y a z e.symm
  refine ⟨m, hn.sameBut sb haC, fun h3 sb3 => ?_⟩
  exact ⟨_, H', I2.turned (t' := s2.toks) (fun b o hb e => (sb3.2 b hb).trans e) f0 f1 f3 f4 f5, q⟩
end
end Cl

/-! ### ClAuto: lemmas for the readings' own small tactics -/
namespace Cl
open PySem L2
theorem lb_app {a b : Str} {m n : Nat} (h : a.length ≤ m) (k : b.length ≤ n) : (a ++ b).length ≤ m + n := by
  rw [len_append]
  omega
theorem lb_add {a b : Str} {m n : Nat} (h : a.length ≤ m) (k : b.length ≤ n) : a.length + b.length ≤ m + n := Nat.add_le_add h k
theorem lb_cut {z : Str} {n : Nat} {lo hi : Option Int} (h : z.length ≤ n) : (cutS z lo hi).length ≤ n := Nat.le_trans (cutS_length z lo hi) h
end Cl
namespace Cl
open PySem L2
/-- the ways of an if go on alike, with another thing -/
theorem go_on {α : Type} (R : α → Prop) {G : Prop} {F : α → Prop} (h : (∀ e, R e → F e) → G) (hF : ∀ e, R e → F e) : G := h hF
theorem cutN_lo {z : Str} {n : Nat} (h : n + 1 ≤ z.length) : (cutS z none (some (-((n + 1 : Nat) : Int)))).cps.toList = z.cps.toList.take (z.length - (n + 1)) := by
  show (z.cps.toList.drop 0).take (HT.sIx z.length z.length (some (-((n + 1 : Nat) : Int))) - 0) = _
  have e : HT.sIx z.length z.length (some (-((n + 1 : Nat) : Int))) = z.length - (n + 1) := by
    show (if (-((n + 1 : Nat) : Int)) < 0 then _ else _) = _
    rw [if_pos (by omega)]
    omega
  rw [e, List.drop_zero]
  rfl
theorem cutN_hi {z : Str} {n : Nat} (h : n + 1 ≤ z.length) : (cutS z (some (-((n + 1 : Nat) : Int))) none).cps.toList = z.cps.toList.drop (z.length - (n + 1)) := by
  show (z.cps.toList.drop (HT.sIx z.length 0 (some (-((n + 1 : Nat) : Int))))).take (z.length - HT.sIx z.length 0 (some (-((n + 1 : Nat) : Int)))) = _
  have e : HT.sIx z.length 0 (some (-((n + 1 : Nat) : Int))) = z.length - (n + 1) := by
    show (if (-((n + 1 : Nat) : Int)) < 0 then _ else _) = _
    rw [if_pos (by omega)]
    omega
  rw [e]
  refine List.take_of_length_le ?_
  rw [List.length_drop, len_toList]
  omega
theorem cutP_lo {z : Str} {i : Int} (h0 : 0 ≤ i) (h1 : i ≤ (z.length : Int)) : (cutS z none (some i)).cps.toList = z.cps.toList.take i.toNat := by
  show (z.cps.toList.drop 0).take (HT.sIx z.length z.length (some i) - 0) = _
  have e : HT.sIx z.length z.length (some i) = i.toNat := by
    show (if i < 0 then _ else min i.toNat z.length) = _
    rw [if_neg (by omega)]
    omega
  rw [e, List.drop_zero]
  rfl
theorem cutP_hi {z : Str} {i : Int} (h0 : 0 ≤ i) (h1 : i ≤ (z.length : Int)) : (cutS z (some i) none).cps.toList = z.cps.toList.drop i.toNat := by
  show (z.cps.toList.drop (HT.sIx z.length 0 (some i))).take (z.length - HT.sIx z.length 0 (some i)) = _
  have e : HT.sIx z.length 0 (some i) = i.toNat := by
    show (if i < 0 then _ else min i.toNat z.length) = _
    rw [if_neg (by omega)]
    omega
  rw [e]
  refine List.take_of_length_le ?_
  rw [List.length_drop, len_toList]
  omega
theorem cut_mem {z : Str} {lo hi : Option Int} {c : Nat} (h : c ∈ (cutS z lo hi).cps.toList) : c ∈ z.cps.toList := by
  have e : (cutS z lo hi).cps.toList = (z.cps.toList.drop (HT.sIx z.length 0 lo)).take (HT.sIx z.length z.length hi - HT.sIx z.length 0 lo) := rfl
  rw [e] at h
  exact List.mem_of_mem_drop (List.mem_of_mem_take h)
theorem app_all {P : Nat → Prop} {a b : Str} (ha : ∀ c ∈ a.cps.toList, P c) (hb : ∀ c ∈ b.cps.toList, P c) : ∀ c ∈ (a ++ b).cps.toList, P c := fun c h => by
  rw [tl_app] at h
  exact (List.mem_append.mp h).elim (ha c) (hb c)
end Cl
namespace Cl
open PySem PySem.Spec PyProof.Rows L2
/-! methods that may raise, called in a try -/
section
variable {X : Cx} {CX : CXT} {k : Nat} {ps : List Str} {sp : Sp} {E : L2.St → XK} {C : Addr} {m : Str} {pos apos : Pos} {o e : Expr} {es : List Expr} {ta : TE} {t : TA} {pl : Sem Bool}
def tMethS (C : Addr) (m : Str) (sp : Sp) (E : L2.St → XK) (ta : TE) (t : TA) : TE := fun σ H Q => ta σ H fun x H1 => ∃ a dx fs, x = .ref a ∧ H1 a = some (.ins C dx fs) ∧ fs.lookup m = none ∧ t σ H1 fun vs H2 => sp (x :: vs) H2 Q (E σ)
theorem pe_mthS (M : Mth X.prog X.w X.K X.mg X.base CX C m k ps sp) (c : Cls X.K C) (hr : Rm k X.A) (hx : ∀ σ, PassesAt CX X σ (E σ)) (ho : PE X o ta) (ha : PA X (e :: es) t)
    (hst : starEach (e :: es) X.env = (false, eval e X.env) :: starEach es X.env := by rfl) (hpl : (backTo pos (starEach es X.env)).any (·.1) = false := by rfl)
    (he : eval (.Call (.Attribute o m apos) (e :: es) [] pos) X.env = (do let ov ← eval o X.env; standAt apos.atName; let (f, first) ← holding [ov] (getMethod ov m pl); callWith pos f first (backTo pos (starEach (e :: es) X.env)) (backToKw pos (keywordEach [] X.env))) := by rfl) :
    PE X (.Call (.Attribute o m apos) (e :: es) [] pos) (tMethS C m sp E ta t) := by
  obtain ⟨f, fd, F, hm, hb⟩ := M.ex
  refine ⟨fun pins s σ H Q I h => ?_⟩
  refine PySem.W.methodCall_KW (pl := pl) (thn (ho.run pins s σ H _ I h) ?_) he
  rintro u s1 ⟨y, H1, I1, ry, a, dx, fs, rfl, ea, lk, q⟩
  obtain rfl : u = Value.ref a := ry
  refine getmeth_ok I1 ea c hm lk (PySem.W.callWith_K (first := [.ref a]) (h₀ := X.base) I.ok.mod.kin hm.kp (thn (ha.run pos pins s1 σ H1 _ I1 q) ?_) hst hpl)
  rintro us s2 ⟨vs, H2, I2, r, q2⟩
  have r2 : Vals (V.ref a :: vs) (Value.ref a :: us) := .cons (show L2.RelV (V.ref a) (Value.ref a) from rfl) r
  have hl := F.len _ _ _ _ q2
  have hb' := hb s2 (Value.ref a :: us) I2.kIn (by rw [List.append_nil, ← r2.length]; exact hl)
  rw [List.append_nil] at hb'
  exact ⟨I2.kIn, gn_callS F hr hb' (hx σ) I2 r2 q2⟩
theorem pe_mthS0 (M : Mth X.prog X.w X.K X.mg X.base CX C m k ps sp) (c : Cls X.K C) (hr : Rm k X.A) (hx : ∀ σ, PassesAt CX X σ (E σ)) (ho : PE X o ta)
    (he : eval (.Call (.Attribute o m apos) [] [] pos) X.env = (do let ov ← eval o X.env; standAt apos.atName; let (f, first) ← holding [ov] (getMethod ov m pl); callWith pos f first (backTo pos (starEach [] X.env)) (backToKw pos (keywordEach [] X.env))) := by rfl) :
    PE X (.Call (.Attribute o m apos) [] [] pos) (tMethS C m sp E ta tNil) := by
  obtain ⟨f, fd, F, hm, hb⟩ := M.ex
  refine ⟨fun pins s σ H Q I h => ?_⟩
  refine PySem.W.methodCall_KW (pl := pl) (thn (ho.run pins s σ H _ I h) ?_) he
  rintro u s1 ⟨y, H1, I1, ry, a, dx, fs, rfl, ea, lk, q⟩
  obtain rfl : u = Value.ref a := ry
  refine getmeth_ok I1 ea c hm lk ?_
  have q2 : sp [V.ref a] H1 Q (E σ) := q
  have r2 : Vals [V.ref a] [Value.ref a] := .cons (show L2.RelV (V.ref a) (Value.ref a) from rfl) .nil
  have hl := F.len _ _ _ _ q2
  have hb' := hb s1 [Value.ref a] I1.kIn (by rw [List.append_nil]; exact hl)
  rw [List.append_nil] at hb'
  exact PySem.W.callWith_K0 (first := [.ref a]) I1.kIn hm.kp (gn_callS (us := [.ref a]) F hr hb' (hx σ) I1 r2 q2)
end
end Cl

/-! ### ClAny: a list or a tuple -/
namespace Cl
open PySem PySem.Spec PySem.Calls PySem.W PyProof.Rows L2
def SqA (K : PySem.W.Frag) (H : Hp) (a : Addr) (xs : List V) : Prop := SqL K H a xs ∨ SqT K H a xs
theorem SqA.m {K : PySem.W.Frag} {H H' : Hp} {a : Addr} {xs : List V} (h : SqA K H a xs) (s : Same H H') : SqA K H' a xs := by
  rcases h with h | h
  · exact .inl (s.seq h)
  · exact .inr ((TS.of s).seq h)
theorem SqA.ofL {K : PySem.W.Frag} {H : Hp} {a : Addr} {xs : List V} (h : H a = some (.lst xs)) : SqA K H a xs := .inl (SqL.of h)
def rIxA (K : PySem.W.Frag) : R2 := fun x y H Q => ∃ p xs i v, x = .ref p ∧ y = .int i ∧ SqA K H p xs ∧ atI xs i = some v ∧ Q v H
theorem ix_any {X : Cx} : IxR X (rIxA X.K) := by
  intro value slice pins s σ H x y v u Q I rx ry h hs
  obtain ⟨p, xs, i, z, rfl, rfl, hq, he, q⟩ := h
  rcases hq with hq | hq
  · exact ix_list value slice pins s σ H _ _ v u Q I rx ry ⟨p, xs, i, z, rfl, rfl, hq, he, q⟩ hs
  · exact ix_tup value slice pins s σ H _ _ v u Q I rx ry ⟨p, xs, i, z, rfl, rfl, hq, he, q⟩ hs
theorem ix_anyK {X : Cx} (K : PySem.W.Frag) (hK : X.K = K := by rfl) : IxR X (rIxA K) := by subst hK; exact ix_any
end Cl

/-! ### ClIn: a tuple in a list; data without truths and dicts -/
namespace Cl
open PySem PySem.Spec PySem.Calls PySem.W PyProof.Rows L2
theorem Rm.units65 {A : Around} {k : Nat} (hr : Rm k A) : A.units + 65 < cLine := by have := hr.room.un; omega
theorem op_inDK {X : Cx} (K : PySem.W.Frag) (hu : X.A.units + 65 < cLine) (hK : X.K = K := by rfl) : OpR X (compareOp .In) (rInD K) := by subst hK; exact op_inD hu
mutual
/-- None, whole numbers, texts, and tuples of such -/
def plB : PyData → Bool
  | .none => true
  | .int _ => true
  | .str _ => true
  | .tuple ds => plAll ds
  | _ => false
def plAll : List PyData → Bool
  | [] => true
  | d :: ds => plB d && plAll ds
end
theorem plAll_of : ∀ {ds : List PyData}, (∀ d ∈ ds, plB d = true) → plAll ds = true
  | [], _ => rfl
  | d :: ds, h => by
    show (plB d && plAll ds) = true
    rw [h d List.mem_cons_self, plAll_of fun x hx => h x (List.mem_cons_of_mem _ hx)]
    rfl
mutual
theorem eqv_pl : ∀ (d e : PyData), plB d = true → plB e = true → PyData.eqv d e = true → d = e
  | .none, .none, _, _, _ => rfl
  | .int i, .int j, _, _, h => by
    have h : (i == j) = true := by rw [PyData.eqv] at h; exact h
    rw [eq_of_beq h]
  | .str i, .str j, _, _, h => by
    have h : (i == j) = true := by rw [PyData.eqv] at h; exact h
    rw [eq_of_beq h]
  | .tuple xs, .tuple ys, h1, h2, h => by
    have h : PyData.eqvAll xs ys = true := by rw [PyData.eqv] at h; exact h
    rw [eqvAll_pl xs ys (by rw [plB] at h1; exact h1) (by rw [plB] at h2; exact h2) h]
  | .none, .int _, _, _, h => by simp [PyData.eqv] at h
  | .none, .str _, _, _, h => by simp [PyData.eqv] at h
  | .none, .tuple _, _, _, h => by simp [PyData.eqv] at h
  | .int _, .none, _, _, h => by simp [PyData.eqv] at h
  | .int _, .str _, _, _, h => by simp [PyData.eqv] at h
  | .int _, .tuple _, _, _, h => by simp [PyData.eqv] at h
  | .str _, .none, _, _, h => by simp [PyData.eqv] at h
  | .str _, .int _, _, _, h => by simp [PyData.eqv] at h
  | .str _, .tuple _, _, _, h => by simp [PyData.eqv] at h
  | .tuple _, .none, _, _, h => by simp [PyData.eqv] at h
  | .tuple _, .int _, _, _, h => by simp [PyData.eqv] at h
  | .tuple _, .str _, _, _, h => by simp [PyData.eqv] at h
  | .bool _, _, h, _, _ => by simp [plB] at h
  | .list _, _, h, _, _ => by simp [plB] at h
  | .dict _, _, h, _, _ => by simp [plB] at h
  | _, .bool _, _, h, _ => by simp [plB] at h
  | _, .list _, _, h, _ => by simp [plB] at h
  | _, .dict _, _, h, _ => by simp [plB] at h
theorem eqvAll_pl : ∀ (xs ys : List PyData), plAll xs = true → plAll ys = true → PyData.eqvAll xs ys = true → xs = ys
  | [], [], _, _, _ => rfl
  | x :: xs, y :: ys, h1, h2, h => by
    have h : (PyData.eqv x y && PyData.eqvAll xs ys) = true := by rw [PyData.eqvAll] at h; exact h
    have h1 : (plB x && plAll xs) = true := by rw [plAll] at h1; exact h1
    have h2 : (plB y && plAll ys) = true := by rw [plAll] at h2; exact h2
    obtain ⟨a1, a2⟩ := Bool.and_eq_true_iff.mp h
    obtain ⟨b1, b2⟩ := Bool.and_eq_true_iff.mp h1
    obtain ⟨c1, c2⟩ := Bool.and_eq_true_iff.mp h2
    rw [eqv_pl x y b1 c1 a1, eqvAll_pl xs ys b2 c2 a2]
  | [], _ :: _, _, _, h => by simp [PyData.eqvAll] at h
  | _ :: _, [], _, _, h => by simp [PyData.eqvAll] at h
end
end Cl

/-! ### ClDst: calls of defs with so many parameters -/
namespace Cl
open PySem PySem.Spec PySem.Calls PyProof.Rows L2
section
variable {P : Program} {w : World} {K : PySem.W.Frag} {h : Heap} {mg : Str → Option Value} {base : Heap} {CX : CXT} {k : Nat} {f : Addr} {x qual : Str} {st : Stmt} {ps : List Str} {sp : Sp} {kV doc pm cdv ct : Value} {an : Option Addr} {oc : Value} {od : Option Addr} {osl : Array (Option Value)}
theorem cal_mk0 (KX : K.In h) (G : h.Ns mainGlobals mg) (a : PySem.W.nsIn K mainGlobals x = some (some (.ref f)))
    (l : K.lookup f = some ⟨oc, od, .func (PySem.W.fnOf x qual (defArgs st) (defBody st) (defScope st) .none kV doc pm an cdv ct), osl⟩) (c : PySem.W.codeIn K cdv qual = true) (kp : PySem.W.keepIn K (.ref f) = true) (hp : ps.length = 0)
    (hb : ∀ (kV doc pm : Value) (an : Option Addr) (cdv ct : Value) , bindArgs (PySem.W.fnOf x qual (defArgs st) (defBody st) (defScope st) .none kV doc pm an cdv ct) ⟨[], []⟩ = pure (ps.zip []))
    (ok : ∀ {f : Addr} {fd : FuncData}, Fun K x qual st f fd → GnOk P w K mg base CX k f fd ps sp) : Cal P w K mg base CX x k ps sp :=
  cal_mk KX G a l c kp (fun kV doc pm an cdv ct us hl => match us, hl.trans hp with | [], _ => hb kV doc pm an cdv ct ) ok
theorem cal_mk1 (KX : K.In h) (G : h.Ns mainGlobals mg) (a : PySem.W.nsIn K mainGlobals x = some (some (.ref f)))
    (l : K.lookup f = some ⟨oc, od, .func (PySem.W.fnOf x qual (defArgs st) (defBody st) (defScope st) .none kV doc pm an cdv ct), osl⟩) (c : PySem.W.codeIn K cdv qual = true) (kp : PySem.W.keepIn K (.ref f) = true) (hp : ps.length = 1)
    (hb : ∀ (kV doc pm : Value) (an : Option Addr) (cdv ct : Value) (a0 : Value), bindArgs (PySem.W.fnOf x qual (defArgs st) (defBody st) (defScope st) .none kV doc pm an cdv ct) ⟨[a0], []⟩ = pure (ps.zip [a0]))
    (ok : ∀ {f : Addr} {fd : FuncData}, Fun K x qual st f fd → GnOk P w K mg base CX k f fd ps sp) : Cal P w K mg base CX x k ps sp :=
  cal_mk KX G a l c kp (fun kV doc pm an cdv ct us hl => match us, hl.trans hp with | [a0], _ => hb kV doc pm an cdv ct a0) ok
theorem cal_mk2 (KX : K.In h) (G : h.Ns mainGlobals mg) (a : PySem.W.nsIn K mainGlobals x = some (some (.ref f)))
    (l : K.lookup f = some ⟨oc, od, .func (PySem.W.fnOf x qual (defArgs st) (defBody st) (defScope st) .none kV doc pm an cdv ct), osl⟩) (c : PySem.W.codeIn K cdv qual = true) (kp : PySem.W.keepIn K (.ref f) = true) (hp : ps.length = 2)
    (hb : ∀ (kV doc pm : Value) (an : Option Addr) (cdv ct : Value) (a0 a1 : Value), bindArgs (PySem.W.fnOf x qual (defArgs st) (defBody st) (defScope st) .none kV doc pm an cdv ct) ⟨[a0, a1], []⟩ = pure (ps.zip [a0, a1]))
    (ok : ∀ {f : Addr} {fd : FuncData}, Fun K x qual st f fd → GnOk P w K mg base CX k f fd ps sp) : Cal P w K mg base CX x k ps sp :=
  cal_mk KX G a l c kp (fun kV doc pm an cdv ct us hl => match us, hl.trans hp with | [a0, a1], _ => hb kV doc pm an cdv ct a0 a1) ok
theorem cal_mk3 (KX : K.In h) (G : h.Ns mainGlobals mg) (a : PySem.W.nsIn K mainGlobals x = some (some (.ref f)))
    (l : K.lookup f = some ⟨oc, od, .func (PySem.W.fnOf x qual (defArgs st) (defBody st) (defScope st) .none kV doc pm an cdv ct), osl⟩) (c : PySem.W.codeIn K cdv qual = true) (kp : PySem.W.keepIn K (.ref f) = true) (hp : ps.length = 3)
    (hb : ∀ (kV doc pm : Value) (an : Option Addr) (cdv ct : Value) (a0 a1 a2 : Value), bindArgs (PySem.W.fnOf x qual (defArgs st) (defBody st) (defScope st) .none kV doc pm an cdv ct) ⟨[a0, a1, a2], []⟩ = pure (ps.zip [a0, a1, a2]))
    (ok : ∀ {f : Addr} {fd : FuncData}, Fun K x qual st f fd → GnOk P w K mg base CX k f fd ps sp) : Cal P w K mg base CX x k ps sp :=
  cal_mk KX G a l c kp (fun kV doc pm an cdv ct us hl => match us, hl.trans hp with | [a0, a1, a2], _ => hb kV doc pm an cdv ct a0 a1 a2) ok
theorem cal_mk4 (KX : K.In h) (G : h.Ns mainGlobals mg) (a : PySem.W.nsIn K mainGlobals x = some (some (.ref f)))
    (l : K.lookup f = some ⟨oc, od, .func (PySem.W.fnOf x qual (defArgs st) (defBody st) (defScope st) .none kV doc pm an cdv ct), osl⟩) (c : PySem.W.codeIn K cdv qual = true) (kp : PySem.W.keepIn K (.ref f) = true) (hp : ps.length = 4)
    (hb : ∀ (kV doc pm : Value) (an : Option Addr) (cdv ct : Value) (a0 a1 a2 a3 : Value), bindArgs (PySem.W.fnOf x qual (defArgs st) (defBody st) (defScope st) .none kV doc pm an cdv ct) ⟨[a0, a1, a2, a3], []⟩ = pure (ps.zip [a0, a1, a2, a3]))
    (ok : ∀ {f : Addr} {fd : FuncData}, Fun K x qual st f fd → GnOk P w K mg base CX k f fd ps sp) : Cal P w K mg base CX x k ps sp :=
  cal_mk KX G a l c kp (fun kV doc pm an cdv ct us hl => match us, hl.trans hp with | [a0, a1, a2, a3], _ => hb kV doc pm an cdv ct a0 a1 a2 a3) ok
theorem cal_mk5 (KX : K.In h) (G : h.Ns mainGlobals mg) (a : PySem.W.nsIn K mainGlobals x = some (some (.ref f)))
    (l : K.lookup f = some ⟨oc, od, .func (PySem.W.fnOf x qual (defArgs st) (defBody st) (defScope st) .none kV doc pm an cdv ct), osl⟩) (c : PySem.W.codeIn K cdv qual = true) (kp : PySem.W.keepIn K (.ref f) = true) (hp : ps.length = 5)
    (hb : ∀ (kV doc pm : Value) (an : Option Addr) (cdv ct : Value) (a0 a1 a2 a3 a4 : Value), bindArgs (PySem.W.fnOf x qual (defArgs st) (defBody st) (defScope st) .none kV doc pm an cdv ct) ⟨[a0, a1, a2, a3, a4], []⟩ = pure (ps.zip [a0, a1, a2, a3, a4]))
    (ok : ∀ {f : Addr} {fd : FuncData}, Fun K x qual st f fd → GnOk P w K mg base CX k f fd ps sp) : Cal P w K mg base CX x k ps sp :=
  cal_mk KX G a l c kp (fun kV doc pm an cdv ct us hl => match us, hl.trans hp with | [a0, a1, a2, a3, a4], _ => hb kV doc pm an cdv ct a0 a1 a2 a3 a4) ok
theorem cal_mk6 (KX : K.In h) (G : h.Ns mainGlobals mg) (a : PySem.W.nsIn K mainGlobals x = some (some (.ref f)))
    (l : K.lookup f = some ⟨oc, od, .func (PySem.W.fnOf x qual (defArgs st) (defBody st) (defScope st) .none kV doc pm an cdv ct), osl⟩) (c : PySem.W.codeIn K cdv qual = true) (kp : PySem.W.keepIn K (.ref f) = true) (hp : ps.length = 6)
    (hb : ∀ (kV doc pm : Value) (an : Option Addr) (cdv ct : Value) (a0 a1 a2 a3 a4 a5 : Value), bindArgs (PySem.W.fnOf x qual (defArgs st) (defBody st) (defScope st) .none kV doc pm an cdv ct) ⟨[a0, a1, a2, a3, a4, a5], []⟩ = pure (ps.zip [a0, a1, a2, a3, a4, a5]))
    (ok : ∀ {f : Addr} {fd : FuncData}, Fun K x qual st f fd → GnOk P w K mg base CX k f fd ps sp) : Cal P w K mg base CX x k ps sp :=
  cal_mk KX G a l c kp (fun kV doc pm an cdv ct us hl => match us, hl.trans hp with | [a0, a1, a2, a3, a4, a5], _ => hb kV doc pm an cdv ct a0 a1 a2 a3 a4 a5) ok
theorem cal_mk7 (KX : K.In h) (G : h.Ns mainGlobals mg) (a : PySem.W.nsIn K mainGlobals x = some (some (.ref f)))
    (l : K.lookup f = some ⟨oc, od, .func (PySem.W.fnOf x qual (defArgs st) (defBody st) (defScope st) .none kV doc pm an cdv ct), osl⟩) (c : PySem.W.codeIn K cdv qual = true) (kp : PySem.W.keepIn K (.ref f) = true) (hp : ps.length = 7)
    (hb : ∀ (kV doc pm : Value) (an : Option Addr) (cdv ct : Value) (a0 a1 a2 a3 a4 a5 a6 : Value), bindArgs (PySem.W.fnOf x qual (defArgs st) (defBody st) (defScope st) .none kV doc pm an cdv ct) ⟨[a0, a1, a2, a3, a4, a5, a6], []⟩ = pure (ps.zip [a0, a1, a2, a3, a4, a5, a6]))
    (ok : ∀ {f : Addr} {fd : FuncData}, Fun K x qual st f fd → GnOk P w K mg base CX k f fd ps sp) : Cal P w K mg base CX x k ps sp :=
  cal_mk KX G a l c kp (fun kV doc pm an cdv ct us hl => match us, hl.trans hp with | [a0, a1, a2, a3, a4, a5, a6], _ => hb kV doc pm an cdv ct a0 a1 a2 a3 a4 a5 a6) ok
end
end Cl

/-! ### ClSl: a part of a list put otherwise, whatever its bounds -/
namespace Cl
open PySem PySem.Spec PyProof.Rows L2
section
variable {prog : Program} {w : World} {A : Around} {E : Value → Shared → Prop} {s : Shared}
theorem cut_put {l b sl : Addr} {xs ys : Array Value} {n m : Nat} {vl vu : Value} {lo hi : Option Int} {a c : Nat} {Q : Unit → Shared → Prop} (e : s.heap.get? l = some { cls := .type "list", data := .seq xs n }) (f : s.heap.get? b = some { cls := .type "list", data := .seq ys m }) (hne : l ≠ b)
    (hs : s.heap.IsSliceOf sl vl vu .none) (pl : IsPart vl lo) (pu : IsPart vu hi) (hb : sliceBounds lo hi none xs.size = ((a : Int), (c : Int), 1)) (hac : a ≤ c) (hc : c ≤ xs.size) (hz : xs.size + ys.size ≤ sizeLine)
    (h : Q () { s with heap := s.heap.update l (Obj.mapSeq fun xs => xs.extract 0 a ++ ys ++ xs.extract c xs.size) }) : wpAny (model prog w) A (setItem (.ref l) (.ref sl) (.ref b)) Q E s := by
  have hl := PySem.IsL.isList e
  obtain ⟨os, hos, hcs, hds⟩ := id hs
  have hT : s.TypeIs (.ref sl) "slice" := ⟨os, hos, hcs⟩
  have hsame : Builtin.List.listSameRef (.ref l) (.ref b) = false := beq_eq_false_iff_ne.mpr hne
  unfold setItem
  try with_reducible refine wpAny_holding ?_
  first | refine wpAny_bind (wpAny_pure ?_) | skip
  refine wpAny_bind (wpAny_sequenceKey hl.typeIs (by decide) (wpAny_bind (wpAny_callSpecial?_slot (name := Str.ofString "__setitem__") hl.typeIs slot_list_setitem (wpAny_call_entry slot_list_setitem hl.typeIs entry_list_setitem ?_ (args_list_setitem _ _ _)))))
  show wpAny _ _ (Builtin.List.listSubscript? (.ref sl) >>= _) _ _ s
  refine wpAny_bind ?_
  unfold Builtin.List.listSubscript?
  refine wpAny_bind (wpAny_specialOf hT slice_no_index ?_)
  simp only [Option.isNone_none, if_true]
  refine wpAny_pure ?_
  show wpAny _ _ (typeOf (.ref sl) >>= _) _ _ s
  refine wpAny_bind (wpAny_typeOf hT ?_)
  first | rw [if_neg (by decide)] | refine PySem.W.KFB.if_not (by decide) ?_
  rw [listSliceParts_eq]
  refine wpAny_bind (wpAny_bind (wpAny_field hos hds (x := .none) rfl (wpAny_bind (wpAny_listPart .none ?_))))
  rw [if_neg (show ¬ ((rawPart none == rawInt 0) = true) from Bool.false_ne_true)]
  refine wpAny_bind (wpAny_field hos hds (x := vl) rfl (wpAny_bind (wpAny_listPart pl (wpAny_bind (wpAny_field hos hds (x := vu) rfl (wpAny_bind (wpAny_listPart pu (wpAny_pure ?_))))))))
  first
    | refine PySem.W.KFB.if_not hsame ?_
    | (dsimp only; rw [if_neg (by rw [hsame]; exact Bool.false_ne_true)])
    | simp only [hsame, Bool.false_eq_true, if_false]
  refine wpAny_bind (m := Builtin.List.listAllItems (.ref b) "must assign iterable to extended slice") ?_
  unfold Builtin.List.listAllItems
  refine wpAny_bind (wpAny_typeOf (PySem.IsL.isList f).typeIs ?_)
  first | refine PySem.W.KFB.if_so (by decide) ?_ | rw [if_pos (by decide)]
  unfold Builtin.List.listItems
  refine wpAny_bind (wpAny_seqItems f rfl (wpAny_pure (wpAny_bind (wpAny_bind (wpAny_seqItems e rfl (wpAny_pure ?_))))))
  refine wpAny_bind (wpAny_of_eq ((sliceIndices_raw lo hi none xs.size (by simp)).trans (congrArg (pure : Int × Int × Int → Sem (Int × Int × Int)) hb)) ?_)
  show wpAny _ _ (if ((1 : Int) == 1) = true then _ else _) _ _ s
  rw [if_pos (by decide)]
  refine wpAny_bind (wpAny_rule ?_)
  first | refine PySem.W.KFB.if_not (notLongL hz) ?_ | simp only [notLongL hz, Bool.false_eq_true, if_false]
  first | refine wpAny_bind (wpAny_pure ?_) | skip
  show wpAny _ _ (updateSeq l (fun xs => xs.extract 0 ((a : Int)).toNat ++ ys ++ xs.extract (max (a : Int) (c : Int)).toNat xs.size) >>= _) _ _ s
  rw [show (max (a : Int) (c : Int)).toNat = c by omega, Int.toNat_natCast]
  have hz' : ((fun xs : Array Value => xs.extract 0 a ++ ys ++ xs.extract c xs.size) xs).size ≤ sizeLine + 1 := by
    simp only [Array.size_append, Array.size_extract]
    omega
  refine wpAny_bind (wpAny_updateSeq (hz := Nat.le_trans (Nat.le_add_right _ _) hz) (_hz' := hz') e rfl (wpAny_bind (wpAny_letGo ?_)))
  first
    | exact wpAny_pure ⟨.none, rfl, wpAny_pure h⟩
    | exact wpAny_bind (wpAny_pure (wpAny_pure ⟨.none, rfl, wpAny_pure h⟩))
end
section
variable {X : Cx} {pos p2 : Pos}
/-- a list with a part of it put otherwise -/
def putCut (xs ys : List V) (lo hi : Option Int) : List V := xs.take (PySem.W.kms_lo lo xs.length) ++ ys ++ xs.drop (PySem.W.kms_hi hi xs.length)
theorem set_cut {pins : List (Addr × Obj)} {s : Shared} {σ : L2.St} {H : Hp} {l b sl : Addr} {xs ys : List V} {lo hi : Option Int} {vl vu : Value} {Q : Unit → Shared → Prop} (I : Inv X pins σ H s)
    (hH : H l = some (.lst xs)) (hB : H b = some (.lst ys)) (hne : l ≠ b) (hs : s.heap.IsSliceOf sl vl vu .none) (pl : IsPart vl lo) (pu : IsPart vu hi) (hac : PySem.W.kms_lo lo xs.length ≤ PySem.W.kms_hi hi xs.length) (hc : PySem.W.kms_hi hi xs.length ≤ xs.length)
    (hz : xs.length + ys.length ≤ sizeLine) (h : ∀ s', Inv X pins σ (upd H l (.lst (putCut xs ys lo hi))) s' → Q () s') :
    wpAny (model X.prog X.w) X.A (setItem (.ref l) (.ref sl) (.ref b)) Q X.xe s := by
  obtain ⟨z, its, n, r, hl, e⟩ := I.lstM hH
  obtain ⟨z2, its2, n2, r2, hl2, e2⟩ := I.lstM hB
  have hsz : its.toArray.size = xs.length := by rw [List.size_toArray, hl]
  have hb := PySem.W.kms_bounds lo hi its.toArray.size
  rw [hsz] at hb
  refine cut_put (hi := hi) (lo := lo) e e2 hne hs pl pu (by rw [hsz]; exact hb) hac (by rw [hsz]; exact hc) (by rw [List.size_toArray, List.size_toArray]; omega) (h _ ?_)
  refine I.lset (its' := its.take (PySem.W.kms_lo lo xs.length) ++ its2 ++ its.drop (PySem.W.kms_hi hi xs.length)) (t' := s.toks) hH e (splice_eq its its2 _ _) (Vals.append (Vals.append (r.take _) r2) (r.drop _)) ?_
  unfold putCut
  rw [List.length_append, List.length_append, List.length_take, List.length_drop]
  omega
def gSli (to : TE) (tl th : TO) : TG := fun v σ H Q => to σ H fun o H1 => tl σ H1 fun lo H2 => th σ H2 fun hi H3 => ∃ a b xs ys, o = .ref a ∧ v = .ref b ∧ H3 a = some (.lst xs) ∧ H3 b = some (.lst ys) ∧ a ≠ b ∧
  PySem.W.kms_lo lo xs.length ≤ PySem.W.kms_hi hi xs.length ∧ PySem.W.kms_hi hi xs.length ≤ xs.length ∧ xs.length + ys.length ≤ sizeLine ∧ Q σ (upd H3 a (.lst (putCut xs ys lo hi)))
theorem pg_sli {o : Expr} {lo hi : Option Expr} {to : TE} {tl th : TO} (ho : PE X o to) (hl : PO X lo tl) (hu : PO X hi th) : PG X (.Subscript o (.Slice lo hi none p2) pos) (gSli to tl th) := by
  refine ⟨fun pins s σ H v u Q I r h => ?_⟩
  show wpAny _ _ (holding [u] (eval o X.env) >>= fun ov => holding [u, ov] (eval (.Slice lo hi none p2) X.env) >>= fun iv => standAt pos >>= fun _ => holding [u, ov, iv] (setItem ov iv u) >>= fun _ => release [iv, u, ov] []) _ _ _
  refine wpAny_bind (wpAny_holding (thn (ho.run pins s σ H _ I h) fun ov s1 ⟨x, H1, I1, r1, q1⟩ => ?_))
  refine wpAny_bind (wpAny_holding (wpAny_Slice (thn (hl.run pins s1 σ H1 _ I1 q1) fun vl s2 ⟨l, H2, I2, pl, q2⟩ => thn (hu.run pins s2 σ H2 _ I2 q2) fun vu s3 ⟨y, H3, I3, pu, q3⟩ => ?_)))
  rw [evalPart_none]
  refine wpAny_pure ?_
  have I4 : Inv X pins σ H3 { s3 with heap := s3.heap.push { cls := .type "slice", data := .fields #[vl, vu, .none] } } := I3.kept (t' := s3.toks) fun b ob q => Heap.get?_push_of_some _ q
  obtain ⟨a, b, xs, ys, rfl, rfl, e1, e2, ne, g1, g2, g3, q⟩ := q3
  obtain rfl : u = Value.ref b := r
  obtain rfl : ov = Value.ref a := r1
  exact wpAny_bind (wpAny_standAt (wpAny_bind (wpAny_holding (set_cut I4 e1 e2 ne (Heap.IsSliceOf.new ..) pl pu g1 g2 g3 fun s' I5 => wpAny_release ⟨σ, _, I5, q⟩))))
end
end Cl

/-! ### ClXf: a field of the exception that a def was handed -/
namespace Cl
open PySem PySem.Spec PyProof.Rows L2
theorem pe_xfP {X : Cx} {p : Addr × Obj} {C : Addr} {cls : Value} {d : Option Addr} {e : Expr} {te : TE} {pos : Pos} {n : Str} (T : XfC X.K C) (hno : PySem.W.findIn X.K (.ref C) n = some none) (hp : p ∈ X.pn)
    (hz : Zc cls d p.2) (hf : ∃ vs, p.2.data = .fields vs) (he : PE X e te) (hb : attributeBase e n X.env (eval e X.env) = eval e X.env := by rfl) : PE X (.Attribute e n pos) (tXf p.1 cls d C n te) := by
  refine ⟨fun pins s σ H Q I h => ?_⟩
  refine attr_of hb (thn (he.run pins s σ H _ I h) fun u s1 ⟨x, H1, I1, rx, ex, ec, dd, fs, v, ed, ea, l, q⟩ => ?_)
  subst ex
  subst ec
  subst ed
  obtain rfl : u = Value.ref p.1 := rx
  have ha := (I1.pin p (List.mem_append_left _ hp)).1
  obtain ⟨mA, hns, hr⟩ := (show ObjOk X.prog X.w H1 s1.heap dd (.xd fs) from I1.hok dd _ ea)
  obtain ⟨od, ho, hl⟩ := lookIn_ns hns
  obtain ⟨u, hu, ru⟩ := RelO.some_of (v := v) (o := mA n) (by rw [← l]; exact hr n)
  obtain ⟨vs, hv⟩ := hf
  have J : PySem.W.InstAt s1.heap p.1 p.2 C (some od) := ⟨ha, hz.1, by unfold PySem.W.notCls; rw [hv], by rw [hz.2]; exact ho⟩
  exact HandSPX.exc_get I1.kIn J T.ga T.gg T.exC (PySem.W.findObj_own T.hdC hno rfl (by rw [hl, hu])) (handed_of ru) ⟨v, H1, I1.tok _, ru, q⟩
/-- x is True, x is False, whatever x is -/
theorem op_isB {X : Cx} : OpR X (compareOp .Is) (fun x y H Q => ∃ b, y = .bl b ∧ Q (.bl (decide (x = .bl b))) H) := by
  intro pins s σ H x y v u Q I rx ry h
  obtain ⟨b, rfl, q⟩ := h
  obtain rfl : u = Value.bool b := ry
  cases x with
  | bl a =>
    obtain rfl : v = Value.bool a := rx
    refine wpAny_is_plain rfl ⟨.bl (decide (V.bl a = V.bl b)), H, I, ?_, q⟩
    show Value.bool _ = Value.bool _
    cases a <;> cases b <;> rfl
  | int i =>
    obtain ⟨t, rfl⟩ := rx
    exact wpAny_is_plain rfl ⟨.bl (decide (V.int i = V.bl b)), H, I, rfl, q⟩
  | str i =>
    obtain ⟨t, rfl⟩ := rx
    exact wpAny_is_plain rfl ⟨.bl (decide (V.str i = V.bl b)), H, I, rfl, q⟩
  | byt i =>
    obtain ⟨t, rfl⟩ := rx
    exact wpAny_is_plain rfl ⟨.bl (decide (V.byt i = V.bl b)), H, I, rfl, q⟩
  | flt i =>
    obtain ⟨t, rfl⟩ := rx
    exact wpAny_is_plain rfl ⟨.bl (decide (V.flt i = V.bl b)), H, I, rfl, q⟩
  | non =>
    obtain rfl : v = Value.none := rx
    exact wpAny_is_plain rfl ⟨.bl (decide (V.non = V.bl b)), H, I, rfl, q⟩
  | ref a =>
    obtain rfl : v = Value.ref a := rx
    exact wpAny_is_plain rfl ⟨.bl (decide (V.ref a = V.bl b)), H, I, rfl, q⟩
  | ty n =>
    obtain rfl : v = Value.type n := rx
    exact wpAny_is_plain rfl ⟨.bl (decide (V.ty n = V.bl b)), H, I, rfl, q⟩
theorem op_isNotB {X : Cx} : OpR X (compareOp .IsNot) (fun x y H Q => ∃ b, y = .bl b ∧ Q (.bl (!decide (x = .bl b))) H) := by
  intro pins s σ H x y v u Q I rx ry h
  obtain ⟨b, rfl, q⟩ := h
  obtain rfl : u = Value.bool b := ry
  cases x with
  | bl a =>
    obtain rfl : v = Value.bool a := rx
    refine wpAny_isNot_plain rfl ⟨.bl (!decide (V.bl a = V.bl b)), H, I, ?_, q⟩
    show Value.bool _ = Value.bool _
    cases a <;> cases b <;> rfl
  | int i =>
    obtain ⟨t, rfl⟩ := rx
    exact wpAny_isNot_plain rfl ⟨.bl (!decide (V.int i = V.bl b)), H, I, rfl, q⟩
  | str i =>
    obtain ⟨t, rfl⟩ := rx
    exact wpAny_isNot_plain rfl ⟨.bl (!decide (V.str i = V.bl b)), H, I, rfl, q⟩
  | byt i =>
    obtain ⟨t, rfl⟩ := rx
    exact wpAny_isNot_plain rfl ⟨.bl (!decide (V.byt i = V.bl b)), H, I, rfl, q⟩
  | flt i =>
    obtain ⟨t, rfl⟩ := rx
    exact wpAny_isNot_plain rfl ⟨.bl (!decide (V.flt i = V.bl b)), H, I, rfl, q⟩
  | non =>
    obtain rfl : v = Value.none := rx
    exact wpAny_isNot_plain rfl ⟨.bl (!decide (V.non = V.bl b)), H, I, rfl, q⟩
  | ref a =>
    obtain rfl : v = Value.ref a := rx
    exact wpAny_isNot_plain rfl ⟨.bl (!decide (V.ref a = V.bl b)), H, I, rfl, q⟩
  | ty n =>
    obtain rfl : v = Value.type n := rx
    exact wpAny_isNot_plain rfl ⟨.bl (!decide (V.ty n = V.bl b)), H, I, rfl, q⟩
end Cl

namespace Cl
open PySem PySem.Spec PyProof.Rows L2
/-! ## d.pop(k), a dict whose keys are tuples, the key being there -/
section
variable {K : Type} [DecidableEq K] {prog : Program} {w : World} {knd : HeapKind prog w K}
theorem meetsPop1 {d b : Addr} {k : K} (hd : (d == sysModules) = false) :
    MeetsIn prog w (Builtin.«dict.pop» ⟨[.ref d, .ref b], []⟩) (fun A R s => ∃ xs, knd.room A.in1 ∧ knd.is s.heap k b ∧ s.heap.DictOfH knd d xs ∧ xs.length ≤ sizeLine ∧
      ∃ p, atKey xs k = some p ∧ ∀ h' tk, h'.DictOfH knd d (DT.dropH xs k) → Heap.SameBut d s.heap h' → R (.ok (.ret p.2)) { s with heap := h', toks := tk }) :=
  .of_wp fun A R s ⟨xs, hu, hkey, hm, hsz, p0, hp0, hsome⟩ => by
    obtain ⟨o, es, ep, ho, hc, hdat, he, his, hn⟩ := id hm
    have hes : es.size = xs.length := size_of_entries he
    have hpart : (keyPart (Value.ref b)).isSome = false := rfl
    unfold Builtin.«dict.pop»
    refine wpAny_bind ?_
    unfold Builtin.Dict.keyAndDefault
    refine wpAny_bind (wpAny_notOrdered_dict hm.typeIs ?_)
    show wpAny _ _ (pure (d, Value.ref b, none)) _ _ s
    refine wpAny_pure ?_
    simp only [hpart, Bool.false_eq_true, if_false]
    refine wpAny_bind (wpAny_dictEntries ho hdat (wpAny_bind (wpAny_pure ?_)))
    cases hem : es.isEmpty with
    | true =>
      have h0 : xs = [] := by
        have z : es.size = 0 := by simpa using hem
        exact List.length_eq_zero_iff.mp (by omega)
      rw [h0] at hp0
      cases hp0
    | false =>
      simp only [Bool.false_eq_true, if_false]
      refine wpAny_bind (DT.takeH hu hkey hm hsz (fun hno => ?_) fun p e hp hev h' hm' hs' => ?_)
      · rw [hno] at hp0
        cases hp0
      · simp only [Option.isNone_some, Bool.false_eq_true, if_false]
        rw [hp0] at hp
        cases hp
        exact wpAny_bind (wpAny_letGo (wpAny_pure ⟨e.val, rfl, by rw [hev]; exact hsome h' _ hm' hs'⟩))
end
section
variable {X : Cx}
def rPopT1 : V → List V → Hp → VK → Prop := fun x xs H Q => ∃ (a : Addr) (kvs : List (List L2.Key × V)) (k : List L2.Key) (b : Addr) (v : V), x = .ref a ∧ xs = [.ref b] ∧ H a = some (.dT kvs) ∧ H b = some (.tup (k.map kV)) ∧ valV kvs k = some v ∧ Q v (upd H a (.dT (dropK kvs k)))
theorem mt_popT1 (hu : X.A.units + 1 < cLine) : MtR X "dict.pop" rPopT1 := by
  intro pins s σ H x xs v us Q I rx rxs h
  obtain ⟨a, kvs, k, b, d, rfl, rfl, ha, hb, ev, q1⟩ := h
  cases rx
  obtain ⟨u1, rfl, r1⟩ := vals1 rxs
  cases r1
  obtain ⟨z, hd, xs', rel, dd⟩ := dt_of I.hok ha
  have hz : xs'.length ≤ sizeLine := by rw [← Paired.length rel]; exact z
  have r := rel.val k
  rw [ev] at r
  obtain ⟨p, hp, rv⟩ : ∃ p, atKey xs' k = some p ∧ RelV d p.2 := by
    cases e2 : atKey xs' k with
    | none =>
      rw [e2] at r
      exact (show False from r).elim
    | some p =>
      rw [e2] at r
      exact ⟨p, rfl, r⟩
  refine call_meetsIn PySem.F.slot_dict_pop dd.typeIs PySem.F.entry_dict_pop (PySem.F.args_dict_pop_2 _ _) (meetsPop1 (knd := tupleKind (mixKind X.prog X.w)) (k := k) hd)
    ⟨xs', tupleKind_room_in1 hu, key_of I.hok hb, dd, hz, p, hp, fun h' tk dd' hs => ?_⟩
  obtain ⟨o, es, ep, hq, h2, h3, h4, _, h5⟩ := dd'
  have I2 : Inv X pins σ (upd H a (.dT (dropK kvs k))) { s with heap := h', toks := tk } :=
    d_write I (by rw [ha]; exact True.intro) hs ⟨o, hq⟩ ⟨Nat.le_trans (dropK_le kvs k) z, hd, _, (L2.DX.KT_drop k rel).keeps (fun c ys ec => (by rw [upd_ne (ne_of ec ha (fun z => nomatch z))]; exact ec)), o, es, ep, hq, h2, h3, h4, h5⟩
  show EP X pins σ Q p.2 _
  exact ⟨d, _, I2, rv, q1⟩
/-! ## len(range(a, b, c)) -/
theorem rgc4b {n : Int} (h0 : 0 ≤ n) (hn : n < 10 ^ 12) : RgC 0 n 4 ((n.toNat + 3) / 4) := by
  have e : Builtin.Range.rangeSize 0 n 4 = (((n.toNat + 3) / 4 : Nat) : Int) := by
    unfold Builtin.Range.rangeSize
    rw [if_pos (by decide)]
    split <;> omega
  refine ⟨by decide, by decide, ?_, e⟩
  have fits : ∀ z : Int, -(2 ^ 62) ≤ z → z < 2 ^ 62 → Builtin.Range.rangeFitsLong z = true := fun z h1 h2 => by
    unfold Builtin.Range.rangeFitsLong
    rw [decide_eq_true (show -(2 ^ 63) ≤ z by omega), decide_eq_true (show z < 2 ^ 63 by omega)]
    rfl
  unfold Builtin.Range.small
  rw [e]
  repeat rw [fits _ (by omega) (by omega)]
  simp
def rangeO (p : Addr) (a b c : Int) : HO := .ext fun h => ∃ t u v, IsRange h p a b c t u v
theorem rangeO_ok {P : Program} {w : World} {H : Hp} {h : Heap} {p : Addr} {a b c : Int} {t u v : Tok} (e : IsRange h p a b c t u v) : ObjOk P w H h p (rangeO p a b c) :=
  ⟨⟨_, _, _, e⟩, ⟨_, e⟩, fun h1 h2 x k => let ⟨t, u, v, r⟩ := x; ⟨t, u, v, k _ r⟩⟩
def rRange3 : List V → Hp → VK → Prop := fun xs H Q => ∃ (i j c : Int) (n : Nat), xs = [.int i, .int j, .int c] ∧ RgC i j c n ∧ ∀ p, H p = none → Q (.ref p) (upd H p (rangeO p i j c))
theorem call_range3 : CallR X (.type "range") rRange3 := by
  intro pins s σ H xs us Q I r h
  obtain ⟨i, j, c, n, rfl, ⟨c0, c1, c2, c3⟩, q⟩ := h
  cases r with
  | cons r rr =>
    cases rr with
    | cons r' rr =>
      cases rr with
      | cons r'' rr =>
        cases rr
        obtain ⟨t, rfl⟩ := r
        obtain ⟨t', rfl⟩ := r'
        obtain ⟨t'', rfl⟩ := r''
        refine call_range_3 c0 ?_ (.inl (PyProof.noPylong_small c1))
        exact ⟨.ref s.heap.objs.size, upd H s.heap.objs.size (rangeO s.heap.objs.size i j c), I.laid (t' := s.toks) (fun b u e => Heap.get?_push_of_some _ e) (Nat.le_refl _) (rangeO_ok (IsRange.new ..)), rfl, q _ (I.hok.fresh (Nat.le_refl _))⟩
def rLenRg : List V → Hp → VK → Prop := fun xs H Q => ∃ (p : Addr) (i j c : Int) (n : Nat), xs = [.ref p] ∧ H p = some (rangeO p i j c) ∧ RgC i j c n ∧ (n : Int) < 2 ^ 62 ∧ Q (.int n) H
theorem call_lenRg : CallR X (.builtin "len") rLenRg := by
  intro pins s σ H xs us Q I r h
  obtain ⟨p, i, j, c, n, rfl, hp, ⟨_, _, _, c3⟩, hn, q⟩ := h
  obtain ⟨u, rfl, ru⟩ := vals1 r
  cases ru
  obtain ⟨⟨t, u, v, hr⟩, _, _⟩ := (show ObjOk X.prog X.w H s.heap p (rangeO p i j c) from I.hok p _ hp)
  refine call_len_range hr c3 (by omega) ⟨.int n, H, I.tok _, ⟨_, rfl⟩, q⟩
/-! ## xs[::-1] -/
theorem vals_rev : ∀ {xs : List V} {us : List Value}, Vals xs us → Vals xs.reverse us.reverse
  | _, _, .nil => .nil
  | _, _, .cons h t => by
    rw [List.reverse_cons, List.reverse_cons]
    exact (vals_rev t).append (.cons h .nil)
theorem pick_back (items : Array Value) : slicePick items none none (some (-1)) = items.reverse := by
  have e1 : (sliceBounds none none (some (-1)) items.size) = ((items.size : Int) - 1, -1, -1) := rfl
  have e2 : sliceRange ((items.size : Int) - 1) (-1) (-1) = (List.range items.size).reverse := by
    unfold sliceRange
    have ec : (if (-1 : Int) > 0 then (if (items.size : Int) - 1 < -1 then (-1 - ((items.size : Int) - 1) + -1 - 1) / -1 else 0) else (if (items.size : Int) - 1 > -1 then ((items.size : Int) - 1 - -1 - -1 - 1) / (- -1) else 0)) = (items.size : Int) := by
      rw [if_neg (by decide)]
      by_cases c : (items.size : Int) - 1 > -1
      · rw [if_pos c]
        have e : ((items.size : Int) - 1 - -1 - -1 - 1) = items.size := by omega
        rw [e]
        exact Int.ediv_one _
      · rw [if_neg c]
        omega
    dsimp only
    rw [ec, Int.toNat_natCast]
    refine List.ext_getElem (by simp) fun i h1 h2 => ?_
    rw [List.getElem_map, List.getElem_range, List.getElem_reverse, List.getElem_range]
    simp only [List.length_map, List.length_range] at h1 ⊢
    omega
  have e3 : (List.range items.size).filterMap (fun i => items[i]?) = items.toList := by
    have := List.filterMap_getElem?_range_length items.toList
    simpa using this
  unfold slicePick
  rw [e1]
  dsimp only
  rw [e2, List.filterMap_reverse, e3]
  obtain ⟨l⟩ := items
  rw [List.reverse_toArray]
def tRev (K : PySem.W.Frag) (te : TE) (ts : TO) : TE := fun σ H Q => te σ H fun x H1 => ts σ H1 fun o H2 => o = some (-1) ∧ ∃ a xs, x = .ref a ∧ SqL K H2 a xs ∧ ∀ p, H2 p = none → Q (.ref p) (upd H2 p (.lst xs.reverse))
variable {e st : Expr} {te : TE} {ts : TO} {pos p2 : Pos}
theorem pe_rev (K : PySem.W.Frag) (he : PE X e te) (hs : PO X (some st) ts) (hK : X.K = K := by rfl) : PE X (.Subscript e (.Slice none none (some st) p2) pos) (tRev K te ts) := by
  subst hK
  refine ⟨fun pins s σ H Q I h => ?_⟩
  refine Subscript_ (thn (he.run pins s σ H _ I h) fun v s1 ⟨x, H1, I1, r1, q1⟩ => ?_)
  refine wpAny_Slice ?_
  rw [evalPart_none]
  refine wpAny_pure (wpAny_pure ?_)
  refine thn (hs.run pins s1 σ H1 _ I1 q1) fun vs s3 ⟨o, H3, I3, ps, eo, a, xs, ex, hx, q3⟩ => ?_
  subst ex
  subst eo
  cases r1
  have I4 : Inv X pins σ H3 { s3 with heap := s3.heap.push { cls := .type "slice", data := .fields #[.none, .none, vs] } } := I3.kept (t' := s3.toks) fun b ob q => Heap.get?_push_of_some _ q
  obtain ⟨its, r, ht, hz⟩ := I4.list hx
  have hlen := r.length
  refine tail_any (ops := [.ref a, .ref s3.heap.objs.size]) ht.isList.typeIs slot_list_getitem.lookup ?_ (by with_unfolding_all rfl)
  refine wpAny_getItem_list_slice ht.isList (Heap.IsSliceOf.new ..) .none .none ps (by simp) ?_ (by rw [List.size_toArray] <;> omega)
  rw [pick_back, List.reverse_toArray]
  refine ⟨.ref _, _, I4.laid (t' := s3.toks) (o := .lst xs.reverse) (fun b ob q => Heap.get?_push_of_some _ q) (Nat.le_refl _) ?_, rfl, q3 _ (I4.hok.fresh (Nat.le_refl _))⟩
  exact ⟨by rw [List.length_reverse]; exact hz, _, 0, vals_rev r, Heap.get?_push_size _ rfl⟩
end
end Cl
namespace Cl
open PySem PySem.Spec PyProof.Rows L2
/-! ## a dict whose keys are tuples, asked by any tuple -/
section
variable {X : Cx} {o e : Expr} {apos cpos pos : Pos} {td ty : TE}
theorem key_sq {pins : List (Addr × Obj)} {σ : L2.St} {H : Hp} {s : Shared} {b : Addr} {ks : List Key} (I : Inv X pins σ H s) (h : SqT X.K H b (ks.map kV)) : (tupleKind (mixKind X.prog X.w)).is s.heap ks b := by
  obtain ⟨its, r, ⟨o, h1, h2, n, h3⟩, _⟩ := I.tuple h
  exact ⟨o, its.toArray, n, h1, h2, h3, by simpa using items_are r⟩
def tDGet1S (K : PySem.W.Frag) (td ty : TE) : TE := fun σ H Q => td σ H fun x H1 => ∃ a, x = .ref a ∧ IsD H1 a ∧ ty σ H1 fun y H2 => ∃ kvs k b, H2 a = some (.dT kvs) ∧ y = .ref b ∧ SqT K H2 b (k.map kV) ∧ Q ((valV kvs k).getD .non) H2
theorem pe_dget1S (K : PySem.W.Frag) (hu : X.A.units + 1 < cLine) (ho : PE X o td) (he : PE X e ty) (m : M1 X o "get" apos e cpos) (hK : X.K = K := by rfl) : PE X (.Call (.Attribute o "get" apos) [e] [] cpos) (tDGet1S K td ty) := by
  subst hK
  refine ⟨fun pins s σ H Q I h => ?_⟩
  refine wpAny_Call_method m.base m.few m.line PySem.F.plainAttrs_dict PySem.F.slot_dict_get PySem.F.type_dict_get (thn (ho.run pins s σ H _ I h) fun u s1 ⟨x, H1, I1, rx, a, ex, d, q1⟩ => ?_)
  subst ex
  obtain rfl : u = Value.ref a := rx
  obtain ⟨t1, t2, _⟩ := isD_at I1 d
  refine ⟨t1, t2, ?_⟩
  rw [m.trees]
  refine Calls.callWith_builtin rfl (Calls.evalArgs_plain (Calls.spliced_cons (thn (he.run pins s1 σ H1 _ I1 q1) fun iv s2 ⟨y, H2, I2, ry, kvs, k, b, ea, ey, hb, q2⟩ => Calls.spliced_nil ?_)))
  subst ey
  cases (show iv = Value.ref b from ry)
  obtain ⟨z, hd, xs, rel, dd⟩ := dt_of I2.hok ea
  refine call_meetsIn PySem.F.slot_dict_get dd.typeIs PySem.F.entry_dict_get (PySem.F.args_dict_get_2 _ _) (meetsH_dict_get (tupleKind (mixKind X.prog X.w)) a b hd) ⟨tupleKind_room_in1 hu, k, xs, key_sq I2 hb, dd, ?_⟩
  exact ⟨(valV kvs k).getD .non, H2, I2.tok _, (rel.val k).getD (d := V.non) rfl, q2⟩
def tDGetS (K : PySem.W.Frag) (td ty : TE) : TE := fun σ H Q => td σ H fun x H1 => ty σ H1 fun y H2 => ∃ a kvs k b v, x = .ref a ∧ H2 a = some (.dT kvs) ∧ y = .ref b ∧ SqT K H2 b (k.map kV) ∧ valV kvs k = some v ∧ Q v H2
theorem pe_dgetS (K : PySem.W.Frag) (hu : X.A.units + 1 < cLine) (ho : PE X o td) (hi : PE X e ty) (hs : NoSl e) (hK : X.K = K := by rfl) : PE X (.Subscript o e pos) (tDGetS K td ty) := by
  subst hK
  refine ⟨fun pins s σ H Q I h => ?_⟩
  refine subD_of PySem.F.slot_dict_getitem.lookup hs (thn (ho.run pins s σ H _ I h) fun u s1 ⟨x, H1, I1, rx, q1⟩ => thn (hi.run pins s1 σ H1 _ I1 q1) fun iv s2 ⟨y, H2, I2, ry, a, kvs, k, b, v, ex, ea, ey, hb, l, q2⟩ => ?_)
  subst ex
  subst ey
  obtain rfl : u = Value.ref a := rx
  cases (show iv = Value.ref b from ry)
  obtain ⟨z, hd, xs, rel, dd⟩ := dt_of I2.hok ea
  refine ⟨dd.typeIs, ?_⟩
  obtain ⟨w', hw, rw'⟩ := RelO.some_of (v := v) (o := (atKey xs k).map (·.2)) (by rw [← l]; exact rel.val k)
  obtain ⟨p, hp, hp2⟩ := Option.map_eq_some_iff.mp hw
  refine wpAny_getItem_heap (tupleKind_room_in1 hu) (key_sq I2 hb) dd hp ?_
  rw [hp2]
  exact ⟨v, H2, I2.tok _, rw', q2⟩
end
end Cl
namespace Cl
open PySem PySem.Spec PyProof.Rows L2
theorem seq_c {v : V} {i : Nat} {rest : L2.TS} {D : Ends} {σ : L2.St} {H : Hp} (h : rest D (σ.set i (some v)) H) : tSeq (tAsg (tC v) (gName i)) rest D σ H := h
theorem use_ifSeqR {tc : TT} {ta tb rest : L2.TS} {σ : L2.St} {H : Hp} {D : Ends} (Pv : L2.St → Hp → Prop) (h1 : ∀ N : L2.St → Hp → Prop, (∀ σ H1, Pv σ H1 → N σ H1) → tIfS tc ta tb { D with nx := N } σ H) (h2 : ∀ σ H1, Pv σ H1 → rest D σ H1) : tSeq (tIfS tc ta tb) rest D σ H := h1 (rest D) h2
end Cl

/-! ### ClSrt: sorted by a strict weak order: of a list, of what a dict or a view tells -/
namespace Cl.ST
open PySem PySem.Spec PySem.Calls PySem.W PyProof.Rows L2
theorem str_ext {x y : Str} (h : x.cps.toList = y.cps.toList) : x = y := by
  obtain ⟨⟨a⟩⟩ := x
  obtain ⟨⟨b⟩⟩ := y
  cases h
  rfl
/-- of two lists of texts the one ahead -/
def lexS : List Str → List Str → Bool
  | [], [] => false
  | [], _ :: _ => true
  | _ :: _, [] => false
  | x :: xs, y :: ys => if x = y then lexS xs ys else decide (x.cps.toList < y.cps.toList)
theorem lexS_asym : ∀ x y : List Str, lexS x y = true → lexS y x = false
  | [], [], h => rfl
  | [], _ :: _, _ => rfl
  | _ :: _, [], h => by cases h
  | a :: x, b :: y, h => by
    unfold lexS at h ⊢
    by_cases e : a = b
    · rw [if_pos e] at h
      rw [if_pos e.symm]
      exact lexS_asym x y h
    · rw [if_neg e] at h
      rw [if_neg (fun q => e q.symm)]
      exact decide_eq_false fun q => List.lt_irrefl _ (List.lt_trans (of_decide_eq_true h) q)
theorem nats_total {a b : List Nat} (h1 : ¬ a < b) (h2 : ¬ b < a) : a = b := List.le_antisymm (List.not_lt.mp h2) (List.not_lt.mp h1)
theorem lexS_tr : ∀ x y z : List Str, lexS y x = false → lexS z y = false → lexS z x = false
  | [], _, [], _, _ => rfl
  | [], _, _ :: _, _, _ => rfl
  | _ :: _, [], _, h, _ => by cases h
  | _ :: _, _ :: _, [], _, h => by cases h
  | a :: x, b :: y, c :: z, h1, h2 => by
    unfold lexS at h1 h2 ⊢
    by_cases e1 : b = a
    · rw [if_pos e1] at h1
      by_cases e2 : c = b
      · rw [if_pos e2] at h2
        rw [if_pos (e2.trans e1)]
        exact lexS_tr x y z h1 h2
      · rw [if_neg e2] at h2
        rw [if_neg (fun q => e2 (q.trans e1.symm)), ← e1]
        exact h2
    · rw [if_neg e1] at h1
      have h1' := List.not_lt.mp (of_decide_eq_false h1)
      by_cases e2 : c = b
      · rw [if_pos e2] at h2
        rw [e2, if_neg e1]
        exact h1
      · rw [if_neg e2] at h2
        have h2' := List.not_lt.mp (of_decide_eq_false h2)
        by_cases e3 : c = a
        · exact absurd (str_ext (List.le_antisymm (e3 ▸ h2') h1')) e1
        · rw [if_neg e3]
          exact decide_eq_false (List.not_lt.mpr (List.le_trans h1' h2'))
/-- a text and a number, one pair ahead of another -/
def ltSI (p q : Str × Int) : Bool := if p.1 = q.1 then decide (p.2 < q.2) else decide (p.1.cps.toList < q.1.cps.toList)
theorem ltSI_asym (p q : Str × Int) (h : ltSI p q = true) : ltSI q p = false := by
  unfold ltSI at h ⊢
  by_cases e : p.1 = q.1
  · rw [if_pos e] at h
    rw [if_pos e.symm]
    have := of_decide_eq_true h
    exact decide_eq_false (by omega)
  · rw [if_neg e] at h
    rw [if_neg (fun z => e z.symm)]
    exact decide_eq_false fun z => List.lt_irrefl _ (List.lt_trans (of_decide_eq_true h) z)
theorem ltSI_tr (p q r : Str × Int) (h1 : ltSI q p = false) (h2 : ltSI r q = false) : ltSI r p = false := by
  unfold ltSI at h1 h2 ⊢
  by_cases e1 : q.1 = p.1
  · rw [if_pos e1] at h1
    by_cases e2 : r.1 = q.1
    · rw [if_pos e2] at h2
      rw [if_pos (e2.trans e1)]
      have := of_decide_eq_false h1
      have := of_decide_eq_false h2
      exact decide_eq_false (by omega)
    · rw [if_neg e2] at h2
      rw [if_neg (fun z => e2 (z.trans e1.symm)), ← e1]
      exact h2
  · rw [if_neg e1] at h1
    have h1' := List.not_lt.mp (of_decide_eq_false h1)
    by_cases e2 : r.1 = q.1
    · rw [e2, if_neg e1]
      exact h1
    · rw [if_neg e2] at h2
      have h2' := List.not_lt.mp (of_decide_eq_false h2)
      by_cases e3 : r.1 = p.1
      · exact absurd (str_ext (List.le_antisymm (e3 ▸ h2') h1')) e1
      · rw [if_neg e3]
        exact decide_eq_false (List.not_lt.mpr (List.le_trans h1' h2'))
theorem ltSI_eq {p q : Str × Int} (h1 : ltSI p q = false) (h2 : ltSI q p = false) : p = q := by
  unfold ltSI at h1 h2
  by_cases e : p.1 = q.1
  · rw [if_pos e] at h1
    rw [if_pos e.symm] at h2
    have := of_decide_eq_false h1
    have := of_decide_eq_false h2
    exact Prod.ext e (by omega)
  · rw [if_neg e] at h1
    rw [if_neg (fun z => e z.symm)] at h2
    exact absurd (str_ext (nats_total (of_decide_eq_false h1) (of_decide_eq_false h2))) e
/-- two sorted lists of the same things are one -/
theorem srt_uniq {α : Type} {lt : α → α → Bool} (an : ∀ x y, lt x y = false → lt y x = false → x = y) : ∀ {l m : List α}, SrtO.Srtd lt l → SrtO.Srtd lt m → l.Perm m → l = m
  | [], m, _, _, h => h.symm.eq_nil.symm
  | x :: l, [], _, _, h => absurd h.length_eq (by simp)
  | x :: l, y :: m, hl, hm, h => by
    have e : x = y := by
      rcases List.mem_cons.mp (h.mem_iff.mp (List.mem_cons_self (a := x) (l := l))) with e | hx
      · exact e
      · rcases List.mem_cons.mp (h.mem_iff.mpr (List.mem_cons_self (a := y) (l := m))) with e | hy
        · exact e.symm
        · exact an _ _ (SrtO.srtd_head hm x hx) (SrtO.srtd_head hl y hy)
    subst e
    rw [srt_uniq an (List.pairwise_cons.mp hl).2 (List.pairwise_cons.mp hm).2 h.cons_inv]
theorem swo_of {α β : Type} {lt : β → β → Bool} (k : α → β) (as : ∀ x y, lt x y = true → lt y x = false) (tr : ∀ x y z, lt y x = false → lt z y = false → lt z x = false) : SrtO.Swo fun v u : α => lt (k v) (k u) := ⟨fun x y h => as _ _ h, fun x y z h1 h2 => tr _ _ _ h1 h2⟩
/-! the pieces of a sort -/
abbrev CmpAll (X : Cx) (s : Shared) (acc : List Value) (ltv : Value → Value → Bool) : Prop := ∃ κ, (∀ (Q : SortKind → Shared → Prop) (E : Value → Shared → Prop), Q κ s → wpAny (model X.prog X.w) X.A.in1.in1 (keyKind' acc.toArray) Q E s) ∧ SrtO.Cmp X.prog X.w X.A.in1.in1 s κ (fun p => p.1 ∈ acc) (SrtO.lt2 ltv)
theorem sortedC {X : Cx} {pins : List (Addr × Obj)} {s : Shared} {σ : L2.St} {H : Hp} {Q : VK} {T : String} {r d : Addr} {n : Nat} {P : Nat → Value → Prop} {OK : Heap → Prop} {ltv : Value → Value → Bool} (I : Inv X pins σ H s) (Kd : KdlSrc X.prog X.w T r d n P OK) (hh : X.A.handled = none) (hok : OK s.heap) (hn : n ≤ sizeLine) (O : SrtO.Swo ltv)
    (hS : ∀ (acc : List Value) (h₁ : Heap) (tk : Nat), (∀ b o, s.heap.get? b = some o → h₁.get? b = some o) → acc.length = n → (∀ j v, acc[j]? = some v → P j v) → 2 ≤ acc.length → CmpAll X { s with heap := h₁, toks := tk } acc ltv)
    (q : ∀ (acc out : List Value) (p : Addr), acc.length = n → (∀ j v, acc[j]? = some v → P j v) → SrtO.Srtd ltv out → SrtO.Stb ltv out acc → H p = none → ∃ xs, Vals xs out ∧ Q (.ref p) (upd H p (.lst xs))) :
    wpAny (model X.prog X.w) X.A (call (.builtin "sorted") [.ref r]) (EP X pins σ Q) X.xe s := by
  refine Calls.call_function_entry PyProof.Rows.kind_sorted PyProof.Rows.plain_sorted PyProof.Rows.entry_sorted (PyProof.Rows.args_sorted1 _) ?_
  unfold Builtin.«sorted»
  refine wpAny_bind (m := checkCount "sorted" 1 1 _) (wpAny_pure ?_)
  refine wpAny_bind (PySem.W.kdu_collect (A := X.A.in1) Kd hh hok hn fun h' tk acc hk hacc => ?_)
  have hal : acc.toList.length = n := by rw [Array.length_toList, hacc.1]
  have hP : ∀ j v, acc.toList[j]? = some v → P j v := fun j v e => hacc.2 j v (by rw [← Array.getElem?_toList]; exact e)
  have I1 : Inv X pins σ H { s with heap := h', toks := tk } := I.kept hk
  refine wpAny_bind (wpAny_newList ?_ (by rw [hal]; exact hn))
  have hoL : (h'.push (seqObj "list" acc.toList.toArray 0)).get? h'.objs.size = some (seqObj "list" acc.toList.toArray 0) := Heap.get?_push_size _ rfl
  show wpAny _ _ _ _ _ { s with heap := h'.push (seqObj "list" acc.toList.toArray 0), toks := tk }
  have kk : ∀ b o, s.heap.get? b = some o → b ≠ h'.objs.size ∧ (h'.push (seqObj "list" acc.toList.toArray 0)).get? b = some o := fun b o e => ⟨Nat.ne_of_lt (Heap.lt_size (hk b o e)), Heap.get?_push_of_some _ (hk b o e)⟩
  refine wpAny_bind (wpAny_holding (wpAny_call_entry PyProof.Rows.slot_list_sort ⟨_, hoL, rfl⟩ PyProof.Rows.entry_list_sort
    (SrtO.list_sort_ord (s := { s with heap := h'.push (seqObj "list" acc.toList.toArray 0), toks := tk }) O hoL (by rw [hal]; exact hn) (fun h2 h1 keep => hS acc.toList h1 tk (fun b o e => keep b o (kk b o e).1 (kk b o e).2) hal hP h2) fun out g1 g2 => ⟨_, rfl, ?_⟩) (PyProof.Rows.args_list_sort _)))
  obtain ⟨e', he'⟩ := PyProof.Rows.sortedHeap_at (vs := acc.toList) (out := out.toArray) hoL
  obtain ⟨xs, rv, qq⟩ := q acc.toList out h'.objs.size hal hP g1 g2 (I1.hok.fresh (Nat.le_refl _))
  have hlen : xs.length ≤ sizeLine := by rw [rv.length, g2.len, hal]; exact hn
  refine wpAny_pure ⟨_, rfl, .ref h'.objs.size, upd H h'.objs.size (.lst xs), I1.laid (t' := tk) (fun b u e => ?_) (Nat.le_refl _)
    (show ObjOk X.prog X.w _ _ _ (.lst xs) from ⟨hlen, out, e', rv, he'⟩), rfl, qq⟩
  have hb : b < h'.objs.size := Heap.lt_size e
  rw [PyProof.Rows.sortedHeap_old (Nat.ne_of_lt hb) (by rw [size_push']; exact Nat.lt_succ_of_lt hb)]
  exact Heap.get?_push_of_some _ e
theorem sortedL {X : Cx} {pins : List (Addr × Obj)} {s : Shared} {σ : L2.St} {H : Hp} {Q : VK} {a : Addr} {zs : List V} {its : List Value} {ltv : Value → Value → Bool} (I : Inv X pins σ H s) (rv0 : Vals zs its) (hl : s.heap.IsList a its.toArray) (hn : its.length ≤ sizeLine) (O : SrtO.Swo ltv)
    (hS : ∀ (h₁ : Heap), (∀ b o, s.heap.get? b = some o → h₁.get? b = some o) → 2 ≤ its.length → CmpAll X { s with heap := h₁ } its ltv)
    (q : ∀ (out : List Value) (p : Addr), SrtO.Srtd ltv out → SrtO.Stb ltv out its → H p = none → ∃ xs, Vals xs out ∧ Q (.ref p) (upd H p (.lst xs))) :
    wpAny (model X.prog X.w) X.A (call (.builtin "sorted") [.ref a]) (EP X pins σ Q) X.xe s := by
  refine SrtO.sorted_ord O hl hn (fun h2 h₁ p hp kk h' keep => hS h' (fun b o e => keep b o (kk b o e).1 (kk b o e).2) h2) fun out hs hb => ?_
  obtain ⟨xs, rv, qq⟩ := q out (s.heap.objs.size + 1) hs hb (I.hok.fresh (Nat.le_succ _))
  have hlen : xs.length ≤ sizeLine := by rw [rv.length, hb.len]; exact hn
  obtain ⟨e', he'⟩ := PyProof.Rows.sortedAll_at s.heap its out.toArray
  exact ⟨.ref (s.heap.objs.size + 1), upd H (s.heap.objs.size + 1) (.lst xs), I.laid (t' := s.toks) (fun b u e => PyProof.Rows.sortedAll_old e) (Nat.le_succ _) (show ObjOk X.prog X.w _ _ _ (.lst xs) from ⟨hlen, out, e', rv, he'⟩), rfl, qq⟩
/-! kinds of keys, how they compare -/
theorem mapM_g {M : Model} {A : Around} {E : Value → Shared → Prop} {s : Shared} {α β : Type} {f : α → Sem β} (g : α → β) : ∀ (l : List α) {Q : List β → Shared → Prop}, (∀ v ∈ l, ∀ {Q' : β → Shared → Prop}, Q' (g v) s → wpAny M A (f v) Q' E s) → Q (l.map g) s → wpAny M A (l.mapM f) Q E s
  | [], Q, _, h => by
    rw [List.mapM_nil]
    exact wpAny_pure h
  | x :: l, Q, hf, h => by
    rw [List.mapM_cons]
    exact wpAny_bind (hf x (.head _) (wpAny_bind (mapM_g g l (Q := fun bs s' => wpAny M A (pure (g x :: bs)) Q E s') (fun v hv => hf v (.tail _ hv)) (wpAny_pure h))))
/-- a tuple of the heap with texts -/
def TupS (h : Heap) (v : Value) (ss : List Str) : Prop := ∃ (a : Addr) (its : List Value), v = .ref a ∧ h.IsTuple a its.toArray ∧ StrsAre its ss
theorem TupS.keeps {h h' : Heap} {v : Value} {ss : List Str} (x : TupS h v ss) (k : ∀ b o, h.get? b = some o → h'.get? b = some o) : TupS h' v ss := by
  obtain ⟨a, its, e, ⟨o, ho, hc, n, hd⟩, hs⟩ := x
  exact ⟨a, its, e, ⟨o, k _ _ ho, hc, n, hd⟩, hs⟩
def seqD : Data → Array Value
  | .seq its _ => its
  | _ => #[]
def firstV : Value → Heap → Option Value
  | .ref a, h => ((h.get? a).map fun o => seqD o.data).bind fun its => its[0]?
  | _, _ => Option.none
theorem firstV_at {h : Heap} {a : Addr} {o : Obj} {its : List Value} {n : Nat} (ho : h.get? a = some o) (hd : o.data = .seq its.toArray n) : firstV (.ref a) h = its.toArray[0]? := by
  show (((h.get? a).map fun o => seqD o.data).bind fun its => its[0]?) = _
  rw [ho, Option.map_some, hd]
  rfl
theorem kind_tups {M : Model} {A : Around} {E : Value → Shared → Prop} {s : Shared} {vs : List Value} {v0 : Value} {Q : SortKind → Shared → Prop} (h2 : 2 ≤ vs.length) (h0 : vs[0]? = some v0) (hv0 : TupS s.heap v0 []) (hT : ∀ v ∈ vs, ∃ ss, TupS s.heap v ss) (h : Q oneType' s) :
    wpAny M A (keyKind' vs.toArray) Q E s := by
  obtain ⟨v₁, v₂, rest, rfl⟩ : ∃ v₁ v₂ rest, vs = v₁ :: v₂ :: rest := by
    match vs, h2 with
    | [], h2 => simp at h2
    | [_], h2 => simp at h2
    | v₁ :: v₂ :: rest, _ => exact ⟨v₁, v₂, rest, rfl⟩
  obtain rfl : v₁ = v0 := by simpa using h0
  have ty : ∀ v ∈ v₁ :: v₂ :: rest, Looks M s.heap (typeOf v) (.type "tuple") := fun v hv => by
    obtain ⟨ss, a, its, rfl, ⟨o, ho, hc, _⟩, _⟩ := hT v hv
    rw [← hc]
    exact (Looks.ld ho).andThen .now
  have f0 : firstV v₁ s.heap = none := by
    obtain ⟨a, its, rfl, ⟨o, ho, hc, n, hd⟩, hs⟩ := hv0
    have : its = [] := by cases hs; rfl
    subst this
    rw [firstV_at ho hd]
    rfl
  rw [keyKind'_eq, List.mapM_toArray, map_eq_pure_bind]
  refine wpAny_bind (wpAny_bind (mapM_g (fun v => firstV v s.heap) _ (fun v hv Q' hq => ?_) (wpAny_pure ?_)))
  · rw [kas_first_eq]
    refine wpAny_bind ((ty v hv).here ?_)
    rw [if_neg (by decide)]
    obtain ⟨ss, a, its, rfl, ⟨o, ho, hc, n, hd⟩, _⟩ := hT v hv
    refine wpAny_bind (listItems_at ho hd (wpAny_pure ?_))
    rw [← firstV_at ho hd]
    exact hq
  · rw [if_neg (by simp [f0]), if_neg (by simp [f0])]
    rw [oneTypeOnly'_eq, List.mapM_toArray, map_eq_pure_bind]
    refine wpAny_bind (wpAny_bind (wpAny_bind (kas_mapM (r := Value.type "tuple") _ (fun v hv Q' hq => (ty v hv).here hq) (wpAny_pure ?_))))
    have hall : ((List.map (fun _ => Value.type "tuple") (v₁ :: v₂ :: rest)).toArray.all fun x => x == Value.type "tuple") = true := by
      simp only [List.all_toArray, List.all_map, List.all_eq_true]
      intro _ _
      exact show (Value.type "tuple" == Value.type "tuple") = true by decide
    have h0 : (List.map (fun _ => Value.type "tuple") (v₁ :: v₂ :: rest)).toArray[0]? = some (Value.type "tuple") := by simp
    rw [h0]
    simp only [hall, if_true]
    exact wpAny_pure (wpAny_pure h)
theorem strs_at : ∀ {vs : List Value} {ss : List Str}, StrsAre vs ss → ∀ (i : Nat) (v : Value), vs[i]? = some v → ∃ k t, ss[i]? = some k ∧ v = Value.str k t
  | _, _, .nil, i, v, h => by simp at h
  | _, _, .cons k t r, 0, v, h => ⟨k, t, rfl, by simpa using h.symm⟩
  | _, _, .cons k t r, i + 1, v, h => by
    obtain ⟨k', t', h1, h2⟩ := strs_at r i v (by simpa using h)
    exact ⟨k', t', by simpa using h1, h2⟩
theorem lexAt_S {ss ts : List Str} : ∀ (k i : Nat), i + k = min ss.length ts.length →
    Ob.lexAt (fun j => ss.getD j (Str.ofString "") == ts.getD j (Str.ofString "")) (fun j => decide ((ss.getD j (Str.ofString "")).cps.toList < (ts.getD j (Str.ofString "")).cps.toList)) (decide (ss.length < ts.length)) i k = lexS (ss.drop i) (ts.drop i)
  | 0, i, h => by
    rw [Ob.lexAt_zero]
    by_cases c : ss.length ≤ i
    · rw [List.drop_of_length_le c]
      by_cases c2 : ts.length ≤ i
      · rw [List.drop_of_length_le c2]
        exact decide_eq_false (by omega)
      · rw [List.drop_eq_getElem_cons (by omega)]
        exact decide_eq_true (by omega)
    · have c2 : ts.length ≤ i := by omega
      rw [List.drop_of_length_le c2, List.drop_eq_getElem_cons (by omega)]
      exact decide_eq_false (by omega)
  | k + 1, i, h => by
    have h1 : i < ss.length := by omega
    have h2 : i < ts.length := by omega
    rw [Ob.lexAt_succ, lexAt_S k (i + 1) (by omega), List.drop_eq_getElem_cons h1, List.drop_eq_getElem_cons h2]
    have e1 : ss.getD i (Str.ofString "") = ss[i] := by simp [h1]
    have e2 : ts.getD i (Str.ofString "") = ts[i] := by simp [h2]
    rw [e1, e2]
    show _ = if ss[i] = ts[i] then lexS (ss.drop (i + 1)) (ts.drop (i + 1)) else decide (ss[i].cps.toList < ts[i].cps.toList)
    by_cases c : ss[i] = ts[i]
    · rw [if_pos c, if_pos (by rw [c]; exact beq_self_eq_true _)]
    · rw [if_neg c, if_neg (by simp [c])]
section
variable {prog : Program} {w : World} {A : Around} {E : Value → Shared → Prop} {s : Shared}
theorem lt_tupS {v u : Value} {ss ts : List Str} {Q : Bool → Shared → Prop} (hu : A.units + 2 < cLine) (hv : TupS s.heap v ss) (hw : TupS s.heap u ts) (h : Q (lexS ss ts) s) : wpAny (model prog w) A (keyLt' oneType' v u) Q E s := by
  obtain ⟨a, its, rfl, ha, ia⟩ := hv
  obtain ⟨b, its2, rfl, hb, ib⟩ := hw
  rw [keyLt'_oneType, oneLt'_eq]
  simp only [if_true]
  refine wpAny_bind (wpAny_cRoomFor (by omega) ?_)
  have e1 : its.toArray.size = ss.length := by rw [List.size_toArray]; exact ia.length
  have e2 : its2.toArray.size = ts.length := by rw [List.size_toArray]; exact ib.length
  have at1 : ∀ j (h1 : j < its.toArray.size), ∃ t, its.toArray[j] = .str (ss.getD j (Str.ofString "")) t := fun j h1 => by
    obtain ⟨k, t, hk, he⟩ := strs_at ia j (its.toArray[j]) (by simp at h1; simp [h1])
    exact ⟨t, by rw [he]; congr 1; simp [hk]⟩
  have at2 : ∀ j (h1 : j < its2.toArray.size), ∃ t, its2.toArray[j] = .str (ts.getD j (Str.ofString "")) t := fun j h1 => by
    obtain ⟨k, t, hk, he⟩ := strs_at ib j (its2.toArray[j]) (by simp at h1; simp [h1])
    exact ⟨t, by rw [he]; congr 1; simp [hk]⟩
  have L := lexAt_S (ss := ss) (ts := ts) (min ss.length ts.length) 0 (by omega)
  rw [List.drop_zero, List.drop_zero] at L
  obtain ⟨⟨cls, dd, data, sl⟩, ho, hc, n, hd⟩ := id ha
  obtain ⟨⟨cls2, dd2, data2, sl2⟩, ho2, hc2, n2, hd2⟩ := id hb
  simp only at hc hd hc2 hd2
  subst hc hd hc2 hd2
  refine wpAny_bind (wpAny_callSpecialIfBound?_slot (T := "tuple") ⟨_, ho, rfl⟩ PySem.F.slot_tuple_lt (PySem.call_meets PySem.F.slot_tuple_lt ⟨_, ho, rfl⟩ PySem.F.entry_tuple_lt (PySem.F.args_tuple_lt_2 _ _)
    (Ob.tuple_ltAt a b its.toArray its2.toArray n n2 dd dd2 sl sl2 (fun j => ss.getD j (Str.ofString "") == ts.getD j (Str.ofString "")) (fun j => decide ((ss.getD j (Str.ofString "")).cps.toList < (ts.getD j (Str.ofString "")).cps.toList)))
    ⟨ho, ho2, fun j h1 h2 => ?_, fun j h1 h2 _ => ?_, ?_⟩))
  · obtain ⟨t, et⟩ := at1 j h1
    obtain ⟨t', et'⟩ := at2 j h2
    rw [et, et']
    exact SeqAt.EqAt.str_str _ _ _ _
  · obtain ⟨t, et⟩ := at1 j h1
    obtain ⟨t', et'⟩ := at2 j h2
    rw [et, et']
    exact fun _ _ _ _ h => P.lt_str h
  · rw [e1, e2, L]
    exact wpAny_truthy_bool h
end
section
variable {X : Cx}
/-- sorted(d), the keys tuples of texts, the first one () -/
def rSortedDT : List V → Hp → VK → Prop := fun xs H Q => ∃ (a : Addr) (kvs : List (List L2.Key × V)) (ks : List (List Str)), xs = [.ref a] ∧ H a = some (.dT kvs) ∧ kvs.map (·.1) = ([] :: ks).map (fun k => k.map Sum.inr) ∧
  ∀ (zs : List (Addr × List Str)) (p : Addr), (zs.map (·.2)).Perm ([] :: ks) → (∀ z ∈ zs, H z.1 = some (.tup (z.2.map V.str))) → H p = none → Q (.ref p) (upd H p (.lst (zs.map fun z => V.ref z.1)))
def keyOfV (kk : List (Addr × List Str)) : Value → List Str
  | .ref a => ((kk.find? fun q => decide (q.1 = a)).map (·.2)).getD []
  | _ => []
theorem cr_sortedDT (hc : X.calm = true) (hu : X.A.units + 64 < cLine) : CallR X (.builtin "sorted") rSortedDT := by
  intro pins s σ H xs us Q I r h
  obtain ⟨a, kvs, ks, rfl, ha, hks, q⟩ := h
  obtain ⟨u, rfl, rx⟩ := r.one
  cases rx
  obtain ⟨z, hs, xs', pr, o, es, ep, ho, hx, hdt, he, hn⟩ := (show ObjOk X.prog X.w H s.heap a (.dT kvs) from I.hok a _ ha)
  have l1 : es.size = xs'.length := size_of_entries he
  have l2 : kvs.length = xs'.length := Paired.length pr
  have l3 : kvs.length = ks.length + 1 := by
    have := congrArg List.length hks
    simpa using this
  have hh : X.A.handled = none := I.ok.hd hc
  -- the keys' addresses with their texts
  have kx : xs'.map (·.1) = ([] :: ks).map (fun k => k.map Sum.inr) := by
    rw [← hks]
    clear he hn hks l1 l2 l3 q ha
    induction pr with
    | nil => rfl
    | cons f _ ih => rw [List.map_cons, List.map_cons, ← f.1, ih (by simpa using Nat.le_of_succ_le z)]
  have pz : ∀ (j : Nat) (x : List L2.Key × Addr × Value), xs'[j]? = some x → ∃ t, ([] :: ks)[j]? = some t ∧ x.1 = t.map Sum.inr ∧ H x.2.1 = some (.tup (t.map V.str)) := by
    intro j x hj
    have e : (xs'.map (·.1))[j]? = (([] :: ks).map (fun k => k.map Sum.inr))[j]? := by rw [kx]
    rw [List.getElem?_map, hj, List.getElem?_map] at e
    cases ht : ([] :: ks)[j]? with
    | none =>
      rw [ht] at e
      cases e
    | some t =>
      rw [ht] at e
      have e' : x.1 = t.map Sum.inr := Option.some.inj e
      refine ⟨t, rfl, e', ?_⟩
      obtain ⟨kv, _, h1, h2, _⟩ := L2.DX.pget pr hj
      rw [h1, e'] at h2
      have : (t.map Sum.inr).map kV = t.map V.str := by rw [List.map_map]; rfl
      rw [this] at h2
      exact h2
  have hP : ∀ (acc : List Value), acc.length = es.size → (∀ (j : Nat) (v : Value), acc[j]? = some v → ∃ en : DictEntry, es[j]? = some en ∧ v = en.key) → acc = xs'.map fun x => Value.ref x.2.1 := by
    intro acc hl hp
    apply List.ext_getElem?
    intro j
    rw [List.getElem?_map]
    cases hj : acc[j]? with
    | none =>
      have h1 := List.getElem?_eq_none_iff.mp hj
      rw [List.getElem?_eq_none (by omega)]
      rfl
    | some v =>
      obtain ⟨en, hen, hv⟩ := hp j v hj
      have qe := entry_at he j
      rw [hen] at qe
      cases hb : xs'[j]? with
      | none =>
        rw [hb] at qe
        exact nomatch (show some en = none from qe)
      | some b =>
        rw [hb] at qe
        have e2 : en = entryOfKey (tupleKind (mixKind X.prog X.w)) b := Option.some.inj qe
        rw [hv, e2]
        rfl
  have tS : ∀ x ∈ xs', ∃ t, H x.2.1 = some (.tup (t.map V.str)) ∧ TupS s.heap (.ref x.2.1) t := by
    intro x hx'
    obtain ⟨j, hj⟩ := List.mem_iff_getElem?.mp hx'
    obtain ⟨t, _, _, ht⟩ := pz j x hj
    obtain ⟨_, its, rv, p⟩ := I.hok _ _ ht
    exact ⟨t, ht, x.2.1, its, rfl, p, Vals.strs rv⟩
  let kf : Value → List Str := fun v => match v with
    | .ref b => match H b with
      | some (.tup ys) => ys.map fun y => match y with
        | .str t => t
        | _ => Str.ofString ""
      | _ => []
    | _ => []
  have kfE : ∀ (b : Addr) (t : List Str), H b = some (.tup (t.map V.str)) → kf (.ref b) = t := by
    intro b t hb
    show (match H b with
      | some (.tup ys) => ys.map fun y => match y with
        | .str t => t
        | _ => Str.ofString ""
      | _ => []) = t
    rw [hb]
    show (t.map V.str).map _ = t
    rw [List.map_map]
    exact (List.map_congr_left fun _ _ => rfl).trans (List.map_id t)
  have tA : ∀ v ∈ xs'.map (fun x => Value.ref x.2.1), TupS s.heap v (kf v) := by
    intro v hv
    obtain ⟨x, hx', rfl⟩ := List.mem_map.mp hv
    obtain ⟨t, h1, h2⟩ := tS x hx'
    rw [kfE _ _ h1]
    exact h2
  refine sortedC (P := fun i v => ∃ en : DictEntry, es[i]? = some en ∧ v = en.key) I (kdl_raw hs hx hdt) hh ho (by omega) (swo_of kf lexS_asym lexS_tr) (fun acc h₁ tk keep hl hp h2 => ?_) fun acc out p hl hp o1 o2 hpn => ?_
  · have ea := hP acc hl hp
    have tK : ∀ v ∈ acc, TupS h₁ v (kf v) := fun v hv => (tA v (ea ▸ hv)).keeps keep
    refine ⟨oneType', fun Q' E' hq => ?_, fun p q hp' hq' => ?_⟩
    · cases hx0 : xs' with
      | nil =>
        rw [hx0] at l2
        rw [l3] at l2
        cases l2
      | cons x0 r =>
        obtain ⟨t, ht, _, hH⟩ := pz 0 x0 (by rw [hx0]; rfl)
        have e0 : t = [] := (Option.some.inj ht).symm
        have ha0 : acc[0]? = some (.ref x0.2.1) := by rw [ea, hx0]; rfl
        refine kind_tups (s := { s with heap := h₁, toks := tk }) (v0 := .ref x0.2.1) h2 ha0 ?_ (fun v hv => ⟨_, tK v hv⟩) hq
        have := tK _ (List.mem_of_getElem? ha0)
        rw [kfE _ _ hH, e0] at this
        exact this
    · exact lt_tupS (s := { s with heap := h₁, toks := tk }) (Q := fun r s' => s' = _ ∧ r = lexS (kf p.1) (kf q.1)) (E := fun _ _ => False) (by have : X.A.in1.in1.units = X.A.units + 2 := rfl; omega) (tK _ hp') (tK _ hq') ⟨rfl, rfl⟩
  · have ea := hP acc hl hp
    have pm := o2.perm
    rw [ea] at pm
    have hr : ∀ v ∈ out, ∃ x ∈ xs', v = Value.ref x.2.1 := fun v hv => by
      obtain ⟨x, hx', e⟩ := List.mem_map.mp (pm.mem_iff.mp hv)
      exact ⟨x, hx', e.symm⟩
    let ad : Value → Addr := fun v => match v with
      | .ref b => b
      | _ => 0
    have eo : out.map (fun v => Value.ref (ad v)) = out := (List.map_congr_left fun v hv => by
      obtain ⟨x, _, rfl⟩ := hr v hv
      rfl).trans (List.map_id out)
    have q' := q (out.map fun v => (ad v, kf v)) p ?_ (fun z' hz' => ?_) hpn
    · rw [List.map_map] at q'
      refine ⟨_, ?_, q'⟩
      have : Vals (out.map fun v => V.ref (ad v)) (out.map fun v => Value.ref (ad v)) := by
        clear q' eo hr pm o1 o2
        induction out with
        | nil => exact .nil
        | cons v r ih => exact .cons rfl ih
      rw [eo] at this
      exact this
    · rw [List.map_map]
      have p2 := pm.map kf
      rw [List.map_map] at p2
      have e3 : xs'.map (kf ∘ fun x => Value.ref x.2.1) = [] :: ks := by
        apply List.ext_getElem?
        intro j
        rw [List.getElem?_map]
        cases hj : xs'[j]? with
        | none =>
          have h1 := List.getElem?_eq_none_iff.mp hj
          rw [List.getElem?_eq_none (by rw [List.length_cons]; omega)]
          rfl
        | some x =>
          obtain ⟨t, ht, _, hH⟩ := pz j x hj
          rw [ht]
          show some (kf (.ref x.2.1)) = some t
          rw [kfE _ _ hH]
      rw [e3] at p2
      exact p2
    · obtain ⟨v, hv, rfl⟩ := List.mem_map.mp hz'
      obtain ⟨x, hx', rfl⟩ := hr v hv
      obtain ⟨t, h1, _⟩ := tS x hx'
      show H x.2.1 = some (.tup ((kf (.ref x.2.1)).map V.str))
      rw [kfE _ _ h1]
      exact h1
end
end Cl.ST
namespace Cl.ST
open PySem PySem.Spec PySem.Calls PySem.W PyProof.Rows L2
/-! pairs of a text and a number -/
def PairP (h : Heap) (v : Value) (p : Str × Int) : Prop := ∃ (a : Addr) (o : Obj) (t u : Tok) (n : Nat), v = .ref a ∧ h.get? a = some o ∧ o.cls = .type "tuple" ∧ o.data = .seq #[.str p.1 t, .int p.2 u] n
theorem PairP.keeps {h h' : Heap} {v : Value} {p : Str × Int} (x : PairP h v p) (k : ∀ b o, h.get? b = some o → o.cls = .type "tuple" → h'.get? b = some o) : PairP h' v p := by
  obtain ⟨a, o, t, u, n, e, ho, hc, hd⟩ := x
  exact ⟨a, o, t, u, n, e, k _ _ ho hc, hc, hd⟩
theorem firsts_pp {h : Heap} : ∀ vs : List Value, (∀ v ∈ vs, ∃ p, PairP h v p) → ∃ fs : List Value, KatTups h vs fs ∧ fs.length = vs.length ∧ ∀ f ∈ fs, ∃ y t, f = Value.str y t
  | [], _ => ⟨[], KatTups.nil, rfl, fun f hf => nomatch hf⟩
  | v :: vs, hv => by
    obtain ⟨fs, k, l, m⟩ := firsts_pp vs fun u hu => hv u (List.mem_cons_of_mem _ hu)
    obtain ⟨p, a, o, t, u, n, rfl, ho, hc, hd⟩ := hv v List.mem_cons_self
    refine ⟨.str p.1 t :: fs, KatTups.cons ho hc hd rfl k, by simp [l], fun f hf => ?_⟩
    rcases List.mem_cons.mp hf with rfl | hf
    · exact ⟨_, _, rfl⟩
    · exact m f hf
section
variable {prog : Program} {w : World} {A : Around} {s : Shared}
theorem pp_cmp {vs : List Value} {k : Value → Str × Int} (hp : ∀ v ∈ vs, PairP s.heap v (k v)) : SrtO.Cmp prog w A s (tuples' true) (fun p => p.1 ∈ vs) (SrtO.lt2 fun v u => ltSI (k v) (k u)) := by
  intro p q hm hm'
  have h1 := hp _ hm
  have h2 := hp _ hm'
  show wpAny (model prog w) A (keyLt' (tuples' true) p.1 q.1) (fun r s' => s' = s ∧ r = ltSI (k p.1) (k q.1)) (fun _ _ => False) s
  unfold ltSI
  generalize k p.1 = x at h1 ⊢
  generalize k q.1 = y at h2 ⊢
  obtain ⟨x1, x2⟩ := x
  obtain ⟨y1, y2⟩ := y
  obtain ⟨a, o, t, u, n, e, ho, hc, hd⟩ := h1
  obtain ⟨a', o', t', u', n', e', ho', hc', hd'⟩ := h2
  rw [e, e']
  refine PySem.W.kat_lt ho hd ho' hd' ?_
  show PySem.W.KatLex prog w A true (decide (2 < 2)) _ [(.str x1 t, .str y1 t'), (.int x2 u, .int y2 u')] 0 s
  refine PySem.W.kat_cons (SeqAt.EqAt.str_str x1 t y1 t' prog w _ _ ?_)
  refine PySem.W.kat_go (fun e1 => ?_) (fun e1 => ?_)
  · have ex : x1 = y1 := by simpa using e1
    refine PySem.W.kat_yes (PySem.W.kat_cons (SeqAt.EqAt.int_int x2 u y2 u' prog w _ _ ?_))
    refine PySem.W.kat_go (fun e2 => ?_) (fun e2 => ?_)
    · have ey : x2 = y2 := by simpa using e2
      have e3 : (if x1 = y1 then decide (x2 < y2) else decide (x1.cps.toList < y1.cps.toList)) = false := by
        rw [if_pos ex, ey]
        exact decide_eq_false (Int.lt_irrefl _)
      exact PySem.W.kat_yes (PySem.W.kat_nil ⟨rfl, e3.symm⟩)
    · have e3 : (if x1 = y1 then decide (x2 < y2) else decide (x1.cps.toList < y1.cps.toList)) = decide (x2 < y2) := if_pos ex
      refine PySem.W.kat_no (PySem.W.kat_one _ _ (PyProof.Rows.lt_int ?_))
      exact (show s = s ∧ decide (x2 < y2) = (if x1 = y1 then decide (x2 < y2) else decide (x1.cps.toList < y1.cps.toList)) from ⟨rfl, e3.symm⟩)
  · have ex : ¬ x1 = y1 := by simpa using e1
    have e3 : (if x1 = y1 then decide (x2 < y2) else decide (x1.cps.toList < y1.cps.toList)) = decide (x1.cps.toList < y1.cps.toList) := if_neg ex
    exact PySem.W.kat_no (oneLt_str ⟨rfl, e3.symm⟩)
theorem pp_kind {M : Model} {E : Value → Shared → Prop} {vs : List Value} {Q : SortKind → Shared → Prop} (h2 : 2 ≤ vs.length) (hp : ∀ v ∈ vs, ∃ p, PairP s.heap v p) (hq : Q (tuples' true) s) : wpAny M A (keyKind' vs.toArray) Q E s := by
  obtain ⟨fs, h1, h2', h3⟩ := firsts_pp vs hp
  refine PySem.W.kat_kind (T := .type "str") h1 (by omega) (fun f hm => ?_) (by rfl) ?_
  · obtain ⟨x, t, rfl⟩ := h3 f hm
    exact PySem.W.Looks.now
  · have e : (Value.type "str" != Value.type "tuple") = true := by first | decide +kernel | rfl | decide
    rw [e]
    exact hq
end
abbrev SrtSI (l : List (Str × Int)) : Prop := SrtO.Srtd ltSI l
theorem srtSI_uniq {l m : List (Str × Int)} (h1 : SrtSI l) (h2 : SrtSI m) (p : l.Perm m) : l = m := srt_uniq (lt := ltSI) (fun _ _ a b => ltSI_eq a b) h1 h2 p
def prO (H : Hp) : V → Str × Int
  | .ref b => match H b with
    | some (.tup [.str y, .int n]) => (y, n)
    | _ => (Str.ofString "", 0)
  | _ => (Str.ofString "", 0)
theorem prO_at {H : Hp} {b : Addr} {y : Str} {n : Int} (h : H b = some (.tup [.str y, .int n])) : prO H (.ref b) = (y, n) := by
  show (match H b with
    | some (.tup [.str y, .int n]) => (y, n)
    | _ => (Str.ofString "", 0)) = (y, n)
  rw [h]
section
variable {X : Cx}
theorem pairP_of {pins : List (Addr × Obj)} {σ : L2.St} {H : Hp} {s : Shared} (I : Inv X pins σ H s) {b : Addr} {y : Str} {n : Int} (h : H b = some (.tup [.str y, .int n])) : PairP s.heap (.ref b) (y, n) := by
  obtain ⟨_, its, rv, o, ho, hc, k, hd⟩ := I.hok _ _ h
  obtain ⟨u1, u2, rfl, r1, r2⟩ := vals2 rv
  obtain ⟨t1, rfl⟩ := r1
  obtain ⟨t2, rfl⟩ := r2
  exact ⟨b, o, t1, t2, k, rfl, ho, hc, hd⟩
/-- sorted(xs), xs a list of pairs of a text and a number -/
def rSortedLSI (K : PySem.W.Frag) : List V → Hp → VK → Prop := fun vs H Q => ∃ (a : Addr) (zs : List (Addr × Str × Int)), vs = [V.ref a] ∧ SqL K H a (zs.map fun z => V.ref z.1) ∧ (∀ z ∈ zs, H z.1 = some (.tup [.str z.2.1, .int z.2.2])) ∧
  ∀ (ys : List (Addr × Str × Int)) (p : Addr), (ys.map (·.2)).Perm (zs.map (·.2)) → SrtSI (ys.map (·.2)) → (∀ z ∈ ys, H z.1 = some (.tup [.str z.2.1, .int z.2.2])) → H p = none → Q (.ref p) (upd H p (.lst (ys.map fun z => V.ref z.1)))
theorem cr_sortedLSI : CallR X (.builtin "sorted") (rSortedLSI X.K) := by
  intro pins s σ H vs us Q I r h
  obtain ⟨a, zs, rfl, hs, hz, q⟩ := h
  obtain ⟨its, rv, hl, hsz⟩ := I.list hs
  obtain ⟨u, rfl, ru⟩ := vals1 r
  obtain rfl : u = Value.ref a := ru
  obtain ⟨e1, e2⟩ := refs_back rv fun x m => by
    obtain ⟨z, _, e⟩ := List.mem_map.mp m
    exact ⟨_, e.symm⟩
  have pk : ∀ v ∈ its, ∃ z ∈ zs, v = Value.ref z.1 := fun v hv => by
    obtain ⟨b, rfl⟩ := e2 v hv
    have hm : V.ref b ∈ zs.map fun z => V.ref z.1 := by rw [e1]; exact List.mem_map.mpr ⟨_, hv, rfl⟩
    obtain ⟨z, hz', e⟩ := List.mem_map.mp hm
    cases e
    exact ⟨z, hz', rfl⟩
  have pp : ∀ v ∈ its, PairP s.heap v (prO H (backV v)) := fun v hv => by
    obtain ⟨z, hz', rfl⟩ := pk v hv
    show PairP s.heap (.ref z.1) (prO H (.ref z.1))
    rw [prO_at (hz z hz')]
    exact pairP_of I (hz z hz')
  refine sortedL I rv hl.isList (by rw [← rv.length]; exact hsz) (swo_of (fun v => prO H (backV v)) ltSI_asym ltSI_tr) (fun h₁ keep h2 => ?_) fun out p o1 o2 hpn => ?_
  · have pp' : ∀ v ∈ its, PairP h₁ v (prO H (backV v)) := fun v hv => (pp v hv).keeps fun b o e _ => keep b o e
    exact ⟨tuples' true, fun Q' E' hq => pp_kind (s := { s with heap := h₁ }) h2 (fun v hv => ⟨_, pp' v hv⟩) hq, pp_cmp (s := { s with heap := h₁ }) pp'⟩
  · have hr : ∀ v ∈ out, ∃ z ∈ zs, v = Value.ref z.1 := fun v hv => pk v (o2.perm.mem_iff.mp hv)
    let ad : Value → Addr := fun v => match v with
      | .ref b => b
      | _ => 0
    let g : Value → Addr × Str × Int := fun v => (ad v, prO H (backV v))
    have eo : out.map (fun v => Value.ref (ad v)) = out := (List.map_congr_left fun v hv => by
      obtain ⟨x, _, rfl⟩ := hr v hv
      rfl).trans (List.map_id out)
    have ez : its.map (fun v => prO H (backV v)) = zs.map (·.2) := by
      have : (its.map backV).map (prO H) = (zs.map fun z => V.ref z.1).map (prO H) := by rw [e1]
      rw [List.map_map, List.map_map] at this
      refine Eq.trans this (List.map_congr_left fun z hz' => ?_)
      exact prO_at (hz z hz')
    have q' := q (out.map g) p ?_ ?_ (fun z' hz' => ?_) hpn
    · rw [List.map_map] at q'
      refine ⟨_, ?_, q'⟩
      have : Vals (out.map fun v => V.ref (ad v)) (out.map fun v => Value.ref (ad v)) := by
        clear q' eo hr o1 o2
        induction out with
        | nil => exact .nil
        | cons v r ih => exact .cons rfl ih
      rw [eo] at this
      exact this
    · rw [List.map_map, ← ez]
      exact o2.perm.map _
    · rw [List.map_map]
      exact List.pairwise_map.mpr o1
    · obtain ⟨v, hv, rfl⟩ := List.mem_map.mp hz'
      obtain ⟨z, hz2, rfl⟩ := hr v hv
      show H z.1 = some (.tup [.str (prO H (.ref z.1)).1, .int (prO H (.ref z.1)).2])
      rw [prO_at (hz z hz2)]
      exact hz z hz2
theorem cr_sortedLSIK (K : PySem.W.Frag) (hK : X.K = K := by rfl) : CallR X (.builtin "sorted") (rSortedLSI K) := by subst hK; exact cr_sortedLSI
end
end Cl.ST
namespace Cl.ST
open PySem PySem.Spec PySem.Calls PySem.W PyProof.Rows L2 L2.DX
/-! the values of a dict whose keys are tuples -/
def valsO (p d : Addr) : HO := .ext fun h => h.IsValuesView p d
theorem valsO_ok {P : Program} {w : World} {H : Hp} {h : Heap} {p d : Addr} (e : h.get? p = some { cls := .type "dict_values", data := .fields #[.ref d] }) : ObjOk P w H h p (valsO p d) :=
  ⟨⟨_, e, rfl, rfl⟩, ⟨_, e⟩, fun h1 h2 x k => let ⟨o, ho, r⟩ := x; ⟨o, k o ho, r⟩⟩
section
variable {X : Cx}
def rValsT : V → List V → Hp → VK → Prop := fun x xs H Q => ∃ (a : Addr) (kvs : List (List L2.Key × V)), x = .ref a ∧ xs = [] ∧ H a = some (.dT kvs) ∧ ∀ p, H p = none → Q (.ref p) (upd H p (valsO p a))
theorem dt_raw {pins : List (Addr × Obj)} {σ : L2.St} {H : Hp} {s : Shared} {a : Addr} {kvs : List (List L2.Key × V)} (I : Inv X pins σ H s) (ha : H a = some (.dT kvs)) :
    kvs.length ≤ sizeLine ∧ (a == sysModules) = false ∧ ∃ (xs : List (List L2.Key × Addr × Value)) (es : Array DictEntry) (ep : Nat), KT H kvs xs ∧ s.heap.DictRaw a es ep ∧ es.toList = xs.map (entryOfKey (tupleKind (mixKind X.prog X.w))) := by
  obtain ⟨z, hs, xs', pr, o, es, ep, ho, hx, hdt, he, hn⟩ := (show ObjOk X.prog X.w H s.heap a (.dT kvs) from I.hok a _ ha)
  exact ⟨z, hs, xs', es, ep, pr, ⟨o, ho, hx, hdt⟩, he⟩
theorem mt_valuesT : MtR X "dict.values" rValsT := by
  intro pins s σ H x xs v us Q I rx rxs h
  obtain ⟨a, kvs, rfl, rfl, ha, q⟩ := h
  cases rx
  cases rxs
  obtain ⟨z, hd, vs, es, ep, kv, raw, _⟩ := dt_raw I ha
  refine call_meetsIn PySem.F.slot_dict_values raw.typeIs PySem.F.entry_dict_values (PySem.F.args_dict_values_1 _) (meets_dict_values_raw a hd) ⟨⟨es, ep, raw⟩, ?_⟩
  exact ⟨.ref s.heap.objs.size, upd H s.heap.objs.size (valsO s.heap.objs.size a), I.laid (t' := s.toks) (fun b u e => Heap.get?_push_of_some _ e) (Nat.le_refl _) (valsO_ok (Heap.get?_push_size _ rfl)), rfl, q _ (I.hok.fresh (Nat.le_refl _))⟩
theorem vals_kt {P : Program} {w : World} {H : Hp} {kvs : List (List L2.Key × V)} {xs : List (List L2.Key × Addr × Value)} {es : Array DictEntry} {acc : List Value} (pr : KT H kvs xs) (he : es.toList = xs.map (entryOfKey (tupleKind (mixKind P w)))) (hl : acc.length = es.size)
    (hp : ∀ (j : Nat) (v : Value), acc[j]? = some v → ∃ hi : j < es.size, v = es[j].val) : Vals (kvs.map (·.2)) acc := by
  have e : acc = xs.map fun x => x.2.2 := by
    have l1 : es.size = xs.length := size_of_entries he
    apply List.ext_getElem?
    intro j
    rw [List.getElem?_map]
    cases hj : acc[j]? with
    | none =>
      have h1 := List.getElem?_eq_none_iff.mp hj
      rw [List.getElem?_eq_none (by omega)]
      rfl
    | some v =>
      obtain ⟨hi, hv⟩ := hp j v hj
      have qe := entry_at he j
      rw [Array.getElem?_eq_getElem hi] at qe
      cases hb : xs[j]? with
      | none =>
        rw [hb] at qe
        exact nomatch (show some es[j] = none from qe)
      | some b =>
        rw [hb] at qe
        have e2 : es[j] = entryOfKey (tupleKind (mixKind P w)) b := Option.some.inj qe
        rw [hv, e2]
        rfl
  rw [e]
  clear e hl hp he
  induction pr with
  | nil => exact .nil
  | cons f _ ih => exact .cons f.2.2 ih
def rListVT : List V → Hp → VK → Prop := fun xs H Q => ∃ (p a : Addr) (kvs : List (List L2.Key × V)), xs = [.ref p] ∧ H p = some (valsO p a) ∧ H a = some (.dT kvs) ∧ ∀ q, H q = none → Q (.ref q) (upd H q (.lst (kvs.map (·.2))))
theorem call_listVT (hc : X.calm = true) : CallR X (.type "list") rListVT := by
  intro pins s σ H xs us Q I r h
  obtain ⟨p, a, kvs, rfl, hp, ha, q⟩ := h
  obtain ⟨u, rfl, rx⟩ := r.one
  cases rx
  obtain ⟨z, hd, vs, es, ep, kv, raw, he⟩ := dt_raw I ha
  have view : s.heap.IsValuesView p a := (show ObjOk X.prog X.w H s.heap p (valsO p a) from I.hok p _ hp).1
  have l1 : es.size = vs.length := size_of_entries he
  have l2 : kvs.length = vs.length := Paired.length kv
  refine PySem.W.kdl_call (KdlSrc.rawValues (es := es) (ep := ep)) (I.ok.hd hc) ⟨view, raw⟩ (by omega) fun h' tk acc' c' kp e it => ?_
  have rv : Vals (kvs.map (·.2)) acc'.toList := vals_kt kv he (by rw [Array.length_toList, it.1]) fun j v hj => it.2 j v (by rw [← Array.getElem?_toList]; exact hj)
  refine ⟨.ref s.heap.objs.size, _, I.laid (t' := tk) (o := .lst (kvs.map (·.2))) kp (Nat.le_refl _) ?_, rfl, q _ (I.hok.fresh (Nat.le_refl _))⟩
  exact ⟨by rw [List.length_map]; exact z, acc'.toList, c', rv, by rw [Array.toArray_toList]; exact e⟩
def rSortedVT : List V → Hp → VK → Prop := fun xs H Q => ∃ (p a : Addr) (kvs : List (List L2.Key × V)) (ns : List Int), xs = [.ref p] ∧ H p = some (valsO p a) ∧ H a = some (.dT kvs) ∧ kvs.map (·.2) = ns.map V.int ∧
  ∀ (ms : List Int) (q : Addr), ms.Perm ns → ms.Pairwise (· ≤ ·) → H q = none → Q (.ref q) (upd H q (.lst (ms.map V.int)))
theorem call_sortedVT (hc : X.calm = true) : CallR X (.builtin "sorted") rSortedVT := by
  intro pins s σ H xs us Q I r h
  obtain ⟨p, a, kvs, ns, rfl, hp, ha, hn, q⟩ := h
  obtain ⟨u, rfl, rx⟩ := r.one
  cases rx
  obtain ⟨z, hd, vs, es, ep, kv, raw, he⟩ := dt_raw I ha
  have view : s.heap.IsValuesView p a := (show ObjOk X.prog X.w H s.heap p (valsO p a) from I.hok p _ hp).1
  have l1 : es.size = vs.length := size_of_entries he
  have l2 : kvs.length = vs.length := Paired.length kv
  have iA : ∀ acc : List Value, acc.length = es.size → (∀ (j : Nat) (v : Value), acc[j]? = some v → ∃ hi : j < es.size, v = es[j].val) → IntsAre acc ns := fun acc hl hj => Vals.ints (hn ▸ vals_kt kv he hl hj)
  refine sortedC I (KdlSrc.rawValues (es := es) (ep := ep)) (I.ok.hd hc) ⟨view, raw⟩ (by omega) SrtO.swo_int (fun acc h₁ tk keep hl hj h2 => ?_) fun acc out q' hl hj o1 o2 hpn => ?_
  · exact SrtO.ints_sortable (s := { s with heap := h₁, toks := tk }) (a := h₁.objs.size) (iA acc hl hj) h2 h₁ fun _ _ _ e => e
  · obtain ⟨g1, g2, g3⟩ := SrtO.ints_out (iA acc hl hj) o1 o2
    exact ⟨_, vals_of_ints g1, q _ q' g2 g3 hpn⟩
/-! {k: v}, the key a tuple -/
def tDisp1T (tk tv : TE) : TE := fun σ H Q => ∀ p, H p = none → tk σ (upd H p (.dT [])) fun y H1 => tv σ H1 fun z H2 => ∃ (ks : List L2.Key) (b : Addr), y = .ref b ∧ H2 p = some (.dT []) ∧ H2 b = some (.tup (ks.map kV)) ∧ Q (.ref p) (upd H2 p (.dT [(ks, z)]))
def disQ (Q : VK) (p : Addr) (ps : List (V × V)) (H2 : Hp) : Prop := match ps with
  | [(y, z)] => ∃ (ks : List L2.Key) (b : Addr), y = .ref b ∧ H2 p = some (.dT []) ∧ H2 b = some (.tup (ks.map kV)) ∧ Q (.ref p) (upd H2 p (.dT [(ks, z)]))
  | _ => False
theorem disQ_one {Q : VK} {p : Addr} {ps : List (V × V)} {H2 : Hp} {ws : List (Value × Value)} (r : VV ps ws) (h : disQ Q p ps H2) : ∃ y z u r, ps = [(y, z)] ∧ ws = [(u, r)] ∧ L2.RelV y u ∧ L2.RelV z r ∧
    ∃ (ks : List L2.Key) (b : Addr), y = .ref b ∧ H2 p = some (.dT []) ∧ H2 b = some (.tup (ks.map kV)) ∧ Q (.ref p) (upd H2 p (.dT [(ks, z)])) := by
  cases r with
  | nil => exact h.elim
  | @cons a b ps' ws' f t =>
    cases t with
    | nil => exact ⟨a.1, a.2, b.1, b.2, rfl, rfl, f.1, f.2, h⟩
    | cons _ _ => exact h.elim
theorem pe_disp1T {k v : Expr} {pos : Pos} {tk tv : TE} (hu : X.A.units + 64 < cLine) (hk : PE X k tk) (hv : PE X v tv) : PE X (.Dict [some k] [v] pos) (tDisp1T tk tv) := by
  refine ⟨fun pins s σ H Q I q => ?_⟩
  have hn := I.hok.fresh (Nat.le_refl s.heap.objs.size)
  have I1 := I.laid (a := s.heap.objs.size) (o := .dT []) (h' := s.heap.push { cls := .type "dict", data := .dict #[] }) (t' := s.toks) (fun _ _ q => Heap.get?_push_of_some _ q) (Nat.le_refl _) (dt_empty s.heap I.big)
  have hl : (pairTrees [some k] [v] X.env pos).length = 1 := pairTrees_length _ _ _ _ rfl rfl
  rw [arm_eval_Dict, zip_pairTrees [some k] [v] X.env pos rfl rfl, dictDisplay_pairs _ (by intro e; rw [e] at hl; cases hl) (by omega)]
  refine wpAny_bind (wpAny_standAt (wpAny_bind (wpAny_subDictH (knd := tupleKind (mixKind X.prog X.w)) (Q := fun d s' => wpAny (model X.prog X.w) X.A (pure (Value.ref d)) (EP X pins σ Q) X.xe s') (by show X.A.units < cLine; omega) (by omega) ?_)))
  refine thn ((pps_cons hk hv pps_nil).run pins _ σ _ (disQ Q s.heap.objs.size) I1 (q _ hn)) fun ws s2 ⟨ps, H2, I2, rel, qq⟩ => ?_
  · obtain ⟨y, z, u, r, rfl, rfl, ru, rr, ks, b, rfl, hp, hb, q2⟩ := disQ_one rel qq
    cases (show u = Value.ref b from ru)
    obtain ⟨zl, hd, xs, rel0, dd⟩ := dt_of I2.hok hp
    cases rel0
    refine ⟨[(ks, b, r)], ⟨rfl, rfl, key_of I2.hok hb, trivial⟩, dd, fun h' tk dd' hs => wpAny_pure ⟨.ref s.heap.objs.size, _, ?_, rfl, q2⟩⟩
    obtain ⟨o, es, ep, hq, h2, h3, h4, _, h5⟩ := dd'
    refine d_write I2 (by rw [hp]; exact True.intro) hs ⟨o, hq⟩ ⟨by rw [sizeLine_eq]; show 1 ≤ _; omega, hd, [(ks, b, r)], ?_, o, es, ep, hq, h2, h3, h4, h5⟩
    refine .cons ⟨rfl, ?_, rr⟩ .nil
    rw [upd_ne (ne_of hb hp (fun z => nomatch z))]
    exact hb
end
end Cl.ST
namespace Cl.ST
open PySem PySem.Spec PySem.Calls PySem.W PyProof.Rows L2 L2.DX
/-! sorted(d.items()), from texts to numbers -/
def rdL : List Value → Str × Int
  | [.str y _, .int n _] => (y, n)
  | _ => (Str.ofString "", 0)
def rdP (h : Heap) : Value → Str × Int
  | .ref b => (((h.get? b).map fun o => (seqD o.data).toList).map rdL).getD (Str.ofString "", 0)
  | _ => (Str.ofString "", 0)
theorem rdP_at {h : Heap} {b : Addr} {y : Str} {n : Int} {t u : Tok} (e : h.get? b = some { cls := .type "tuple", data := .seq #[.str y t, .int n u] }) : rdP h (.ref b) = (y, n) := by
  show (((h.get? b).map fun o => (seqD o.data).toList).map rdL).getD (Str.ofString "", 0) = (y, n)
  rw [e]
  rfl
def rSortItS : List V → Hp → VK → Prop := fun vs H Q => ∃ (p a : Addr) (es : List (Str × Int)), vs = [.ref p] ∧ H p = some (itemsO p a) ∧ H a = some (.dK (es.map fun e => ((Sum.inr e.1 : L2.Key), V.int e.2))) ∧ es.length ≤ 1000 ∧
  ∀ (H' : Hp) (l : Addr) (ts : List (Addr × Str × Int)), Same H H' → H l = none → (ts.map (·.2)).Perm es → SrtSI (ts.map (·.2)) → H' l = some (.lst (ts.map fun z => V.ref z.1)) →
    (∀ z ∈ ts, H' z.1 = some (.tup [.str z.2.1, .int z.2.2])) → Q (.ref l) H'
theorem cr_sortedItS {X : Cx} (hc : X.calm = true) : CallR X (.builtin "sorted") rSortItS := by
  intro pins s σ H xs us Q I r h
  obtain ⟨p, a, es0, rfl, hp, ha, h1000, q⟩ := h
  obtain rfl := Vals.ref1 r
  have view : s.heap.IsItemsView p a := (show ObjOk X.prog X.w H s.heap p (itemsO p a) from I.hok p _ hp).1
  obtain ⟨z, hd, vs, es, ep, kv, raw, hprs, hnd⟩ := Cl.dk_raw (I.hok a _ ha)
  have l1 : es0.length = vs.length := by
    have := Paired.length kv
    rwa [List.length_map] at this
  have l2 : es.size = vs.length := by rw [← Array.length_toList]; exact Cl.pairs_len hprs
  have hh : X.A.handled = none := I.ok.hd hc
  refine DT.sortedI (es := es) (ep := ep) hh view raw (by rw [sizeLine_eq]; omega) fun h' tk as hk hlt hl hG => ?_
  have lak : as.length = es0.length := by omega
  have nd : as.Nodup := List.Pairwise.imp (fun h => Nat.ne_of_lt h) hG.rise
  have pr : ∀ (j : Nat) (b : Addr), as[j]? = some b → ∃ (e : Str × Int) (t u : Tok), es0[j]? = some e ∧ h'.get? b = some { cls := .type "tuple", data := .seq #[Value.str e.1 t, Value.int e.2 u] } := by
    intro j b hj
    obtain ⟨en, he, hg⟩ := hG.pairs j b hj
    obtain ⟨w0, hw, hkey, hval⟩ := Cl.pairs_get hprs (j := j) (e := en) (by rw [Array.getElem?_toList]; exact he)
    obtain ⟨e0, he0, r1, r2⟩ := pget kv hw
    rw [List.getElem?_map] at he0
    obtain ⟨e, hee, rfl⟩ := Option.map_eq_some_iff.mp he0
    have r1' : w0.1 = Sum.inr e.1 := r1.symm
    rw [r1'] at hkey
    obtain ⟨t, ht⟩ : ∃ t, en.key = Value.str e.1 t := by
      rcases keyIs_shape hkey with ⟨i, t, e1, e2⟩ | ⟨x, t, e1, e2⟩
      · cases e1
      · cases e1
        exact ⟨t, e2⟩
    obtain ⟨u, hu⟩ : ∃ u, w0.2 = Value.int e.2 u := r2
    refine ⟨e, t, u, hee, ?_⟩
    rw [hg, ht, hval, hu]
  have hob : (h'.push { cls := .type "list", data := .seq (as.map Value.ref).toArray }).get? h'.objs.size = some (seqObj "list" (as.map Value.ref).toArray 0) := Heap.get?_push_size _ rfl
  have kb : ∀ b o, s.heap.get? b = some o → (h'.push { cls := .type "list", data := .seq (as.map Value.ref).toArray }).get? b = some o := fun b o e => Heap.get?_push_of_some _ (hk b o e)
  have ne0 : ∀ b o, h'.get? b = some o → b ≠ h'.objs.size := fun b o e => Nat.ne_of_lt (Heap.lt_size e)
  generalize hh2 : h'.push { cls := .type "list", data := .seq (as.map Value.ref).toArray } = h2 at hob kb ⊢
  have ka : ∀ b o, h'.get? b = some o → h2.get? b = some o := fun b o e => by rw [← hh2]; exact Heap.get?_push_of_some _ e
  have at_ : ∀ v ∈ as.map Value.ref, ∃ (j : Nat) (b : Addr), v = .ref b ∧ as[j]? = some b := by
    intro v hv'
    obtain ⟨b, hb, rfl⟩ := List.mem_map.mp hv'
    obtain ⟨j, hj⟩ := List.mem_iff_getElem?.mp hb
    exact ⟨j, b, rfl, hj⟩
  have pinP : ∀ v ∈ as.map Value.ref, ∀ h3 : Heap, (∀ b o, b ≠ h'.objs.size → h2.get? b = some o → h3.get? b = some o) → PairP h3 v (rdP h' v) := by
    intro v hv h3 k3
    obtain ⟨j, b, rfl, hj⟩ := at_ v hv
    obtain ⟨e, t, u, _, hg⟩ := pr j b hj
    rw [rdP_at hg]
    exact ⟨b, _, t, u, 0, rfl, k3 _ _ (ne0 _ _ hg) (ka _ _ hg), rfl, rfl⟩
  refine wpAny_call_entry PyProof.Rows.slot_list_sort ⟨_, hob, rfl⟩ PyProof.Rows.entry_list_sort
    (SrtO.list_sort_ord (s := { s with heap := h2, toks := tk }) (swo_of (rdP h') ltSI_asym ltSI_tr) hob (by rw [List.length_map, sizeLine_eq]; omega) (fun h2' h3 keep => ?_) fun out o1 o2 => ⟨.none, rfl, ?_⟩) (PyProof.Rows.args_list_sort _)
  · exact ⟨tuples' true, fun Q' E' hq => pp_kind (s := { s with heap := h3, toks := tk }) h2' (fun v hv => ⟨_, pinP v hv h3 keep⟩) hq, pp_cmp (s := { s with heap := h3, toks := tk }) fun v hv => pinP v hv h3 keep⟩
  · show EP X pins σ Q (.ref h'.objs.size) { s with heap := sortedHeap h2 h'.objs.size (as.map Value.ref) out.toArray, toks := tk }
    have pm := o2.perm
    let ad : Value → Addr := fun v => match v with
      | .ref b => b
      | _ => 0
    have hr : ∀ v ∈ out, ∃ (j : Nat) (b : Addr), v = .ref b ∧ as[j]? = some b := fun v hv => at_ v (pm.mem_iff.mp hv)
    have eo : out.map (fun v => Value.ref (ad v)) = out := (List.map_congr_left fun v hv => by
      obtain ⟨_, b, rfl, _⟩ := hr v hv
      rfl).trans (List.map_id out)
    have rv : Vals (out.map fun v => V.ref (ad v)) out := by
      have : Vals (out.map fun v => V.ref (ad v)) (out.map fun v => Value.ref (ad v)) := by
        clear eo hr pm o1 o2
        induction out with
        | nil => exact .nil
        | cons v r ih => exact .cons rfl ih
      rw [eo] at this
      exact this
    have eE : (as.map Value.ref).map (rdP h') = es0 := by
      apply List.ext_getElem?
      intro j
      rw [List.map_map, List.getElem?_map]
      cases hj : as[j]? with
      | none =>
        have h1 := List.getElem?_eq_none_iff.mp hj
        rw [List.getElem?_eq_none (by omega)]
        rfl
      | some b =>
        obtain ⟨e, t, u, he, hg⟩ := pr j b hj
        rw [he]
        show some (rdP h' (.ref b)) = some e
        rw [rdP_at hg]
    have kF : ∀ b o, b ≠ h'.objs.size → h2.get? b = some o → (sortedHeap h2 h'.objs.size (as.map Value.ref) out.toArray).get? b = some o := fun b o hb e => (PyProof.Rows.sortedHeap_old hb (Heap.lt_size e)).trans e
    have kS : ∀ b o, s.heap.get? b = some o → (sortedHeap h2 h'.objs.size (as.map Value.ref) out.toArray).get? b = some o := fun b o e => kF b o (ne0 _ _ (hk b o e)) (kb b o e)
    obtain ⟨eF, heF⟩ := PyProof.Rows.sortedHeap_at (vs := as.map Value.ref) (out := out.toArray) hob
    have I1 : L2.Inv X pins σ H { s with heap := sortedHeap h2 h'.objs.size (as.map Value.ref) out.toArray, toks := tk } := I.kept (t' := tk) kS
    have hn0 : H h'.objs.size = none := I.hok.fresh (Nat.le_of_lt hlt)
    have hlen : (out.map fun v => V.ref (ad v)).length ≤ sizeLine := by
      rw [List.length_map, pm.length_eq, List.length_map, sizeLine_eq]
      omega
    have I2 : L2.Inv X pins σ (upd H h'.objs.size (.lst (out.map fun v => V.ref (ad v)))) { s with heap := sortedHeap h2 h'.objs.size (as.map Value.ref) out.toArray, toks := tk } :=
      I1.take (h' := sortedHeap h2 h'.objs.size (as.map Value.ref) out.toArray) (t' := tk) (fun b ob _ e => e) (I.fpOk (Nat.le_of_lt hlt) hn0) ⟨hlen, out, eF, rv, heF⟩
    obtain ⟨H2, I3, g, qt⟩ := takeT (P := fun b vs => ∃ (j : Nat) (e : Str × Int), as[j]? = some b ∧ es0[j]? = some e ∧ vs = [V.str e.1, V.int e.2]) I as _ I2 nd fun b hb => by
      obtain ⟨j, hj⟩ := List.mem_iff_getElem?.mp hb
      obtain ⟨e, t, u, he, hg⟩ := pr j b hj
      have hbl : s.heap.objs.size ≤ b := Nat.le_of_lt (hG.above b hb)
      refine ⟨hbl, ?_, [.str e.1, .int e.2], ⟨j, e, hj, he, rfl⟩, fun H3 => ⟨(by rw [sizeLine_eq]; show 2 ≤ 16777216; omega), [Value.str e.1 t, Value.int e.2 u], .cons ⟨t, rfl⟩ (.cons ⟨u, rfl⟩ .nil), ⟨_, kF _ _ (ne0 _ _ hg) (ka _ _ hg), rfl, 0, rfl⟩⟩⟩
      rw [upd_ne (ne0 _ _ hg)]
      exact I.hok.fresh hbl
    have gr : Same H H2 := fun b o e => g b o (by rw [upd_ne (ne_of_none e hn0)]; exact e)
    refine ⟨.ref h'.objs.size, H2, I3, rfl, q H2 h'.objs.size (out.map fun v => (ad v, rdP h' v)) gr hn0 ?_ ?_ ?_ fun z' hz' => ?_⟩
    · rw [List.map_map, ← eE]
      exact pm.map _
    · rw [List.map_map]
      exact List.pairwise_map.mpr o1
    · rw [List.map_map]
      exact g _ _ upd_same
    · obtain ⟨v, hv, rfl⟩ := List.mem_map.mp hz'
      obtain ⟨j, b, rfl, hj⟩ := hr v hv
      obtain ⟨e, t, u, he, hg⟩ := pr j b hj
      show H2 b = some (.tup [.str (rdP h' (.ref b)).1, .int (rdP h' (.ref b)).2])
      rw [rdP_at hg]
      obtain ⟨vs', ⟨i, e', i1, i2, ev⟩, hH⟩ := qt b (List.mem_of_getElem? hj)
      have eij : i = j := (List.getElem?_inj (List.getElem?_eq_some_iff.mp i1).1 nd).mp (i1.trans hj.symm)
      subst eij
      have ee : e' = e := Option.some.inj (i2.symm.trans he)
      rw [ev, ee] at hH
      exact hH
end Cl.ST
namespace Cl.ST
open PySem PySem.Spec PySem.Calls PySem.W PyProof.Rows L2
/-! sorted(xs), xs a list of texts of any length -/
def ltS (x y : Str) : Bool := decide (x.cps.toList < y.cps.toList)
theorem ltS_asym (x y : Str) (h : ltS x y = true) : ltS y x = false := decide_eq_false fun q => List.lt_irrefl _ (List.lt_trans (of_decide_eq_true h) q)
theorem ltS_tr (x y z : Str) (h1 : ltS y x = false) (h2 : ltS z y = false) : ltS z x = false := decide_eq_false (List.not_lt.mpr (List.le_trans (List.not_lt.mp (of_decide_eq_false h1)) (List.not_lt.mp (of_decide_eq_false h2))))
theorem ltS_eq {x y : Str} (h1 : ltS x y = false) (h2 : ltS y x = false) : x = y := str_ext (nats_total (of_decide_eq_false h1) (of_decide_eq_false h2))
abbrev SrtS (l : List Str) : Prop := SrtO.Srtd ltS l
theorem srtS_uniq {l m : List Str} (h1 : SrtS l) (h2 : SrtS m) (p : l.Perm m) : l = m := srt_uniq (lt := ltS) (fun _ _ a b => ltS_eq a b) h1 h2 p
theorem srtS_rising : ∀ (p : Str) (l : List Str), risingS p l = true → SrtS (p :: l)
  | p, [], _ => List.pairwise_singleton _ _
  | p, x :: r, h => by
    simp only [risingS, Bool.and_eq_true, Bool.not_eq_true'] at h
    have ih := srtS_rising x r h.2
    have hx : ltS x p = false := by
      have := h.1
      rw [ltCps_eq] at this
      exact this
    refine List.pairwise_cons.mpr ⟨fun y hy => ?_, ih⟩
    rcases List.mem_cons.mp hy with rfl | hy
    · exact hx
    · exact ltS_tr _ _ _ hx ((List.pairwise_cons.mp ih).1 y hy)
theorem srtS_of {l : List Str} (h : sortedS l = true) : SrtS l := by
  cases l with
  | nil => exact .nil
  | cons x r => exact srtS_rising x r h
def sv : Value → Str
  | .str y _ => y
  | _ => Str.ofString ""
theorem strs_mem : ∀ {vs : List Value} {ss : List Str}, StrsAre vs ss → ∀ v ∈ vs, ∃ y t, v = Value.str y t
  | _, _, .nil, v, h => nomatch h
  | _, _, .cons y t r, v, h => by
    rcases List.mem_cons.mp h with e | h
    · exact ⟨y, t, e⟩
    · exact strs_mem r v h
theorem strs_sv : ∀ {vs : List Value}, (∀ v ∈ vs, ∃ y t, v = Value.str y t) → StrsAre vs (vs.map sv)
  | [], _ => .nil
  | v :: vs, h => by
    obtain ⟨y, t, rfl⟩ := h v List.mem_cons_self
    exact .cons y t (strs_sv fun u hu => h u (List.mem_cons_of_mem _ hu))
theorem sv_strs : ∀ {vs : List Value} {ss : List Str}, StrsAre vs ss → vs.map sv = ss
  | _, _, .nil => rfl
  | _, _, .cons y t r => congrArg (y :: ·) (sv_strs r)
theorem str_cmp {X : Cx} {s : Shared} {vs : List Value} {ss : List Str} (hS : StrsAre vs ss) (h2 : 2 ≤ vs.length) : CmpAll X s vs fun v u => ltS (sv v) (sv u) := by
  refine ⟨oneType', fun Q E hq => ?_, fun p q hm hm' => ?_⟩
  · match vs, hS, h2 with
    | v1 :: v2 :: rest, hS, _ =>
      rw [keyKind_strs hS]
      exact wpAny_pure hq
    | [], _, h => exact absurd h (by decide)
    | [v], _, h => exact absurd h (by simp)
  · obtain ⟨a, t, e⟩ := strs_mem hS _ hm
    obtain ⟨b, u, e'⟩ := strs_mem hS _ hm'
    show wpAny (model X.prog X.w) X.A.in1.in1 (keyLt' oneType' p.1 q.1) (fun r s' => s' = s ∧ r = ltS (sv p.1) (sv q.1)) (fun _ _ => False) s
    rw [e, e', keyLt'_oneType]
    exact oneLt_str ⟨rfl, rfl⟩
def rSortedLS (K : PySem.W.Frag) : List V → Hp → VK → Prop := fun vs H Q => ∃ (a : Addr) (xs : List Str), vs = [V.ref a] ∧ SqL K H a (xs.map V.str) ∧
  ∀ (ys : List Str) (p : Addr), ys.Perm xs → SrtS ys → H p = none → Q (.ref p) (upd H p (.lst (ys.map V.str)))
theorem cr_sortedLS {X : Cx} : CallR X (.builtin "sorted") (rSortedLS X.K) := by
  intro pins s σ H vs us Q I r h
  obtain ⟨a, xs, rfl, hs, q⟩ := h
  obtain ⟨its, rv, hl, hz⟩ := I.list hs
  rw [Vals.ref1 r]
  have hS := rv.strs
  refine sortedL I rv hl.isList (rv.length ▸ hz) (swo_of sv ltS_asym ltS_tr) (fun h₁ keep h2 => str_cmp hS h2) fun out p o1 o2 hp => ?_
  have pm := o2.perm
  have hm : ∀ v ∈ out, ∃ y t, v = Value.str y t := fun v hv => strs_mem hS v (pm.mem_iff.mp hv)
  refine ⟨(out.map sv).map V.str, vals_of_strs (strs_sv hm), q (out.map sv) p ?_ (List.pairwise_map.mpr o1) hp⟩
  have e := pm.map sv
  rw [sv_strs hS] at e
  exact e
theorem cr_sortedLSK {X : Cx} (K : PySem.W.Frag) (hK : X.K = K := by rfl) : CallR X (.builtin "sorted") (rSortedLS K) := by subst hK; exact cr_sortedLS
end Cl.ST
namespace Cl.ST
open PySem PySem.Spec PySem.Calls PySem.W PyProof.Rows L2
/-! len of a set of numbers -/
def rLenSI (P : Program) (w : World) : List V → Hp → VK → Prop := fun xs H Q => ∃ (a : Addr) (ns : List Int), xs = [.ref a] ∧ H a = some (SetGO (intN P w) a ns) ∧ ∀ ks : List Int, ks.Nodup → (∀ k, k ∈ ks ↔ k ∈ ns) → Q (.int (ks.length : Nat)) H
theorem call_lenSI {X : Cx} (P : Program) (w : World) (hP : X.prog = P := by rfl) (hw : X.w = w := by rfl) : CallR X (.builtin "len") (rLenSI P w) := by
  subst hP hw
  intro pins s σ H xs us Q I r h
  obtain ⟨a, ns, rfl, ha, q⟩ := h
  obtain ⟨u, rfl, rx⟩ := vals1 r
  cases rx
  obtain ⟨R, _⟩ := (show ObjOk X.prog X.w H s.heap a (SetGO (intN X.prog X.w) a ns) from I.hok a _ ha)
  obtain ⟨o, es, ep, t, ⟨ho, hx, hd⟩, ge, ⟨nd, hm⟩, ⟨h1, h2, h3⟩, _⟩ := R
  have e : (es.size : Int) = (((intN X.prog X.w).keys es.toList).length : Nat) := by
    unfold KN.keys
    rw [List.length_map, Array.length_toList]
  have hb : es.size < 1000000 := by
    unfold scanBound at h2
    omega
  refine call_len_set ho hx hd h3 (by omega) ⟨.int _, H, I.tok _, ⟨_, rfl⟩, ?_⟩
  rw [e]
  exact q _ nd hm
end Cl.ST
namespace Cl.ST
open PySem PySem.Spec L2
theorem pe_orTK {X : Cx} (K : PySem.W.Frag) {a b : Expr} {ta tb : TE} {rest : List Expr} {pos : Pos} (ha : PE X a ta) (hb : PE X (.BoolOp .Or (b :: rest) pos) tb) (hK : X.K = K := by rfl) : PE X (.BoolOp .Or (a :: b :: rest) pos) (tOrT K ta tb) := by subst hK; exact pe_orT ha hb
end Cl.ST

namespace Cl
open PySem L2
local macro_rules | `(tactic| walk_at "lb") => `(tactic| repeat (first | assumption | apply lb_app | apply lb_cut | apply lb_add | exact Nat.le_refl _))
local macro_rules | `(tactic| walk_at "sz") => `(tactic| first | exact sz_of (by omega) | exact sz_of (by simp) | (refine sz_of ?_; apply Nat.le_trans; (walk_at "lb"); decide))
local macro_rules | `(tactic| walk_at "rd") => `(tactic| repeat (first | refine ⟨_, rfl, ?_⟩ | refine ⟨_, _, rfl, rfl, ?_⟩ | refine And.intro rfl ?_ | refine And.intro ⟨_, rfl⟩ ?_ | refine And.intro (by walk_at "sz") ?_))
def topS (i : Nat) : Stmt := PySem.Challenge.pw_cleanedlog_k32_make_and_create.main.body.getD i (.Pass ⟨0, 0, 0, 0⟩)
section
variable {P : Program} {w : World} {K : PySem.W.Frag} {mg : Str → Option Value} {base : Heap} {T : List (Addr × Str)}
abbrev s_BadPath_init : Stmt := inClass (topS 5) 0
abbrev N_BadPath_init : List Str := ["self", "path"]
theorem sc_BadPath_init : FnScope N_BadPath_init ["self", "path"] (defScope s_BadPath_init) := ⟨rfl, rfl, rfl, by decide +kernel, rfl, by decide +kernel, by decide +kernel⟩
theorem ok_BadPath_init {f : Addr} {fd : FuncData} (F : Fun K "__init__" "BadPath.__init__" s_BadPath_init f fd) {A_BadPath A_TreeError : Addr} (XC_BadPath : XCls K mg "BadPath" A_BadPath) (XO_TreeError : OBase K mg "TreeError" A_TreeError) (XF : PySem.W.findIn K (.ref A_BadPath) "path" = some none) : FnOk P w K mg base CX0 1 f fd ["self", "path"] (sp_exc1 "path" A_BadPath) := by
  refine F.ok sc_BadPath_init (fun vs H Q E h => ?_) (fun cdv A outer s H vs Q E hr h => ⟨_, pss_cons (ps_expr (pe_oinit (by rfl) XO_TreeError (pa_cons (pv 0) (pa_cons pe_str pa_nil)))) (pss_one (ps_ost (pv 0) (pv 1))), ?_⟩)
  · obtain ⟨x, v, rfl, _⟩ := h
    rfl
  · obtain ⟨x, v, rfl, hx, k⟩ := h
    refine ⟨_, rfl, x, A_BadPath, _, rfl, by decide, XC_BadPath.ox, hx, ?_⟩
    exact ⟨_, rfl, _, rfl, x, A_BadPath, rfl, XC_BadPath.ox, XF, .inl ⟨hx, fun dx h1 h2 => k dx h1 h2⟩⟩

abbrev s_NoSuch_init : Stmt := inClass (topS 6) 0
abbrev N_NoSuch_init : List Str := ["self", "path"]
theorem sc_NoSuch_init : FnScope N_NoSuch_init ["self", "path"] (defScope s_NoSuch_init) := ⟨rfl, rfl, rfl, by decide +kernel, rfl, by decide +kernel, by decide +kernel⟩
theorem ok_NoSuch_init {f : Addr} {fd : FuncData} (F : Fun K "__init__" "NoSuch.__init__" s_NoSuch_init f fd) {A_NoSuch A_TreeError : Addr} (XC_NoSuch : XCls K mg "NoSuch" A_NoSuch) (XO_TreeError : OBase K mg "TreeError" A_TreeError) (XF : PySem.W.findIn K (.ref A_NoSuch) "path" = some none) : FnOk P w K mg base CX0 1 f fd ["self", "path"] (sp_exc1 "path" A_NoSuch) := by
  refine F.ok sc_NoSuch_init (fun vs H Q E h => ?_) (fun cdv A outer s H vs Q E hr h => ⟨_, pss_cons (ps_expr (pe_oinit (by rfl) XO_TreeError (pa_cons (pv 0) (pa_cons pe_str pa_nil)))) (pss_one (ps_ost (pv 0) (pv 1))), ?_⟩)
  · obtain ⟨x, v, rfl, _⟩ := h
    rfl
  · obtain ⟨x, v, rfl, hx, k⟩ := h
    refine ⟨_, rfl, x, A_NoSuch, _, rfl, by decide, XC_NoSuch.ox, hx, ?_⟩
    exact ⟨_, rfl, _, rfl, x, A_NoSuch, rfl, XC_NoSuch.ox, XF, .inl ⟨hx, fun dx h1 h2 => k dx h1 h2⟩⟩

abbrev s_NotDir_init : Stmt := inClass (topS 7) 0
abbrev N_NotDir_init : List Str := ["self", "path"]
theorem sc_NotDir_init : FnScope N_NotDir_init ["self", "path"] (defScope s_NotDir_init) := ⟨rfl, rfl, rfl, by decide +kernel, rfl, by decide +kernel, by decide +kernel⟩
theorem ok_NotDir_init {f : Addr} {fd : FuncData} (F : Fun K "__init__" "NotDir.__init__" s_NotDir_init f fd) {A_NotDir A_TreeError : Addr} (XC_NotDir : XCls K mg "NotDir" A_NotDir) (XO_TreeError : OBase K mg "TreeError" A_TreeError) (XF : PySem.W.findIn K (.ref A_NotDir) "path" = some none) : FnOk P w K mg base CX0 1 f fd ["self", "path"] (sp_exc1 "path" A_NotDir) := by
  refine F.ok sc_NotDir_init (fun vs H Q E h => ?_) (fun cdv A outer s H vs Q E hr h => ⟨_, pss_cons (ps_expr (pe_oinit (by rfl) XO_TreeError (pa_cons (pv 0) (pa_cons pe_str pa_nil)))) (pss_one (ps_ost (pv 0) (pv 1))), ?_⟩)
  · obtain ⟨x, v, rfl, _⟩ := h
    rfl
  · obtain ⟨x, v, rfl, hx, k⟩ := h
    refine ⟨_, rfl, x, A_NotDir, _, rfl, by decide, XC_NotDir.ox, hx, ?_⟩
    exact ⟨_, rfl, _, rfl, x, A_NotDir, rfl, XC_NotDir.ox, XF, .inl ⟨hx, fun dx h1 h2 => k dx h1 h2⟩⟩

abbrev s_IsDir_init : Stmt := inClass (topS 8) 0
abbrev N_IsDir_init : List Str := ["self", "path"]
theorem sc_IsDir_init : FnScope N_IsDir_init ["self", "path"] (defScope s_IsDir_init) := ⟨rfl, rfl, rfl, by decide +kernel, rfl, by decide +kernel, by decide +kernel⟩
theorem ok_IsDir_init {f : Addr} {fd : FuncData} (F : Fun K "__init__" "IsDir.__init__" s_IsDir_init f fd) {A_IsDir A_TreeError : Addr} (XC_IsDir : XCls K mg "IsDir" A_IsDir) (XO_TreeError : OBase K mg "TreeError" A_TreeError) (XF : PySem.W.findIn K (.ref A_IsDir) "path" = some none) : FnOk P w K mg base CX0 1 f fd ["self", "path"] (sp_exc1 "path" A_IsDir) := by
  refine F.ok sc_IsDir_init (fun vs H Q E h => ?_) (fun cdv A outer s H vs Q E hr h => ⟨_, pss_cons (ps_expr (pe_oinit (by rfl) XO_TreeError (pa_cons (pv 0) (pa_cons pe_str pa_nil)))) (pss_one (ps_ost (pv 0) (pv 1))), ?_⟩)
  · obtain ⟨x, v, rfl, _⟩ := h
    rfl
  · obtain ⟨x, v, rfl, hx, k⟩ := h
    refine ⟨_, rfl, x, A_IsDir, _, rfl, by decide, XC_IsDir.ox, hx, ?_⟩
    exact ⟨_, rfl, _, rfl, x, A_IsDir, rfl, XC_IsDir.ox, XF, .inl ⟨hx, fun dx h1 h2 => k dx h1 h2⟩⟩

abbrev s_Exists_init : Stmt := inClass (topS 9) 0
abbrev N_Exists_init : List Str := ["self", "path"]
theorem sc_Exists_init : FnScope N_Exists_init ["self", "path"] (defScope s_Exists_init) := ⟨rfl, rfl, rfl, by decide +kernel, rfl, by decide +kernel, by decide +kernel⟩
theorem ok_Exists_init {f : Addr} {fd : FuncData} (F : Fun K "__init__" "Exists.__init__" s_Exists_init f fd) {A_Exists A_TreeError : Addr} (XC_Exists : XCls K mg "Exists" A_Exists) (XO_TreeError : OBase K mg "TreeError" A_TreeError) (XF : PySem.W.findIn K (.ref A_Exists) "path" = some none) : FnOk P w K mg base CX0 1 f fd ["self", "path"] (sp_exc1 "path" A_Exists) := by
  refine F.ok sc_Exists_init (fun vs H Q E h => ?_) (fun cdv A outer s H vs Q E hr h => ⟨_, pss_cons (ps_expr (pe_oinit (by rfl) XO_TreeError (pa_cons (pv 0) (pa_cons pe_str pa_nil)))) (pss_one (ps_ost (pv 0) (pv 1))), ?_⟩)
  · obtain ⟨x, v, rfl, _⟩ := h
    rfl
  · obtain ⟨x, v, rfl, hx, k⟩ := h
    refine ⟨_, rfl, x, A_Exists, _, rfl, by decide, XC_Exists.ox, hx, ?_⟩
    exact ⟨_, rfl, _, rfl, x, A_Exists, rfl, XC_Exists.ox, XF, .inl ⟨hx, fun dx h1 h2 => k dx h1 h2⟩⟩

abbrev s_TooMuch_init : Stmt := inClass (topS 15) 0
abbrev N_TooMuch_init : List Str := ["self", "kind"]
theorem sc_TooMuch_init : FnScope N_TooMuch_init ["self", "kind"] (defScope s_TooMuch_init) := ⟨rfl, rfl, rfl, by decide +kernel, rfl, by decide +kernel, by decide +kernel⟩
theorem ok_TooMuch_init {f : Addr} {fd : FuncData} (F : Fun K "__init__" "TooMuch.__init__" s_TooMuch_init f fd) {A_TooMuch A_TreeError : Addr} (XC_TooMuch : XCls K mg "TooMuch" A_TooMuch) (XO_TreeError : OBase K mg "TreeError" A_TreeError) (XF : PySem.W.findIn K (.ref A_TooMuch) "kind" = some none) : FnOk P w K mg base CX0 1 f fd ["self", "kind"] (sp_exc1 "kind" A_TooMuch) := by
  refine F.ok sc_TooMuch_init (fun vs H Q E h => ?_) (fun cdv A outer s H vs Q E hr h => ⟨_, pss_cons (ps_expr (pe_oinit (by rfl) XO_TreeError (pa_cons (pv 0) (pa_cons pe_str pa_nil)))) (pss_one (ps_ost (pv 0) (pv 1))), ?_⟩)
  · obtain ⟨x, v, rfl, _⟩ := h
    rfl
  · obtain ⟨x, v, rfl, hx, k⟩ := h
    refine ⟨_, rfl, x, A_TooMuch, _, rfl, by decide, XC_TooMuch.ox, hx, ?_⟩
    exact ⟨_, rfl, _, rfl, x, A_TooMuch, rfl, XC_TooMuch.ox, XF, .inl ⟨hx, fun dx h1 h2 => k dx h1 h2⟩⟩

abbrev s_is_of : Stmt := topS 20
abbrev N_is_of : List Str := ["thing", "signs", "sign"]
theorem sc_is_of : FnScope N_is_of ["thing", "signs"] (defScope s_is_of) := ⟨rfl, rfl, rfl, by decide +kernel, rfl, by decide +kernel, by decide +kernel⟩
/-- a thing that is no text -/
def NoStr (K : PySem.W.Frag) (H : Hp) (v : V) : Prop := ∃ t, TyX K H v t ∧ PySem.W.kitOne K t (.type "str") = some false
def sp_is_of (K : PySem.W.Frag) : Sp := fun vs H Q _ => ∃ v z, vs = [v, .str z] ∧ ((∃ d, Dt K H v d ∧ smallD d = true ∧ ∀ H', Same H H' → Q (.bl (isOf z d)) H') ∨ (NoStr K H v ∧ Q (.bl false) H))
theorem all_bl (bs : List Bool) : ((bs.all id) : Bool) = bs.all id := rfl
theorem ok_is_of {f : Addr} {fd : FuncData} (F : Fun K "is_of" "is_of" s_is_of f fd) (B : Bt mg) {tk_MOST_SIGNS : Tok} (g_MOST_SIGNS : mg "MOST_SIGNS" = some (.int 8 tk_MOST_SIGNS)) : GnOk P w K mg base CX0 1 f fd ["thing", "signs"] (sp_is_of K) := by
  refine gn_fun F sc_is_of (fun vs H Q E h => ?_) (fun cdv A outer s H vs Q E hr h => ?_)
  · obtain ⟨v, z, rfl, _⟩ := h
    rfl
  · obtain ⟨v, z, rfl, h⟩ := h
    refine ⟨_, (pss_cons (ps_if (PW.pt (pw_or (pt_not (pt_val (pe_callB (call_isiK K) (by rfl) B.isinstance (by decide +kernel) (pa_cons (pv 0) (pa_cons (pe_bltn (v := .ty "str") (by rfl) B.str (by decide +kernel) rfl) pa_nil))))) (pw_or1 (pt_not (pt_chain op_le op_le pe_int (pe_callB call_len_str (by rfl) B.len (by decide +kernel) (pa_cons (pv 0) pa_nil)) (pe_glob (by rfl) g_MOST_SIGNS (rel_i _ _)))))))
      (pss_one (ps_ret pe_bl))
      pss_nil)
    (pss_one (ps_ret (pe_callB (cr_allK K rfl) (by rfl) B.all (by decide +kernel) (pa_cons (pe_lc (own := [("sign", 2)]) (g := gName 2) (tt := tYes) (by rfl) sc_is_of.nd (pi_str (pv 0)) (blkOk_by (N := N_is_of) (sc := defScope s_is_of) (by decide +kernel)) (fun _ _ _ _ _ => pg_name (i := 2) sc_is_of.nd rfl (Or.inl rfl)) (fun _ _ _ _ _ => pts_nil) (fun _ _ _ _ _ => (pe_cmpR op_in_sign (pv 2) (pv 1) (by rfl)))) pa_nil))))), ?_⟩
    rcases h with ⟨d, hd, hsm, k⟩ | ⟨⟨t, ht, h3⟩, k⟩
    rotate_left
    · exact ⟨_, rfl, _, _, t, _, _, rfl, .ty _, ht, h3, _, rfl, iteT k⟩
    obtain ⟨t, ht, _, _, h3, _⟩ := ty_of hd
    refine ⟨_, rfl, _, _, t, _, _, rfl, .ty _, ht, h3, _, rfl, ?_⟩
    cases hd with
    | str x =>
      refine iteF ?_
      have hx5 := small_str hsm
      refine ⟨_, rfl, x, rfl, sz_of (by omega), _, _, rfl, rfl, _, rfl, ?_⟩
      by_cases c1 : (1 : Int) ≤ (x.length : Int)
      · refine iteT' (decide_eq_true c1) ?_
        refine ⟨_, _, rfl, rfl, _, rfl, ?_⟩
        by_cases c2 : (x.length : Int) ≤ 8
        · refine iteF' (by rw [decide_eq_true c2]; rfl) ?_
          refine ⟨_, rfl, x, rfl, fun D hD => ?_⟩
          have hxl : x.cps.size = x.length := rfl
          refine lc_it (walk_str (z := x)) (fun i H1 => H1 D = some (.lst (((x.cps.toList.take i).map fun c => decide (c ∈ z.cps.toList)).map V.bl)) ∧ Same H H1) ⟨upd_same, Same.new hD⟩ (fun _ _ _ _ => trivial) ?_ ?_
          · rintro i y H0 H1 hi ⟨h1, s1⟩ ⟨rfl, c, hc, rfl⟩
            refine ⟨rfl, ?_⟩
            have hc' : x.cps.toList[i]? = some c := by rw [Array.getElem?_toList]; exact hc
            refine ⟨_, rfl, _, rfl, c, z, rfl, rfl, _, h1, sz_lt (by rw [List.length_map, List.length_map, List.length_take]; omega), ?_, Same.newer s1 hD⟩
            rw [upd_same, take_snoc hc', List.map_append, List.map_append]
            rfl
          · rintro H1 ⟨h1, s1⟩
            rw [List.take_of_length_le (by simp)] at h1
            refine ⟨D, _, rfl, SqL.of h1, ?_⟩
            have e : isOf z (.str x) = ((x.cps.toList.map fun c => decide (c ∈ z.cps.toList)).all id) := by
              show (decide (1 ≤ x.length) && decide (x.length ≤ 8) && _) = _
              rw [decide_eq_true (by omega : 1 ≤ x.length), decide_eq_true (by omega : x.length ≤ 8), List.all_map]
              rfl
            rw [← e]
            exact k _ s1
        · refine iteT' (by rw [decide_eq_false c2]; rfl) ?_
          have e : isOf z (.str x) = false := by
            show (decide (1 ≤ x.length) && decide (x.length ≤ 8) && _) = _
            rw [decide_eq_false (by omega : ¬ x.length ≤ 8), Bool.and_false, Bool.false_and]
          have k' := k _ (Same.refl H)
          rw [e] at k'
          exact k'
      · refine iteF' (decide_eq_false c1) ⟨_, rfl, ?_⟩
        refine iteT ?_
        have e : isOf z (.str x) = false := by
          show (decide (1 ≤ x.length) && decide (x.length ≤ 8) && _) = _
          rw [decide_eq_false (by omega : ¬ 1 ≤ x.length), Bool.false_and, Bool.false_and]
        have k' := k _ (Same.refl H)
        rw [e] at k'
        exact k'
    | _ => exact iteT (k _ (Same.refl H))
abbrev s_is_name : Stmt := topS 21
abbrev N_is_name : List Str := ["thing"]
theorem sc_is_name : FnScope N_is_name ["thing"] (defScope s_is_name) := ⟨rfl, rfl, rfl, by decide +kernel, rfl, by decide +kernel, by decide +kernel⟩
def sp_is_name (K : PySem.W.Frag) : Sp := fun vs H Q _ => ∃ v d, vs = [v] ∧ Dt K H v d ∧ smallD d = true ∧ ∀ H', Same H H' → Q (.bl (isOf lettersS d)) H'
theorem ok_is_name {f : Addr} {fd : FuncData} (F : Fun K "is_name" "is_name" s_is_name f fd) (B : Bt mg) (C_is_of : Cal P w K mg base CX0 "is_of" 1 ["thing", "signs"] (sp_is_of K)) {tk_LETTERS : Tok} (g_LETTERS : mg "LETTERS" = some (.str "abcdefghijklmnopqrstuvwxyz" tk_LETTERS)) : GnOk P w K mg base CX0 2 f fd ["thing"] (sp_is_name K) := by
  refine gn_fun F sc_is_name (fun vs H Q E h => ?_) (fun cdv A outer s H vs Q E hr h => ?_)
  · obtain ⟨v, d, rfl, _⟩ := h
    rfl
  · obtain ⟨v, d, rfl, hd, hsm, k⟩ := h
    refine ⟨_, (pss_one (ps_ret (pe_cal C_is_of (hr.mono (by decide)) (by rfl) pass0 (pa_cons (pv 0) (pa_cons (pe_glob (by rfl) g_LETTERS (rel_s _ _)) pa_nil))))), ?_⟩
    exact ⟨_, rfl, v, lettersS, rfl, .inl ⟨d, hd, hsm, k⟩⟩
abbrev s_names_of : Stmt := topS 26
abbrev N_names_of : List Str := ["path", "first", "names", "name"]
theorem sc_names_of : FnScope N_names_of ["path"] (defScope s_names_of) := ⟨rfl, rfl, rfl, by decide +kernel, rfl, by decide +kernel, by decide +kernel⟩
/-- what a text's names are, or none -/
def pathNames (z : Str) : Option (List Str) :=
  if z = "/" then some [] else match Txt.split z "/" with
  | [] => none
  | f :: r => if f = "" ∧ 1 ≤ r.length ∧ r.length ≤ 8 ∧ (r.all fun t => isOf lettersS (.str t)) = true then some r else none
def sp_names_of (K : PySem.W.Frag) (C : Addr) : Sp := fun vs H Q E => ∃ v, vs = [v] ∧
  ((∃ z, v = .str z ∧ z.length ≤ 4000 ∧ (∀ ns, pathNames z = some ns → ∀ l H', Same H H' → H l = none → H' l = some (.lst (ns.map V.str)) → Q (.ref l) H') ∧
      (pathNames z = none → ∀ d H', Same H H' → H d = none → H' d = some (.xd [("path", v)]) → E (.ref C) (some d) H')) ∨
    (∃ t, TyX K H v t ∧ PySem.W.kitOne K t (.type "str") = some false ∧ ∀ d H', Same H H' → H d = none → H' d = some (.xd [("path", v)]) → E (.ref C) (some d) H'))
theorem path_bd {z : Str} {ns : List Str} (h : pathNames z = some ns) : ns.length ≤ 8 ∧ ∀ t ∈ ns, t.length ≤ 8 := by
  unfold pathNames at h
  split at h
  · cases h
    exact ⟨by simp, fun t ht => nomatch ht⟩
  · split at h
    · cases h
    · split at h
      · rename_i c
        cases h
        refine ⟨c.2.2.1, fun t ht => ?_⟩
        have q := List.all_eq_true.mp c.2.2.2 t ht
        have q' : (decide (1 ≤ t.length) && decide (t.length ≤ 8) && t.cps.toList.all fun s => decide (s ∈ lettersS.cps.toList)) = true := q
        exact of_decide_eq_true (Bool.and_eq_true_iff.mp (Bool.and_eq_true_iff.mp q').1).2
      · cases h
theorem ok_names_of {f : Addr} {fd : FuncData} (F : Fun K "names_of" "names_of" s_names_of f fd) (B : Bt mg) {A_BadPath : Addr} (XI_BadPath : ExI P w K mg base "BadPath" A_BadPath ["self", "path"] (sp_exc1 "path" A_BadPath)) (C_is_name : Cal P w K mg base CX0 "is_name" 2 ["thing"] (sp_is_name K)) {tk_STROKE : Tok} (g_STROKE : mg "STROKE" = some (.str "/" tk_STROKE)) {tk_MOST_DEEP : Tok} (g_MOST_DEEP : mg "MOST_DEEP" = some (.int 8 tk_MOST_DEEP)) : GnOk P w K mg base (L2.CX P w) 3 f fd ["path"] (sp_names_of K A_BadPath) := by
  refine gn_funX F sc_names_of (fun vs H Q E h => ?_) (fun cdv A outer s H vs Q E hr h => ?_)
  · obtain ⟨v, rfl, _⟩ := h
    rfl
  · obtain ⟨v, rfl, h⟩ := h
    refine ⟨_, (pss_cons (ps_if (pt_not (pt_val (pe_callB (call_isiK K) (by rfl) B.isinstance (by decide +kernel) (pa_cons (pv 0) (pa_cons (pe_bltn (v := .ty "str") (by rfl) B.str (by decide +kernel) rfl) pa_nil)))))
      (pss_one (ps_raise rfl (takes_of rfl rfl rfl rfl) (pmk_ex1 (k := 0) XI_BadPath (hr.mono (by decide)) (by rfl) (pa_cons (pv 0) pa_nil))))
      pss_nil)
    (pss_cons (ps_if (pt_cmpR op_eq (pv 0) (pe_glob (by rfl) g_STROKE (rel_s _ _)) (nomark _))
      (pss_one (ps_ret (pe_lst pa_nil)))
      pss_nil)
    (pss_cons (ps_asg (pe_split (pv 0) (pe_glob (by rfl) g_STROKE (rel_s _ _))) (pg_tupStar (n := 2) (i := 1) (by rfl) (pgs_cons (pg_name (i := 1) sc_names_of.nd rfl (Or.inl rfl)) (pgs_star (pg_name (i := 2) sc_names_of.nd rfl (Or.inl rfl)) pgs_nil))))
    (pss_cons (ps_if (PW.pt (pw_or (pt_cmpR op_ne (pv 1) pe_str (nomark _)) (pw_or (pt_not (pt_chain op_le op_le pe_int (pe_callB (call_lenK K) (by rfl) B.len (by decide +kernel) (pa_cons (pv 2) pa_nil)) (pe_glob (by rfl) g_MOST_DEEP (rel_i _ _)))) (pw_or1 (pt_not (pt_val (pe_callB (cr_allK K rfl) (by rfl) B.all (by decide +kernel) (pa_cons (pe_lc (own := [("name", 3)]) (g := gName 3) (tt := tYes) (by rfl) sc_names_of.nd (pi_listK K (pv 2)) (blkOk_by (N := N_names_of) (sc := defScope s_names_of) (by decide +kernel)) (fun _ _ _ _ _ => pg_name (i := 3) sc_names_of.nd rfl (Or.inl rfl)) (fun _ _ _ _ _ => pts_nil) (fun _ _ _ _ _ => (pe_cal C_is_name (hr.mono (by decide)) (by rfl) pass0 (pa_cons (pv 3) pa_nil)))) pa_nil))))))))
      (pss_one (ps_raise rfl (takes_of rfl rfl rfl rfl) (pmk_ex1 (k := 0) XI_BadPath (hr.mono (by decide)) (by rfl) (pa_cons (pv 0) pa_nil))))
      pss_nil)
    (pss_one (ps_ret (pv 2))))))), ?_⟩
    rcases h with ⟨z, rfl, hz, hok, hbad⟩ | ⟨t, ht, hk, hbad⟩
    · refine ⟨_, rfl, _, _, _, _, _, rfl, .ty _, .base (.str z), kSS, _, rfl, ?_⟩
      refine iteF ?_
      refine ⟨_, rfl, rfl, _, rfl, ?_⟩
      refine ite2 (fun c => ?_) (fun c => ?_)
      · have c' : z = "/" := by
          have := of_decide_eq_true c
          exact V.str.inj this
        refine ⟨by decide, fun l hl => hok [] ?_ l _ (Same.new hl) hl upd_same⟩
        rw [c']
        unfold pathNames
        rw [if_pos rfl]
      · have c' : z ≠ "/" := fun e => c (by rw [e]; exact decide_eq_true rfl)
        obtain ⟨sl, se⟩ := split_len z
        refine ⟨_, rfl, ⟨z, rfl⟩, z, _, rfl, rfl, rfl, sz_of (by omega), fun p hp => ?_⟩
        obtain ⟨f, r, hfr⟩ : ∃ f r, Txt.split z "/" = f :: r := split_ne z
        rw [hfr] at sl se
        have hrl : r.length ≤ 4000 := by
          have : (f :: r).length = r.length + 1 := rfl
          omega
        have hrs : ∀ t ∈ r, t.length ≤ 4000 := fun t ht => Nat.le_trans (se t (List.mem_cons_of_mem _ ht)) hz
        have hpn : pathNames z = if f = "" ∧ 1 ≤ r.length ∧ r.length ≤ 8 ∧ (r.all fun t => isOf lettersS (.str t)) = true then some r else none := by
          unfold pathNames
          rw [if_neg c', hfr]
        refine ⟨p, (f :: r).map V.str, rfl, .inl (by rw [hfr]; exact SqL.of upd_same), by rw [List.length_map]; show 2 ≤ r.length + 1 + 1; omega, by rw [List.length_map]; show r.length + 1 ≤ 16384; omega, fun D hD => ?_⟩
        rw [hfr] at hD ⊢
        obtain ⟨H2, eH2⟩ : ∃ H2, H2 = upd (upd H p (.lst ((f :: r).map V.str))) D (.lst (r.map V.str)) := ⟨_, rfl⟩
        have s2 : Same H H2 := by rw [eH2]; exact Same.newer (Same.new hp) (ne_none2 hD)
        have hl2 : H2 D = some (.lst (r.map V.str)) := by rw [eH2]; exact upd_same
        have hDn : H D = none := ne_none2 hD
        have e1 : List.take ((List.map V.str (f :: r)).length + 1 - 2) (List.drop 1 (List.map V.str (f :: r))) = r.map V.str := by
          exact List.take_of_length_le (by simp)
        have e2 : List.take 1 (List.map V.str (f :: r)) ++ [V.ref D] ++ List.drop ((List.map V.str (f :: r)).length + 1 - 2) (List.drop 1 (List.map V.str (f :: r))) = [.str f, .ref D] := by
          simp
        rw [e1, e2, ← eH2]
        have bad : ∀ H3, Same H2 H3 → pathNames z = none → tMkO A_BadPath (sp_exc1 (Str.ofString "path") A_BadPath) [] (tCons (tVar 0) tNil) [some (.str z), some (.str f), some (.ref D), none] H3 fun cls d H' => E cls d H' := fun H3 s3 hn => ⟨_, rfl, exc1_way ⟨_, rfl, fun d H4 s n h => hbad hn d H4 ((s2.trans s3).trans s) (same_none (s2.trans s3) n) h⟩⟩
        refine ⟨_, _, rfl, _, _, rfl, rfl, ?_⟩
        refine ⟨_, rfl, rfl, _, rfl, ?_⟩
        by_cases cf : f = ""
        · subst cf
          refine iteF' (by rw [decide_eq_true rfl]; rfl) ?_
          refine ⟨_, rfl, _, r.length, rfl, .inl ⟨_, SqL.of hl2, by simp⟩, _, _, rfl, rfl, _, rfl, ?_⟩
          by_cases c1 : (1 : Int) ≤ (r.length : Int)
          · refine iteT' (decide_eq_true c1) ?_
            refine ⟨_, _, rfl, rfl, _, rfl, ?_⟩
            by_cases c2 : (r.length : Int) ≤ 8
            · refine iteF' (by rw [decide_eq_true c2]; rfl) ?_
              refine ⟨_, rfl, D, rfl, ⟨_, SqL.of hl2⟩, fun G hG => ?_⟩
              refine lc_list (K := K) (a := D) (xs := r.map V.str) (fun i H1 => H1 G = some (.lst (((r.take i).map fun t => isOf lettersS (.str t)).map V.bl)) ∧ Same H2 H1) ⟨upd_same, Same.new hG⟩ (fun _ _ _ ⟨_, s1⟩ => SqL.of (s1 _ _ hl2)) ?_ ?_
              · rintro i x H3 hi ⟨h3, s3⟩
                obtain ⟨t, ht, rfl⟩ : ∃ t, r[i]? = some t ∧ x = V.str t := by
                  rw [List.getElem?_map] at hi
                  obtain ⟨t, ht, e⟩ := Option.map_eq_some_iff.mp hi
                  exact ⟨t, ht, e.symm⟩
                refine ⟨rfl, ?_⟩
                refine ⟨_, rfl, _, _, rfl, .str t, ?_, fun H4 s4 => ⟨_, s4 _ _ h3, sz_lt (by rw [List.length_map, List.length_map, List.length_take]; omega), ?_, Same.newer (s3.trans s4) hG⟩⟩
                · show decide (t.length ≤ 5000) = true
                  exact decide_eq_true (Nat.le_trans (hrs t (List.mem_of_getElem? ht)) (by decide))
                · rw [upd_same, take_snoc ht, List.map_append, List.map_append]
                  rfl
              · rintro H3 ⟨h3, s3⟩
                rw [List.length_map, List.take_length] at h3
                refine ⟨G, _, rfl, SqL.of h3, _, rfl, ?_⟩
                have eall : (r.all fun t => isOf lettersS (.str t)) = ((r.map fun t => isOf lettersS (.str t)).all id) := by
                  rw [List.all_map]
                  rfl
                by_cases c3 : (r.all fun t => isOf lettersS (.str t)) = true
                · refine iteF' (by rw [← eall, c3]; rfl) ?_
                  refine ⟨_, rfl, hok r (by rw [hpn]; exact if_pos ⟨rfl, by omega, by omega, c3⟩) D H3 (s2.trans s3) hDn (s3 _ _ hl2)⟩
                · refine iteT' (by rw [← eall, Bool.eq_false_iff.mpr c3]; rfl) (bad _ s3 ?_)
                  rw [hpn, if_neg (fun z => c3 z.2.2.2)]
            · refine iteT' (by rw [decide_eq_false c2]; rfl) (iteT (bad _ (Same.refl _) ?_))
              rw [hpn, if_neg (fun z => by omega)]
          · refine iteF' (decide_eq_false c1) ?_
            refine ⟨_, rfl, ?_⟩
            refine iteT (iteT (bad _ (Same.refl _) ?_))
            rw [hpn, if_neg (fun z => by omega)]
        · refine iteT' (by rw [decide_eq_false (fun e => cf (V.str.inj e))]; rfl) (iteT (bad _ (Same.refl _) ?_))
          rw [hpn, if_neg (fun z => cf z.1)]
    · refine ⟨_, rfl, _, _, t, _, _, rfl, .ty _, ht, hk, _, rfl, ?_⟩
      refine iteT ?_
      exact ⟨_, rfl, exc1_way ⟨v, rfl, fun d H2 s n h => hbad d H2 s n h⟩⟩
abbrev s_path_of : Stmt := topS 27
abbrev N_path_of : List Str := ["names"]
theorem sc_path_of : FnScope N_path_of ["names"] (defScope s_path_of) := ⟨rfl, rfl, rfl, by decide +kernel, rfl, by decide +kernel, by decide +kernel⟩
def pathOf (ys : List Str) : Str := ("/" : Str) ++ Txt.join "/" ys
def sp_path_of (K : PySem.W.Frag) : Sp := fun vs H Q _ => ∃ (p : Addr) (ys : List Str), vs = [.ref p] ∧ (SqL K H p (ys.map V.str) ∨ SqT K H p (ys.map V.str)) ∧ (ys.map (·.length)).sum + ys.length ≤ 10000 ∧ Q (.str (pathOf ys)) H
theorem ok_path_of {f : Addr} {fd : FuncData} (F : Fun K "path_of" "path_of" s_path_of f fd) (B : Bt mg) {tk_STROKE : Tok} (g_STROKE : mg "STROKE" = some (.str "/" tk_STROKE)) : GnOk P w K mg base CX0 1 f fd ["names"] (sp_path_of K) := by
  refine gn_fun F sc_path_of (fun vs H Q E h => ?_) (fun cdv A outer s H vs Q E hr h => ?_)
  · obtain ⟨p, ys, rfl, _⟩ := h
    rfl
  · obtain ⟨p, ys, rfl, hs, hl, k⟩ := h
    refine ⟨_, (pss_one (ps_ret (pe_op op_add_str (pe_glob (by rfl) g_STROKE (rel_s _ _)) (pe_join (pe_glob (by rfl) g_STROKE (rel_s _ _)) (pv 0))))), ?_⟩
    refine ⟨⟨_, rfl⟩, _, rfl, _, p, ys, rfl, rfl, hs, ?_, _, _, rfl, rfl, ?_, k⟩
    · show _ + ys.length * 1 ≤ _
      omega
    · have := join_len "/" ys
      have e : (("/" : Str)).length = 1 := rfl
      rw [e] at this ⊢
      rw [sizeLine_eq]
      omega
/-! a tree, as an object: its nodes by number, each a dict of names or a list of words -/
def trF (d : Addr) (nx : Int) : List (Str × V) := [("inner", .ref d), ("next_one", .int nx)]
section
variable {d : Addr} {nx z : Int}
theorem tr_1 : (trF d nx).lookup ("inner" : Str) = some (.ref d) := lk0
theorem tr_2 : (trF d nx).lookup ("next_one" : Str) = some (.int nx) := lkS (by decide +kernel) lk0
theorem tr_no {m : Str} (h : ([("inner" : Str), "next_one"] : List Str).all (fun f => !decide (m = f)) = true) : (trF d nx).lookup m = none := lk_no h
theorem trput_2 : putF "next_one" (V.int z) (trF d nx) = trF d z := putS (by decide +kernel) put0
end
theorem sqL_m {K : PySem.W.Frag} {H H' : Hp} {a : Addr} {xs : List V} (s : Same H H') (h : SqL K H a xs) : SqL K H' a xs := by
  rcases h with (h | ⟨o, h⟩) | h
  · exact .inl (.inl (s _ _ h))
  · exact .inl (.inr ⟨o, s _ _ h⟩)
  · exact .inr h
inductive Nd where
  | dir (es : List (Str × Int))
  | file (ws : List Str)
abbrev TLs := List (Int × Addr × Nd)
def ndO : Nd → HO
  | .dir es => .dK (es.map fun e => (.inr e.1, .int e.2))
  | .file ws => .lst (ws.map V.str)
def innK (L : TLs) : List (Key × V) := L.map fun p => (.inl p.1, .ref p.2.1)
def ndAt (L : TLs) (n : Int) : Option (Addr × Nd) := (L.find? fun p => decide (p.1 = n)).map (·.2)
def entAt (es : List (Str × Int)) (z : Str) : Option Int := (es.find? fun e => decide (e.1 = z)).map (·.2)
theorem inn_val (n : Int) : ∀ L : TLs, valV (innK L) (.inl n) = (ndAt L n).map fun q => .ref q.1
  | [] => rfl
  | p :: r => by
    unfold innK ndAt
    rw [List.map_cons]
    by_cases e : p.1 = n
    · rw [valV_pos (p := (Sum.inl p.1, V.ref p.2.1)) (by rw [e]), List.find?_cons_of_pos (by exact decide_eq_true e)]
      rfl
    · rw [valV_neg (p := (Sum.inl p.1, V.ref p.2.1)) (by intro z; exact e (Sum.inl.inj z)), List.find?_cons_of_neg (by simp [e])]
      exact inn_val n r
theorem ent_val (z : Str) : ∀ es : List (Str × Int), valV (es.map fun e => ((.inr e.1 : Key), V.int e.2)) (.inr z) = (entAt es z).map V.int
  | [] => rfl
  | p :: r => by
    unfold entAt
    rw [List.map_cons]
    by_cases e : p.1 = z
    · rw [valV_pos (p := (Sum.inr p.1, V.int p.2)) (by rw [e]), List.find?_cons_of_pos (by exact decide_eq_true e)]
      rfl
    · rw [valV_neg (p := (Sum.inr p.1, V.int p.2)) (by intro q; exact e (Sum.inr.inj q)), List.find?_cons_of_neg (by simp [e])]
      exact ent_val z r
theorem ndAt_mem {n : Int} {q : Addr × Nd} : ∀ {L : TLs}, ndAt L n = some q → (n, q) ∈ L := by
  intro L h
  unfold ndAt at h
  obtain ⟨p, hp, e⟩ := Option.map_eq_some_iff.mp h
  have m := List.mem_of_find?_eq_some hp
  have c : p.1 = n := of_decide_eq_true (List.find?_some (p := fun p : Int × Addr × Nd => decide (p.1 = n)) hp)
  obtain ⟨p1, p2⟩ := p
  cases c
  cases e
  exact m
theorem entAt_mem {z : Str} {n : Int} {es : List (Str × Int)} (h : entAt es z = some n) : (z, n) ∈ es := by
  unfold entAt at h
  obtain ⟨p, hp, e⟩ := Option.map_eq_some_iff.mp h
  have m := List.mem_of_find?_eq_some hp
  have c : p.1 = z := of_decide_eq_true (List.find?_some (p := fun p : Str × Int => decide (p.1 = z)) hp)
  obtain ⟨p1, p2⟩ := p
  cases c
  cases e
  exact m
def sizedN : Nd → Prop
  | .dir es => es.length ≤ 20 ∧ ∀ e ∈ es, e.1.length ≤ 8
  | .file ws => ws.length ≤ 40 ∧ ∀ w ∈ ws, w.length ≤ 8
structure TrOk (L : TLs) (nx : Int) : Prop where
  ks : (L.map (·.1)).Nodup
  root : ∃ a es, ndAt L 1 = some (a, .dir es)
  cl : ∀ n a es, ndAt L n = some (a, .dir es) → ∀ z m, entAt es z = some m → (ndAt L m).isSome = true
  lt : ∀ p ∈ L, p.1 < nx
  m : L.length ≤ 24
  sz : ∀ p ∈ L, sizedN p.2.2
/-- the tree L stands at x, its dict of nodes at d -/
structure TrAt (C : Addr) (H : Hp) (x d : Addr) (L : TLs) (nx : Int) : Prop where
  ob : ∃ dx, H x = some (.ins C dx (trF d nx))
  inn : H d = some (.dK (innK L))
  nd : ∀ p ∈ L, H p.2.1 = some (ndO p.2.2)
  as : (L.map (·.2.1)).Nodup
  df : ∀ p ∈ L, p.2.1 ≠ d
  wf : TrOk L nx
def TrFoot (x d : Addr) (L : TLs) (b : Addr) : Prop := b = x ∨ b = d ∨ ∃ p ∈ L, p.2.1 = b
section
variable {C : Addr} {H H' : Hp} {x d : Addr} {L : TLs} {nx : Int}
theorem TrAt.m (s : Same H H') (h : TrAt C H x d L nx) : TrAt C H' x d L nx := by
  obtain ⟨⟨dx, h1⟩, h2, h3, h4, h5, h6⟩ := h
  exact ⟨⟨dx, s _ _ h1⟩, s _ _ h2, fun p hp => s _ _ (h3 p hp), h4, h5, h6⟩
theorem TrAt.off (h : TrAt C H x d L nx) (s : ∀ b o, H b = some o → TrFoot x d L b → H' b = some o) : TrAt C H' x d L nx := by
  obtain ⟨⟨dx, h1⟩, h2, h3, h4, h5, h6⟩ := h
  exact ⟨⟨dx, s _ _ h1 (.inl rfl)⟩, s _ _ h2 (.inr (.inl rfl)), fun p hp => s _ _ (h3 p hp) (.inr (.inr ⟨p, hp, rfl⟩)), h4, h5, h6⟩
theorem TrAt.at (h : TrAt C H x d L nx) {n : Int} {a : Addr} {o : Nd} (e : ndAt L n = some (a, o)) : H a = some (ndO o) := h.nd _ (ndAt_mem e)
theorem TrAt.nax (h : TrAt C H x d L nx) {p : Int × Addr × Nd} (e : p ∈ L) : p.2.1 ≠ x := fun q => by
  obtain ⟨dx, k⟩ := h.ob
  have := h.nd p e
  rw [q, k] at this
  obtain ⟨n, a, o⟩ := p
  cases o <;> cases this
theorem TrAt.ndx (h : TrAt C H x d L nx) : d ≠ x := fun q => by
  obtain ⟨dx, k⟩ := h.ob
  have := h.inn
  rw [q, k] at this
  cases this
theorem TrAt.someF (h : TrAt C H x d L nx) {b : Addr} (f : TrFoot x d L b) : ∃ o, H b = some o := by
  rcases f with rfl | rfl | ⟨p, hp, rfl⟩
  · obtain ⟨dx, k⟩ := h.ob
    exact ⟨_, k⟩
  · exact ⟨_, h.inn⟩
  · exact ⟨_, h.nd p hp⟩
end
/-- a walk along names: what is refused (a thing is missing there or no directory), and at which name -/
def goW (L : TLs) : Int → List Str → (Bool × Nat) ⊕ Int
  | n, [] => .inr n
  | n, z :: r => match ndAt L n with
    | some (_, .dir es) => match entAt es z with
      | some m => match goW L m r with
        | .inl (b, k) => .inl (b, k + 1)
        | .inr q => .inr q
      | none => .inl (true, 1)
    | _ => .inl (false, 0)
theorem goW_cons (L : TLs) (n : Int) (z : Str) (r : List Str) : goW L n (z :: r) = match ndAt L n with
    | some (_, .dir es) => match entAt es z with
      | some m => match goW L m r with
        | .inl (b, k) => .inl (b, k + 1)
        | .inr q => .inr q
      | none => .inl (true, 1)
    | _ => .inl (false, 0) := rfl
def shW (j : Nat) : (Bool × Nat) ⊕ Int → (Bool × Nat) ⊕ Int
  | .inl (b, k) => .inl (b, k + j)
  | .inr q => .inr q
theorem shW_0 (o : (Bool × Nat) ⊕ Int) : shW 0 o = o := by
  cases o with
  | inl p => rfl
  | inr q => rfl
theorem shW_s (j : Nat) (o : (Bool × Nat) ⊕ Int) : (match shW j o with | .inl (b, k) => (.inl (b, k + 1) : (Bool × Nat) ⊕ Int) | .inr q => .inr q) = shW (j + 1) o := by
  cases o with
  | inl p => rfl
  | inr q => rfl
theorem goW_app (L : TLs) : ∀ (xs ys : List Str) (n m : Int), goW L n xs = .inr m → goW L n (xs ++ ys) = shW xs.length (goW L m ys)
  | [], ys, n, m, h => by
    cases h
    rw [List.nil_append, List.length_nil, shW_0]
  | z :: r, ys, n, m, h => by
    rw [List.cons_append, List.length_cons]
    rw [goW_cons] at h ⊢
    cases e : ndAt L n with
    | none =>
      rw [e] at h
      cases h
    | some q =>
      obtain ⟨a, o⟩ := q
      rw [e] at h
      cases o with
      | file ws => cases h
      | dir es =>
        dsimp only at h ⊢
        cases e2 : entAt es z with
        | none =>
          rw [e2] at h
          cases h
        | some t =>
          rw [e2] at h
          dsimp only at h ⊢
          cases e3 : goW L t r with
          | inl p =>
            rw [e3] at h
            cases h
          | inr q =>
            rw [e3] at h
            rw [goW_app L r ys t q e3, shW_s]
            cases h
            rfl
theorem goW_in {L : TLs} {nx : Int} (w : TrOk L nx) : ∀ (xs : List Str) (n m : Int), (ndAt L n).isSome = true → goW L n xs = .inr m → (ndAt L m).isSome = true
  | [], n, m, h, e => by
    cases e
    exact h
  | z :: r, n, m, h, e => by
    unfold goW at e
    cases e1 : ndAt L n with
    | none =>
      rw [e1] at e
      cases e
    | some q =>
      obtain ⟨a, o⟩ := q
      rw [e1] at e
      cases o with
      | file ws => cases e
      | dir es =>
        dsimp only at e
        cases e2 : entAt es z with
        | none =>
          rw [e2] at e
          cases e
        | some t =>
          rw [e2] at e
          dsimp only at e
          cases e3 : goW L t r with
          | inl p =>
            rw [e3] at e
            cases e
          | inr q =>
            rw [e3] at e
            cases e
            exact goW_in w r t m (w.cl n a es e1 z t e2) e3
theorem TrOk.isSome {L : TLs} {nx : Int} (w : TrOk L nx) {xs : List Str} {m : Int} (h : goW L 1 xs = .inr m) : ∃ a o, ndAt L m = some (a, o) := by
  obtain ⟨a, es, e⟩ := w.root
  have := goW_in w xs 1 m (by rw [e]; rfl) h
  obtain ⟨q, hq⟩ := Option.isSome_iff_exists.mp this
  exact ⟨q.1, q.2, hq⟩
/-- the directory at n, or none -/
def dirAt (L : TLs) (n : Int) : Option (Addr × List (Str × Int)) := match ndAt L n with
  | some (a, .dir es) => some (a, es)
  | _ => none
/-- the directory that the last name stands in -/
def abW (L : TLs) (ns : List Str) : (Bool × Nat) ⊕ Int := match goW L 1 ns.dropLast with
  | .inr n => match ndAt L n with
    | some (_, .dir _) => .inr n
    | _ => .inl (false, ns.dropLast.length)
  | .inl p => .inl p
/-- names as they stand in a path -/
def NmS (ns : List Str) : Prop := ns.length ≤ 8 ∧ ∀ z ∈ ns, z.length ≤ 8
theorem NmS.take {ns : List Str} (h : NmS ns) (k : Nat) : NmS (ns.take k) := ⟨Nat.le_trans (by rw [List.length_take]; omega) h.1, fun z hz => h.2 z (List.mem_of_mem_take hz)⟩
theorem NmS.dl {ns : List Str} (h : NmS ns) : NmS ns.dropLast := ⟨Nat.le_trans (by rw [List.length_dropLast]; omega) h.1, fun z hz => h.2 z (List.dropLast_subset _ hz)⟩
theorem sum_nm : ∀ {ns : List Str}, (∀ z ∈ ns, z.length ≤ 8) → (ns.map (·.length)).sum ≤ 8 * ns.length
  | [], _ => by simp
  | z :: r, h => by
    rw [List.map_cons, List.sum_cons, List.length_cons]
    have := h z (List.mem_cons_self ..)
    have := sum_nm (fun y hy => h y (List.mem_cons_of_mem _ hy))
    omega
theorem NmS.sum {ns : List Str} (h : NmS ns) : (ns.map (·.length)).sum + ns.length ≤ 10000 := by
  have := sum_nm h.2
  have := h.1
  omega
def ndT : Nd → String
  | .dir _ => "dict"
  | .file _ => "list"
theorem TyX.nd {K : PySem.W.Frag} {H : Hp} {a : Addr} {o : Nd} (h : H a = some (ndO o)) : TyX K H (.ref a) (.type (ndT o)) := by
  cases o with
  | dir es => exact .base (.dK h)
  | file ws => exact .base (.lst h)
def isD : Nd → Bool
  | .dir _ => true
  | .file _ => false
theorem kit_nd {K : PySem.W.Frag} {o : Nd} : PySem.W.kitOne K (.type (ndT o)) (.type "dict") = some (isD o) := by
  cases o with
  | dir es =>
    show PySem.W.kitOne K (.type "dict") (.type "dict") = some true
    exact kit_ty (by decide +kernel)
  | file ws =>
    show PySem.W.kitOne K (.type "list") (.type "dict") = some false
    exact kit_ty (by decide +kernel)
section
variable {C : Addr} {H H' : Hp} {x d : Addr} {L : TLs} {nx : Int}
theorem TrAt.dgo (h : TrAt C H x d L nx) (n : Int) : DGet H d (.int n) ((ndAt L n).map fun q => .ref q.1) := by
  have := DGet.k (k := .inl n) h.inn
  rw [inn_val] at this
  exact this
theorem TrAt.dg (h : TrAt C H x d L nx) {n : Int} {a : Addr} {o : Nd} (e : ndAt L n = some (a, o)) : DGet H d (.int n) (some (.ref a)) := by
  have := h.dgo n
  rw [e] at this
  exact this
theorem dgE {a : Addr} {es : List (Str × Int)} (h : H a = some (ndO (.dir es))) (z : Str) : DGet H a (.str z) ((entAt es z).map V.int) := by
  have := DGet.k (k := .inr z) h
  rw [ent_val] at this
  exact this
theorem dgEs {a : Addr} {es : List (Str × Int)} (h : H a = some (ndO (.dir es))) {z : Str} {n : Int} (e : entAt es z = some n) : DGet H a (.str z) (some (.int n)) := by
  have := dgE h z
  rw [e] at this
  exact this
end
theorem tyx_m {K : PySem.W.Frag} {H H' : Hp} {v : V} {t : Value} (s : Same H H') (h : TyX K H v t) : TyX K H' v t := by
  cases h with
  | base b =>
    refine .base ?_
    cases b with
    | non => exact .non
    | bl y => exact .bl y
    | int i => exact .int i
    | str y => exact .str y
    | flt y => exact .flt y
    | lst e => exact .lst (s _ _ e)
    | frz e => exact .frz (s _ _ e)
    | tup e => exact .tup (s _ _ e)
    | dK e => exact .dK (s _ _ e)
    | dT e => exact .dT (s _ _ e)
    | ins e cl ha hn htk hm => exact .ins (s _ _ e) cl ha hn htk hm
  | byt b => exact .byt b
  | set e => exact .set (s _ _ e)
  | kList e c => exact .kList e c
  | kTuple e c => exact .kTuple e c
  | kDict e c => exact .kDict e c
  | fTuple e => exact .fTuple (s _ _ e)
  | fDict e => exact .fDict (s _ _ e)
/-- an exception with one field -/
def exE (E : Value → Option Addr → Hp → Prop) (H : Hp) (C : Addr) (f : Str) (v : V) : Prop := ∀ e H', Same H H' → H e = none → H' e = some (.xd [(f, v)]) → E (.ref C) (some e) H'
theorem exE.m {E : Value → Option Addr → Hp → Prop} {H H' : Hp} {C : Addr} {f : Str} {v : V} (h : exE E H C f v) (s : Same H H') : exE E H' C f v := fun e H2 s2 n q => h e H2 (s.trans s2) (same_none s n) q
def goE (ND NS : Addr) (E : Value → Option Addr → Hp → Prop) (H : Hp) (ns : List Str) (p : Bool × Nat) : Prop := exE E H (if p.1 = true then NS else ND) "path" (.str (pathOf (ns.take p.2)))
/-- a path as it is handed in: a text, or a thing that is none -/
def PthV (K : PySem.W.Frag) (H : Hp) (v : V) : Prop := (∃ z, v = .str z ∧ z.length ≤ 4000) ∨ ((∀ z, v ≠ .str z) ∧ ∃ t, TyX K H v t ∧ PySem.W.kitOne K t (.type "str") = some false)
theorem PthV.m {K : PySem.W.Frag} {H H' : Hp} {v : V} (s : Same H H') (h : PthV K H v) : PthV K H' v := by
  rcases h with h | ⟨h, t, ht, hk⟩
  · exact .inl h
  · exact .inr ⟨h, t, tyx_m s ht, hk⟩
def pnV (v : V) : Option (List Str) := match v with
  | .str z => pathNames z
  | _ => none
theorem pnV_no {v : V} (h : ∀ z, v ≠ .str z) : pnV v = none := by
  cases v with
  | str z => exact absurd rfl (h z)
  | _ => rfl
theorem pnV_bd {v : V} {ns : List Str} (h : pnV v = some ns) : NmS ns := by
  cases v with
  | str z => exact path_bd h
  | _ => cases h
/-- names_of's promise, as a call meets it -/
theorem names_way {K : PySem.W.Frag} {σ : St} {C : Addr} {H : Hp} {v : V} {Q : VK} {E : Value → Option Addr → Hp → Prop} (h : PthV K H v) (hok : ∀ ns, pnV v = some ns → ∀ l H', Same H H' → H l = none → H' l = some (.lst (ns.map V.str)) → Q (.ref l) H')
    (hbad : pnV v = none → exE E H C "path" v) : tNil σ H fun xs H2 => sp_names_of K C ((v :: xs) ++ []) H2 Q E := by
  refine ⟨v, rfl, ?_⟩
  rcases h with ⟨z, rfl, hz⟩ | ⟨hn, t, ht, hk⟩
  · exact .inl ⟨z, rfl, hz, hok, fun e d H' s n q => hbad e d H' s n q⟩
  · exact .inr ⟨t, ht, hk, fun d H' s n q => hbad (pnV_no hn) d H' s n q⟩
theorem cut_dl (ns : List Str) : cutV (ns.map V.str) none (some (-1)) = ns.dropLast.map V.str := by
  unfold cutV
  rw [List.map_dropLast, List.dropLast_eq_take]
  show (List.take (HT.sIx (ns.map V.str).length (ns.map V.str).length (some (-1)) - 0) (List.drop 0 (ns.map V.str))) = _
  rw [List.drop_zero, Nat.sub_zero]
  refine congrFun (congrArg List.take ?_) _
  have e3 : HT.sIx (ns.map V.str).length (ns.map V.str).length (some (-1)) = (-1 + ((ns.map V.str).length : Int)).toNat := by
    show (if (-1 : Int) < 0 then (-1 + ((ns.map V.str).length : Int)).toNat else min (-1 : Int).toNat (ns.map V.str).length) = _
    exact if_pos (by decide)
  rw [e3]
  omega
theorem cut_tk {ns : List Str} {i : Nat} {k : Int} (h : k = (i : Int)) (hi : i ≤ ns.length) : cutV (ns.map V.str) none (some k) = (ns.take i).map V.str := by
  subst h
  unfold cutV
  rw [List.map_take]
  show (List.take (HT.sIx (ns.map V.str).length (ns.map V.str).length (some (i : Int)) - 0) (List.drop 0 (ns.map V.str))) = _
  rw [List.drop_zero, Nat.sub_zero, HT.sIx_nat, List.length_map, Nat.min_eq_left hi]
theorem nd_inj {α β : Type} {f : α → β} : ∀ {L : List α}, (L.map f).Nodup → ∀ {p q : α}, p ∈ L → q ∈ L → f p = f q → p = q
  | [], _, _, _, hp, _, _ => nomatch hp
  | c :: r, h, p, q, hp, hq, e => by
    rw [List.map_cons, List.nodup_cons] at h
    rcases List.mem_cons.mp hp with e1 | h1
    · rcases List.mem_cons.mp hq with e2 | h2
      · rw [e1, e2]
      · exact absurd (List.mem_map.mpr ⟨q, h2, by rw [← e, e1]⟩) h.1
    · rcases List.mem_cons.mp hq with e2 | h2
      · exact absurd (List.mem_map.mpr ⟨p, h1, by rw [e, e2]⟩) h.1
      · exact nd_inj h.2 h1 h2 e
/-- all but a tree stays -/
def OffT (x d : Addr) (L : TLs) (H H' : Hp) : Prop := ∀ c u, H c = some u → ¬ TrFoot x d L c → H' c = some u
/-! a node put otherwise, a node more -/
def setNd (L : TLs) (n : Int) (o : Nd) : TLs := L.map fun p => if p.1 = n then (p.1, p.2.1, o) else p
def growL (L : TLs) (n : Int) (es : List (Str × Int)) (z : Str) (nx : Int) (b : Addr) (o : Nd) : TLs := setNd L n (.dir (es ++ [(z, nx)])) ++ [(nx, b, o)]
theorem ndAt_pos {p : Int × Addr × Nd} {r : TLs} {n : Int} (e : p.1 = n) : ndAt (p :: r) n = some p.2 := by simp [ndAt, List.find?_cons, e]
theorem ndAt_neg {p : Int × Addr × Nd} {r : TLs} {n : Int} (e : ¬ p.1 = n) : ndAt (p :: r) n = ndAt r n := by simp [ndAt, List.find?_cons, e]
theorem ndAt_set (n m : Int) (o : Nd) : ∀ L : TLs, ndAt (setNd L n o) m = (ndAt L m).map fun q => if m = n then (q.1, o) else q
  | [] => rfl
  | p :: r => by
    have ih := ndAt_set n m o r
    unfold setNd at ih ⊢
    rw [List.map_cons]
    by_cases e : p.1 = m
    · rw [ndAt_pos e]
      by_cases c : p.1 = n
      · rw [if_pos c, ndAt_pos (p := (p.1, p.2.1, o)) e, Option.map_some, if_pos (e.symm.trans c)]
      · rw [if_neg c, ndAt_pos e, Option.map_some, if_neg (fun q => c (e.trans q))]
    · rw [ndAt_neg e]
      by_cases c : p.1 = n
      · rw [if_pos c, ndAt_neg (p := (p.1, p.2.1, o)) e, ih]
      · rw [if_neg c, ndAt_neg e, ih]
theorem ndAt_app (m : Int) (M : TLs) : ∀ L : TLs, ndAt (L ++ M) m = (ndAt L m).or (ndAt M m)
  | [] => by simp [ndAt]
  | p :: r => by
    rw [List.cons_append]
    by_cases e : p.1 = m
    · rw [ndAt_pos e, ndAt_pos e]
      rfl
    · rw [ndAt_neg e, ndAt_neg e, ndAt_app m M r]
theorem ndAt_lt {L : TLs} {nx m : Int} (h : ∀ p ∈ L, p.1 < nx) (k : nx ≤ m) : ndAt L m = none := by
  cases e : ndAt L m with
  | none => rfl
  | some q =>
    have := h _ (ndAt_mem e)
    exact absurd this (by show ¬ m < nx; omega)
theorem innK_set (L : TLs) (n : Int) (o : Nd) : innK (setNd L n o) = innK L := by
  unfold innK setNd
  rw [List.map_map]
  refine List.map_congr_left fun p _ => ?_
  show (_, _) = _
  by_cases c : p.1 = n
  · simp [c]
  · simp [c]
theorem mem_set {L : TLs} {n : Int} {o : Nd} {q : Int × Addr × Nd} (h : q ∈ setNd L n o) : ∃ p ∈ L, q.1 = p.1 ∧ q.2.1 = p.2.1 ∧ (q.2.2 = p.2.2 ∧ p.1 ≠ n ∨ q.2.2 = o ∧ p.1 = n) := by
  obtain ⟨p, hp, rfl⟩ := List.mem_map.mp h
  refine ⟨p, hp, ?_⟩
  by_cases c : p.1 = n
  · rw [if_pos c]
    exact ⟨rfl, rfl, .inr ⟨rfl, c⟩⟩
  · rw [if_neg c]
    exact ⟨rfl, rfl, .inl ⟨rfl, c⟩⟩
theorem adr_set (L : TLs) (n : Int) (o : Nd) : (setNd L n o).map (·.2.1) = L.map (·.2.1) := by
  unfold setNd
  rw [List.map_map]
  refine List.map_congr_left fun p _ => ?_
  by_cases c : p.1 = n
  · simp [c]
  · simp [c]
theorem entAt_app (y : Str) (e2 : List (Str × Int)) : ∀ es : List (Str × Int), entAt (es ++ e2) y = (entAt es y).or (entAt e2 y)
  | [] => by simp [entAt]
  | p :: r => by
    have ih := entAt_app y e2 r
    unfold entAt at ih ⊢
    rw [List.cons_append, List.find?_cons, List.find?_cons]
    by_cases e : p.1 = y
    · simp [e]
    · simp only [e, decide_false]
      exact ih
section
variable {C : Addr} {H H' : Hp} {x d : Addr} {L : TLs} {nx : Int}
/-- two nodes at one address are one -/
theorem TrAt.one (h : TrAt C H x d L nx) {p q : Int × Addr × Nd} (hp : p ∈ L) (hq : q ∈ L) (e : p.2.1 = q.2.1) : p = q := nd_inj h.as hp hq e
/-- one node put otherwise, where the numbers differ -/
theorem TrAt.set (h : TrAt C H x d L nx) {n : Int} {a : Addr} {o o' : Nd} (hn : ndAt L n = some (a, o)) (ha : H' a = some (ndO o')) (s : ∀ b u, H b = some u → b ≠ a → TrFoot x d L b → H' b = some u) (w : TrOk (setNd L n o') nx) : TrAt C H' x d (setNd L n o') nx := by
  obtain ⟨dx, hx⟩ := h.ob
  have hm := ndAt_mem hn
  refine ⟨⟨dx, s _ _ hx (fun e => h.nax hm e.symm) (.inl rfl)⟩, ?_, fun p hp => ?_, by rw [adr_set]; exact h.as, fun p hp => ?_, w⟩
  · rw [innK_set]
    exact s _ _ h.inn (fun e => h.df _ hm e.symm) (.inr (.inl rfl))
  · obtain ⟨q, hq, e1, e2, e3 | e3⟩ := mem_set hp
    · rw [e2, e3.1]
      refine s _ _ (h.nd q hq) (fun e => e3.2 ?_) (.inr (.inr ⟨q, hq, rfl⟩))
      rw [h.one hq hm e]
    · rw [e2, e3.1]
      have : q = (n, a, o) := nd_inj h.wf.ks hq hm e3.2
      rw [this]
      exact ha
  · obtain ⟨q, hq, e1, e2, _⟩ := mem_set hp
    rw [e2]
    exact h.df q hq
end
theorem growL_at {L : TLs} {n nx : Int} {a b : Addr} {es : List (Str × Int)} {z : Str} {o : Nd} (hn : ndAt L n = some (a, .dir es)) (lt : ∀ p ∈ L, p.1 < nx) (m : Int) :
    ndAt (growL L n es z nx b o) m = if m = nx then some (b, o) else if m = n then some (a, .dir (es ++ [(z, nx)])) else ndAt L m := by
  unfold growL
  rw [ndAt_app, ndAt_set]
  by_cases c : m = nx
  · rw [if_pos c, ndAt_lt lt (Int.le_of_eq c.symm), ndAt_pos (p := (nx, b, o)) c.symm]
    rfl
  · rw [if_neg c, ndAt_neg (p := (nx, b, o)) (fun e => c e.symm)]
    by_cases c2 : m = n
    · rw [if_pos c2, c2, hn, Option.map_some, if_pos rfl]
      rfl
    · rw [if_neg c2]
      cases ndAt L m with
      | none => rfl
      | some q => simp [c2]
theorem entAt_grow {es : List (Str × Int)} {z y : Str} {nx t : Int} (h : entAt (es ++ [(z, nx)]) y = some t) : entAt es y = some t ∨ t = nx := by
  rw [entAt_app] at h
  cases e : entAt es y with
  | some u =>
    rw [e] at h
    exact .inl h
  | none =>
    rw [e] at h
    have := entAt_mem (es := [(z, nx)]) h
    rw [List.mem_singleton] at this
    exact .inr (congrArg Prod.snd this)
theorem TrOk.grow {L : TLs} {n nx : Int} {a b : Addr} {es : List (Str × Int)} {z : Str} {o : Nd} (w : TrOk L nx) (hn : ndAt L n = some (a, .dir es)) (he : es.length < 20) (hl : L.length < 24) (hz : z.length ≤ 8) (ho : o = .dir [] ∨ o = .file []) :
    TrOk (growL L n es z nx b o) (nx + 1) := by
  have at_ := growL_at (b := b) (o := o) (z := z) hn w.lt
  have some_ : ∀ t, (ndAt L t).isSome = true ∨ t = nx → (ndAt (growL L n es z nx b o) t).isSome = true := fun t ht => by
    rw [at_]
    by_cases c : t = nx
    · rw [if_pos c]; rfl
    · rw [if_neg c]
      by_cases c2 : t = n
      · rw [if_pos c2]; rfl
      · rw [if_neg c2]
        exact ht.resolve_right c
  refine ⟨?_, ?_, fun m a' es' e y t hy => ?_, fun p hp => ?_, ?_, fun p hp => ?_⟩
  · unfold growL
    rw [List.map_append]
    have e1 : (setNd L n (.dir (es ++ [(z, nx)]))).map (·.1) = L.map (·.1) := by
      unfold setNd
      rw [List.map_map]
      refine List.map_congr_left fun p _ => ?_
      by_cases c : p.1 = n
      · simp [c]
      · simp [c]
    rw [e1]
    refine List.nodup_append.mpr ⟨w.ks, by simp, fun i hi j hj => ?_⟩
    obtain ⟨p, hp, rfl⟩ := List.mem_map.mp hi
    have := w.lt p hp
    have e2 : j = nx := by simpa using hj
    rw [e2]
    omega
  · obtain ⟨a', es', e⟩ := w.root
    have : (1 : Int) < nx := w.lt _ (ndAt_mem e)
    rw [at_, if_neg (by omega)]
    by_cases c : (1 : Int) = n
    · rw [if_pos c]; exact ⟨_, _, rfl⟩
    · rw [if_neg c]; exact ⟨_, _, e⟩
  · rw [at_] at e
    refine some_ t ?_
    by_cases c : m = nx
    · rw [if_pos c] at e
      rcases ho with rfl | rfl
      · cases e
        cases hy
      · cases e
    · rw [if_neg c] at e
      by_cases c2 : m = n
      · rw [if_pos c2] at e
        cases e
        exact (entAt_grow hy).imp (fun h => w.cl n a es hn y t h) id
      · rw [if_neg c2] at e
        exact .inl (w.cl m a' es' e y t hy)
  · rcases List.mem_append.mp hp with hp | hp
    · obtain ⟨q, hq, e1, _⟩ := mem_set hp
      rw [e1]
      have := w.lt q hq
      omega
    · rw [List.mem_singleton.mp hp]
      show nx < nx + 1
      omega
  · unfold growL setNd
    rw [List.length_append, List.length_map]
    exact hl
  · rcases List.mem_append.mp hp with hp | hp
    · obtain ⟨q, hq, e1, e2, e3 | e3⟩ := mem_set hp
      · rw [e3.1]
        exact w.sz q hq
      · rw [e3.1]
        have := w.sz _ (ndAt_mem hn)
        refine ⟨by rw [List.length_append]; exact he, fun e hm => ?_⟩
        rcases List.mem_append.mp hm with hm | hm
        · exact this.2 e hm
        · rw [List.mem_singleton.mp hm]
          exact hz
    · rw [List.mem_singleton.mp hp]
      rcases ho with rfl | rfl
      · exact ⟨by simp, fun e he => nomatch he⟩
      · exact ⟨by simp, fun e he => nomatch he⟩
theorem TrAt.grow {C : Addr} {H H' : Hp} {x d : Addr} {L : TLs} {nx n : Int} {a b : Addr} {es : List (Str × Int)} {z : Str} {o : Nd} (h : TrAt C H x d L nx) (hn : ndAt L n = some (a, .dir es)) (w : TrOk (growL L n es z nx b o) (nx + 1)) (hb : H b = some (ndO o)) (nb : ¬ TrFoot x d L b)
    (hx : ∃ dx, H' x = some (.ins C dx (trF d (nx + 1)))) (hd : H' d = some (.dK (innK L ++ [(.inl nx, .ref b)]))) (ha : H' a = some (ndO (.dir (es ++ [(z, nx)])))) (s : ∀ c u, H c = some u → c ≠ x → c ≠ d → c ≠ a → H' c = some u) : TrAt C H' x d (growL L n es z nx b o) (nx + 1) := by
  have hm := ndAt_mem hn
  have nbx : b ≠ x := fun e => nb (.inl e)
  have nbd : b ≠ d := fun e => nb (.inr (.inl e))
  have nbp : ∀ p ∈ L, p.2.1 ≠ b := fun p hp e => nb (.inr (.inr ⟨p, hp, e⟩))
  refine ⟨hx, ?_, fun p hp => ?_, ?_, fun p hp => ?_, w⟩
  · rw [hd]
    unfold growL
    have : innK (setNd L n (.dir (es ++ [(z, nx)])) ++ [(nx, b, o)]) = innK (setNd L n (.dir (es ++ [(z, nx)]))) ++ [(.inl nx, .ref b)] := by
      unfold innK
      rw [List.map_append]
      rfl
    rw [this, innK_set]
  · rcases List.mem_append.mp hp with hp | hp
    · obtain ⟨q, hq, e1, e2, e3 | e3⟩ := mem_set hp
      · rw [e2, e3.1]
        refine s _ _ (h.nd q hq) (h.nax hq) (h.df q hq) (fun e => e3.2 ?_)
        rw [h.one hq hm e]
      · rw [e2, e3.1]
        have : q = (n, a, .dir es) := nd_inj h.wf.ks hq hm e3.2
        rw [this]
        exact ha
    · rw [List.mem_singleton.mp hp]
      exact s _ _ hb nbx nbd (fun e => nbp _ hm e.symm)
  · unfold growL
    rw [List.map_append, adr_set]
    refine List.nodup_append.mpr ⟨h.as, by simp, fun i hi j hj => ?_⟩
    obtain ⟨p, hp, rfl⟩ := List.mem_map.mp hi
    have e2 : j = b := by simpa using hj
    rw [e2]
    exact nbp p hp
  · rcases List.mem_append.mp hp with hp | hp
    · obtain ⟨q, hq, e1, e2, _⟩ := mem_set hp
      rw [e2]
      exact h.df q hq
    · rw [List.mem_singleton.mp hp]
      exact nbd
theorem path_small {z : Str} {ns : List Str} (h : pathNames z = some ns) : ∀ t ∈ ns, ∀ c ∈ t.cps.toList, c < 128 := by
  unfold pathNames at h
  split at h
  · cases h
    exact fun t ht => nomatch ht
  · split at h
    · cases h
    · split at h
      · rename_i c
        cases h
        intro t ht c' hc
        have q := List.all_eq_true.mp c.2.2.2 t ht
        have q' : (decide (1 ≤ t.length) && decide (t.length ≤ 8) && t.cps.toList.all fun s => decide (s ∈ lettersS.cps.toList)) = true := q
        have q2 := of_decide_eq_true (List.all_eq_true.mp (Bool.and_eq_true_iff.mp q').2 c' hc)
        exact of_decide_eq_true (List.all_eq_true.mp (show lettersS.cps.toList.all (· < 128) = true by decide +kernel) c' q2)
      · cases h
theorem names_shp {v : V} {ns : List Str} (h : pnV v = some ns) : SeqAt.shaped (.list (ns.map PyData.str)) = true := by
  cases v with
  | str z =>
    refine (Shp.list (k := 0) fun d hd => ?_).shaped (by decide)
    obtain ⟨t, ht, rfl⟩ := List.mem_map.mp hd
    exact Shp.str fun c hc => Nat.lt_trans (path_small h t ht c hc) (by decide)
  | _ => cases h
theorem eqv_nil (ns : List Str) : PyData.eqv (.list (ns.map PyData.str)) (.list []) = decide (ns = []) := by
  cases ns with
  | nil => rfl
  | cons a r => rfl
theorem put_ent {es : List (Str × Int)} {z : Str} {n : Int} (h : entAt es z = none) : putK (es.map fun e => ((Sum.inr e.1 : Key), V.int e.2)) (.inr z) (.int n) = (es ++ [(z, n)]).map fun e => ((Sum.inr e.1 : Key), V.int e.2) := by
  rw [putK_new _ (by rw [ent_val, h]; rfl), List.map_append]
  rfl
theorem put_inn {L : TLs} {nx : Int} {b : Addr} (h : ∀ p ∈ L, p.1 < nx) : putK (innK L) (.inl nx) (.ref b) = innK L ++ [(.inl nx, .ref b)] := putK_new _ (by rw [inn_val, ndAt_lt h (Int.le_refl _)]; rfl)
theorem putCut_w {ws : List Str} {w : Str} {i : Nat} {k j : Int} (hk : k = (i : Int)) (hj : j = (i : Int) + 1) (hi : i ≤ ws.length) : putCut (ws.map V.str) [V.str w] (some k) (some j) = (ws.take i ++ w :: ws.drop (i + 1)).map V.str := by
  subst hk
  subst hj
  unfold putCut PySem.W.kms_lo PySem.W.kms_hi
  dsimp only
  rw [if_neg (by omega), if_neg (by omega), List.length_map, List.map_append, List.map_take, List.map_cons, List.map_drop]
  have e1 : min (i : Int).toNat ws.length = i := by omega
  rw [e1]
  have e2 : ((i : Int) + 1).toNat = i + 1 := by omega
  rw [e2, List.append_assoc, List.singleton_append]
  congr 2
  by_cases c : i + 1 ≤ ws.length
  · rw [Nat.min_eq_left c]
  · rw [Nat.min_eq_right (by omega), List.drop_of_length_le (by rw [List.length_map]; exact Nat.le_refl _), List.drop_of_length_le (by rw [List.length_map]; omega)]
theorem putCut_c {ws : List Str} {i : Nat} {k : Int} (hk : k = (i : Int)) (hi : i ≤ ws.length) : putCut (ws.map V.str) [] (some k) none = (ws.take i).map V.str := by
  subst hk
  unfold putCut PySem.W.kms_lo PySem.W.kms_hi
  dsimp only
  rw [if_neg (by omega), List.length_map, List.map_take, List.append_nil, List.drop_of_length_le (by rw [List.length_map]; exact Nat.le_refl _), List.append_nil]
  have e1 : min (i : Int).toNat ws.length = i := by omega
  rw [e1]
theorem TrOk.file {L : TLs} {n nx : Int} {a : Addr} {ws ws' : List Str} (w : TrOk L nx) (hn : ndAt L n = some (a, .file ws)) (h : sizedN (.file ws')) : TrOk (setNd L n (.file ws')) nx := by
  have some_ : ∀ t, (ndAt L t).isSome = true → (ndAt (setNd L n (.file ws')) t).isSome = true := fun t ht => by
    rw [ndAt_set, Option.isSome_map]
    exact ht
  refine ⟨?_, ?_, fun m a' es' e y t hy => ?_, fun p hp => ?_, ?_, fun p hp => ?_⟩
  · have e1 : (setNd L n (.file ws')).map (·.1) = L.map (·.1) := by
      unfold setNd
      rw [List.map_map]
      refine List.map_congr_left fun p _ => ?_
      by_cases c : p.1 = n
      · simp [c]
      · simp [c]
    rw [e1]
    exact w.ks
  · obtain ⟨a', es', e⟩ := w.root
    have c : ¬ (1 : Int) = n := fun q => by
      rw [← q, e] at hn
      cases hn
    exact ⟨a', es', by rw [ndAt_set, e, Option.map_some, if_neg c]⟩
  · refine some_ t ?_
    rw [ndAt_set] at e
    obtain ⟨q, hq, eq⟩ := Option.map_eq_some_iff.mp e
    by_cases c : m = n
    · rw [if_pos c] at eq
      cases eq
    · rw [if_neg c] at eq
      subst eq
      exact w.cl m a' es' hq y t hy
  · obtain ⟨q, hq, e1, _⟩ := mem_set hp
    rw [e1]
    exact w.lt q hq
  · unfold setNd
    rw [List.length_map]
    exact w.m
  · obtain ⟨q, hq, e1, e2, e3 | e3⟩ := mem_set hp
    · rw [e3.1]
      exact w.sz q hq
    · rw [e3.1]
      exact h
theorem withinV_int {v : V} {m : Int} (h : withinV v 0 m = true) : ∃ i : Nat, v = .int (i : Int) ∧ (i : Int) ≤ m := by
  cases v with
  | int n =>
    obtain ⟨h1, h2⟩ := Bool.and_eq_true_iff.mp (show (decide (0 ≤ n) && decide (n ≤ m)) = true from h)
    have h1 := of_decide_eq_true h1
    exact ⟨n.toNat, by rw [Int.toNat_of_nonneg h1], by have := of_decide_eq_true h2; omega⟩
  | _ => cases h

abbrev s_Tree_init : Stmt := inClass (topS 34) 0
abbrev N_Tree_init : List Str := ["self"]
theorem sc_Tree_init : FnScope N_Tree_init ["self"] (defScope s_Tree_init) := ⟨rfl, rfl, rfl, by decide +kernel, rfl, by decide +kernel, by decide +kernel⟩
theorem tr0_ok {a : Addr} : TrOk [(1, a, .dir [])] 2 := by
  refine ⟨by simp, ⟨a, [], rfl⟩, fun n b es e z m h => ?_, fun p hp => ?_, by simp, fun p hp => ?_⟩
  · have := ndAt_mem e
    rw [List.mem_singleton] at this
    cases this
    cases h
  · rw [List.mem_singleton.mp hp]
    show (1 : Int) < 2
    decide
  · rw [List.mem_singleton.mp hp]
    exact ⟨by simp, fun e he => nomatch he⟩
def sp_Tree_init (C : Addr) : Sp := fun vs H Q _ => ∃ (x dx : Addr), vs = [.ref x] ∧ H x = some (.ins C dx []) ∧ ∀ d a H', SameBut x H H' → H d = none → H a = none → TrAt C H' x d [(1, a, .dir [])] 2 → Q .non H'
theorem ok_Tree_init {f : Addr} {fd : FuncData} (F : Fun K "__init__" "Tree.__init__" s_Tree_init f fd) (B : Bt mg) {A_Tree : Addr} (T_Tree : CF K mg "Tree" A_Tree ["inner", "next_one"]) {tk_ROOT : Tok} (g_ROOT : mg "ROOT" = some (.int 1 tk_ROOT)) : GnOk P w K mg base CX0 1 f fd ["self"] (sp_Tree_init A_Tree) := by
  refine gn_fun F sc_Tree_init (fun vs H Q E h => ?_) (fun cdv A outer s H vs Q E hr h => ?_)
  · obtain ⟨x, dx, rfl, _⟩ := h
    rfl
  · obtain ⟨x, dx, rfl, hx, k⟩ := h
    refine ⟨_, (pss_cons (ps_fld (pv 0) (pe_disp (pps_cons (pe_glob (by rfl) g_ROOT (rel_i _ _)) pe_dnewK pps_nil) (by rfl) (by rfl) (fun z => by cases z) (by decide)) rfl)
    (pss_one (ps_fld (pv 0) (pe_op op_add (pe_glob (by rfl) g_ROOT (rel_i _ _)) pe_int) rfl))), ?_⟩
    intro d hd a ha
    have nda : d ≠ a := ne_of_none upd_same ha
    have ha' : H a = none := ne_none2 ha
    have nxd : x ≠ d := ne_of_none hx hd
    have nxa : x ≠ a := ne_of_none hx ha'
    refine ⟨by rw [upd_ne nda]; exact upd_same, [(.inl 1, .ref a)], rfl, by simp, ?_⟩
    refine ⟨_, rfl, x, A_Tree, dx, [], rfl, by rw [upd_ne nxd, upd_ne nxa, upd_ne nxd]; exact hx, T_Tree.cl, T_Tree.no _ (by simp), by decide, ?_⟩
    refine ⟨_, _, rfl, rfl, ?_⟩
    refine ⟨_, rfl, x, A_Tree, dx, _, rfl, upd_same, T_Tree.cl, T_Tree.no _ (by simp), fewS (by decide), ?_⟩
    rw [upd_upd]
    have e : putF "next_one" (V.int (1 + 1)) (putF "inner" (V.ref d) []) = trF d 2 := putS (by decide +kernel) rfl
    rw [e]
    have sb : SameBut x H (upd (upd (upd (upd H d (.dK [])) a (.dK [])) d (.dK (mergeK [] [(.inl 1, .ref a)]))) x (.ins A_Tree dx (trF d 2))) := by
      intro b o hb nb
      rw [upd_ne nb, upd_ne (ne_of_none hb hd), upd_ne (ne_of_none hb ha'), upd_ne (ne_of_none hb hd)]
      exact hb
    refine k d a _ sb hd ha' ⟨⟨dx, upd_same⟩, by rw [upd_ne nxd.symm]; exact upd_same, fun p hp => ?_, by simp, fun p hp => ?_, tr0_ok⟩
    · rw [List.mem_singleton.mp hp]
      show upd _ _ _ a = some (.dK [])
      rw [upd_ne nxa.symm, upd_ne nda.symm]
      exact upd_same
    · rw [List.mem_singleton.mp hp]
      exact nda.symm
abbrev s_l_pot : Stmt := topS 36
abbrev N_l_pot : List Str := ["script", "k", "cell"]
theorem sc_l_pot : FnScope N_l_pot ["script", "k"] (defScope s_l_pot) := ⟨rfl, rfl, rfl, by decide +kernel, rfl, by decide +kernel, by decide +kernel⟩
def sp_l_pot_k31 (K : PySem.W.Frag) : Sp := fun vs H Q _ => ∃ (a : Addr) (ns : List Int) (i : Nat), vs = [.ref a, .int i] ∧ SqL K H a (ns.map V.int) ∧ i ≤ 100 ∧
  ∀ (p : Addr) (H' : Hp) (A B : Int), Same H H' → H p = none → Pot H' p A B → Q (.ref p) H'
theorem ok_l_pot {f : Addr} {fd : FuncData} (F : Fun K "_law_pot" "_law_pot" s_l_pot f fd) (B : Bt mg) : GnOk P w K mg base CX0 1 f fd ["script", "k"] (sp_l_pot_k31 K) := by
  refine gn_fun F sc_l_pot (fun vs H Q E h => ?_) (fun cdv A outer s H vs Q E hr h => ?_)
  · obtain ⟨a, ns, i, rfl, _⟩ := h
    rfl
  · obtain ⟨a, ns, i, rfl, hS, hi, k⟩ := h
    refine ⟨_, (pss_cons (ps_set (i := 2) sc_l_pot.nd rfl (Or.inl rfl) (pe_ifExp (pt_cmpR op_lt (pv 1) (pe_callB (call_lenK K) (by rfl) B.len (by decide +kernel) (pa_cons (pv 0) pa_nil)) (nomark _)) (pe_ix (ix_listK K) (pv 0) (pv 1) (fun _ _ => rfl)) pe_int))
    (pss_one (ps_ret (pe_lst (pa_cons (pe_callB (call_max2 rfl) (by rfl) B.max (by decide +kernel) (pa_cons pe_int (pa_cons (pe_op op_sub (pv 2) (pe_op op_pow pe_int pe_int)) pa_nil))) (pa_cons (pe_op op_mod (pe_op op_add (pe_op op_add (pe_op op_mul (pe_op op_mod (pv 2) pe_int) pe_int) (pe_op op_mul pe_int (pv 1))) pe_int) pe_int) pa_nil)))))), ?_⟩
    refine ⟨_, rfl, _, rfl, _, ns.length, rfl, .inl ⟨_, hS, by simp⟩, _, _, rfl, rfl, _, rfl, ?_⟩
    refine ite2 (fun c => ⟨_, rfl, _, rfl, a, _, _, _, rfl, rfl, hS, atI_nat (v := V.int (ns[i]'(by have := of_decide_eq_true c; omega))) (by have := of_decide_eq_true c; simp [show i < ns.length by omega]), ?_⟩) (fun c => ?_)
    all_goals
      refine ⟨_, rfl, _, _, rfl, rfl, ⟨by decide, by decide, by decide⟩, _, _, rfl, rfl, _, _, rfl, ?_⟩
      refine ⟨_, rfl, _, _, rfl, rfl, (by show (0:Int) < 2147483629; decide), _, _, rfl, rfl, .inr (by decide), _, rfl, _, _, rfl, rfl, .inl (by decide), _, _, rfl, rfl, _, _, rfl, rfl, _, _, rfl, rfl, (by show (0:Int) < 2147483629; decide), (by show 2 ≤ sizeLine; decide), fun p hp => ?_⟩
      refine k p _ _ _ (Same.new hp) hp ⟨upd_same, ?_⟩
      unfold PotOk
      omega
abbrev s_Tree_links : Stmt := inClass (topS 34) 11
abbrev N_Tree_links : List Str := ["self", "number", "many", "inside", "one"]
theorem sc_Tree_links : FnScope N_Tree_links ["self", "number"] (defScope s_Tree_links) := ⟨rfl, rfl, rfl, by decide +kernel, rfl, by decide +kernel, by decide +kernel⟩
/-- how often a number stands within directories -/
def lkE (es : List (Str × Int)) (n : Int) : Nat := (es.filter fun e => decide (e.2 = n)).length
def lkN (n : Int) : Nd → Nat
  | .dir es => lkE es n
  | .file _ => 0
def lkL (L : TLs) (n : Int) : Nat := (L.map fun p => lkN n p.2.2).sum
def lkT (L : TLs) (n : Int) : Int := (if n = 1 then 1 else 0) + (lkL L n : Nat)
def sp_Tree_links (C : Addr) : Sp := fun vs H Q _ => ∃ (x d : Addr) (L : TLs) (nx n : Int), vs = [.ref x, .int n] ∧ TrAt C H x d L nx ∧ ∀ H', Same H H' → Q (.int ((if n = 1 then 1 else 0) + (lkL L n : Nat))) H'
theorem lock_same {H H' : Hp} {d : Addr} {od : Obj} {u : HO} (h : H d = some u) (s : Same (upd H d (.frz od u)) H') : Same H (upd H' d u) := by
  intro b o hb
  by_cases c : b = d
  · rw [c] at hb ⊢
    rw [upd_same, ← h, hb]
  · rw [upd_ne c]
    exact s b o (by rw [upd_ne c]; exact hb)
theorem lock_in {H H' : Hp} {d b : Addr} {od : Obj} {u o : HO} (s : Same (upd H d (.frz od u)) H') (hb : H b = some o) (n : b ≠ d) : H' b = some o := s b o (by rw [upd_ne n]; exact hb)
theorem lkL_snoc {L : TLs} {i : Nat} {p : Int × Addr × Nd} (h : L[i]? = some p) (n : Int) : lkL (L.take (i + 1)) n = lkL (L.take i) n + lkN n p.2.2 := by
  unfold lkL
  rw [take_snoc h, List.map_append, List.sum_append]
  simp
theorem ok_Tree_links {f : Addr} {fd : FuncData} (F : Fun K "links" "Tree.links" s_Tree_links f fd) (B : Bt mg) {A_Tree : Addr} (T_Tree : CF K mg "Tree" A_Tree ["inner", "next_one"]) {tk_ROOT : Tok} (g_ROOT : mg "ROOT" = some (.int 1 tk_ROOT)) : GnOk P w K mg base CX0 1 f fd ["self", "number"] (sp_Tree_links A_Tree) := by
  refine gn_fun F sc_Tree_links (fun vs H Q E h => ?_) (fun cdv A outer s H vs Q E hr h => ?_)
  · obtain ⟨x, d, L, nx, n, rfl, _⟩ := h
    rfl
  · obtain ⟨x, d, L, nx, n, rfl, ht, k⟩ := h
    refine ⟨_, (pss_cons (ps_set (i := 2) sc_Tree_links.nd rfl (Or.inl rfl) (pe_callTy call_int1 (by rfl) B.int (by decide +kernel) (pa_cons (pe_cmpR op_eq (pv 1) (pe_glob (by rfl) g_ROOT (rel_i _ _)) (nomark _)) pa_nil)))
    (pss_cons (ps_lock (ps_for PassesOwn.never rfl (pi_values (pe_fld (pv 0) rfl)) (pg_name (i := 3) sc_Tree_links.nd rfl (Or.inl rfl))
      (pss_one (ps_if (pt_val (pe_callB (call_isiK K) (by rfl) B.isinstance (by decide +kernel) (pa_cons (pv 3) (pa_cons (pe_bltn (v := .ty "dict") (by rfl) B.dict (by decide +kernel) rfl) pa_nil))))
      (pss_one (ps_aug (i := 2) sc_Tree_links.nd rfl (Or.inl rfl) (pe_callB (call_lenK K) (by rfl) B.len (by decide +kernel) (pa_cons (pe_lock (pe_lc (own := [("one", 4)]) (g := gName 4) (by rfl) sc_Tree_links.nd (pi_values (pv 3)) (blkOk_by (N := N_Tree_links) (sc := defScope s_Tree_links) (by decide +kernel)) (fun _ _ _ _ _ => pg_name (i := 4) sc_Tree_links.nd rfl (Or.inl rfl)) (fun _ _ _ _ _ => pts_one (pt_cmpR op_eq (pv 4) (pv 1) (nomark _))) (fun _ _ _ _ _ => (pv 4)))) pa_nil)) ip_add))
      pss_nil))))
    (pss_one (ps_ret (pv 2))))), ?_⟩
    obtain ⟨dx, ob⟩ := ht.ob
    have e1 : (if decide (V.int n = V.int 1) = true then (1 : Int) else 0) = if n = 1 then 1 else 0 := by
      by_cases c : n = 1
      · rw [if_pos c, if_pos (decide_eq_true (by rw [c]))]
      · rw [if_neg c, if_neg (fun e => c (V.int.inj (of_decide_eq_true e)))]
    refine ⟨_, rfl, rfl, .inr ⟨_, rfl, ?_⟩⟩
    rw [e1]
    generalize (if n = 1 then (1 : Int) else 0) = m at k ⊢
    refine ⟨d, _, ht.inn, trivial, fun od => ?_⟩
    have nxd : x ≠ d := fun e => ht.ndx e.symm
    refine ⟨_, rfl, x, A_Tree, dx, _, _, rfl, by rw [upd_ne nxd]; exact ob, T_Tree.cl, T_Tree.no _ (by simp), tr_1, d, od, _, rfl, upd_same, ?_⟩
    refine for_it (walk_values (d := d) (o := od) (kvs := innK L)) (fun i σ H2 => ∃ v3, σ = [some (.ref x), some (.int n), some (.int (m + (lkL (L.take i) n : Nat))), v3, none] ∧ Same (upd H d (.frz od (.dK (innK L)))) H2) ⟨none, by simp [lkL]; rfl, Same.refl _⟩ (fun _ _ H2 _ ⟨_, _, e⟩ => e _ _ upd_same) ?_ ?_
    · rintro i v σ H2 H3 hi ⟨v3, rfl, s2⟩ ⟨rfl, kk, hk⟩
      obtain ⟨p, hp, rfl⟩ : ∃ p, L[i]? = some p ∧ v = .ref p.2.1 := by
        unfold innK at hk
        rw [List.getElem?_map] at hk
        obtain ⟨p, hp, e⟩ := Option.map_eq_some_iff.mp hk
        exact ⟨p, hp, (congrArg Prod.snd e).symm⟩
      have hm := List.mem_of_getElem? hp
      have hnd : H3 p.2.1 = some (ndO p.2.2) := lock_in s2 (ht.nd p hm) (ht.df p hm)
      have hst := lkL_snoc hp n
      refine ⟨_, rfl, _, _, _, _, _, rfl, .ty _, TyX.nd hnd, kit_nd, _, rfl, ?_⟩
      obtain ⟨pn, pa, po⟩ := p
      cases po with
      | file ws =>
        refine iteF ⟨some (.ref pa), ?_, s2⟩
        rw [hst]
        rfl
      | dir es =>
        refine iteT ?_
        refine ⟨_, rfl, pa, _, hnd, trivial, fun od2 => ?_⟩
        refine ⟨_, rfl, pa, od2, _, rfl, upd_same, fun D hD => ?_⟩
        refine lc_it (walk_values (d := pa) (o := od2) (kvs := es.map fun e => ((Sum.inr e.1 : Key), V.int e.2))) (fun j H4 => H4 D = some (.lst (((es.take j).filter fun e => decide (e.2 = n)).map fun e => V.int e.2)) ∧ Same (upd H3 pa (.frz od2 (ndO (.dir es)))) H4) ⟨upd_same, Same.new hD⟩ (fun _ _ _ e => e.2 _ _ upd_same) ?_ ?_
        · rintro j y H4 H5 hj ⟨h5, s5⟩ ⟨rfl, kk2, hk2⟩
          rw [List.getElem?_map] at hk2
          obtain ⟨e, he, ee⟩ := Option.map_eq_some_iff.mp hk2
          obtain rfl : V.int e.2 = y := congrArg Prod.snd ee
          refine ⟨rfl, ?_⟩
          refine ⟨_, rfl, _, rfl, rfl, _, rfl, ?_⟩
          have hst2 : (es.take (j + 1)).filter (fun e => decide (e.2 = n)) = (es.take j).filter (fun e => decide (e.2 = n)) ++ [e].filter (fun e => decide (e.2 = n)) := by
            rw [take_snoc he, List.filter_append]
          have l20 : es.length ≤ 20 := (ht.wf.sz _ hm).1
          refine ite2 (fun c => ?_) (fun c => ?_)
          · have c' : e.2 = n := V.int.inj (of_decide_eq_true c)
            refine ⟨_, rfl, _, h5, sz_lt ?_, ?_, Same.newer s5 ?_⟩
            · rw [List.length_map]
              exact Nat.lt_of_le_of_lt (List.length_filter_le _ _) (by rw [List.length_take]; omega)
            · rw [upd_same, hst2, List.map_append]
              simp [c']
            · exact hD
          · have c' : ¬ e.2 = n := fun q => c (decide_eq_true (by rw [q]))
            refine ⟨?_, s5⟩
            rw [hst2, h5]
            simp [c']
        · rintro H4 ⟨h4, s4⟩
          rw [List.length_map, List.take_length] at h4
          have s6 := lock_same hnd s4
          have nDp : D ≠ pa := fun e => by
            rw [e, upd_same] at hD
            cases hD
          refine ⟨s4 _ _ upd_same, _, lkE es n, rfl, .inl ⟨_, SqL.of (by rw [upd_ne nDp]; exact h4), by rw [List.length_map]; rfl⟩, ?_⟩
          refine ⟨_, _, rfl, rfl, some (.ref pa), ?_, s2.trans s6⟩
          rw [hst]
          have e9 : m + (lkL (L.take i) n : Nat) + (lkE es n : Nat) = m + ((lkL (L.take i) n + lkN n (.dir es) : Nat) : Int) := by
            rw [Int.add_assoc]
            exact congrArg (m + ·) (Int.natCast_add _ _).symm
          show [some (.ref x), some (.int n), some (V.int (m + (lkL (L.take i) n : Nat) + (lkE es n : Nat))), some (.ref pa), none] = _
          rw [e9]
    · rintro σ H2 ⟨v3, rfl, s2⟩
      refine ⟨s2 _ _ upd_same, _, rfl, ?_⟩
      have : (L.take (innK L).length) = L := by
        unfold innK
        rw [List.length_map, List.take_length]
      rw [this]
      exact k _ (lock_same ht.inn s2)
abbrev s_Tree_node : Stmt := inClass (topS 34) 20
abbrev N_Tree_node : List Str := ["self", "number", "inside"]
theorem sc_Tree_node : FnScope N_Tree_node ["self", "number"] (defScope s_Tree_node) := ⟨rfl, rfl, rfl, by decide +kernel, rfl, by decide +kernel, by decide +kernel⟩
def itD (rows : List (Str × Int)) : PyData := .tuple (rows.map fun e => .tuple [.str e.1, .int e.2])
def sp_Tree_node (K : PySem.W.Frag) (C : Addr) : Sp := fun vs H Q _ => ∃ (x d : Addr) (L : TLs) (nx n : Int), vs = [.ref x, .int n] ∧ TrAt C H x d L nx ∧ (ndAt L n = none → Q .non H) ∧
  (∀ a ws, ndAt L n = some (a, .file ws) → ∀ v H', Same H H' → Dt K H' v (.tuple [.str "file", .int (lkT L n), .tuple (ws.map PyData.str)]) → Q v H') ∧
  ∀ a es, ndAt L n = some (a, .dir es) → ∀ rows v H', rows.Perm es → ST.SrtSI rows → Same H H' → Dt K H' v (.tuple [.str "dir", .int (lkT L n), itD rows]) → Q v H'
theorem dt_pairs {K : PySem.W.Frag} {H : Hp} : ∀ {ts : List (Addr × Str × Int)}, (∀ z ∈ ts, H z.1 = some (.tup [.str z.2.1, .int z.2.2])) → DtAll K H (ts.map fun z => V.ref z.1) ((ts.map (·.2)).map fun e => PyData.tuple [.str e.1, .int e.2])
  | [], _ => .nil
  | z :: r, h => .cons (.tup (SqT.of (h z List.mem_cons_self)) (.cons (.str _) (.cons (.int _) .nil))) (dt_pairs fun y hy => h y (List.mem_cons_of_mem _ hy))
theorem ok_Tree_node {f : Addr} {fd : FuncData} (F : Fun K "node" "Tree.node" s_Tree_node f fd) (B : Bt mg) {A_Tree : Addr} (T_Tree : CF K mg "Tree" A_Tree ["inner", "next_one"]) (M_Tree_links : Mth P w K mg base CX0 A_Tree "links" 1 ["self", "number"] (sp_Tree_links A_Tree)) : GnOk P w K mg base CX0 2 f fd ["self", "number"] (sp_Tree_node K A_Tree) := by
  refine gn_fun F sc_Tree_node (fun vs H Q E h => ?_) (fun cdv A outer s H vs Q E hr h => ?_)
  · obtain ⟨x, d, L, nx, n, rfl, _⟩ := h
    rfl
  · obtain ⟨x, d, L, nx, n, rfl, ht, k1, k2, k3⟩ := h
    refine ⟨_, (pss_cons (ps_if (pt_cmp (pc_dnotin hr.hu (pv 1) (pe_fld (pv 0) rfl)))
      (pss_one (ps_ret pe_non))
      pss_nil)
    (pss_cons (ps_set (i := 2) sc_Tree_node.nd rfl (Or.inl rfl) (pe_dget hr.hu (pe_fld (pv 0) rfl) (pv 1) (fun _ _ => rfl)))
    (pss_cons (ps_if (pt_val (pe_callB (call_isiK K) (by rfl) B.isinstance (by decide +kernel) (pa_cons (pv 2) (pa_cons (pe_bltn (v := .ty "dict") (by rfl) B.dict (by decide +kernel) rfl) pa_nil))))
      (pss_one (ps_ret (pe_tup (pa_cons pe_str (pa_cons (pe_mth M_Tree_links T_Tree.cl (hr.mono (by decide)) pass0 (pv 0) (pa_cons (pv 1) pa_nil)) (pa_cons (pe_callTy (call_tuple_ofK K) (by rfl) B.tuple (by decide +kernel) (pa_cons (pe_callB (ST.cr_sortedItS rfl) (by rfl) B.sorted (by decide +kernel) (pa_cons (pe_bm0 PySem.F.plainAttrs_dict PySem.F.slot_dict_items PySem.F.type_dict_items mt_itemsK (pv 2)) pa_nil)) pa_nil)) pa_nil))))))
      pss_nil)
    (pss_one (ps_ret (pe_tup (pa_cons pe_str (pa_cons (pe_mth M_Tree_links T_Tree.cl (hr.mono (by decide)) pass0 (pv 0) (pa_cons (pv 1) pa_nil)) (pa_cons (pe_callTy (call_tuple_ofK K) (by rfl) B.tuple (by decide +kernel) (pa_cons (pv 2) pa_nil)) pa_nil))))))))), ?_⟩
    obtain ⟨dx, ob⟩ := ht.ob
    refine ⟨_, rfl, _, rfl, x, A_Tree, dx, _, _, rfl, ob, T_Tree.cl, T_Tree.no _ (by simp), tr_1, d, _, rfl, ht.dgo n, _, rfl, ?_⟩
    cases e : ndAt L n with
    | none => exact iteT (k1 e)
    | some q =>
      obtain ⟨a, o⟩ := q
      refine iteF ?_
      refine ⟨_, rfl, x, A_Tree, dx, _, _, rfl, ob, T_Tree.cl, T_Tree.no _ (by simp), tr_1, _, rfl, d, _, rfl, ht.dg e, ?_⟩
      refine ⟨_, rfl, _, _, _, _, _, rfl, .ty _, TyX.nd (ht.at e), kit_nd, _, rfl, ?_⟩
      cases o with
      | dir es =>
        refine iteT ?_
        have e20 : es.length ≤ 20 := (ht.wf.sz _ (ndAt_mem e)).1
        refine ⟨_, rfl, x, _, _, rfl, ob, tr_no (by decide +kernel), _, rfl, x, d, L, nx, n, rfl, ht, fun H1 s1 => ?_⟩
        have ha := s1 _ _ (ht.at e)
        refine ⟨_, rfl, .inr (.inr (.inl ⟨rfl, .inl ⟨_, ha⟩⟩)), a, _, rfl, rfl, ha, fun p hp => ?_⟩
        have s2 := s1.trans (Same.new (o := L2.DX.itemsO p a) hp)
        have hap : upd H1 p (L2.DX.itemsO p a) a = some (ndO (.dir es)) := by rw [upd_ne (ne_of_none ha hp)]; exact ha
        refine ⟨p, a, es, rfl, upd_same, hap, by omega, fun H3 l ts s3 hl pm sr hl3 hz => ?_⟩
        refine ⟨l, _, rfl, .inl ⟨SqL.of hl3, fun t htn => ?_⟩⟩
        refine ⟨(by show 3 ≤ sizeLine; decide), fun u hu => ?_⟩
        have s4 : Same H (upd (upd H3 t (.tup (ts.map fun z => V.ref z.1))) u (.tup [.str "dir", .int (lkT L n), .ref t])) := (s2.trans s3).trans ((Same.new htn).trans (Same.new hu))
        refine k3 a es e _ _ _ pm sr s4 ?_
        refine .tup (SqT.of upd_same) (.cons (.str _) (.cons (.int _) (.cons (.tup (SqT.of ?_) (dt_pairs fun z hz' => ?_)) .nil)))
        · rw [upd_ne (ne_of_none upd_same hu)]
          exact upd_same
        · exact Same.new hu _ _ (Same.new htn _ _ (hz z hz'))
      | file ws =>
        refine iteF ?_
        refine ⟨_, rfl, x, _, _, rfl, ob, tr_no (by decide +kernel), _, rfl, x, d, L, nx, n, rfl, ht, fun H1 s1 => ?_⟩
        refine ⟨_, rfl, a, _, rfl, .inl ⟨SqL.of (s1 _ _ (ht.at e)), fun t htn => ?_⟩⟩
        have s2 : Same H (upd H1 t (.tup (ws.map V.str))) := s1.trans (Same.new htn)
        refine ⟨(by show 3 ≤ sizeLine; decide), fun u hu => ?_⟩
        refine k2 a ws e _ _ (s2.trans (Same.new hu)) ?_
        refine .tup (SqT.of upd_same) (.cons (.str _) (.cons (.int _) (.cons (.tup (SqT.of ?_) (DtAll.strs ws)) .nil)))
        rw [upd_ne (ne_of_none upd_same hu)]
        exact upd_same
abbrev s_l_take : Stmt := topS 37
abbrev N_l_take : List Str := ["pot", "many", "digit"]
theorem sc_l_take : FnScope N_l_take ["pot", "many"] (defScope s_l_take) := ⟨rfl, rfl, rfl, by decide +kernel, rfl, by decide +kernel, by decide +kernel⟩
theorem ok_l_take {f : Addr} {fd : FuncData} (F : Fun K "_law_take" "_law_take" s_l_take f fd) (B : Bt mg) : GnOk P w K mg base CX0 1 f fd ["pot", "many"] sp_l_tk := by
  refine gn_fun F sc_l_take (fun vs H Q E h => ?_) (fun cdv A outer s H vs Q E hr h => ?_)
  · obtain ⟨p, a, b, m, rfl, _⟩ := h
    rfl
  · obtain ⟨p, a, b, m, rfl, ⟨hp, hb⟩, hm, hm2, k⟩ := h
    refine ⟨_, (pss_cons (ps_if (pt_cmpR op_gt (pe_ix (ix_listK K) (pv 0) pe_int (fun _ _ => rfl)) pe_int (nomark _))
      (pss_cons (ps_asg (pe_callB call_divmodW (by rfl) B.divmod (by decide +kernel) (pa_cons (pe_ix (ix_listK K) (pv 0) pe_int (fun _ _ => rfl)) (pa_cons (pv 1) pa_nil))) (pg_tup (by rfl) (pgs_cons (pg_sub (pv 0) pe_int set_list) (pgs_cons (pg_name (i := 2) sc_l_take.nd rfl (Or.inl rfl)) pgs_nil))))
    (pss_one (ps_ret (pv 2))))
      pss_nil)
    (pss_cons (ps_asg (pe_op op_mod (pe_op op_add (pe_op op_mul (pe_ix (ix_listK K) (pv 0) pe_int (fun _ _ => rfl)) pe_int) pe_int) pe_int) (pg_sub (pv 0) pe_int set_list))
    (pss_one (ps_ret (pe_op op_mod (pe_op op_fdiv (pe_op op_mod (pe_op op_mul (pe_ix (ix_listK K) (pv 0) pe_int (fun _ _ => rfl)) (pe_ix (ix_listK K) (pv 0) pe_int (fun _ _ => rfl))) pe_int) pe_int) (pv 1)))))), ?_⟩
    refine ⟨_, rfl, p, _, _, _, rfl, rfl, SqL.of hp, rfl, _, _, rfl, rfl, _, rfl, ?_⟩
    have hd : CDivP a m := ⟨hm, PyProof.noPylong_of_log2 hm2⟩
    refine ite2 (fun c => ?_) (fun c => ?_)
    · have c' : 0 < a := of_decide_eq_true c
      refine ⟨_, rfl, p, _, _, _, rfl, rfl, SqL.of hp, rfl, _, rfl, _, _, rfl, hd, fun t ht => ?_⟩
      have npt : p ≠ t := ne_of_none hp ht
      refine ⟨t, _, rfl, SqT.of upd_same, rfl, ?_⟩
      refine ⟨_, _, rfl, _, rfl, p, _, _, _, rfl, rfl, (by rw [upd_ne npt]; exact hp), rfl, ?_⟩
      refine ⟨_, _, rfl, rfl, _, rfl, ?_⟩
      exact k (a % m) (a / m) b _ (SameBut.of (Same.new ht)).upd ⟨upd_same, hb⟩ (Int.emod_nonneg _ (by omega)) (Int.emod_lt_of_pos _ hm)
    · refine ⟨_, rfl, p, _, _, _, rfl, rfl, SqL.of hp, rfl, _, _, rfl, rfl, .inr (by decide), _, _, rfl, rfl, _, _, rfl, rfl, (by show (0:Int) < 2147483587; decide), ?_⟩
      refine ⟨_, rfl, p, _, _, _, rfl, rfl, hp, rfl, ?_⟩
      refine ⟨_, rfl, p, _, _, _, rfl, rfl, SqL.of upd_same, rfl, _, rfl, p, _, _, _, rfl, rfl, SqL.of upd_same, rfl, _, _, rfl, rfl, .inr ?_, ?_⟩
      · show -(2 ^ 64) < (b * 39373 + 8191) % 2147483587 ∧ (b * 39373 + 8191) % 2147483587 < 2 ^ 64
        omega
      refine ⟨_, _, rfl, rfl, (by show (0:Int) < 2147483543; decide), _, _, rfl, rfl, ⟨by decide, by decide⟩, _, rfl, _, _, rfl, rfl, hm, ?_⟩
      refine k _ a ((b * 39373 + 8191) % 2147483587) (upd H p (.lst [.int a, .int ((b * 39373 + 8191) % 2147483587)])) (SameBut.of (Same.refl H)).upd ⟨upd_same, ?_⟩ (Int.emod_nonneg _ (by omega)) (Int.emod_lt_of_pos _ hm)
      unfold PotOk
      omega
abbrev s_l_name : Stmt := topS 38
abbrev N_l_name : List Str := ["pot", "some", "letters", "way", "name", "at", "size", "k"]
theorem sc_l_name : FnScope N_l_name ["pot", "some"] (defScope s_l_name) := ⟨rfl, rfl, rfl, by decide +kernel, rfl, by decide +kernel, by decide +kernel⟩
/-- a text of at most n signs, all below 128 -/
def TxL (n : Nat) (z : Str) : Prop := z.length ≤ n ∧ ∀ c ∈ z.cps.toList, c ∈ lettersS.cps.toList
def NmL (z : Str) : Prop := 1 ≤ z.length ∧ TxL 8 z
theorem TxL.mono {n m : Nat} {z : Str} (h : TxL n z) (k : n ≤ m) : TxL m z := ⟨Nat.le_trans h.1 k, h.2⟩
theorem TxL.app {n m : Nat} {a b : Str} (h : TxL n a) (k : TxL m b) : TxL (n + m) (a ++ b) := by
  refine ⟨by rw [len_append]; exact Nat.add_le_add h.1 k.1, fun c hc => ?_⟩
  have e : (a ++ b).cps.toList = a.cps.toList ++ b.cps.toList := TL.tl_append a b
  rw [e] at hc
  exact (List.mem_append.mp hc).elim (h.2 c) (k.2 c)
theorem TxL.cut {n : Nat} {a : Str} {lo hi : Option Int} (h : TxL n a) : TxL n (cutS a lo hi) := by
  have e : (cutS a lo hi).cps.toList = (a.cps.toList.drop (HT.sIx a.length 0 lo)).take (HT.sIx a.length a.length hi - HT.sIx a.length 0 lo) := rfl
  refine ⟨?_, fun c hc => h.2 c (List.mem_of_mem_drop (List.mem_of_mem_take (e ▸ hc)))⟩
  rw [← len_toList, e, List.length_take, List.length_drop, len_toList]
  have := h.1
  omega
theorem TxL.sign {c : Nat} (h : c ∈ lettersS.cps.toList) : TxL 1 (chS c) := by
  refine ⟨Nat.le_refl _, fun d hd => ?_⟩
  have e : d = c := List.mem_singleton.mp hd
  rw [e]
  exact h
theorem let_small {c : Nat} (h : c ∈ lettersS.cps.toList) : c < 128 := of_decide_eq_true (List.all_eq_true.mp (show lettersS.cps.toList.all (· < 128) = true by decide +kernel) c h)
theorem NmL.isOf {z : Str} (h : NmL z) : isOf lettersS (.str z) = true := by
  show (decide (1 ≤ z.length) && decide (z.length ≤ 8) && z.cps.toList.all fun c => decide (c ∈ lettersS.cps.toList)) = true
  rw [decide_eq_true h.1, decide_eq_true h.2.1, Bool.true_and, Bool.true_and]
  exact List.all_eq_true.mpr fun c hc => decide_eq_true (h.2.2 c hc)
/-- a text, the sign at i otherwise -/
theorem nmL_turn {z : Str} {c : Nat} {i : Int} (h : NmL z) (h0 : 0 ≤ i) (h1 : i < (z.length : Int)) (hc : TxL 1 (chS c)) : NmL (cutS z none (some i) ++ chS c ++ cutS z (some (i + 1)) none) := by
  obtain ⟨h2, h3⟩ := h
  have l1 : (cutS z none (some i)).length = i.toNat := by
    rw [← len_toList]
    show ((z.cps.toList.drop 0).take (HT.sIx z.length z.length (some i) - 0)).length = _
    have e : HT.sIx z.length z.length (some i) = i.toNat := by
      show (if i < 0 then _ else min i.toNat z.length) = _
      rw [if_neg (by omega)]
      omega
    rw [e, List.drop_zero, List.length_take, len_toList]
    omega
  have l2 : (cutS z (some (i + 1)) none).length = z.length - (i.toNat + 1) := by
    rw [← len_toList]
    show ((z.cps.toList.drop (HT.sIx z.length 0 (some (i + 1)))).take (z.length - HT.sIx z.length 0 (some (i + 1)))).length = _
    have e : HT.sIx z.length 0 (some (i + 1)) = i.toNat + 1 := by
      show (if i + 1 < 0 then _ else min (i + 1).toNat z.length) = _
      rw [if_neg (by omega)]
      omega
    rw [e, List.length_take, List.length_drop, len_toList]
    omega
  have l3 : (chS c).length = 1 := rfl
  have q := (((TxL.cut (lo := none) (hi := some i) h3).app hc).app (TxL.cut (lo := some (i + 1)) (hi := none) h3)).2
  exact ⟨by rw [len_append, len_append]; omega, by rw [len_append, len_append]; have := h3.1; omega, q⟩
def sp_l_name_t (K : PySem.W.Frag) : Sp := fun vs H Q _ => ∃ (p : Addr) (a b : Int) (u : Addr) (us : List Str), vs = [.ref p, .ref u] ∧ Pot H p a b ∧ H u = some (.lst (us.map V.str)) ∧ u ≠ p ∧ us.length ≤ 1000 ∧ (∀ z ∈ us, NmL z) ∧
  ∀ (z : Str) (H' : Hp) (a' b' : Int), SameBut p H H' → Pot H' p a' b' → NmL z → Q (.str z) H'
theorem ok_l_name {f : Addr} {fd : FuncData} (F : Fun K "_law_name" "_law_name" s_l_name f fd) (B : Bt mg) (C_law_take : Cal P w K mg base CX0 "_law_take" 1 ["pot", "many"] sp_l_tk) : GnOk P w K mg base CX0 2 f fd ["pot", "some"] (sp_l_name_t K) := by
  refine gn_fun F sc_l_name (fun vs H Q E h => ?_) (fun cdv A outer s H vs Q E hr h => ?_)
  · obtain ⟨p, a, b, u, us, rfl, _⟩ := h
    rfl
  · obtain ⟨p, a, b, u, us, rfl, hp, hu, nup, hul, hun, k⟩ := h
    refine ⟨_, (pss_cons (ps_set (i := 2) sc_l_name.nd rfl (Or.inr rfl) pe_str)
    (pss_cons (ps_set (i := 3) sc_l_name.nd rfl (Or.inl rfl) (pe_cal C_law_take (hr.mono (by decide)) (by rfl) pass0 (pa_cons (pv 0) (pa_cons pe_int pa_nil))))
    (pss_cons (ps_if (PW.pt (pw_and (pt_cmpR (op_neDK K hr.units) (pv 1) (pe_lst pa_nil) (nomark _)) (pw_and1 (pt_cmpR op_gt (pv 3) pe_int (nomark _)))))
      (pss_cons (ps_set (i := 4) sc_l_name.nd rfl (Or.inl rfl) (pe_ix (ix_listK K) (pv 1) (pe_cal C_law_take (hr.mono (by decide)) (by rfl) pass0 (pa_cons (pv 0) (pa_cons (pe_callB (call_lenK K) (by rfl) B.len (by decide +kernel) (pa_cons (pv 1) pa_nil)) pa_nil))) (fun _ _ => rfl)))
    (pss_cons (ps_set (i := 5) sc_l_name.nd rfl (Or.inl rfl) (pe_cal C_law_take (hr.mono (by decide)) (by rfl) pass0 (pa_cons (pv 0) (pa_cons (pe_callB call_len_str (by rfl) B.len (by decide +kernel) (pa_cons (pv 4) pa_nil)) pa_nil))))
    (pss_one (ps_ret (pe_ix (ix_listK K) (pe_lst (pa_cons (pv 4) (pa_cons (pv 4) (pa_cons (pe_op op_add_str (pe_op op_add_str (pe_slice sl_str (pv 4) po_none (po_some (pv 5))) (pe_ix ix_str (pv 2) (pe_cal C_law_take (hr.mono (by decide)) (by rfl) pass0 (pa_cons (pv 0) (pa_cons pe_int pa_nil))) (fun _ _ => rfl))) (pe_slice sl_str (pv 4) (po_some (pe_op op_add (pv 5) pe_int)) po_none)) pa_nil)))) (pe_op op_sub (pv 3) pe_int) (fun _ _ => rfl))))))
      pss_nil)
    (pss_cons (ps_set (i := 6) sc_l_name.nd rfl (Or.inl rfl) (pe_ix (ix_listK K) (pe_lst (pa_cons pe_int (pa_cons pe_int (pa_cons pe_int (pa_cons (pe_op op_add pe_int (pe_cal C_law_take (hr.mono (by decide)) (by rfl) pass0 (pa_cons (pv 0) (pa_cons pe_int pa_nil)))) pa_nil))))) (pe_cal C_law_take (hr.mono (by decide)) (by rfl) pass0 (pa_cons (pv 0) (pa_cons pe_int pa_nil))) (fun _ _ => rfl)))
    (pss_one (ps_ret (pe_join pe_str (pe_lc (own := [("k", 7)]) (g := gName 7) (tt := tYes) (by rfl) sc_l_name.nd (pi_range1 (by rfl) B.range (pa_cons (pv 6) pa_nil)) (blkOk_by (N := N_l_name) (sc := defScope s_l_name) (by decide +kernel)) (fun _ _ _ _ _ => pg_name (i := 7) sc_l_name.nd rfl (Or.inl rfl)) (fun _ _ _ _ _ => pts_nil) (fun _ _ _ _ _ => (pe_ix ix_str (pv 2) (pe_cal C_law_take (hr.mono (by decide)) (by rfl) pass0 (pa_cons (pv 0) (pa_cons pe_int pa_nil))) (fun _ _ => rfl))))))))))), ?_⟩
    have nm4 : ∀ {n : Int} {lt : Str}, lt = "abcdefghijklmnopqrstuvwxyz" → 0 ≤ n → n < 26 → ∃ c, atI lt.cps.toList n = some c ∧ TxL 1 (chS c) := fun {n lt} e h0 h1 => by
      subst e
      obtain ⟨c, hc, hm⟩ := atI_mem (xs := (Str.ofString "abcdefghijklmnopqrstuvwxyz").cps.toList) (i := n) h0 (by rw [show (Str.ofString "abcdefghijklmnopqrstuvwxyz").cps.toList.length = 26 by decide +kernel]; exact h1)
      exact ⟨c, hc, TxL.sign hm⟩
    refine ⟨_, rfl, p, a, b, 4, rfl, hp, by decide, by decide, fun way a1 b1 H1 s1 p1 w0 w1 => ?_⟩
    have hu1 := s1.at hu nup
    have hsu : ∀ d ∈ us.map PyData.str, Shp 0 d := fun d hd => by
      obtain ⟨t, ht, rfl⟩ := List.mem_map.mp hd
      exact Shp.str fun c hc => Nat.lt_trans (let_small ((hun t ht).2.2 c hc)) (by decide)
    refine ⟨_, rfl, by decide, fun l hl => ?_⟩
    have nlp : l ≠ p := p1.ne hl
    have hu2 : upd H1 l (.lst []) u = some (.lst (us.map V.str)) := by rw [upd_ne (ne_of_none hu1 hl)]; exact hu1
    refine ⟨.list (us.map PyData.str), .list [], .lst (SqL.of hu2) (DtAll.strs us).dp, .lst (SqL.of upd_same) .nil, (Shp.list hsu).shaped (by decide), by decide +kernel, _, rfl, ?_⟩
    have s2 : SameBut p H H1 := s1
    have hu3 := hu1
    rcases Classical.em (us = [] ∨ ¬ 0 < way) with cc | cc
    rotate_left
    · have c1 : us ≠ [] := fun e => cc (.inl e)
      have c2 : 0 < way := Classical.byContradiction fun e => cc (.inr e)
      have ul : 0 < us.length := List.length_pos_iff.mpr c1
      refine iteT' (by cases us with | nil => exact absurd rfl c1 | cons _ _ => rfl) ?_
      refine ⟨_, rfl, _, _, rfl, rfl, _, rfl, ?_⟩
      refine iteT' (decide_eq_true c2) ?_
      have hu5 := hu2
      have p5 : Pot (upd H1 l (.lst [])) p a1 b1 := p1.new hl
      have s5 : SameBut p H (upd H1 l (.lst [])) := s1.new hl
      generalize (upd H1 l (.lst [])) = H5 at hu5 p5 s5 ⊢
      refine ⟨_, rfl, _, rfl, _, rfl, _, us.length, rfl, .inl ⟨_, SqL.of hu5, by simp⟩, p, a1, b1, us.length, rfl, p5, by omega, log2_small (by omega) (by omega), fun n6 a6 b6 H6 s6 p6 h60 h61 => ?_⟩
      obtain ⟨vz, hz, hzm⟩ := atI_mem (xs := us.map V.str) (i := n6) h60 (by rw [List.length_map]; exact h61)
      obtain ⟨z, hzu, rfl⟩ := List.mem_map.mp hzm
      have hu6 := s6.at hu5 nup
      have hzn := hun z hzu
      refine ⟨u, _, _, _, rfl, rfl, SqL.of hu6, hz, ?_⟩
      have zl : z.length ≤ 8 := hzn.2.1
      refine ⟨_, rfl, _, rfl, z, rfl, sz_of (by omega), p, a6, b6, z.length, rfl, p6, by have := hzn.1; omega, log2_small (by have := hzn.1; omega) (by omega), fun n7 a7 b7 H7 s7 p7 h70 h71 => ?_⟩
      refine ⟨_, rfl, _, rfl, _, rfl, _, rfl, _, rfl, z, rfl, sz_of (by omega), ?_⟩
      refine ⟨_, rfl, _, rfl, p, a7, b7, 26, rfl, p7, by decide, by decide, fun n8 a8 b8 H8 s8 p8 h80 h81 => ?_⟩
      obtain ⟨c8, hc8, tc8⟩ := nm4 rfl h80 h81
      refine ⟨_, _, c8, rfl, rfl, by decide +kernel, hc8, ?_⟩
      have q1 : TxL 8 (cutS z none (some n7)) := TxL.cut hzn.2
      have q2 : TxL 8 (cutS z (some (n7 + 1)) none) := TxL.cut hzn.2
      refine ⟨_, _, rfl, rfl, sz_of (Nat.le_trans (Nat.add_le_add q1.1 tc8.1) (by decide)), ?_⟩
      refine ⟨_, rfl, _, rfl, _, _, rfl, rfl, _, rfl, z, rfl, sz_of (by omega), ?_⟩
      refine ⟨_, _, rfl, rfl, sz_of (Nat.le_trans (Nat.add_le_add (q1.app tc8).1 q2.1) (by decide)), ?_⟩
      have nm := nmL_turn hzn h70 h71 tc8
      refine ⟨sz_of (Nat.le_trans (Nat.le_refl 3) (by decide)), fun L hL => ?_⟩
      have nLp : L ≠ p := p8.ne hL
      obtain ⟨v, hv, hvm⟩ := atI_mem (xs := [V.str z, V.str z, V.str (cutS z none (some n7) ++ chS c8 ++ cutS z (some (n7 + 1)) none)]) (i := way - 1) (by omega) (by show way - 1 < 3; omega)
      refine ⟨_, rfl, _, _, rfl, rfl, L, _, _, _, rfl, rfl, SqL.of upd_same, hv, ?_⟩
      have sF : SameBut p H (upd H8 L (.lst [V.str z, V.str z, V.str (cutS z none (some n7) ++ chS c8 ++ cutS z (some (n7 + 1)) none)])) := (((s5.trans s6).trans s7).trans s8).new hL
      have vz : ∃ y, v = V.str y ∧ NmL y := by
        rcases List.mem_cons.mp hvm with rfl | hvm
        · exact ⟨_, rfl, hzn⟩
        rcases List.mem_cons.mp hvm with rfl | hvm
        · exact ⟨_, rfl, hzn⟩
        rw [List.mem_singleton.mp hvm]
        exact ⟨_, rfl, nm⟩
      obtain ⟨y, rfl, hy⟩ := vz
      exact k y _ _ _ sF (p8.new hL) hy
    have way2 : (!PyData.eqv (.list (us.map PyData.str)) (.list [])) = false ∨ ((!PyData.eqv (.list (us.map PyData.str)) (.list [])) = true ∧ ¬ 0 < way) := by
      rcases cc with e | e
      · left
        rw [e]
        rfl
      · cases us with
        | nil => exact .inl rfl
        | cons _ _ => exact .inr ⟨rfl, e⟩
    have p5 : Pot (upd H1 l (.lst [])) p a1 b1 := p1.new hl
    have s5 : SameBut p H (upd H1 l (.lst [])) := s1.new hl
    generalize (upd H1 l (.lst [])) = H5 at p5 s5 ⊢
    rcases way2 with e | ⟨e, e2⟩
    · refine iteF' e (iteF ?_)
      refine ⟨_, rfl, p, a1, b1, 8, rfl, p5, by decide, by decide, fun n6 a6 b6 H6 s6 p6 h60 h61 => ⟨_, _, rfl, rfl, (by show 4 ≤ sizeLine; decide), fun L hL => ?_⟩⟩
      have nLp : L ≠ p := p6.ne hL
      refine ⟨_, rfl, p, a6, b6, 4, rfl, p6.new hL, by decide, by decide, fun n7 a7 b7 H7 s7 p7 h70 h71 => ?_⟩
      obtain ⟨v, hv, hvm⟩ := atI_mem (xs := [V.int 1, V.int 1, V.int 8, V.int (1 + n6)]) (i := n7) h70 (by show n7 < 4; exact h71)
      have vn : ∃ m : Int, v = V.int m ∧ 1 ≤ m ∧ m ≤ 8 := by
        rcases List.mem_cons.mp hvm with rfl | hvm
        · exact ⟨1, rfl, by decide, by decide⟩
        rcases List.mem_cons.mp hvm with rfl | hvm
        · exact ⟨1, rfl, by decide, by decide⟩
        rcases List.mem_cons.mp hvm with rfl | hvm
        · exact ⟨8, rfl, by decide, by decide⟩
        rw [List.mem_singleton.mp hvm]
        exact ⟨_, rfl, by omega, by omega⟩
      obtain ⟨m, rfl, hm1, hm8⟩ := vn
      refine ⟨L, _, _, _, rfl, rfl, SqL.of (s7.at upd_same nLp), hv, ?_⟩
      have s7' : SameBut p H H7 := ((s5.trans s6).new hL).trans s7
      refine ⟨⟨_, rfl⟩, _, rfl, m, rfl, by omega, by omega, fun D hD => lc_range (lo := 0) (n := m.toNat) (fun i H8 => ∃ (cs : List Nat) (a' b' : Int), H8 D = some (.lst ((cs.map chS).map V.str)) ∧ cs.length = i ∧ (∀ c ∈ cs, c ∈ lettersS.cps.toList) ∧ Pot H8 p a' b' ∧ SameBut p H H8) ⟨[], _, _, upd_same, rfl, (fun _ h => nomatch h), p7.new hD, s7'.new hD⟩ ?_ ?_⟩
      · rintro i H8 hi ⟨cs, a8, b8, hl8, hcs, hc8, p8, t8⟩
        have nDp : D ≠ p := p7.ne hD
        refine ⟨rfl, ?_⟩
        refine ⟨_, rfl, _, rfl, p, _, _, 26, rfl, p8, by decide, by decide, fun n9 a9 b9 H9 s9 p9 h90 h91 => ?_⟩
        obtain ⟨c9, hc9, tc9⟩ := nm4 rfl h90 h91
        refine ⟨_, _, c9, rfl, rfl, by decide +kernel, hc9, _, s9.at hl8 nDp, sz_lt (by rw [List.length_map, List.length_map]; omega), cs ++ [c9], _, _, ?_, ?_, ?_, p9.other nDp, (t8.trans s9).newer ?_⟩
        · rw [upd_same, List.map_append, List.map_append]
          rfl
        · rw [List.length_append, hcs]
          rfl
        · intro y hy
          rcases List.mem_append.mp hy with h | h
          · exact hc8 y h
          · rw [List.mem_singleton.mp h]
            exact tc9.2 c9 (List.mem_singleton.mpr rfl)
        · exact SameBut.free s7' hD nDp
      · rintro H8 ⟨cs, a8, b8, hl8, hcs, hc8, p8, t8⟩
        have ones : ∀ z ∈ cs.map chS, z.length = 1 := by
          intro z hz
          obtain ⟨c, _, rfl⟩ := List.mem_map.mp hz
          rfl
        refine ⟨_, D, cs.map chS, rfl, rfl, .inl (SqL.of hl8), ?_, ?_⟩
        · rw [sum_ones ones]
          show _ + _ * 0 ≤ _
          rw [List.length_map]
          omega
        · rw [join_ones]
          exact k _ _ _ _ t8 p8 ⟨by show 1 ≤ cs.toArray.size; rw [List.size_toArray]; omega, by show cs.toArray.size ≤ 8; rw [List.size_toArray]; omega, by simpa using hc8⟩
    · refine iteT' e ⟨_, rfl, _, _, rfl, rfl, _, rfl, iteF' (decide_eq_false e2) ?_⟩
      refine ⟨_, rfl, p, a1, b1, 8, rfl, p5, by decide, by decide, fun n6 a6 b6 H6 s6 p6 h60 h61 => ⟨_, _, rfl, rfl, (by show 4 ≤ sizeLine; decide), fun L hL => ?_⟩⟩
      have nLp : L ≠ p := p6.ne hL
      refine ⟨_, rfl, p, a6, b6, 4, rfl, p6.new hL, by decide, by decide, fun n7 a7 b7 H7 s7 p7 h70 h71 => ?_⟩
      obtain ⟨v, hv, hvm⟩ := atI_mem (xs := [V.int 1, V.int 1, V.int 8, V.int (1 + n6)]) (i := n7) h70 (by show n7 < 4; exact h71)
      have vn : ∃ m : Int, v = V.int m ∧ 1 ≤ m ∧ m ≤ 8 := by
        rcases List.mem_cons.mp hvm with rfl | hvm
        · exact ⟨1, rfl, by decide, by decide⟩
        rcases List.mem_cons.mp hvm with rfl | hvm
        · exact ⟨1, rfl, by decide, by decide⟩
        rcases List.mem_cons.mp hvm with rfl | hvm
        · exact ⟨8, rfl, by decide, by decide⟩
        rw [List.mem_singleton.mp hvm]
        exact ⟨_, rfl, by omega, by omega⟩
      obtain ⟨m, rfl, hm1, hm8⟩ := vn
      refine ⟨L, _, _, _, rfl, rfl, SqL.of (s7.at upd_same nLp), hv, ?_⟩
      have s7' : SameBut p H H7 := ((s5.trans s6).new hL).trans s7
      refine ⟨⟨_, rfl⟩, _, rfl, m, rfl, by omega, by omega, fun D hD => lc_range (lo := 0) (n := m.toNat) (fun i H8 => ∃ (cs : List Nat) (a' b' : Int), H8 D = some (.lst ((cs.map chS).map V.str)) ∧ cs.length = i ∧ (∀ c ∈ cs, c ∈ lettersS.cps.toList) ∧ Pot H8 p a' b' ∧ SameBut p H H8) ⟨[], _, _, upd_same, rfl, (fun _ h => nomatch h), p7.new hD, s7'.new hD⟩ ?_ ?_⟩
      · rintro i H8 hi ⟨cs, a8, b8, hl8, hcs, hc8, p8, t8⟩
        have nDp : D ≠ p := p7.ne hD
        refine ⟨rfl, ?_⟩
        refine ⟨_, rfl, _, rfl, p, _, _, 26, rfl, p8, by decide, by decide, fun n9 a9 b9 H9 s9 p9 h90 h91 => ?_⟩
        obtain ⟨c9, hc9, tc9⟩ := nm4 rfl h90 h91
        refine ⟨_, _, c9, rfl, rfl, by decide +kernel, hc9, _, s9.at hl8 nDp, sz_lt (by rw [List.length_map, List.length_map]; omega), cs ++ [c9], _, _, ?_, ?_, ?_, p9.other nDp, (t8.trans s9).newer ?_⟩
        · rw [upd_same, List.map_append, List.map_append]
          rfl
        · rw [List.length_append, hcs]
          rfl
        · intro y hy
          rcases List.mem_append.mp hy with h | h
          · exact hc8 y h
          · rw [List.mem_singleton.mp h]
            exact tc9.2 c9 (List.mem_singleton.mpr rfl)
        · exact SameBut.free s7' hD nDp
      · rintro H8 ⟨cs, a8, b8, hl8, hcs, hc8, p8, t8⟩
        have ones : ∀ z ∈ cs.map chS, z.length = 1 := by
          intro z hz
          obtain ⟨c, _, rfl⟩ := List.mem_map.mp hz
          rfl
        refine ⟨_, D, cs.map chS, rfl, rfl, .inl (SqL.of hl8), ?_, ?_⟩
        · rw [sum_ones ones]
          show _ + _ * 0 ≤ _
          rw [List.length_map]
          omega
        · rw [join_ones]
          exact k _ _ _ _ t8 p8 ⟨by show 1 ≤ cs.toArray.size; rw [List.size_toArray]; omega, by show cs.toArray.size ≤ 8; rw [List.size_toArray]; omega, by simpa using hc8⟩
abbrev s_Tree_is_dir : Stmt := inClass (topS 34) 1
abbrev N_Tree_is_dir : List Str := ["self", "number"]
theorem sc_Tree_is_dir : FnScope N_Tree_is_dir ["self", "number"] (defScope s_Tree_is_dir) := ⟨rfl, rfl, rfl, by decide +kernel, rfl, by decide +kernel, by decide +kernel⟩
def sp_Tree_is_dir (C : Addr) : Sp := fun vs H Q _ => ∃ (x d : Addr) (L : TLs) (nx n : Int) (a : Addr) (o : Nd), vs = [.ref x, .int n] ∧ TrAt C H x d L nx ∧ ndAt L n = some (a, o) ∧ Q (.bl (isD o)) H
theorem ok_Tree_is_dir {f : Addr} {fd : FuncData} (F : Fun K "is_dir" "Tree.is_dir" s_Tree_is_dir f fd) (B : Bt mg) {A_Tree : Addr} (T_Tree : CF K mg "Tree" A_Tree ["inner", "next_one"]) : GnOk P w K mg base CX0 1 f fd ["self", "number"] (sp_Tree_is_dir A_Tree) := by
  refine gn_fun F sc_Tree_is_dir (fun vs H Q E h => ?_) (fun cdv A outer s H vs Q E hr h => ?_)
  · obtain ⟨x, d, L, nx, n, a, o, rfl, _⟩ := h
    rfl
  · obtain ⟨x, d, L, nx, n, a, o, rfl, ht, hn, k⟩ := h
    refine ⟨_, (pss_one (ps_ret (pe_callB (call_isiK K) (by rfl) B.isinstance (by decide +kernel) (pa_cons (pe_dget hr.hu (pe_fld (pv 0) rfl) (pv 1) (fun _ _ => rfl)) (pa_cons (pe_bltn (v := .ty "dict") (by rfl) B.dict (by decide +kernel) rfl) pa_nil))))), ?_⟩
    obtain ⟨dx, ob⟩ := ht.ob
    refine ⟨_, rfl, x, A_Tree, dx, _, _, rfl, ob, T_Tree.cl, T_Tree.no _ (by simp), tr_1, _, rfl, d, _, rfl, ht.dg hn, ?_⟩
    exact ⟨_, _, _, _, _, rfl, .ty _, TyX.nd (ht.at hn), kit_nd, k⟩
abbrev s_Tree_going : Stmt := inClass (topS 34) 2
abbrev N_Tree_going : List Str := ["self", "names", "here", "k", "name"]
theorem sc_Tree_going : FnScope N_Tree_going ["self", "names"] (defScope s_Tree_going) := ⟨rfl, rfl, rfl, by decide +kernel, rfl, by decide +kernel, by decide +kernel⟩
def sp_Tree_going (K : PySem.W.Frag) (C ND NS : Addr) : Sp := fun vs H Q E => ∃ (x d l : Addr) (L : TLs) (nx : Int) (ns : List Str), vs = [.ref x, .ref l] ∧ TrAt C H x d L nx ∧ SqL K H l (ns.map V.str) ∧ NmS ns ∧
  (∀ n H', goW L 1 ns = .inr n → Same H H' → Q (.int n) H') ∧ (∀ p, goW L 1 ns = .inl p → goE ND NS E H ns p)
theorem goW_step {L : TLs} {ns : List Str} {i : Nat} {z : Str} {n : Int} (h : goW L 1 (ns.take i) = .inr n) (hz : ns[i]? = some z) : goW L 1 ns = shW i (goW L n (z :: ns.drop (i + 1))) ∧ goW L 1 (ns.take (i + 1)) = shW i (goW L n [z]) := by
  have hi : i < ns.length := (List.getElem?_eq_some_iff.mp hz).1
  have e1 : (ns.take i).length = i := by rw [List.length_take]; omega
  have q1 := goW_app L (ns.take i) (z :: ns.drop (i + 1)) 1 n h
  have q2 := goW_app L (ns.take i) [z] 1 n h
  rw [e1] at q1 q2
  have e2 : ns.take i ++ z :: ns.drop (i + 1) = ns := by
    have : ns.drop i = z :: ns.drop (i + 1) := by
      rw [List.drop_eq_getElem_cons hi]
      congr 1
      exact (List.getElem?_eq_some_iff.mp hz).2
    rw [← this, List.take_append_drop]
  rw [e2] at q1
  rw [← take_snoc hz] at q2
  exact ⟨q1, q2⟩
theorem ok_Tree_going {f : Addr} {fd : FuncData} (F : Fun K "going" "Tree.going" s_Tree_going f fd) (B : Bt mg) {A_NotDir : Addr} {A_NoSuch : Addr} {A_Tree : Addr} (T_Tree : CF K mg "Tree" A_Tree ["inner", "next_one"]) (M_Tree_is_dir : Mth P w K mg base CX0 A_Tree "is_dir" 1 ["self", "number"] (sp_Tree_is_dir A_Tree)) (XI_NotDir : ExI P w K mg base "NotDir" A_NotDir ["self", "path"] (sp_exc1 "path" A_NotDir)) (XI_NoSuch : ExI P w K mg base "NoSuch" A_NoSuch ["self", "path"] (sp_exc1 "path" A_NoSuch)) (C_path_of : Cal P w K mg base CX0 "path_of" 1 ["names"] (sp_path_of K)) {tk_ROOT : Tok} (g_ROOT : mg "ROOT" = some (.int 1 tk_ROOT)) : GnOk P w K mg base (L2.CX P w) 3 f fd ["self", "names"] (sp_Tree_going K A_Tree A_NotDir A_NoSuch) := by
  refine gn_funX F sc_Tree_going (fun vs H Q E h => ?_) (fun cdv A outer s H vs Q E hr h => ?_)
  · obtain ⟨x, d, l, L, nx, ns, rfl, _⟩ := h
    rfl
  · obtain ⟨x, d, l, L, nx, ns, rfl, ht, hl, hns, kok, kbad⟩ := h
    refine ⟨_, (pss_cons (ps_set (i := 2) sc_Tree_going.nd rfl (Or.inl rfl) (pe_glob (by rfl) g_ROOT (rel_i _ _)))
    (pss_cons (ps_for (passes_of rfl) rfl (pi_enum (by rfl) B.enumerate (pa_cons (pv 1) pa_nil)) (pg_tup (by rfl) (pgs_cons (pg_name (i := 3) sc_Tree_going.nd rfl (Or.inl rfl)) (pgs_cons (pg_name (i := 4) sc_Tree_going.nd rfl (Or.inl rfl)) pgs_nil)))
      (pss_cons (ps_if (pt_not (pt_val (pe_mth M_Tree_is_dir T_Tree.cl (hr.mono (by decide)) pass0 (pv 0) (pa_cons (pv 2) pa_nil))))
      (pss_one (ps_raise rfl (takes_of rfl rfl rfl rfl) (pmk_ex1 (k := 0) XI_NotDir (hr.mono (by decide)) (by rfl) (pa_cons (pe_cal C_path_of (hr.mono (by decide)) (by rfl) pass0 (pa_cons (pe_slice (sl_listK K) (pv 1) po_none (po_some (pv 3))) pa_nil)) pa_nil))))
      pss_nil)
    (pss_cons (ps_if (pt_cmp (pc_dnotin hr.hu (pv 4) (pe_dget hr.hu (pe_fld (pv 0) rfl) (pv 2) (fun _ _ => rfl))))
      (pss_one (ps_raise rfl (takes_of rfl rfl rfl rfl) (pmk_ex1 (k := 0) XI_NoSuch (hr.mono (by decide)) (by rfl) (pa_cons (pe_cal C_path_of (hr.mono (by decide)) (by rfl) pass0 (pa_cons (pe_slice (sl_listK K) (pv 1) po_none (po_some (pe_op op_add (pv 3) pe_int))) pa_nil)) pa_nil))))
      pss_nil)
    (pss_one (ps_set (i := 2) sc_Tree_going.nd rfl (Or.inl rfl) (pe_dget hr.hu (pe_dget hr.hu (pe_fld (pv 0) rfl) (pv 2) (fun _ _ => rfl)) (pv 4) (fun _ _ => rfl)))))))
    (pss_one (ps_ret (pv 2))))), ?_⟩
    obtain ⟨dx, ob⟩ := ht.ob
    refine ⟨_, rfl, l, _, rfl, hl, ?_⟩
    refine for_it (walk_enum (K := K) (a := l) (xs := ns.map V.str)) (fun i σ H2 => ∃ n v3 v4, σ = [some (.ref x), some (.ref l), some (.int n), v3, v4] ∧ Same H H2 ∧ goW L 1 (ns.take i) = .inr n) ⟨1, none, none, rfl, Same.refl H, rfl⟩ (fun _ _ H2 _ ⟨_, _, _, _, e, _⟩ => sqL_m e hl) ?_ ?_
    · rintro i y σ H2 H3 hi ⟨n, v3, v4, rfl, e2, hg⟩ ⟨T, x0, y0, rfl, hT, rfl, hx0, hy0⟩
      obtain rfl : V.int (i : Nat) = x0 := by simpa using hx0
      obtain ⟨z, hzi, rfl⟩ : ∃ z, ns[i]? = some z ∧ y0 = V.str z := by
        have hy0' : (ns.map V.str)[i]? = some y0 := hy0
        rw [List.getElem?_map] at hy0'
        obtain ⟨t, ht, e⟩ := Option.map_eq_some_iff.mp hy0'
        exact ⟨t, ht, e.symm⟩
      have e3 : Same H (upd H2 T (.tup [.int (i : Nat), .str z])) := e2.trans (Same.new hT)
      have hTT : (upd H2 T (.tup [.int (i : Nat), .str z])) T = some (.tup [.int (i : Nat), .str z]) := upd_same
      generalize (upd H2 T (.tup [.int (i : Nat), .str z])) = H3 at e3 hTT ⊢
      have ht3 := ht.m e3
      obtain ⟨g1, g2⟩ := goW_step hg hzi
      obtain ⟨a, o, hn⟩ := ht.wf.isSome hg
      refine ⟨T, _, rfl, SqT.of hTT, rfl, _, _, rfl, _, _, rfl, rfl, ?_⟩
      refine ⟨_, rfl, x, _, _, rfl, e3 _ _ ob, tr_no (by decide +kernel), _, rfl, x, d, L, nx, n, a, o, rfl, ht3, hn, _, rfl, ?_⟩
      have hin : i < ns.length := by rw [List.length_map] at hi; exact hi
      cases o with
      | file ws =>
        refine iteT ?_
        have eb : goW L 1 ns = .inl (false, i) := by
          rw [g1, goW_cons, hn]
          show Sum.inl (false, 0 + i) = _
          rw [Nat.zero_add]
        refine ⟨_, rfl, _, rfl, _, rfl, l, _, rfl, sqL_m e3 hl, fun p hp => ?_⟩
        refine ⟨p, ns.take i, rfl, .inl (SqL.of (by rw [upd_same, cut_tk rfl (Nat.le_of_lt hin)])), (hns.take i).sum, exc1_way ⟨_, rfl, ?_⟩⟩
        exact ((kbad _ eb).m e3).m (Same.new hp)
      | dir es =>
        refine iteF ?_
        refine ⟨_, rfl, ⟨_, rfl, x, A_Tree, dx, _, _, rfl, e3 _ _ ob, T_Tree.cl, T_Tree.no _ (by simp), tr_1, _, rfl, d, _, rfl, ht3.dg hn, ?_⟩⟩
        refine ⟨a, _, rfl, dgE (ht3.at hn) z, _, rfl, ?_⟩
        cases hz : entAt es z with
        | none =>
          refine iteT ?_
          have eb : goW L 1 ns = .inl (true, i + 1) := by
            rw [g1, goW_cons, hn]
            dsimp only
            rw [hz]
            show Sum.inl (true, 1 + i) = _
            rw [Nat.add_comm]
          refine ⟨_, rfl, _, rfl, _, _, rfl, rfl, _, rfl, l, _, rfl, sqL_m e3 hl, fun p hp => ?_⟩
          refine ⟨p, ns.take (i + 1), rfl, .inl (SqL.of (by rw [upd_same, cut_tk (k := (i : Nat) + 1) (i := i + 1) (by omega) hin])), (hns.take (i + 1)).sum, exc1_way ⟨_, rfl, ?_⟩⟩
          exact ((kbad _ eb).m e3).m (Same.new hp)
        | some m =>
          refine iteF ?_
          refine ⟨_, rfl, x, A_Tree, dx, _, _, rfl, e3 _ _ ob, T_Tree.cl, T_Tree.no _ (by simp), tr_1, _, rfl, d, _, rfl, ht3.dg hn, _, rfl, a, _, rfl, dgEs (ht3.at hn) hz, ?_⟩
          refine ⟨m, _, _, rfl, e3, ?_⟩
          rw [g2, goW_cons, hn]
          dsimp only
          rw [hz]
          rfl
    · rintro σ H2 ⟨n, v3, v4, rfl, e2, hg⟩
      rw [List.length_map, List.take_length] at hg
      exact ⟨_, rfl, kok n _ hg e2⟩
abbrev s_Tree_dir_above : Stmt := inClass (topS 34) 3
abbrev N_Tree_dir_above : List Str := ["self", "names", "found"]
theorem sc_Tree_dir_above : FnScope N_Tree_dir_above ["self", "names"] (defScope s_Tree_dir_above) := ⟨rfl, rfl, rfl, by decide +kernel, rfl, by decide +kernel, by decide +kernel⟩
def sp_Tree_dir_above (K : PySem.W.Frag) (C ND NS : Addr) : Sp := fun vs H Q E => ∃ (x d l : Addr) (L : TLs) (nx : Int) (ns : List Str), vs = [.ref x, .ref l] ∧ TrAt C H x d L nx ∧ SqL K H l (ns.map V.str) ∧ NmS ns ∧
  (∀ n a es H', abW L ns = .inr n → ndAt L n = some (a, .dir es) → Same H H' → Q (.int n) H') ∧ (∀ p, abW L ns = .inl p → goE ND NS E H ns.dropLast p)
theorem ok_Tree_dir_above {f : Addr} {fd : FuncData} (F : Fun K "dir_above" "Tree.dir_above" s_Tree_dir_above f fd) (B : Bt mg) {A_NotDir : Addr} {A_Tree : Addr} (T_Tree : CF K mg "Tree" A_Tree ["inner", "next_one"]) (M_Tree_going : Mth P w K mg base (L2.CX P w) A_Tree "going" 3 ["self", "names"] (sp_Tree_going K A_Tree A_NotDir A_NoSuch)) (M_Tree_is_dir : Mth P w K mg base CX0 A_Tree "is_dir" 1 ["self", "number"] (sp_Tree_is_dir A_Tree)) (XI_NotDir : ExI P w K mg base "NotDir" A_NotDir ["self", "path"] (sp_exc1 "path" A_NotDir)) (C_path_of : Cal P w K mg base CX0 "path_of" 1 ["names"] (sp_path_of K)) : GnOk P w K mg base (L2.CX P w) 4 f fd ["self", "names"] (sp_Tree_dir_above K A_Tree A_NotDir A_NoSuch) := by
  refine gn_funX F sc_Tree_dir_above (fun vs H Q E h => ?_) (fun cdv A outer s H vs Q E hr h => ?_)
  · obtain ⟨x, d, l, L, nx, ns, rfl, _⟩ := h
    rfl
  · obtain ⟨x, d, l, L, nx, ns, rfl, ht, hl, hns, kok, kbad⟩ := h
    refine ⟨_, (pss_cons (ps_set (i := 2) sc_Tree_dir_above.nd rfl (Or.inl rfl) (pe_mth M_Tree_going T_Tree.cl (hr.mono (by decide)) (passE (takes_of rfl rfl rfl rfl) (fun _ _ _ _ h => h)) (pv 0) (pa_cons (pe_slice (sl_listK K) (pv 1) po_none (po_some (pe_un un_neg pe_int))) pa_nil)))
    (pss_cons (ps_if (pt_not (pt_val (pe_mth M_Tree_is_dir T_Tree.cl (hr.mono (by decide)) pass0 (pv 0) (pa_cons (pv 2) pa_nil))))
      (pss_one (ps_raise rfl (takes_of rfl rfl rfl rfl) (pmk_ex1 (k := 0) XI_NotDir (hr.mono (by decide)) (by rfl) (pa_cons (pe_cal C_path_of (hr.mono (by decide)) (by rfl) pass0 (pa_cons (pe_slice (sl_listK K) (pv 1) po_none (po_some (pe_un un_neg pe_int))) pa_nil)) pa_nil))))
      pss_nil)
    (pss_one (ps_ret (pv 2))))), ?_⟩
    obtain ⟨dx, ob⟩ := ht.ob
    refine ⟨_, rfl, x, _, _, rfl, ob, tr_no (by decide +kernel), _, rfl, _, rfl, _, rfl, l, _, rfl, hl, fun p hp => ?_⟩
    have s1 : Same H (upd H p (.lst (cutV (ns.map V.str) none (some (-1))))) := Same.new hp
    have hpp : (upd H p (.lst (cutV (ns.map V.str) none (some (-1))))) p = some (.lst (ns.dropLast.map V.str)) := by rw [upd_same, cut_dl]
    generalize upd H p (.lst (cutV (ns.map V.str) none (some (-1)))) = H1 at s1 hpp ⊢
    refine ⟨x, d, p, L, nx, ns.dropLast, rfl, ht.m s1, SqL.of hpp, hns.dl, fun n H2 hg s2 => ?_, fun q hq => ?_⟩
    rotate_left
    · refine exE.m (kbad q ?_) s1
      unfold abW
      rw [hq]
    have s3 := s1.trans s2
    have ht3 := ht.m s3
    obtain ⟨a, o, hn⟩ := ht.wf.isSome hg
    refine ⟨_, rfl, x, _, _, rfl, s3 _ _ ob, tr_no (by decide +kernel), _, rfl, x, d, L, nx, n, a, o, rfl, ht3, hn, _, rfl, ?_⟩
    cases o with
    | file ws =>
      refine iteT ?_
      have eb : abW L ns = .inl (false, ns.dropLast.length) := by
        unfold abW
        rw [hg]
        dsimp only
        rw [hn]
      refine ⟨_, rfl, _, rfl, _, rfl, l, _, rfl, sqL_m s3 hl, fun p' hp' => ?_⟩
      refine ⟨p', ns.dropLast, rfl, .inl (SqL.of (by rw [upd_same, cut_dl])), hns.dl.sum, exc1_way ⟨_, rfl, ?_⟩⟩
      have kb := kbad _ eb
      unfold goE at kb
      rw [List.take_length] at kb
      exact (kb.m s3).m (Same.new hp')
    | dir es =>
      refine iteF ?_
      refine ⟨_, rfl, kok n a es _ ?_ hn s3⟩
      unfold abW
      rw [hg]
      dsimp only
      rw [hn]
abbrev s_Tree_want_free : Stmt := inClass (topS 34) 4
abbrev N_Tree_want_free : List Str := ["self", "where", "names"]
theorem sc_Tree_want_free : FnScope N_Tree_want_free ["self", "where", "names"] (defScope s_Tree_want_free) := ⟨rfl, rfl, rfl, by decide +kernel, rfl, by decide +kernel, by decide +kernel⟩
def sp_Tree_want_free (K : PySem.W.Frag) (C EX TM : Addr) : Sp := fun vs H Q E => ∃ (x d l : Addr) (L : TLs) (nx : Int) (ns : List Str) (n : Int) (a : Addr) (es : List (Str × Int)) (z : Str), vs = [.ref x, .int n, .ref l] ∧ TrAt C H x d L nx ∧ SqL K H l (ns.map V.str) ∧ NmS ns ∧
  ns.getLast? = some z ∧ ndAt L n = some (a, .dir es) ∧
  (entAt es z ≠ none → exE E H EX "path" (.str (pathOf ns))) ∧ (entAt es z = none → es.length = 20 → exE E H TM "kind" (.str "names")) ∧ (entAt es z = none → es.length ≠ 20 → Q .non H)
theorem last_at {ns : List Str} {z : Str} (h : ns.getLast? = some z) : atI (ns.map V.str) (-1) = some (V.str z) := by
  obtain ⟨ys, rfl⟩ := List.getLast?_eq_some_iff.mp h
  rw [List.map_append]
  exact atI_last _ _
theorem ok_Tree_want_free {f : Addr} {fd : FuncData} (F : Fun K "want_free" "Tree.want_free" s_Tree_want_free f fd) (B : Bt mg) {A_Exists : Addr} {A_TooMuch : Addr} {A_Tree : Addr} (T_Tree : CF K mg "Tree" A_Tree ["inner", "next_one"]) (XI_Exists : ExI P w K mg base "Exists" A_Exists ["self", "path"] (sp_exc1 "path" A_Exists)) (XI_TooMuch : ExI P w K mg base "TooMuch" A_TooMuch ["self", "kind"] (sp_exc1 "kind" A_TooMuch)) (C_path_of : Cal P w K mg base CX0 "path_of" 1 ["names"] (sp_path_of K)) {tk_MOST_NAMES : Tok} (g_MOST_NAMES : mg "MOST_NAMES" = some (.int 20 tk_MOST_NAMES)) : GnOk P w K mg base (L2.CX P w) 3 f fd ["self", "where", "names"] (sp_Tree_want_free K A_Tree A_Exists A_TooMuch) := by
  refine gn_funX F sc_Tree_want_free (fun vs H Q E h => ?_) (fun cdv A outer s H vs Q E hr h => ?_)
  · obtain ⟨x, d, l, L, nx, ns, n, a, es, z, rfl, _⟩ := h
    rfl
  · obtain ⟨x, d, l, L, nx, ns, n, a, es, z, rfl, ht, hl, hns, hz, hn, k1, k2, k3⟩ := h
    refine ⟨_, (pss_cons (ps_if (pt_cmp (pc_din hr.hu (pe_ix (ix_listK K) (pv 2) (pe_un un_neg pe_int) (fun _ _ => rfl)) (pe_dget hr.hu (pe_fld (pv 0) rfl) (pv 1) (fun _ _ => rfl))))
      (pss_one (ps_raise rfl (takes_of rfl rfl rfl rfl) (pmk_ex1 (k := 0) XI_Exists (hr.mono (by decide)) (by rfl) (pa_cons (pe_cal C_path_of (hr.mono (by decide)) (by rfl) pass0 (pa_cons (pv 2) pa_nil)) pa_nil))))
      pss_nil)
    (pss_one (ps_if (pt_cmpR op_eq (pe_callB call_lenD (by rfl) B.len (by decide +kernel) (pa_cons (pe_dget hr.hu (pe_fld (pv 0) rfl) (pv 1) (fun _ _ => rfl)) pa_nil)) (pe_glob (by rfl) g_MOST_NAMES (rel_i _ _)) (nomark _))
      (pss_one (ps_raise rfl (takes_of rfl rfl rfl rfl) (pmk_ex1 (k := 0) XI_TooMuch (hr.mono (by decide)) (by rfl) (pa_cons pe_str pa_nil))))
      pss_nil))), ?_⟩
    obtain ⟨dx, ob⟩ := ht.ob
    refine ⟨_, rfl, _, rfl, l, _, _, _, rfl, rfl, hl, last_at hz, ?_⟩
    refine ⟨_, rfl, x, A_Tree, dx, _, _, rfl, ob, T_Tree.cl, T_Tree.no _ (by simp), tr_1, _, rfl, d, _, rfl, ht.dg hn, a, _, rfl, dgE (ht.at hn) z, _, rfl, ?_⟩
    cases e : entAt es z with
    | some m =>
      refine iteT ?_
      exact ⟨_, rfl, l, ns, rfl, .inl hl, hns.sum, exc1_way ⟨_, rfl, k1 (by rw [e]; exact fun q => nomatch q)⟩⟩
    | none =>
      refine iteF ?_
      refine ⟨_, rfl, x, A_Tree, dx, _, _, rfl, ob, T_Tree.cl, T_Tree.no _ (by simp), tr_1, _, rfl, d, _, rfl, ht.dg hn, a, _, rfl, ht.at hn, rfl, _, rfl, ?_⟩
      have el : ((es.map fun e => ((Sum.inr e.1 : Key), V.int e.2)).length : Int) = (es.length : Nat) := by rw [List.length_map]
      rw [el]
      by_cases c : es.length = 20
      · refine iteT' (by rw [c]; rfl) ?_
        exact exc1_way ⟨_, rfl, k2 e c⟩
      · refine iteF' (decide_eq_false fun q => c (by have := V.int.inj q; omega)) ?_
        exact k3 e c
abbrev s_Tree_put_new : Stmt := inClass (topS 34) 5
abbrev N_Tree_put_new : List Str := ["self", "path", "inside", "names", "where"]
theorem sc_Tree_put_new : FnScope N_Tree_put_new ["self", "path", "inside"] (defScope s_Tree_put_new) := ⟨rfl, rfl, rfl, by decide +kernel, rfl, by decide +kernel, by decide +kernel⟩
/-- what a thing put anew at a path meets -/
def putE (E : Value → Option Addr → Hp → Prop) (BP ND NS EX TM : Addr) (H : Hp) (L : TLs) (v : V) (Q : Int → Addr → List (Str × Int) → Str → Prop) : Prop :=
  (pnV v = none → exE E H BP "path" v) ∧ (pnV v = some [] → exE E H EX "path" v) ∧ ∀ ns z, pnV v = some ns → ns.getLast? = some z →
    (∀ p, abW L ns = .inl p → goE ND NS E H ns.dropLast p) ∧ ∀ n a es, abW L ns = .inr n → ndAt L n = some (a, .dir es) →
      (entAt es z ≠ none → exE E H EX "path" (.str (pathOf ns))) ∧ (entAt es z = none → es.length = 20 → exE E H TM "kind" (.str "names")) ∧
      (entAt es z = none → es.length ≠ 20 → L.length = 24 → exE E H TM "kind" (.str "nodes")) ∧ (entAt es z = none → es.length ≠ 20 → L.length ≠ 24 → Q n a es z)
def sp_Tree_put_new (K : PySem.W.Frag) (C BP ND NS EX TM : Addr) : Sp := fun vs H Q E => ∃ (x d : Addr) (L : TLs) (nx : Int) (v : V) (b : Addr) (o : Nd), vs = [.ref x, v, .ref b] ∧ TrAt C H x d L nx ∧ PthV K H v ∧ H b = some (ndO o) ∧ (o = .dir [] ∨ o = .file []) ∧ ¬ TrFoot x d L b ∧
  putE E BP ND NS EX TM H L v fun n a es z => ∀ H', OffT x d L H H' → TrAt C H' x d (growL L n es z nx b o) (nx + 1) → Q .non H'
theorem putE.m {E : Value → Option Addr → Hp → Prop} {BP ND NS EX TM : Addr} {H H' : Hp} {L : TLs} {v : V} {Q Q' : Int → Addr → List (Str × Int) → Str → Prop} (h : putE E BP ND NS EX TM H L v Q) (s : Same H H') (q : ∀ n a es z, Q n a es z → Q' n a es z) : putE E BP ND NS EX TM H' L v Q' := by
  obtain ⟨h1, h2, h3⟩ := h
  refine ⟨fun e => (h1 e).m s, fun e => (h2 e).m s, fun ns z e1 e2 => ?_⟩
  obtain ⟨k1, k2⟩ := h3 ns z e1 e2
  refine ⟨fun p e => exE.m (k1 p e) s, fun n a es e e' => ?_⟩
  obtain ⟨j1, j2, j3, j4⟩ := k2 n a es e e'
  exact ⟨fun e => (j1 e).m s, fun e e' => (j2 e e').m s, fun e e' e'' => (j3 e e' e'').m s, fun e e' e'' => q _ _ _ _ (j4 e e' e'')⟩
theorem abW_dir {L : TLs} {ns : List Str} {n : Int} (h : abW L ns = .inr n) : ∃ a es, ndAt L n = some (a, .dir es) := by
  unfold abW at h
  cases e : goW L 1 ns.dropLast with
  | inl p =>
    rw [e] at h
    cases h
  | inr m =>
    rw [e] at h
    dsimp only at h
    cases e2 : ndAt L m with
    | none =>
      rw [e2] at h
      cases h
    | some q =>
      obtain ⟨a, o⟩ := q
      rw [e2] at h
      cases o with
      | file ws => cases h
      | dir es =>
        cases h
        exact ⟨a, es, e2⟩
theorem ok_Tree_put_new {f : Addr} {fd : FuncData} (F : Fun K "put_new" "Tree.put_new" s_Tree_put_new f fd) (B : Bt mg) {A_Exists : Addr} {A_TooMuch : Addr} {A_Tree : Addr} (T_Tree : CF K mg "Tree" A_Tree ["inner", "next_one"]) (M_Tree_dir_above : Mth P w K mg base (L2.CX P w) A_Tree "dir_above" 4 ["self", "names"] (sp_Tree_dir_above K A_Tree A_NotDir A_NoSuch)) (M_Tree_want_free : Mth P w K mg base (L2.CX P w) A_Tree "want_free" 3 ["self", "where", "names"] (sp_Tree_want_free K A_Tree A_Exists A_TooMuch)) (XI_Exists : ExI P w K mg base "Exists" A_Exists ["self", "path"] (sp_exc1 "path" A_Exists)) (XI_TooMuch : ExI P w K mg base "TooMuch" A_TooMuch ["self", "kind"] (sp_exc1 "kind" A_TooMuch)) (C_names_of : Cal P w K mg base (L2.CX P w) "names_of" 3 ["path"] (sp_names_of K A_BadPath)) {tk_MOST_NODES : Tok} (g_MOST_NODES : mg "MOST_NODES" = some (.int 24 tk_MOST_NODES)) : GnOk P w K mg base (L2.CX P w) 5 f fd ["self", "path", "inside"] (sp_Tree_put_new K A_Tree A_BadPath A_NotDir A_NoSuch A_Exists A_TooMuch) := by
  refine gn_funX F sc_Tree_put_new (fun vs H Q E h => ?_) (fun cdv A outer s H vs Q E hr h => ?_)
  · obtain ⟨x, d, L, nx, v, b, o, rfl, _⟩ := h
    rfl
  · obtain ⟨x, d, L, nx, v, b, o, rfl, ht, hv, hb, ho, nb, k1, k2, k3⟩ := h
    refine ⟨_, (pss_cons (ps_set (i := 3) sc_Tree_put_new.nd rfl (Or.inl rfl) (pe_cal C_names_of (hr.mono (by decide)) (by rfl) (passE (takes_of rfl rfl rfl rfl) (fun _ _ _ _ h => h)) (pa_cons (pv 1) pa_nil)))
    (pss_cons (ps_if (pt_cmpR (op_eqDK K hr.units) (pv 3) (pe_lst pa_nil) (nomark _))
      (pss_one (ps_raise rfl (takes_of rfl rfl rfl rfl) (pmk_ex1 (k := 0) XI_Exists (hr.mono (by decide)) (by rfl) (pa_cons (pv 1) pa_nil))))
      pss_nil)
    (pss_cons (ps_set (i := 4) sc_Tree_put_new.nd rfl (Or.inl rfl) (pe_mth M_Tree_dir_above T_Tree.cl (hr.mono (by decide)) (passE (takes_of rfl rfl rfl rfl) (fun _ _ _ _ h => h)) (pv 0) (pa_cons (pv 3) pa_nil)))
    (pss_cons (ps_expr (pe_mth M_Tree_want_free T_Tree.cl (hr.mono (by decide)) (passE (takes_of rfl rfl rfl rfl) (fun _ _ _ _ h => h)) (pv 0) (pa_cons (pv 4) (pa_cons (pv 3) pa_nil))))
    (pss_cons (ps_if (pt_cmpR op_eq (pe_callB call_lenD (by rfl) B.len (by decide +kernel) (pa_cons (pe_fld (pv 0) rfl) pa_nil)) (pe_glob (by rfl) g_MOST_NODES (rel_i _ _)) (nomark _))
      (pss_one (ps_raise rfl (takes_of rfl rfl rfl rfl) (pmk_ex1 (k := 0) XI_TooMuch (hr.mono (by decide)) (by rfl) (pa_cons pe_str pa_nil))))
      pss_nil)
    (pss_cons (ps_dput hr.hu (pe_dget hr.hu (pe_fld (pv 0) rfl) (pv 4) (fun _ _ => rfl)) (pe_ix (ix_listK K) (pv 3) (pe_un un_neg pe_int) (fun _ _ => rfl)) (pe_fld (pv 0) rfl) rfl)
    (pss_cons (ps_dput hr.hu (pe_fld (pv 0) rfl) (pe_fld (pv 0) rfl) (pv 2) rfl)
    (pss_one (ps_fldaug (pv 0) pe_int in_add))))))))), ?_⟩
    obtain ⟨dx, ob⟩ := ht.ob
    refine ⟨_, rfl, names_way hv (fun ns hpn l H1 s1 hl0 hl => ?_) k1⟩
    have hns := pnV_bd hpn
    refine ⟨_, rfl, by decide, fun E1 hE1 => ?_⟩
    have hl2 : upd H1 E1 (.lst []) l = some (.lst (ns.map V.str)) := by rw [upd_ne (ne_of_none hl hE1)]; exact hl
    refine ⟨.list (ns.map PyData.str), .list [], .lst (SqL.of hl2) (DtAll.strs ns).dp, .lst (SqL.of upd_same) .nil, names_shp hpn, by decide +kernel, _, rfl, ?_⟩
    have s2 : Same H (upd H1 E1 (.lst [])) := s1.trans (Same.new hE1)
    generalize upd H1 E1 (.lst []) = H2 at hl2 s2 ⊢
    rw [eqv_nil]
    refine ite2 (fun c => ?_) (fun c => ?_)
    · have c' : ns = [] := of_decide_eq_true c
      subst c'
      exact ⟨_, rfl, exc1_way ⟨_, rfl, (k2 hpn).m s2⟩⟩
    have c' : ns ≠ [] := fun e => c (decide_eq_true e)
    obtain ⟨z, hz⟩ : ∃ z, ns.getLast? = some z := ⟨_, List.getLast?_eq_some_getLast c'⟩
    obtain ⟨k4, k5⟩ := k3 ns z hpn hz
    have ht2 := ht.m s2
    refine ⟨_, rfl, x, _, _, rfl, s2 _ _ ob, tr_no (by decide +kernel), _, rfl, x, d, l, L, nx, ns, rfl, ht2, SqL.of hl2, hns, fun n a es H3 hab hn s3 => ?_, fun p hp => exE.m (k4 p hp) s2⟩
    obtain ⟨j1, j2, j3, j4⟩ := k5 n a es hab hn
    have s4 := s2.trans s3
    have ht4 := ht.m s4
    have hl4 := s3 _ _ hl2
    refine ⟨_, rfl, x, _, _, rfl, s4 _ _ ob, tr_no (by decide +kernel), _, rfl, _, rfl, x, d, l, L, nx, ns, n, a, es, z, rfl, ht4, SqL.of hl4, hns, hz, hn, fun e => (j1 e).m s4, fun e e' => (j2 e e').m s4, fun e1 e2 => ?_⟩
    refine ⟨_, rfl, x, A_Tree, dx, _, _, rfl, s4 _ _ ob, T_Tree.cl, T_Tree.no _ (by simp), tr_1, d, _, rfl, ht4.inn, rfl, _, rfl, ?_⟩
    have el : ((innK L).length : Int) = (L.length : Nat) := by unfold innK; rw [List.length_map]
    rw [el]
    by_cases c3 : L.length = 24
    · refine iteT' (by rw [c3]; rfl) ?_
      exact exc1_way ⟨_, rfl, (j3 e1 e2 c3).m s4⟩
    refine iteF' (decide_eq_false fun q => c3 (by have := V.int.inj q; omega)) ?_
    have hm := ndAt_mem hn
    have nxa : x ≠ a := fun e => ht4.nax hm e.symm
    have nxd : x ≠ d := fun e => ht4.ndx e.symm
    have nad : a ≠ d := ht4.df _ hm
    have es20 : es.length ≤ 20 := (ht.wf.sz _ hm).1
    have l24 : L.length ≤ 24 := ht.wf.m
    have ob4 := s4 _ _ ob
    refine ⟨_, rfl, x, A_Tree, dx, _, _, rfl, ob4, T_Tree.cl, T_Tree.no _ (by simp), tr_2, ?_⟩
    refine ⟨_, rfl, x, A_Tree, dx, _, _, rfl, ob4, T_Tree.cl, T_Tree.no _ (by simp), tr_1, _, rfl, d, _, rfl, ht4.dg hn, ?_⟩
    refine ⟨_, rfl, _, rfl, l, _, _, _, rfl, rfl, SqL.of hl4, last_at hz, a, _, rfl, DPut.k (k := .inr z) (ht4.at hn) (sz_lt (by rw [List.length_map]; omega)), ?_⟩
    rw [put_ent e1]
    have ob5 : upd H3 a (.dK ((es ++ [(z, nx)]).map fun e => ((Sum.inr e.1 : Key), V.int e.2))) x = some (.ins A_Tree dx (trF d nx)) := by rw [upd_ne nxa]; exact ob4
    refine ⟨_, rfl, ?_⟩
    refine ⟨_, rfl, x, A_Tree, dx, _, _, rfl, ob5, T_Tree.cl, T_Tree.no _ (by simp), tr_1, ?_⟩
    refine ⟨_, rfl, x, A_Tree, dx, _, _, rfl, ob5, T_Tree.cl, T_Tree.no _ (by simp), tr_2, d, _, rfl, DPut.k (k := .inl nx) (by rw [upd_ne nad.symm]; exact ht4.inn) (sz_lt (by unfold innK; rw [List.length_map]; omega)), ?_⟩
    rw [put_inn ht.wf.lt]
    have ob6 : upd (upd H3 a (.dK ((es ++ [(z, nx)]).map fun e => ((Sum.inr e.1 : Key), V.int e.2)))) d (.dK (innK L ++ [(.inl nx, .ref b)])) x = some (.ins A_Tree dx (trF d nx)) := by rw [upd_ne nxd]; exact ob5
    refine ⟨_, rfl, x, A_Tree, dx, _, _, rfl, ob6, T_Tree.cl, T_Tree.no _ (by simp), tr_2, _, _, rfl, rfl, dx, _, ob6, by simp [trF], ?_⟩
    rw [trput_2]
    have off : ∀ c u, H3 c = some u → c ≠ x → c ≠ d → c ≠ a → upd (upd (upd H3 a (.dK ((es ++ [(z, nx)]).map fun e => ((Sum.inr e.1 : Key), V.int e.2)))) d (.dK (innK L ++ [(.inl nx, .ref b)]))) x (.ins A_Tree dx (trF d (nx + 1))) c = some u := fun c u hc n1 n2 n3 => by
      rw [upd_ne n1, upd_ne n2, upd_ne n3]
      exact hc
    refine j4 e1 e2 c3 _ (fun c u hc nf => off c u (s4 _ _ hc) (fun e => nf (.inl e)) (fun e => nf (.inr (.inl e))) (fun e => nf (.inr (.inr ⟨_, hm, e.symm⟩)))) ?_
    refine ht4.grow hn (ht.wf.grow hn (by omega) (by omega) ?_ ho) (s4 _ _ hb) nb ⟨dx, upd_same⟩ (by rw [upd_ne nxd.symm]; exact upd_same) (by rw [upd_ne nxa.symm, upd_ne nad]; exact upd_same) off
    obtain ⟨ys, rfl⟩ := List.getLast?_eq_some_iff.mp hz
    exact hns.2 z (by simp)
/-! paths written by names, and read again -/
def pcat (ns : List Str) : Str := if ns = [] then Str.empty else pathOf ns
theorem join_sn (ns : List Str) (z : Str) (h : ns ≠ []) : Txt.join "/" (ns ++ [z]) = Txt.join "/" ns ++ "/" ++ z := by
  rw [TL.join_eq, TL.join_eq]
  refine TL.ext_tl ?_
  rw [TL.tl_append, TL.tl_append, TL.tl_join, TL.tl_join, List.map_append]
  have g : ∀ (l : List (List Nat)) (y : List Nat), l ≠ [] → TL.joinL (TL.tl "/") (l ++ [y]) = TL.joinL (TL.tl "/") l ++ TL.tl "/" ++ y := by
    intro l
    induction l with
    | nil => intro y h; exact absurd rfl h
    | cons p r ih =>
      intro y _
      cases r with
      | nil =>
        show p ++ (TL.tl "/" ++ y) = p ++ TL.tl "/" ++ y
        rw [List.append_assoc]
      | cons q r =>
        have e := ih y (by simp)
        show p ++ (TL.tl "/" ++ TL.joinL (TL.tl "/") ((q :: r) ++ [y])) = p ++ (TL.tl "/" ++ TL.joinL (TL.tl "/") (q :: r)) ++ TL.tl "/" ++ y
        rw [e]
        simp only [List.append_assoc]
  exact g (ns.map TL.tl) (TL.tl z) (by simpa using h)
theorem pcat_snoc (ns : List Str) (z : Str) : pcat (ns ++ [z]) = pcat ns ++ "/" ++ z := by
  unfold pcat
  rw [if_neg (by simp)]
  unfold pathOf
  by_cases h : ns = []
  · subst h
    rw [if_pos rfl]
    refine TL.ext_tl ?_
    show TL.tl (("/" : Str) ++ Txt.join "/" [z]) = _
    rw [TL.tl_append, TL.tl_append, TL.tl_append]
    rfl
  · rw [if_neg h, join_sn ns z h]
    refine TL.ext_tl ?_
    simp only [TL.tl_append, List.append_assoc]
theorem pathOf_ln {ns : List Str} (h : NmS ns) : (pathOf ns).length ≤ 100 := by
  have e := join_len "/" ns
  have e1 : (("/" : Str)).length = 1 := rfl
  have e2 := sum_nm h.2
  have e3 : (pathOf ns).length = 1 + (Txt.join "/" ns).length := len_append _ _
  have e4 := h.1
  rw [e1] at e
  omega
theorem pcat_ln {ns : List Str} (h : NmS ns) : (pcat ns).length ≤ 100 := by
  unfold pcat
  split
  · decide
  · exact pathOf_ln h
theorem not_stroke {z : Str} (h : NmL z) : (47 : Nat) ∉ TL.tl z := fun e => by
  have := h.2.2 47 e
  revert this
  decide +kernel
theorem path_reads {ns : List Str} (h0 : ns ≠ []) (h1 : ns.length ≤ 8) (h : ∀ z ∈ ns, NmL z) : pathNames (pathOf ns) = some ns := by
  have es : Txt.split (Txt.join "/" ns) "/" = ns := by
    exact TL.split_join (s := 47) (S := []) (by rfl) (by decide +kernel) h0 fun p hp => not_stroke (h p hp)
  have ht : TL.tl (pathOf ns) = 47 :: TL.tl (Txt.join "/" ns) := by
    unfold pathOf
    rw [TL.tl_append]
    rfl
  have e2 := split_stroke ht
  rw [es] at e2
  have hne : pathOf ns ≠ "/" := fun e => by
    rw [e] at e2
    have e3 : Txt.split ("/" : Str) "/" = [Str.empty, Str.empty] := by decide +kernel
    rw [e3] at e2
    have e4 := (List.cons.inj e2).2
    have e5 := h Str.empty (by rw [← e4]; exact List.mem_singleton.mpr rfl)
    exact absurd e5.1 (by decide)
  unfold pathNames
  rw [if_neg hne, e2]
  dsimp only
  rw [if_pos ⟨rfl, List.length_pos_iff.mpr h0, h1, List.all_eq_true.mpr fun z hz => (h z hz).isOf⟩]
theorem NmL.s {ns : List Str} (h1 : ns.length ≤ 8) (h : ∀ z ∈ ns, NmL z) : NmS ns := ⟨h1, fun z hz => (h z hz).2.1⟩
/-! a tree that grows by a name -/
theorem lkE_snoc (es : List (Str × Int)) (z : Str) (nx t : Int) : lkE (es ++ [(z, nx)]) t = lkE es t + if nx = t then 1 else 0 := by
  unfold lkE
  rw [List.filter_append, List.length_append]
  by_cases c : nx = t
  · simp [c]
  · simp [c]
theorem set_none {L : TLs} {n : Int} {o : Nd} (h : n ∉ L.map (·.1)) : setNd L n o = L := by
  unfold setNd
  rw [List.map_congr_left (g := id) fun p hp => ?_, List.map_id]
  have : p.1 ≠ n := fun e => h (e ▸ List.mem_map_of_mem hp)
  rw [if_neg this]
  rfl
theorem lkL_cons (p : Int × Addr × Nd) (r : TLs) (t : Int) : lkL (p :: r) t = lkN t p.2.2 + lkL r t := by
  unfold lkL
  rw [List.map_cons, List.sum_cons]
theorem lkL_set {n : Int} {a : Addr} {old o : Nd} (t : Int) : ∀ {L : TLs}, (L.map (·.1)).Nodup → ndAt L n = some (a, old) → lkL (setNd L n o) t + lkN t old = lkL L t + lkN t o
  | [], _, h => by cases h
  | p :: r, hk, h => by
    rw [List.map_cons, List.nodup_cons] at hk
    have e1 : setNd (p :: r) n o = (if p.1 = n then (p.1, p.2.1, o) else p) :: setNd r n o := rfl
    rw [e1, lkL_cons, lkL_cons]
    by_cases c : p.1 = n
    · rw [ndAt_pos c] at h
      have h2 : p.2 = (a, old) := Option.some.inj h
      rw [if_pos c, set_none (by rw [← c]; exact hk.1), h2]
      dsimp only
      omega
    · rw [ndAt_neg c] at h
      rw [if_neg c]
      have := lkL_set (o := o) t hk.2 h
      omega
theorem lkL_grow {L : TLs} {n nx : Int} {a b : Addr} {es : List (Str × Int)} {z : Str} {o : Nd} (hk : (L.map (·.1)).Nodup) (hn : ndAt L n = some (a, .dir es)) (t : Int) :
    lkL (growL L n es z nx b o) t = lkL L t + (if nx = t then 1 else 0) + lkN t o := by
  have e1 : lkL (growL L n es z nx b o) t = lkL (setNd L n (.dir (es ++ [(z, nx)]))) t + lkN t o := by
    unfold growL lkL
    rw [List.map_append, List.sum_append]
    simp
  have e2 := lkL_set (o := .dir (es ++ [(z, nx)])) t hk hn
  have e3 : lkN t (.dir (es ++ [(z, nx)])) = lkE es t + if nx = t then 1 else 0 := lkE_snoc es z nx t
  have e4 : lkN t (.dir es) = lkE es t := rfl
  rw [e1]
  omega
theorem goW_mono {L M : TLs} (h : ∀ m a es, ndAt L m = some (a, .dir es) → ∃ a' es', ndAt M m = some (a', .dir es') ∧ ∀ z t, entAt es z = some t → entAt es' z = some t) : ∀ (xs : List Str) (n m : Int), goW L n xs = .inr m → goW M n xs = .inr m
  | [], n, m, e => e
  | z :: r, n, m, e => by
    rw [goW_cons] at e ⊢
    cases e1 : ndAt L n with
    | none =>
      rw [e1] at e
      cases e
    | some q =>
      obtain ⟨a, o⟩ := q
      rw [e1] at e
      cases o with
      | file ws => cases e
      | dir es =>
        dsimp only at e
        obtain ⟨a', es', f1, f2⟩ := h n a es e1
        rw [f1]
        dsimp only
        cases e2 : entAt es z with
        | none =>
          rw [e2] at e
          cases e
        | some t =>
          rw [e2] at e
          dsimp only at e
          rw [f2 z t e2]
          dsimp only
          cases e3 : goW L t r with
          | inl p =>
            rw [e3] at e
            cases e
          | inr q =>
            rw [e3] at e
            cases e
            rw [goW_mono h r t m e3]
theorem goW_growL {L : TLs} {n nx : Int} {a b : Addr} {es : List (Str × Int)} {z : Str} {o : Nd} (w : TrOk L nx) (hn : ndAt L n = some (a, .dir es)) {xs : List Str} {s m : Int} (h : goW L s xs = .inr m) : goW (growL L n es z nx b o) s xs = .inr m := by
  refine goW_mono (fun m' a' es' e => ?_) xs s m h
  rw [growL_at hn w.lt]
  have : m' < nx := w.lt _ (ndAt_mem e)
  rw [if_neg (by omega)]
  by_cases c : m' = n
  · rw [if_pos c]
    rw [c, hn] at e
    cases e
    refine ⟨_, _, rfl, fun y t hy => ?_⟩
    rw [entAt_app, hy]
    rfl
  · rw [if_neg c]
    exact ⟨_, _, e, fun _ _ h => h⟩
theorem goW_file {L : TLs} {n : Int} {a : Addr} {ws ws' : List Str} (hn : ndAt L n = some (a, .file ws)) {xs : List Str} {s m : Int} (h : goW L s xs = .inr m) : goW (setNd L n (.file ws')) s xs = .inr m := by
  refine goW_mono (fun m' a' es' e => ?_) xs s m h
  rw [ndAt_set, e, Option.map_some]
  by_cases c : m' = n
  · rw [c, hn] at e
    cases e
  · rw [if_neg c]
    exact ⟨_, _, rfl, fun _ _ h => h⟩
theorem goW_snoc {L : TLs} {ns : List Str} {z : Str} {n m : Int} {a : Addr} {es : List (Str × Int)} (h : goW L 1 ns = .inr n) (hn : ndAt L n = some (a, .dir es)) (he : entAt es z = some m) : goW L 1 (ns ++ [z]) = .inr m := by
  rw [goW_app L ns [z] 1 n h, goW_cons, hn]
  dsimp only
  rw [he]
  rfl
structure Ch (L : TLs) (nx : Int) (ns : List Str) (n : Int) : Prop where
  go : goW L 1 ns = .inr n
  lk : ∀ t, nx ≤ t → lkL L t = 0
  ln : (L.length : Int) < nx
theorem Ch.step {L : TLs} {nx n : Int} {ns : List Str} {a b : Addr} {z : Str} {o : Nd} (w : TrOk L nx) (c : Ch L nx ns n) (hn : ndAt L n = some (a, .dir [])) (ho : ∀ t, lkN t o = 0) :
    Ch (growL L n [] z nx b o) (nx + 1) (ns ++ [z]) nx ∧ lkL (growL L n [] z nx b o) nx = 1 ∧ ndAt (growL L n [] z nx b o) nx = some (b, o) := by
  have hlt : n < nx := w.lt _ (ndAt_mem hn)
  have e3 : ndAt (growL L n [] z nx b o) nx = some (b, o) := by rw [growL_at hn w.lt, if_pos rfl]
  have e4 : ndAt (growL L n [] z nx b o) n = some (a, .dir ([] ++ [(z, nx)])) := by rw [growL_at hn w.lt, if_neg (by omega), if_pos rfl]
  refine ⟨⟨goW_snoc (goW_growL w hn c.go) e4 (by simp [entAt]), fun t ht => ?_, ?_⟩, ?_, e3⟩
  · rw [lkL_grow w.ks hn, ho, c.lk t (by omega), if_neg (by omega)]
  · unfold growL setNd
    rw [List.length_append, List.length_map]
    have := c.ln
    simp
    omega
  · rw [lkL_grow w.ks hn, ho, c.lk nx (Int.le_refl _), if_pos rfl]
theorem putE_of {E : Value → Option Addr → Hp → Prop} {BP ND NS EX TM : Addr} {H : Hp} {L : TLs} {v : V} {Q : Int → Addr → List (Str × Int) → Str → Prop} {ns : List Str} {z : Str} {n : Int} {a : Addr} {es : List (Str × Int)} (hp : pnV v = some (ns ++ [z])) (hg : goW L 1 ns = .inr n) (hn : ndAt L n = some (a, .dir es))
    (he : entAt es z = none) (hl : es.length ≠ 20) (hL : L.length ≠ 24) (q : Q n a es z) : putE E BP ND NS EX TM H L v Q := by
  have ab : abW L (ns ++ [z]) = .inr n := by
    unfold abW
    rw [List.dropLast_concat, hg]
    dsimp only
    rw [hn]
  refine ⟨fun e => (by rw [hp] at e; cases e), fun e => ?_, fun ns' z' e1 e2 => ?_⟩
  · rw [hp] at e
    have := congrArg List.length (Option.some.inj e)
    simp at this
  · rw [hp] at e1
    cases e1
    rw [List.getLast?_concat] at e2
    cases e2
    refine ⟨fun p e => (by rw [ab] at e; cases e), fun n' a' es' e3 e4 => ?_⟩
    rw [ab] at e3
    cases e3
    rw [hn] at e4
    cases e4
    exact ⟨fun e => absurd he e, fun _ e => absurd e hl, fun _ _ e => absurd e hL, fun _ _ _ => q⟩

abbrev s_Tree_paths : Stmt := inClass (topS 34) 23
abbrev N_Tree_paths : List Str := ["self", "under", "names", "waiting", "found", "here", "number", "name", "one"]
theorem sc_Tree_paths : FnScope N_Tree_paths ["self", "under"] (defScope s_Tree_paths) := ⟨rfl, rfl, rfl, by decide +kernel, rfl, by decide +kernel, by decide +kernel⟩
/-- one list is the beginning of another -/
def preB (xs ys : List Str) : Bool := decide (xs <+: ys)
/-- A holds the names at which something is, each with its number -/
structure PthsOk (L : TLs) (A : List (List Str × Int)) : Prop where
  go : ∀ ns n, goW L 1 ns = .inr n ↔ (ns, n) ∈ A
  nm : ∀ e ∈ A, e.1.length ≤ 8 ∧ ∀ z ∈ e.1, NmL z
  nd : (A.map (·.1)).Nodup
  ek : ∀ n a es, ndAt L n = some (a, .dir es) → (es.map (·.1)).Nodup
  sz : A.length ≤ 4000
def sp_Tree_paths (K : PySem.W.Frag) (C BP ND NS : Addr) : Sp := fun vs H Q E => ∃ (x d : Addr) (L : TLs) (nx : Int) (v : V), vs = [.ref x, v] ∧ TrAt C H x d L nx ∧ PthV K H v ∧ (pnV v = none → exE E H BP "path" v) ∧ ∀ ns, pnV v = some ns → (∀ p, goW L 1 ns = .inl p → goE ND NS E H ns p) ∧
  ∀ n, goW L 1 ns = .inr n → ∃ A, PthsOk L A ∧ ∀ (ys : List Str) (p : Addr) H', ys.Perm ((A.filter fun e => preB ns e.1).map fun e => pathOf e.1) → ST.SrtS ys → Same H H' → H p = none → H' p = some (.lst (ys.map V.str)) → Q (.ref p) H'
theorem goW_snoc_iff {L : TLs} {xs : List Str} {y : Str} {n t : Int} : goW L n (xs ++ [y]) = .inr t ↔ ∃ p a es, goW L n xs = .inr p ∧ ndAt L p = some (a, .dir es) ∧ entAt es y = some t := by
  constructor
  · intro h
    induction xs generalizing n with
    | nil =>
      rw [List.nil_append, goW_cons] at h
      cases e : ndAt L n with
      | none =>
        rw [e] at h
        cases h
      | some q =>
        obtain ⟨a, o⟩ := q
        rw [e] at h
        cases o with
        | file ws => cases h
        | dir es =>
          dsimp only at h
          cases e2 : entAt es y with
          | none =>
            rw [e2] at h
            cases h
          | some m =>
            rw [e2] at h
            cases h
            exact ⟨n, a, es, rfl, e, e2⟩
    | cons z r ih =>
      rw [List.cons_append, goW_cons] at h
      rw [goW_cons]
      cases e : ndAt L n with
      | none =>
        rw [e] at h
        cases h
      | some q =>
        obtain ⟨a, o⟩ := q
        rw [e] at h
        cases o with
        | file ws => cases h
        | dir es =>
          dsimp only at h ⊢
          cases e2 : entAt es z with
          | none =>
            rw [e2] at h
            cases h
          | some m =>
            rw [e2] at h
            dsimp only at h ⊢
            cases e3 : goW L m (r ++ [y]) with
            | inl p =>
              rw [e3] at h
              cases h
            | inr q =>
              rw [e3] at h
              cases h
              obtain ⟨p, a', es', h1, h2, h3⟩ := ih e3
              exact ⟨p, a', es', by rw [h1], h2, h3⟩
  · rintro ⟨p, a, es, h1, h2, h3⟩
    rw [goW_app L xs [y] n p h1, goW_cons, h2]
    dsimp only
    rw [h3]
    rfl
theorem entAt_iff {es : List (Str × Int)} (nd : (es.map (·.1)).Nodup) {z : Str} {m : Int} : entAt es z = some m ↔ (z, m) ∈ es := by
  refine ⟨entAt_mem, fun h => ?_⟩
  cases e : entAt es z with
  | none =>
    unfold entAt at e
    rw [Option.map_eq_none_iff] at e
    have := List.find?_eq_none.mp e _ h
    simp at this
  | some k =>
    have := entAt_mem e
    have q : (z, k) = (z, m) := nd_inj nd this h rfl
    rw [(Prod.mk.inj q).2]
theorem PthsOk.nda {L : TLs} {A : List (List Str × Int)} (h : PthsOk L A) : A.Nodup := List.Pairwise.of_map _ (fun a b n e => n (congrArg _ e)) h.nd
theorem pre_ne {xs : List Str} {z : Str} : preB (xs ++ [z]) xs = false := decide_eq_false fun h => by
  have := h.length_le
  simp at this
  omega
theorem pre_snoc {xs ys : List Str} (h : preB xs ys = true) (n : ys ≠ xs) : ∃ z, preB (xs ++ [z]) ys = true := by
  obtain ⟨t, rfl⟩ := of_decide_eq_true h
  cases t with
  | nil => exact absurd (List.append_nil _) n
  | cons z r => exact ⟨z, decide_eq_true ⟨r, by simp⟩⟩
theorem pre_one {xs ys : List Str} {y z : Str} (h : preB (xs ++ [y]) ys = true) (k : preB (xs ++ [z]) ys = true) : y = z := by
  obtain ⟨t, rfl⟩ := of_decide_eq_true h
  obtain ⟨r, e⟩ := of_decide_eq_true k
  rw [List.append_assoc, List.append_assoc] at e
  have := List.append_cancel_left e
  simp at this
  exact this.1.symm
theorem goW_pre {L : TLs} {ys : List Str} : ∀ (xs : List Str) (n t : Int), goW L n (xs ++ ys) = .inr t → ∃ m, goW L n xs = .inr m
  | [], n, t, _ => ⟨n, rfl⟩
  | z :: r, n, t, h => by
    rw [List.cons_append, goW_cons] at h
    rw [goW_cons]
    cases e : ndAt L n with
    | none =>
      rw [e] at h
      cases h
    | some q =>
      obtain ⟨a, o⟩ := q
      rw [e] at h
      cases o with
      | file ws => cases h
      | dir es =>
        dsimp only at h ⊢
        cases e2 : entAt es z with
        | none =>
          rw [e2] at h
          cases h
        | some m =>
          rw [e2] at h
          dsimp only at h ⊢
          cases e3 : goW L m (r ++ ys) with
          | inl p =>
            rw [e3] at h
            cases h
          | inr q =>
            obtain ⟨k, hk⟩ := goW_pre r m q e3
            exact ⟨k, by rw [hk]⟩
theorem PthsOk.le {L : TLs} {A : List (List Str × Int)} (h : PthsOk L A) {xs ys : List Str} {n : Int} (k : (xs ++ ys, n) ∈ A) : ∃ m, goW L 1 xs = .inr m := goW_pre xs 1 n ((h.go _ _).mpr k)
def entsN : Nd → List (Str × Int)
  | .dir es => es
  | .file _ => []
/-- what is beneath a node is the node and what is beneath each of its entries -/
theorem PthsOk.split {L : TLs} {A : List (List Str × Int)} (h : PthsOk L A) {ns : List Str} {n : Int} {a : Addr} {o : Nd} (hg : goW L 1 ns = .inr n) (hn : ndAt L n = some (a, o)) :
    (A.filter fun e => preB ns e.1).Perm ((ns, n) :: ((entsN o).map fun e => (ns ++ [e.1], e.2)).flatMap fun c : List Str × Int => A.filter fun e => preB c.1 e.1) := by
  have hmem : (ns, n) ∈ A := (h.go _ _).mp hg
  have key : ∀ ys m, (ys, m) ∈ A → preB ns ys = true → ys ≠ ns → ∃ es z t, o = .dir es ∧ (z, t) ∈ es ∧ preB (ns ++ [z]) ys = true := by
    intro ys m hm hp hne
    obtain ⟨z, hz⟩ := pre_snoc hp hne
    obtain ⟨r, e⟩ := of_decide_eq_true hz
    obtain ⟨t, ht⟩ := h.le (by rw [← e] at hm; exact hm)
    obtain ⟨p, a', es, h1, h2, h3⟩ := goW_snoc_iff.mp ht
    rw [hg] at h1
    cases h1
    rw [hn] at h2
    cases h2
    exact ⟨es, z, t, rfl, entAt_mem h3, hz⟩
  have ndF : ∀ c : List Str × Int, (A.filter fun e => preB c.1 e.1).Nodup := fun c => h.nda.filter _
  refine (List.perm_ext_iff_of_nodup (h.nda.filter _) ?_).mpr fun e => ?_
  · refine List.nodup_cons.mpr ⟨fun q => ?_, ?_⟩
    · obtain ⟨c, hc, hq⟩ := List.mem_flatMap.mp q
      obtain ⟨e, _, rfl⟩ := List.mem_map.mp hc
      have := (List.mem_filter.mp hq).2
      rw [pre_ne] at this
      cases this
    · refine List.pairwise_flatMap.mpr ⟨fun c _ => ndF c, ?_⟩
      refine List.pairwise_map.mpr ?_
      cases o with
      | file ws => exact .nil
      | dir es =>
        refine (List.pairwise_map.mp (h.ek n a es hn)).imp fun {x y} ne c hc c' hd e => ?_
        subst e
        exact ne (pre_one (List.mem_filter.mp hc).2 (List.mem_filter.mp hd).2)
  · obtain ⟨ys, m⟩ := e
    rw [List.mem_filter, List.mem_cons, List.mem_flatMap]
    constructor
    · rintro ⟨hA, hp⟩
      by_cases c : ys = ns
      · subst c
        rw [(h.go _ _).mpr hA] at hg
        cases hg
        exact .inl rfl
      · obtain ⟨es, z, t, rfl, hm, hz⟩ := key ys m hA hp c
        exact .inr ⟨(ns ++ [z], t), List.mem_map.mpr ⟨(z, t), hm, rfl⟩, List.mem_filter.mpr ⟨hA, hz⟩⟩
    · rintro (e | ⟨c, hc, hq⟩)
      · cases e
        exact ⟨hmem, decide_eq_true (List.prefix_refl _)⟩
      · obtain ⟨e, _, rfl⟩ := List.mem_map.mp hc
        obtain ⟨q1, q2⟩ := List.mem_filter.mp hq
        refine ⟨q1, ?_⟩
        obtain ⟨r, e2⟩ := of_decide_eq_true q2
        exact decide_eq_true ⟨e.1 :: r, by rw [← e2]; simp⟩
theorem NmL.shp {z : Str} (h : NmL z) (k : Nat) : Shp k (.str z) := Shp.str fun c hc => Nat.lt_trans (of_decide_eq_true (List.all_eq_true.mp (show lettersS.cps.toList.all (· < 128) = true by decide +kernel) c (h.2.2 c hc))) (by decide)
/-- a waiting pair: a list of names with the number -/
structure Wt (H : Hp) (wl fl : Addr) (z : (List Str × Int) × Addr × Addr) : Prop where
  tu : H z.2.1 = some (.tup [.ref z.2.2, .int z.1.2])
  li : H z.2.2 = some (.lst (z.1.1.map V.str))
  nw : z.2.2 ≠ wl
  nf : z.2.2 ≠ fl
theorem Wt.m {H H' : Hp} {wl fl : Addr} {z : (List Str × Int) × Addr × Addr} (h : Wt H wl fl z) (s : ∀ b o, H b = some o → b ≠ wl → b ≠ fl → H' b = some o) (lw : ∃ xs, H wl = some (.lst xs)) (lf : ∃ xs, H fl = some (.lst xs)) : Wt H' wl fl z := by
  obtain ⟨xs, hw⟩ := lw
  obtain ⟨ys, hf⟩ := lf
  refine ⟨s _ _ h.tu (fun e => ?_) (fun e => ?_), s _ _ h.li h.nw h.nf, h.nw, h.nf⟩
  · have := h.tu
    rw [e, hw] at this
    cases this
  · have := h.tu
    rw [e, hf] at this
    cases this
def wtD (q : List Str × Int) : PyData := .tuple [.list (q.1.map PyData.str), .int q.2]
theorem wt_dt {K : PySem.W.Frag} {H : Hp} {wl fl : Addr} : ∀ {Z : List ((List Str × Int) × Addr × Addr)}, (∀ z ∈ Z, Wt H wl fl z) → DpAll K H (Z.map fun z => V.ref z.2.1) (Z.map fun z => wtD z.1)
  | [], _ => .nil
  | z :: r, h => by
    have hz := h z List.mem_cons_self
    exact .cons (.tup (SqT.of hz.tu) (.cons (.lst (SqL.of hz.li) (DtAll.strs _).dp) (.cons (.int _) .nil))) (wt_dt fun y hy => h y (List.mem_cons_of_mem _ hy))
theorem wt_shp {q : List Str × Int} (h : ∀ z ∈ q.1, NmL z) : Shp 2 (wtD q) := Shp.tuple (k := 1) fun d hd => by
  rcases List.mem_cons.mp hd with rfl | hd
  · exact Shp.list (k := 0) fun d hd => by
      obtain ⟨z, hz, rfl⟩ := List.mem_map.mp hd
      exact (h z hz).shp 0
  · rw [List.mem_singleton.mp hd]
    exact Shp.int _
def pathsW (L : TLs) (A : List (List Str × Int)) (ns : List Str) (H2 : Hp) (x l wl fl : Addr) (v : V) : Nat → St → Hp → Prop := fun m σ H' => ∃ (Z : List ((List Str × Int) × Addr × Addr)) (Dn : List (List Str × Int)) (v5 v6 v7 v8 : Option V), σ = [some (.ref x), some v, some (.ref l), some (.ref wl), some (.ref fl), v5, v6, v7, v8] ∧ Same H2 H' ∧
        H' wl = some (.lst (Z.map fun z => V.ref z.2.1)) ∧ H' fl = some (.lst (Dn.map fun e => V.str (pathOf e.1))) ∧ (∀ z ∈ Z, Wt H' wl fl z) ∧ (∀ z ∈ Z, goW L 1 z.1.1 = .inr z.1.2) ∧
        (A.filter fun e => preB ns e.1).Perm (Dn ++ (Z.map (·.1)).flatMap fun c : List Str × Int => A.filter fun e => preB c.1 e.1) ∧ m + Dn.length = A.length
theorem dgN {H : Hp} {L : TLs} {d a : Addr} {n : Int} {o : Nd} (h : H d = some (.dK (innK L))) (e : ndAt L n = some (a, o)) : DGet H d (.int n) (some (.ref a)) := by
  have := DGet.k (k := .inl n) h
  rw [inn_val, e] at this
  exact this
theorem fm_len {α β : Type} {f : α → List β} : ∀ {l : List α}, (∀ c ∈ l, 1 ≤ (f c).length) → l.length ≤ (l.flatMap f).length
  | [], _ => Nat.zero_le _
  | c :: r, h => by
    rw [List.flatMap_cons, List.length_append, List.length_cons]
    have := h c List.mem_cons_self
    have := fm_len (f := f) (l := r) fun d hd => h d (List.mem_cons_of_mem _ hd)
    omega
theorem perm_step {α : Type} {D F G K : List α} {z : α} (h : G.Perm (z :: K)) : (D ++ (F ++ G)).Perm ((D ++ [z]) ++ (F ++ K)) := by
  rw [List.append_assoc]
  exact ((h.append_left F).trans List.perm_middle).append_left D
theorem eqv_nilD (ds : List PyData) : PyData.eqv (.list ds) (.list []) = ds.isEmpty := by cases ds <;> rfl
theorem ok_Tree_paths {f : Addr} {fd : FuncData} (F : Fun K "paths" "Tree.paths" s_Tree_paths f fd) (B : Bt mg) {A_Tree : Addr} (T_Tree : CF K mg "Tree" A_Tree ["inner", "next_one"]) (M_Tree_going : Mth P w K mg base (L2.CX P w) A_Tree "going" 3 ["self", "names"] (sp_Tree_going K A_Tree A_NotDir A_NoSuch)) (M_Tree_is_dir : Mth P w K mg base CX0 A_Tree "is_dir" 1 ["self", "number"] (sp_Tree_is_dir A_Tree)) (C_names_of : Cal P w K mg base (L2.CX P w) "names_of" 3 ["path"] (sp_names_of K A_BadPath)) (C_path_of : Cal P w K mg base CX0 "path_of" 1 ["names"] (sp_path_of K)) : GnOk P w K mg base (L2.CX P w) 4 f fd ["self", "under"] (sp_Tree_paths K A_Tree A_BadPath A_NotDir A_NoSuch) := by
  refine gn_funX F sc_Tree_paths (fun vs H Q E h => ?_) (fun cdv A outer s H vs Q E hr h => ?_)
  · obtain ⟨x, d, L, nx, v, rfl, _⟩ := h
    rfl
  · obtain ⟨x, d, L, nx, v, rfl, ht, hv, k1, k2⟩ := h
    refine ⟨_, (pss_cons (ps_set (i := 2) sc_Tree_paths.nd rfl (Or.inl rfl) (pe_cal C_names_of (hr.mono (by decide)) (by rfl) (passE (takes_of rfl rfl rfl rfl) (fun _ _ _ _ h => h)) (pa_cons (pv 1) pa_nil)))
    (pss_cons (ps_set (i := 3) sc_Tree_paths.nd rfl (Or.inl rfl) (pe_lst (pa_cons (pe_tup (pa_cons (pv 2) (pa_cons (pe_mth M_Tree_going T_Tree.cl (hr.mono (by decide)) (passE (takes_of rfl rfl rfl rfl) (fun _ _ _ _ h => h)) (pv 0) (pa_cons (pv 2) pa_nil)) pa_nil))) pa_nil)))
    (pss_cons (ps_set (i := 4) sc_Tree_paths.nd rfl (Or.inl rfl) (pe_lst pa_nil))
    (pss_cons (ps_while (passes_of rfl) (pt_cmpR (op_neDK K hr.units) (pv 3) (pe_lst pa_nil) (nomark _))
      (pss_cons (ps_asg (pe_bm0K K PySem.F.plainAttrs_list PySem.F.slot_list_pop PySem.F.type_list_pop mt_pop (pv 3)) (pg_tup (by rfl) (pgs_cons (pg_name (i := 5) sc_Tree_paths.nd rfl (Or.inr rfl)) (pgs_cons (pg_name (i := 6) sc_Tree_paths.nd rfl (Or.inl rfl)) pgs_nil))))
    (pss_cons (ps_expr (pe_bmK K PySem.F.plainAttrs_list PySem.F.slot_list_append PySem.F.type_list_append mt_append (pv 4) (pa_cons (pe_cal C_path_of (hr.mono (by decide)) (by rfl) pass0 (pa_cons (pv 5) pa_nil)) pa_nil)))
    (pss_one (ps_if (pt_val (pe_mth M_Tree_is_dir T_Tree.cl (hr.mono (by decide)) pass0 (pv 0) (pa_cons (pv 6) pa_nil)))
      (pss_one (ps_expr (pe_bmK K PySem.F.plainAttrs_list PySem.F.slot_list_extend PySem.F.type_list_extend mt_extend (pv 3) (pa_cons (pe_lock (pe_lc (own := [("name", 7), ("one", 8)]) (g := gTup K 2 (gCons (gName 7) (gCons (gName 8) gNil))) (tt := tYes) (by rfl) sc_Tree_paths.nd (pi_items (pe_dget hr.hu (pe_fld (pv 0) rfl) (pv 6) (fun _ _ => rfl))) (blkOk_by (N := N_Tree_paths) (sc := defScope s_Tree_paths) (by decide +kernel)) (fun _ _ _ _ _ => (pg_tupK K 2 (by rfl) (pgs_cons (pg_name (i := 7) sc_Tree_paths.nd rfl (Or.inl rfl)) (pgs_cons (pg_name (i := 8) sc_Tree_paths.nd rfl (Or.inl rfl)) pgs_nil)))) (fun _ _ _ _ _ => pts_nil) (fun _ _ _ _ _ => (pe_tup (pa_cons (pe_op op_cat (pv 5) (pe_lst (pa_cons (pv 7) pa_nil))) (pa_cons (pv 8) pa_nil)))))) pa_nil))))
      pss_nil)))))
    (pss_one (ps_ret (pe_callB (ST.cr_sortedLSK K) (by rfl) B.sorted (by decide +kernel) (pa_cons (pv 4) pa_nil)))))))), ?_⟩
    obtain ⟨dx, ob⟩ := ht.ob
    refine ⟨_, rfl, names_way hv (fun ns hpn l H1 s1 hl0 hl => ?_) k1⟩
    obtain ⟨k3, k4⟩ := k2 ns hpn
    have hns := pnV_bd hpn
    refine ⟨_, rfl, _, rfl, x, _, _, rfl, s1 _ _ ob, tr_no (by decide +kernel), _, rfl, x, d, l, L, nx, ns, rfl, ht.m s1, SqL.of hl, hns, fun n H2 hg s2 => ?_, fun p hp => exE.m (k3 p hp) s1⟩
    obtain ⟨A, PO, k5⟩ := k4 n hg
    have s02 := s1.trans s2
    have hl2 := s2 _ _ hl
    refine ⟨(by show 2 ≤ sizeLine; decide), fun t htn => ⟨(by show 1 ≤ sizeLine; decide), fun wl hwl => ?_⟩⟩
    refine ⟨Nat.zero_le _, fun fl hfl => ?_⟩
    have s3 : Same H2 (upd (upd (upd H2 t (HO.tup [V.ref l, V.int n])) wl (HO.lst [V.ref t])) fl (HO.lst [])) := ((Same.new htn).trans (Same.new hwl)).trans (Same.new hfl)
    have hwl2 : H2 wl = none := same_none (Same.new htn) hwl
    have hfl2 : H2 fl = none := same_none ((Same.new htn).trans (Same.new hwl)) hfl
    have nwf : wl ≠ fl := fun e => by
      rw [← e, upd_same] at hfl
      cases hfl
    have gw : upd (upd (upd H2 t (HO.tup [V.ref l, V.int n])) wl (HO.lst [V.ref t])) fl (HO.lst []) wl = some (.lst [.ref t]) := by rw [upd_ne nwf]; exact upd_same
    have gf : upd (upd (upd H2 t (HO.tup [V.ref l, V.int n])) wl (HO.lst [V.ref t])) fl (HO.lst []) fl = some (.lst []) := upd_same
    have gt : upd (upd (upd H2 t (HO.tup [V.ref l, V.int n])) wl (HO.lst [V.ref t])) fl (HO.lst []) t = some (.tup [.ref l, .int n]) := (Same.new hfl) _ _ ((Same.new hwl) _ _ upd_same)
    generalize upd (upd (upd H2 t (HO.tup [V.ref l, V.int n])) wl (HO.lst [V.ref t])) fl (HO.lst []) = H3 at s3 gw gf gt ⊢
    have s03 := s02.trans s3
    have wt0 : Wt H3 wl fl ((ns, n), t, l) := ⟨gt, s3 _ _ hl2, fun e => (by rw [← e, hl2] at hwl2; cases hwl2), fun e => (by rw [← e, hl2] at hfl2; cases hfl2)⟩
    refine ⟨pathsW L A ns H2 x l wl fl v, ⟨A.length, [((ns, n), t, l)], [], _, _, _, _, rfl, s3, gw, gf, ?_, ?_, ?_, rfl⟩, ?_⟩
    · intro z hz
      rw [List.mem_singleton.mp hz]
      exact wt0
    · intro z hz
      rw [List.mem_singleton.mp hz]
      exact hg
    · simp
    clear wt0 gw gf gt s3 hwl hfl htn
    rintro m σ H3 ⟨Z, Dn, v5, v6, v7, v8, rfl, s3, gw, gf, hZ, hgo, pm, hm⟩
    have s03 := s02.trans s3
    have zA : ∀ z ∈ Z, z.1 ∈ A := fun z hz => (PO.go _ _).mp (hgo z hz)
    refine ⟨_, rfl, by decide, fun E1 hE1 => ?_⟩
    refine ⟨.list (Z.map fun z => wtD z.1), .list [], .lst (SqL.of (Same.new hE1 _ _ gw)) (wt_dt (wl := wl) (fl := fl) fun z hz => (hZ z hz).m (fun b o e _ _ => Same.new hE1 _ _ e) ⟨_, gw⟩ ⟨_, gf⟩), .lst (SqL.of upd_same) .nil, ?_, by decide +kernel, ?_⟩
    · refine (Shp.list (k := 2) fun d hd => ?_).shaped (by decide)
      obtain ⟨z, hz, rfl⟩ := List.mem_map.mp hd
      exact wt_shp (PO.nm _ (zA z hz)).2
    have s4 : Same H2 (upd H3 E1 (.lst [])) := s3.trans (Same.new hE1)
    have n1w : wl ≠ E1 := ne_of_none gw hE1
    have n1f : fl ≠ E1 := ne_of_none gf hE1
    have gw4 : upd H3 E1 (.lst []) wl = _ := (Same.new hE1) _ _ gw
    have gf4 : upd H3 E1 (.lst []) fl = _ := (Same.new hE1) _ _ gf
    have hZ4 : ∀ z ∈ Z, Wt (upd H3 E1 (.lst [])) wl fl z := fun z hz => (hZ z hz).m (fun b o e _ _ => Same.new hE1 _ _ e) ⟨_, gw⟩ ⟨_, gf⟩
    rw [eqv_nilD]
    generalize upd H3 E1 (.lst []) = H4 at s4 gw4 gf4 hZ4 ⊢
    clear gw gf hZ s3 hE1 n1w n1f s03
    obtain rfl | ⟨Zi, z, rfl⟩ : Z = [] ∨ ∃ Zi z, Z = Zi ++ [z] := (List.eq_nil_or_concat Z).imp id fun ⟨a, b, e⟩ => ⟨a, b, by rw [e, List.concat_eq_append]⟩
    · refine ⟨_, rfl, ?_⟩
      refine iteF' rfl ⟨_, rfl, fl, Dn.map fun e => pathOf e.1, rfl, SqL.of (by rw [List.map_map]; exact gf4), fun ys p py srt hp => ?_⟩
      have s5 := s02.trans s4
      refine k5 ys p _ (py.trans ?_) srt (s5.trans (Same.new hp)) (same_none s5 hp) upd_same
      rw [List.map_nil, List.flatMap_nil, List.append_nil] at pm
      exact (pm.map _).symm
    · refine ⟨_, rfl, ?_⟩
      obtain ⟨a, o, hn⟩ := ht.wf.isSome (hgo z (by simp))
      have hnm := PO.nm _ (zA z (by simp))
      have hgz := hgo z (by simp)
      have lz : Dn.length + (Zi ++ [z]).length ≤ A.length := by
        have e1 := pm.length_eq
        have e2 := List.length_filter_le (fun e => preB ns e.1) A
        have e3 := fm_len (f := fun c : List Str × Int => A.filter fun e => preB c.1 e.1) (l := (Zi ++ [z]).map (·.1)) fun c hc => by
          obtain ⟨y, hy, rfl⟩ := List.mem_map.mp hc
          exact List.length_pos_of_mem (List.mem_filter.mpr ⟨zA y hy, decide_eq_true (List.prefix_refl _)⟩)
        rw [List.length_append] at e1
        rw [List.length_map] at e3
        omega
      have lA := PO.sz
      rw [List.map_append, List.flatMap_append] at pm
      rw [List.length_append, List.length_singleton] at lz
      refine iteT' (by simp) ⟨fun σ' H' => ∃ m', m' < m ∧ pathsW L A ns H2 x l wl fl v m' σ' H', fun σ' H' h => h, ?_⟩
      have wz := hZ4 z (by simp)
      have s5 : ∀ b u, H4 b = some u → b ≠ wl → upd H4 wl (.lst (((Zi ++ [z]).map fun z => V.ref z.2.1).dropLast)) b = some u := fun b u e nb => by rw [upd_ne nb]; exact e
      refine ⟨_, rfl, .inl ⟨rfl, _, SqL.of gw4⟩, wl, _, .ref z.2.1, rfl, rfl, gw4, by simp, ?_⟩
      have gw5 : upd H4 wl (.lst (((Zi ++ [z]).map fun z => V.ref z.2.1).dropLast)) wl = some (.lst (Zi.map fun z => V.ref z.2.1)) := by
        rw [upd_same, List.map_append, List.map_singleton, List.dropLast_concat]
      have s25 : Same H2 (upd H4 wl (.lst (((Zi ++ [z]).map fun z => V.ref z.2.1).dropLast))) := fun b u e => s5 b u (s4 _ _ e) (ne_of_none e hwl2)
      have gf5 := s5 _ _ gf4 nwf.symm
      have hZ5 : ∀ y ∈ Zi ++ [z], Wt (upd H4 wl (.lst (((Zi ++ [z]).map fun z => V.ref z.2.1).dropLast))) wl fl y := fun y hy => (hZ4 y hy).m (fun b o e nb _ => s5 b o e nb) ⟨_, gw4⟩ ⟨_, gf4⟩
      generalize upd H4 wl (.lst (((Zi ++ [z]).map fun z => V.ref z.2.1).dropLast)) = H5 at s5 gw5 s25 gf5 hZ5 ⊢
      have wz5 := hZ5 z (by simp)
      refine ⟨z.2.1, _, rfl, SqT.of wz5.tu, rfl, _, _, rfl, _, _, rfl, rfl, ?_⟩
      have nfl : ∀ {b u}, H5 b = some u → (∀ xs, u ≠ .lst xs) → b ≠ fl := fun {b u} e n q => by
        rw [q, gf5] at e
        exact n _ (Option.some.inj e).symm
      refine ⟨_, rfl, .inl ⟨rfl, _, SqL.of gf5⟩, _, rfl, z.2.2, z.1.1, rfl, .inl (SqL.of wz5.li), (NmL.s hnm.1 hnm.2).sum, fl, _, _, rfl, rfl, gf5, ?_, ?_⟩
      · rw [List.length_map, sizeLine_eq]
        omega
      have s6 : ∀ b u, H5 b = some u → b ≠ fl → upd H5 fl (.lst ((Dn.map fun e => V.str (pathOf e.1)) ++ [V.str (pathOf z.1.1)])) b = some u := fun b u e nb => by rw [upd_ne nb]; exact e
      have gf6 : upd H5 fl (.lst ((Dn.map fun e => V.str (pathOf e.1)) ++ [V.str (pathOf z.1.1)])) fl = some (.lst ((Dn ++ [z.1]).map fun e => V.str (pathOf e.1))) := by
        rw [upd_same, List.map_append]
        rfl
      have s26 : Same H2 (upd H5 fl (.lst ((Dn.map fun e => V.str (pathOf e.1)) ++ [V.str (pathOf z.1.1)]))) := fun b u e => s6 b u (s25 _ _ e) (ne_of_none e hfl2)
      have gw6 := s6 _ _ gw5 nwf
      have hZ6 : ∀ y ∈ Zi ++ [z], Wt (upd H5 fl (.lst ((Dn.map fun e => V.str (pathOf e.1)) ++ [V.str (pathOf z.1.1)]))) wl fl y := fun y hy => (hZ5 y hy).m (fun b o e _ nb => s6 b o e nb) ⟨_, gw5⟩ ⟨_, gf5⟩
      generalize upd H5 fl (.lst ((Dn.map fun e => V.str (pathOf e.1)) ++ [V.str (pathOf z.1.1)])) = H6 at s6 gf6 s26 gw6 hZ6 ⊢
      clear s5 gw5 gf5 hZ5 wz5 nfl s25 wz gw4 gf4 hZ4
      have s06 := s02.trans s26
      have ht6 := ht.m s06
      have ob6 := s06 _ _ ob
      refine ⟨_, rfl, x, _, _, rfl, ob6, tr_no (by decide +kernel), _, rfl, x, d, L, nx, z.1.2, a, o, rfl, ht6, hn, _, rfl, ?_⟩
      have sp := PO.split hgz hn
      cases o with
      | file ws =>
        refine iteF ⟨m - 1, ?_, Zi, Dn ++ [z.1], _, _, _, _, rfl, s26, gw6, gf6, fun y hy => hZ6 y (List.mem_append_left _ hy), fun y hy => hgo y (List.mem_append_left _ hy), ?_, ?_⟩
        · omega
        · have sp' : (((([z] : List ((List Str × Int) × Addr × Addr))).map (·.1)).flatMap fun c : List Str × Int => A.filter fun e => preB c.1 e.1).Perm (z.1 :: []) := by
            rw [List.map_singleton, List.flatMap_singleton]
            exact sp
          have q := perm_step (D := Dn) (F := (Zi.map (·.1)).flatMap fun c : List Str × Int => A.filter fun e => preB c.1 e.1) sp'
          rw [List.append_nil] at q
          exact pm.trans q
        · rw [List.length_append, List.length_singleton]
          omega
      | dir es =>
        refine iteT ?_
        have ha6 := ht6.at hn
        refine ⟨_, rfl, .inl ⟨rfl, _, SqL.of gw6⟩, a, _, ha6, trivial, fun od => ?_⟩
        have nxa : x ≠ a := fun e => by
          rw [e, ha6] at ob6
          cases ob6
        have nda : d ≠ a := fun e => ht6.df _ (ndAt_mem hn) e.symm
        refine ⟨_, rfl, x, A_Tree, dx, _, _, rfl, by rw [upd_ne nxa]; exact ob6, T_Tree.cl, T_Tree.no _ (by simp), tr_1, _, rfl, d, _, rfl, dgN (by rw [upd_ne nda]; exact ht6.inn) hn, a, od, _, rfl, upd_same, fun D hD => ?_⟩
        have ndw : D ≠ wl := fun e => by
          rw [e, upd_ne (fun q => by rw [q, ha6] at gw6; cases gw6), gw6] at hD
          cases hD
        have ndf : D ≠ fl := fun e => by
          rw [e, upd_ne (fun q => by rw [q, ha6] at gf6; cases gf6), gf6] at hD
          cases hD
        have wz6 := hZ6 z (by simp)
        refine lc_it (walk_items (d := a) (o := od) (kvs := es.map fun e => ((Sum.inr e.1 : Key), V.int e.2))) (fun j H7 => ∃ Zk : List ((List Str × Int) × Addr × Addr), Zk.map (·.1) = (es.take j).map (fun e => (z.1.1 ++ [e.1], e.2)) ∧
          H7 D = some (.lst (Zk.map fun z => V.ref z.2.1)) ∧ (∀ y ∈ Zk, Wt H7 wl fl y ∧ y.2.2 ≠ D) ∧ Same (upd H6 a (.frz od (ndO (.dir es)))) H7) ⟨[], rfl, upd_same, (fun _ h => nomatch h), Same.new hD⟩ (fun _ _ _ e => e.choose_spec.2.2.2 _ _ upd_same) ?_ ?_
        · rintro j y H7 H8 hj ⟨Zk, e1, e2, e3, s7⟩ ⟨T, kx, vx, rfl, hT, rfl, h1, h2⟩
          dsimp only at h1 h2
          rw [List.getElem?_map, Option.map_map] at h1 h2
          obtain ⟨e, he, ek⟩ := Option.map_eq_some_iff.mp h1
          obtain ⟨e', he', ev⟩ := Option.map_eq_some_iff.mp h2
          rw [he] at he'
          cases he'
          obtain rfl : V.str e.1 = kx := ek
          obtain rfl : V.int e.2 = vx := ev
          refine ⟨T, _, rfl, SqT.of upd_same, rfl, _, _, rfl, _, _, rfl, rfl, ?_⟩
          refine ⟨rfl, ?_⟩
          have aw : ∃ xs, H7 wl = some (.lst xs) := ⟨_, s7 _ _ (by rw [upd_ne (fun q => by rw [q, ha6] at gw6; cases gw6)]; exact gw6)⟩
          have af : ∃ xs, H7 fl = some (.lst xs) := ⟨_, s7 _ _ (by rw [upd_ne (fun q => by rw [q, ha6] at gf6; cases gf6)]; exact gf6)⟩
          have li7 : H7 z.2.2 = some (.lst (z.1.1.map V.str)) := s7 _ _ (by rw [upd_ne (fun q => by have := wz6.li; rw [q, ha6] at this; cases this)]; exact wz6.li)
          have s8 : Same H7 (upd H7 T (.tup [.str e.1, .int e.2])) := Same.new hT
          generalize upd H7 T (.tup [.str e.1, .int e.2]) = H8 at s8 ⊢
          refine ⟨_, rfl, _, rfl, (by show 1 ≤ sizeLine; decide), fun q hq => ⟨z.2.2, q, _, _, rfl, rfl, (Same.new hq) _ _ (s8 _ _ li7), upd_same, ?_, fun r hr => ?_⟩⟩
          · rw [List.length_map, sizeLine_eq]
            have := hnm.1
            show _ + 1 ≤ _
            omega
          refine ⟨_, rfl, (by show 2 ≤ sizeLine; decide), fun u hu => ?_⟩
          have s89 : Same H8 (upd (upd (upd H8 q (HO.lst [V.str e.fst])) r (HO.lst (List.map V.str z.fst.fst ++ [V.str e.fst]))) u (HO.tup [V.ref r, V.int e.snd])) := ((Same.new hq).trans (Same.new hr)).trans (Same.new hu)
          have gr := (Same.new (o := HO.tup [V.ref r, V.int e.snd]) hu) _ _ (upd_same (H := upd H8 q (HO.lst [V.str e.fst])) (a := r) (o := HO.lst (List.map V.str z.fst.fst ++ [V.str e.fst])))
          have gu : (upd (upd (upd H8 q (HO.lst [V.str e.fst])) r (HO.lst (List.map V.str z.fst.fst ++ [V.str e.fst]))) u (HO.tup [V.ref r, V.int e.snd])) u = some (.tup [.ref r, .int e.2]) := upd_same
          generalize (upd (upd (upd H8 q (HO.lst [V.str e.fst])) r (HO.lst (List.map V.str z.fst.fst ++ [V.str e.fst]))) u (HO.tup [V.ref r, V.int e.snd])) = H9 at s89 gr gu ⊢
          have s79 := s8.trans s89
          have fresh : ∀ {b w}, H7 b = some w → r ≠ b := fun {b w} hb q2 => by
            rw [q2, (Same.new hq) _ _ (s8 _ _ hb)] at hr
            cases hr
          have nuD : u ≠ D := fun q2 => by
            rw [q2, s79 _ _ e2] at gu
            cases gu
          refine ⟨_, s79 _ _ e2, ?_, Zk ++ [((z.1.1 ++ [e.1], e.2), u, r)], ?_, ?_, ?_, ?_⟩
          · have lk := congrArg List.length e1
            rw [List.length_map, List.length_map, List.length_take] at lk
            have e20 : es.length ≤ 20 := (ht.wf.sz _ (ndAt_mem hn)).1
            rw [List.length_map, sizeLine_eq]
            omega
          · rw [List.map_append, e1, take_snoc he, List.map_append]
            rfl
          · rw [upd_same, List.map_append]
            rfl
          · intro y hy
            rcases List.mem_append.mp hy with hy | hy
            · obtain ⟨w1, w2⟩ := e3 y hy
              refine ⟨⟨?_, ?_, w1.nw, w1.nf⟩, w2⟩
              · rw [upd_ne (fun q2 => by have := w1.tu; rw [q2, e2] at this; cases this)]
                exact s79 _ _ w1.tu
              · rw [upd_ne w2]
                exact s79 _ _ w1.li
            · rw [List.mem_singleton.mp hy]
              refine ⟨⟨?_, ?_, fresh aw.choose_spec, fresh af.choose_spec⟩, fresh e2⟩
              · rw [upd_ne nuD]
                exact gu
              · rw [upd_ne (fresh e2)]
                rw [List.map_append]
                exact gr
          · refine fun b w hb => ?_
            rw [upd_ne (ne_of_none hb hD)]
            exact s79 _ _ (s7 _ _ hb)
        · rintro H7 ⟨Zk, e1, e2, e3, s7⟩
          refine ⟨s7 _ _ upd_same, ?_⟩
          have s67 := lock_same ha6 s7
          have nDa : D ≠ a := fun e => by
            rw [e, upd_same] at hD
            cases hD
          rw [List.length_map, List.take_length] at e1
          have gD : upd H7 a (ndO (.dir es)) D = some (.lst (Zk.map fun z => V.ref z.2.1)) := by rw [upd_ne nDa]; exact e2
          have gw7 := s67 _ _ gw6
          have gf7 := s67 _ _ gf6
          have hw7 : ∀ y ∈ Zk, Wt (upd H7 a (ndO (.dir es))) wl fl y := fun y hy => by
            have hy' := (e3 y hy).1
            refine ⟨?_, ?_, hy'.nw, hy'.nf⟩
            · rw [upd_ne (fun q => by have := hy'.tu; rw [q, s7 _ _ upd_same] at this; cases this)]
              exact hy'.tu
            · rw [upd_ne (fun q => by have := hy'.li; rw [q, s7 _ _ upd_same] at this; cases this)]
              exact hy'.li
          have hZ7 : ∀ y ∈ Zi ++ [z], Wt (upd H7 a (ndO (.dir es))) wl fl y := fun y hy => (hZ6 y hy).m (fun b o e _ _ => s67 _ _ e) ⟨_, gw6⟩ ⟨_, gf6⟩
          generalize upd H7 a (ndO (.dir es)) = H8 at s67 gD gw7 gf7 hw7 hZ7 ⊢
          have lk : Zk.length = es.length := by
            have := congrArg List.length e1
            rwa [List.length_map, List.length_map] at this
          have e20 : es.length ≤ 20 := (ht.wf.sz _ (ndAt_mem hn)).1
          refine ⟨wl, D, _, _, rfl, rfl, gw7, gD, ?_, m - 1, ?_, Zi ++ Zk, Dn ++ [z.1], _, _, _, _, rfl, fun b u e => ?_, ?_, ?_, ?_, ?_, ?_, ?_⟩
          · rw [List.length_map, List.length_map, sizeLine_eq]
            omega
          · omega
          · rw [upd_ne (ne_of_none e hwl2)]
            exact s67 _ _ (s26 _ _ e)
          · rw [upd_same, List.map_append]
          · rw [upd_ne nwf.symm]
            exact gf7
          · intro y hy
            refine Wt.m (H := H8) ?_ (fun b o e nb _ => by rw [upd_ne nb]; exact e) ⟨_, gw7⟩ ⟨_, gf7⟩
            rcases List.mem_append.mp hy with hy | hy
            · exact hZ7 y (List.mem_append_left _ hy)
            · exact hw7 y hy
          · intro y hy
            rcases List.mem_append.mp hy with hy | hy
            · exact hgo y (List.mem_append_left _ hy)
            · have : y.1 ∈ Zk.map (·.1) := List.mem_map.mpr ⟨y, hy, rfl⟩
              rw [e1] at this
              obtain ⟨e, he, eq⟩ := List.mem_map.mp this
              rw [← eq]
              exact goW_snoc hgz hn ((entAt_iff (PO.ek _ _ _ hn)).mpr he)
          · refine pm.trans ?_
            rw [List.map_append, List.flatMap_append, e1]
            refine perm_step ?_
            rw [List.map_singleton, List.flatMap_singleton]
            exact sp
          · rw [List.length_append, List.length_singleton]
            omega
/-! the law's model of a tree: names with numbers, a file's words by its number, the next number -/
abbrev MdM := List (List Str × Int)
abbrev MdF := List (Int × Addr × List Str)
def atK (M : MdM) : List (List Key × V) := M.map fun e => (e.1.map Sum.inr, .int e.2)
def wdK (F : MdF) : List (Key × V) := F.map fun f => (.inl f.1, .ref f.2.1)
def lookM (M : MdM) (ns : List Str) : Option Int := (M.find? fun e => decide (e.1 = ns)).map (·.2)
def wdAt (F : MdF) (n : Int) : Option (Addr × List Str) := (F.find? fun f => decide (f.1 = n)).map (·.2)
theorem inr_inj : ∀ {xs ys : List Str}, xs.map (Sum.inr (α := Int)) = ys.map Sum.inr → xs = ys
  | [], [], _ => rfl
  | [], _ :: _, h => nomatch h
  | _ :: _, [], h => nomatch h
  | x :: xs, y :: ys, h => by
    rw [List.map_cons, List.map_cons] at h
    obtain ⟨h1, h2⟩ := List.cons.inj h
    rw [Sum.inr.inj h1, inr_inj h2]
theorem atK_val (ns : List Str) : ∀ M : MdM, valV (atK M) (ns.map Sum.inr) = (lookM M ns).map V.int
  | [] => rfl
  | p :: r => by
    unfold atK lookM
    rw [List.map_cons]
    by_cases e : p.1 = ns
    · rw [valV_pos (p := (p.1.map Sum.inr, V.int p.2)) (by rw [e]), List.find?_cons_of_pos (by exact decide_eq_true e)]
      rfl
    · rw [valV_neg (p := (p.1.map Sum.inr, V.int p.2)) (by intro z; exact e (inr_inj z)), List.find?_cons_of_neg (by simp [e])]
      exact atK_val ns r
theorem wdK_val (n : Int) : ∀ F : MdF, valV (wdK F) (.inl n) = (wdAt F n).map fun q => .ref q.1
  | [] => rfl
  | p :: r => by
    unfold wdK wdAt
    rw [List.map_cons]
    by_cases e : p.1 = n
    · rw [valV_pos (p := (Sum.inl p.1, V.ref p.2.1)) (by rw [e]), List.find?_cons_of_pos (by exact decide_eq_true e)]
      rfl
    · rw [valV_neg (p := (Sum.inl p.1, V.ref p.2.1)) (by intro z; exact e (Sum.inl.inj z)), List.find?_cons_of_neg (by simp [e])]
      exact wdK_val n r
theorem lookM_mem {ns : List Str} {n : Int} {M : MdM} (h : lookM M ns = some n) : (ns, n) ∈ M := by
  unfold lookM at h
  obtain ⟨p, hp, e⟩ := Option.map_eq_some_iff.mp h
  have m := List.mem_of_find?_eq_some hp
  have c : p.1 = ns := of_decide_eq_true (List.find?_some (p := fun p : List Str × Int => decide (p.1 = ns)) hp)
  obtain ⟨p1, p2⟩ := p
  cases c
  cases e
  exact m
theorem lookM_iff {M : MdM} (nd : (M.map (·.1)).Nodup) {ns : List Str} {n : Int} : lookM M ns = some n ↔ (ns, n) ∈ M := by
  refine ⟨lookM_mem, fun h => ?_⟩
  cases e : lookM M ns with
  | none =>
    unfold lookM at e
    rw [Option.map_eq_none_iff] at e
    have := List.find?_eq_none.mp e _ h
    simp at this
  | some k =>
    have := lookM_mem e
    have q : (ns, k) = (ns, n) := nd_inj nd this h rfl
    rw [(Prod.mk.inj q).2]
theorem kV_inr (ns : List Str) : (ns.map Sum.inr).map kV = ns.map V.str := by
  rw [List.map_map]
  rfl
structure Md where
  m : Addr
  a : Addr
  w : Addr
  M : MdM
  F : MdF
  nx : Int
def mdK (D : Md) : List (Key × V) := [(.inr "at", .ref D.a), (.inr "words", .ref D.w), (.inr "next", .int D.nx)]
structure MdAt (H : Hp) (D : Md) : Prop where
  hm : H D.m = some (.dK (mdK D))
  ha : H D.a = some (.dT (atK D.M))
  hw : H D.w = some (.dK (wdK D.F))
  hf : ∀ f ∈ D.F, H f.2.1 = some (.lst (f.2.2.map V.str))
  ne : D.m ≠ D.w
  fs : (D.F.map (·.2.1)).Nodup
def MdFoot (D : Md) (b : Addr) : Prop := b = D.m ∨ b = D.a ∨ b = D.w ∨ ∃ f ∈ D.F, f.2.1 = b
section
variable {H H' : Hp} {D : Md}
theorem MdAt.off (h : MdAt H D) (s : ∀ b o, H b = some o → MdFoot D b → H' b = some o) : MdAt H' D :=
  ⟨s _ _ h.hm (.inl rfl), s _ _ h.ha (.inr (.inl rfl)), s _ _ h.hw (.inr (.inr (.inl rfl))), fun f hf => s _ _ (h.hf f hf) (.inr (.inr (.inr ⟨f, hf, rfl⟩))), h.ne, h.fs⟩
theorem MdAt.sm (h : MdAt H D) (s : Same H H') : MdAt H' D := h.off fun b o e _ => s b o e
theorem MdAt.live (h : MdAt H D) {b : Addr} (f : MdFoot D b) : ∃ o, H b = some o := by
  rcases f with rfl | rfl | rfl | ⟨f, hf, rfl⟩
  · exact ⟨_, h.hm⟩
  · exact ⟨_, h.ha⟩
  · exact ⟨_, h.hw⟩
  · exact ⟨_, h.hf f hf⟩
theorem mdg (e : H D.m = some (.dK (mdK D))) (k : Str) : DGet H D.m (.str k) (valV (mdK D) (.inr k)) := DGet.k (k := .inr k) e
theorem md_a : valV (mdK D) (.inr "at") = some (.ref D.a) := valV_pos rfl
theorem md_w : valV (mdK D) (.inr "words") = some (.ref D.w) := (valV_neg (show ¬ (Sum.inr "at" : Key) = .inr "words" by decide +kernel)).trans (valV_pos rfl)
theorem md_n : valV (mdK D) (.inr "next") = some (.int D.nx) := (valV_neg (show ¬ (Sum.inr "at" : Key) = .inr "next" by decide +kernel)).trans ((valV_neg (show ¬ (Sum.inr "words" : Key) = .inr "next" by decide +kernel)).trans (valV_pos rfl))
theorem MdAt.gA (h : MdAt H D) : DGet H D.m (.str "at") (some (.ref D.a)) := by rw [← md_a]; exact mdg h.hm _
theorem MdAt.gW (h : MdAt H D) : DGet H D.m (.str "words") (some (.ref D.w)) := by rw [← md_w]; exact mdg h.hm _
theorem MdAt.gN (h : MdAt H D) : DGet H D.m (.str "next") (some (.int D.nx)) := by rw [← md_n]; exact mdg h.hm _
theorem dgAt {a t : Addr} {M : MdM} {ns : List Str} (ha : H a = some (.dT (atK M))) (ht : H t = some (.tup (ns.map V.str))) : DGet H a (.ref t) ((lookM M ns).map V.int) := by
  rw [← atK_val]
  exact DGet.t ha (by rw [kV_inr]; exact ht)
theorem dgWd {a : Addr} {F : MdF} (hw : H a = some (.dK (wdK F))) (n : Int) : DGet H a (.int n) ((wdAt F n).map fun q => .ref q.1) := by
  rw [← wdK_val]
  exact DGet.k (k := .inl n) hw
end
def flN : Option (Addr × Nd) → Option (List Str)
  | some (_, .file ws) => some ws
  | _ => none
/-- the model tells of the tree L -/
structure Rl (L : TLs) (M : MdM) (F : MdF) : Prop where
  hd : ∃ r, M = ([], 1) :: r
  nd : (M.map (·.1)).Nodup
  go : ∀ ns n, goW L 1 ns = .inr n ↔ (ns, n) ∈ M
  nm : ∀ e ∈ M, e.1.length ≤ 8 ∧ ∀ z ∈ e.1, NmL z
  ek : ∀ n a es, ndAt L n = some (a, .dir es) → (es.map (·.1)).Nodup
  du : ∀ n a es, ndAt L n = some (a, .dir es) → ∀ xs ys, (xs, n) ∈ M → (ys, n) ∈ M → xs = ys
  fl : ∀ n, (wdAt F n).map (·.2) = flN (ndAt L n)
  ks : ∀ n, n ∈ L.map (·.1) ↔ ∃ ns, (ns, n) ∈ M
  lk : ∀ n, lkT L n = ((M.filter fun e => decide (e.2 = n)).length : Nat)
  fk : (F.map (·.1)).Nodup
  sz : M.length ≤ 4000
  fz : F.length ≤ M.length
theorem Rl.pths {L : TLs} {M : MdM} {F : MdF} (h : Rl L M F) : PthsOk L M := ⟨h.go, h.nm, h.nd, h.ek, h.sz⟩
theorem Rl.look {L : TLs} {M : MdM} {F : MdF} (h : Rl L M F) {ns : List Str} {n : Int} (g : goW L 1 ns = .inr n) : lookM M ns = some n := (lookM_iff h.nd).mpr ((h.go _ _).mp g)
theorem Rl.look_no {L : TLs} {M : MdM} {F : MdF} (h : Rl L M F) {ns : List Str} {p : Bool × Nat} (g : goW L 1 ns = .inl p) : lookM M ns = none := by
  cases e : lookM M ns with
  | none => rfl
  | some n =>
    rw [(h.go _ _).mpr (lookM_mem e)] at g
    cases g
/-- a directory's entries, as the model tells them -/
def isKid (ns : List Str) (xs : List Str) : Bool := !decide (xs = []) && decide (xs.dropLast = ns)
def kids (M : MdM) (ns : List Str) : List (Str × Int) := (M.filter fun e => isKid ns e.1).map fun e => (e.1.getLast?.getD Str.empty, e.2)
theorem isKid_iff {ns xs : List Str} : isKid ns xs = true ↔ ∃ z, xs = ns ++ [z] := by
  unfold isKid
  rw [Bool.and_eq_true]
  constructor
  · rintro ⟨h1, h2⟩
    have h3 : xs ≠ [] := fun e => by rw [e] at h1; cases h1
    refine ⟨xs.getLast h3, ?_⟩
    rw [← of_decide_eq_true h2, List.dropLast_concat_getLast]
  · rintro ⟨z, rfl⟩
    exact ⟨by simp, by simp⟩
theorem Rl.kids {L : TLs} {M : MdM} {F : MdF} (h : Rl L M F) {ns : List Str} {n : Int} {a : Addr} {es : List (Str × Int)} (g : goW L 1 ns = .inr n) (hn : ndAt L n = some (a, .dir es)) : es.Perm (kids M ns) := by
  have e1 : (es.map fun e => (ns ++ [e.1], e.2)).Perm (M.filter fun e => isKid ns e.1) := by
    refine (List.perm_ext_iff_of_nodup ?_ (h.pths.nda.filter _)).mpr fun e => ?_
    · refine List.pairwise_map.mpr ((List.pairwise_map.mp (h.ek n a es hn)).imp fun {x y} ne e => ne ?_)
      have := List.append_cancel_left (Prod.mk.inj e).1
      simpa using this
    · obtain ⟨ys, m⟩ := e
      rw [List.mem_filter, List.mem_map]
      constructor
      · rintro ⟨e, he, q⟩
        cases q
        exact ⟨(h.go _ _).mp (goW_snoc g hn ((entAt_iff (h.ek _ _ _ hn)).mpr he)), isKid_iff.mpr ⟨_, rfl⟩⟩
      · rintro ⟨h1, h2⟩
        obtain ⟨z, rfl⟩ := isKid_iff.mp h2
        obtain ⟨p, a', es', q1, q2, q3⟩ := goW_snoc_iff.mp ((h.go _ _).mpr h1)
        rw [g] at q1
        cases q1
        rw [hn] at q2
        cases q2
        exact ⟨(z, m), entAt_mem q3, rfl⟩
  have e2 := e1.map fun e => (e.1.getLast?.getD Str.empty, e.2)
  rw [List.map_map] at e2
  have e3 : (es.map ((fun e : List Str × Int => (e.1.getLast?.getD Str.empty, e.2)) ∘ fun e => (ns ++ [e.1], e.2))) = es := by
    refine (List.map_congr_left fun e _ => ?_).trans (List.map_id es)
    simp
  rw [e3] at e2
  exact e2
theorem Rl.kidn {L : TLs} {M : MdM} {F : MdF} (h : Rl L M F) {ns : List Str} {n : Int} {a : Addr} {es : List (Str × Int)} (g : goW L 1 ns = .inr n) (hn : ndAt L n = some (a, .dir es)) : (M.filter fun e => isKid ns e.1).length = es.length := by
  have := (h.kids g hn).length_eq
  unfold Cl.kids at this
  rw [List.length_map] at this
  exact this.symm
/-! a node more -/
theorem Rl.lt {L : TLs} {M : MdM} {F : MdF} {nx : Int} (h : Rl L M F) (w : TrOk L nx) {e : List Str × Int} (he : e ∈ M) : e.2 < nx := by
  obtain ⟨p, hp, q⟩ := List.mem_map.mp ((h.ks e.2).mpr ⟨e.1, he⟩)
  rw [← q]
  exact w.lt p hp
theorem entAt_none {es : List (Str × Int)} {z : Str} (h : entAt es z = none) : z ∉ es.map (·.1) := fun m => by
  obtain ⟨e, he, rfl⟩ := List.mem_map.mp m
  unfold entAt at h
  rw [Option.map_eq_none_iff] at h
  have := List.find?_eq_none.mp h _ he
  simp at this
theorem Rl.put {L : TLs} {M : MdM} {F F' : MdF} {nx n : Int} {ns : List Str} {z : Str} {a b : Addr} {es : List (Str × Int)} {o : Nd} (h : Rl L M F) (w : TrOk L nx) (hg : goW L 1 ns = .inr n) (hn : ndAt L n = some (a, .dir es)) (he : entAt es z = none)
    (ho : o = .dir [] ∨ o = .file []) (hz : NmL z) (hl : ns.length < 8) (hs : M.length < 4000) (hF : ∀ m, (wdAt F' m).map (·.2) = if m = nx then flN (some (b, o)) else (wdAt F m).map (·.2)) (fk : (F'.map (·.1)).Nodup) (fz : F'.length ≤ F.length + 1) :
    Rl (growL L n es z nx b o) (M ++ [(ns ++ [z], nx)]) F' := by
  have at_ := growL_at (b := b) (o := o) (z := z) hn w.lt
  have hnx : n < nx := w.lt _ (ndAt_mem hn)
  have n1 : ndAt (growL L n es z nx b o) n = some (a, .dir (es ++ [(z, nx)])) := by rw [at_, if_neg (by omega), if_pos rfl]
  have hnm := h.nm _ ((h.go _ _).mp hg)
  have hk : ∀ t, lkN t o = 0 := fun t => by rcases ho with rfl | rfl <;> rfl
  have gz : goW (growL L n es z nx b o) 1 (ns ++ [z]) = .inr nx := goW_snoc (goW_growL w hn hg) n1 (by rw [entAt_app, he]; simp [entAt])
  refine ⟨?_, ?_, fun xs t => ⟨fun g => ?_, fun m => ?_⟩, fun e m => ?_, fun m a' es' e => ?_, fun m a' es' e xs ys hx hy => ?_, fun m => ?_, fun m => ?_, fun t => ?_, fk, ?_, ?_⟩
  · obtain ⟨r, e⟩ := h.hd
    exact ⟨r ++ [(ns ++ [z], nx)], by rw [e]; rfl⟩
  · rw [List.map_append]
    refine List.nodup_append.mpr ⟨h.nd, by simp, fun x hx y hy => ?_⟩
    obtain ⟨e, hm, rfl⟩ := List.mem_map.mp hx
    rw [List.map_singleton, List.mem_singleton] at hy
    rw [hy]
    intro q
    have g : goW L 1 (ns ++ [z]) = .inr e.2 := (h.go _ _).mpr (by rw [← show e.1 = ns ++ [z] from q]; exact hm)
    obtain ⟨p, a', es', q1, q2, q3⟩ := goW_snoc_iff.mp g
    rw [hg] at q1
    cases q1
    rw [hn] at q2
    cases q2
    rw [he] at q3
    cases q3
  · rcases List.eq_nil_or_concat xs with rfl | ⟨ys, y, rfl⟩
    · exact List.mem_append_left _ ((h.go _ _).mp g)
    · rw [List.concat_eq_append] at g ⊢
      have key : ∀ (ys : List Str) (p : Int), goW (growL L n es z nx b o) 1 ys = .inr p → (ys, p) ∈ M ++ [(ns ++ [z], nx)] := by
        intro ys
        generalize hlen : ys.length = k
        induction k generalizing ys with
        | zero =>
          intro p g
          rw [List.eq_nil_of_length_eq_zero hlen] at g ⊢
          exact List.mem_append_left _ ((h.go _ _).mp g)
        | succ k ih =>
          intro p g
          obtain ⟨xs, y, rfl⟩ : ∃ xs y, ys = xs ++ [y] := by
            rcases List.eq_nil_or_concat ys with rfl | ⟨xs, y, rfl⟩
            · cases hlen
            · exact ⟨xs, y, List.concat_eq_append⟩
          obtain ⟨q, a', es', g1, g2, g3⟩ := goW_snoc_iff.mp g
          have m := ih xs (by simpa using hlen) q g1
          rw [at_] at g2
          rcases List.mem_append.mp m with m | m
          · have lq : q < nx := h.lt w m
            rw [if_neg (by omega)] at g2
            by_cases c : q = n
            · rw [if_pos c] at g2
              cases g2
              rw [entAt_app] at g3
              cases e : entAt es y with
              | some u =>
                rw [e] at g3
                cases g3
                exact List.mem_append_left _ ((h.go _ _).mp (goW_snoc ((h.go _ _).mpr m) (by rw [c]; exact hn) e))
              | none =>
                rw [e] at g3
                have e2 := entAt_mem (es := [(z, nx)]) g3
                rw [List.mem_singleton] at e2
                cases e2
                have : xs = ns := h.du n a es hn xs ns (by rw [← c]; exact m) ((h.go _ _).mp hg)
                rw [this]
                simp
            · rw [if_neg c] at g2
              exact List.mem_append_left _ ((h.go _ _).mp (goW_snoc ((h.go _ _).mpr m) g2 g3))
          · rw [List.mem_singleton] at m
            cases m
            rw [if_pos rfl] at g2
            rcases ho with rfl | rfl
            · cases g2
              cases g3
            · cases g2
      exact key _ _ g
  · rcases List.mem_append.mp m with m | m
    · exact goW_growL w hn ((h.go _ _).mpr m)
    · rw [List.mem_singleton] at m
      cases m
      exact gz
  · rcases List.mem_append.mp m with m | m
    · exact h.nm e m
    · rw [List.mem_singleton.mp m]
      refine ⟨by rw [List.length_append]; exact hl, fun y hy => ?_⟩
      rcases List.mem_append.mp hy with hy | hy
      · exact hnm.2 y hy
      · rw [List.mem_singleton.mp hy]
        exact hz
  · rw [at_] at e
    by_cases c : m = nx
    · rw [if_pos c] at e
      rcases ho with rfl | rfl
      · cases e
        exact .nil
      · cases e
    · rw [if_neg c] at e
      by_cases c2 : m = n
      · rw [if_pos c2] at e
        cases e
        rw [List.map_append]
        refine List.nodup_append.mpr ⟨h.ek n a es hn, by simp, fun x hx y hy => ?_⟩
        rw [List.map_singleton, List.mem_singleton] at hy
        rw [hy]
        exact fun q => entAt_none he ((show x = z from q) ▸ hx)
      · rw [if_neg c2] at e
        exact h.ek m a' es' e
  · by_cases c : m = nx
    · have one : ∀ {xs : List Str}, (xs, m) ∈ M ++ [(ns ++ [z], nx)] → xs = ns ++ [z] := fun {xs} hx => by
        rcases List.mem_append.mp hx with hx | hx
        · have := h.lt w hx
          rw [c] at this
          exact absurd this (by show ¬ nx < nx; omega)
        · rw [List.mem_singleton] at hx
          exact (Prod.mk.inj hx).1
      rw [one hx, one hy]
    · have inM : ∀ {xs : List Str}, (xs, m) ∈ M ++ [(ns ++ [z], nx)] → (xs, m) ∈ M := fun {xs} hx => by
        rcases List.mem_append.mp hx with hx | hx
        · exact hx
        · rw [List.mem_singleton] at hx
          exact absurd (Prod.mk.inj hx).2 c
      rw [at_, if_neg c] at e
      by_cases c2 : m = n
      · rw [c2] at hx hy inM
        exact h.du n a es hn xs ys (inM hx) (inM hy)
      · rw [if_neg c2] at e
        exact h.du m a' es' e xs ys (inM hx) (inM hy)
  · rw [hF, at_]
    by_cases c : m = nx
    · rw [if_pos c, if_pos c]
    · rw [if_neg c, if_neg c, h.fl]
      by_cases c2 : m = n
      · rw [if_pos c2, c2, hn]
        rfl
      · rw [if_neg c2]
  · have e1 : (growL L n es z nx b o).map (·.1) = L.map (·.1) ++ [nx] := by
      unfold growL
      rw [List.map_append]
      refine congrArg (· ++ [nx]) ?_
      unfold setNd
      rw [List.map_map]
      refine List.map_congr_left fun p _ => ?_
      by_cases c : p.1 = n
      · simp [c]
      · simp [c]
    rw [e1, List.mem_append, List.mem_singleton, h.ks]
    constructor
    · rintro (⟨xs, hx⟩ | rfl)
      · exact ⟨xs, List.mem_append_left _ hx⟩
      · exact ⟨ns ++ [z], by simp⟩
    · rintro ⟨xs, hx⟩
      rcases List.mem_append.mp hx with hx | hx
      · exact .inl ⟨xs, hx⟩
      · rw [List.mem_singleton] at hx
        exact .inr (Prod.mk.inj hx).2
  · have e1 := h.lk t
    unfold lkT at e1 ⊢
    rw [lkL_grow w.ks hn, hk, List.filter_append, List.length_append]
    by_cases c : nx = t
    · rw [if_pos c, List.filter_cons_of_pos (by simp [c])]
      simp only [List.filter_nil, List.length_cons, List.length_nil]
      omega
    · rw [if_neg c, List.filter_cons_of_neg (by simp [c])]
      simp only [List.filter_nil, List.length_nil]
      omega
  · rw [List.length_append]
    exact hs
  · rw [List.length_append, List.length_singleton]
    have := h.fz
    omega
/-! names as tuples -/
def Nm10 (ns : List Str) : Prop := ns.length ≤ 10 ∧ ∀ z ∈ ns, NmL z
theorem Nm10.take {ns : List Str} (h : Nm10 ns) (k : Nat) : Nm10 (ns.take k) := ⟨Nat.le_trans (by rw [List.length_take]; omega) h.1, fun z hz => h.2 z (List.mem_of_mem_take hz)⟩
theorem Nm10.dl {ns : List Str} (h : Nm10 ns) : Nm10 ns.dropLast := ⟨Nat.le_trans (by rw [List.length_dropLast]; omega) h.1, fun z hz => h.2 z (List.dropLast_subset _ hz)⟩
theorem Nm10.sum {ns : List Str} (h : Nm10 ns) : (ns.map (·.length)).sum + ns.length ≤ 10000 := by
  have := sum_nm fun z hz => (h.2 z hz).2.1
  have := h.1
  omega
theorem slA_take {K : PySem.W.Frag} {H : Hp} {a : Addr} {ns : List Str} {i : Nat} {k : Int} {Q : VK} (ht : H a = some (.tup (ns.map V.str))) (hk : k = (i : Int)) (hi : i ≤ ns.length) (q : ∀ p H', Same H H' → H' p = some (.tup ((ns.take i).map V.str)) → Q (.ref p) H') :
    rSlA K (.ref a) none (some k) H Q := by
  refine ⟨a, _, rfl, SqT.of ht, fun w => q a H (Same.refl H) ?_, fun _ p hp => q p _ (Same.new hp) (by rw [upd_same, cut_tk hk hi])⟩
  have w2 := w.2
  subst hk
  rw [HT.sIx_nat, List.length_map] at w2
  rw [List.take_of_length_le (by omega)]
  exact ht
theorem slA_dl {K : PySem.W.Frag} {H : Hp} {a : Addr} {ns : List Str} {Q : VK} (ht : H a = some (.tup (ns.map V.str))) (q : ∀ p H', Same H H' → H' p = some (.tup (ns.dropLast.map V.str)) → Q (.ref p) H') :
    rSlA K (.ref a) none (some (-1)) H Q := by
  refine ⟨a, _, rfl, SqT.of ht, fun w => q a H (Same.refl H) ?_, fun _ p hp => q p _ (Same.new hp) (by rw [upd_same, cut_dl])⟩
  have w2 := w.2
  have e3 : HT.sIx (ns.map V.str).length (ns.map V.str).length (some (-1)) = (-1 + ((ns.map V.str).length : Int)).toNat := by
    show (if (-1 : Int) < 0 then (-1 + ((ns.map V.str).length : Int)).toNat else min (-1 : Int).toNat (ns.map V.str).length) = _
    rw [if_pos (by decide)]
  rw [e3, List.length_map] at w2
  have : ns = [] := List.eq_nil_of_length_eq_zero (by omega)
  rw [this] at ht ⊢
  exact ht
def kdW (b : Bool) : Str := if b = true then "nosuch" else "notdir"
theorem Rl.isSome {L : TLs} {M : MdM} {F : MdF} (h : Rl L M F) {ns : List Str} {n : Int} (g : goW L 1 ns = .inr n) : ∃ a o, ndAt L n = some (a, o) := by
  obtain ⟨p, hp, q⟩ := List.mem_map.mp ((h.ks n).mpr ⟨ns, (h.go _ _).mp g⟩)
  cases e : ndAt L n with
  | some r => exact ⟨r.1, r.2, rfl⟩
  | none =>
    unfold ndAt at e
    rw [Option.map_eq_none_iff] at e
    have := List.find?_eq_none.mp e _ hp
    simp [q] at this
theorem Rl.wd {L : TLs} {M : MdM} {F : MdF} (h : Rl L M F) {n : Int} {a : Addr} {ws : List Str} (e : ndAt L n = some (a, .file ws)) : ∃ b, wdAt F n = some (b, ws) := by
  have := h.fl n
  rw [e] at this
  obtain ⟨q, h1, h2⟩ := Option.map_eq_some_iff.mp this
  exact ⟨q.1, by rw [h1, ← h2]⟩
theorem Rl.wd_no {L : TLs} {M : MdM} {F : MdF} (h : Rl L M F) {n : Int} {a : Addr} {es : List (Str × Int)} (e : ndAt L n = some (a, .dir es)) : wdAt F n = none := by
  have := h.fl n
  rw [e] at this
  exact Option.map_eq_none_iff.mp this
theorem eqvA_strs : ∀ (xs ys : List Str), PyData.eqv (.tuple (xs.map PyData.str)) (.tuple (ys.map PyData.str)) = decide (xs = ys) := by
  intro xs ys
  show PyData.eqvAll (xs.map PyData.str) (ys.map PyData.str) = _
  induction xs generalizing ys with
  | nil => cases ys <;> rfl
  | cons x r ih =>
    cases ys with
    | nil => rfl
    | cons y t =>
      show (PyData.eqv (.str x) (.str y) && PyData.eqvAll (r.map PyData.str) (t.map PyData.str)) = _
      rw [ih t]
      show (decide (x = y) && decide (r = t)) = _
      by_cases c : x = y
      · by_cases c2 : r = t
        · simp [c, c2]
        · simp [c, c2]
      · simp [c]
theorem nm_shp {ns : List Str} (h : ∀ z ∈ ns, NmL z) (k : Nat) : Shp (k + 1) (.tuple (ns.map PyData.str)) := Shp.tuple fun d hd => by
  obtain ⟨z, hz, rfl⟩ := List.mem_map.mp hd
  exact (h z hz).shp k
theorem dp_strs {K : PySem.W.Frag} {H : Hp} {t : Addr} {ns : List Str} (h : H t = some (.tup (ns.map V.str))) : Dp K H (.ref t) (.tuple (ns.map PyData.str)) := .tup (SqT.of h) (DtAll.strs ns).dp
/-- two tuples of texts, alike or not -/
theorem eq_strs {K : PySem.W.Frag} {H : Hp} {t u : Addr} {xs ys : List Str} {Q : VK} (hx : H t = some (.tup (xs.map V.str))) (hy : H u = some (.tup (ys.map V.str))) (nx : ∀ z ∈ xs, NmL z) (ny : ∀ z ∈ ys, NmL z) (q : Q (.bl (decide (xs = ys))) H) : rEqD K (.ref t) (.ref u) H Q :=
  ⟨_, _, dp_strs hx, dp_strs hy, (nm_shp nx 0).shaped (by decide), (nm_shp ny 0).shaped (by decide), by rw [eqvA_strs]; exact q⟩
theorem ne_strs {K : PySem.W.Frag} {H : Hp} {t u : Addr} {xs ys : List Str} {Q : VK} (hx : H t = some (.tup (xs.map V.str))) (hy : H u = some (.tup (ys.map V.str))) (nx : ∀ z ∈ xs, NmL z) (ny : ∀ z ∈ ys, NmL z) (q : Q (.bl (!decide (xs = ys))) H) : rNeD K (.ref t) (.ref u) H Q :=
  ⟨_, _, dp_strs hx, dp_strs hy, (nm_shp nx 0).shaped (by decide), (nm_shp ny 0).shaped (by decide), by rw [eqvA_strs]; exact q⟩
theorem atK_get {M : MdM} {i : Nat} {k : List Key} {v : V} (h : (atK M)[i]? = some (k, v)) : ∃ e, M[i]? = some e ∧ k = e.1.map Sum.inr ∧ v = .int e.2 := by
  unfold atK at h
  rw [List.getElem?_map] at h
  obtain ⟨e, he, q⟩ := Option.map_eq_some_iff.mp h
  cases q
  exact ⟨e, he, rfl, rfl⟩
theorem gAt {H : Hp} {D : Md} (e : H D.m = some (.dK (mdK D))) : DGet H D.m (.str "at") (some (.ref D.a)) := by rw [← md_a]; exact mdg e _
theorem MdAt.nma {H : Hp} {D : Md} (h : MdAt H D) : D.m ≠ D.a := fun e => by
  have := h.ha
  rw [← e, h.hm] at this
  cases this
theorem MdAt.nwa {H : Hp} {D : Md} (h : MdAt H D) : D.w ≠ D.a := fun e => by
  have := h.ha
  rw [← e, h.hw] at this
  cases this
/-- what stands besides a locked dict -/
theorem fz {H H' : Hp} {d : Addr} {od : Obj} {u : HO} (hd : H d = some u) (s : Same (upd H d (.frz od u)) H') {b : Addr} {o : HO} (h : H b = some o) (n : o ≠ u) : H' b = some o := s _ _ (by
  rw [upd_ne (fun q => n (by rw [q, hd] at h; exact (Option.some.inj h).symm))]
  exact h)
theorem filt_y {α : Type} {f : α → Bool} {l : List α} {i : Nat} {e : α} (he : l[i]? = some e) (h : f e = true) : (l.take (i + 1)).filter f = (l.take i).filter f ++ [e] := by
  rw [take_snoc he, List.filter_append, List.filter_cons_of_pos h, List.filter_nil]
theorem filt_n {α : Type} {f : α → Bool} {l : List α} {i : Nat} {e : α} (he : l[i]? = some e) (h : f e = false) : (l.take (i + 1)).filter f = (l.take i).filter f := by
  rw [take_snoc he, List.filter_append, List.filter_cons_of_neg (by rw [h]; exact fun z => nomatch z), List.filter_nil, List.append_nil]
theorem kid_nil {ns xs : List Str} (h : xs = []) : isKid ns xs = false := by
  unfold isKid
  rw [decide_eq_true h]
  rfl
theorem kid_y {ns xs : List Str} (h : xs ≠ []) (h2 : xs.dropLast = ns) : isKid ns xs = true := by
  unfold isKid
  rw [decide_eq_false h, decide_eq_true h2]
  rfl
theorem kid_n {ns xs : List Str} (h2 : ¬ xs.dropLast = ns) : isKid ns xs = false := by
  unfold isKid
  rw [decide_eq_false h2, Bool.and_false]
/-! what is due first where a thing is put anew -/
def dueP (L : TLs) (ns : List Str) : Option (Str × Str) := if 8 < ns.length then some ("badpath", pathOf ns) else match ns.getLast? with
  | none => some ("exists", "/")
  | some z => match abW L ns with
    | .inl p => some (kdW p.1, pathOf (ns.dropLast.take p.2))
    | .inr n => match dirAt L n with
      | none => none
      | some q => if (entAt q.2 z).isSome = true then some ("exists", pathOf ns) else if q.2.length = 20 then some ("much", "names") else if L.length = 24 then some ("much", "nodes") else none
theorem dueP_long {L : TLs} {ns : List Str} (h : 8 < ns.length) : dueP L ns = some (("badpath" : Str), pathOf ns) := if_pos h
theorem dueP_nil {L : TLs} : dueP L [] = some (("exists" : Str), ("/" : Str)) := rfl
theorem dueP_ab {L : TLs} {ns : List Str} {z : Str} {p : Bool × Nat} (h : ¬ 8 < (ns ++ [z]).length) (e : abW L (ns ++ [z]) = .inl p) : dueP L (ns ++ [z]) = some (kdW p.1, pathOf (ns.take p.2)) := by
  unfold dueP
  rw [if_neg h, List.getLast?_concat, e, List.dropLast_concat]
theorem dueP_in {L : TLs} {ns : List Str} {z : Str} {n : Int} {a : Addr} {es : List (Str × Int)} (h : ¬ 8 < (ns ++ [z]).length) (e : abW L (ns ++ [z]) = .inr n) (hn : ndAt L n = some (a, .dir es)) :
    dueP L (ns ++ [z]) = if (entAt es z).isSome = true then some (("exists" : Str), pathOf (ns ++ [z])) else if es.length = 20 then some (("much" : Str), ("names" : Str)) else if L.length = 24 then some (("much" : Str), ("nodes" : Str)) else none := by
  unfold dueP
  rw [if_neg h, List.getLast?_concat, e]
  dsimp only
  unfold dirAt
  rw [hn]
theorem abW_in {L : TLs} {ns : List Str} {z : Str} {n : Int} (e : abW L (ns ++ [z]) = .inr n) : goW L 1 ns = .inr n ∧ ∃ a es, ndAt L n = some (a, .dir es) := by
  refine ⟨?_, abW_dir e⟩
  unfold abW at e
  rw [List.dropLast_concat] at e
  cases h : goW L 1 ns with
  | inl p =>
    rw [h] at e
    cases e
  | inr m =>
    rw [h] at e
    dsimp only at e
    split at e
    · cases e
      rfl
    · cases e
/-- the model with a name more -/
def Md.put (D : Md) (ns : List Str) (f : Option Addr) : Md := ⟨D.m, D.a, D.w, D.M ++ [(ns, D.nx)], D.F ++ (match f with | some b => [(D.nx, b, [])] | none => []), D.nx + 1⟩
def OffM (D : Md) (H H' : Hp) : Prop := ∀ c u, H c = some u → ¬ MdFoot D c → H' c = some u
theorem mdK_next {D : Md} {z : Int} : putK (mdK D) (.inr "next") (.int z) = [(.inr "at", .ref D.a), (.inr "words", .ref D.w), (.inr "next", .int z)] := by
  have n1 : ¬ (Sum.inr "at" : Key) = .inr "next" := by decide +kernel
  have n2 : ¬ (Sum.inr "words" : Key) = .inr "next" := by decide +kernel
  unfold putK mdK
  rw [if_pos (by simp)]
  simp [n1, n2]
theorem len_ks {L : TLs} {M : MdM} {F : MdF} {nx : Int} (h : Rl L M F) (w : TrOk L nx) {ks : List Int} (nd : ks.Nodup) (hk : ∀ k, k ∈ ks ↔ k ∈ M.map (·.2)) : ks.length = L.length := by
  have : ks.Perm (L.map (·.1)) := (List.perm_ext_iff_of_nodup nd w.ks).mpr fun k => by
    rw [hk, h.ks]
    constructor
    · intro m
      obtain ⟨e, he, rfl⟩ := List.mem_map.mp m
      exact ⟨e.1, he⟩
    · rintro ⟨ns, m⟩
      exact List.mem_map.mpr ⟨_, m, rfl⟩
  rw [this.length_eq, List.length_map]
theorem put_at {M : MdM} {ns : List Str} {n : Int} (h : lookM M ns = none) : putK (atK M) (ns.map Sum.inr) (.int n) = atK (M ++ [(ns, n)]) := by
  rw [putK_new _ (by rw [atK_val, h]; rfl)]
  unfold atK
  rw [List.map_append]
  rfl
theorem put_wd {F : MdF} {n : Int} {b : Addr} {ws : List Str} (h : wdAt F n = none) : putK (wdK F) (.inl n) (.ref b) = wdK (F ++ [(n, b, ws)]) := by
  rw [putK_new _ (by rw [wdK_val, h]; rfl)]
  unfold wdK
  rw [List.map_append]
  rfl
theorem Rl.look_free {L : TLs} {M : MdM} {F : MdF} (h : Rl L M F) {ns : List Str} {z : Str} {n : Int} {a : Addr} {es : List (Str × Int)} (g : goW L 1 ns = .inr n) (hd : ndAt L n = some (a, .dir es)) (e : entAt es z = none) : lookM M (ns ++ [z]) = none := by
  cases e2 : lookM M (ns ++ [z]) with
  | none => rfl
  | some m =>
    obtain ⟨p, a', es', q1, q2, q3⟩ := goW_snoc_iff.mp ((h.go _ _).mpr (lookM_mem e2))
    rw [g] at q1
    cases q1
    rw [hd] at q2
    cases q2
    rw [e] at q3
    cases q3
theorem Rl.wd_new {L : TLs} {M : MdM} {F : MdF} {nx : Int} (h : Rl L M F) (w : TrOk L nx) : wdAt F nx = none := by
  have := h.fl nx
  rw [ndAt_lt w.lt (Int.le_refl _)] at this
  exact Option.map_eq_none_iff.mp this
theorem MdAt.nfa {H : Hp} {D : Md} (h : MdAt H D) {f : Int × Addr × List Str} (hf : f ∈ D.F) : f.2.1 ≠ D.a ∧ f.2.1 ≠ D.m ∧ f.2.1 ≠ D.w := by
  have k := h.hf f hf
  refine ⟨fun e => ?_, fun e => ?_, fun e => ?_⟩
  · rw [e, h.ha] at k
    cases k
  · rw [e, h.hm] at k
    cases k
  · rw [e, h.hw] at k
    cases k
theorem catA_strs {K : PySem.W.Frag} {H : Hp} {a b : Addr} {ns ms : List Str} {Q : VK} (ha : H a = some (.tup (ns.map V.str))) (hb : H b = some (.tup (ms.map V.str))) (hl : ns.length + ms.length ≤ 1000) (q : ∀ t H', Same H H' → H' t = some (.tup ((ns ++ ms).map V.str)) → Q (.ref t) H') : rCatA K (.ref a) (.ref b) H Q := by
  refine ⟨a, b, _, _, rfl, rfl, SqT.of ha, SqT.of hb, by rw [List.length_map, List.length_map, sizeLine_eq]; omega, fun e => q b H (Same.refl H) ?_, fun _ e => q a H (Same.refl H) ?_, fun _ _ p hp => q p _ (Same.new hp) (by rw [upd_same, List.map_append])⟩
  · rw [List.map_eq_nil_iff.mp e]
    exact hb
  · rw [List.map_eq_nil_iff.mp e, List.append_nil]
    exact ha
theorem path_ln10 {ns : List Str} (h : Nm10 ns) : (pathOf ns).length ≤ 4000 := by
  have e := join_len "/" ns
  have e1 : (("/" : Str)).length = 1 := rfl
  have e2 := sum_nm fun z hz => (h.2 z hz).2.1
  have e3 : (pathOf ns).length = 1 + (Txt.join "/" ns).length := len_append _ _
  have e4 := h.1
  rw [e1] at e
  omega
theorem path_long {ns : List Str} (h8 : 8 < ns.length) (h : ∀ z ∈ ns, NmL z) : pathNames (pathOf ns) = none := by
  have h0 : ns ≠ [] := fun e => by
    rw [e] at h8
    cases h8
  have es : Txt.split (Txt.join "/" ns) "/" = ns := by
    exact TL.split_join (s := 47) (S := []) (by rfl) (by decide +kernel) h0 fun p hp => not_stroke (h p hp)
  have ht : TL.tl (pathOf ns) = 47 :: TL.tl (Txt.join "/" ns) := by
    unfold pathOf
    rw [TL.tl_append]
    rfl
  have e2 := split_stroke ht
  rw [es] at e2
  have hne : pathOf ns ≠ "/" := fun e => by
    rw [e] at e2
    have e3 : Txt.split ("/" : Str) "/" = [Str.empty, Str.empty] := by decide +kernel
    rw [e3] at e2
    have e4 := (List.cons.inj e2).2
    rw [← e4] at h8
    exact absurd h8 (by decide)
  unfold pathNames
  rw [if_neg hne, e2]
  dsimp only
  rw [if_neg fun q => absurd q.2.2.1 (by omega)]
theorem path_nil : pathNames (pathOf []) = some [] := by
  have : pathOf [] = "/" := by decide +kernel
  rw [this]
  exact if_pos rfl
/-- the path of names is read as these names, if they aren't too many -/
theorem path_pn {ns : List Str} (h : Nm10 ns) (h8 : ¬ 8 < ns.length) : pnV (.str (pathOf ns)) = some ns := by
  by_cases c : ns = []
  · rw [c]
    exact path_nil
  · exact path_reads c (by omega) h.2
theorem path_pv {K : PySem.W.Frag} {H : Hp} {ns : List Str} (h : Nm10 ns) : PthV K H (.str (pathOf ns)) := .inl ⟨_, rfl, path_ln10 h⟩
/-- what is due is what the tree refuses -/
theorem putE_due {E : Value → Option Addr → Hp → Prop} {BP ND NS EX TM : Addr} {H : Hp} {L : TLs} {ns : List Str} {Q : Int → Addr → List (Str × Int) → Str → Prop} (hn : Nm10 ns)
    (h : ∀ (C : Addr) (fl kd f : Str), dueP L ns = some (kd, f) → ((C = BP ∧ kd = "badpath" ∧ fl = "path") ∨ (C = NS ∧ kd = "nosuch" ∧ fl = "path") ∨ (C = ND ∧ kd = "notdir" ∧ fl = "path") ∨ (C = EX ∧ kd = "exists" ∧ fl = "path") ∨ (C = TM ∧ kd = "much" ∧ fl = "kind")) → exE E H C fl (.str f))
    (q : ∀ ys z n a es, ns = ys ++ [z] → ¬ 8 < ns.length → goW L 1 ys = .inr n → ndAt L n = some (a, .dir es) → entAt es z = none → es.length ≠ 20 → L.length ≠ 24 → dueP L ns = none → Q n a es z) : putE E BP ND NS EX TM H L (.str (pathOf ns)) Q := by
  refine ⟨fun e => ?_, fun e => ?_, fun ms z e1 e2 => ?_⟩
  · by_cases c : 8 < ns.length
    · exact h _ _ _ _ (dueP_long c) (.inl ⟨rfl, rfl, rfl⟩)
    · rw [path_pn hn c] at e
      cases e
  · by_cases c : 8 < ns.length
    · rw [show pnV (.str (pathOf ns)) = none from path_long c hn.2] at e
      cases e
    · rw [path_pn hn c] at e
      cases e
      have : pathOf [] = "/" := by decide +kernel
      rw [this]
      exact h _ _ _ _ dueP_nil (.inr (.inr (.inr (.inl ⟨rfl, rfl, rfl⟩))))
  · by_cases c : 8 < ns.length
    · rw [show pnV (.str (pathOf ns)) = none from path_long c hn.2] at e1
      cases e1
    rw [path_pn hn c] at e1
    cases e1
    obtain ⟨ys, y, rfl⟩ : ∃ ys y, ns = ys ++ [y] := by
      rcases List.eq_nil_or_concat ns with rfl | ⟨ys, y, rfl⟩
      · cases e2
      · exact ⟨ys, y, List.concat_eq_append⟩
    rw [List.getLast?_concat] at e2
    cases e2
    refine ⟨fun p e => ?_, fun n a es e e' => ?_⟩
    · have := dueP_ab c e
      unfold goE
      rw [List.dropLast_concat]
      obtain ⟨b, k⟩ := p
      cases b with
      | true => exact h _ _ _ _ this (.inr (.inl ⟨rfl, rfl, rfl⟩))
      | false => exact h _ _ _ _ this (.inr (.inr (.inl ⟨rfl, rfl, rfl⟩)))
    · have due := dueP_in c e e'
      obtain ⟨g, _⟩ := abW_in e
      refine ⟨fun k => ?_, fun k k2 => ?_, fun k k2 k3 => ?_, fun k k2 k3 => ?_⟩
      · rw [if_pos (Option.isSome_iff_ne_none.mpr k)] at due
        exact h _ _ _ _ due (.inr (.inr (.inr (.inl ⟨rfl, rfl, rfl⟩))))
      · rw [k, if_neg (by simp), if_pos k2] at due
        exact h _ _ _ _ due (.inr (.inr (.inr (.inr ⟨rfl, rfl, rfl⟩))))
      · rw [k, if_neg (by simp), if_neg k2, if_pos k3] at due
        exact h _ _ _ _ due (.inr (.inr (.inr (.inr ⟨rfl, rfl, rfl⟩))))
      · rw [k, if_neg (by simp), if_neg k2, if_neg k3] at due
        exact q ys z n a es rfl c g e' k k2 k3 due
theorem dgAtF {H : Hp} {a t : Addr} {od : Obj} {M : MdM} {ns : List Str} (ha : H a = some (.frz od (.dT (atK M)))) (ht : H t = some (.tup (ns.map V.str))) : DGet H a (.ref t) ((lookM M ns).map V.int) := by
  rw [← atK_val]
  exact .inr ⟨atK M, ns.map Sum.inr, t, .inr ⟨od, ha⟩, rfl, by rw [kV_inr]; exact ht, rfl⟩
theorem ints_uniq {l m : List Int} (h1 : l.Pairwise (· ≤ ·)) (h2 : m.Pairwise (· ≤ ·)) (p : l.Perm m) : l = m := by
  refine ST.srt_uniq (lt := fun a b : Int => decide (a < b)) (fun x y a b => ?_) (h1.imp fun {x y} h => decide_eq_false (by omega)) (h2.imp fun {x y} h => decide_eq_false (by omega)) p
  have := of_decide_eq_false a
  have := of_decide_eq_false b
  omega
theorem srtSI_fst {l : List (Str × Int)} (h : ST.SrtSI l) : ST.SrtS (l.map (·.1)) := by
  refine List.pairwise_map.mpr (h.imp fun {p q} e => ?_)
  unfold ST.ltSI at e
  unfold ST.ltS
  by_cases c : q.1 = p.1
  · rw [c]
    exact decide_eq_false (List.lt_irrefl _)
  · rw [if_neg c] at e
    exact e
theorem Rl.nums {L : TLs} {M : MdM} {F : MdF} {nx : Int} (h : Rl L M F) (w : TrOk L nx) (nd : (M.map (·.2)).Nodup) : (L.map (·.1)).Perm (M.map (·.2)) := (List.perm_ext_iff_of_nodup w.ks nd).mpr fun k => by
  rw [h.ks]
  constructor
  · rintro ⟨ns, m⟩
    exact List.mem_map.mpr ⟨_, m, rfl⟩
  · intro m
    obtain ⟨e, he, rfl⟩ := List.mem_map.mp m
    exact ⟨e.1, he⟩
theorem one_val {M : MdM} (nd : (M.map (·.2)).Nodup) {e : List Str × Int} (he : e ∈ M) : (M.filter fun q => decide (q.2 = e.2)).length = 1 := by
  induction M with
  | nil => cases he
  | cons p r ih =>
    rw [List.map_cons, List.nodup_cons] at nd
    rcases List.mem_cons.mp he with rfl | h
    · rw [List.filter_cons_of_pos (by simp)]
      have : (r.filter fun q => decide (q.2 = e.2)) = [] := List.filter_eq_nil_iff.mpr fun q hq c => nd.1 (List.mem_map.mpr ⟨q, hq, of_decide_eq_true c⟩)
      rw [this]
      rfl
    · rw [List.filter_cons_of_neg (fun c => nd.1 (List.mem_map.mpr ⟨e, h, (of_decide_eq_true c).symm⟩))]
      exact ih nd.2 h
theorem Rl.one {L : TLs} {M : MdM} {F : MdF} (h : Rl L M F) (nd : (M.map (·.2)).Nodup) {ns : List Str} {n : Int} (g : goW L 1 ns = .inr n) : lkT L n = 1 := by
  rw [h.lk]
  have := one_val nd ((h.go _ _).mp g)
  rw [show ((M.filter fun e => decide (e.2 = n)).length) = 1 from this]
  rfl
theorem kids_nm {L : TLs} {M : MdM} {F : MdF} (h : Rl L M F) {ns : List Str} {e : Str × Int} (he : e ∈ kids M ns) : NmL e.1 := by
  obtain ⟨q, hq, rfl⟩ := List.mem_map.mp he
  obtain ⟨h1, h2⟩ := List.mem_filter.mp hq
  obtain ⟨z, hz⟩ := isKid_iff.mp h2
  have := (h.nm q h1).2 z (by rw [hz]; simp)
  rw [hz, List.getLast?_concat]
  exact this
theorem dt3 {K : PySem.W.Frag} {H : Hp} {v : V} {a b c : PyData} (h : Dt K H v (.tuple [a, b, c])) : ∃ r x y z, v = .ref r ∧ SqT K H r [x, y, z] ∧ Dt K H z c := by
  cases h with
  | tup hs ha =>
    cases ha with
    | cons h1 ha =>
      cases ha with
      | cons h2 ha =>
        cases ha with
        | cons h3 ha =>
          cases ha
          exact ⟨_, _, _, _, rfl, hs, h3⟩
theorem joinL_all {P : Nat → Prop} {sep : List Nat} (hs : ∀ c ∈ sep, P c) : ∀ ls : List (List Nat), (∀ l ∈ ls, ∀ c ∈ l, P c) → ∀ c ∈ TL.joinL sep ls, P c
  | [], _, c, hc => nomatch hc
  | [p], h, c, hc => h p List.mem_cons_self c hc
  | p :: q :: r, h, c, hc => by
    have hc : c ∈ p ++ (sep ++ TL.joinL sep (q :: r)) := hc
    rcases List.mem_append.mp hc with hc | hc
    · exact h p List.mem_cons_self c hc
    · rcases List.mem_append.mp hc with hc | hc
      · exact hs c hc
      · exact joinL_all hs (q :: r) (fun l hl => h l (List.mem_cons_of_mem _ hl)) c hc
theorem path_chars {ns : List Str} (h : ∀ z ∈ ns, NmL z) : ∀ c ∈ (pathOf ns).cps.toList, c < 128 := by
  intro c hc
  have e : (pathOf ns).cps.toList = TL.tl "/" ++ TL.joinL (TL.tl "/") (ns.map TL.tl) := by
    show TL.tl (pathOf ns) = _
    unfold pathOf
    rw [TL.tl_append, TL.join_eq, TL.tl_join]
  have s1 : ∀ c ∈ TL.tl "/", c < 128 := by decide +kernel
  rw [e] at hc
  rcases List.mem_append.mp hc with hc | hc
  · exact s1 c hc
  · refine joinL_all s1 _ (fun l hl c hc => ?_) c hc
    obtain ⟨z, hz, rfl⟩ := List.mem_map.mp hl
    exact let_small ((h z hz).2.2 c hc)
theorem path_shps {M : MdM} (hM : ∀ e ∈ M, ∀ z ∈ e.1, NmL z) {ys : List Str} (h : ys.Perm (M.map fun e => pathOf e.1)) : Shp 1 (.list (ys.map PyData.str)) := Shp.list (k := 0) fun d hd => by
  obtain ⟨y, hy, rfl⟩ := List.mem_map.mp hd
  obtain ⟨e, he, rfl⟩ := List.mem_map.mp (h.mem_iff.mp hy)
  exact Shp.str fun c hc => Nat.lt_trans (path_chars (hM e he) c hc) (by decide)

abbrev s_l_path : Stmt := topS 39
abbrev N_l_path : List Str := ["names"]
theorem sc_l_path : FnScope N_l_path ["names"] (defScope s_l_path) := ⟨rfl, rfl, rfl, by decide +kernel, rfl, by decide +kernel, by decide +kernel⟩
def sp_l_path_m (K : PySem.W.Frag) : Sp := fun vs H Q _ => ∃ (t : Addr) (ns : List Str), vs = [.ref t] ∧ H t = some (.tup (ns.map V.str)) ∧ Nm10 ns ∧ Q (.str (pathOf ns)) H
theorem ok_l_path {f : Addr} {fd : FuncData} (F : Fun K "_law_path" "_law_path" s_l_path f fd) (B : Bt mg) : GnOk P w K mg base CX0 1 f fd ["names"] (sp_l_path_m K) := by
  refine gn_fun F sc_l_path (fun vs H Q E h => ?_) (fun cdv A outer s H vs Q E hr h => ?_)
  · obtain ⟨t, ns, rfl, _⟩ := h
    rfl
  · obtain ⟨t, ns, rfl, ht, hn, k⟩ := h
    refine ⟨_, (pss_one (ps_ret (pe_op op_add_str pe_str (pe_join pe_str (pv 0))))), ?_⟩
    have hl := hn.sum
    refine ⟨⟨_, rfl⟩, _, rfl, _, t, ns, rfl, rfl, .inr (SqT.of ht), ?_, _, _, rfl, rfl, ?_, k⟩
    · show _ + ns.length * 1 ≤ _
      omega
    · have := join_len "/" ns
      have e : (("/" : Str)).length = 1 := rfl
      rw [e] at this ⊢
      rw [sizeLine_eq]
      omega
abbrev s_l_free : Stmt := topS 42
abbrev N_l_free : List Str := ["model", "names", "one"]
theorem sc_l_free : FnScope N_l_free ["model", "names"] (defScope s_l_free) := ⟨rfl, rfl, rfl, by decide +kernel, rfl, by decide +kernel, by decide +kernel⟩
def sp_l_free_m (K : PySem.W.Frag) : Sp := fun vs H Q _ => ∃ (D : Md) (L : TLs) (ns : List Str) (t : Addr) (n : Int) (a : Addr) (es : List (Str × Int)) (z : Str), vs = [.ref D.m, .ref t] ∧ MdAt H D ∧ Rl L D.M D.F ∧ H t = some (.tup ((ns ++ [z]).map V.str)) ∧ Nm10 (ns ++ [z]) ∧
  goW L 1 ns = .inr n ∧ ndAt L n = some (a, .dir es) ∧
  (entAt es z ≠ none → ∀ T H', Same H H' → H T = none → H' T = some (.tup [.str "exists", .str (pathOf (ns ++ [z]))]) → Q (.ref T) H') ∧
  (entAt es z = none → es.length = 20 → ∀ T H', Same H H' → H T = none → H' T = some (.tup [.str "much", .str "names"]) → Q (.ref T) H') ∧
  (entAt es z = none → es.length ≠ 20 → ∀ H', Same H H' → Q .non H')
theorem ok_l_free {f : Addr} {fd : FuncData} (F : Fun K "_law_free" "_law_free" s_l_free f fd) (B : Bt mg) (C_law_path : Cal P w K mg base CX0 "_law_path" 1 ["names"] (sp_l_path_m K)) : GnOk P w K mg base CX0 2 f fd ["model", "names"] (sp_l_free_m K) := by
  refine gn_fun F sc_l_free (fun vs H Q E h => ?_) (fun cdv A outer s H vs Q E hr h => ?_)
  · obtain ⟨D, L, ns, t, n, a, es, z, rfl, _⟩ := h
    rfl
  · obtain ⟨D, L, ns, t, n, a, es, z, rfl, hm, hr', ht, hn, hg, hd, k1, k2, k3⟩ := h
    refine ⟨_, (pss_cons (ps_if (pt_cmp (pc_din hr.hu (pv 1) (pe_dget hr.hu (pv 0) pe_str (fun _ _ => rfl))))
      (pss_one (ps_ret (pe_tup (pa_cons pe_str (pa_cons (pe_cal C_law_path (hr.mono (by decide)) (by rfl) pass0 (pa_cons (pv 1) pa_nil)) pa_nil)))))
      pss_nil)
    (pss_cons (ps_if (pt_cmpR op_eq (pe_callB (call_lenK K) (by rfl) B.len (by decide +kernel) (pa_cons (pe_lock (pe_lc (own := [("one", 2)]) (g := gName 2) (by rfl) sc_l_free.nd (pi_keys (pe_dget hr.hu (pv 0) pe_str (fun _ _ => rfl))) (blkOk_by (N := N_l_free) (sc := defScope s_l_free) (by decide +kernel)) (fun _ _ _ _ _ => pg_name (i := 2) sc_l_free.nd rfl (Or.inl rfl)) (fun _ _ _ _ _ => pts_one (PW.pt (pw_and (pt_cmpR (op_neDK K hr.units) (pv 2) (pe_tup pa_nil) (nomark _)) (pw_and1 (pt_cmpR (op_eqDK K hr.units) (pe_slice (sl_tupAK K) (pv 2) po_none (po_some (pe_un un_neg pe_int))) (pe_slice (sl_tupAK K) (pv 1) po_none (po_some (pe_un un_neg pe_int))) (nomark _)))))) (fun _ _ _ _ _ => (pv 2)))) pa_nil)) pe_int (nomark _))
      (pss_one (ps_ret (pe_tup (pa_cons pe_str (pa_cons pe_str pa_nil)))))
      pss_nil)
    (pss_one (ps_ret pe_non)))), ?_⟩
    refine ⟨_, rfl, _, rfl, D.m, _, rfl, hm.gA, D.a, _, rfl, dgAt hm.ha ht, _, rfl, ?_⟩
    have lk : lookM D.M (ns ++ [z]) = entAt es z := by
      cases e : entAt es z with
      | some m => exact hr'.look (goW_snoc hg hd e)
      | none =>
        cases e2 : lookM D.M (ns ++ [z]) with
        | none => rfl
        | some m =>
          obtain ⟨p, a', es', q1, q2, q3⟩ := goW_snoc_iff.mp ((hr'.go _ _).mpr (lookM_mem e2))
          rw [hg] at q1
          cases q1
          rw [hd] at q2
          cases q2
          rw [e] at q3
          cases q3
    rw [lk]
    cases ez : entAt es z with
    | some m =>
      refine iteT ?_
      refine ⟨_, rfl, t, ns ++ [z], rfl, ht, hn, (by show 2 ≤ sizeLine; decide), fun T hT => ?_⟩
      exact k1 (by rw [ez]; exact fun q => nomatch q) T _ (Same.new hT) hT upd_same
    | none =>
      refine iteF ?_
      refine ⟨D.a, _, hm.ha, trivial, fun od => ?_⟩
      have hz10 := hn.2
      have hnz : ∀ y ∈ ns, NmL y := fun y hy => hz10 y (List.mem_append_left _ hy)
      have kl := hr'.kidn hg hd
      refine ⟨_, rfl, D.m, _, rfl, gAt (by rw [upd_ne hm.nma]; exact hm.hm), D.a, od, rfl, .inr ⟨_, upd_same, fun Dd hDd => ?_⟩⟩
      refine lc_it (walk_keysT (d := D.a) (o := od) (kvs := atK D.M)) (fun i H7 => ∃ rs : List V, H7 Dd = some (.lst rs) ∧ rs.length = ((D.M.take i).filter fun e => isKid ns e.1).length ∧ Same (upd H D.a (.frz od (.dT (atK D.M)))) H7) ⟨[], upd_same, rfl, Same.new hDd⟩ (fun _ _ _ e => e.choose_spec.2.2 _ _ upd_same) ?_ ?_
      · rintro i x H8 H7 hi ⟨rs, e1, e2, s7⟩ ⟨rfl, k, v, q, hk, rfl, hq⟩
        obtain ⟨e, he, rfl, rfl⟩ := atK_get hk
        rw [kV_inr] at hq
        have hnm := hr'.nm e (List.mem_of_getElem? he)
        have ht7 : H7 t = some (.tup ((ns ++ [z]).map V.str)) := fz hm.ha s7 ht (fun z => nomatch z)
        refine ⟨rfl, ?_⟩
        refine ⟨_, rfl, (by show 0 ≤ sizeLine; decide), fun u hu => ne_strs (xs := e.1) (ys := []) ((Same.new hu) _ _ hq) upd_same hnm.2 (fun _ h => nomatch h) ⟨_, rfl, ?_⟩⟩
        have s8 : Same H7 (upd H7 u (.tup [])) := Same.new hu
        have hu7 := hu
        generalize upd H7 u (.tup []) = H8 at s8 ⊢
        by_cases c : e.1 = []
        · rw [decide_eq_true c]
          refine iteF (iteF ?_)
          refine ⟨rs, s8 _ _ e1, ?_, s7.trans s8⟩
          rw [filt_n he (kid_nil c)]
          exact e2
        · rw [decide_eq_false c]
          refine iteT ?_
          refine ⟨_, rfl, _, rfl, _, rfl, slA_dl (s8 _ _ hq) fun p1 H9 s9 hp1 => ?_⟩
          refine ⟨_, rfl, _, rfl, _, rfl, slA_dl (s9 _ _ (s8 _ _ ht7)) fun p2 H10 s10 hp2 => ?_⟩
          rw [List.dropLast_concat] at hp2
          refine eq_strs (s10 _ _ hp1) hp2 (fun y hy => hnm.2 y (List.dropLast_subset _ hy)) hnz ⟨_, rfl, ?_⟩
          have s710 := (s8.trans s9).trans s10
          have lM := hr'.sz
          have e2' := e2
          have lf := List.length_filter_le (fun e : List Str × Int => isKid ns e.1) (D.M.take i)
          rw [List.length_take] at lf
          refine ite2 (fun c2 => ?_) (fun c2 => ?_)
          · refine ⟨_, rfl, rs, s710 _ _ e1, by rw [sizeLine_eq]; omega, _, upd_same, ?_, fun b w hb => ?_⟩
            · rw [filt_y he (kid_y c (of_decide_eq_true c2)), List.length_append, List.length_append, e2]
              rfl
            · rw [upd_ne (ne_of_none hb hDd)]
              exact s710 _ _ (s7 _ _ hb)
          · refine ⟨rs, s710 _ _ e1, ?_, s7.trans s710⟩
            rw [filt_n he (kid_n fun q => c2 (decide_eq_true q))]
            exact e2
      · rintro H7 ⟨rs, e1, e2, s7⟩
        refine ⟨s7 _ _ upd_same, ?_⟩
        have s8 := lock_same hm.ha s7
        have nda : Dd ≠ D.a := fun q => by
          rw [q, upd_same] at hDd
          cases hDd
        have eD : upd H7 D.a (.dT (atK D.M)) Dd = some (.lst rs) := by rw [upd_ne nda]; exact e1
        have lM : (atK D.M).length = D.M.length := List.length_map _
        rw [lM, List.take_length, kl] at e2
        refine ⟨_, es.length, rfl, .inl ⟨_, SqL.of eD, e2.symm⟩, rfl, _, rfl, ite2 (fun c => ?_) fun c => ?_⟩
        · refine ⟨(by show 2 ≤ sizeLine; decide), fun T hT => ?_⟩
          have q : (es.length : Int) = 20 := V.int.inj (of_decide_eq_true c)
          exact k2 ez (by omega) T _ (s8.trans (Same.new hT)) (same_none s8 hT) upd_same
        · exact k3 ez (fun q => c (decide_eq_true (by rw [q]; rfl))) _ s8
abbrev s_l_node : Stmt := topS 48
abbrev N_l_node : List Str := ["model", "names", "number", "rows", "one"]
theorem sc_l_node : FnScope N_l_node ["model", "names"] (defScope s_l_node) := ⟨rfl, rfl, rfl, by decide +kernel, rfl, by decide +kernel, by decide +kernel⟩
def sp_l_node_k32 (K : PySem.W.Frag) : Sp := fun vs H Q _ => ∃ (D : Md) (L : TLs) (ns : List Str) (t : Addr) (n : Int) (a : Addr) (o : Nd), vs = [.ref D.m, .ref t] ∧ MdAt H D ∧ Rl L D.M D.F ∧ H t = some (.tup (ns.map V.str)) ∧ Nm10 ns ∧ goW L 1 ns = .inr n ∧ ndAt L n = some (a, o) ∧
  (∀ ws, o = .file ws → ∀ v H', Same H H' → Dt K H' v (.tuple [.str "file", .int 1, .tuple []]) → Q v H') ∧
  (∀ es, o = .dir es → ∀ rows v H', rows.Perm (kids D.M ns) → ST.SrtSI rows → Same H H' → Dt K H' v (.tuple [.str "dir", .int 1, itD rows]) → Q v H')
theorem itD_shp {rows : List (Str × Int)} (h : ∀ e ∈ rows, NmL e.1) : Shp 2 (itD rows) := Shp.tuple (k := 1) fun d hd => by
  obtain ⟨e, he, rfl⟩ := List.mem_map.mp hd
  refine Shp.tuple (k := 0) fun x hx => ?_
  rcases List.mem_cons.mp hx with rfl | hx
  · exact (h e he).shp 0
  · rw [List.mem_singleton.mp hx]
    exact Shp.int _
theorem ok_l_node {f : Addr} {fd : FuncData} (F : Fun K "_law_node" "_law_node" s_l_node f fd) (B : Bt mg) : GnOk P w K mg base CX0 1 f fd ["model", "names"] (sp_l_node_k32 K) := by
  refine gn_fun F sc_l_node (fun vs H Q E h => ?_) (fun cdv A outer s H vs Q E hr h => ?_)
  · obtain ⟨D, L, ns, t, n, a, o, rfl, _⟩ := h
    rfl
  · obtain ⟨D, L, ns, t, n, a, o, rfl, hm, hr', ht, hn, hg, hd, k1, k2⟩ := h
    refine ⟨_, (pss_cons (ps_set (i := 2) sc_l_node.nd rfl (Or.inl rfl) (pe_dget hr.hu (pe_dget hr.hu (pv 0) pe_str (fun _ _ => rfl)) (pv 1) (fun _ _ => rfl)))
    (pss_cons (ps_if (pt_cmp (pc_din hr.hu (pv 2) (pe_dget hr.hu (pv 0) pe_str (fun _ _ => rfl))))
      (pss_one (ps_ret (pe_tup (pa_cons pe_str (pa_cons pe_int (pa_cons (pe_tup pa_nil) pa_nil))))))
      pss_nil)
    (pss_cons (ps_lock (ps_setLc (i := 3) (own := [("one", 4)]) (g := gName 4) (by rfl) sc_l_node.nd rfl rfl (sw_true rfl rfl rfl (by decide +kernel)) (pi_keys (pe_dget hr.hu (pv 0) pe_str (fun _ _ => rfl))) (blkOk_by (N := N_l_node) (sc := defScope s_l_node) (by decide +kernel)) (fun _ _ _ _ _ => pg_name (i := 4) sc_l_node.nd rfl (Or.inl rfl)) (fun _ _ _ _ _ => pts_one (PW.pt (pw_and (pt_cmpR (op_neDK K hr.units) (pv 4) (pe_tup pa_nil) (nomark _)) (pw_and1 (pt_cmpR (op_eqDK K hr.units) (pe_slice (sl_tupAK K) (pv 4) po_none (po_some (pe_un un_neg pe_int))) (pv 1) (nomark _)))))) (fun _ _ _ _ _ => (pe_tup (pa_cons (pe_ix (ix_tupK K) (pv 4) (pe_un un_neg pe_int) (fun _ _ => rfl)) (pa_cons (pe_dget hr.hu (pe_dget hr.hu (pv 0) pe_str (fun _ _ => rfl)) (pv 4) (fun _ _ => rfl)) pa_nil))))))
    (pss_one (ps_ret (pe_tup (pa_cons pe_str (pa_cons pe_int (pa_cons (pe_callTy (call_tuple_ofK K) (by rfl) B.tuple (by decide +kernel) (pa_cons (pe_callB (ST.cr_sortedLSIK K) (by rfl) B.sorted (by decide +kernel) (pa_cons (pv 3) pa_nil)) pa_nil)) pa_nil))))))))), ?_⟩
    have d0 := dgAt hm.ha ht
    rw [hr'.look hg] at d0
    refine ⟨_, rfl, D.m, _, rfl, hm.gA, _, rfl, D.a, _, rfl, d0, ?_⟩
    refine ⟨_, rfl, _, rfl, D.m, _, rfl, hm.gW, D.w, _, rfl, dgWd hm.hw n, _, rfl, ?_⟩
    cases o with
    | file ws =>
      obtain ⟨b, hb⟩ := hr'.wd hd
      rw [hb]
      refine iteT ?_
      refine ⟨Nat.zero_le _, fun u hu => ⟨(by show 3 ≤ sizeLine; decide), fun T hT => ?_⟩⟩
      refine k1 ws rfl _ _ ((Same.new hu).trans (Same.new hT)) ?_
      exact .tup (SqT.of upd_same) (.cons (.str _) (.cons (.int _) (.cons (.tup (SqT.of ((Same.new hT) _ _ upd_same)) .nil) .nil)))
    | dir es =>
      rw [hr'.wd_no hd]
      refine iteF ?_
      refine ⟨D.a, _, hm.ha, trivial, fun od => ?_⟩
      have hnn := hn.2
      have m0 : (upd H D.a (.frz od (.dT (atK D.M)))) D.m = some (.dK (mdK D)) := by rw [upd_ne hm.nma]; exact hm.hm
      refine ⟨_, rfl, D.m, _, rfl, gAt m0, D.a, od, rfl, .inr ⟨_, upd_same, fun Dd hDd => ?_⟩⟩
      refine lc_it (walk_keysT (d := D.a) (o := od) (kvs := atK D.M)) (fun i H7 => ∃ zs : List (Addr × Str × Int), H7 Dd = some (.lst (zs.map fun z => V.ref z.1)) ∧ zs.map (·.2) = ((D.M.take i).filter fun e => isKid ns e.1).map (fun e => (e.1.getLast?.getD Str.empty, e.2)) ∧ (∀ z ∈ zs, H7 z.1 = some (.tup [.str z.2.1, .int z.2.2])) ∧ Same (upd H D.a (.frz od (.dT (atK D.M)))) H7) ⟨[], upd_same, rfl, (fun _ h => nomatch h), Same.new hDd⟩ (fun _ _ _ e => e.choose_spec.2.2.2 _ _ upd_same) ?_ ?_
      · rintro i x H8 H7 hi ⟨zs, e1, e2, e3, s7⟩ ⟨rfl, k, v, q, hk, rfl, hq⟩
        obtain ⟨e, he, rfl, rfl⟩ := atK_get hk
        rw [kV_inr] at hq
        have hem := List.mem_of_getElem? he
        have hnm := hr'.nm e hem
        have ht7 : H7 t = some (.tup (ns.map V.str)) := fz hm.ha s7 ht (fun z => nomatch z)
        refine ⟨rfl, ?_⟩
        refine ⟨_, rfl, (by show 0 ≤ sizeLine; decide), fun u hu => ne_strs (xs := e.1) (ys := []) ((Same.new hu) _ _ hq) upd_same hnm.2 (fun _ h => nomatch h) ⟨_, rfl, ?_⟩⟩
        have s8 : Same H7 (upd H7 u (.tup [])) := Same.new hu
        generalize upd H7 u (.tup []) = H8 at s8 ⊢
        by_cases c : e.1 = []
        · rw [decide_eq_true c]
          refine iteF (iteF ?_)
          refine ⟨zs, s8 _ _ e1, ?_, fun z hz => s8 _ _ (e3 z hz), s7.trans s8⟩
          rw [filt_n he (kid_nil c)]
          exact e2
        · rw [decide_eq_false c]
          refine iteT ?_
          refine ⟨_, rfl, _, rfl, _, rfl, slA_dl (s8 _ _ hq) fun p1 H9 s9 hp1 => ?_⟩
          refine ⟨_, rfl, eq_strs hp1 (s9 _ _ (s8 _ _ ht7)) (fun y hy => hnm.2 y (List.dropLast_subset _ hy)) hnn ⟨_, rfl, ?_⟩⟩
          have s79 := s8.trans s9
          have lM := hr'.sz
          have lf := List.length_filter_le (fun e : List Str × Int => isKid ns e.1) (D.M.take i)
          rw [List.length_take] at lf
          have lz : zs.length = ((D.M.take i).filter fun e => isKid ns e.1).length := by
            have := congrArg List.length e2
            rwa [List.length_map, List.length_map] at this
          refine ite2 (fun c2 => ?_) (fun c2 => ?_)
          · obtain ⟨ys, y, hy⟩ : ∃ ys y, e.1 = ys ++ [y] := by
              rcases List.eq_nil_or_concat e.1 with h | ⟨ys, y, h⟩
              · exact absurd h c
              · exact ⟨ys, y, by rw [h, List.concat_eq_append]⟩
            have hl : e.1.getLast? = some y := by rw [hy, List.getLast?_concat]
            have m9 : H9 D.m = some (.dK (mdK D)) := s79 _ _ (s7 _ _ m0)
            have a9 : H9 D.a = some (.frz od (.dT (atK D.M))) := s79 _ _ (s7 _ _ upd_same)
            have dg := dgAtF a9 (s79 _ _ hq)
            rw [(lookM_iff hr'.nd).mpr (show (e.1, e.2) ∈ D.M from hem)] at dg
            refine ⟨_, rfl, _, rfl, q, _, _, _, rfl, rfl, SqT.of (s79 _ _ hq), last_at hl, _, rfl, D.m, _, rfl, gAt m9, _, rfl, D.a, _, rfl, dg, (by show 2 ≤ sizeLine; decide), fun w hw => ?_⟩
            have s9w : Same H7 (upd H9 w (.tup [.str y, .int e.2])) := s79.trans (Same.new hw)
            have gw : upd H9 w (.tup [.str y, .int e.2]) w = some (.tup [.str y, .int e.2]) := upd_same
            generalize upd H9 w (.tup [.str y, .int e.2]) = HA at s9w gw ⊢
            refine ⟨_, s9w _ _ e1, by rw [List.length_map, sizeLine_eq]; omega, zs ++ [(w, y, e.2)], ?_, ?_, fun z hz => ?_, fun b u hb => ?_⟩
            · rw [upd_same, List.map_append]
              rfl
            · rw [filt_y he (kid_y c (of_decide_eq_true c2)), List.map_append, List.map_append, e2]
              show _ ++ [(y, e.2)] = _ ++ [(e.1.getLast?.getD Str.empty, e.2)]
              rw [hl]
              rfl
            · have nwD : w ≠ Dd := fun q => by
                have := s79 _ _ e1
                rw [← q, hw] at this
                cases this
              rcases List.mem_append.mp hz with hz | hz
              · rw [upd_ne (fun q => by have := e3 z hz; rw [q, e1] at this; cases this)]
                exact s9w _ _ (e3 z hz)
              · rw [List.mem_singleton.mp hz, upd_ne nwD]
                exact gw
            · rw [upd_ne (ne_of_none hb hDd)]
              exact s9w _ _ (s7 _ _ hb)
          · refine ⟨zs, s79 _ _ e1, ?_, fun z hz => s79 _ _ (e3 z hz), s7.trans s79⟩
            rw [filt_n he (kid_n fun q => c2 (decide_eq_true q))]
            exact e2
      · rintro H7 ⟨zs, e1, e2, e3, s7⟩
        refine ⟨s7 _ _ upd_same, ?_⟩
        have s8 := lock_same hm.ha s7
        have nda : Dd ≠ D.a := fun q => by
          rw [q, upd_same] at hDd
          cases hDd
        have eD : upd H7 D.a (.dT (atK D.M)) Dd = some (.lst (zs.map fun z => V.ref z.1)) := by rw [upd_ne nda]; exact e1
        have lM : (atK D.M).length = D.M.length := List.length_map _
        rw [lM, List.take_length] at e2
        have e3' : ∀ z ∈ zs, upd H7 D.a (.dT (atK D.M)) z.1 = some (.tup [.str z.2.1, .int z.2.2]) := fun z hz => by
          rw [upd_ne (fun q => by have := e3 z hz; rw [q, s7 _ _ upd_same] at this; cases this)]
          exact e3 z hz
        generalize upd H7 D.a (.dT (atK D.M)) = H8 at s8 eD e3' ⊢
        refine ⟨_, rfl, Dd, zs, rfl, SqL.of eD, e3', fun ys p pm srt ht2 hp => ?_⟩
        refine ⟨p, _, rfl, .inl ⟨SqL.of upd_same, fun t2 ht2n => ⟨(by show 3 ≤ sizeLine; decide), fun u hu => ?_⟩⟩⟩
        have s9 : Same H8 (upd (upd (upd H8 p (.lst (ys.map fun z => V.ref z.1))) t2 (.tup (ys.map fun z => V.ref z.1))) u (.tup [.str "dir", .int 1, .ref t2])) := ((Same.new hp).trans (Same.new ht2n)).trans (Same.new hu)
        refine k2 es rfl (ys.map (·.2)) _ _ (pm.trans (by rw [e2]; exact List.Perm.refl _)) srt (s8.trans s9) ?_
        refine .tup (SqT.of upd_same) (.cons (.str _) (.cons (.int _) (.cons (.tup (SqT.of ((Same.new hu) _ _ upd_same)) (dt_pairs fun z hz => s9 _ _ (ht2 z hz))) .nil)))
abbrev s_l_field : Stmt := topS 44
abbrev N_l_field : List Str := ["e"]
theorem sc_l_field : FnScope N_l_field ["e"] (defScope s_l_field) := ⟨rfl, rfl, rfl, by decide +kernel, rfl, by decide +kernel, by decide +kernel⟩
/-- what the law calls an exception's field -/
def lawF (a0 a1 a2 a3 a4 : Addr) (cls : Value) (d : Option Addr) (H : Hp) (v : V) : Prop := (cls = .ref a0 ∧ ∃ dd, d = some dd ∧ H dd = some (.xd [("path", v)])) ∨ (cls = .ref a1 ∧ ∃ dd, d = some dd ∧ H dd = some (.xd [("path", v)])) ∨ (cls = .ref a2 ∧ ∃ dd, d = some dd ∧ H dd = some (.xd [("path", v)])) ∨ (cls = .ref a3 ∧ ∃ dd, d = some dd ∧ H dd = some (.xd [("path", v)])) ∨ (cls = .ref a4 ∧ ∃ dd, d = some dd ∧ H dd = some (.xd [("kind", v)]))
def sp_l_field (a0 a1 a2 a3 a4 : Addr) : Value → Option Addr → Addr → Sp := fun cls d a vs H Q _ => vs = [.ref a] ∧ ∃ v, lawF a0 a1 a2 a3 a4 cls d H v ∧ DctOk d H ∧ ∀ H', Same H H' → Q v H'
theorem ok_l_field {f : Addr} {fd : FuncData} (F : Fun K "_law_field" "_law_field" s_l_field f fd) (B : Bt mg) {A_BadSpot : Addr} {A_TooMuch : Addr} {A_Fixed : Addr} {A_BadWord : Addr} {A_BadPath : Addr} {A_NoSuch : Addr} {A_NotDir : Addr} {A_Exists : Addr} (XC_BadSpot : XCls K mg "BadSpot" A_BadSpot) (XC_TooMuch : XCls K mg "TooMuch" A_TooMuch) (XC_Fixed : XCls K mg "Fixed" A_Fixed) (XC_BadWord : XCls K mg "BadWord" A_BadWord) (XC_BadPath : XCls K mg "BadPath" A_BadPath) (XF_BadPath_many : PySem.W.findIn K (.ref A_BadPath) "many" = some none) (XF_BadPath_kind : PySem.W.findIn K (.ref A_BadPath) "kind" = some none) (XF_BadPath_path : PySem.W.findIn K (.ref A_BadPath) "path" = some none) (XK_BadPath_BadSpot : PySem.W.kitOne K (.ref A_BadPath) (.ref A_BadSpot) = some false) (XK_BadPath_TooMuch : PySem.W.kitOne K (.ref A_BadPath) (.ref A_TooMuch) = some false) (XK_BadPath_Fixed : PySem.W.kitOne K (.ref A_BadPath) (.ref A_Fixed) = some false) (XK_BadPath_BadWord : PySem.W.kitOne K (.ref A_BadPath) (.ref A_BadWord) = some false) (XC_NoSuch : XCls K mg "NoSuch" A_NoSuch) (XF_NoSuch_many : PySem.W.findIn K (.ref A_NoSuch) "many" = some none) (XF_NoSuch_kind : PySem.W.findIn K (.ref A_NoSuch) "kind" = some none) (XF_NoSuch_path : PySem.W.findIn K (.ref A_NoSuch) "path" = some none) (XK_NoSuch_BadSpot : PySem.W.kitOne K (.ref A_NoSuch) (.ref A_BadSpot) = some false) (XK_NoSuch_TooMuch : PySem.W.kitOne K (.ref A_NoSuch) (.ref A_TooMuch) = some false) (XK_NoSuch_Fixed : PySem.W.kitOne K (.ref A_NoSuch) (.ref A_Fixed) = some false) (XK_NoSuch_BadWord : PySem.W.kitOne K (.ref A_NoSuch) (.ref A_BadWord) = some false) (XC_NotDir : XCls K mg "NotDir" A_NotDir) (XF_NotDir_many : PySem.W.findIn K (.ref A_NotDir) "many" = some none) (XF_NotDir_kind : PySem.W.findIn K (.ref A_NotDir) "kind" = some none) (XF_NotDir_path : PySem.W.findIn K (.ref A_NotDir) "path" = some none) (XK_NotDir_BadSpot : PySem.W.kitOne K (.ref A_NotDir) (.ref A_BadSpot) = some false) (XK_NotDir_TooMuch : PySem.W.kitOne K (.ref A_NotDir) (.ref A_TooMuch) = some false) (XK_NotDir_Fixed : PySem.W.kitOne K (.ref A_NotDir) (.ref A_Fixed) = some false) (XK_NotDir_BadWord : PySem.W.kitOne K (.ref A_NotDir) (.ref A_BadWord) = some false) (XC_Exists : XCls K mg "Exists" A_Exists) (XF_Exists_many : PySem.W.findIn K (.ref A_Exists) "many" = some none) (XF_Exists_kind : PySem.W.findIn K (.ref A_Exists) "kind" = some none) (XF_Exists_path : PySem.W.findIn K (.ref A_Exists) "path" = some none) (XK_Exists_BadSpot : PySem.W.kitOne K (.ref A_Exists) (.ref A_BadSpot) = some false) (XK_Exists_TooMuch : PySem.W.kitOne K (.ref A_Exists) (.ref A_TooMuch) = some false) (XK_Exists_Fixed : PySem.W.kitOne K (.ref A_Exists) (.ref A_Fixed) = some false) (XK_Exists_BadWord : PySem.W.kitOne K (.ref A_Exists) (.ref A_BadWord) = some false) (XF_TooMuch_many : PySem.W.findIn K (.ref A_TooMuch) "many" = some none) (XF_TooMuch_kind : PySem.W.findIn K (.ref A_TooMuch) "kind" = some none) (XF_TooMuch_path : PySem.W.findIn K (.ref A_TooMuch) "path" = some none) (XK_TooMuch_BadSpot : PySem.W.kitOne K (.ref A_TooMuch) (.ref A_BadSpot) = some false) (XK_TooMuch_TooMuch : PySem.W.kitOne K (.ref A_TooMuch) (.ref A_TooMuch) = some true) (XK_TooMuch_Fixed : PySem.W.kitOne K (.ref A_TooMuch) (.ref A_Fixed) = some false) (XK_TooMuch_BadWord : PySem.W.kitOne K (.ref A_TooMuch) (.ref A_BadWord) = some false) : ∀ (cls : Value) (d : Option Addr), FnE P w K mg base CX0 1 f fd ["e"] cls d ((sp_l_field A_BadPath A_NoSuch A_NotDir A_Exists A_TooMuch) cls d) := by
  intro cls d
  obtain ⟨oc, od, kV, doc, pm, an, cdv, ct, osl, rfl, lk, hc⟩ := F.ex
  refine fn_ofE lk hc sc_l_field (fun a vs H Q E h => ?_) (fun A outer s H vs Q E p hz hf hd hr h => ?_)
  · obtain ⟨rfl, _⟩ := h
    rfl
  · obtain ⟨rfl, v, hc, hdc, k⟩ := h
    obtain ⟨D, TD, b1, b2, b3, b4, rfl, nf_many, nf_kind, nf_path, ek, k1, k2, k3, k4, hv⟩ : ∃ (D : Addr) (TD : XfC K D) (b1 b2 b3 b4 : Bool), cls = .ref D ∧ PySem.W.findIn K (.ref D) "many" = some none ∧ PySem.W.findIn K (.ref D) "kind" = some none ∧ PySem.W.findIn K (.ref D) "path" = some none ∧ PySem.W.ExcK K D ∧ PySem.W.kitOne K (.ref D) (.ref A_BadSpot) = some b1 ∧ PySem.W.kitOne K (.ref D) (.ref A_TooMuch) = some b2 ∧ PySem.W.kitOne K (.ref D) (.ref A_Fixed) = some b3 ∧ PySem.W.kitOne K (.ref D) (.ref A_BadWord) = some b4 ∧
        ((b1 = true ∧ ∃ dd, d = some dd ∧ H dd = some (.xd [("many", v)])) ∨ (b1 = false ∧ b2 = true ∧ ∃ dd, d = some dd ∧ H dd = some (.xd [("kind", v)])) ∨ (b1 = false ∧ b2 = false ∧ (b3 = true ∨ (b3 = false ∧ b4 = true)) ∧ v = .non) ∨ (b1 = false ∧ b2 = false ∧ b3 = false ∧ b4 = false ∧ ∃ dd, d = some dd ∧ H dd = some (.xd [("path", v)]))) := by
      rcases hc with ⟨rfl, e⟩ | ⟨rfl, e⟩ | ⟨rfl, e⟩ | ⟨rfl, e⟩ | ⟨rfl, e⟩
      · exact ⟨A_BadPath, XC_BadPath.ek.xf, false, false, false, false, rfl, XF_BadPath_many, XF_BadPath_kind, XF_BadPath_path, XC_BadPath.ek, XK_BadPath_BadSpot, XK_BadPath_TooMuch, XK_BadPath_Fixed, XK_BadPath_BadWord, .inr (.inr (.inr ⟨rfl, rfl, rfl, rfl, e⟩))⟩
      · exact ⟨A_NoSuch, XC_NoSuch.ek.xf, false, false, false, false, rfl, XF_NoSuch_many, XF_NoSuch_kind, XF_NoSuch_path, XC_NoSuch.ek, XK_NoSuch_BadSpot, XK_NoSuch_TooMuch, XK_NoSuch_Fixed, XK_NoSuch_BadWord, .inr (.inr (.inr ⟨rfl, rfl, rfl, rfl, e⟩))⟩
      · exact ⟨A_NotDir, XC_NotDir.ek.xf, false, false, false, false, rfl, XF_NotDir_many, XF_NotDir_kind, XF_NotDir_path, XC_NotDir.ek, XK_NotDir_BadSpot, XK_NotDir_TooMuch, XK_NotDir_Fixed, XK_NotDir_BadWord, .inr (.inr (.inr ⟨rfl, rfl, rfl, rfl, e⟩))⟩
      · exact ⟨A_Exists, XC_Exists.ek.xf, false, false, false, false, rfl, XF_Exists_many, XF_Exists_kind, XF_Exists_path, XC_Exists.ek, XK_Exists_BadSpot, XK_Exists_TooMuch, XK_Exists_Fixed, XK_Exists_BadWord, .inr (.inr (.inr ⟨rfl, rfl, rfl, rfl, e⟩))⟩
      · exact ⟨A_TooMuch, XC_TooMuch.ek.xf, false, true, false, false, rfl, XF_TooMuch_many, XF_TooMuch_kind, XF_TooMuch_path, XC_TooMuch.ek, XK_TooMuch_BadSpot, XK_TooMuch_TooMuch, XK_TooMuch_Fixed, XK_TooMuch_BadWord, .inr (.inl ⟨rfl, rfl, e⟩)⟩
    refine ⟨_, (pss_cons (ps_if (pt_val (pe_callB (call_isP List.mem_cons_self hz hf K) (by rfl) B.isinstance (by decide +kernel) (pa_cons (pv 0) (pa_cons (pe_glob (by rfl) XC_BadSpot.mgC (rel_r _)) pa_nil))))
      (pss_one (ps_ret (pe_xfP TD nf_many List.mem_cons_self hz hf (pv 0))))
      pss_nil)
    (pss_cons (ps_if (pt_val (pe_callB (call_isP List.mem_cons_self hz hf K) (by rfl) B.isinstance (by decide +kernel) (pa_cons (pv 0) (pa_cons (pe_glob (by rfl) XC_TooMuch.mgC (rel_r _)) pa_nil))))
      (pss_one (ps_ret (pe_xfP TD nf_kind List.mem_cons_self hz hf (pv 0))))
      pss_nil)
    (pss_cons (ps_if (pt_val (pe_callB (call_isPT List.mem_cons_self hz hf K) (by rfl) B.isinstance (by decide +kernel) (pa_cons (pv 0) (pa_cons (pe_tup (pa_cons (pe_glob (by rfl) XC_Fixed.mgC (rel_r _)) (pa_cons (pe_glob (by rfl) XC_BadWord.mgC (rel_r _)) pa_nil))) pa_nil))))
      (pss_one (ps_ret pe_non))
      pss_nil)
    (pss_one (ps_ret (pe_xfP TD nf_path List.mem_cons_self hz hf (pv 0))))))), ?_⟩
    have dm : ∀ {H'}, Same H H' → DctOk d H' := fun {H'} s => hdc.elim .inl fun ⟨dd, fs, e, h⟩ => .inr ⟨dd, fs, e, s _ _ h⟩
    refine ⟨_, rfl, _, _, D, b1, rfl, rfl, ek, hdc, .own _, k1, _, rfl, ?_⟩
    rcases hv with ⟨rfl, dd, e1, e2⟩ | ⟨rfl, rfl, dd, e1, e2⟩ | ⟨rfl, rfl, h34, rfl⟩ | ⟨rfl, rfl, rfl, rfl, dd, e1, e2⟩
    · refine iteT ?_
      exact ⟨_, rfl, rfl, rfl, dd, _, v, e1, e2, rfl, k H (Same.refl H)⟩
    · refine iteF ?_
      refine ⟨_, rfl, _, _, D, true, rfl, rfl, ek, hdc, .own _, k2, _, rfl, iteT ?_⟩
      exact ⟨_, rfl, rfl, rfl, dd, _, v, e1, e2, rfl, k H (Same.refl H)⟩
    · refine iteF ?_
      refine ⟨_, rfl, _, _, D, false, rfl, rfl, ek, hdc, .own _, k2, _, rfl, iteF ?_⟩
      refine ⟨_, rfl, (by show 2 ≤ sizeLine; decide), fun t ht => ?_⟩
      refine ⟨t, _, _, D, true, rfl, rfl, ek, dm (Same.new ht), upd_same, .cons (.own _) (.cons (.own _) .nil), ?_, _, rfl, iteT ?_⟩
      · rcases h34 with rfl | ⟨rfl, rfl⟩
        · unfold PySem.W.kitAny
          rw [k3]
        · exact kitAny_f k3 (by unfold PySem.W.kitAny; rw [k4])
      · exact k _ (Same.new ht)
    · refine iteF ?_
      refine ⟨_, rfl, _, _, D, false, rfl, rfl, ek, hdc, .own _, k2, _, rfl, iteF ?_⟩
      refine ⟨_, rfl, (by show 2 ≤ sizeLine; decide), fun t ht => ?_⟩
      refine ⟨t, _, _, D, false, rfl, rfl, ek, dm (Same.new ht), upd_same, .cons (.own _) (.cons (.own _) .nil), kitAny_f k3 (kitAny_f k4 rfl), _, rfl, iteF ?_⟩
      exact ⟨_, rfl, rfl, rfl, dd, _, v, e1, Same.new ht _ _ e2, rfl, k _ (Same.new ht)⟩
abbrev s_l_class : Stmt := topS 43
abbrev N_l_class : List Str := ["e", "kinds", "names"]
theorem sc_l_class : FnScope N_l_class ["e"] (defScope s_l_class) := ⟨rfl, rfl, rfl, by decide +kernel, rfl, by decide +kernel, by decide +kernel⟩
/-- what the law calls a class of the tree's -/
def lawC (a0 a1 a2 a3 a4 : Addr) (cls : Value) (n : Str) : Prop := (cls = .ref a0 ∧ n = "badpath") ∨ (cls = .ref a1 ∧ n = "nosuch") ∨ (cls = .ref a2 ∧ n = "notdir") ∨ (cls = .ref a3 ∧ n = "exists") ∨ (cls = .ref a4 ∧ n = "much")
def sp_l_class (a0 a1 a2 a3 a4 : Addr) : Value → Option Addr → Addr → Sp := fun cls d a vs H Q _ => vs = [.ref a] ∧ ∃ z, lawC a0 a1 a2 a3 a4 cls z ∧ DctOk d H ∧ ∀ H', Same H H' → Q (.str z) H'
theorem first_true {bs : List Bool} {j : Nat} (h : (bs.take j).all (fun b => !b) = true) (m : Nat) (z : V) (hm : m < j) (e : (bs.map V.bl)[m]? = some z) : eqV z (.bl true) = false := by
  rw [List.getElem?_map] at e
  obtain ⟨b, hb, rfl⟩ := Option.map_eq_some_iff.mp e
  have q := List.all_eq_true.mp h b (List.mem_of_getElem? (i := m) (by rw [List.getElem?_take, if_pos hm]; exact hb))
  cases b
  · rfl
  · cases q
theorem ok_l_class {f : Addr} {fd : FuncData} (F : Fun K "_law_class" "_law_class" s_l_class f fd) (B : Bt mg) {A_BadPath : Addr} {A_NoSuch : Addr} {A_NotDir : Addr} {A_IsDir : Addr} {A_Exists : Addr} {A_NotEmpty : Addr} {A_Inside : Addr} {A_Fixed : Addr} {A_BadWord : Addr} {A_BadSpot : Addr} {A_TooMuch : Addr} {A_DiskError : Addr} (XC_BadPath : XCls K mg "BadPath" A_BadPath) (XC_NoSuch : XCls K mg "NoSuch" A_NoSuch) (XC_NotDir : XCls K mg "NotDir" A_NotDir) (XC_IsDir : XCls K mg "IsDir" A_IsDir) (XC_Exists : XCls K mg "Exists" A_Exists) (XC_NotEmpty : XCls K mg "NotEmpty" A_NotEmpty) (XC_Inside : XCls K mg "Inside" A_Inside) (XC_Fixed : XCls K mg "Fixed" A_Fixed) (XC_BadWord : XCls K mg "BadWord" A_BadWord) (XC_BadSpot : XCls K mg "BadSpot" A_BadSpot) (XC_TooMuch : XCls K mg "TooMuch" A_TooMuch) (XC_DiskError : XCls K mg "DiskError" A_DiskError) (XK_BadPath_BadPath : PySem.W.kitOne K (.ref A_BadPath) (.ref A_BadPath) = some true) (XK_BadPath_NoSuch : PySem.W.kitOne K (.ref A_BadPath) (.ref A_NoSuch) = some false) (XK_BadPath_NotDir : PySem.W.kitOne K (.ref A_BadPath) (.ref A_NotDir) = some false) (XK_BadPath_IsDir : PySem.W.kitOne K (.ref A_BadPath) (.ref A_IsDir) = some false) (XK_BadPath_Exists : PySem.W.kitOne K (.ref A_BadPath) (.ref A_Exists) = some false) (XK_BadPath_NotEmpty : PySem.W.kitOne K (.ref A_BadPath) (.ref A_NotEmpty) = some false) (XK_BadPath_Inside : PySem.W.kitOne K (.ref A_BadPath) (.ref A_Inside) = some false) (XK_BadPath_Fixed : PySem.W.kitOne K (.ref A_BadPath) (.ref A_Fixed) = some false) (XK_BadPath_BadWord : PySem.W.kitOne K (.ref A_BadPath) (.ref A_BadWord) = some false) (XK_BadPath_BadSpot : PySem.W.kitOne K (.ref A_BadPath) (.ref A_BadSpot) = some false) (XK_BadPath_TooMuch : PySem.W.kitOne K (.ref A_BadPath) (.ref A_TooMuch) = some false) (XK_BadPath_ValueError : PySem.W.kitOne K (.ref A_BadPath) (.type "ValueError") = some true) (XK_BadPath_DiskError : PySem.W.kitOne K (.ref A_BadPath) (.ref A_DiskError) = some false) (XK_NoSuch_BadPath : PySem.W.kitOne K (.ref A_NoSuch) (.ref A_BadPath) = some false) (XK_NoSuch_NoSuch : PySem.W.kitOne K (.ref A_NoSuch) (.ref A_NoSuch) = some true) (XK_NoSuch_NotDir : PySem.W.kitOne K (.ref A_NoSuch) (.ref A_NotDir) = some false) (XK_NoSuch_IsDir : PySem.W.kitOne K (.ref A_NoSuch) (.ref A_IsDir) = some false) (XK_NoSuch_Exists : PySem.W.kitOne K (.ref A_NoSuch) (.ref A_Exists) = some false) (XK_NoSuch_NotEmpty : PySem.W.kitOne K (.ref A_NoSuch) (.ref A_NotEmpty) = some false) (XK_NoSuch_Inside : PySem.W.kitOne K (.ref A_NoSuch) (.ref A_Inside) = some false) (XK_NoSuch_Fixed : PySem.W.kitOne K (.ref A_NoSuch) (.ref A_Fixed) = some false) (XK_NoSuch_BadWord : PySem.W.kitOne K (.ref A_NoSuch) (.ref A_BadWord) = some false) (XK_NoSuch_BadSpot : PySem.W.kitOne K (.ref A_NoSuch) (.ref A_BadSpot) = some false) (XK_NoSuch_TooMuch : PySem.W.kitOne K (.ref A_NoSuch) (.ref A_TooMuch) = some false) (XK_NoSuch_ValueError : PySem.W.kitOne K (.ref A_NoSuch) (.type "ValueError") = some true) (XK_NoSuch_DiskError : PySem.W.kitOne K (.ref A_NoSuch) (.ref A_DiskError) = some false) (XK_NotDir_BadPath : PySem.W.kitOne K (.ref A_NotDir) (.ref A_BadPath) = some false) (XK_NotDir_NoSuch : PySem.W.kitOne K (.ref A_NotDir) (.ref A_NoSuch) = some false) (XK_NotDir_NotDir : PySem.W.kitOne K (.ref A_NotDir) (.ref A_NotDir) = some true) (XK_NotDir_IsDir : PySem.W.kitOne K (.ref A_NotDir) (.ref A_IsDir) = some false) (XK_NotDir_Exists : PySem.W.kitOne K (.ref A_NotDir) (.ref A_Exists) = some false) (XK_NotDir_NotEmpty : PySem.W.kitOne K (.ref A_NotDir) (.ref A_NotEmpty) = some false) (XK_NotDir_Inside : PySem.W.kitOne K (.ref A_NotDir) (.ref A_Inside) = some false) (XK_NotDir_Fixed : PySem.W.kitOne K (.ref A_NotDir) (.ref A_Fixed) = some false) (XK_NotDir_BadWord : PySem.W.kitOne K (.ref A_NotDir) (.ref A_BadWord) = some false) (XK_NotDir_BadSpot : PySem.W.kitOne K (.ref A_NotDir) (.ref A_BadSpot) = some false) (XK_NotDir_TooMuch : PySem.W.kitOne K (.ref A_NotDir) (.ref A_TooMuch) = some false) (XK_NotDir_ValueError : PySem.W.kitOne K (.ref A_NotDir) (.type "ValueError") = some true) (XK_NotDir_DiskError : PySem.W.kitOne K (.ref A_NotDir) (.ref A_DiskError) = some false) (XK_Exists_BadPath : PySem.W.kitOne K (.ref A_Exists) (.ref A_BadPath) = some false) (XK_Exists_NoSuch : PySem.W.kitOne K (.ref A_Exists) (.ref A_NoSuch) = some false) (XK_Exists_NotDir : PySem.W.kitOne K (.ref A_Exists) (.ref A_NotDir) = some false) (XK_Exists_IsDir : PySem.W.kitOne K (.ref A_Exists) (.ref A_IsDir) = some false) (XK_Exists_Exists : PySem.W.kitOne K (.ref A_Exists) (.ref A_Exists) = some true) (XK_Exists_NotEmpty : PySem.W.kitOne K (.ref A_Exists) (.ref A_NotEmpty) = some false) (XK_Exists_Inside : PySem.W.kitOne K (.ref A_Exists) (.ref A_Inside) = some false) (XK_Exists_Fixed : PySem.W.kitOne K (.ref A_Exists) (.ref A_Fixed) = some false) (XK_Exists_BadWord : PySem.W.kitOne K (.ref A_Exists) (.ref A_BadWord) = some false) (XK_Exists_BadSpot : PySem.W.kitOne K (.ref A_Exists) (.ref A_BadSpot) = some false) (XK_Exists_TooMuch : PySem.W.kitOne K (.ref A_Exists) (.ref A_TooMuch) = some false) (XK_Exists_ValueError : PySem.W.kitOne K (.ref A_Exists) (.type "ValueError") = some true) (XK_Exists_DiskError : PySem.W.kitOne K (.ref A_Exists) (.ref A_DiskError) = some false) (XK_TooMuch_BadPath : PySem.W.kitOne K (.ref A_TooMuch) (.ref A_BadPath) = some false) (XK_TooMuch_NoSuch : PySem.W.kitOne K (.ref A_TooMuch) (.ref A_NoSuch) = some false) (XK_TooMuch_NotDir : PySem.W.kitOne K (.ref A_TooMuch) (.ref A_NotDir) = some false) (XK_TooMuch_IsDir : PySem.W.kitOne K (.ref A_TooMuch) (.ref A_IsDir) = some false) (XK_TooMuch_Exists : PySem.W.kitOne K (.ref A_TooMuch) (.ref A_Exists) = some false) (XK_TooMuch_NotEmpty : PySem.W.kitOne K (.ref A_TooMuch) (.ref A_NotEmpty) = some false) (XK_TooMuch_Inside : PySem.W.kitOne K (.ref A_TooMuch) (.ref A_Inside) = some false) (XK_TooMuch_Fixed : PySem.W.kitOne K (.ref A_TooMuch) (.ref A_Fixed) = some false) (XK_TooMuch_BadWord : PySem.W.kitOne K (.ref A_TooMuch) (.ref A_BadWord) = some false) (XK_TooMuch_BadSpot : PySem.W.kitOne K (.ref A_TooMuch) (.ref A_BadSpot) = some false) (XK_TooMuch_TooMuch : PySem.W.kitOne K (.ref A_TooMuch) (.ref A_TooMuch) = some true) (XK_TooMuch_ValueError : PySem.W.kitOne K (.ref A_TooMuch) (.type "ValueError") = some true) (XK_TooMuch_DiskError : PySem.W.kitOne K (.ref A_TooMuch) (.ref A_DiskError) = some false) (BV : mg "ValueError" = none) : ∀ (cls : Value) (d : Option Addr), FnE P w K mg base CX0 1 f fd ["e"] cls d ((sp_l_class A_BadPath A_NoSuch A_NotDir A_Exists A_TooMuch) cls d) := by
  intro cls d
  obtain ⟨oc, od, kV, doc, pm, an, cdv, ct, osl, rfl, lk, hc⟩ := F.ex
  refine fn_ofE lk hc sc_l_class (fun a vs H Q E h => ?_) (fun A outer s H vs Q E p hz hf hd hr h => ?_)
  · obtain ⟨rfl, _⟩ := h
    rfl
  · obtain ⟨rfl, z, hc, hdc, k⟩ := h
    refine ⟨_, (pss_cons (ps_set (i := 1) sc_l_class.nd rfl (Or.inl rfl) (pe_lst (pa_cons (pe_callB (call_isP List.mem_cons_self hz hf K) (by rfl) B.isinstance (by decide +kernel) (pa_cons (pv 0) (pa_cons (pe_glob (by rfl) XC_BadPath.mgC (rel_r _)) pa_nil))) (pa_cons (pe_callB (call_isP List.mem_cons_self hz hf K) (by rfl) B.isinstance (by decide +kernel) (pa_cons (pv 0) (pa_cons (pe_glob (by rfl) XC_NoSuch.mgC (rel_r _)) pa_nil))) (pa_cons (pe_callB (call_isP List.mem_cons_self hz hf K) (by rfl) B.isinstance (by decide +kernel) (pa_cons (pv 0) (pa_cons (pe_glob (by rfl) XC_NotDir.mgC (rel_r _)) pa_nil))) (pa_cons (pe_callB (call_isP List.mem_cons_self hz hf K) (by rfl) B.isinstance (by decide +kernel) (pa_cons (pv 0) (pa_cons (pe_glob (by rfl) XC_IsDir.mgC (rel_r _)) pa_nil))) pa_nil))))))
    (pss_cons (ps_set (i := 1) sc_l_class.nd rfl (Or.inl rfl) (pe_op op_cat (pv 1) (pe_lst (pa_cons (pe_callB (call_isP List.mem_cons_self hz hf K) (by rfl) B.isinstance (by decide +kernel) (pa_cons (pv 0) (pa_cons (pe_glob (by rfl) XC_Exists.mgC (rel_r _)) pa_nil))) (pa_cons (pe_callB (call_isP List.mem_cons_self hz hf K) (by rfl) B.isinstance (by decide +kernel) (pa_cons (pv 0) (pa_cons (pe_glob (by rfl) XC_NotEmpty.mgC (rel_r _)) pa_nil))) (pa_cons (pe_callB (call_isP List.mem_cons_self hz hf K) (by rfl) B.isinstance (by decide +kernel) (pa_cons (pv 0) (pa_cons (pe_glob (by rfl) XC_Inside.mgC (rel_r _)) pa_nil))) (pa_cons (pe_callB (call_isP List.mem_cons_self hz hf K) (by rfl) B.isinstance (by decide +kernel) (pa_cons (pv 0) (pa_cons (pe_glob (by rfl) XC_Fixed.mgC (rel_r _)) pa_nil))) pa_nil)))))))
    (pss_cons (ps_set (i := 1) sc_l_class.nd rfl (Or.inl rfl) (pe_op op_cat (pv 1) (pe_lst (pa_cons (pe_callB (call_isP List.mem_cons_self hz hf K) (by rfl) B.isinstance (by decide +kernel) (pa_cons (pv 0) (pa_cons (pe_glob (by rfl) XC_BadWord.mgC (rel_r _)) pa_nil))) (pa_cons (pe_callB (call_isP List.mem_cons_self hz hf K) (by rfl) B.isinstance (by decide +kernel) (pa_cons (pv 0) (pa_cons (pe_glob (by rfl) XC_BadSpot.mgC (rel_r _)) pa_nil))) (pa_cons (pe_callB (call_isP List.mem_cons_self hz hf K) (by rfl) B.isinstance (by decide +kernel) (pa_cons (pv 0) (pa_cons (pe_glob (by rfl) XC_TooMuch.mgC (rel_r _)) pa_nil))) pa_nil))))))
    (pss_cons (ps_if (PW.pt (pw_or (pt_cmpR op_ne (pe_bmK K PySem.F.plainAttrs_list PySem.F.slot_list_count PySem.F.type_list_count (mt_countF K) (pv 1) (pa_cons pe_bl pa_nil)) pe_int (nomark _)) (pw_or (pt_not (pt_val (pe_callB (call_isP List.mem_cons_self hz hf K) (by rfl) B.isinstance (by decide +kernel) (pa_cons (pv 0) (pa_cons (pe_bltn (v := .ty "ValueError") (by rfl) BV (by decide +kernel) rfl) pa_nil))))) (pw_or1 (pt_val (pe_callB (call_isP List.mem_cons_self hz hf K) (by rfl) B.isinstance (by decide +kernel) (pa_cons (pv 0) (pa_cons (pe_glob (by rfl) XC_DiskError.mgC (rel_r _)) pa_nil))))))))
      (pss_one (ps_ret pe_str))
      pss_nil)
    (pss_cons (ps_set (i := 2) sc_l_class.nd rfl (Or.inl rfl) (pe_lst (pa_cons pe_str (pa_cons pe_str (pa_cons pe_str (pa_cons pe_str (pa_cons pe_str (pa_cons pe_str (pa_cons pe_str (pa_cons pe_str (pa_cons pe_str (pa_cons pe_str pa_nil))))))))))))
    (pss_one (ps_ret (pe_ix (ix_listK K) (pe_op op_cat (pv 2) (pe_lst (pa_cons pe_str pa_nil))) (pe_bmK K PySem.F.plainAttrs_list PySem.F.slot_list_index PySem.F.type_list_index mt_index (pv 1) (pa_cons pe_bl pa_nil)) (fun _ _ => rfl))))))))), ?_⟩
    obtain ⟨D, b0, b1, b2, b3, b4, b5, b6, b7, b8, b9, b10, j, rfl, ek, k0, k1, k2, k3, k4, k5, k6, k7, k8, k9, k10, kv, kd, hn, hj, hm, hz⟩ : ∃ (D : Addr) (b0 b1 b2 b3 b4 b5 b6 b7 b8 b9 b10 : Bool) (j : Nat), cls = .ref D ∧ PySem.W.ExcK K D ∧ PySem.W.kitOne K (.ref D) (.ref A_BadPath) = some b0 ∧ PySem.W.kitOne K (.ref D) (.ref A_NoSuch) = some b1 ∧ PySem.W.kitOne K (.ref D) (.ref A_NotDir) = some b2 ∧ PySem.W.kitOne K (.ref D) (.ref A_IsDir) = some b3 ∧ PySem.W.kitOne K (.ref D) (.ref A_Exists) = some b4 ∧ PySem.W.kitOne K (.ref D) (.ref A_NotEmpty) = some b5 ∧ PySem.W.kitOne K (.ref D) (.ref A_Inside) = some b6 ∧ PySem.W.kitOne K (.ref D) (.ref A_Fixed) = some b7 ∧ PySem.W.kitOne K (.ref D) (.ref A_BadWord) = some b8 ∧ PySem.W.kitOne K (.ref D) (.ref A_BadSpot) = some b9 ∧ PySem.W.kitOne K (.ref D) (.ref A_TooMuch) = some b10 ∧ PySem.W.kitOne K (.ref D) (.type "ValueError") = some true ∧ PySem.W.kitOne K (.ref D) (.ref A_DiskError) = some false ∧
        (([b0, b1, b2, b3, b4, b5, b6, b7, b8, b9, b10].map V.bl).countP (fun z => eqV z (.bl true)) = 1) ∧ ([b0, b1, b2, b3, b4, b5, b6, b7, b8, b9, b10].map V.bl)[j]? = some (.bl true) ∧ ([b0, b1, b2, b3, b4, b5, b6, b7, b8, b9, b10].take j).all (fun b => !b) = true ∧ atI ([.str "badpath", .str "nosuch", .str "notdir", .str "isdir", .str "exists", .str "notempty", .str "inside", .str "fixed", .str "badword", .str "badspot", .str "much"] : List V) (j : Int) = some (.str z) := by
      rcases hc with ⟨rfl, rfl⟩ | ⟨rfl, rfl⟩ | ⟨rfl, rfl⟩ | ⟨rfl, rfl⟩ | ⟨rfl, rfl⟩
      · exact ⟨A_BadPath, true, false, false, false, false, false, false, false, false, false, false, 0, rfl, XC_BadPath.ek, XK_BadPath_BadPath, XK_BadPath_NoSuch, XK_BadPath_NotDir, XK_BadPath_IsDir, XK_BadPath_Exists, XK_BadPath_NotEmpty, XK_BadPath_Inside, XK_BadPath_Fixed, XK_BadPath_BadWord, XK_BadPath_BadSpot, XK_BadPath_TooMuch, XK_BadPath_ValueError, XK_BadPath_DiskError, by decide, rfl, rfl, rfl⟩
      · exact ⟨A_NoSuch, false, true, false, false, false, false, false, false, false, false, false, 1, rfl, XC_NoSuch.ek, XK_NoSuch_BadPath, XK_NoSuch_NoSuch, XK_NoSuch_NotDir, XK_NoSuch_IsDir, XK_NoSuch_Exists, XK_NoSuch_NotEmpty, XK_NoSuch_Inside, XK_NoSuch_Fixed, XK_NoSuch_BadWord, XK_NoSuch_BadSpot, XK_NoSuch_TooMuch, XK_NoSuch_ValueError, XK_NoSuch_DiskError, by decide, rfl, rfl, rfl⟩
      · exact ⟨A_NotDir, false, false, true, false, false, false, false, false, false, false, false, 2, rfl, XC_NotDir.ek, XK_NotDir_BadPath, XK_NotDir_NoSuch, XK_NotDir_NotDir, XK_NotDir_IsDir, XK_NotDir_Exists, XK_NotDir_NotEmpty, XK_NotDir_Inside, XK_NotDir_Fixed, XK_NotDir_BadWord, XK_NotDir_BadSpot, XK_NotDir_TooMuch, XK_NotDir_ValueError, XK_NotDir_DiskError, by decide, rfl, rfl, rfl⟩
      · exact ⟨A_Exists, false, false, false, false, true, false, false, false, false, false, false, 4, rfl, XC_Exists.ek, XK_Exists_BadPath, XK_Exists_NoSuch, XK_Exists_NotDir, XK_Exists_IsDir, XK_Exists_Exists, XK_Exists_NotEmpty, XK_Exists_Inside, XK_Exists_Fixed, XK_Exists_BadWord, XK_Exists_BadSpot, XK_Exists_TooMuch, XK_Exists_ValueError, XK_Exists_DiskError, by decide, rfl, rfl, rfl⟩
      · exact ⟨A_TooMuch, false, false, false, false, false, false, false, false, false, false, true, 10, rfl, XC_TooMuch.ek, XK_TooMuch_BadPath, XK_TooMuch_NoSuch, XK_TooMuch_NotDir, XK_TooMuch_IsDir, XK_TooMuch_Exists, XK_TooMuch_NotEmpty, XK_TooMuch_Inside, XK_TooMuch_Fixed, XK_TooMuch_BadWord, XK_TooMuch_BadSpot, XK_TooMuch_TooMuch, XK_TooMuch_ValueError, XK_TooMuch_DiskError, by decide, rfl, rfl, rfl⟩
    have dm : ∀ {H'}, Same H H' → DctOk d H' := fun {H'} s => hdc.elim .inl fun ⟨dd, fs, e, h⟩ => .inr ⟨dd, fs, e, s _ _ h⟩
    refine ⟨_, rfl, _, _, D, b0, rfl, rfl, ek, hdc, .own _, k0, ?_⟩
    refine ⟨_, rfl, _, _, D, b1, rfl, rfl, ek, hdc, .own _, k1, ?_⟩
    refine ⟨_, rfl, _, _, D, b2, rfl, rfl, ek, hdc, .own _, k2, ?_⟩
    refine ⟨_, rfl, _, _, D, b3, rfl, rfl, ek, hdc, .own _, k3, ?_⟩
    refine ⟨(by show 4 ≤ sizeLine; decide), fun l1 hl1 => ?_⟩
    have s1 : Same H (upd H l1 (.lst [.bl b0, .bl b1, .bl b2, .bl b3])) := Same.new hl1
    have g1 : (upd H l1 (.lst [.bl b0, .bl b1, .bl b2, .bl b3])) l1 = some (.lst [.bl b0, .bl b1, .bl b2, .bl b3]) := upd_same
    generalize (upd H l1 (.lst [.bl b0, .bl b1, .bl b2, .bl b3])) = H1 at s1 g1 ⊢
    refine ⟨_, rfl, ?_⟩
    refine ⟨_, rfl, _, _, D, b4, rfl, rfl, ek, dm s1, .own _, k4, ?_⟩
    refine ⟨_, rfl, _, _, D, b5, rfl, rfl, ek, dm s1, .own _, k5, ?_⟩
    refine ⟨_, rfl, _, _, D, b6, rfl, rfl, ek, dm s1, .own _, k6, ?_⟩
    refine ⟨_, rfl, _, _, D, b7, rfl, rfl, ek, dm s1, .own _, k7, ?_⟩
    refine ⟨(by show 4 ≤ sizeLine; decide), fun l2 hl2 => ⟨l1, l2, _, _, rfl, rfl, by rw [upd_ne (ne_of_none g1 hl2)]; exact g1, upd_same, (by show 8 ≤ sizeLine; decide), fun l3 hl3 => ?_⟩⟩
    have s3 : Same H (upd (upd H1 l2 (.lst [.bl b4, .bl b5, .bl b6, .bl b7])) l3 (.lst ([.bl b0, .bl b1, .bl b2, .bl b3] ++ [.bl b4, .bl b5, .bl b6, .bl b7]))) := Same.newer (Same.newer s1 (same_none s1 hl2)) (same_none s1 (ne_none2 hl3))
    have g3 : (upd (upd H1 l2 (.lst [.bl b4, .bl b5, .bl b6, .bl b7])) l3 (.lst ([.bl b0, .bl b1, .bl b2, .bl b3] ++ [.bl b4, .bl b5, .bl b6, .bl b7]))) l3 = some (.lst [.bl b0, .bl b1, .bl b2, .bl b3, .bl b4, .bl b5, .bl b6, .bl b7]) := upd_same
    generalize (upd (upd H1 l2 (.lst [.bl b4, .bl b5, .bl b6, .bl b7])) l3 (.lst ([.bl b0, .bl b1, .bl b2, .bl b3] ++ [.bl b4, .bl b5, .bl b6, .bl b7]))) = H3 at s3 g3 ⊢
    refine ⟨_, rfl, ?_⟩
    refine ⟨_, rfl, _, _, D, b8, rfl, rfl, ek, dm s3, .own _, k8, ?_⟩
    refine ⟨_, rfl, _, _, D, b9, rfl, rfl, ek, dm s3, .own _, k9, ?_⟩
    refine ⟨_, rfl, _, _, D, b10, rfl, rfl, ek, dm s3, .own _, k10, ?_⟩
    refine ⟨(by show 3 ≤ sizeLine; decide), fun l4 hl4 => ⟨l3, l4, _, _, rfl, rfl, by rw [upd_ne (ne_of_none g3 hl4)]; exact g3, upd_same, (by show 11 ≤ sizeLine; decide), fun l5 hl5 => ?_⟩⟩
    have s5 : Same H (upd (upd H3 l4 (.lst [.bl b8, .bl b9, .bl b10])) l5 (.lst ([.bl b0, .bl b1, .bl b2, .bl b3, .bl b4, .bl b5, .bl b6, .bl b7] ++ [.bl b8, .bl b9, .bl b10]))) := Same.newer (Same.newer s3 (same_none s3 hl4)) (same_none s3 (ne_none2 hl5))
    have g5 : (upd (upd H3 l4 (.lst [.bl b8, .bl b9, .bl b10])) l5 (.lst ([.bl b0, .bl b1, .bl b2, .bl b3, .bl b4, .bl b5, .bl b6, .bl b7] ++ [.bl b8, .bl b9, .bl b10]))) l5 = some (.lst ([b0, b1, b2, b3, b4, b5, b6, b7, b8, b9, b10].map V.bl)) := upd_same
    generalize (upd (upd H3 l4 (.lst [.bl b8, .bl b9, .bl b10])) l5 (.lst ([.bl b0, .bl b1, .bl b2, .bl b3, .bl b4, .bl b5, .bl b6, .bl b7] ++ [.bl b8, .bl b9, .bl b10]))) = H5 at s5 g5 ⊢
    refine ⟨_, rfl, .inl ⟨rfl, _, SqL.of g5⟩, l5, _, _, rfl, rfl, SqL.of g5, rfl, ?_, rfl, _, rfl, ?_⟩
    · rfl
    rw [hn]
    refine iteF ?_
    refine ⟨_, rfl, _, _, D, true, rfl, rfl, ek, dm s5, .ty _, kv, _, rfl, ?_⟩
    refine iteF ?_
    refine ⟨_, rfl, _, _, D, false, rfl, rfl, ek, dm s5, .own _, kd, _, rfl, ?_⟩
    refine iteF ?_
    refine ⟨(by show 10 ≤ sizeLine; decide), fun l6 hl6 => ?_⟩
    have s6 : Same H5 (upd H5 l6 (.lst [.str "badpath", .str "nosuch", .str "notdir", .str "isdir", .str "exists", .str "notempty", .str "inside", .str "fixed", .str "badword", .str "badspot"])) := Same.new hl6
    have g6 : (upd H5 l6 (.lst [.str "badpath", .str "nosuch", .str "notdir", .str "isdir", .str "exists", .str "notempty", .str "inside", .str "fixed", .str "badword", .str "badspot"])) l6 = some (.lst [.str "badpath", .str "nosuch", .str "notdir", .str "isdir", .str "exists", .str "notempty", .str "inside", .str "fixed", .str "badword", .str "badspot"]) := upd_same
    generalize (upd H5 l6 (.lst [.str "badpath", .str "nosuch", .str "notdir", .str "isdir", .str "exists", .str "notempty", .str "inside", .str "fixed", .str "badword", .str "badspot"])) = H6 at s6 g6 ⊢
    refine ⟨_, rfl, (by show 1 ≤ sizeLine; decide), fun l7 hl7 => ⟨l6, l7, _, _, rfl, rfl, by rw [upd_ne (ne_of_none g6 hl7)]; exact g6, upd_same, (by show 11 ≤ sizeLine; decide), fun l8 hl8 => ?_⟩⟩
    have s8 : Same H6 (upd (upd H6 l7 (.lst [.str "much"])) l8 (.lst ([.str "badpath", .str "nosuch", .str "notdir", .str "isdir", .str "exists", .str "notempty", .str "inside", .str "fixed", .str "badword", .str "badspot"] ++ [.str "much"]))) := Same.newer (Same.new hl7) (ne_none2 hl8)
    have g8 : (upd (upd H6 l7 (.lst [.str "much"])) l8 (.lst ([.str "badpath", .str "nosuch", .str "notdir", .str "isdir", .str "exists", .str "notempty", .str "inside", .str "fixed", .str "badword", .str "badspot"] ++ [.str "much"]))) l8 = some (.lst ([.str "badpath", .str "nosuch", .str "notdir", .str "isdir", .str "exists", .str "notempty", .str "inside", .str "fixed", .str "badword", .str "badspot"] ++ [.str "much"])) := upd_same
    generalize (upd (upd H6 l7 (.lst [.str "much"])) l8 (.lst ([.str "badpath", .str "nosuch", .str "notdir", .str "isdir", .str "exists", .str "notempty", .str "inside", .str "fixed", .str "badword", .str "badspot"] ++ [.str "much"]))) = H8 at s8 g8 ⊢
    have g9 := s8 _ _ (s6 _ _ g5)
    refine ⟨_, rfl, .inl ⟨rfl, _, SqL.of g9⟩, l5, _, _, j, _, rfl, rfl, SqL.of g9, rfl, rfl, hj, rfl, first_true hm, ?_⟩
    refine ⟨l8, _, _, _, rfl, rfl, SqL.of g8, hz, ?_⟩
    exact k _ ((s5.trans s6).trans s8)
abbrev s_l_going : Stmt := topS 40
abbrev N_l_going : List Str := ["model", "names", "k"]
theorem sc_l_going : FnScope N_l_going ["model", "names"] (defScope s_l_going) := ⟨rfl, rfl, rfl, by decide +kernel, rfl, by decide +kernel, by decide +kernel⟩
def sp_l_going_m (K : PySem.W.Frag) : Sp := fun vs H Q _ => ∃ (D : Md) (L : TLs) (ns : List Str) (t : Addr), vs = [.ref D.m, .ref t] ∧ MdAt H D ∧ Rl L D.M D.F ∧ H t = some (.tup (ns.map V.str)) ∧ Nm10 ns ∧
  (∀ n H', goW L 1 ns = .inr n → Same H H' → Q .non H') ∧ (∀ p T H', goW L 1 ns = .inl p → Same H H' → H T = none → H' T = some (.tup [.str (kdW p.1), .str (pathOf (ns.take p.2))]) → Q (.ref T) H')
theorem ok_l_going {f : Addr} {fd : FuncData} (F : Fun K "_law_going" "_law_going" s_l_going f fd) (B : Bt mg) (C_law_path : Cal P w K mg base CX0 "_law_path" 1 ["names"] (sp_l_path_m K)) : GnOk P w K mg base CX0 2 f fd ["model", "names"] (sp_l_going_m K) := by
  refine gn_fun F sc_l_going (fun vs H Q E h => ?_) (fun cdv A outer s H vs Q E hr h => ?_)
  · obtain ⟨D, L, ns, t, rfl, _⟩ := h
    rfl
  · obtain ⟨D, L, ns, t, rfl, hm, hr', ht, hn, k1, k2⟩ := h
    refine ⟨_, (pss_cons (ps_for PassesOwn.never rfl (pi_range1 (by rfl) B.range (pa_cons (pe_callB (call_lenK K) (by rfl) B.len (by decide +kernel) (pa_cons (pv 1) pa_nil)) pa_nil)) (pg_name (i := 2) sc_l_going.nd rfl (Or.inl rfl))
      (pss_cons (ps_if (pt_cmp (pc_din hr.hu (pe_dget hr.hu (pe_dget hr.hu (pv 0) pe_str (fun _ _ => rfl)) (pe_slice (sl_tupAK K) (pv 1) po_none (po_some (pv 2))) (fun _ _ => rfl)) (pe_dget hr.hu (pv 0) pe_str (fun _ _ => rfl))))
      (pss_one (ps_ret (pe_tup (pa_cons pe_str (pa_cons (pe_cal C_law_path (hr.mono (by decide)) (by rfl) pass0 (pa_cons (pe_slice (sl_tupAK K) (pv 1) po_none (po_some (pv 2))) pa_nil)) pa_nil)))))
      pss_nil)
    (pss_one (ps_if (pt_cmp (pc_dnotin hr.hu (pe_slice (sl_tupAK K) (pv 1) po_none (po_some (pe_op op_add (pv 2) pe_int))) (pe_dget hr.hu (pv 0) pe_str (fun _ _ => rfl))))
      (pss_one (ps_ret (pe_tup (pa_cons pe_str (pa_cons (pe_cal C_law_path (hr.mono (by decide)) (by rfl) pass0 (pa_cons (pe_slice (sl_tupAK K) (pv 1) po_none (po_some (pe_op op_add (pv 2) pe_int))) pa_nil)) pa_nil)))))
      pss_nil))))
    (pss_one (ps_ret pe_non))), ?_⟩
    have hl10 := hn.1
    refine ⟨_, rfl, _, ns.length, rfl, .inr ⟨_, SqT.of ht, by simp⟩, ns.length, rfl, by omega, by omega, for_range (lo := 0) (n := ((ns.length : Nat) : Int).toNat) (fun i σ H' => ∃ v2 n, σ = [some (.ref D.m), some (.ref t), v2] ∧ Same H H' ∧ goW L 1 (ns.take i) = .inr n) ⟨_, 1, rfl, Same.refl H, rfl⟩ ?_ ?_⟩
    · rintro i σ H2 hi ⟨v2, n, rfl, s2, hg⟩
      have hi' : i < ns.length := by omega
      obtain ⟨z, hz⟩ : ∃ z, ns[i]? = some z := ⟨_, List.getElem?_eq_getElem hi'⟩
      obtain ⟨g1, g2⟩ := goW_step hg hz
      have hm2 := hm.sm s2
      refine ⟨_, rfl, D.m, _, rfl, hm2.gA, _, rfl, _, rfl, _, rfl, slA_take (i := i) (s2 _ _ ht) (by omega) (Nat.le_of_lt hi') fun p H3 s3 hp => ?_⟩
      have hm3 := hm2.sm s3
      have d3 := dgAt hm3.ha hp
      rw [hr'.look hg] at d3
      refine ⟨D.a, _, rfl, d3, _, rfl, D.m, _, rfl, hm3.gW, D.w, _, rfl, dgWd hm3.hw n, _, rfl, ?_⟩
      have s03 := s2.trans s3
      obtain ⟨a, o, hnd⟩ := hr'.isSome hg
      cases o with
      | file ws =>
        obtain ⟨b, hb⟩ := hr'.wd hnd
        rw [hb]
        refine iteT ?_
        have eb : goW L 1 ns = .inl (false, i) := by
          rw [g1, goW_cons, hnd]
          show Sum.inl (false, 0 + i) = _
          rw [Nat.zero_add]
        refine ⟨_, rfl, _, rfl, _, rfl, slA_take (i := i) (s03 _ _ ht) (by omega) (Nat.le_of_lt hi') fun p' H4 s4 hp' => ?_⟩
        refine ⟨p', ns.take i, rfl, hp', hn.take i, (by show 2 ≤ sizeLine; decide), fun T hT => ?_⟩
        have s04 := s03.trans s4
        exact k2 _ T _ eb (s04.trans (Same.new hT)) (same_none s04 hT) upd_same
      | dir es =>
        rw [hr'.wd_no hnd]
        refine iteF ?_
        refine ⟨_, rfl, _, rfl, _, _, rfl, rfl, _, rfl, slA_take (i := i + 1) (s03 _ _ ht) (by omega) hi' fun p' H4 s4 hp' => ?_⟩
        have hm4 := hm3.sm s4
        have s04 := s03.trans s4
        refine ⟨_, rfl, D.m, _, rfl, hm4.gA, D.a, _, rfl, dgAt hm4.ha hp', _, rfl, ?_⟩
        cases ez : entAt es z with
        | none =>
          have eb : goW L 1 ns = .inl (true, i + 1) := by
            rw [g1, goW_cons, hnd]
            dsimp only
            rw [ez]
            show Sum.inl (true, 1 + i) = _
            rw [Nat.add_comm]
          have e2 : goW L 1 (ns.take (i + 1)) = .inl (true, i + 1) := by
            rw [g2, goW_cons, hnd]
            dsimp only
            rw [ez]
            show Sum.inl (true, 1 + i) = _
            rw [Nat.add_comm]
          rw [hr'.look_no e2]
          refine iteT ?_
          refine ⟨_, rfl, _, rfl, _, _, rfl, rfl, _, rfl, slA_take (i := i + 1) (s04 _ _ ht) (by omega) hi' fun p5 H5 s5 hp5 => ?_⟩
          refine ⟨p5, ns.take (i + 1), rfl, hp5, hn.take (i + 1), (by show 2 ≤ sizeLine; decide), fun T hT => ?_⟩
          have s05 := s04.trans s5
          exact k2 _ T _ eb (s05.trans (Same.new hT)) (same_none s05 hT) upd_same
        | some m =>
          have e2 : goW L 1 (ns.take (i + 1)) = .inr m := by
            rw [g2, goW_cons, hnd]
            dsimp only
            rw [ez]
            rfl
          rw [hr'.look e2]
          refine iteF ?_
          exact ⟨_, m, rfl, s04, e2⟩
    · rintro σ H2 ⟨v2, n, rfl, s2, hg⟩
      rw [List.take_of_length_le (by omega)] at hg
      exact k1 n _ hg s2
abbrev s_l_above : Stmt := topS 41
abbrev N_l_above : List Str := ["model", "names", "wrong"]
theorem sc_l_above : FnScope N_l_above ["model", "names"] (defScope s_l_above) := ⟨rfl, rfl, rfl, by decide +kernel, rfl, by decide +kernel, by decide +kernel⟩
def sp_l_above_m (K : PySem.W.Frag) : Sp := fun vs H Q _ => ∃ (D : Md) (L : TLs) (ns : List Str) (t : Addr), vs = [.ref D.m, .ref t] ∧ MdAt H D ∧ Rl L D.M D.F ∧ H t = some (.tup (ns.map V.str)) ∧ Nm10 ns ∧
  (∀ n H', abW L ns = .inr n → Same H H' → Q .non H') ∧ (∀ p T H', abW L ns = .inl p → Same H H' → H T = none → H' T = some (.tup [.str (kdW p.1), .str (pathOf (ns.dropLast.take p.2))]) → Q (.ref T) H')
theorem ok_l_above {f : Addr} {fd : FuncData} (F : Fun K "_law_above" "_law_above" s_l_above f fd) (B : Bt mg) (C_law_going : Cal P w K mg base CX0 "_law_going" 2 ["model", "names"] (sp_l_going_m K)) (C_law_path : Cal P w K mg base CX0 "_law_path" 1 ["names"] (sp_l_path_m K)) : GnOk P w K mg base CX0 3 f fd ["model", "names"] (sp_l_above_m K) := by
  refine gn_fun F sc_l_above (fun vs H Q E h => ?_) (fun cdv A outer s H vs Q E hr h => ?_)
  · obtain ⟨D, L, ns, t, rfl, _⟩ := h
    rfl
  · obtain ⟨D, L, ns, t, rfl, hm, hr', ht, hn, k1, k2⟩ := h
    refine ⟨_, (pss_cons (ps_set (i := 2) sc_l_above.nd rfl (Or.inl rfl) (pe_cal C_law_going (hr.mono (by decide)) (by rfl) pass0 (pa_cons (pv 0) (pa_cons (pe_slice (sl_tupAK K) (pv 1) po_none (po_some (pe_un un_neg pe_int))) pa_nil))))
    (pss_cons (ps_if (PW.pt (pw_and (pt_cmpR op_isN (pv 2) pe_non (nomark _)) (pw_and1 (pt_cmp (pc_din hr.hu (pe_dget hr.hu (pe_dget hr.hu (pv 0) pe_str (fun _ _ => rfl)) (pe_slice (sl_tupAK K) (pv 1) po_none (po_some (pe_un un_neg pe_int))) (fun _ _ => rfl)) (pe_dget hr.hu (pv 0) pe_str (fun _ _ => rfl)))))))
      (pss_one (ps_set (i := 2) sc_l_above.nd rfl (Or.inl rfl) (pe_tup (pa_cons pe_str (pa_cons (pe_cal C_law_path (hr.mono (by decide)) (by rfl) pass0 (pa_cons (pe_slice (sl_tupAK K) (pv 1) po_none (po_some (pe_un un_neg pe_int))) pa_nil)) pa_nil)))))
      pss_nil)
    (pss_one (ps_ret (pv 2))))), ?_⟩
    refine ⟨_, rfl, _, rfl, _, rfl, _, rfl, slA_dl ht fun p H1 s1 hp => ?_⟩
    have hm1 := hm.sm s1
    have ab : ∀ n, goW L 1 ns.dropLast = .inr n → abW L ns = (match ndAt L n with | some (_, .dir _) => .inr n | _ => .inl (false, ns.dropLast.length)) := fun n e => by
      unfold abW
      rw [e]
    refine ⟨D, L, ns.dropLast, p, rfl, hm1, hr', hp, hn.dl, fun n H2 hg s2 => ?_, fun q T H2 hg s2 hT gT => ?_⟩
    · refine ⟨_, rfl, rfl, _, rfl, iteT ?_⟩
      have s02 := s1.trans s2
      have hm2 := hm1.sm s2
      refine ⟨_, rfl, D.m, _, rfl, hm2.gA, _, rfl, _, rfl, _, rfl, slA_dl (s02 _ _ ht) fun p3 H3 s3 hp3 => ?_⟩
      have hm3 := hm2.sm s3
      have d3 := dgAt hm3.ha hp3
      rw [hr'.look hg] at d3
      refine ⟨D.a, _, rfl, d3, _, rfl, D.m, _, rfl, hm3.gW, D.w, _, rfl, dgWd hm3.hw n, _, rfl, ?_⟩
      have s03 := s02.trans s3
      obtain ⟨a, o, hnd⟩ := hr'.isSome hg
      have ab := ab n hg
      rw [hnd] at ab
      cases o with
      | file ws =>
        obtain ⟨b, hb⟩ := hr'.wd hnd
        rw [hb]
        refine iteT ?_
        refine ⟨_, rfl, _, rfl, _, rfl, slA_dl (s03 _ _ ht) fun p4 H4 s4 hp4 => ?_⟩
        refine ⟨p4, ns.dropLast, rfl, hp4, hn.dl, (by show 2 ≤ sizeLine; decide), fun T hT => ?_⟩
        have s04 := s03.trans s4
        refine ⟨_, rfl, k2 _ T _ ab (s04.trans (Same.new hT)) (same_none s04 hT) ?_⟩
        rw [upd_same, List.take_length]
        rfl
      | dir es =>
        rw [hr'.wd_no hnd]
        exact iteF ⟨_, rfl, k1 n _ ab s03⟩
    · refine ⟨_, rfl, rfl, _, rfl, iteF ?_⟩
      exact ⟨_, rfl, k2 q T _ (by unfold abW; rw [hg]) (s1.trans s2) (same_none s1 hT) gT⟩
abbrev s_l_put_due : Stmt := topS 45
abbrev N_l_put_due : List Str := ["model", "word", "names", "wrong"]
theorem sc_l_put_due : FnScope N_l_put_due ["model", "word", "names"] (defScope s_l_put_due) := ⟨rfl, rfl, rfl, by decide +kernel, rfl, by decide +kernel, by decide +kernel⟩
def sp_l_put_due (K : PySem.W.Frag) : Sp := fun vs H Q _ => ∃ (D : Md) (L : TLs) (ns : List Str) (t : Addr) (wd : Str), vs = [.ref D.m, .str wd, .ref t] ∧ MdAt H D ∧ Rl L D.M D.F ∧ TrOk L D.nx ∧ H t = some (.tup (ns.map V.str)) ∧ Nm10 ns ∧ D.M.length < 900 ∧
  (∀ kd f, dueP L ns = some (kd, f) → ∀ T H', Same H H' → H T = none → H' T = some (.tup [.str kd, .str f]) → Q (.ref T) H') ∧
  (dueP L ns = none → ∀ T b H', OffM D H H' → H T = none → H b = none → H' T = some (.tup [.str "done", .non]) → MdAt H' (D.put ns (if wd = "create" then some b else none)) → Q (.ref T) H')
theorem ok_l_put_due {f : Addr} {fd : FuncData} (F : Fun K "_law_put_due" "_law_put_due" s_l_put_due f fd) (B : Bt mg) (C_law_above : Cal P w K mg base CX0 "_law_above" 3 ["model", "names"] (sp_l_above_m K)) (C_law_free : Cal P w K mg base CX0 "_law_free" 2 ["model", "names"] (sp_l_free_m K)) (C_law_path : Cal P w K mg base CX0 "_law_path" 1 ["names"] (sp_l_path_m K)) : GnOk P w K mg base CX0 4 f fd ["model", "word", "names"] (sp_l_put_due K) := by
  refine gn_fun F sc_l_put_due (fun vs H Q E h => ?_) (fun cdv A outer s H vs Q E hr h => ?_)
  · obtain ⟨D, L, ns, t, wd, rfl, _⟩ := h
    rfl
  · obtain ⟨D, L, ns, t, wd, rfl, hm, hr', wf, ht, hn, h900, k1, k2⟩ := h
    refine ⟨_, (pss_cons (ps_if (pt_cmpR op_gt (pe_callB (call_lenK K) (by rfl) B.len (by decide +kernel) (pa_cons (pv 2) pa_nil)) pe_int (nomark _))
      (pss_one (ps_ret (pe_tup (pa_cons pe_str (pa_cons (pe_cal C_law_path (hr.mono (by decide)) (by rfl) pass0 (pa_cons (pv 2) pa_nil)) pa_nil)))))
      pss_nil)
    (pss_cons (ps_if (pt_cmpR (op_eqDK K hr.units) (pv 2) (pe_tup pa_nil) (nomark _))
      (pss_one (ps_ret (pe_tup (pa_cons pe_str (pa_cons pe_str pa_nil)))))
      pss_nil)
    (pss_cons (ps_set (i := 3) sc_l_put_due.nd rfl (Or.inl rfl) (ST.pe_orTK K (pe_cal C_law_above (hr.mono (by decide)) (by rfl) pass0 (pa_cons (pv 0) (pa_cons (pv 2) pa_nil))) (pe_one (pe_cal C_law_free (hr.mono (by decide)) (by rfl) pass0 (pa_cons (pv 0) (pa_cons (pv 2) pa_nil))))))
    (pss_cons (ps_if (PW.pt (pw_and (pt_cmpR op_isN (pv 3) pe_non (nomark _)) (pw_and1 (pt_cmpR op_eq (pe_callB (ST.call_lenSI P w) (by rfl) B.len (by decide +kernel) (pa_cons (pe_callTy (cr_setIK P w K rfl) (by rfl) B.set (by decide +kernel) (pa_cons (pe_callTy (ST.call_listVT rfl) (by rfl) B.list (by decide +kernel) (pa_cons (pe_bm0 PySem.F.plainAttrs_dict PySem.F.slot_dict_values PySem.F.type_dict_values ST.mt_valuesT (pe_dget hr.hu (pv 0) pe_str (fun _ _ => rfl))) pa_nil)) pa_nil)) pa_nil)) pe_int (nomark _)))))
      (pss_one (ps_set (i := 3) sc_l_put_due.nd rfl (Or.inl rfl) (pe_tup (pa_cons pe_str (pa_cons pe_str pa_nil)))))
      pss_nil)
    (pss_cons (ps_if (pt_cmpR op_isN (pv 3) pe_non (nomark _))
      (pss_cons (ps_dput hr.hu (pe_dget hr.hu (pv 0) pe_str (fun _ _ => rfl)) (pv 2) (pe_dget hr.hu (pv 0) pe_str (fun _ _ => rfl)) rfl)
    (pss_cons (ps_if (pt_cmpR op_eq (pv 1) pe_str (nomark _))
      (pss_one (ps_dput hr.hu (pe_dget hr.hu (pv 0) pe_str (fun _ _ => rfl)) (pe_dget hr.hu (pv 0) pe_str (fun _ _ => rfl)) (pe_lst pa_nil) rfl))
      pss_nil)
    (pss_cons (ps_dput hr.hu (pv 0) pe_str (pe_op op_add (pe_dget hr.hu (pv 0) pe_str (fun _ _ => rfl)) pe_int) rfl)
    (pss_one (ps_set (i := 3) sc_l_put_due.nd rfl (Or.inl rfl) (pe_tup (pa_cons pe_str (pa_cons pe_non pa_nil))))))))
      pss_nil)
    (pss_one (ps_ret (pv 3)))))))), ?_⟩
    refine ⟨_, rfl, _, ns.length, rfl, .inr ⟨_, SqT.of ht, by simp⟩, _, _, rfl, rfl, _, rfl, ite2 (fun c => ?_) fun c => ?_⟩
    · refine ⟨_, rfl, t, ns, rfl, ht, hn, (by show 2 ≤ sizeLine; decide), fun T hT => ?_⟩
      exact k1 _ _ (dueP_long (by have := of_decide_eq_true c; omega)) T _ (Same.new hT) hT upd_same
    have h8 : ¬ 8 < ns.length := fun q => c (decide_eq_true (by omega))
    refine ⟨_, rfl, (by show 0 ≤ sizeLine; decide), fun u hu => eq_strs (xs := ns) (ys := []) ((Same.new hu) _ _ ht) upd_same hn.2 (fun _ h => nomatch h) ⟨_, rfl, ?_⟩⟩
    have s1 : Same H (upd H u (.tup [])) := Same.new hu
    generalize upd H u (.tup []) = H1 at s1 ⊢
    refine ite2 (fun c1 => ?_) fun c1 => ?_
    · refine ⟨(by show 2 ≤ sizeLine; decide), fun T hT => ?_⟩
      have : ns = [] := of_decide_eq_true c1
      subst this
      exact k1 _ _ dueP_nil T _ (s1.trans (Same.new hT)) (same_none s1 hT) upd_same
    obtain ⟨ys, z, rfl⟩ : ∃ ys z, ns = ys ++ [z] := by
      rcases List.eq_nil_or_concat ns with rfl | ⟨ys, z, rfl⟩
      · exact absurd (decide_eq_true rfl) c1
      · exact ⟨ys, z, List.concat_eq_append⟩
    have ht1 := s1 _ _ ht
    have hm1 := hm.sm s1
    have hl8 : ¬ 8 < (ys ++ [z]).length := h8
    refine ⟨_, rfl, _, rfl, D, L, ys ++ [z], t, rfl, hm1, hr', ht1, hn, fun n H2 hab s2 => ?_, fun p T H2 hab s2 hT gT => ?_⟩
    rotate_left
    · refine ⟨true, .inr (.inl ⟨_, SqT.of gT, rfl⟩), iteT ⟨_, rfl, rfl, _, rfl, iteF (iteF ⟨_, rfl, rfl, _, rfl, iteF ⟨_, rfl, ?_⟩⟩)⟩⟩
      exact k1 _ _ (dueP_ab hl8 hab) T _ (s1.trans s2) (same_none s1 hT) (by rw [gT, List.dropLast_concat])
    obtain ⟨hg, a, es, hd⟩ := abW_in hab
    have due := dueP_in hl8 hab hd
    have s02 := s1.trans s2
    have hm2 := hm.sm s02
    refine ⟨false, rfl, iteF ⟨_, rfl, _, rfl, D, L, ys, t, n, a, es, z, rfl, hm2, hr', s02 _ _ ht, hn, hg, hd, fun e T H3 s3 hT gT => ?_, fun e e20 T H3 s3 hT gT => ?_, fun e e20 H3 s3 => ?_⟩⟩
    · refine ⟨_, rfl, rfl, _, rfl, iteF (iteF ⟨_, rfl, rfl, _, rfl, iteF ⟨_, rfl, ?_⟩⟩)⟩
      rw [if_pos (Option.isSome_iff_ne_none.mpr e)] at due
      exact k1 _ _ due T _ (s02.trans s3) (same_none s02 hT) gT
    · refine ⟨_, rfl, rfl, _, rfl, iteF (iteF ⟨_, rfl, rfl, _, rfl, iteF ⟨_, rfl, ?_⟩⟩)⟩
      rw [e, if_neg (by simp), if_pos e20] at due
      exact k1 _ _ due T _ (s02.trans s3) (same_none s02 hT) gT
    · rw [e, if_neg (by simp), if_neg e20] at due
      have s03 := s02.trans s3
      have hm3 := hm.sm s03
      have sz := hr'.sz
      refine ⟨_, rfl, rfl, _, rfl, iteT ?_⟩
      refine ⟨_, rfl, D.m, _, rfl, hm3.gA, .inr (.inr (.inl ⟨rfl, .inr ⟨_, hm3.ha⟩⟩)), D.a, _, rfl, rfl, hm3.ha, fun vw hvw => ?_⟩
      have a4 := (Same.new (o := ST.valsO vw D.a) hvw) _ _ hm3.ha
      refine ⟨vw, D.a, _, rfl, upd_same, a4, fun vl hvl => ?_⟩
      have lM : ((atK D.M).map (·.2)) = (D.M.map (·.2)).map V.int := by
        unfold atK
        rw [List.map_map, List.map_map]
        rfl
      refine ⟨vl, D.M.map (·.2), rfl, SqL.of (by rw [upd_same, lM]), by rw [List.length_map]; omega, fun vs hvs => ?_⟩
      refine ⟨vs, _, rfl, upd_same, fun ks nd hk => ?_⟩
      have lk := len_ks hr' wf nd hk
      rw [lk]
      have s34 : Same H3 (upd (upd (upd H3 vw (ST.valsO vw D.a)) vl (.lst ((atK D.M).map (·.2)))) vs (SetGO (intN P w) vs (D.M.map (·.2)))) := ((Same.new hvw).trans (Same.new hvl)).trans (Same.new hvs)
      generalize upd (upd (upd H3 vw (ST.valsO vw D.a)) vl (.lst ((atK D.M).map (·.2)))) vs (SetGO (intN P w) vs (D.M.map (·.2))) = H4 at s34 ⊢
      have s04 := s03.trans s34
      refine ⟨rfl, _, rfl, ite2 (fun c => ?_) fun c => ?_⟩
      · have q : (L.length : Int) = 24 := V.int.inj (of_decide_eq_true c)
        refine ⟨(by show 2 ≤ sizeLine; decide), fun T hT => ⟨_, rfl, rfl, _, rfl, iteF ⟨_, rfl, ?_⟩⟩⟩
        rw [if_pos (by omega)] at due
        exact k1 _ _ due T _ (s04.trans (Same.new hT)) (same_none s04 hT) upd_same
      have q24 : ¬ L.length = 24 := fun q => c (decide_eq_true (by rw [q]; rfl))
      rw [if_neg q24] at due
      refine ⟨_, rfl, rfl, _, rfl, iteT ?_⟩
      have hm4 := hm.sm s04
      have ht4 := s04 _ _ ht
      have hla : (atK D.M).length < sizeLine := by
        unfold atK
        rw [List.length_map, sizeLine_eq]
        omega
      have fr := hr'.look_free hg hd e
      refine ⟨_, rfl, D.m, _, rfl, hm4.gN, _, rfl, D.m, _, rfl, hm4.gA, _, rfl, D.a, _, rfl, DPut.t hm4.ha (k := (ys ++ [z]).map Sum.inr) (by rw [kV_inr]; exact ht4) hla, ?_⟩
      rw [put_at fr]
      have o5 : ∀ b u, H4 b = some u → b ≠ D.a → upd H4 D.a (.dT (atK (D.M ++ [(ys ++ [z], D.nx)]))) b = some u := fun b u e n => by rw [upd_ne n]; exact e
      have a5 : upd H4 D.a (.dT (atK (D.M ++ [(ys ++ [z], D.nx)]))) D.a = some (.dT (atK (D.M ++ [(ys ++ [z], D.nx)]))) := upd_same
      have n5 : ∀ b, upd H4 D.a (.dT (atK (D.M ++ [(ys ++ [z], D.nx)]))) b = none → H4 b = none := fun b e => by
        by_cases q : b = D.a
        · rw [q, upd_same] at e
          cases e
        · rw [upd_ne q] at e
          exact e
      generalize upd H4 D.a (.dT (atK (D.M ++ [(ys ++ [z], D.nx)]))) = H5 at o5 a5 n5 ⊢
      have m5 := o5 _ _ hm4.hm hm4.nma
      have w5 := o5 _ _ hm4.hw hm4.nwa
      have nxt : ∀ {H6 : Hp}, H6 D.m = some (.dK (mdK D)) → DGet H6 D.m (.str "next") (some (.int D.nx)) := fun {H6} e => by rw [← md_n]; exact mdg e _
      refine ⟨_, rfl, rfl, _, rfl, ite2 (fun c1 => ?_) fun c1 => ?_⟩
      · have ew : wd = "create" := V.str.inj (of_decide_eq_true c1)
        refine ⟨Nat.zero_le _, fun b hb => ?_⟩
        have s6 : Same H5 (upd H5 b (.lst [])) := Same.new hb
        have b6 : upd H5 b (.lst []) b = some (.lst []) := upd_same
        have hb4 := n5 b hb
        generalize upd H5 b (.lst []) = H6 at s6 b6 ⊢
        have m6 := s6 _ _ m5
        have w6 := s6 _ _ w5
        refine ⟨_, rfl, D.m, _, rfl, by rw [← md_w]; exact mdg m6 _, _, rfl, D.m, _, rfl, nxt m6, D.w, _, rfl, DPut.k (k := .inl D.nx) w6 ?_, ?_⟩
        · have := hr'.fz
          unfold wdK
          rw [List.length_map, sizeLine_eq]
          omega
        rw [put_wd (ws := []) (hr'.wd_new wf)]
        have nbw : b ≠ D.w := (ne_of_none w5 hb).symm
        have o7 : ∀ c u, H6 c = some u → c ≠ D.w → upd H6 D.w (.dK (wdK (D.F ++ [(D.nx, b, [])]))) c = some u := fun c u e n => by rw [upd_ne n]; exact e
        have w7 : upd H6 D.w (.dK (wdK (D.F ++ [(D.nx, b, [])]))) D.w = some (.dK (wdK (D.F ++ [(D.nx, b, [])]))) := upd_same
        have n7 : ∀ c, upd H6 D.w (.dK (wdK (D.F ++ [(D.nx, b, [])]))) c = none → H6 c = none := fun c e => by
          by_cases q : c = D.w
          · rw [q, upd_same] at e
            cases e
          · rw [upd_ne q] at e
            exact e
        generalize upd H6 D.w (.dK (wdK (D.F ++ [(D.nx, b, [])]))) = H7 at o7 w7 n7 ⊢
        have m7 := o7 _ _ m6 hm.ne
        refine ⟨_, rfl, D.m, _, rfl, nxt m7, _, _, rfl, rfl, _, rfl, D.m, _, rfl, DPut.k (k := .inr "next") m7 (by show 3 < sizeLine; decide), (by show 2 ≤ sizeLine; decide), fun T hT => ⟨_, rfl, ?_⟩⟩
        rw [mdK_next] at hT ⊢
        have o8 : ∀ c u, H7 c = some u → c ≠ D.m → upd (upd H7 D.m (.dK [(.inr "at", .ref D.a), (.inr "words", .ref D.w), (.inr "next", .int (D.nx + 1))])) T (.tup [.str "done", .non]) c = some u := fun c u e n => by
          rw [upd_ne (ne_of_none (by rw [upd_ne n]; exact e) hT), upd_ne n]
          exact e
        have m8 : upd (upd H7 D.m (.dK [(.inr "at", .ref D.a), (.inr "words", .ref D.w), (.inr "next", .int (D.nx + 1))])) T (.tup [.str "done", .non]) D.m = some (.dK [(.inr "at", .ref D.a), (.inr "words", .ref D.w), (.inr "next", .int (D.nx + 1))]) := by
          rw [upd_ne (ne_of_none upd_same hT)]
          exact upd_same
        have all : ∀ c u, H c = some u → c ≠ D.m → c ≠ D.a → c ≠ D.w → upd (upd H7 D.m (.dK [(.inr "at", .ref D.a), (.inr "words", .ref D.w), (.inr "next", .int (D.nx + 1))])) T (.tup [.str "done", .non]) c = some u := fun c u e n1 n2 n3 => o8 _ _ (o7 _ _ (s6 _ _ (o5 _ _ (s04 _ _ e) n2)) n3) n1
        refine k2 due T b _ (fun c u e nf => all c u e (fun q => nf (.inl q)) (fun q => nf (.inr (.inl q))) fun q => nf (.inr (.inr (.inl q)))) ?_ (same_none s04 hb4) upd_same ?_
        · refine same_none s04 (n5 T (same_none s6 (n7 T ?_)))
          by_cases q : T = D.m
          · rw [q, upd_same] at hT
            cases hT
          · rw [upd_ne q] at hT
            exact hT
        · rw [if_pos ew]
          refine ⟨m8, o8 _ _ (o7 _ _ (s6 _ _ a5) hm.nwa.symm) hm.nma.symm, o8 _ _ w7 hm.ne.symm, fun f hf => ?_, hm.ne, ?_⟩
          · rcases List.mem_append.mp hf with hf | hf
            · obtain ⟨f1, f2, f3⟩ := hm.nfa hf
              exact all _ _ (hm.hf f hf) f2 f1 f3
            · rw [List.mem_singleton.mp hf]
              exact o8 _ _ (o7 _ _ b6 nbw) (ne_of_none m5 hb).symm
          · show ((D.F ++ [(D.nx, b, [])] : MdF).map (·.2.1)).Nodup
            rw [List.map_append]
            refine List.nodup_append.mpr ⟨hm.fs, by simp, fun x hx y hy => ?_⟩
            rw [List.map_singleton, List.mem_singleton] at hy
            obtain ⟨f, hf, rfl⟩ := List.mem_map.mp hx
            rw [hy]
            intro q
            have := s04 _ _ (hm.hf f hf)
            rw [show f.2.1 = b from q, hb4] at this
            cases this
      · have ew : ¬ wd = "create" := fun q => c1 (decide_eq_true (by rw [q]))
        refine ⟨_, rfl, D.m, _, rfl, nxt m5, _, _, rfl, rfl, _, rfl, D.m, _, rfl, DPut.k (k := .inr "next") m5 (by show 3 < sizeLine; decide), (by show 2 ≤ sizeLine; decide), fun T hT => ⟨_, rfl, ?_⟩⟩
        rw [mdK_next] at hT ⊢
        have o8 : ∀ c u, H5 c = some u → c ≠ D.m → upd (upd H5 D.m (.dK [(.inr "at", .ref D.a), (.inr "words", .ref D.w), (.inr "next", .int (D.nx + 1))])) T (.tup [.str "done", .non]) c = some u := fun c u e n => by
          rw [upd_ne (ne_of_none (by rw [upd_ne n]; exact e) hT), upd_ne n]
          exact e
        have m8 : upd (upd H5 D.m (.dK [(.inr "at", .ref D.a), (.inr "words", .ref D.w), (.inr "next", .int (D.nx + 1))])) T (.tup [.str "done", .non]) D.m = some (.dK [(.inr "at", .ref D.a), (.inr "words", .ref D.w), (.inr "next", .int (D.nx + 1))]) := by
          rw [upd_ne (ne_of_none upd_same hT)]
          exact upd_same
        have all : ∀ c u, H c = some u → c ≠ D.m → c ≠ D.a → upd (upd H5 D.m (.dK [(.inr "at", .ref D.a), (.inr "words", .ref D.w), (.inr "next", .int (D.nx + 1))])) T (.tup [.str "done", .non]) c = some u := fun c u e n1 n2 => o8 _ _ (o5 _ _ (s04 _ _ e) n2) n1
        have hTn : H T = none := by
          refine same_none s04 (n5 T ?_)
          by_cases q : T = D.m
          · rw [q, upd_same] at hT
            cases hT
          · rw [upd_ne q] at hT
            exact hT
        refine k2 due T T _ (fun c u e nf => all c u e (fun q => nf (.inl q)) (fun q => nf (.inr (.inl q)))) hTn hTn upd_same ?_
        rw [if_neg ew]
        refine ⟨m8, o8 _ _ a5 hm.nma.symm, ?_, fun f hf => ?_, hm.ne, ?_⟩
        · show (_ : Option HO) = some (.dK (wdK (D.F ++ [])))
          rw [List.append_nil]
          exact o8 _ _ w5 hm.ne.symm
        · have hf' : f ∈ D.F := (List.mem_append.mp hf).elim id fun h => nomatch h
          obtain ⟨f1, f2, f3⟩ := hm.nfa hf'
          exact all _ _ (hm.hf f hf') f2 f1
        · show ((D.F ++ [] : MdF).map (·.2.1)).Nodup
          rw [List.append_nil]
          exact hm.fs
abbrev s_Tree_numbers : Stmt := inClass (topS 34) 21
abbrev N_Tree_numbers : List Str := ["self"]
theorem sc_Tree_numbers : FnScope N_Tree_numbers ["self"] (defScope s_Tree_numbers) := ⟨rfl, rfl, rfl, by decide +kernel, rfl, by decide +kernel, by decide +kernel⟩
def sp_Tree_numbers (C : Addr) : Sp := fun vs H Q _ => ∃ (x d : Addr) (L : TLs) (nx : Int), vs = [.ref x] ∧ TrAt C H x d L nx ∧ ∀ (ys : List Int) (p : Addr) H', ys.Perm (L.map (·.1)) → ys.Pairwise (· ≤ ·) → Same H H' → H p = none → H' p = some (.lst (ys.map V.int)) → Q (.ref p) H'
theorem ok_Tree_numbers {f : Addr} {fd : FuncData} (F : Fun K "numbers" "Tree.numbers" s_Tree_numbers f fd) (B : Bt mg) {A_Tree : Addr} (T_Tree : CF K mg "Tree" A_Tree ["inner", "next_one"]) : GnOk P w K mg base CX0 1 f fd ["self"] (sp_Tree_numbers A_Tree) := by
  refine gn_fun F sc_Tree_numbers (fun vs H Q E h => ?_) (fun cdv A outer s H vs Q E hr h => ?_)
  · obtain ⟨x, d, L, nx, rfl, _⟩ := h
    rfl
  · obtain ⟨x, d, L, nx, rfl, ht, k⟩ := h
    refine ⟨_, (pss_one (ps_ret (pe_callB (call_sortedDI rfl) (by rfl) B.sorted (by decide +kernel) (pa_cons (pe_fld (pv 0) rfl) pa_nil)))), ?_⟩
    obtain ⟨dx, ob⟩ := ht.ob
    refine ⟨_, rfl, x, A_Tree, dx, _, _, rfl, ob, T_Tree.cl, T_Tree.no _ (by simp), tr_1, d, _, L.map (·.1), rfl, .inl ht.inn, ?_, ?_, fun ys p hp hs hn => ?_⟩
    · unfold innK
      rw [List.map_map, List.map_map]
      rfl
    · rw [List.length_map]
      have := ht.wf.m
      omega
    · exact k ys p _ hp hs (Same.new hn) hn upd_same
abbrev s_Tree_next_number : Stmt := inClass (topS 34) 22
abbrev N_Tree_next_number : List Str := ["self"]
theorem sc_Tree_next_number : FnScope N_Tree_next_number ["self"] (defScope s_Tree_next_number) := ⟨rfl, rfl, rfl, by decide +kernel, rfl, by decide +kernel, by decide +kernel⟩
def sp_Tree_next_number (C : Addr) : Sp := fun vs H Q _ => ∃ (x d : Addr) (L : TLs) (nx : Int), vs = [.ref x] ∧ TrAt C H x d L nx ∧ Q (.int nx) H
theorem ok_Tree_next_number {f : Addr} {fd : FuncData} (F : Fun K "next_number" "Tree.next_number" s_Tree_next_number f fd) (B : Bt mg) {A_Tree : Addr} (T_Tree : CF K mg "Tree" A_Tree ["inner", "next_one"]) : GnOk P w K mg base CX0 1 f fd ["self"] (sp_Tree_next_number A_Tree) := by
  refine gn_fun F sc_Tree_next_number (fun vs H Q E h => ?_) (fun cdv A outer s H vs Q E hr h => ?_)
  · obtain ⟨x, d, L, nx, rfl, _⟩ := h
    rfl
  · obtain ⟨x, d, L, nx, rfl, ht, k⟩ := h
    refine ⟨_, (pss_one (ps_ret (pe_fld (pv 0) rfl))), ?_⟩
    obtain ⟨dx, ob⟩ := ht.ob
    exact ⟨_, rfl, x, A_Tree, dx, _, _, rfl, ob, T_Tree.cl, T_Tree.no _ (by simp), tr_2, k⟩
abbrev s_Tree_number : Stmt := inClass (topS 34) 19
abbrev N_Tree_number : List Str := ["self", "path"]
theorem sc_Tree_number : FnScope N_Tree_number ["self", "path"] (defScope s_Tree_number) := ⟨rfl, rfl, rfl, by decide +kernel, rfl, by decide +kernel, by decide +kernel⟩
def sp_Tree_number (K : PySem.W.Frag) (C BP ND NS : Addr) : Sp := fun vs H Q E => ∃ (x d : Addr) (L : TLs) (nx : Int) (v : V), vs = [.ref x, v] ∧ TrAt C H x d L nx ∧ PthV K H v ∧
  (pnV v = none → exE E H BP "path" v) ∧ ∀ ns, pnV v = some ns → (∀ n H', goW L 1 ns = .inr n → Same H H' → Q (.int n) H') ∧ (∀ p, goW L 1 ns = .inl p → goE ND NS E H ns p)
theorem ok_Tree_number {f : Addr} {fd : FuncData} (F : Fun K "number" "Tree.number" s_Tree_number f fd) (B : Bt mg) {A_Tree : Addr} (T_Tree : CF K mg "Tree" A_Tree ["inner", "next_one"]) (M_Tree_going : Mth P w K mg base (L2.CX P w) A_Tree "going" 3 ["self", "names"] (sp_Tree_going K A_Tree A_NotDir A_NoSuch)) (C_names_of : Cal P w K mg base (L2.CX P w) "names_of" 3 ["path"] (sp_names_of K A_BadPath)) : GnOk P w K mg base (L2.CX P w) 4 f fd ["self", "path"] (sp_Tree_number K A_Tree A_BadPath A_NotDir A_NoSuch) := by
  refine gn_funX F sc_Tree_number (fun vs H Q E h => ?_) (fun cdv A outer s H vs Q E hr h => ?_)
  · obtain ⟨x, d, L, nx, v, rfl, _⟩ := h
    rfl
  · obtain ⟨x, d, L, nx, v, rfl, ht, hv, k1, k2⟩ := h
    refine ⟨_, (pss_one (ps_ret (pe_mth M_Tree_going T_Tree.cl (hr.mono (by decide)) (passE (takes_of rfl rfl rfl rfl) (fun _ _ _ _ h => h)) (pv 0) (pa_cons (pe_cal C_names_of (hr.mono (by decide)) (by rfl) (passE (takes_of rfl rfl rfl rfl) (fun _ _ _ _ h => h)) (pa_cons (pv 1) pa_nil)) pa_nil)))), ?_⟩
    obtain ⟨dx, ob⟩ := ht.ob
    refine ⟨_, rfl, x, _, _, rfl, ob, tr_no (by decide +kernel), _, rfl, names_way hv (fun ns hpn l H1 s1 hl0 hl => ?_) k1⟩
    obtain ⟨k3, k4⟩ := k2 ns hpn
    exact ⟨x, d, l, L, nx, ns, rfl, ht.m s1, SqL.of hl, pnV_bd hpn, fun n H2 hg s2 => k3 n H2 hg (s1.trans s2), fun p hp => exE.m (k4 p hp) s1⟩
abbrev s_Tree_names : Stmt := inClass (topS 34) 25
abbrev N_Tree_names : List Str := ["self", "path", "number"]
theorem sc_Tree_names : FnScope N_Tree_names ["self", "path"] (defScope s_Tree_names) := ⟨rfl, rfl, rfl, by decide +kernel, rfl, by decide +kernel, by decide +kernel⟩
def sp_Tree_names (K : PySem.W.Frag) (C BP ND NS : Addr) : Sp := fun vs H Q E => ∃ (x d : Addr) (L : TLs) (nx : Int) (v : V), vs = [.ref x, v] ∧ TrAt C H x d L nx ∧ PthV K H v ∧ (pnV v = none → exE E H BP "path" v) ∧ ∀ ns, pnV v = some ns → (∀ p, goW L 1 ns = .inl p → goE ND NS E H ns p) ∧
  ∀ n a o, goW L 1 ns = .inr n → ndAt L n = some (a, o) → (isD o = false → exE E H ND "path" v) ∧ ∀ es, o = .dir es → ∀ (ys : List Str) (p : Addr) H', ys.Perm (es.map (·.1)) → PyProof.Rows.sortedS ys = true → Same H H' → H p = none → H' p = some (.lst (ys.map V.str)) → Q (.ref p) H'
theorem ok_Tree_names {f : Addr} {fd : FuncData} (F : Fun K "names" "Tree.names" s_Tree_names f fd) (B : Bt mg) {A_NotDir : Addr} {A_Tree : Addr} (T_Tree : CF K mg "Tree" A_Tree ["inner", "next_one"]) (M_Tree_number : Mth P w K mg base (L2.CX P w) A_Tree "number" 4 ["self", "path"] (sp_Tree_number K A_Tree A_BadPath A_NotDir A_NoSuch)) (M_Tree_is_dir : Mth P w K mg base CX0 A_Tree "is_dir" 1 ["self", "number"] (sp_Tree_is_dir A_Tree)) (XI_NotDir : ExI P w K mg base "NotDir" A_NotDir ["self", "path"] (sp_exc1 "path" A_NotDir)) : GnOk P w K mg base (L2.CX P w) 5 f fd ["self", "path"] (sp_Tree_names K A_Tree A_BadPath A_NotDir A_NoSuch) := by
  refine gn_funX F sc_Tree_names (fun vs H Q E h => ?_) (fun cdv A outer s H vs Q E hr h => ?_)
  · obtain ⟨x, d, L, nx, v, rfl, _⟩ := h
    rfl
  · obtain ⟨x, d, L, nx, v, rfl, ht, hv, k1, k2⟩ := h
    refine ⟨_, (pss_cons (ps_set (i := 2) sc_Tree_names.nd rfl (Or.inl rfl) (pe_mth M_Tree_number T_Tree.cl (hr.mono (by decide)) (passE (takes_of rfl rfl rfl rfl) (fun _ _ _ _ h => h)) (pv 0) (pa_cons (pv 1) pa_nil)))
    (pss_cons (ps_if (pt_not (pt_val (pe_mth M_Tree_is_dir T_Tree.cl (hr.mono (by decide)) pass0 (pv 0) (pa_cons (pv 2) pa_nil))))
      (pss_one (ps_raise rfl (takes_of rfl rfl rfl rfl) (pmk_ex1 (k := 0) XI_NotDir (hr.mono (by decide)) (by rfl) (pa_cons (pv 1) pa_nil))))
      pss_nil)
    (pss_one (ps_ret (pe_callB (call_sortedD rfl) (by rfl) B.sorted (by decide +kernel) (pa_cons (pe_dget hr.hu (pe_fld (pv 0) rfl) (pv 2) (fun _ _ => rfl)) pa_nil)))))), ?_⟩
    obtain ⟨dx, ob⟩ := ht.ob
    refine ⟨_, rfl, x, _, _, rfl, ob, tr_no (by decide +kernel), _, rfl, x, d, L, nx, v, rfl, ht, hv, k1, fun ns hpn => ⟨fun n H1 hg s1 => ?_, (k2 ns hpn).1⟩⟩
    obtain ⟨a, o, hn⟩ := ht.wf.isSome hg
    obtain ⟨k3, k4⟩ := (k2 ns hpn).2 n a o hg hn
    refine ⟨_, rfl, x, _, _, rfl, s1 _ _ ob, tr_no (by decide +kernel), _, rfl, x, d, L, nx, n, a, o, rfl, ht.m s1, hn, _, rfl, ?_⟩
    cases o with
    | file ws => exact iteT ⟨_, rfl, exc1_way ⟨_, rfl, (k3 rfl).m s1⟩⟩
    | dir es =>
      refine iteF ?_
      have e20 := (ht.wf.sz _ (ndAt_mem hn)).1
      refine ⟨_, rfl, x, A_Tree, dx, _, _, rfl, s1 _ _ ob, T_Tree.cl, T_Tree.no _ (by simp), tr_1, _, rfl, d, _, rfl, (ht.m s1).dg hn, ?_⟩
      refine ⟨a, _, es.map (·.1), rfl, .inl ((ht.m s1).at hn), ?_, ?_, fun ys p hp hs hq => ?_⟩
      · rw [List.map_map, List.map_map]
        rfl
      · rw [List.length_map]
        have : es.length ≤ 20 := e20
        omega
      · exact k4 es rfl ys p _ hp hs (s1.trans (Same.new hq)) (same_none s1 hq) upd_same
abbrev s_l_right : Stmt := topS 49
abbrev N_l_right : List Str := ["tree", "model", "names", "here", "row", "one", "n"]
theorem sc_l_right : FnScope N_l_right ["tree", "model", "names"] (defScope s_l_right) := ⟨rfl, rfl, rfl, by decide +kernel, rfl, by decide +kernel, by decide +kernel⟩
def sp_l_right_k32 (K : PySem.W.Frag) (C : Addr) : Sp := fun vs H Q _ => ∃ (x d : Addr) (L : TLs) (D : Md) (ns : List Str) (t : Addr), vs = [.ref x, .ref D.m, .ref t] ∧ TrAt C H x d L D.nx ∧ MdAt H D ∧ Rl L D.M D.F ∧ (D.M.map (·.2)).Nodup ∧ (∀ f ∈ D.F, f.2.2 = []) ∧ D.M.length < 900 ∧
  H t = some (.tup (ns.map V.str)) ∧ Nm10 ns ∧ ∀ H', Same H H' → Q (.bl true) H'
/-- what the tree tells of a node, and what the model tells -/
def NodeD (L : TLs) (n : Int) (dd : PyData) : Prop := (∃ a ws, ndAt L n = some (a, .file ws) ∧ dd = .tuple [.str "file", .int (lkT L n), .tuple (ws.map PyData.str)]) ∨ ∃ a es rows, ndAt L n = some (a, .dir es) ∧ rows.Perm es ∧ ST.SrtSI rows ∧ dd = .tuple [.str "dir", .int (lkT L n), itD rows]
def LNodeD (L : TLs) (M : MdM) (ns : List Str) (n : Int) (dd : PyData) : Prop := (∃ a ws, ndAt L n = some (a, .file ws) ∧ dd = .tuple [.str "file", .int 1, .tuple []]) ∨ ∃ a es rows, ndAt L n = some (a, .dir es) ∧ rows.Perm (kids M ns) ∧ ST.SrtSI rows ∧ dd = .tuple [.str "dir", .int 1, itD rows]
theorem node_way {K : PySem.W.Frag} {C : Addr} {H : Hp} {x d : Addr} {L : TLs} {nx n : Int} {Q : VK} {E : Value → Option Addr → Hp → Prop} (ht : TrAt C H x d L nx) (hs : ∃ a o, ndAt L n = some (a, o)) (h : ∀ v H' dd, Same H H' → Dt K H' v dd → NodeD L n dd → Q v H') : sp_Tree_node K C [.ref x, .int n] H Q E := by
  obtain ⟨a, o, e⟩ := hs
  exact ⟨x, d, L, nx, n, rfl, ht, (fun q => by rw [e] at q; cases q), fun a ws e v H' s dv => h v H' _ s dv (.inl ⟨a, ws, e, rfl⟩), fun a es e rows v H' pm sr s dv => h v H' _ s dv (.inr ⟨a, es, rows, e, pm, sr, rfl⟩)⟩
theorem node_wayT {K : PySem.W.Frag} {σ : St} {C : Addr} {H : Hp} {x d : Addr} {L : TLs} {nx n : Int} {Q : VK} {E : Value → Option Addr → Hp → Prop} (ht : TrAt C H x d L nx) (hs : ∃ a o, ndAt L n = some (a, o)) (h : ∀ v H' dd, Same H H' → Dt K H' v dd → NodeD L n dd → Q v H') : tNil σ H fun xs H2 => sp_Tree_node K C (V.ref x :: ((V.int n :: xs) ++ [])) H2 Q E := node_way (E := E) ht hs h
theorem lnode_way {K : PySem.W.Frag} {H : Hp} {L : TLs} {D : Md} {ns : List Str} {t : Addr} {n : Int} {Q : VK} {E : Value → Option Addr → Hp → Prop} (hm : MdAt H D) (hr : Rl L D.M D.F) (ht : H t = some (.tup (ns.map V.str))) (hn : Nm10 ns) (hg : goW L 1 ns = .inr n) (h : ∀ v H' dd, Same H H' → Dt K H' v dd → LNodeD L D.M ns n dd → Q v H') :
    sp_l_node_k32 K [.ref D.m, .ref t] H Q E := by
  obtain ⟨a, o, e⟩ := hr.isSome hg
  exact ⟨D, L, ns, t, n, a, o, rfl, hm, hr, ht, hn, hg, e, fun ws q v H' s dv => h v H' _ s dv (.inl ⟨a, ws, by rw [e, q], rfl⟩), fun es q rows v H' pm sr s dv => h v H' _ s dv (.inr ⟨a, es, rows, by rw [e, q], pm, sr, rfl⟩)⟩
theorem lnode_wayT {K : PySem.W.Frag} {σ : St} {H : Hp} {L : TLs} {D : Md} {ns : List Str} {t : Addr} {n : Int} {Q : VK} {E : Value → Option Addr → Hp → Prop} (hm : MdAt H D) (hr : Rl L D.M D.F) (ht : H t = some (.tup (ns.map V.str))) (hn : Nm10 ns) (hg : goW L 1 ns = .inr n) (h : ∀ v H' dd, Same H H' → Dt K H' v dd → LNodeD L D.M ns n dd → Q v H') :
    tNil σ H fun xs H2 => sp_l_node_k32 K ((V.ref D.m :: V.ref t :: xs) ++ []) H2 Q E := lnode_way (E := E) hm hr ht hn hg h
theorem node_eq {L : TLs} {M : MdM} {F : MdF} {ns : List Str} {n : Int} {dd d2 : PyData} (hr : Rl L M F) (nv : (M.map (·.2)).Nodup) (hws : ∀ f ∈ F, f.2.2 = []) (hg : goW L 1 ns = .inr n) (h1 : NodeD L n dd) (h2 : LNodeD L M ns n d2) : dd = d2 ∧ Shp 3 dd := by
  have l1 := hr.one nv hg
  rcases h1 with ⟨a, ws, e, rfl⟩ | ⟨a, es, rows, e, pm, sr, rfl⟩
  · obtain ⟨b, hb⟩ := hr.wd e
    have : ws = [] := by
      unfold wdAt at hb
      obtain ⟨f, hf, q⟩ := Option.map_eq_some_iff.mp hb
      have := hws f (List.mem_of_find?_eq_some hf)
      rw [q] at this
      exact this
    subst this
    rcases h2 with ⟨a', ws', e', rfl⟩ | ⟨a', es', rows', e', _⟩
    · rw [l1]
      refine ⟨rfl, Shp.tuple (k := 2) fun x hx => ?_⟩
      rcases List.mem_cons.mp hx with rfl | hx
      · exact Shp.str (by decide +kernel)
      · rcases List.mem_cons.mp hx with rfl | hx
        · exact Shp.int _
        · rw [List.mem_singleton.mp hx]
          exact Shp.tuple (k := 1) fun _ h => nomatch h
    · rw [e] at e'
      cases e'
  · rcases h2 with ⟨a', ws', e', rfl⟩ | ⟨a', es', rows', e', pm', sr', rfl⟩
    · rw [e] at e'
      cases e'
    · rw [e] at e'
      cases e'
      have : rows = rows' := ST.srtSI_uniq sr sr' (pm.trans ((hr.kids hg e).trans pm'.symm))
      subst this
      rw [l1]
      refine ⟨rfl, Shp.tuple (k := 2) fun x hx => ?_⟩
      rcases List.mem_cons.mp hx with rfl | hx
      · exact Shp.str (by decide +kernel)
      · rcases List.mem_cons.mp hx with rfl | hx
        · exact Shp.int _
        · rw [List.mem_singleton.mp hx]
          exact itD_shp fun e he => kids_nm hr (pm'.mem_iff.mp he)
theorem dt2 {K : PySem.W.Frag} {H : Hp} {v : V} {a : Str} {b : Int} (h : Dt K H v (.tuple [.str a, .int b])) : ∃ q, v = .ref q ∧ SqT K H q [.str a, .int b] := by
  cases h with
  | tup hs ha =>
    cases ha with
    | cons h1 ha =>
      cases ha with
      | cons h2 ha =>
        cases ha
        cases h1
        cases h2
        exact ⟨_, rfl, hs⟩
theorem dtI {K : PySem.W.Frag} {H : Hp} {v : V} {rows : List (Str × Int)} (h : Dt K H v (itD rows)) : ∃ q xs, v = .ref q ∧ SqT K H q xs ∧ DtAll K H xs (rows.map fun e => PyData.tuple [.str e.1, .int e.2]) := by
  unfold itD at h
  cases h with
  | tup hs ha => exact ⟨_, _, rfl, hs, ha⟩
theorem lnode_dir {L : TLs} {M : MdM} {ns : List Str} {n : Int} {dd : PyData} {a : Addr} {es : List (Str × Int)} (e : ndAt L n = some (a, .dir es)) (h : LNodeD L M ns n dd) : ∃ rows, rows.Perm (kids M ns) ∧ ST.SrtSI rows ∧ dd = .tuple [.str "dir", .int 1, itD rows] := by
  rcases h with ⟨a', ws, e', _⟩ | ⟨a', es', rows, e', pm, sr, q⟩
  · rw [e] at e'
    cases e'
  · exact ⟨rows, pm, sr, q⟩
theorem node_dir {L : TLs} {n : Int} {dd : PyData} {a : Addr} {es : List (Str × Int)} (e : ndAt L n = some (a, .dir es)) (h : NodeD L n dd) : ∃ rows, rows.Perm es ∧ ST.SrtSI rows ∧ dd = .tuple [.str "dir", .int (lkT L n), itD rows] := by
  rcases h with ⟨a', ws, e', _⟩ | ⟨a', es', rows, e', pm, sr, q⟩
  · rw [e] at e'
    cases e'
  · rw [e] at e'
    cases e'
    exact ⟨rows, pm, sr, q⟩
theorem sqT_m {K : PySem.W.Frag} {H H' : Hp} {a : Addr} {xs : List V} (s : Same H H') (h : SqT K H a xs) : SqT K H' a xs := by
  rcases h with (h | ⟨o, h⟩) | h
  · exact .inl (.inl (s _ _ h))
  · exact .inl (.inr ⟨o, s _ _ h⟩)
  · exact .inr h
def rightW (x m t : Addr) (H5 : Hp) : Nat → St → Hp → Prop := fun k σ H' => ∃ t' ns' v4 v5 v6, σ = [some (.ref x), some (.ref m), some (.ref t), some (.ref t'), v4, v5, v6] ∧ Same H5 H' ∧ H' t' = some (.tup (ns'.map V.str)) ∧ Nm10 ns' ∧ k = ns'.length
theorem ok_l_right {f : Addr} {fd : FuncData} (F : Fun K "_law_right" "_law_right" s_l_right f fd) (B : Bt mg) {A_Tree : Addr} (T_Tree : CF K mg "Tree" A_Tree ["inner", "next_one"]) (M_Tree_numbers : Mth P w K mg base CX0 A_Tree "numbers" 1 ["self"] (sp_Tree_numbers A_Tree)) (M_Tree_next_number : Mth P w K mg base CX0 A_Tree "next_number" 1 ["self"] (sp_Tree_next_number A_Tree)) (M_Tree_paths_kw0 : MthK P w K mg base (L2.CX P w) A_Tree "paths" 4 ["self", "under"] 0 [] (fun us ws => [us.getD 0 V.non, (V.str "/")]) (sp_Tree_paths K A_Tree A_BadPath A_NotDir A_NoSuch)) (M_Tree_node : Mth P w K mg base CX0 A_Tree "node" 2 ["self", "number"] (sp_Tree_node K A_Tree)) (M_Tree_number : Mth P w K mg base (L2.CX P w) A_Tree "number" 4 ["self", "path"] (sp_Tree_number K A_Tree A_BadPath A_NotDir A_NoSuch)) (M_Tree_names : Mth P w K mg base (L2.CX P w) A_Tree "names" 5 ["self", "path"] (sp_Tree_names K A_Tree A_BadPath A_NotDir A_NoSuch)) (C_law_node : Cal P w K mg base CX0 "_law_node" 1 ["model", "names"] (sp_l_node_k32 K)) (C_law_path : Cal P w K mg base CX0 "_law_path" 1 ["names"] (sp_l_path_m K)) : GnOk P w K mg base CX0 6 f fd ["tree", "model", "names"] (sp_l_right_k32 K A_Tree) := by
  refine gn_fun F sc_l_right (fun vs H Q E h => ?_) (fun cdv A outer s H vs Q E hr h => ?_)
  · obtain ⟨x, d, L, D, ns, t, rfl, _⟩ := h
    rfl
  · obtain ⟨x, d, L, D, ns, t, rfl, ht, hm, hr', nv, hws, h900, htt, hn, k⟩ := h
    refine ⟨_, (pss_cons (ps_if (PW.pt (pw_or (pt_cmpR (op_neDK K hr.units) (pe_mth0 M_Tree_numbers T_Tree.cl (hr.mono (by decide)) pass0 (pv 0)) (pe_callB (ST.call_sortedVT rfl) (by rfl) B.sorted (by decide +kernel) (pa_cons (pe_bm0 PySem.F.plainAttrs_dict PySem.F.slot_dict_values PySem.F.type_dict_values ST.mt_valuesT (pe_dget hr.hu (pv 1) pe_str (fun _ _ => rfl))) pa_nil)) (nomark _)) (pw_or1 (pt_cmpR op_ne (pe_mth0 M_Tree_next_number T_Tree.cl (hr.mono (by decide)) pass0 (pv 0)) (pe_dget hr.hu (pv 1) pe_str (fun _ _ => rfl)) (nomark _)))))
      (pss_one (ps_ret pe_bl))
      pss_nil)
    (pss_cons (ps_if (PW.pt (pw_or (pt_cmpR (op_neDK K hr.units) (pe_mthk0 M_Tree_paths_kw0 T_Tree.cl (hr.mono (by decide)) passN (pv 0) pk_nil) (pe_callB (ST.cr_sortedLSK K) (by rfl) B.sorted (by decide +kernel) (pa_cons (pe_lock (pe_lc (own := [("one", 5)]) (g := gName 5) (tt := tYes) (by rfl) sc_l_right.nd (pi_keys (pe_dget hr.hu (pv 1) pe_str (fun _ _ => rfl))) (blkOk_by (N := N_l_right) (sc := defScope s_l_right) (by decide +kernel)) (fun _ _ _ _ _ => pg_name (i := 5) sc_l_right.nd rfl (Or.inl rfl)) (fun _ _ _ _ _ => pts_nil) (fun _ _ _ _ _ => (pe_cal C_law_path (hr.mono (by decide)) (by rfl) pass0 (pa_cons (pv 5) pa_nil))))) pa_nil)) (nomark _)) (pw_or1 (pt_cmpR op_notN (pe_mth M_Tree_node T_Tree.cl (hr.mono (by decide)) pass0 (pv 0) (pa_cons (pe_dget hr.hu (pv 1) pe_str (fun _ _ => rfl)) pa_nil)) pe_non (nomark _)))))
      (pss_one (ps_ret pe_bl))
      pss_nil)
    (pss_cons (ps_set (i := 3) sc_l_right.nd rfl (Or.inl rfl) (pv 2))
    (pss_cons (ps_while PassesOwn.never (pt_cmp (pc_dnotin hr.hu (pv 3) (pe_dget hr.hu (pv 1) pe_str (fun _ _ => rfl))))
      (pss_one (ps_set (i := 3) sc_l_right.nd rfl (Or.inl rfl) (pe_slice (sl_tupAK K) (pv 3) po_none (po_some (pe_un un_neg pe_int))))))
    (pss_cons (ps_if (PW.pt (pw_or (pt_cmpR op_ne (pe_mth M_Tree_number T_Tree.cl (hr.mono (by decide)) passN (pv 0) (pa_cons (pe_cal C_law_path (hr.mono (by decide)) (by rfl) pass0 (pa_cons (pv 3) pa_nil)) pa_nil)) (pe_dget hr.hu (pe_dget hr.hu (pv 1) pe_str (fun _ _ => rfl)) (pv 3) (fun _ _ => rfl)) (nomark _)) (pw_or1 (pt_cmpR (op_neDK K hr.units) (pe_mth M_Tree_node T_Tree.cl (hr.mono (by decide)) pass0 (pv 0) (pa_cons (pe_dget hr.hu (pe_dget hr.hu (pv 1) pe_str (fun _ _ => rfl)) (pv 3) (fun _ _ => rfl)) pa_nil)) (pe_cal C_law_node (hr.mono (by decide)) (by rfl) pass0 (pa_cons (pv 1) (pa_cons (pv 3) pa_nil))) (nomark _)))))
      (pss_one (ps_ret pe_bl))
      pss_nil)
    (pss_cons (ps_set (i := 4) sc_l_right.nd rfl (Or.inl rfl) (pe_ix (ix_tupK K) (pe_cal C_law_node (hr.mono (by decide)) (by rfl) pass0 (pa_cons (pv 1) (pa_cons (pe_slice (sl_tupAK K) (pv 3) po_none (po_some (pe_un un_neg pe_int))) pa_nil))) pe_int (fun _ _ => rfl)))
    (pss_one (ps_ret (pe_and (pe_cmpR (op_eqDK K hr.units) (pe_ix (ix_tupK K) (pe_mth M_Tree_node T_Tree.cl (hr.mono (by decide)) pass0 (pv 0) (pa_cons (pe_dget hr.hu (pe_dget hr.hu (pv 1) pe_str (fun _ _ => rfl)) (pe_slice (sl_tupAK K) (pv 3) po_none (po_some (pe_un un_neg pe_int))) (fun _ _ => rfl)) pa_nil)) pe_int (fun _ _ => rfl)) (pv 4) (nomark _)) (pe_one (pe_cmpR (op_eqDK K hr.units) (pe_mth M_Tree_names T_Tree.cl (hr.mono (by decide)) passN (pv 0) (pa_cons (pe_cal C_law_path (hr.mono (by decide)) (by rfl) pass0 (pa_cons (pe_slice (sl_tupAK K) (pv 3) po_none (po_some (pe_un un_neg pe_int))) pa_nil)) pa_nil)) (pe_lc (own := [("one", 5), ("n", 6)]) (g := gTup K 2 (gCons (gName 5) (gCons (gName 6) gNil))) (tt := tYes) (by rfl) sc_l_right.nd (pi_tupK K (pv 4)) (blkOk_by (N := N_l_right) (sc := defScope s_l_right) (by decide +kernel)) (fun _ _ _ _ _ => (pg_tupK K 2 (by rfl) (pgs_cons (pg_name (i := 5) sc_l_right.nd rfl (Or.inl rfl)) (pgs_cons (pg_name (i := 6) sc_l_right.nd rfl (Or.inl rfl)) pgs_nil)))) (fun _ _ _ _ _ => pts_nil) (fun _ _ _ _ _ => (pv 5))) (nomark _)))))))))))), ?_⟩
    obtain ⟨dx, ob⟩ := ht.ob
    have nums := hr'.nums ht.wf nv
    have lV : ((atK D.M).map (·.2)) = (D.M.map (·.2)).map V.int := by
      unfold atK
      rw [List.map_map, List.map_map]
      rfl
    refine ⟨_, rfl, x, _, _, rfl, ob, tr_no (by decide +kernel), x, d, L, D.nx, rfl, ht, fun ys p1 H1 pm1 so1 s1 n1 g1 => ?_⟩
    have hm1 := hm.sm s1
    refine ⟨_, rfl, D.m, _, rfl, hm1.gA, .inr (.inr (.inl ⟨rfl, .inr ⟨_, hm1.ha⟩⟩)), D.a, _, rfl, rfl, hm1.ha, fun vw hvw => ?_⟩
    refine ⟨vw, D.a, _, D.M.map (·.2), rfl, upd_same, (Same.new (o := ST.valsO vw D.a) hvw) _ _ hm1.ha, lV, fun ms p2 pm2 so2 hp2 => ?_⟩
    obtain rfl : ys = ms := ints_uniq so1 so2 (pm1.trans (nums.trans pm2.symm))
    have s2 : Same H1 (upd (upd H1 vw (ST.valsO vw D.a)) p2 (.lst (ys.map V.int))) := (Same.new hvw).trans (Same.new hp2)
    have g2 : upd (upd H1 vw (ST.valsO vw D.a)) p2 (.lst (ys.map V.int)) p2 = some (.lst (ys.map V.int)) := upd_same
    generalize upd (upd H1 vw (ST.valsO vw D.a)) p2 (.lst (ys.map V.int)) = H2 at s2 g2 ⊢
    have s02 := s1.trans s2
    have ht2 := ht.m s02
    have hm2 := hm.sm s02
    refine ne_same (d := .list (ys.map PyData.int)) (k := 1) (Dp.ofL (s2 _ _ g1) (DtAll.ints ys)) (Dp.ofL g2 (DtAll.ints ys)) (Shp.ints ys) ⟨false, rfl, iteF ?_⟩
    refine ⟨_, rfl, x, _, _, rfl, s02 _ _ ob, tr_no (by decide +kernel), x, d, L, D.nx, rfl, ht2, _, rfl, D.m, _, rfl, hm2.gN, rfl, _, rfl, ?_⟩
    refine iteF' (by rw [decide_eq_true rfl]; rfl) ?_
    have path0 : pnV (.str "/") = some [] := by
      show pathNames "/" = some []
      exact if_pos rfl
    have flt : (D.M.filter fun e => preB [] e.1) = D.M := List.filter_eq_self.mpr fun e _ => decide_eq_true List.nil_prefix
    refine ⟨_, rfl, x, _, _, rfl, s02 _ _ ob, tr_no (by decide +kernel), rfl, rfl, x, d, L, D.nx, .str "/", rfl, ht2, .inl ⟨_, rfl, by decide⟩, (fun e => by rw [path0] at e; cases e), fun ns0 e0 => ⟨fun p hp => ?_, fun n hg => ⟨D.M, hr'.pths, fun ys3 p3 H3 pm3 so3 s3 n3 g3 => ?_⟩⟩⟩
    · rw [path0] at e0
      cases e0
      cases hp
    rw [path0] at e0
    cases e0
    rw [flt] at pm3
    have s03 := s02.trans s3
    have hm3 := hm.sm s03
    refine ⟨D.a, _, hm3.ha, trivial, fun od => ?_⟩
    refine ⟨_, rfl, D.m, _, rfl, gAt (by rw [upd_ne hm3.nma]; exact hm3.hm), D.a, od, rfl, .inr ⟨_, upd_same, fun Dd hDd => ?_⟩⟩
    refine lc_it (walk_keysT (d := D.a) (o := od) (kvs := atK D.M)) (fun i H7 => H7 Dd = some (.lst (((D.M.take i).map fun e => pathOf e.1).map V.str)) ∧ Same (upd H3 D.a (.frz od (.dT (atK D.M)))) H7) ⟨upd_same, Same.new hDd⟩ (fun _ _ _ e => e.2 _ _ upd_same) ?_ ?_
    · rintro i y H8 H7 hi ⟨e1, s7⟩ ⟨rfl, kk, v, q, hk, rfl, hq⟩
      obtain ⟨e, he, rfl, rfl⟩ := atK_get hk
      rw [kV_inr] at hq
      have hnm := hr'.nm e (List.mem_of_getElem? he)
      refine ⟨rfl, ?_⟩
      refine ⟨_, rfl, q, e.1, rfl, hq, ⟨by have := hnm.1; omega, hnm.2⟩, _, e1, ?_, ?_, Same.newer s7 hDd⟩
      · rw [List.length_map, List.length_map, List.length_take, sizeLine_eq]
        omega
      · rw [upd_same, take_snoc he, List.map_append, List.map_append]
        rfl
    rintro H7 ⟨e1, s7⟩
    refine ⟨s7 _ _ upd_same, ?_⟩
    have s8 := lock_same hm3.ha s7
    have nda : Dd ≠ D.a := fun q => by
      rw [q, upd_same] at hDd
      cases hDd
    have lM : (atK D.M).length = D.M.length := List.length_map _
    rw [lM, List.take_length] at e1
    have eD : upd H7 D.a (.dT (atK D.M)) Dd = some (.lst ((D.M.map fun e => pathOf e.1).map V.str)) := by rw [upd_ne nda]; exact e1
    generalize upd H7 D.a (.dT (atK D.M)) = H4 at s8 eD ⊢
    refine ⟨Dd, D.M.map fun e => pathOf e.1, rfl, SqL.of eD, fun ys4 p4 pm4 so4 hp4 => ?_⟩
    obtain rfl : ys3 = ys4 := ST.srtS_uniq so3 so4 (pm3.trans pm4.symm)
    have s35 : Same H3 (upd H4 p4 (.lst (ys3.map V.str))) := s8.trans (Same.new hp4)
    have g5 : upd H4 p4 (.lst (ys3.map V.str)) p4 = some (.lst (ys3.map V.str)) := upd_same
    generalize upd H4 p4 (.lst (ys3.map V.str)) = H5 at s35 g5 ⊢
    have s05 := s03.trans s35
    have ht5 := ht.m s05
    have hm5 := hm.sm s05
    refine ne_same (d := .list (ys3.map PyData.str)) (k := 1) (Dp.ofL (s35 _ _ g3) (DtAll.strs _)) (Dp.ofL g5 (DtAll.strs _)) (path_shps (fun e he => (hr'.nm e he).2) pm3) ⟨false, rfl, iteF ?_⟩
    have nn : ndAt L D.nx = none := ndAt_lt ht.wf.lt (Int.le_refl _)
    refine ⟨_, rfl, x, _, _, rfl, s05 _ _ ob, tr_no (by decide +kernel), _, rfl, D.m, _, rfl, hm5.gN, x, d, L, D.nx, D.nx, rfl, ht5, fun _ => ⟨rfl, _, rfl, iteF ?_⟩, (fun a ws e => by rw [nn] at e; cases e), (fun a ws e => by rw [nn] at e; cases e)⟩
    clear e1 s7 eD s8 hDd g3 s3 n3 pm4 so4 hp4
    refine ⟨_, rfl, rightW x D.m t H5, ⟨ns.length, t, ns, _, _, _, rfl, Same.refl _, s05 _ _ htt, hn, rfl⟩, ?_⟩
    rintro m σ H6 ⟨t', ns', v4, v5, v6, rfl, s6, ht', hn', rfl⟩
    have s06 := s05.trans s6
    have hm6 := hm.sm s06
    have ht6 := ht.m s06
    have dg6 := dgAt hm6.ha ht'
    refine ⟨_, rfl, _, rfl, D.m, _, rfl, hm6.gA, D.a, _, rfl, dg6, _, rfl, ?_⟩
    obtain ⟨r, hMr⟩ := hr'.hd
    cases el : lookM D.M ns' with
    | none =>
      have n0 : ns' ≠ [] := fun e => by
        rw [e, hMr] at el
        cases el
      refine iteT ⟨fun σ' H' => ∃ m', m' < ns'.length ∧ rightW x D.m t H5 m' σ' H', fun σ' H' h => h, ?_⟩
      refine ⟨_, rfl, _, rfl, _, rfl, slA_dl ht' fun p H7 s7 hp => ?_⟩
      refine ⟨ns'.dropLast.length, ?_, p, ns'.dropLast, _, _, _, rfl, s6.trans s7, hp, hn'.dl, rfl⟩
      rw [List.length_dropLast]
      have := List.length_pos_iff.mpr n0
      omega
    | some n =>
      refine iteF ?_
      have hM := lookM_mem el
      have hg := (hr'.go _ _).mpr hM
      have h8 : ¬ 8 < ns'.length := by
        have := (hr'.nm _ hM).1
        show ¬ 8 < ns'.length
        have : ns'.length ≤ 8 := this
        omega
      have hpn := path_pn hn' h8
      rw [el] at dg6
      refine ⟨_, rfl, x, _, _, rfl, s06 _ _ ob, tr_no (by decide +kernel), _, rfl, t', ns', rfl, ht', hn', x, d, L, D.nx, _, rfl, ht6, path_pv hn', (fun e => by rw [hpn] at e; cases e), fun ns0 e0 => ⟨fun n' H7 hg' s7 => ?_, fun q hq => ?_⟩⟩
      rotate_left
      · rw [hpn] at e0
        cases e0
        rw [hg] at hq
        cases hq
      rw [hpn] at e0
      cases e0
      rw [hg] at hg'
      cases hg'
      have s07 := s06.trans s7
      have hm7 := hm.sm s07
      have ht7 := ht.m s07
      have t7 := s7 _ _ ht'
      have dg7 := dgAt hm7.ha t7
      rw [el] at dg7
      refine ⟨_, rfl, D.m, _, rfl, hm7.gA, _, rfl, D.a, _, rfl, dg7, rfl, _, rfl, ?_⟩
      refine iteF' (by rw [decide_eq_true rfl]; rfl) ?_
      refine ⟨_, rfl, x, _, _, rfl, s07 _ _ ob, tr_no (by decide +kernel), _, rfl, D.m, _, rfl, hm7.gA, _, rfl, D.a, _, rfl, dg7, node_wayT ht7 (hr'.isSome hg) fun v1 H8 dd s8 dv1 nd1 => ?_⟩
      have s08 := s07.trans s8
      have hm8 := hm.sm s08
      have t8 := s8 _ _ t7
      refine ⟨_, rfl, _, rfl, lnode_wayT hm8 hr' t8 hn' hg fun v2 H9 d2 s9 dv2 nd2 => ?_⟩
      obtain ⟨rfl, sh⟩ := node_eq hr' nv hws hg nd1 nd2
      refine ne_same (k := 3) (Dt.dp _ (dv1.m (TS.of s9))) (Dt.dp _ dv2) sh ⟨false, rfl, iteF ?_⟩
      have s09 := s08.trans s9
      have t9 := s9 _ _ t8
      clear dv1 dv2 nd1 nd2 sh
      obtain ⟨np, ap, es, gp, dp⟩ : ∃ np a es, goW L 1 ns'.dropLast = .inr np ∧ ndAt L np = some (a, .dir es) := by
        rcases List.eq_nil_or_concat ns' with e | ⟨ys, y, e⟩
        · obtain ⟨a, es, e2⟩ := ht.wf.root
          exact ⟨1, a, es, by rw [e]; rfl, e2⟩
        · rw [List.concat_eq_append] at e
          rw [e] at hg
          obtain ⟨p, a, es, q1, q2, _⟩ := goW_snoc_iff.mp hg
          exact ⟨p, a, es, by rw [e, List.dropLast_concat]; exact q1, q2⟩
      have hnd := hn'.dl
      have hm9 := hm.sm s09
      refine ⟨_, rfl, _, rfl, _, rfl, _, rfl, slA_dl t9 fun p10 H10 s10 hp10 => lnode_wayT (hm9.sm s10) hr' hp10 hnd gp fun v3 H11 d3 s11 dv3 nd3 => ?_⟩
      obtain ⟨rows, pmr, srr, rfl⟩ := lnode_dir dp nd3
      obtain ⟨r3, x3, y3, z3, rfl, hs3, dz3⟩ := dt3 dv3
      refine ⟨r3, _, _, z3, rfl, rfl, hs3, rfl, ?_⟩
      have s911 := s10.trans s11
      have s011 := s09.trans s911
      have hm11 := hm.sm s011
      have ht11 := ht.m s011
      have t11 := s911 _ _ t9
      have hsh : Shp 2 (itD rows) := itD_shp fun e he => kids_nm hr' (pmr.mem_iff.mp he)
      refine ⟨_, rfl, x, _, _, rfl, s011 _ _ ob, tr_no (by decide +kernel), _, rfl, D.m, _, rfl, hm11.gA, _, rfl, _, rfl, _, rfl, slA_dl t11 fun p12 H12 s12 hp12 => ?_⟩
      have hm12 := hm11.sm s12
      have ht12 := ht11.m s12
      have dg12 := dgAt hm12.ha hp12
      rw [hr'.look gp] at dg12
      refine ⟨D.a, _, rfl, dg12, node_wayT ht12 (hr'.isSome gp) fun v4 H13 d4 s13 dv4 nd4 => ?_⟩
      obtain ⟨rows4, pm4, sr4, rfl⟩ := node_dir dp nd4
      obtain rfl : rows4 = rows := ST.srtSI_uniq sr4 srr (pm4.trans ((hr'.kids gp dp).trans pmr.symm))
      obtain ⟨r4, x4, y4, z4, rfl, hs4, dz4⟩ := dt3 dv4
      have s1113 := s12.trans s13
      have s013 := s011.trans s1113
      refine ⟨r4, _, _, z4, rfl, rfl, hs4, rfl, _, rfl, eq_same (k := 2) (Dt.dp _ dz4) (Dt.dp _ (dz3.m (TS.of s1113))) hsh ⟨true, rfl, iteT ?_⟩⟩
      have t13 := s1113 _ _ t11
      have ht13 := ht11.m s1113
      refine ⟨_, rfl, x, _, _, rfl, s013 _ _ ob, tr_no (by decide +kernel), _, rfl, _, rfl, _, rfl, slA_dl t13 fun p14 H14 s14 hp14 => ?_⟩
      have ht14 := ht13.m s14
      have h8d : ¬ 8 < ns'.dropLast.length := by
        rw [List.length_dropLast]
        omega
      have hpd := path_pn hnd h8d
      refine ⟨p14, ns'.dropLast, rfl, hp14, hnd, x, d, L, D.nx, _, rfl, ht14, path_pv hnd, (fun e => by rw [hpd] at e; cases e), fun ns0 e0 => ⟨fun q hq => ?_, fun n' a' o' hg' hn'' => ⟨fun ef => ?_, fun es' eo ys5 p5 H15 pm5 so5 s15 n15 g15 => ?_⟩⟩⟩
      · rw [hpd] at e0
        cases e0
        rw [gp] at hq
        cases hq
      · rw [hpd] at e0
        cases e0
        rw [gp] at hg'
        cases hg'
        rw [dp] at hn''
        cases hn''
        cases ef
      rw [hpd] at e0
      cases e0
      rw [gp] at hg'
      cases hg'
      rw [dp] at hn''
      cases hn''
      cases eo
      have e5 : ys5 = rows4.map (·.1) := ST.srtS_uniq (ST.srtS_of so5) (srtSI_fst srr) (pm5.trans (pm4.map _).symm)
      have s1115 := (s1113.trans s14).trans s15
      have s015 := s011.trans s1115
      obtain ⟨r5, xs5, rfl, hs5, da5⟩ := dtI (dz3.m (TS.of s1115))
      refine ⟨_, rfl, r5, rfl, ⟨_, hs5⟩, fun Dd hDd => ?_⟩
      have lx := da5.length
      rw [List.length_map] at lx
      have l24 : rows4.length ≤ 900 := by
        have := pmr.length_eq
        unfold kids at this
        rw [List.length_map] at this
        have := List.length_filter_le (fun e : List Str × Int => isKid ns'.dropLast e.1) D.M
        omega
      refine lc_it (walk_tup (K := K) (a := r5) (xs := xs5)) (fun i H7 => H7 Dd = some (.lst (((rows4.take i).map (·.1)).map V.str)) ∧ Same H15 H7) ⟨upd_same, Same.new hDd⟩ (fun i _ _ e => ?_) ?_ ?_
      · exact sqT_m e.2 hs5
      · rintro i y H8' H7 hi ⟨e1, s7'⟩ ⟨rfl, hy⟩
        obtain ⟨dd, hdd, dy⟩ := da5.getV hy
        rw [List.getElem?_map] at hdd
        obtain ⟨e, he, rfl⟩ := Option.map_eq_some_iff.mp hdd
        obtain ⟨q, rfl, hq⟩ := dt2 dy
        refine ⟨q, _, rfl, sqT_m s7' hq, rfl, _, _, rfl, _, _, rfl, rfl, rfl, ?_⟩
        refine ⟨_, rfl, _, e1, ?_, ?_, Same.newer s7' hDd⟩
        · rw [List.length_map, List.length_map, List.length_take, sizeLine_eq]
          omega
        · rw [upd_same, take_snoc he, List.map_append, List.map_append]
          rfl
      · rintro H7 ⟨e1, s7'⟩
        rw [lx, List.take_length] at e1
        rw [e5] at g15
        refine eq_same (d := .list ((rows4.map (·.1)).map PyData.str)) (k := 1) (Dp.ofL (s7' _ _ g15) (DtAll.strs _)) (Dp.ofL e1 (DtAll.strs _)) (Shp.list (k := 0) fun dd hd => ?_) ?_
        · obtain ⟨y, hy, rfl⟩ := List.mem_map.mp hd
          obtain ⟨e, he, rfl⟩ := List.mem_map.mp hy
          exact (kids_nm hr' (pmr.mem_iff.mp he)).shp 0
        · exact k _ (s015.trans s7')
abbrev s_Tree_make : Stmt := inClass (topS 34) 6
abbrev N_Tree_make : List Str := ["self", "path"]
theorem sc_Tree_make : FnScope N_Tree_make ["self", "path"] (defScope s_Tree_make) := ⟨rfl, rfl, rfl, by decide +kernel, rfl, by decide +kernel, by decide +kernel⟩
def sp_Tree_make (K : PySem.W.Frag) (C BP ND NS EX TM : Addr) : Sp := fun vs H Q E => ∃ (x d : Addr) (L : TLs) (nx : Int) (v : V), vs = [.ref x, v] ∧ TrAt C H x d L nx ∧ PthV K H v ∧
  putE E BP ND NS EX TM H L v fun n a es z => ∀ b H', H b = none → OffT x d L H H' → TrAt C H' x d (growL L n es z nx b (.dir [])) (nx + 1) → Q .non H'
theorem ok_Tree_make {f : Addr} {fd : FuncData} (F : Fun K "make" "Tree.make" s_Tree_make f fd) (B : Bt mg) {A_Tree : Addr} (T_Tree : CF K mg "Tree" A_Tree ["inner", "next_one"]) (M_Tree_put_new : Mth P w K mg base (L2.CX P w) A_Tree "put_new" 5 ["self", "path", "inside"] (sp_Tree_put_new K A_Tree A_BadPath A_NotDir A_NoSuch A_Exists A_TooMuch)) : GnOk P w K mg base (L2.CX P w) 6 f fd ["self", "path"] (sp_Tree_make K A_Tree A_BadPath A_NotDir A_NoSuch A_Exists A_TooMuch) := by
  refine gn_funX F sc_Tree_make (fun vs H Q E h => ?_) (fun cdv A outer s H vs Q E hr h => ?_)
  · obtain ⟨x, d, L, nx, v, rfl, _⟩ := h
    rfl
  · obtain ⟨x, d, L, nx, v, rfl, ht, hv, k⟩ := h
    refine ⟨_, (pss_one (ps_expr (pe_mth M_Tree_put_new T_Tree.cl (hr.mono (by decide)) (passE (takes_of rfl rfl rfl rfl) (fun _ _ _ _ h => h)) (pv 0) (pa_cons (pv 1) (pa_cons pe_dnewK pa_nil))))), ?_⟩
    obtain ⟨dx, ob⟩ := ht.ob
    refine ⟨_, rfl, x, _, _, rfl, ob, tr_no (by decide +kernel), _, rfl, fun b hb => ?_⟩
    have s1 : Same H (upd H b (.dK [])) := Same.new hb
    refine ⟨x, d, L, nx, v, b, .dir [], rfl, ht.m s1, PthV.m s1 hv, upd_same, .inl rfl, fun f => ?_, k.m s1 fun n a es z q H' o t => q b H' hb (fun c u hc nf => o c u (s1 _ _ hc) nf) t⟩
    obtain ⟨u, hu⟩ := ht.someF f
    rw [hb] at hu
    cases hu
abbrev s_Tree_create : Stmt := inClass (topS 34) 7
abbrev N_Tree_create : List Str := ["self", "path"]
theorem sc_Tree_create : FnScope N_Tree_create ["self", "path"] (defScope s_Tree_create) := ⟨rfl, rfl, rfl, by decide +kernel, rfl, by decide +kernel, by decide +kernel⟩
def sp_Tree_create (K : PySem.W.Frag) (C BP ND NS EX TM : Addr) : Sp := fun vs H Q E => ∃ (x d : Addr) (L : TLs) (nx : Int) (v : V), vs = [.ref x, v] ∧ TrAt C H x d L nx ∧ PthV K H v ∧
  putE E BP ND NS EX TM H L v fun n a es z => ∀ b H', H b = none → OffT x d L H H' → TrAt C H' x d (growL L n es z nx b (.file [])) (nx + 1) → Q .non H'
theorem ok_Tree_create {f : Addr} {fd : FuncData} (F : Fun K "create" "Tree.create" s_Tree_create f fd) (B : Bt mg) {A_Tree : Addr} (T_Tree : CF K mg "Tree" A_Tree ["inner", "next_one"]) (M_Tree_put_new : Mth P w K mg base (L2.CX P w) A_Tree "put_new" 5 ["self", "path", "inside"] (sp_Tree_put_new K A_Tree A_BadPath A_NotDir A_NoSuch A_Exists A_TooMuch)) : GnOk P w K mg base (L2.CX P w) 6 f fd ["self", "path"] (sp_Tree_create K A_Tree A_BadPath A_NotDir A_NoSuch A_Exists A_TooMuch) := by
  refine gn_funX F sc_Tree_create (fun vs H Q E h => ?_) (fun cdv A outer s H vs Q E hr h => ?_)
  · obtain ⟨x, d, L, nx, v, rfl, _⟩ := h
    rfl
  · obtain ⟨x, d, L, nx, v, rfl, ht, hv, k⟩ := h
    refine ⟨_, (pss_one (ps_expr (pe_mth M_Tree_put_new T_Tree.cl (hr.mono (by decide)) (passE (takes_of rfl rfl rfl rfl) (fun _ _ _ _ h => h)) (pv 0) (pa_cons (pv 1) (pa_cons (pe_lst pa_nil) pa_nil))))), ?_⟩
    obtain ⟨dx, ob⟩ := ht.ob
    refine ⟨_, rfl, x, _, _, rfl, ob, tr_no (by decide +kernel), _, rfl, by decide, fun b hb => ?_⟩
    have s1 : Same H (upd H b (.lst [])) := Same.new hb
    refine ⟨x, d, L, nx, v, b, .file [], rfl, ht.m s1, PthV.m s1 hv, upd_same, .inr rfl, fun f => ?_, k.m s1 fun n a es z q H' o t => q b H' hb (fun c u hc nf => o c u (s1 _ _ hc) nf) t⟩
    obtain ⟨u, hu⟩ := ht.someF f
    rw [hb] at hu
    cases hu
/-! the tree and the law's model beside it -/
theorem wdAt_app (n : Int) (G : MdF) : ∀ F : MdF, wdAt (F ++ G) n = (wdAt F n).or (wdAt G n)
  | [] => by simp [wdAt]
  | p :: r => by
    have ih := wdAt_app n G r
    unfold wdAt at ih ⊢
    rw [List.cons_append, List.find?_cons, List.find?_cons]
    by_cases e : p.1 = n
    · simp [e]
    · simp only [e, decide_false]
      exact ih
theorem wdAt_key {F : MdF} {f : Int × Addr × List Str} (h : f ∈ F) : (wdAt F f.1).isSome = true := by
  unfold wdAt
  rw [Option.isSome_map, List.find?_isSome]
  exact ⟨f, h, decide_eq_true rfl⟩
structure S32 (C : Addr) (H : Hp) (x d : Addr) (L : TLs) (D : Md) : Prop where
  t : TrAt C H x d L D.nx
  m : MdAt H D
  r : Rl L D.M D.F
  nv : (D.M.map (·.2)).Nodup
  ws : ∀ f ∈ D.F, f.2.2 = []
  dj : ∀ c, TrFoot x d L c → ¬ MdFoot D c
def Ft (x d : Addr) (L : TLs) (D : Md) (c : Addr) : Prop := TrFoot x d L c ∨ MdFoot D c
section
variable {C : Addr} {H H' : Hp} {x d : Addr} {L : TLs} {D : Md}
theorem S32.sm (h : S32 C H x d L D) (s : Same H H') : S32 C H' x d L D := ⟨h.t.m s, h.m.sm s, h.r, h.nv, h.ws, h.dj⟩
theorem S32.off (h : S32 C H x d L D) (s : ∀ b o, H b = some o → Ft x d L D b → H' b = some o) : S32 C H' x d L D := ⟨h.t.off fun b o e f => s b o e (.inl f), h.m.off fun b o e f => s b o e (.inr f), h.r, h.nv, h.ws, h.dj⟩
theorem S32.live (h : S32 C H x d L D) {c : Addr} (f : Ft x d L D c) : ∃ o, H c = some o := f.elim h.t.someF h.m.live
theorem S32.sz (h : S32 C H x d L D) : D.M.length ≤ 24 := by
  have := (h.r.nums h.t.wf h.nv).length_eq
  rw [List.length_map, List.length_map] at this
  have := h.t.wf.m
  omega
theorem S32.but {p : Addr} (h : S32 C H x d L D) (np : ¬ Ft x d L D p) (s : SameBut p H H') : S32 C H' x d L D := h.off fun b o e f => s b o e fun q => np (q ▸ f)
end
theorem foot_grow {x d c : Addr} {L : TLs} {n nx : Int} {es : List (Str × Int)} {z : Str} {b : Addr} {o : Nd} (f : TrFoot x d (growL L n es z nx b o) c) : TrFoot x d L c ∨ c = b := by
  rcases f with f | f | ⟨p, hp, f⟩
  · exact .inl (.inl f)
  · exact .inl (.inr (.inl f))
  · unfold growL at hp
    rcases List.mem_append.mp hp with hp | hp
    · obtain ⟨q, hq, _, e2, _⟩ := mem_set hp
      exact .inl (.inr (.inr ⟨q, hq, e2.symm.trans f⟩))
    · rw [List.mem_singleton.mp hp] at f
      exact .inr f.symm
theorem mfoot_put {D : Md} {ns : List Str} {fb : Option Addr} {c : Addr} (f : MdFoot (D.put ns fb) c) : MdFoot D c ∨ fb = some c := by
  rcases f with f | f | f | ⟨q, hq, f⟩
  · exact .inl (.inl f)
  · exact .inl (.inr (.inl f))
  · exact .inl (.inr (.inr (.inl f)))
  · rcases List.mem_append.mp hq with hq | hq
    · exact .inl (.inr (.inr (.inr ⟨q, hq, f⟩)))
    · cases fb with
      | none => cases hq
      | some b =>
        have e : q = (D.nx, b, []) := List.mem_singleton.mp hq
        rw [e] at f
        exact .inr (congrArg some f)
/-- both with a node more -/
theorem S32.put {C : Addr} {H H' : Hp} {x d : Addr} {L : TLs} {D : Md} {ys : List Str} {z : Str} {n : Int} {a b : Addr} {es : List (Str × Int)} {fb : Option Addr} (h : S32 C H x d L D) (hg : goW L 1 ys = .inr n) (hn : ndAt L n = some (a, .dir es)) (he : entAt es z = none)
    (hz : NmL z) (hl : ys.length < 8) (ht : TrAt C H' x d (growL L n es z D.nx b (if fb.isSome = true then .file [] else .dir [])) (D.nx + 1)) (hm : MdAt H' (D.put (ys ++ [z]) fb)) (hb : ¬ MdFoot (D.put (ys ++ [z]) fb) b) (hfb : ∀ c, fb = some c → ¬ TrFoot x d L c) :
    S32 C H' x d (growL L n es z D.nx b (if fb.isSome = true then .file [] else .dir [])) (D.put (ys ++ [z]) fb) := by
  have ho : (if fb.isSome = true then Nd.file [] else Nd.dir []) = .dir [] ∨ (if fb.isSome = true then Nd.file [] else Nd.dir []) = .file [] := by
    cases fb with
    | none => exact .inl rfl
    | some _ => exact .inr rfl
  have hw := h.r.wd_new h.t.wf
  refine ⟨ht, hm, h.r.put h.t.wf hg hn he ho hz hl (by have := h.sz; omega) (fun m => ?_) ?_ ?_, ?_, fun f hf => ?_, fun c f g => ?_⟩
  · cases fb with
    | none =>
      show (wdAt (D.F ++ []) m).map (·.2) = if m = D.nx then flN (some (b, .dir [])) else _
      rw [List.append_nil]
      by_cases c : m = D.nx
      · rw [if_pos c, c, hw]
        rfl
      · rw [if_neg c]
    | some q =>
      show (wdAt (D.F ++ [(D.nx, q, [])]) m).map (·.2) = if m = D.nx then flN (some (b, .file [])) else _
      rw [wdAt_app]
      by_cases c : m = D.nx
      · rw [if_pos c, c, hw]
        simp [wdAt, flN]
      · rw [if_neg c]
        have : wdAt [(D.nx, q, ([] : List Str))] m = none := by simp [wdAt, show ¬ D.nx = m from fun e => c e.symm]
        rw [this, Option.or_none]
  · cases fb with
    | none =>
      show ((D.F ++ [] : MdF).map (·.1)).Nodup
      rw [List.append_nil]
      exact h.r.fk
    | some q =>
      show ((D.F ++ [(D.nx, q, [])] : MdF).map (·.1)).Nodup
      rw [List.map_append]
      refine List.nodup_append.mpr ⟨h.r.fk, by simp, fun i hi j hj => ?_⟩
      rw [List.map_singleton, List.mem_singleton] at hj
      obtain ⟨f, hf, rfl⟩ := List.mem_map.mp hi
      rw [hj]
      intro e
      have := wdAt_key hf
      rw [show f.1 = D.nx from e, hw] at this
      cases this
  · cases fb with
    | none =>
      show (D.F ++ [] : MdF).length ≤ _
      simp
    | some q =>
      show (D.F ++ [(D.nx, q, [])] : MdF).length ≤ _
      simp
  · show ((D.M ++ [(ys ++ [z], D.nx)]).map (·.2)).Nodup
    rw [List.map_append]
    refine List.nodup_append.mpr ⟨h.nv, by simp, fun i hi j hj => ?_⟩
    rw [List.map_singleton, List.mem_singleton] at hj
    obtain ⟨e, he', rfl⟩ := List.mem_map.mp hi
    have := h.r.lt h.t.wf he'
    rw [hj]
    show e.2 ≠ D.nx
    omega
  · rcases List.mem_append.mp hf with hf | hf
    · exact h.ws f hf
    · cases fb with
      | none => cases hf
      | some q =>
        have e : f = (D.nx, q, []) := List.mem_singleton.mp hf
        rw [e]
  · rcases foot_grow f with f | rfl
    · rcases mfoot_put g with g | g
      · exact h.dj c f g
      · exact hfb c g f
    · exact hb g
theorem MdAt.put' {H H' : Hp} {D : Md} {ns : List Str} {fb : Option Addr} (h : MdAt H D) (hM : H' D.m = some (.dK [(.inr "at", .ref D.a), (.inr "words", .ref D.w), (.inr "next", .int (D.nx + 1))])) (hA : H' D.a = some (.dT (atK (D.M ++ [(ns, D.nx)])))) (hW : H' D.w = some (.dK (wdK (D.put ns fb).F)))
    (hf : ∀ f ∈ D.F, H' f.2.1 = some (.lst (f.2.2.map V.str))) (hb : ∀ b, fb = some b → H' b = some (.lst []) ∧ H b = none) : MdAt H' (D.put ns fb) := by
  refine ⟨hM, hA, hW, fun f hq => ?_, h.ne, ?_⟩
  · rcases List.mem_append.mp hq with hq | hq
    · exact hf f hq
    · cases fb with
      | none => cases hq
      | some b =>
        have e : f = (D.nx, b, []) := List.mem_singleton.mp hq
        rw [e]
        exact (hb b rfl).1
  · cases fb with
    | none =>
      show ((D.F ++ [] : MdF).map (·.2.1)).Nodup
      rw [List.append_nil]
      exact h.fs
    | some b =>
      show ((D.F ++ [(D.nx, b, [])] : MdF).map (·.2.1)).Nodup
      rw [List.map_append]
      refine List.nodup_append.mpr ⟨h.fs, by simp, fun x hx y hy => ?_⟩
      rw [List.map_singleton, List.mem_singleton] at hy
      obtain ⟨f, hf', rfl⟩ := List.mem_map.mp hx
      rw [hy]
      intro q
      have := h.hf f hf'
      rw [show f.2.1 = b from q, (hb b rfl).2] at this
      cases this
theorem rl_0 {ar : Addr} : Rl [(1, ar, .dir [])] [([], 1)] [] := by
  have at_ : ∀ n b o, ndAt [((1 : Int), ar, Nd.dir [])] n = some (b, o) → n = 1 ∧ b = ar ∧ o = .dir [] := fun n b o e => by
    have := ndAt_mem e
    rw [List.mem_singleton] at this
    cases this
    exact ⟨rfl, rfl, rfl⟩
  refine ⟨⟨[], rfl⟩, by simp, fun ns n => ?_, fun e he => ?_, fun n a es e => ?_, fun n a es e xs ys hx hy => ?_, fun n => ?_, fun n => ?_, fun n => ?_, by simp, by simp, by simp⟩
  · cases ns with
    | nil =>
      rw [List.mem_singleton]
      constructor
      · intro e
        cases e
        rfl
      · intro e
        cases e
        rfl
    | cons z r =>
      rw [goW_cons, List.mem_singleton]
      constructor
      · intro e
        cases e
      · intro e
        cases e
  · rw [List.mem_singleton.mp he]
    exact ⟨by simp, fun z hz => nomatch hz⟩
  · obtain ⟨_, _, q⟩ := at_ _ _ _ e
    cases q
    exact .nil
  · rw [List.mem_singleton] at hx hy
    rw [(Prod.mk.inj hx).1, (Prod.mk.inj hy).1]
  · cases e : ndAt [((1 : Int), ar, Nd.dir [])] n with
    | none => rfl
    | some q =>
      obtain ⟨b, o⟩ := q
      obtain ⟨_, _, rfl⟩ := at_ _ _ _ e
      rfl
  · constructor
    · intro h
      exact ⟨[], by rw [List.mem_singleton.mp h]; exact List.mem_singleton.mpr rfl⟩
    · rintro ⟨ns, h⟩
      rw [List.mem_singleton] at h
      rw [(Prod.mk.inj h).2]
      exact List.mem_singleton.mpr rfl
  · unfold lkT
    by_cases c : n = 1
    · subst c
      rfl
    · rw [if_neg c, List.filter_cons_of_neg (by simp [show ¬ (1 : Int) = n from fun e => c e.symm])]
      rfl
theorem dueP_shp {L : TLs} {ns : List Str} {kd f : Str} (h : dueP L ns = some (kd, f)) (hn : Nm10 ns) : Shp 1 (.tuple [.str kd, .str f]) := by
  have sm : ∀ {z : Str}, z.cps.toList.all (· < 128) = true → Shp 0 (.str z) := fun {z} e => Shp.str fun c hc => Nat.lt_trans (of_decide_eq_true (List.all_eq_true.mp e c hc)) (by decide)
  have pt : ∀ {ms : List Str}, Nm10 ms → Shp 0 (.str (pathOf ms)) := fun {ms} hm => Shp.str fun c hc => Nat.lt_trans (path_chars hm.2 c hc) (by decide)
  have mk : ∀ {a b : Str}, Shp 0 (.str a) → Shp 0 (.str b) → Shp 1 (.tuple [.str a, .str b]) := fun {a b} h1 h2 => Shp.tuple (k := 0) fun d hd => by
    rcases List.mem_cons.mp hd with rfl | hd
    · exact h1
    · rw [List.mem_singleton.mp hd]
      exact h2
  unfold dueP at h
  split at h
  · cases h
    exact mk (sm (by decide +kernel)) (pt hn)
  · split at h
    · cases h
      exact mk (sm (by decide +kernel)) (sm (by decide +kernel))
    · split at h
      · cases h
        refine mk ?_ (pt (hn.dl.take _))
        unfold kdW
        split <;> exact sm (by decide +kernel)
      · split at h
        · cases h
        · split at h
          · cases h
            exact mk (sm (by decide +kernel)) (pt hn)
          · split at h
            · cases h
              exact mk (sm (by decide +kernel)) (sm (by decide +kernel))
            · split at h
              · cases h
                exact mk (sm (by decide +kernel)) (sm (by decide +kernel))
              · cases h
theorem mdK_0 {a w : Addr} : mergeK [] [((Sum.inr "at" : Key), V.ref a), (.inr "words", .ref w), (.inr "next", .int 2)] = [((Sum.inr "at" : Key), V.ref a), (.inr "words", .ref w), (.inr "next", .int 2)] := by
  have n1 : ¬ (Sum.inr "at" : Key) = .inr "words" := by decide +kernel
  have n2 : ¬ (Sum.inr "at" : Key) = .inr "next" := by decide +kernel
  have n3 : ¬ (Sum.inr "words" : Key) = .inr "next" := by decide +kernel
  simp [mergeK, putK, n1, n2, n3]
theorem MdAt.nt {H : Hp} {D : Md} {t : Addr} {xs : List V} (h : MdAt H D) (ht : H t = some (.tup xs)) : ¬ MdFoot D t := fun f => by
  rcases f with rfl | rfl | rfl | ⟨f, hf, rfl⟩
  · rw [h.hm] at ht
    cases ht
  · rw [h.ha] at ht
    cases ht
  · rw [h.hw] at ht
    cases ht
  · rw [h.hf f hf] at ht
    cases ht
theorem TrAt.nt {C : Addr} {H : Hp} {x d : Addr} {L : TLs} {nx : Int} {t : Addr} {xs : List V} (h : TrAt C H x d L nx) (ht : H t = some (.tup xs)) : ¬ TrFoot x d L t := fun f => by
  rcases f with rfl | rfl | ⟨p, hp, rfl⟩
  · obtain ⟨dx, ob⟩ := h.ob
    rw [ob] at ht
    cases ht
  · rw [h.inn] at ht
    cases ht
  · rw [h.nd p hp] at ht
    obtain ⟨n, a, o⟩ := p
    cases o <;> cases ht

abbrev s_l_begun : Stmt := topS 50
abbrev N_l_begun : List Str := ["tree", "model", "many", "letters", "k"]
theorem sc_l_begun : FnScope N_l_begun ["tree", "model", "many"] (defScope s_l_begun) := ⟨rfl, rfl, rfl, by decide +kernel, rfl, by decide +kernel, by decide +kernel⟩
def sp_l_begun_k32 (K : PySem.W.Frag) (C : Addr) : Sp := fun vs H Q _ => ∃ (x d : Addr) (L : TLs) (D : Md) (m : Int), vs = [.ref x, .ref D.m, .int m] ∧ S32 C H x d L D ∧ (∃ a0, L = [(1, a0, .dir [])]) ∧ D.M = [([], 1)] ∧ D.nx = 2 ∧ 0 ≤ m ∧ m ≤ 20 ∧
  ∀ L' D' H', D'.m = D.m → S32 C H' x d L' D' → (∀ c u, H c = some u → ¬ Ft x d L D c → H' c = some u) → (∀ c, Ft x d L' D' c → Ft x d L D c ∨ H c = none) → Q .non H'
def letT : Str := "abcdefghijklmnopqrst"
theorem letT_in {c : Nat} (h : c ∈ letT.cps.toList) : c ∈ lettersS.cps.toList := of_decide_eq_true (List.all_eq_true.mp (show letT.cps.toList.all (fun c => decide (c ∈ lettersS.cps.toList)) = true by decide +kernel) c h)
theorem letT_nd : letT.cps.toList.Nodup := by decide +kernel
theorem letT_len : letT.cps.toList.length = 20 := by decide +kernel
theorem nd_take {α : Type} {l : List α} {i : Nat} {c : α} (h : l.Nodup) (e : l[i]? = some c) : c ∉ l.take i := fun m => by
  have e1 : l = l.take i ++ c :: l.drop (i + 1) := by
    have hi := (List.getElem?_eq_some_iff.mp e).1
    have : l.drop i = c :: l.drop (i + 1) := by
      rw [List.drop_eq_getElem_cons hi]
      congr 1
      exact (List.getElem?_eq_some_iff.mp e).2
    rw [← this, List.take_append_drop]
  rw [e1] at h
  have := (List.nodup_append.mp h).2.2 c m c List.mem_cons_self
  exact this rfl
theorem chS_inj {a b : Nat} (h : chS a = chS b) : a = b := by
  have : (chS a).cps.toList = (chS b).cps.toList := by rw [h]
  exact (List.cons.inj this).1
theorem pathd : pathOf ["d"] = "/d" := by decide +kernel
theorem pathdz (z : Str) : ("/d/" : Str) ++ z = pathOf ((["d"] : List Str) ++ [z]) := by
  have e := pcat_snoc ["d"] z
  have e1 : pcat ((["d"] : List Str) ++ [z]) = pathOf ((["d"] : List Str) ++ [z]) := if_neg (by simp)
  have e2 : pcat ["d"] = "/d" := (if_neg (by simp)).trans pathd
  rw [← e1, e, e2]
  rfl
theorem nmd : NmL "d" := ⟨by decide, by decide, by decide +kernel⟩
theorem ok_l_begun {f : Addr} {fd : FuncData} (F : Fun K "_law_begun" "_law_begun" s_l_begun f fd) (B : Bt mg) {A_Tree : Addr} (T_Tree : CF K mg "Tree" A_Tree ["inner", "next_one"]) (M_Tree_make : Mth P w K mg base (L2.CX P w) A_Tree "make" 6 ["self", "path"] (sp_Tree_make K A_Tree A_BadPath A_NotDir A_NoSuch A_Exists A_TooMuch)) (M_Tree_create : Mth P w K mg base (L2.CX P w) A_Tree "create" 6 ["self", "path"] (sp_Tree_create K A_Tree A_BadPath A_NotDir A_NoSuch A_Exists A_TooMuch)) : GnOk P w K mg base CX0 7 f fd ["tree", "model", "many"] (sp_l_begun_k32 K A_Tree) := by
  refine gn_fun F sc_l_begun (fun vs H Q E h => ?_) (fun cdv A outer s H vs Q E hr h => ?_)
  · obtain ⟨x, d, L, D, m, rfl, _⟩ := h
    rfl
  · obtain ⟨x, d, L, D, m, rfl, h, ⟨a0, hL⟩, hM, hnx, m0, m20, k⟩ := h
    refine ⟨_, (pss_cons (ps_set (i := 3) sc_l_begun.nd rfl (Or.inl rfl) pe_str)
    (pss_cons (ps_if (pt_cmpR op_gt (pv 2) pe_int (nomark _))
      (pss_cons (ps_expr (pe_mth M_Tree_make T_Tree.cl (hr.mono (by decide)) passN (pv 0) (pa_cons pe_str pa_nil)))
    (pss_cons (ps_dput hr.hu (pe_dget hr.hu (pv 1) pe_str (fun _ _ => rfl)) (pe_tup (pa_cons pe_str pa_nil)) pe_int rfl)
    (pss_one (ps_dput hr.hu (pv 1) pe_str pe_int rfl))))
      pss_nil)
    (pss_one (ps_for PassesOwn.never rfl (pi_range1 (by rfl) B.range (pa_cons (pv 2) pa_nil)) (pg_name (i := 4) sc_l_begun.nd rfl (Or.inl rfl))
      (pss_cons (ps_expr (pe_mth M_Tree_create T_Tree.cl (hr.mono (by decide)) passN (pv 0) (pa_cons (pe_op op_add_str pe_str (pe_ix ix_str (pv 3) (pv 4) (fun _ _ => rfl))) pa_nil)))
    (pss_cons (ps_dput hr.hu (pe_dget hr.hu (pv 1) pe_str (fun _ _ => rfl)) (pe_tup (pa_cons pe_str (pa_cons (pe_ix ix_str (pv 3) (pv 4) (fun _ _ => rfl)) pa_nil))) (pe_dget hr.hu (pv 1) pe_str (fun _ _ => rfl)) rfl)
    (pss_cons (ps_dput hr.hu (pe_dget hr.hu (pv 1) pe_str (fun _ _ => rfl)) (pe_dget hr.hu (pv 1) pe_str (fun _ _ => rfl)) (pe_lst pa_nil) rfl)
    (pss_one (ps_dput hr.hu (pv 1) pe_str (pe_op op_add (pe_dget hr.hu (pv 1) pe_str (fun _ _ => rfl)) pe_int) rfl))))))))), ?_⟩
    obtain ⟨dx, ob⟩ := h.t.ob
    refine ⟨_, rfl, _, _, rfl, rfl, _, rfl, ite2 (fun c => ?_) fun c => ?_⟩
    rotate_left
    · have em : m = 0 := by
        have : ¬ 0 < m := fun q => c (decide_eq_true q)
        omega
      subst em
      refine ⟨_, rfl, 0, rfl, by decide, by decide, for_range (lo := 0) (n := 0) (fun i σ H' => H' = H) rfl (fun i σ H' hi => absurd hi (by omega)) fun σ H' e => ?_⟩
      rw [e]
      exact k L D H rfl h (fun c u e _ => e) fun c f => .inl f
    · have hn1 : ndAt L 1 = some (a0, .dir []) := by rw [hL]; rfl
      have hl1 : L.length = 1 := by rw [hL]; rfl
      have pd : pnV (.str "/d") = some (([] : List Str) ++ [("d" : Str)]) := by
        rw [← pathd]
        exact path_reads (by simp) (by simp) fun z hz => by
          rw [List.mem_singleton.mp hz]
          exact nmd
      refine ⟨_, rfl, x, _, _, rfl, ob, tr_no (by decide +kernel), x, d, L, D.nx, _, rfl, h.t, .inl ⟨_, rfl, by decide⟩, putE_of (ns := []) (z := "d") (n := 1) pd rfl hn1 rfl (by decide) (by omega) fun b H1 hb o1 t1 => ?_⟩
      have hm1 : MdAt H1 D := h.m.off fun b o e f => o1 b o e fun q => h.dj _ q f
      have nbM : ¬ MdFoot D b := fun f => by
        obtain ⟨o, ho⟩ := h.m.live f
        rw [ho] at hb
        cases hb
      have lk0 : lookM D.M ["d"] = none := by rw [hM]; rfl
      refine ⟨_, rfl, D.m, _, rfl, hm1.gA, (by show 1 ≤ sizeLine; decide), fun T hT => ?_⟩
      have s2 : Same H1 (upd H1 T (.tup [.str "d"])) := Same.new hT
      have gT : upd H1 T (.tup [.str "d"]) T = some (.tup [.str "d"]) := upd_same
      generalize upd H1 T (.tup [.str "d"]) = H2 at s2 gT ⊢
      have hm2 := hm1.sm s2
      refine ⟨D.a, _, rfl, DPut.t hm2.ha (k := (["d"] : List Str).map Sum.inr) gT (by unfold atK; rw [List.length_map, hM, sizeLine_eq]; decide), ?_⟩
      rw [put_at lk0]
      have o3 : ∀ c u, H2 c = some u → c ≠ D.a → upd H2 D.a (.dT (atK (D.M ++ [((["d"] : List Str), 2)]))) c = some u := fun c u e n => by rw [upd_ne n]; exact e
      have a3 : upd H2 D.a (.dT (atK (D.M ++ [((["d"] : List Str), 2)]))) D.a = some (.dT (atK (D.M ++ [((["d"] : List Str), 2)]))) := upd_same
      generalize upd H2 D.a (.dT (atK (D.M ++ [((["d"] : List Str), 2)]))) = H3 at o3 a3 ⊢
      have m3 := o3 _ _ hm2.hm hm2.nma
      refine ⟨_, rfl, D.m, _, rfl, DPut.k (k := .inr "next") m3 (by show 3 < sizeLine; decide), ?_⟩
      rw [mdK_next]
      have o4 : ∀ c u, H3 c = some u → c ≠ D.m → upd H3 D.m (.dK [(.inr "at", .ref D.a), (.inr "words", .ref D.w), (.inr "next", .int 3)]) c = some u := fun c u e n => by rw [upd_ne n]; exact e
      have m4 : upd H3 D.m (.dK [(.inr "at", .ref D.a), (.inr "words", .ref D.w), (.inr "next", .int 3)]) D.m = some (.dK [(.inr "at", .ref D.a), (.inr "words", .ref D.w), (.inr "next", .int 3)]) := upd_same
      generalize upd H3 D.m (.dK [(.inr "at", .ref D.a), (.inr "words", .ref D.w), (.inr "next", .int 3)]) = H4 at o4 m4 ⊢
      have keep : ∀ c u, H1 c = some u → c ≠ D.a → c ≠ D.m → H4 c = some u := fun c u e n1 n2 => o4 _ _ (o3 _ _ (s2 _ _ e) n1) n2
      have nfA : ∀ c, TrFoot x d (growL L 1 [] "d" D.nx b (.dir [])) c → c ≠ D.a ∧ c ≠ D.m := fun c f => by
        rcases foot_grow f with f | rfl
        · exact ⟨fun e => h.dj c f (.inr (.inl e)), fun e => h.dj c f (.inl e)⟩
        · exact ⟨fun e => nbM (.inr (.inl e)), fun e => nbM (.inl e)⟩
      have t4 : TrAt A_Tree H4 x d (growL L 1 [] "d" D.nx b (.dir [])) (D.nx + 1) := t1.off fun c u e f => keep c u e (nfA c f).1 (nfA c f).2
      have M4 : MdAt H4 (D.put (([] : List Str) ++ [("d" : Str)]) none) := by
        refine hm1.put' (by rw [m4, hnx]; rfl) ?_ ?_ (fun f hf => ?_) (fun b e => nomatch e)
        · rw [hnx]
          exact o4 _ _ a3 hm1.nma.symm
        · show (_ : Option HO) = some (.dK (wdK (D.F ++ [])))
          rw [List.append_nil]
          exact keep _ _ hm1.hw hm1.nwa hm1.ne.symm
        · obtain ⟨f1, f2, f3⟩ := hm1.nfa hf
          exact keep _ _ (hm1.hf f hf) f1 f2
      have h4 : S32 A_Tree H4 x d (growL L 1 [] "d" D.nx b (.dir [])) (D.put (([] : List Str) ++ [("d" : Str)]) none) := h.put (ys := []) (z := "d") (n := 1) (fb := none) rfl hn1 rfl nmd (by decide) t4 M4 (fun f => (mfoot_put f).elim nbM fun e => nomatch e) (fun c e => nomatch e)
      have fr1 : ∀ c u, H c = some u → ¬ Ft x d L D c → H4 c = some u := fun c u e nf => keep _ _ (o1 _ _ e fun f => nf (.inl f)) (fun q => nf (.inr (.inr (.inl q)))) fun q => nf (.inr (.inl q))
      have fr2 : ∀ c, Ft x d (growL L 1 [] "d" D.nx b (.dir [])) (D.put (([] : List Str) ++ [("d" : Str)]) none) c → Ft x d L D c ∨ H c = none := fun c f => by
        rcases f with f | f
        · rcases foot_grow f with f | rfl
          · exact .inl (.inl f)
          · exact .inr hb
        · rcases mfoot_put f with f | f
          · exact .inl (.inr f)
          · cases f
      have n2 : ndAt (growL L 1 [] "d" D.nx b (.dir [])) 2 = some (b, .dir []) := by rw [growL_at hn1 h.t.wf.lt, if_pos hnx.symm]
      have g2 : goW (growL L 1 [] "d" D.nx b (.dir [])) 1 ["d"] = .inr 2 := by
        have : ndAt (growL L 1 [] "d" D.nx b (.dir [])) 1 = some (a0, .dir (([] : List (Str × Int)) ++ [(("d" : Str), D.nx)])) := by rw [growL_at hn1 h.t.wf.lt, if_neg (by omega), if_pos rfl]
        have e := goW_snoc (ns := []) (z := "d") (m := 2) rfl this (by rw [hnx]; rfl)
        exact e
      have l2 : (growL L 1 [] "d" D.nx b (.dir [])).length = 2 := by
        unfold growL setNd
        rw [List.length_append, List.length_map, hl1]
        rfl
      refine ⟨_, rfl, m, rfl, by omega, by omega, for_range (lo := 0) (n := m.toNat) (fun i σ H' => ∃ v4 L' D' es a2, σ = [some (.ref x), some (.ref D.m), some (.int m), some (.str letT), v4] ∧ D'.m = D.m ∧ S32 A_Tree H' x d L' D' ∧ (∀ c u, H c = some u → ¬ Ft x d L D c → H' c = some u) ∧ (∀ c, Ft x d L' D' c → Ft x d L D c ∨ H c = none) ∧ D'.nx = 3 + i ∧ goW L' 1 ["d"] = .inr 2 ∧ ndAt L' 2 = some (a2, .dir es) ∧ es.map (·.1) = (letT.cps.toList.take i).map chS ∧ L'.length = 2 + i)
        ⟨_, _, _, [], b, rfl, rfl, h4, fr1, fr2, (by show D.nx + 1 = _; rw [hnx]; rfl), g2, n2, rfl, l2⟩ ?_ ?_⟩
      rotate_left
      · rintro σ H' ⟨v4, L', D', es, a2, rfl, q1, q2, q3, q4, _⟩
        exact k L' D' H' q1 q2 q3 q4
      clear h4 fr1 fr2 n2 g2 l2 M4 t4 nfA keep m4 o4 m3 a3 o3 hm2 gT s2 hm1 t1 o1
      rintro i σ H5 hi ⟨v4, L', D', es, a2, rfl, em, h5, fr1, fr2, hnx', g5, n5, he5, hl5⟩
      obtain ⟨dx5, ob5⟩ := h5.t.ob
      have hi20 : i < letT.cps.toList.length := by
        rw [letT_len]
        omega
      obtain ⟨c, hc⟩ : ∃ c, letT.cps.toList[i]? = some c := ⟨_, List.getElem?_eq_getElem hi20⟩
      have cin := letT_in (List.mem_of_getElem? hc)
      have nmc : NmL (chS c) := ⟨Nat.le_refl 1, (TxL.sign cin).mono (by decide)⟩
      have hat : atI letT.cps.toList (0 + (i : Int)) = some c := by
        rw [Int.zero_add]
        exact atI_nat hc
      have en : entAt es (chS c) = none := by
        cases e : entAt es (chS c) with
        | none => rfl
        | some t =>
          have : chS c ∈ es.map (·.1) := List.mem_map.mpr ⟨_, entAt_mem e, rfl⟩
          rw [he5] at this
          obtain ⟨c', hc', q⟩ := List.mem_map.mp this
          rw [chS_inj q] at hc'
          exact absurd hc' (nd_take letT_nd hc)
      have le : es.length = i := by
        have := congrArg List.length he5
        rw [List.length_map, List.length_map, List.length_take] at this
        omega
      have nmn : Nm10 ((["d"] : List Str) ++ [chS c]) := ⟨by simp, fun z hz => by
        rcases List.mem_append.mp hz with hz | hz
        · rw [List.mem_singleton.mp hz]
          exact nmd
        · rw [List.mem_singleton.mp hz]
          exact nmc⟩
      refine ⟨_, rfl, x, _, _, rfl, ob5, tr_no (by decide +kernel), _, rfl, _, rfl, letT, _, c, rfl, rfl, by decide, hat, ?_⟩
      have hpn : pnV (.str (("/d/" : Str) ++ chS c)) = some ((["d"] : List Str) ++ [chS c]) := by
        rw [pathdz]
        exact path_pn nmn (by simp)
      refine ⟨_, _, rfl, rfl, (by show 3 + 1 ≤ sizeLine; decide), x, d, L', D'.nx, _, rfl, h5.t, by rw [pathdz]; exact path_pv nmn, putE_of hpn g5 n5 en (by omega) (by omega) fun b2 H6 hb2 o6 t6 => ?_⟩
      have hm6 : MdAt H6 D' := h5.m.off fun b o e f => o6 b o e fun q => h5.dj _ q f
      have nbM : ¬ MdFoot D' b2 := fun f => by
        obtain ⟨o, ho⟩ := h5.m.live f
        rw [ho] at hb2
        cases hb2
      have d5 := h5.t.wf
      have hg5 : goW L' 1 (["d"] : List Str) = .inr 2 := g5
      have lk0 : lookM D'.M ((["d"] : List Str) ++ [chS c]) = none := h5.r.look_free g5 n5 en
      have gN : ∀ {H : Hp}, H D'.m = some (.dK (mdK D')) → DGet H D.m (.str "next") (some (.int D'.nx)) := fun {H} e => by
        rw [← em, ← md_n]
        exact mdg e _
      have gA' : ∀ {H : Hp}, H D'.m = some (.dK (mdK D')) → DGet H D.m (.str "at") (some (.ref D'.a)) := fun {H} e => by
        rw [← em, ← md_a]
        exact mdg e _
      have gW' : ∀ {H : Hp}, H D'.m = some (.dK (mdK D')) → DGet H D.m (.str "words") (some (.ref D'.w)) := fun {H} e => by
        rw [← em, ← md_w]
        exact mdg e _
      refine ⟨_, rfl, D.m, _, rfl, gN hm6.hm, _, rfl, D.m, _, rfl, gA' hm6.hm, _, rfl, _, rfl, letT, _, c, rfl, rfl, by decide, hat, (by show 2 ≤ sizeLine; decide), fun T hT => ?_⟩
      have s7 : Same H6 (upd H6 T (.tup [.str "d", .str ⟨#[c]⟩])) := Same.new hT
      have gT : upd H6 T (.tup [.str "d", .str ⟨#[c]⟩]) T = some (.tup [.str "d", .str (chS c)]) := upd_same
      have hT6 : H6 T = none := hT
      generalize hH7 : upd H6 T (.tup [.str "d", .str ⟨#[c]⟩]) = H7 at s7 gT ⊢
      have hm7 := hm6.sm s7
      have szM := h5.sz
      refine ⟨D'.a, _, rfl, DPut.t hm7.ha (k := ((["d"] : List Str) ++ [chS c]).map Sum.inr) gT (by unfold atK; rw [List.length_map, sizeLine_eq]; omega), ?_⟩
      rw [put_at lk0]
      have o8 : ∀ c' u, H7 c' = some u → c' ≠ D'.a → upd H7 D'.a (.dT (atK (D'.M ++ [((["d"] : List Str) ++ [chS c], D'.nx)]))) c' = some u := fun c u e n => by rw [upd_ne n]; exact e
      have a8 : upd H7 D'.a (.dT (atK (D'.M ++ [((["d"] : List Str) ++ [chS c], D'.nx)]))) D'.a = some (.dT (atK (D'.M ++ [((["d"] : List Str) ++ [chS c], D'.nx)]))) := upd_same
      have n8 : ∀ c', upd H7 D'.a (.dT (atK (D'.M ++ [((["d"] : List Str) ++ [chS c], D'.nx)]))) c' = none → H7 c' = none := fun c e => by
        by_cases q : c = D'.a
        · rw [q, upd_same] at e
          cases e
        · rw [upd_ne q] at e
          exact e
      generalize upd H7 D'.a (.dT (atK (D'.M ++ [((["d"] : List Str) ++ [chS c], D'.nx)]))) = H8 at o8 a8 n8 ⊢
      have m8 := o8 _ _ hm7.hm hm7.nma
      have w8 := o8 _ _ hm7.hw hm7.nwa
      refine ⟨Nat.zero_le _, fun wl hwl => ?_⟩
      have s9 : Same H8 (upd H8 wl (.lst [])) := Same.new hwl
      have b9 : upd H8 wl (.lst []) wl = some (.lst []) := upd_same
      have hwl6 : H6 wl = none := same_none s7 (n8 wl hwl)
      generalize upd H8 wl (.lst []) = H9 at s9 b9 ⊢
      have m9 := s9 _ _ m8
      have w9 := s9 _ _ w8
      have szF := h5.r.fz
      refine ⟨_, rfl, D.m, _, rfl, gW' m9, _, rfl, D.m, _, rfl, gN m9, D'.w, _, rfl, DPut.k (k := .inl D'.nx) w9 (by unfold wdK; rw [List.length_map, sizeLine_eq]; omega), ?_⟩
      rw [put_wd (ws := []) (h5.r.wd_new h5.t.wf)]
      have o10 : ∀ c' u, H9 c' = some u → c' ≠ D'.w → upd H9 D'.w (.dK (wdK (D'.F ++ [(D'.nx, wl, [])]))) c' = some u := fun c u e n => by rw [upd_ne n]; exact e
      have w10 : upd H9 D'.w (.dK (wdK (D'.F ++ [(D'.nx, wl, [])]))) D'.w = some (.dK (wdK (D'.F ++ [(D'.nx, wl, [])]))) := upd_same
      generalize upd H9 D'.w (.dK (wdK (D'.F ++ [(D'.nx, wl, [])]))) = H10 at o10 w10 ⊢
      have m10 := o10 _ _ m9 hm7.ne
      refine ⟨_, rfl, D.m, _, rfl, gN m10, _, _, rfl, rfl, _, rfl, D'.m, _, by rw [em], DPut.k (k := .inr "next") m10 (by show 3 < sizeLine; decide), ?_⟩
      rw [mdK_next]
      have o11 : ∀ c' u, H10 c' = some u → c' ≠ D'.m → upd H10 D'.m (.dK [(.inr "at", .ref D'.a), (.inr "words", .ref D'.w), (.inr "next", .int (D'.nx + 1))]) c' = some u := fun c u e n => by rw [upd_ne n]; exact e
      have m11 : upd H10 D'.m (.dK [(.inr "at", .ref D'.a), (.inr "words", .ref D'.w), (.inr "next", .int (D'.nx + 1))]) D'.m = some (.dK [(.inr "at", .ref D'.a), (.inr "words", .ref D'.w), (.inr "next", .int (D'.nx + 1))]) := upd_same
      generalize upd H10 D'.m (.dK [(.inr "at", .ref D'.a), (.inr "words", .ref D'.w), (.inr "next", .int (D'.nx + 1))]) = H11 at o11 m11 ⊢
      have keep : ∀ c' u, H6 c' = some u → c' ≠ D'.a → c' ≠ D'.w → c' ≠ D'.m → H11 c' = some u := fun c' u e n1 n2 n3 => o11 _ _ (o10 _ _ (s9 _ _ (o8 _ _ (s7 _ _ e) n1)) n2) n3
      have fresh : ∀ c', H5 c' = none → Ft x d L D c' ∨ H c' = none := fun c' e => by
        by_cases q : Ft x d L D c'
        · exact .inl q
        · cases e2 : H c' with
          | none => exact .inr rfl
          | some u =>
            rw [fr1 c' u e2 q] at e
            cases e
      have wlM : ¬ MdFoot D' wl := fun f => by
        obtain ⟨o, ho⟩ := hm6.live f
        rw [ho] at hwl6
        cases hwl6
      have wlT : ¬ TrFoot x d (growL L' 2 es (chS c) D'.nx b2 (.file [])) wl := fun f => by
        obtain ⟨o, ho⟩ := t6.someF f
        rw [ho] at hwl6
        cases hwl6
      have wl5 : H5 wl = none ∨ TrFoot x d L' wl := by
        by_cases q : TrFoot x d L' wl
        · exact .inr q
        · cases e : H5 wl with
          | none => exact .inl rfl
          | some u =>
            rw [o6 _ _ e q] at hwl6
            cases hwl6
      have nfA : ∀ c', TrFoot x d (growL L' 2 es (chS c) D'.nx b2 (.file [])) c' → c' ≠ D'.a ∧ c' ≠ D'.w ∧ c' ≠ D'.m := fun c' f => by
        rcases foot_grow f with f | rfl
        · exact ⟨fun e => h5.dj c' f (.inr (.inl e)), fun e => h5.dj c' f (.inr (.inr (.inl e))), fun e => h5.dj c' f (.inl e)⟩
        · exact ⟨fun e => nbM (.inr (.inl e)), fun e => nbM (.inr (.inr (.inl e))), fun e => nbM (.inl e)⟩
      have t11 : TrAt A_Tree H11 x d (growL L' 2 es (chS c) D'.nx b2 (.file [])) (D'.nx + 1) := t6.off fun c' u e f => keep c' u e (nfA c' f).1 (nfA c' f).2.1 (nfA c' f).2.2
      have M11 : MdAt H11 (D'.put ((["d"] : List Str) ++ [chS c]) (some wl)) := by
        refine hm6.put' m11 ?_ ?_ (fun f hf => ?_) (fun b e => ?_)
        · exact o11 _ _ (o10 _ _ (s9 _ _ a8) hm6.nwa.symm) hm6.nma.symm
        · exact o11 _ _ w10 hm6.ne.symm
        · obtain ⟨f1, f2, f3⟩ := hm6.nfa hf
          exact keep _ _ (hm6.hf f hf) f1 f3 f2
        · cases e
          have nww : wl ≠ D'.w := fun e => wlM (.inr (.inr (.inl e)))
          have nwm : wl ≠ D'.m := fun e => wlM (.inl e)
          exact ⟨o11 _ _ (o10 _ _ b9 nww) nwm, hwl6⟩
      have nb : ¬ MdFoot (D'.put ((["d"] : List Str) ++ [chS c]) (some wl)) b2 := fun f => by
        rcases mfoot_put f with f | f
        · exact nbM f
        · cases f
          exact wlT (.inr (.inr ⟨(D'.nx, b2, .file []), List.mem_append_right _ (List.mem_singleton.mpr rfl), rfl⟩))
      have h11 : S32 A_Tree H11 x d (growL L' 2 es (chS c) D'.nx b2 (.file [])) (D'.put ((["d"] : List Str) ++ [chS c]) (some wl)) := h5.put (ys := ["d"]) (fb := some wl) g5 n5 en nmc (by decide) t11 M11 nb (fun c' e f => by
        cases e
        exact wlT (by
          rcases f with f | f | ⟨p, hp, f⟩
          · exact .inl f
          · exact .inr (.inl f)
          · refine .inr (.inr ⟨_, List.mem_append_left _ (List.mem_map.mpr ⟨p, hp, rfl⟩), ?_⟩)
            rw [← f]
            split <;> rfl))
      refine ⟨_, _, D'.put (((["d"] : List Str)) ++ [chS c]) (some wl), es ++ [(chS c, D'.nx)], a2, rfl, em, h11, fun c' u e nf => ?_, fun c' f => ?_, ?_, ?_, ?_, ?_, ?_⟩
      · have e5 := fr1 c' u e nf
        have nf5 : ¬ Ft x d L' D' c' := fun f => (fr2 c' f).elim nf fun q => by
          rw [q] at e
          cases e
        exact keep c' u (o6 _ _ e5 fun f => nf5 (.inl f)) (fun q => nf5 (.inr (.inr (.inl q)))) (fun q => nf5 (.inr (.inr (.inr (.inl q))))) fun q => nf5 (.inr (.inl q))
      · rcases f with f | f
        · rcases foot_grow f with f | rfl
          · exact fr2 c' (.inl f)
          · exact fresh _ hb2
        · rcases mfoot_put f with f | f
          · exact fr2 c' (.inr f)
          · cases f
            rcases wl5 with q | q
            · exact fresh _ q
            · exact fr2 _ (.inl q)
      · show D'.nx + 1 = _
        omega
      · exact goW_growL h5.t.wf n5 g5
      · have : (2 : Int) < D'.nx := h5.t.wf.lt _ (ndAt_mem n5)
        rw [growL_at n5 h5.t.wf.lt, if_neg (by omega), if_pos rfl]
      · rw [List.map_append, he5, take_snoc hc, List.map_append]
        rfl
      · unfold growL setNd
        rw [List.length_append, List.length_map, hl5]
        rfl
abbrev s_l_names : Stmt := topS 46
abbrev N_l_names : List Str := ["pot", "model", "some", "base", "told", "way", "one"]
theorem sc_l_names : FnScope N_l_names ["pot", "model"] (defScope s_l_names) := ⟨rfl, rfl, rfl, by decide +kernel, rfl, by decide +kernel, by decide +kernel⟩
def sp_l_names_m (K : PySem.W.Frag) : Sp := fun vs H Q _ => ∃ (D : Md) (L : TLs) (p : Addr) (a b : Int), vs = [.ref p, .ref D.m] ∧ MdAt H D ∧ Rl L D.M D.F ∧ D.M.length < 900 ∧ Pot H p a b ∧ ¬ MdFoot D p ∧
  ∀ (t : Addr) (ns : List Str) (a' b' : Int) H', SameBut p H H' → Pot H' p a' b' → H' t = some (.tup (ns.map V.str)) → Nm10 ns → Q (.ref t) H'
theorem ok_l_names {f : Addr} {fd : FuncData} (F : Fun K "_law_names" "_law_names" s_l_names f fd) (B : Bt mg) (C_law_take : Cal P w K mg base CX0 "_law_take" 1 ["pot", "many"] sp_l_tk) (C_law_name : Cal P w K mg base CX0 "_law_name" 2 ["pot", "some"] (sp_l_name_t K)) : GnOk P w K mg base CX0 3 f fd ["pot", "model"] (sp_l_names_m K) := by
  refine gn_fun F sc_l_names (fun vs H Q E h => ?_) (fun cdv A outer s H vs Q E hr h => ?_)
  · obtain ⟨D, L, p, a, b, rfl, _⟩ := h
    rfl
  · obtain ⟨D, L, p, a, b, rfl, hm, hr', h900, hp, np, k⟩ := h
    refine ⟨_, (pss_cons (ps_set (i := 2) sc_l_names.nd rfl (Or.inl rfl) (pe_callB (ST.cr_sortedDT rfl hr.units) (by rfl) B.sorted (by decide +kernel) (pa_cons (pe_dget hr.hu (pv 1) pe_str (fun _ _ => rfl)) pa_nil)))
    (pss_cons (ps_set (i := 3) sc_l_names.nd rfl (Or.inl rfl) (pe_ix (ix_listK K) (pv 2) (pe_cal C_law_take (hr.mono (by decide)) (by rfl) pass0 (pa_cons (pv 0) (pa_cons (pe_callB (call_lenK K) (by rfl) B.len (by decide +kernel) (pa_cons (pv 2) pa_nil)) pa_nil))) (fun _ _ => rfl)))
    (pss_cons (ps_setLc (i := 4) (own := [("one", 6)]) (g := gName 6) (by rfl) sc_l_names.nd rfl rfl (sw_true rfl rfl rfl (by decide +kernel)) (pi_listK K (pv 2)) (blkOk_by (N := N_l_names) (sc := defScope s_l_names) (by decide +kernel)) (fun _ _ _ _ _ => pg_name (i := 6) sc_l_names.nd rfl (Or.inl rfl)) (fun _ _ _ _ _ => pts_one (pt_cmpR (op_neDK K hr.units) (pv 6) (pe_tup pa_nil) (nomark _))) (fun _ _ _ _ _ => (pe_ix (ix_tupK K) (pv 6) (pe_un un_neg pe_int) (fun _ _ => rfl))))
    (pss_cons (ps_set (i := 5) sc_l_names.nd rfl (Or.inl rfl) (pe_cal C_law_take (hr.mono (by decide)) (by rfl) pass0 (pa_cons (pv 0) (pa_cons pe_int pa_nil))))
    (pss_cons (ps_if (pt_cmpR op_lt (pv 5) pe_int (nomark _))
      (pss_one (ps_ret (pv 3)))
      pss_nil)
    (pss_cons (ps_if (pt_cmpR op_lt (pv 5) pe_int (nomark _))
      (pss_one (ps_ret (pe_op (op_catAK K) (pv 3) (pe_tup (pa_cons (pe_cal C_law_name (hr.mono (by decide)) (by rfl) pass0 (pa_cons (pv 0) (pa_cons (pv 4) pa_nil))) pa_nil)))))
      pss_nil)
    (pss_one (ps_ret (pe_op (op_catAK K) (pv 3) (pe_tup (pa_cons (pe_cal C_law_name (hr.mono (by decide)) (by rfl) pass0 (pa_cons (pv 0) (pa_cons (pv 4) pa_nil))) (pa_cons (pe_cal C_law_name (hr.mono (by decide)) (by rfl) pass0 (pa_cons (pv 0) (pa_cons (pv 4) pa_nil))) pa_nil)))))))))))), ?_⟩
    obtain ⟨r, hM⟩ := hr'.hd
    have hks : (atK D.M).map (·.1) = (([] : List Str) :: r.map (·.1)).map fun k => k.map Sum.inr := by
      unfold atK
      rw [hM, List.map_map]
      simp
    refine ⟨_, rfl, D.m, _, rfl, hm.gA, D.a, _, _, rfl, hm.ha, hks, fun zs sl hz ht hsl => ?_⟩
    have s1 : Same H (upd H sl (.lst (zs.map fun z => V.ref z.1))) := Same.new hsl
    have g1 : upd H sl (.lst (zs.map fun z => V.ref z.1)) sl = some (.lst (zs.map fun z => V.ref z.1)) := upd_same
    generalize upd H sl (.lst (zs.map fun z => V.ref z.1)) = H1 at s1 g1 ⊢
    have hp1 : Pot H1 p a b := ⟨s1 _ _ hp.1, hp.2⟩
    have n1p : sl ≠ p := hp.ne hsl
    have hlen : zs.length = D.M.length := by
      have := hz.length_eq
      rw [List.length_map, List.length_cons, List.length_map] at this
      rw [this, hM, List.length_cons]
    have zM : ∀ z ∈ zs, z.2.length ≤ 8 ∧ ∀ y ∈ z.2, NmL y := fun z hz' => by
      have : z.2 ∈ ([] :: r.map (·.1) : List (List Str)) := hz.mem_iff.mp (List.mem_map.mpr ⟨z, hz', rfl⟩)
      have e : z.2 ∈ D.M.map (·.1) := by rw [hM]; exact this
      obtain ⟨e, he, q⟩ := List.mem_map.mp e
      rw [← q]
      exact hr'.nm e he
    have h1 : 0 < zs.length := by
      rw [hlen, hM]
      simp
    have lg : ((zs.length : Nat) : Int).natAbs.log2 < 9000 := by
      refine Nat.lt_of_le_of_lt (Nat.log2_le_self _) ?_
      omega
    refine ⟨_, rfl, _, rfl, _, rfl, _, zs.length, rfl, .inl ⟨_, SqL.of g1, by simp⟩, p, a, b, _, rfl, hp1, by omega, lg, fun j a2 b2 H2 s2 p2 j0 j1 => ?_⟩
    obtain ⟨v, hv, hvm⟩ := atI_mem (xs := zs.map fun z => V.ref z.1) (i := j) j0 (by rw [List.length_map]; exact j1)
    obtain ⟨z0, hz0, rfl⟩ := List.mem_map.mp hvm
    have g2 := s2.at g1 n1p
    have nzp : ∀ z ∈ zs, z.1 ≠ p := fun z hz' e => by
      have := ht z hz'
      rw [e, hp.1] at this
      cases this
    have ht2 : ∀ z ∈ zs, H2 z.1 = some (.tup (z.2.map V.str)) := fun z hz' => s2.at (s1 _ _ (ht z hz')) (nzp z hz')
    have s02 : SameBut p H H2 := fun c o e n => s2 c o (s1 _ _ e) n
    refine ⟨sl, _, _, _, rfl, rfl, SqL.of g2, hv, ?_⟩
    refine ⟨_, rfl, sl, rfl, ⟨_, SqL.of g2⟩, fun tl htl => ?_⟩
    refine lc_it (walk_list (K := K) (a := sl) (xs := zs.map fun z => V.ref z.1)) (fun i H7 => ∃ us : List Str, H7 tl = some (.lst (us.map V.str)) ∧ us.length ≤ i ∧ (∀ y ∈ us, NmL y) ∧ Same H2 H7) ⟨[], upd_same, Nat.le_refl _, (fun _ h => nomatch h), Same.new htl⟩ (fun _ _ _ e => SqL.of (e.choose_spec.2.2.2 _ _ g2)) ?_ ?_
    · rintro i x H8 H7 hi ⟨us, e1, e2, e3, s7⟩ ⟨rfl, hx⟩
      rw [List.getElem?_map] at hx
      obtain ⟨z, hzi, rfl⟩ := Option.map_eq_some_iff.mp hx
      have hzm := List.mem_of_getElem? hzi
      have hz7 := s7 _ _ (ht2 z hzm)
      refine ⟨rfl, ?_⟩
      refine ⟨_, rfl, (by show 0 ≤ sizeLine; decide), fun u hu => ne_strs (xs := z.2) (ys := []) ((Same.new hu) _ _ hz7) upd_same (zM z hzm).2 (fun _ h => nomatch h) ⟨_, rfl, ?_⟩⟩
      have s8 : Same H7 (upd H7 u (.tup [])) := Same.new hu
      generalize upd H7 u (.tup []) = H8 at s8 ⊢
      rw [List.length_map] at hi
      rcases List.eq_nil_or_concat z.2 with c | ⟨ys, y, c⟩
      · rw [decide_eq_true c]
        exact iteF ⟨us, s8 _ _ e1, by omega, e3, s7.trans s8⟩
      · have c' : ¬ z.2 = [] := by
          rw [c, List.concat_eq_append]
          simp
        rw [decide_eq_false c']
        refine iteT ?_
        rw [List.concat_eq_append] at c
        refine ⟨_, rfl, _, rfl, z.1, _, _, _, rfl, rfl, SqT.of (s8 _ _ hz7), last_at (z := y) (by rw [c, List.getLast?_concat]), us.map V.str, s8 _ _ e1, by rw [List.length_map, sizeLine_eq]; omega, us ++ [y], ?_, ?_, ?_, ?_⟩
        · rw [upd_same, List.map_append]
          rfl
        · rw [List.length_append]
          show _ + 1 ≤ _
          omega
        · intro x hx
          rcases List.mem_append.mp hx with hx | hx
          · exact e3 x hx
          · rw [List.mem_singleton.mp hx]
            exact (zM z hzm).2 y (by rw [c]; simp)
        · intro b w hb
          rw [upd_ne (ne_of_none hb htl)]
          exact s8 _ _ (s7 _ _ hb)
    rintro H3 ⟨us, e1, e2, e3, s3⟩
    have p3 : Pot H3 p a2 b2 := ⟨s3 _ _ p2.1, p2.2⟩
    have s03 : SameBut p H H3 := s02.same s3
    have n2p : tl ≠ p := p2.ne htl
    refine ⟨_, rfl, p, a2, b2, 6, rfl, p3, by decide, by decide, fun j4 a4 b4 H4 s4 p4 j40 j41 => ?_⟩
    have s04 := s03.trans s4
    have t4 : ∀ {H5 : Hp}, SameBut p H3 H5 → H5 z0.1 = some (.tup (z0.2.map V.str)) := fun {H5} s => s.at (s3 _ _ (ht2 z0 hz0)) (nzp z0 hz0)
    have nm0 := zM z0 hz0
    refine ⟨_, rfl, _, _, rfl, rfl, _, rfl, ite2 (fun c => ?_) fun c => ?_⟩
    · exact ⟨_, rfl, k _ z0.2 _ _ _ s04 p4 (t4 s4) ⟨by have := nm0.1; omega, nm0.2⟩⟩
    refine ⟨_, rfl, _, _, rfl, rfl, _, rfl, ite2 (fun c => ?_) fun c => ?_⟩
    · refine ⟨_, rfl, _, rfl, _, rfl, p, a4, b4, tl, us, rfl, p4, s4.at e1 n2p, n2p, ?_, e3, fun y H5 a5 b5 s5 p5 hy => ?_⟩
      · rw [List.length_map] at e2
        omega
      have s05 := s04.trans s5
      refine ⟨(by show 1 ≤ sizeLine; decide), fun u hu => ?_⟩
      have s56 : SameBut p H (upd H5 u (.tup [.str y])) := s05.new hu
      refine catA_strs (ns := z0.2) (ms := [y]) ((Same.new hu) _ _ (t4 (s4.trans s5))) upd_same (by have := nm0.1; show _ + 1 ≤ _; omega) fun t H6 s6 hT => ?_
      refine k t _ a5 b5 H6 (s56.same s6) ⟨s6 _ _ (p5.new hu).1, p5.2⟩ hT ⟨by rw [List.length_append]; have := nm0.1; show _ + 1 ≤ _; omega, fun x hx => ?_⟩
      rcases List.mem_append.mp hx with hx | hx
      · exact nm0.2 x hx
      · rw [List.mem_singleton.mp hx]
        exact hy
    · refine ⟨_, rfl, _, rfl, _, rfl, p, a4, b4, tl, us, rfl, p4, s4.at e1 n2p, n2p, ?_, e3, fun y H5 a5 b5 s5 p5 hy => ?_⟩
      · rw [List.length_map] at e2
        omega
      refine ⟨_, rfl, _, rfl, p, a5, b5, tl, us, rfl, p5, s5.at (s4.at e1 n2p) n2p, n2p, ?_, e3, fun y2 H6 a6 b6 s6 p6 hy2 => ?_⟩
      · rw [List.length_map] at e2
        omega
      have s06 := (s04.trans s5).trans s6
      refine ⟨(by show 2 ≤ sizeLine; decide), fun u hu => ?_⟩
      have s67 : SameBut p H (upd H6 u (.tup [.str y, .str y2])) := s06.new hu
      refine catA_strs (ns := z0.2) (ms := [y, y2]) ((Same.new hu) _ _ (t4 ((s4.trans s5).trans s6))) upd_same (by have := nm0.1; show _ + 2 ≤ _; omega) fun t H7 s7 hT => ?_
      refine k t _ a6 b6 H7 (s67.same s7) ⟨s7 _ _ (p6.new hu).1, p6.2⟩ hT ⟨by rw [List.length_append]; have := nm0.1; show _ + 2 ≤ _; omega, fun x hx => ?_⟩
      rcases List.mem_append.mp hx with hx | hx
      · exact nm0.2 x hx
      · rcases List.mem_cons.mp hx with rfl | hx
        · exact hy
        · rw [List.mem_singleton.mp hx]
          exact hy2
abbrev s_l_done : Stmt := topS 47
abbrev N_l_done : List Str := ["tree", "word", "path", "told", "found", "e"]
theorem sc_l_done : FnScope N_l_done ["tree", "word", "path"] (defScope s_l_done) := ⟨rfl, rfl, rfl, by decide +kernel, rfl, by decide +kernel, by decide +kernel⟩
def sp_l_done (K : PySem.W.Frag) (C BP NS ND EX TM : Addr) : Sp := fun vs H Q _ => ∃ (x d : Addr) (L : TLs) (nx : Int) (ns : List Str) (wd : Str), vs = [.ref x, .str wd, .str (pathOf ns)] ∧ (wd = "make" ∨ wd = "create") ∧ TrAt C H x d L nx ∧ Nm10 ns ∧
  (∀ kd f, dueP L ns = some (kd, f) → ∀ T H', Same H H' → H T = none → H' T = some (.tup [.str kd, .str f]) → Q (.ref T) H') ∧
  (∀ ys z n a es, ns = ys ++ [z] → ¬ 8 < ns.length → goW L 1 ys = .inr n → ndAt L n = some (a, .dir es) → entAt es z = none → es.length ≠ 20 → L.length ≠ 24 → dueP L ns = none → ∀ T b H', OffT x d L H H' → H b = none → H T = none → H' T = some (.tup [.str "done", .non]) → TrAt C H' x d (growL L n es z nx b (if wd = "create" then .file [] else .dir [])) (nx + 1) → Q (.ref T) H')
theorem ok_l_done {f : Addr} {fd : FuncData} (F : Fun K "_law_done" "_law_done" s_l_done f fd) (B : Bt mg) {A_TreeError : Addr} {A_BadPath : Addr} {A_NoSuch : Addr} {A_NotDir : Addr} {A_Exists : Addr} {A_TooMuch : Addr} {A_Tree : Addr} (T_Tree : CF K mg "Tree" A_Tree ["inner", "next_one"]) (M_Tree_make : Mth P w K mg base (L2.CX P w) A_Tree "make" 6 ["self", "path"] (sp_Tree_make K A_Tree A_BadPath A_NotDir A_NoSuch A_Exists A_TooMuch)) (M_Tree_create : Mth P w K mg base (L2.CX P w) A_Tree "create" 6 ["self", "path"] (sp_Tree_create K A_Tree A_BadPath A_NotDir A_NoSuch A_Exists A_TooMuch)) (XC_TreeError : XCls K mg "TreeError" A_TreeError) (XM_BadPath_TreeError : PySem.W.exmOne K (.ref A_BadPath) (.ref A_TreeError) = some true) (XM_NoSuch_TreeError : PySem.W.exmOne K (.ref A_NoSuch) (.ref A_TreeError) = some true) (XM_NotDir_TreeError : PySem.W.exmOne K (.ref A_NotDir) (.ref A_TreeError) = some true) (XM_Exists_TreeError : PySem.W.exmOne K (.ref A_Exists) (.ref A_TreeError) = some true) (XM_TooMuch_TreeError : PySem.W.exmOne K (.ref A_TooMuch) (.ref A_TreeError) = some true) (E_l_class : CalE P w K mg base "_law_class" 1 ["e"] (sp_l_class A_BadPath A_NoSuch A_NotDir A_Exists A_TooMuch)) (E_l_field : CalE P w K mg base "_law_field" 1 ["e"] (sp_l_field A_BadPath A_NoSuch A_NotDir A_Exists A_TooMuch)) : GnOk P w K mg base CX0 7 f fd ["tree", "word", "path"] (sp_l_done K A_Tree A_BadPath A_NoSuch A_NotDir A_Exists A_TooMuch) := by
  refine gn_fun F sc_l_done (fun vs H Q E h => ?_) (fun cdv A outer s H vs Q E hr h => ?_)
  · obtain ⟨x, d, L, nx, ns, wd, rfl, _⟩ := h
    rfl
  · obtain ⟨x, d, L, nx, ns, wd, rfl, hw, ht, hn, k1, k2⟩ := h
    refine ⟨_, (pss_cons (ps_set (i := 3) sc_l_done.nd rfl (Or.inl rfl) (pe_tup (pa_cons pe_str (pa_cons pe_non pa_nil))))
    (pss_cons (ps_try_as (i := 5) rfl rfl sc_l_done.nd rfl rfl ⟨by rfl, by decide, .inl XC_TreeError.mgC⟩ takes0
      (fun W pn xe tk _ => (pss_cons (ps_set (i := 4) sc_l_done.nd rfl (Or.inl rfl) (pe_ifExp (pt_cmpR op_eq (pv 1) pe_str (nomark _)) (pe_mthS M_Tree_make T_Tree.cl (hr.mono (by decide)) (fun σ => passAt tk σ) (pv 0) (pa_cons (pv 2) pa_nil)) (pe_mthS M_Tree_create T_Tree.cl (hr.mono (by decide)) (fun σ => passAt tk σ) (pv 0) (pa_cons (pv 2) pa_nil))))
    (pss_one (ps_if (pt_cmpR op_notN (pv 4) pe_non (nomark _))
      (pss_one (ps_set (i := 3) sc_l_done.nd rfl (Or.inl rfl) (pe_tup (pa_cons pe_str (pa_cons pe_non pa_nil)))))
      pss_nil))))
      (fun a oe cls d pn hz hf => (pss_one (ps_set (i := 3) sc_l_done.nd rfl (Or.inl rfl) (pe_tup (pa_cons (pe_callE2 E_l_class (roomHm hr (by decide)) List.mem_cons_self hz hf (by rfl) (pa_cons (pv 5) pa_nil)) (pa_cons (pe_callE2 E_l_field (roomHm hr (by decide)) List.mem_cons_self hz hf (by rfl) (pa_cons (pv 5) pa_nil)) pa_nil)))))))
    (pss_one (ps_ret (pv 3))))), ?_⟩
    refine ⟨(by show 2 ≤ sizeLine; decide), fun t0 ht0 => ?_⟩
    have s1 : Same H (upd H t0 (.tup [.str "done", .non])) := Same.new ht0
    have g0 : (upd H t0 (.tup [.str "done", .non])) t0 = some (.tup [.str "done", .non]) := upd_same
    generalize (upd H t0 (.tup [.str "done", .non])) = H1 at s1 g0 ⊢
    obtain ⟨dx, ob⟩ := ht.ob
    have ht1 := ht.m s1
    have ht0n : H t0 = none := ht0
    have offH : ∀ {H2}, OffT x d L H1 H2 → OffT x d L H H2 ∧ H2 t0 = some (.tup [.str "done", .non]) := fun o => ⟨fun c u hc nf => o c u (s1 _ _ hc) nf, o _ _ g0 fun f => by
      obtain ⟨u, hu⟩ := ht.someF f
      rw [ht0n] at hu
      cases hu⟩
    refine ⟨_, rfl, rfl, _, rfl, ?_⟩
    have ne1 : ¬ ("make" : Str) = "create" := by decide +kernel
    rcases hw with rfl | rfl
    · refine iteT' (decide_eq_true rfl) ?_
      refine ⟨_, rfl, x, _, _, rfl, s1 _ _ ob, tr_no (by decide +kernel), _, rfl, x, d, L, nx, _, rfl, ht1, path_pv hn, putE_due hn (fun C fl kd f due hc e H3 s2 n3 g3 => ?_) (fun ys z n a es e1 e8 e2 e3 e4 e5 e6 e7 b H3 hb o3 t3 => ?_)⟩
      · have s3 := s1.trans s2
        rcases hc with ⟨rfl, rfl, rfl⟩ | ⟨rfl, rfl, rfl⟩ | ⟨rfl, rfl, rfl⟩ | ⟨rfl, rfl, rfl⟩ | ⟨rfl, rfl, rfl⟩
        · refine ⟨true, XM_BadPath_TreeError, fun _ p hp => ?_, fun q => Bool.noConfusion q⟩
          refine ⟨_, rfl, (.inr ⟨e, _, rfl, g3⟩), rfl, _, (.inl ⟨rfl, rfl⟩), (.inr ⟨e, _, rfl, g3⟩), fun H4 s4 => ?_⟩
          refine ⟨_, rfl, (.inr ⟨e, _, rfl, s4 _ _ g3⟩), rfl, _, (.inl ⟨rfl, e, rfl, s4 _ _ g3⟩), (.inr ⟨e, _, rfl, s4 _ _ g3⟩), fun H5 s5 => ⟨(by show 2 ≤ sizeLine; decide), fun t ht => ?_⟩⟩
          exact ⟨_, rfl, k1 _ _ due t _ (((s3.trans s4).trans s5).trans (Same.new ht)) (same_none ((s3.trans s4).trans s5) ht) upd_same⟩
        · refine ⟨true, XM_NoSuch_TreeError, fun _ p hp => ?_, fun q => Bool.noConfusion q⟩
          refine ⟨_, rfl, (.inr ⟨e, _, rfl, g3⟩), rfl, _, (.inr (.inl ⟨rfl, rfl⟩)), (.inr ⟨e, _, rfl, g3⟩), fun H4 s4 => ?_⟩
          refine ⟨_, rfl, (.inr ⟨e, _, rfl, s4 _ _ g3⟩), rfl, _, (.inr (.inl ⟨rfl, e, rfl, s4 _ _ g3⟩)), (.inr ⟨e, _, rfl, s4 _ _ g3⟩), fun H5 s5 => ⟨(by show 2 ≤ sizeLine; decide), fun t ht => ?_⟩⟩
          exact ⟨_, rfl, k1 _ _ due t _ (((s3.trans s4).trans s5).trans (Same.new ht)) (same_none ((s3.trans s4).trans s5) ht) upd_same⟩
        · refine ⟨true, XM_NotDir_TreeError, fun _ p hp => ?_, fun q => Bool.noConfusion q⟩
          refine ⟨_, rfl, (.inr ⟨e, _, rfl, g3⟩), rfl, _, (.inr (.inr (.inl ⟨rfl, rfl⟩))), (.inr ⟨e, _, rfl, g3⟩), fun H4 s4 => ?_⟩
          refine ⟨_, rfl, (.inr ⟨e, _, rfl, s4 _ _ g3⟩), rfl, _, (.inr (.inr (.inl ⟨rfl, e, rfl, s4 _ _ g3⟩))), (.inr ⟨e, _, rfl, s4 _ _ g3⟩), fun H5 s5 => ⟨(by show 2 ≤ sizeLine; decide), fun t ht => ?_⟩⟩
          exact ⟨_, rfl, k1 _ _ due t _ (((s3.trans s4).trans s5).trans (Same.new ht)) (same_none ((s3.trans s4).trans s5) ht) upd_same⟩
        · refine ⟨true, XM_Exists_TreeError, fun _ p hp => ?_, fun q => Bool.noConfusion q⟩
          refine ⟨_, rfl, (.inr ⟨e, _, rfl, g3⟩), rfl, _, (.inr (.inr (.inr (.inl ⟨rfl, rfl⟩)))), (.inr ⟨e, _, rfl, g3⟩), fun H4 s4 => ?_⟩
          refine ⟨_, rfl, (.inr ⟨e, _, rfl, s4 _ _ g3⟩), rfl, _, (.inr (.inr (.inr (.inl ⟨rfl, e, rfl, s4 _ _ g3⟩)))), (.inr ⟨e, _, rfl, s4 _ _ g3⟩), fun H5 s5 => ⟨(by show 2 ≤ sizeLine; decide), fun t ht => ?_⟩⟩
          exact ⟨_, rfl, k1 _ _ due t _ (((s3.trans s4).trans s5).trans (Same.new ht)) (same_none ((s3.trans s4).trans s5) ht) upd_same⟩
        · refine ⟨true, XM_TooMuch_TreeError, fun _ p hp => ?_, fun q => Bool.noConfusion q⟩
          refine ⟨_, rfl, (.inr ⟨e, _, rfl, g3⟩), rfl, _, (.inr (.inr (.inr (.inr (⟨rfl, rfl⟩))))), (.inr ⟨e, _, rfl, g3⟩), fun H4 s4 => ?_⟩
          refine ⟨_, rfl, (.inr ⟨e, _, rfl, s4 _ _ g3⟩), rfl, _, (.inr (.inr (.inr (.inr (⟨rfl, e, rfl, s4 _ _ g3⟩))))), (.inr ⟨e, _, rfl, s4 _ _ g3⟩), fun H5 s5 => ⟨(by show 2 ≤ sizeLine; decide), fun t ht => ?_⟩⟩
          exact ⟨_, rfl, k1 _ _ due t _ (((s3.trans s4).trans s5).trans (Same.new ht)) (same_none ((s3.trans s4).trans s5) ht) upd_same⟩
      · obtain ⟨o4, g4⟩ := offH o3
        refine ⟨_, rfl, rfl, _, rfl, iteF ⟨_, rfl, k2 ys z n a es e1 e8 e2 e3 e4 e5 e6 e7 t0 b H3 o4 (same_none s1 hb) ht0n g4 ?_⟩⟩
        rw [if_neg ne1]
        exact t3
    · refine iteF' (decide_eq_false fun q => ne1 (V.str.inj q).symm) ?_
      refine ⟨_, rfl, x, _, _, rfl, s1 _ _ ob, tr_no (by decide +kernel), _, rfl, x, d, L, nx, _, rfl, ht1, path_pv hn, putE_due hn (fun C fl kd f due hc e H3 s2 n3 g3 => ?_) (fun ys z n a es e1 e8 e2 e3 e4 e5 e6 e7 b H3 hb o3 t3 => ?_)⟩
      · have s3 := s1.trans s2
        rcases hc with ⟨rfl, rfl, rfl⟩ | ⟨rfl, rfl, rfl⟩ | ⟨rfl, rfl, rfl⟩ | ⟨rfl, rfl, rfl⟩ | ⟨rfl, rfl, rfl⟩
        · refine ⟨true, XM_BadPath_TreeError, fun _ p hp => ?_, fun q => Bool.noConfusion q⟩
          refine ⟨_, rfl, (.inr ⟨e, _, rfl, g3⟩), rfl, _, (.inl ⟨rfl, rfl⟩), (.inr ⟨e, _, rfl, g3⟩), fun H4 s4 => ?_⟩
          refine ⟨_, rfl, (.inr ⟨e, _, rfl, s4 _ _ g3⟩), rfl, _, (.inl ⟨rfl, e, rfl, s4 _ _ g3⟩), (.inr ⟨e, _, rfl, s4 _ _ g3⟩), fun H5 s5 => ⟨(by show 2 ≤ sizeLine; decide), fun t ht => ?_⟩⟩
          exact ⟨_, rfl, k1 _ _ due t _ (((s3.trans s4).trans s5).trans (Same.new ht)) (same_none ((s3.trans s4).trans s5) ht) upd_same⟩
        · refine ⟨true, XM_NoSuch_TreeError, fun _ p hp => ?_, fun q => Bool.noConfusion q⟩
          refine ⟨_, rfl, (.inr ⟨e, _, rfl, g3⟩), rfl, _, (.inr (.inl ⟨rfl, rfl⟩)), (.inr ⟨e, _, rfl, g3⟩), fun H4 s4 => ?_⟩
          refine ⟨_, rfl, (.inr ⟨e, _, rfl, s4 _ _ g3⟩), rfl, _, (.inr (.inl ⟨rfl, e, rfl, s4 _ _ g3⟩)), (.inr ⟨e, _, rfl, s4 _ _ g3⟩), fun H5 s5 => ⟨(by show 2 ≤ sizeLine; decide), fun t ht => ?_⟩⟩
          exact ⟨_, rfl, k1 _ _ due t _ (((s3.trans s4).trans s5).trans (Same.new ht)) (same_none ((s3.trans s4).trans s5) ht) upd_same⟩
        · refine ⟨true, XM_NotDir_TreeError, fun _ p hp => ?_, fun q => Bool.noConfusion q⟩
          refine ⟨_, rfl, (.inr ⟨e, _, rfl, g3⟩), rfl, _, (.inr (.inr (.inl ⟨rfl, rfl⟩))), (.inr ⟨e, _, rfl, g3⟩), fun H4 s4 => ?_⟩
          refine ⟨_, rfl, (.inr ⟨e, _, rfl, s4 _ _ g3⟩), rfl, _, (.inr (.inr (.inl ⟨rfl, e, rfl, s4 _ _ g3⟩))), (.inr ⟨e, _, rfl, s4 _ _ g3⟩), fun H5 s5 => ⟨(by show 2 ≤ sizeLine; decide), fun t ht => ?_⟩⟩
          exact ⟨_, rfl, k1 _ _ due t _ (((s3.trans s4).trans s5).trans (Same.new ht)) (same_none ((s3.trans s4).trans s5) ht) upd_same⟩
        · refine ⟨true, XM_Exists_TreeError, fun _ p hp => ?_, fun q => Bool.noConfusion q⟩
          refine ⟨_, rfl, (.inr ⟨e, _, rfl, g3⟩), rfl, _, (.inr (.inr (.inr (.inl ⟨rfl, rfl⟩)))), (.inr ⟨e, _, rfl, g3⟩), fun H4 s4 => ?_⟩
          refine ⟨_, rfl, (.inr ⟨e, _, rfl, s4 _ _ g3⟩), rfl, _, (.inr (.inr (.inr (.inl ⟨rfl, e, rfl, s4 _ _ g3⟩)))), (.inr ⟨e, _, rfl, s4 _ _ g3⟩), fun H5 s5 => ⟨(by show 2 ≤ sizeLine; decide), fun t ht => ?_⟩⟩
          exact ⟨_, rfl, k1 _ _ due t _ (((s3.trans s4).trans s5).trans (Same.new ht)) (same_none ((s3.trans s4).trans s5) ht) upd_same⟩
        · refine ⟨true, XM_TooMuch_TreeError, fun _ p hp => ?_, fun q => Bool.noConfusion q⟩
          refine ⟨_, rfl, (.inr ⟨e, _, rfl, g3⟩), rfl, _, (.inr (.inr (.inr (.inr (⟨rfl, rfl⟩))))), (.inr ⟨e, _, rfl, g3⟩), fun H4 s4 => ?_⟩
          refine ⟨_, rfl, (.inr ⟨e, _, rfl, s4 _ _ g3⟩), rfl, _, (.inr (.inr (.inr (.inr (⟨rfl, e, rfl, s4 _ _ g3⟩))))), (.inr ⟨e, _, rfl, s4 _ _ g3⟩), fun H5 s5 => ⟨(by show 2 ≤ sizeLine; decide), fun t ht => ?_⟩⟩
          exact ⟨_, rfl, k1 _ _ due t _ (((s3.trans s4).trans s5).trans (Same.new ht)) (same_none ((s3.trans s4).trans s5) ht) upd_same⟩
      · obtain ⟨o4, g4⟩ := offH o3
        refine ⟨_, rfl, rfl, _, rfl, iteF ⟨_, rfl, k2 ys z n a es e1 e8 e2 e3 e4 e5 e6 e7 t0 b H3 o4 (same_none s1 hb) ht0n g4 ?_⟩⟩
        rw [if_pos rfl]
        exact t3
abbrev s_law : Stmt := topS 51
abbrev N_law : List Str := ["script", "tree", "model", "first", "k", "pot", "word", "names", "due"]
theorem sc_law : FnScope N_law ["script"] (defScope s_law) := ⟨rfl, rfl, rfl, by decide +kernel, rfl, by decide +kernel, by decide +kernel⟩
theorem ok_law {f : Addr} {fd : FuncData} (F : Fun K "law" "law" s_law f fd) (B : Bt mg) {A_Tree : Addr} (T_Tree : CF K mg "Tree" A_Tree ["inner", "next_one"]) (I_Tree : Mkr P w K mg base CX0 A_Tree 1 ["self"] (sp_Tree_init A_Tree)) (C_law_pot : Cal P w K mg base CX0 "_law_pot" 1 ["script", "k"] (sp_l_pot_k31 K)) (C_law_begun : Cal P w K mg base CX0 "_law_begun" 7 ["tree", "model", "many"] (sp_l_begun_k32 K A_Tree)) (C_law_names : Cal P w K mg base CX0 "_law_names" 3 ["pot", "model"] (sp_l_names_m K)) (C_law_put_due : Cal P w K mg base CX0 "_law_put_due" 4 ["model", "word", "names"] (sp_l_put_due K)) (C_law_take : Cal P w K mg base CX0 "_law_take" 1 ["pot", "many"] sp_l_tk) (C_law_done : Cal P w K mg base CX0 "_law_done" 7 ["tree", "word", "path"] (sp_l_done K A_Tree A_BadPath A_NoSuch A_NotDir A_Exists A_TooMuch)) (C_law_right : Cal P w K mg base CX0 "_law_right" 6 ["tree", "model", "names"] (sp_l_right_k32 K A_Tree)) (C_law_path : Cal P w K mg base CX0 "_law_path" 1 ["names"] (sp_l_path_m K)) : GnOk P w K mg base CX0 8 f fd ["script"] (sp_law K) := by
  refine gn_fun F sc_law (fun vs H Q E h => ?_) (fun cdv A outer s H vs Q E hr h => ?_)
  · obtain ⟨a, ns, rfl, _⟩ := h
    rfl
  · obtain ⟨a, ns, rfl, hS, hn, k⟩ := h
    refine ⟨_, (pss_cons (ps_set (i := 1) sc_law.nd rfl (Or.inl rfl) (pe_mk0 I_Tree (hr.mono (by decide)) (by rfl) T_Tree.mgC pass0))
    (pss_cons (ps_set (i := 2) sc_law.nd rfl (Or.inl rfl) (pe_disp (pps_cons pe_str (ST.pe_disp1T hr.units (pe_tup pa_nil) pe_int) (pps_cons pe_str pe_dnewK (pps_cons pe_str pe_int pps_nil))) (by rfl) (by rfl) (fun z => by cases z) (by decide)))
    (pss_cons (ps_set (i := 3) sc_law.nd rfl (Or.inl rfl) (pe_cal C_law_pot (hr.mono (by decide)) (by rfl) pass0 (pa_cons (pv 0) (pa_cons pe_int pa_nil))))
    (pss_cons (ps_expr (pe_cal C_law_begun (hr.mono (by decide)) (by rfl) pass0 (pa_cons (pv 1) (pa_cons (pv 2) (pa_cons (pe_ix (ix_listK K) (pe_lst (pa_cons pe_int (pa_cons (pe_cal C_law_take (hr.mono (by decide)) (by rfl) pass0 (pa_cons (pv 3) (pa_cons pe_int pa_nil))) pa_nil))) (pe_op op_fdiv (pe_cal C_law_take (hr.mono (by decide)) (by rfl) pass0 (pa_cons (pv 3) (pa_cons pe_int pa_nil))) pe_int) (fun _ _ => rfl)) pa_nil)))))
    (pss_cons (ps_for PassesOwn.never rfl (pi_range2 (by rfl) B.range (pa_cons pe_int (pa_cons (pe_callB (call_max2 rfl) (by rfl) B.max (by decide +kernel) (pa_cons pe_int (pa_cons (pe_callB (call_min2 rfl) (by rfl) B.min (by decide +kernel) (pa_cons pe_int (pa_cons (pe_callB (call_lenK K) (by rfl) B.len (by decide +kernel) (pa_cons (pv 0) pa_nil)) pa_nil))) pa_nil))) pa_nil))) (pg_name (i := 4) sc_law.nd rfl (Or.inl rfl))
      (pss_cons (ps_set (i := 5) sc_law.nd rfl (Or.inl rfl) (pe_cal C_law_pot (hr.mono (by decide)) (by rfl) pass0 (pa_cons (pv 0) (pa_cons (pv 4) pa_nil))))
    (pss_cons (ps_set (i := 6) sc_law.nd rfl (Or.inl rfl) (pe_ix (ix_listK K) (pe_lst (pa_cons pe_str (pa_cons pe_str pa_nil))) (pe_cal C_law_take (hr.mono (by decide)) (by rfl) pass0 (pa_cons (pv 5) (pa_cons pe_int pa_nil))) (fun _ _ => rfl)))
    (pss_cons (ps_set (i := 7) sc_law.nd rfl (Or.inl rfl) (pe_cal C_law_names (hr.mono (by decide)) (by rfl) pass0 (pa_cons (pv 5) (pa_cons (pv 2) pa_nil))))
    (pss_cons (ps_set (i := 8) sc_law.nd rfl (Or.inl rfl) (pe_cal C_law_put_due (hr.mono (by decide)) (by rfl) pass0 (pa_cons (pv 2) (pa_cons (pv 6) (pa_cons (pv 7) pa_nil)))))
    (pss_one (ps_if (PW.pt (pw_or (pt_cmpR (op_neDK K hr.units) (pe_cal C_law_done (hr.mono (by decide)) (by rfl) pass0 (pa_cons (pv 1) (pa_cons (pv 6) (pa_cons (pe_cal C_law_path (hr.mono (by decide)) (by rfl) pass0 (pa_cons (pv 7) pa_nil)) pa_nil)))) (pv 8) (nomark _)) (pw_or1 (pt_not (pt_val (pe_cal C_law_right (hr.mono (by decide)) (by rfl) pass0 (pa_cons (pv 1) (pa_cons (pv 2) (pa_cons (pv 7) pa_nil)))))))))
      (pss_one (ps_ret pe_bl))
      pss_nil)))))))
    (pss_one (ps_ret pe_bl))))))), ?_⟩
    refine fun x dx hx hdx ndx => ⟨x, dx, rfl, upd_same, fun d ar H1 s1 hd har t1 => ⟨rfl, ?_⟩⟩
    have hd2 : H d = none := ne_none2 (ne_none2 hd)
    have ha2 : H ar = none := ne_none2 (ne_none2 har)
    have s01 : Same H H1 := fun c o hc => by
      have ncx : c ≠ x := ne_of_none hc hx
      refine s1 _ _ ?_ ncx
      rw [upd_ne ncx, upd_ne (ne_of_none hc hdx)]
      exact hc
    have ft1 : ∀ c, TrFoot x d [((1 : Int), ar, Nd.dir [])] c → H c = none := fun c f => by
      rcases f with rfl | rfl | ⟨q, hq, rfl⟩
      · exact hx
      · exact hd2
      · rw [List.mem_singleton.mp hq]
        exact ha2
    clear s1 hd har
    refine fun m hm => fun ad had => ⟨Nat.zero_le _, fun u hu => ⟨[], u, rfl, ?_, upd_same, fun wd hwd => ⟨?_, [(.inr "at", .ref ad), (.inr "words", .ref wd), (.inr "next", .int 2)], rfl, (by show 3 ≤ 15; decide), ?_⟩⟩⟩
    · rw [upd_ne (ne_of_none upd_same hu)]
      exact upd_same
    · have nam : m ≠ ad := ne_of_none upd_same had
      have num : m ≠ u := ne_of_none (by rw [upd_ne nam]; exact upd_same) hu
      have nwm : m ≠ wd := ne_of_none (by rw [upd_ne nam, upd_ne num, upd_ne nam]; exact upd_same) hwd
      rw [upd_ne nwm, upd_ne nam, upd_ne num, upd_ne nam]
      exact upd_same
    have nam : m ≠ ad := ne_of_none upd_same had
    have num : m ≠ u := ne_of_none (by rw [upd_ne nam]; exact upd_same) hu
    have nau : ad ≠ u := ne_of_none upd_same hu
    have nwm : m ≠ wd := ne_of_none (by rw [upd_ne nam, upd_ne num, upd_ne nam]; exact upd_same) hwd
    have nwa : ad ≠ wd := ne_of_none upd_same hwd
    have m1n : H1 m = none := hm
    have a1n : H1 ad = none := ne_none2 had
    have w1n : H1 wd = none := ne_none2 (ne_none2 (ne_none2 (ne_none2 hwd)))
    rw [mdK_0]
    have o2 : ∀ c v, H1 c = some v → upd (upd (upd (upd (upd (upd H1 m (.dK [])) ad (.dT [])) u (.tup [])) ad (.dT [([], .int 1)])) wd (.dK [])) m (.dK [((Sum.inr "at" : Key), V.ref ad), (.inr "words", .ref wd), (.inr "next", .int 2)]) c = some v := fun c v e => by
      have n1 : c ≠ m := ne_of_none e m1n
      have n2 : c ≠ ad := ne_of_none e a1n
      have n3 : c ≠ wd := ne_of_none e w1n
      have n4 : c ≠ u := ne_of_none (by rw [upd_ne n2, upd_ne n1]; exact e) hu
      rw [upd_ne n1, upd_ne n3, upd_ne n2, upd_ne n4, upd_ne n2, upd_ne n1]
      exact e
    have m2 : upd (upd (upd (upd (upd (upd H1 m (.dK [])) ad (.dT [])) u (.tup [])) ad (.dT [([], .int 1)])) wd (.dK [])) m (.dK [((Sum.inr "at" : Key), V.ref ad), (.inr "words", .ref wd), (.inr "next", .int 2)]) m = some (.dK [((Sum.inr "at" : Key), V.ref ad), (.inr "words", .ref wd), (.inr "next", .int 2)]) := upd_same
    have a2 : upd (upd (upd (upd (upd (upd H1 m (.dK [])) ad (.dT [])) u (.tup [])) ad (.dT [([], .int 1)])) wd (.dK [])) m (.dK [((Sum.inr "at" : Key), V.ref ad), (.inr "words", .ref wd), (.inr "next", .int 2)]) ad = some (.dT [([], .int 1)]) := by
      rw [upd_ne nam.symm, upd_ne nwa]
      exact upd_same
    have w2 : upd (upd (upd (upd (upd (upd H1 m (.dK [])) ad (.dT [])) u (.tup [])) ad (.dT [([], .int 1)])) wd (.dK [])) m (.dK [((Sum.inr "at" : Key), V.ref ad), (.inr "words", .ref wd), (.inr "next", .int 2)]) wd = some (.dK []) := by
      rw [upd_ne nwm.symm]
      exact upd_same
    generalize upd (upd (upd (upd (upd (upd H1 m (.dK [])) ad (.dT [])) u (.tup [])) ad (.dT [([], .int 1)])) wd (.dK [])) m (.dK [((Sum.inr "at" : Key), V.ref ad), (.inr "words", .ref wd), (.inr "next", .int 2)]) = H2 at o2 m2 a2 w2 ⊢
    have s02 : Same H H2 := fun c v e => o2 c v (s01 c v e)
    have mf : ∀ c, MdFoot ⟨m, ad, wd, [([], 1)], [], 2⟩ c → H1 c = none := fun c f => by
      rcases f with rfl | rfl | rfl | ⟨q, hq, _⟩
      · exact m1n
      · exact a1n
      · exact w1n
      · cases hq
    have h2 : S32 A_Tree H2 x d [(1, ar, .dir [])] ⟨m, ad, wd, [([], 1)], [], 2⟩ := ⟨t1.off fun c o e _ => o2 c o e, ⟨m2, a2, w2, fun f hf => (nomatch hf), nwm, .nil⟩, rl_0, by simp, fun f hf => (nomatch hf), fun c f g => by
      obtain ⟨o, ho⟩ := t1.someF f
      rw [mf c g] at ho
      cases ho⟩
    have ft2 : ∀ c, Ft x d [((1 : Int), ar, Nd.dir [])] ⟨m, ad, wd, [([], 1)], [], 2⟩ c → H c = none := fun c f => f.elim (ft1 c) fun g => same_none s01 (mf c g)
    clear m2 a2 w2 o2 hwd hu had hm t1 nam num nau nwm nwa m1n a1n w1n mf ft1 s01
    refine ⟨_, rfl, a, ns, 0, rfl, s02.seq hS, by decide, fun p H3 A B s3 n3 p3 => ?_⟩
    have s03 := s02.trans s3
    refine ⟨_, rfl, _, rfl, _, rfl, p, A, B, 21, rfl, p3, by decide, by decide, fun n1 a1 b1 H4 s4 p4 h10 h11 => ⟨(by show 2 ≤ sizeLine; decide), fun l hl => ⟨_, rfl, p, a1, b1, 3, rfl, p4.new hl, by decide, by decide, fun n2 a2 b2 H5 s5 p5 h20 h21 => ?_⟩⟩⟩
    have np0 : H p = none := same_none s02 n3
    have npf : ¬ Ft x d [((1 : Int), ar, Nd.dir [])] ⟨m, ad, wd, [([], 1)], [], 2⟩ p := fun f => by
      obtain ⟨o, ho⟩ := h2.live f
      rw [ho] at n3
      cases n3
    have nl : l ≠ p := p4.ne hl
    have s35 : SameBut p H3 H5 := (s4.same (Same.new hl)).trans s5
    have s05 : Same H H5 := Same.but s03 s35 np0
    have h5 := (h2.sm s3).but npf s35
    obtain ⟨vv, hvv, v0, v20⟩ : ∃ v, atI [V.int 0, V.int n1] (n2 / 2) = some (V.int v) ∧ 0 ≤ v ∧ v ≤ 20 := by
      rcases (by omega : n2 / 2 = 0 ∨ n2 / 2 = 1) with e | e
      · rw [e]
        exact ⟨0, rfl, by decide, by decide⟩
      · rw [e]
        exact ⟨n1, rfl, h10, by omega⟩
    refine ⟨_, _, rfl, rfl, ⟨by decide, by decide⟩, l, _, _, _, rfl, rfl, SqL.of (s5.at upd_same nl), hvv, x, d, _, ⟨m, ad, wd, [([], 1)], [], 2⟩, vv, rfl, h5, ⟨ar, rfl⟩, rfl, rfl, v0, v20, fun L0 D0 H6 em h6 f1 f2 => ?_⟩
    have s06 : Same H H6 := fun c u e => f1 c u (s05 c u e) fun f => by
      rw [ft2 c f] at e
      cases e
    have ft6 : ∀ c, Ft x d L0 D0 c → H c = none := fun c f => (f2 c f).elim (ft2 c) fun e => same_none s05 e
    refine ⟨_, rfl, _, ns.length, rfl, .inl ⟨_, s06.seq hS, by simp⟩, _, _, rfl, _, _, rfl, ?_⟩
    generalize e : (if _ > (4 : Int) then _ else _ : Int) = n
    have hn0 : 0 ≤ n ∧ n ≤ 100 := by
      rw [← e]
      split <;> (try split) <;> omega
    refine ⟨1, n, rfl, ⟨by decide, by decide, by omega, by omega⟩, for_range (lo := 1) (n := (n - 1).toNat) (fun i σ H' => ∃ v3 v4 v5 v6 v7 v8 L D, σ = [some (.ref a), some (.ref x), some (.ref D.m), v3, v4, v5, v6, v7, v8] ∧ Same H H' ∧ S32 A_Tree H' x d L D ∧ ∀ c, Ft x d L D c → H c = none) ⟨_, _, _, _, _, _, L0, D0, by rw [em]; rfl, s06, h6, ft6⟩ ?_ ?_⟩
    rotate_left
    · rintro σ H' ⟨v3, v4, v5, v6, v7, v8, L, D, rfl, _⟩
      exact k H'
    clear h6 ft6 s06 f1 f2 em h5 s35 s05 ft2 h2 s03 s02 s3 n3 p3 s4 p4 hl s5 p5 npf np0 nl
    rintro i σ H1 hi ⟨v3, v4, v5, v6, v7, v8, L, D, rfl, s1, h1, ft1⟩
    have ei : (1 : Int) + (i : Nat) = ((1 + i : Nat) : Int) := by omega
    refine ⟨_, rfl, _, congrArg (fun v => some (some v)) (congrArg V.int ei), a, ns, 1 + i, rfl, s1.seq hS, by omega, fun p H2 A B s2 n2 p2 => ?_⟩
    have h2 := h1.sm s2
    have npf : ¬ Ft x d L D p := fun f => by
      obtain ⟨o, ho⟩ := h1.live f
      rw [ho] at n2
      cases n2
    have np0 : H p = none := same_none s1 n2
    have s02 := s1.trans s2
    refine ⟨(by show 2 ≤ sizeLine; decide), fun l hl => ⟨_, rfl, p, A, B, 2, rfl, p2.new hl, by decide, by decide, fun j a3 b3 H3 s3 p3 j0 j1 => ?_⟩⟩
    have nl : l ≠ p := p2.ne hl
    obtain ⟨v, hv, hvm⟩ := atI_mem (xs := [V.str "make", V.str "create"]) j0 j1
    obtain ⟨wdd, rfl, hw⟩ : ∃ wdd, v = V.str wdd ∧ (wdd = "make" ∨ wdd = "create") := by
      rcases List.mem_cons.mp hvm with rfl | hvm
      · exact ⟨_, rfl, .inl rfl⟩
      · rw [List.mem_singleton.mp hvm]
        exact ⟨_, rfl, .inr rfl⟩
    have s23 : SameBut p H2 H3 := fun c o e n => s3 c o ((Same.new hl) c o e) n
    have h3 := h2.but npf s23
    have s03 : Same H H3 := Same.but s02 s23 np0
    have sz := h3.sz
    refine ⟨l, _, _, _, rfl, rfl, SqL.of (s3.at upd_same nl), hv, ?_⟩
    refine ⟨_, rfl, _, rfl, D, L, p, a3, b3, rfl, h3.m, h3.r, by omega, p3, fun f => npf (.inr f), fun t nms a4 b4 H4 s4 p4 ht nm => ?_⟩
    have h4 := h3.but npf s4
    have s04 : Same H H4 := Same.but s03 s4 np0
    have szz := h4.sz
    clear s3 p3 s4 p4 p2 hl hv hvm s23 h3 h2 s03 s02
    cases ed : dueP L nms with
    | some q =>
      obtain ⟨kd, fl⟩ := q
      refine ⟨_, rfl, _, rfl, _, rfl, D, L, nms, t, wdd, rfl, h4.m, h4.r, h4.t.wf, ht, nm, by omega, fun kd' f' e' T H5 s5 n5 g5 => ?_, fun e' => (by rw [ed] at e'; cases e')⟩
      rw [ed] at e'
      cases e'
      have h5 := h4.sm s5
      refine ⟨_, rfl, _, rfl, _, rfl, t, nms, rfl, s5 _ _ ht, nm, x, d, L, D.nx, nms, wdd, rfl, hw, h5.t, nm, fun kd2 f2 e2 T2 H6 s6 n6 g6 => ?_, fun ys z n a es _ _ _ _ _ _ _ e7 => (by rw [ed] at e7; cases e7)⟩
      rw [ed] at e2
      cases e2
      have h6 := h5.sm s6
      have s06 := (s04.trans s5).trans s6
      refine ⟨_, rfl, ne_same (k := 1) (Dt.dp _ (.tup (SqT.of g6) (.cons (.str _) (.cons (.str _) .nil)))) (Dt.dp _ (.tup (SqT.of (s6 _ _ g5)) (.cons (.str _) (.cons (.str _) .nil)))) (dueP_shp ed nm) ⟨false, rfl, iteF ?_⟩⟩
      refine ⟨_, rfl, _, rfl, _, rfl, x, d, L, D, nms, t, rfl, h6.t, h6.m, h6.r, h6.nv, h6.ws, by omega, s6 _ _ (s5 _ _ ht), nm, fun H7 s7 => ⟨_, rfl, ?_⟩⟩
      exact ⟨_, _, _, _, _, _, L, D, rfl, s06.trans s7, h6.sm s7, ft1⟩
    | none =>
      refine ⟨_, rfl, _, rfl, _, rfl, D, L, nms, t, wdd, rfl, h4.m, h4.r, h4.t.wf, ht, nm, by omega, fun kd' f' e' => (by rw [ed] at e'; cases e'), fun _ T b H5 o5 nT nb gT m5 => ?_⟩
      have t5 : TrAt A_Tree H5 x d L D.nx := h4.t.off fun c o e f => o5 c o e (h4.dj c f)
      have ht5 := o5 _ _ ht (h4.m.nt ht)
      have s05 : Same H H5 := fun c o e => o5 _ _ (s04 _ _ e) fun f => by
        rw [ft1 c (.inr f)] at e
        cases e
      refine ⟨_, rfl, _, rfl, _, rfl, t, nms, rfl, ht5, nm, x, d, L, D.nx, nms, wdd, rfl, hw, t5, nm, fun kd2 f2 e2 => (by rw [ed] at e2; cases e2), fun ys z n a' es e1 e8 e2 e3 e4 e5 e6 e7 T2 b2 H6 o6 nb2 nT2 gT2 t6 => ?_⟩
      subst e1
      have eo : (if wdd = "create" then Nd.file [] else Nd.dir []) = (if (if wdd = "create" then some b else none).isSome = true then Nd.file [] else Nd.dir []) := by
        by_cases c : wdd = "create"
        · rw [if_pos c, if_pos c]
          rfl
        · rw [if_neg c, if_neg c]
          rfl
      rw [eo] at t6
      have hfb : ∀ c, (if wdd = "create" then some b else none) = some c → ¬ TrFoot x d L c := fun c e f => by
        by_cases q : wdd = "create"
        · rw [if_pos q] at e
          cases e
          obtain ⟨o, ho⟩ := h4.t.someF f
          rw [nb] at ho
          cases ho
        · rw [if_neg q] at e
          cases e
      have hfn : ∀ c, (if wdd = "create" then some b else none) = some c → H c = none := fun c e => by
        by_cases q : wdd = "create"
        · rw [if_pos q] at e
          cases e
          exact same_none s04 nb
        · rw [if_neg q] at e
          cases e
      generalize (if wdd = "create" then some b else none) = fb at m5 t6 hfb hfn
      have m6 : MdAt H6 (D.put (ys ++ [z]) fb) := m5.off fun c o e f => o6 c o e fun q => (mfoot_put f).elim (h4.dj c q) fun g => hfb c g q
      have h6 := h4.put e2 e3 e4 (nm.2 z (by simp)) (by rw [List.length_append, List.length_singleton] at e8; omega) t6 m6 (fun f => by
        obtain ⟨o, ho⟩ := m5.live f
        rw [nb2] at ho
        cases ho) hfb
      have s06 : Same H H6 := fun c o e => o6 _ _ (s05 _ _ e) fun f => by
        rw [ft1 c (.inl f)] at e
        cases e
      have gT6 := o6 _ _ gT fun f => by
        obtain ⟨o, ho⟩ := h4.t.someF f
        rw [nT] at ho
        cases ho
      have ht6 := o6 _ _ ht5 (t5.nt ht5)
      have sz6 := h6.sz
      refine ⟨_, rfl, ne_same (k := 1) (Dt.dp _ (.tup (SqT.of gT2) (.cons (.str _) (.cons .non .nil)))) (Dt.dp _ (.tup (SqT.of gT6) (.cons (.str _) (.cons .non .nil)))) (Shp.tuple (k := 0) fun dd hd => ?_) ⟨false, rfl, iteF ?_⟩⟩
      · rcases List.mem_cons.mp hd with rfl | hd
        · exact Shp.str (by decide +kernel)
        · rw [List.mem_singleton.mp hd]
          exact Shp.none
      refine ⟨_, rfl, _, rfl, _, rfl, x, d, _, D.put (ys ++ [z]) fb, ys ++ [z], t, rfl, h6.t, h6.m, h6.r, h6.nv, h6.ws, by omega, ht6, nm, fun H7 s7 => ⟨_, rfl, ?_⟩⟩
      refine ⟨_, _, _, _, _, _, _, D.put (ys ++ [z]) fb, rfl, s06.trans s7, h6.sm s7, fun c f => ?_⟩
      rcases f with f | f
      · rcases foot_grow f with f | rfl
        · exact ft1 c (.inl f)
        · exact same_none s05 nb2
      · rcases mfoot_put f with f | f
        · exact ft1 c (.inr f)
        · exact hfn c f
end
theorem all_mk {P : Program} {w : World} {K : PySem.W.Frag} {h : Heap} {mg : Str → Option Value} {fa : Addr} (X : K.In h) (G : h.Ns mainGlobals mg) (hfa : mg "law" = some (.ref fa))
    {tk_MOST_SIGNS : Tok}
    {tk_LETTERS : Tok}
    {tk_STROKE : Tok}
    {tk_MOST_DEEP : Tok}
    {tk_MOST_NODES : Tok}
    {tk_MOST_NAMES : Tok}
    {tk_ROOT : Tok}
    {A_CleanedError : Addr} {nm_CleanedError q_CleanedError : Str} {N_CleanedError : Addr} {bs_CleanedError : List Value} {sn_CleanedError : List Str} {sub_CleanedError : List Value} {ab_CleanedError : Bool} {col_CleanedError : Option Bool} {dd_CleanedError : Option Addr} {m0_CleanedError m1_CleanedError m2_CleanedError m3_CleanedError m5_CleanedError : Option Value}
    {A_TreeError : Addr} {nm_TreeError q_TreeError : Str} {N_TreeError : Addr} {bs_TreeError : List Value} {sn_TreeError : List Str} {sub_TreeError : List Value} {ab_TreeError : Bool} {col_TreeError : Option Bool} {dd_TreeError : Option Addr} {m0_TreeError m1_TreeError m2_TreeError m3_TreeError m5_TreeError : Option Value}
    {A_BadPath : Addr} {nm_BadPath q_BadPath : Str} {N_BadPath : Addr} {bs_BadPath : List Value} {sn_BadPath : List Str} {sub_BadPath : List Value} {ab_BadPath : Bool} {col_BadPath : Option Bool} {dd_BadPath : Option Addr} {m0_BadPath m1_BadPath m2_BadPath m3_BadPath m5_BadPath : Option Value}
    {A_NotDir : Addr} {nm_NotDir q_NotDir : Str} {N_NotDir : Addr} {bs_NotDir : List Value} {sn_NotDir : List Str} {sub_NotDir : List Value} {ab_NotDir : Bool} {col_NotDir : Option Bool} {dd_NotDir : Option Addr} {m0_NotDir m1_NotDir m2_NotDir m3_NotDir m5_NotDir : Option Value}
    {A_NoSuch : Addr} {nm_NoSuch q_NoSuch : Str} {N_NoSuch : Addr} {bs_NoSuch : List Value} {sn_NoSuch : List Str} {sub_NoSuch : List Value} {ab_NoSuch : Bool} {col_NoSuch : Option Bool} {dd_NoSuch : Option Addr} {m0_NoSuch m1_NoSuch m2_NoSuch m3_NoSuch m5_NoSuch : Option Value}
    {A_Exists : Addr} {nm_Exists q_Exists : Str} {N_Exists : Addr} {bs_Exists : List Value} {sn_Exists : List Str} {sub_Exists : List Value} {ab_Exists : Bool} {col_Exists : Option Bool} {dd_Exists : Option Addr} {m0_Exists m1_Exists m2_Exists m3_Exists m5_Exists : Option Value}
    {A_TooMuch : Addr} {nm_TooMuch q_TooMuch : Str} {N_TooMuch : Addr} {bs_TooMuch : List Value} {sn_TooMuch : List Str} {sub_TooMuch : List Value} {ab_TooMuch : Bool} {col_TooMuch : Option Bool} {dd_TooMuch : Option Addr} {m0_TooMuch m1_TooMuch m2_TooMuch m3_TooMuch m5_TooMuch : Option Value}
    {A_BadSpot : Addr} {nm_BadSpot q_BadSpot : Str} {N_BadSpot : Addr} {bs_BadSpot : List Value} {sn_BadSpot : List Str} {sub_BadSpot : List Value} {ab_BadSpot : Bool} {col_BadSpot : Option Bool} {dd_BadSpot : Option Addr} {m0_BadSpot m1_BadSpot m2_BadSpot m3_BadSpot m5_BadSpot : Option Value}
    {A_Fixed : Addr} {nm_Fixed q_Fixed : Str} {N_Fixed : Addr} {bs_Fixed : List Value} {sn_Fixed : List Str} {sub_Fixed : List Value} {ab_Fixed : Bool} {col_Fixed : Option Bool} {dd_Fixed : Option Addr} {m0_Fixed m1_Fixed m2_Fixed m3_Fixed m5_Fixed : Option Value}
    {A_BadWord : Addr} {nm_BadWord q_BadWord : Str} {N_BadWord : Addr} {bs_BadWord : List Value} {sn_BadWord : List Str} {sub_BadWord : List Value} {ab_BadWord : Bool} {col_BadWord : Option Bool} {dd_BadWord : Option Addr} {m0_BadWord m1_BadWord m2_BadWord m3_BadWord m5_BadWord : Option Value}
    {A_IsDir : Addr} {nm_IsDir q_IsDir : Str} {N_IsDir : Addr} {bs_IsDir : List Value} {sn_IsDir : List Str} {sub_IsDir : List Value} {ab_IsDir : Bool} {col_IsDir : Option Bool} {dd_IsDir : Option Addr} {m0_IsDir m1_IsDir m2_IsDir m3_IsDir m5_IsDir : Option Value}
    {A_NotEmpty : Addr} {nm_NotEmpty q_NotEmpty : Str} {N_NotEmpty : Addr} {bs_NotEmpty : List Value} {sn_NotEmpty : List Str} {sub_NotEmpty : List Value} {ab_NotEmpty : Bool} {col_NotEmpty : Option Bool} {dd_NotEmpty : Option Addr} {m0_NotEmpty m1_NotEmpty m2_NotEmpty m3_NotEmpty m5_NotEmpty : Option Value}
    {A_Inside : Addr} {nm_Inside q_Inside : Str} {N_Inside : Addr} {bs_Inside : List Value} {sn_Inside : List Str} {sub_Inside : List Value} {ab_Inside : Bool} {col_Inside : Option Bool} {dd_Inside : Option Addr} {m0_Inside m1_Inside m2_Inside m3_Inside m5_Inside : Option Value}
    {A_DiskError : Addr} {nm_DiskError q_DiskError : Str} {N_DiskError : Addr} {bs_DiskError : List Value} {sn_DiskError : List Str} {sub_DiskError : List Value} {ab_DiskError : Bool} {col_DiskError : Option Bool} {dd_DiskError : Option Addr} {m0_DiskError m1_DiskError m2_DiskError m3_DiskError m5_DiskError : Option Value}
    {f_BadPath_init : Addr} {oc_BadPath_init kV_BadPath_init dc_BadPath_init pm_BadPath_init cd_BadPath_init ct_BadPath_init : Value} {od_BadPath_init an_BadPath_init : Option Addr} {sl_BadPath_init : Array (Option Value)}
    {f_NotDir_init : Addr} {oc_NotDir_init kV_NotDir_init dc_NotDir_init pm_NotDir_init cd_NotDir_init ct_NotDir_init : Value} {od_NotDir_init an_NotDir_init : Option Addr} {sl_NotDir_init : Array (Option Value)}
    {f_NoSuch_init : Addr} {oc_NoSuch_init kV_NoSuch_init dc_NoSuch_init pm_NoSuch_init cd_NoSuch_init ct_NoSuch_init : Value} {od_NoSuch_init an_NoSuch_init : Option Addr} {sl_NoSuch_init : Array (Option Value)}
    {f_Exists_init : Addr} {oc_Exists_init kV_Exists_init dc_Exists_init pm_Exists_init cd_Exists_init ct_Exists_init : Value} {od_Exists_init an_Exists_init : Option Addr} {sl_Exists_init : Array (Option Value)}
    {f_TooMuch_init : Addr} {oc_TooMuch_init kV_TooMuch_init dc_TooMuch_init pm_TooMuch_init cd_TooMuch_init ct_TooMuch_init : Value} {od_TooMuch_init an_TooMuch_init : Option Addr} {sl_TooMuch_init : Array (Option Value)}
    {A_Tree : Addr}
    {f_is_of : Addr} {oc_is_of kV_is_of dc_is_of pm_is_of cd_is_of ct_is_of : Value} {od_is_of an_is_of : Option Addr} {sl_is_of : Array (Option Value)}
    {f_is_name : Addr} {oc_is_name kV_is_name dc_is_name pm_is_name cd_is_name ct_is_name : Value} {od_is_name an_is_name : Option Addr} {sl_is_name : Array (Option Value)}
    {f_names_of : Addr} {oc_names_of kV_names_of dc_names_of pm_names_of cd_names_of ct_names_of : Value} {od_names_of an_names_of : Option Addr} {sl_names_of : Array (Option Value)}
    {f_path_of : Addr} {oc_path_of kV_path_of dc_path_of pm_path_of cd_path_of ct_path_of : Value} {od_path_of an_path_of : Option Addr} {sl_path_of : Array (Option Value)}
    {f_Tree_init : Addr} {oc_Tree_init kV_Tree_init dc_Tree_init pm_Tree_init cd_Tree_init ct_Tree_init : Value} {od_Tree_init an_Tree_init : Option Addr} {sl_Tree_init : Array (Option Value)}
    {f_l_pot : Addr} {oc_l_pot kV_l_pot dc_l_pot pm_l_pot cd_l_pot ct_l_pot : Value} {od_l_pot an_l_pot : Option Addr} {sl_l_pot : Array (Option Value)}
    {f_Tree_links : Addr} {oc_Tree_links kV_Tree_links dc_Tree_links pm_Tree_links cd_Tree_links ct_Tree_links : Value} {od_Tree_links an_Tree_links : Option Addr} {sl_Tree_links : Array (Option Value)}
    {f_Tree_node : Addr} {oc_Tree_node kV_Tree_node dc_Tree_node pm_Tree_node cd_Tree_node ct_Tree_node : Value} {od_Tree_node an_Tree_node : Option Addr} {sl_Tree_node : Array (Option Value)}
    {f_l_take : Addr} {oc_l_take kV_l_take dc_l_take pm_l_take cd_l_take ct_l_take : Value} {od_l_take an_l_take : Option Addr} {sl_l_take : Array (Option Value)}
    {f_l_name : Addr} {oc_l_name kV_l_name dc_l_name pm_l_name cd_l_name ct_l_name : Value} {od_l_name an_l_name : Option Addr} {sl_l_name : Array (Option Value)}
    {f_Tree_is_dir : Addr} {oc_Tree_is_dir kV_Tree_is_dir dc_Tree_is_dir pm_Tree_is_dir cd_Tree_is_dir ct_Tree_is_dir : Value} {od_Tree_is_dir an_Tree_is_dir : Option Addr} {sl_Tree_is_dir : Array (Option Value)}
    {f_Tree_going : Addr} {oc_Tree_going kV_Tree_going dc_Tree_going pm_Tree_going cd_Tree_going ct_Tree_going : Value} {od_Tree_going an_Tree_going : Option Addr} {sl_Tree_going : Array (Option Value)}
    {f_Tree_dir_above : Addr} {oc_Tree_dir_above kV_Tree_dir_above dc_Tree_dir_above pm_Tree_dir_above cd_Tree_dir_above ct_Tree_dir_above : Value} {od_Tree_dir_above an_Tree_dir_above : Option Addr} {sl_Tree_dir_above : Array (Option Value)}
    {f_Tree_want_free : Addr} {oc_Tree_want_free kV_Tree_want_free dc_Tree_want_free pm_Tree_want_free cd_Tree_want_free ct_Tree_want_free : Value} {od_Tree_want_free an_Tree_want_free : Option Addr} {sl_Tree_want_free : Array (Option Value)}
    {f_Tree_put_new : Addr} {oc_Tree_put_new kV_Tree_put_new dc_Tree_put_new pm_Tree_put_new cd_Tree_put_new ct_Tree_put_new : Value} {od_Tree_put_new an_Tree_put_new : Option Addr} {sl_Tree_put_new : Array (Option Value)}
    {f_Tree_paths : Addr} {oc_Tree_paths dc_Tree_paths pm_Tree_paths cd_Tree_paths ct_Tree_paths : Value} {od_Tree_paths an_Tree_paths : Option Addr} {sl_Tree_paths : Array (Option Value)}
    {KD_Tree_paths : Addr} {tK_Tree_paths : Tok}
    {f_l_path : Addr} {oc_l_path kV_l_path dc_l_path pm_l_path cd_l_path ct_l_path : Value} {od_l_path an_l_path : Option Addr} {sl_l_path : Array (Option Value)}
    {f_l_free : Addr} {oc_l_free kV_l_free dc_l_free pm_l_free cd_l_free ct_l_free : Value} {od_l_free an_l_free : Option Addr} {sl_l_free : Array (Option Value)}
    {f_l_node : Addr} {oc_l_node kV_l_node dc_l_node pm_l_node cd_l_node ct_l_node : Value} {od_l_node an_l_node : Option Addr} {sl_l_node : Array (Option Value)}
    {f_l_field : Addr} {oc_l_field kV_l_field dc_l_field pm_l_field cd_l_field ct_l_field : Value} {od_l_field an_l_field : Option Addr} {sl_l_field : Array (Option Value)}
    {f_l_class : Addr} {oc_l_class kV_l_class dc_l_class pm_l_class cd_l_class ct_l_class : Value} {od_l_class an_l_class : Option Addr} {sl_l_class : Array (Option Value)}
    {f_l_going : Addr} {oc_l_going kV_l_going dc_l_going pm_l_going cd_l_going ct_l_going : Value} {od_l_going an_l_going : Option Addr} {sl_l_going : Array (Option Value)}
    {f_l_above : Addr} {oc_l_above kV_l_above dc_l_above pm_l_above cd_l_above ct_l_above : Value} {od_l_above an_l_above : Option Addr} {sl_l_above : Array (Option Value)}
    {f_l_put_due : Addr} {oc_l_put_due kV_l_put_due dc_l_put_due pm_l_put_due cd_l_put_due ct_l_put_due : Value} {od_l_put_due an_l_put_due : Option Addr} {sl_l_put_due : Array (Option Value)}
    {f_Tree_numbers : Addr} {oc_Tree_numbers kV_Tree_numbers dc_Tree_numbers pm_Tree_numbers cd_Tree_numbers ct_Tree_numbers : Value} {od_Tree_numbers an_Tree_numbers : Option Addr} {sl_Tree_numbers : Array (Option Value)}
    {f_Tree_next_number : Addr} {oc_Tree_next_number kV_Tree_next_number dc_Tree_next_number pm_Tree_next_number cd_Tree_next_number ct_Tree_next_number : Value} {od_Tree_next_number an_Tree_next_number : Option Addr} {sl_Tree_next_number : Array (Option Value)}
    {f_Tree_number : Addr} {oc_Tree_number kV_Tree_number dc_Tree_number pm_Tree_number cd_Tree_number ct_Tree_number : Value} {od_Tree_number an_Tree_number : Option Addr} {sl_Tree_number : Array (Option Value)}
    {f_Tree_names : Addr} {oc_Tree_names kV_Tree_names dc_Tree_names pm_Tree_names cd_Tree_names ct_Tree_names : Value} {od_Tree_names an_Tree_names : Option Addr} {sl_Tree_names : Array (Option Value)}
    {f_l_right : Addr} {oc_l_right kV_l_right dc_l_right pm_l_right cd_l_right ct_l_right : Value} {od_l_right an_l_right : Option Addr} {sl_l_right : Array (Option Value)}
    {f_Tree_make : Addr} {oc_Tree_make kV_Tree_make dc_Tree_make pm_Tree_make cd_Tree_make ct_Tree_make : Value} {od_Tree_make an_Tree_make : Option Addr} {sl_Tree_make : Array (Option Value)}
    {f_Tree_create : Addr} {oc_Tree_create kV_Tree_create dc_Tree_create pm_Tree_create cd_Tree_create ct_Tree_create : Value} {od_Tree_create an_Tree_create : Option Addr} {sl_Tree_create : Array (Option Value)}
    {f_l_begun : Addr} {oc_l_begun kV_l_begun dc_l_begun pm_l_begun cd_l_begun ct_l_begun : Value} {od_l_begun an_l_begun : Option Addr} {sl_l_begun : Array (Option Value)}
    {f_l_names : Addr} {oc_l_names kV_l_names dc_l_names pm_l_names cd_l_names ct_l_names : Value} {od_l_names an_l_names : Option Addr} {sl_l_names : Array (Option Value)}
    {f_l_done : Addr} {oc_l_done kV_l_done dc_l_done pm_l_done cd_l_done ct_l_done : Value} {od_l_done an_l_done : Option Addr} {sl_l_done : Array (Option Value)}
    {f_law : Addr} {oc_law kV_law dc_law pm_law cd_law ct_law : Value} {od_law an_law : Option Addr} {sl_law : Array (Option Value)}
    (z_len : PySem.W.nsIn K mainGlobals "len" = some none)
    (z_max : PySem.W.nsIn K mainGlobals "max" = some none)
    (z_min : PySem.W.nsIn K mainGlobals "min" = some none)
    (z_abs : PySem.W.nsIn K mainGlobals "abs" = some none)
    (z_divmod : PySem.W.nsIn K mainGlobals "divmod" = some none)
    (z_range : PySem.W.nsIn K mainGlobals "range" = some none)
    (z_ord : PySem.W.nsIn K mainGlobals "ord" = some none)
    (z_isinstance : PySem.W.nsIn K mainGlobals "isinstance" = some none)
    (z_int : PySem.W.nsIn K mainGlobals "int" = some none)
    (z_str : PySem.W.nsIn K mainGlobals "str" = some none)
    (z_bool : PySem.W.nsIn K mainGlobals "bool" = some none)
    (z_list : PySem.W.nsIn K mainGlobals "list" = some none)
    (z_tuple : PySem.W.nsIn K mainGlobals "tuple" = some none)
    (z_dict : PySem.W.nsIn K mainGlobals "dict" = some none)
    (z_set : PySem.W.nsIn K mainGlobals "set" = some none)
    (z_all : PySem.W.nsIn K mainGlobals "all" = some none)
    (z_any : PySem.W.nsIn K mainGlobals "any" = some none)
    (z_sorted : PySem.W.nsIn K mainGlobals "sorted" = some none)
    (z_enumerate : PySem.W.nsIn K mainGlobals "enumerate" = some none)
    (z_zip : PySem.W.nsIn K mainGlobals "zip" = some none)
    (z_repr : PySem.W.nsIn K mainGlobals "repr" = some none)
    (z_sum : PySem.W.nsIn K mainGlobals "sum" = some none)
    (a_MOST_SIGNS : PySem.W.nsIn K mainGlobals "MOST_SIGNS" = some (some (.int 8 tk_MOST_SIGNS)))
    (a_LETTERS : PySem.W.nsIn K mainGlobals "LETTERS" = some (some (.str "abcdefghijklmnopqrstuvwxyz" tk_LETTERS)))
    (a_STROKE : PySem.W.nsIn K mainGlobals "STROKE" = some (some (.str "/" tk_STROKE)))
    (a_MOST_DEEP : PySem.W.nsIn K mainGlobals "MOST_DEEP" = some (some (.int 8 tk_MOST_DEEP)))
    (a_MOST_NODES : PySem.W.nsIn K mainGlobals "MOST_NODES" = some (some (.int 24 tk_MOST_NODES)))
    (a_MOST_NAMES : PySem.W.nsIn K mainGlobals "MOST_NAMES" = some (some (.int 20 tk_MOST_NAMES)))
    (a_ROOT : PySem.W.nsIn K mainGlobals "ROOT" = some (some (.int 1 tk_ROOT)))
    (z_ValueError : PySem.W.nsIn K mainGlobals "ValueError" = some none)
    (xa_CleanedError : PySem.W.nsIn K mainGlobals "CleanedError" = some (some (.ref A_CleanedError)))
    (xl_CleanedError : K.lookup A_CleanedError = some (excClassObj nm_CleanedError q_CleanedError A_CleanedError N_CleanedError bs_CleanedError [.type "ValueError", .type "Exception", .type "BaseException", .type "object"] true sn_CleanedError sub_CleanedError ab_CleanedError col_CleanedError dd_CleanedError m0_CleanedError m1_CleanedError m2_CleanedError m3_CleanedError m5_CleanedError "ValueError.__new__"))
    (xs_CleanedError : PySem.W.findIn K (.ref A_CleanedError) "__setattr__" = some (some (.builtin "object.__setattr__")))
    (xg_CleanedError : PySem.W.findIn K (.ref A_CleanedError) "__getattribute__" = some (some (.builtin "BaseException.__getattribute__")))
    (xh_CleanedError : PySem.W.findIn K (.ref A_CleanedError) "__getattr__" = some none)
    (xe_CleanedError : PySem.W.subIn K (.ref A_CleanedError) (.type "BaseException") = some true)
    (xt_CleanedError : PySem.W.typeIn K (.ref A_CleanedError) = some (.type "type"))
    (xk_CleanedError : PySem.W.keepIn K (.ref A_CleanedError) = true)
    (xd_CleanedError : PySem.W.hasDictIn K A_CleanedError = true)
    (xc_CleanedError : PySem.W.findIn K (.ref A_CleanedError) "__class__" = some (some (.builtin "object.__class__")))
    (xo_CleanedError : PySem.W.mroIn K A_CleanedError (.type "object") = some true)
    (xa_TreeError : PySem.W.nsIn K mainGlobals "TreeError" = some (some (.ref A_TreeError)))
    (xl_TreeError : K.lookup A_TreeError = some (excClassObj nm_TreeError q_TreeError A_TreeError N_TreeError bs_TreeError [.ref A_CleanedError, .type "ValueError", .type "Exception", .type "BaseException", .type "object"] true sn_TreeError sub_TreeError ab_TreeError col_TreeError dd_TreeError m0_TreeError m1_TreeError m2_TreeError m3_TreeError m5_TreeError "ValueError.__new__"))
    (xs_TreeError : PySem.W.findIn K (.ref A_TreeError) "__setattr__" = some (some (.builtin "object.__setattr__")))
    (xg_TreeError : PySem.W.findIn K (.ref A_TreeError) "__getattribute__" = some (some (.builtin "BaseException.__getattribute__")))
    (xh_TreeError : PySem.W.findIn K (.ref A_TreeError) "__getattr__" = some none)
    (xe_TreeError : PySem.W.subIn K (.ref A_TreeError) (.type "BaseException") = some true)
    (xt_TreeError : PySem.W.typeIn K (.ref A_TreeError) = some (.type "type"))
    (xk_TreeError : PySem.W.keepIn K (.ref A_TreeError) = true)
    (xd_TreeError : PySem.W.hasDictIn K A_TreeError = true)
    (xc_TreeError : PySem.W.findIn K (.ref A_TreeError) "__class__" = some (some (.builtin "object.__class__")))
    (xo_TreeError : PySem.W.mroIn K A_TreeError (.type "object") = some true)
    (xp_TreeError : PySem.W.specialIn K (.ref A_TreeError) "__getattribute__" = some (some (.builtin "type.__getattribute__")))
    (xr_TreeError : PySem.W.readsIn K A_TreeError (.type "type") = true)
    (xn_TreeError : PySem.W.findCls K (.ref A_TreeError) (.type "type") "__init__" = some (.val (.builtin "ValueError.__init__")))
    (xa_BadPath : PySem.W.nsIn K mainGlobals "BadPath" = some (some (.ref A_BadPath)))
    (xl_BadPath : K.lookup A_BadPath = some (excClassObj nm_BadPath q_BadPath A_BadPath N_BadPath bs_BadPath [.ref A_TreeError, .ref A_CleanedError, .type "ValueError", .type "Exception", .type "BaseException", .type "object"] true sn_BadPath sub_BadPath ab_BadPath col_BadPath dd_BadPath m0_BadPath m1_BadPath m2_BadPath m3_BadPath m5_BadPath "ValueError.__new__"))
    (xs_BadPath : PySem.W.findIn K (.ref A_BadPath) "__setattr__" = some (some (.builtin "object.__setattr__")))
    (xg_BadPath : PySem.W.findIn K (.ref A_BadPath) "__getattribute__" = some (some (.builtin "BaseException.__getattribute__")))
    (xh_BadPath : PySem.W.findIn K (.ref A_BadPath) "__getattr__" = some none)
    (xe_BadPath : PySem.W.subIn K (.ref A_BadPath) (.type "BaseException") = some true)
    (xt_BadPath : PySem.W.typeIn K (.ref A_BadPath) = some (.type "type"))
    (xk_BadPath : PySem.W.keepIn K (.ref A_BadPath) = true)
    (xd_BadPath : PySem.W.hasDictIn K A_BadPath = true)
    (xc_BadPath : PySem.W.findIn K (.ref A_BadPath) "__class__" = some (some (.builtin "object.__class__")))
    (xo_BadPath : PySem.W.mroIn K A_BadPath (.type "object") = some true)
    (xa_NotDir : PySem.W.nsIn K mainGlobals "NotDir" = some (some (.ref A_NotDir)))
    (xl_NotDir : K.lookup A_NotDir = some (excClassObj nm_NotDir q_NotDir A_NotDir N_NotDir bs_NotDir [.ref A_TreeError, .ref A_CleanedError, .type "ValueError", .type "Exception", .type "BaseException", .type "object"] true sn_NotDir sub_NotDir ab_NotDir col_NotDir dd_NotDir m0_NotDir m1_NotDir m2_NotDir m3_NotDir m5_NotDir "ValueError.__new__"))
    (xs_NotDir : PySem.W.findIn K (.ref A_NotDir) "__setattr__" = some (some (.builtin "object.__setattr__")))
    (xg_NotDir : PySem.W.findIn K (.ref A_NotDir) "__getattribute__" = some (some (.builtin "BaseException.__getattribute__")))
    (xh_NotDir : PySem.W.findIn K (.ref A_NotDir) "__getattr__" = some none)
    (xe_NotDir : PySem.W.subIn K (.ref A_NotDir) (.type "BaseException") = some true)
    (xt_NotDir : PySem.W.typeIn K (.ref A_NotDir) = some (.type "type"))
    (xk_NotDir : PySem.W.keepIn K (.ref A_NotDir) = true)
    (xd_NotDir : PySem.W.hasDictIn K A_NotDir = true)
    (xc_NotDir : PySem.W.findIn K (.ref A_NotDir) "__class__" = some (some (.builtin "object.__class__")))
    (xo_NotDir : PySem.W.mroIn K A_NotDir (.type "object") = some true)
    (xa_NoSuch : PySem.W.nsIn K mainGlobals "NoSuch" = some (some (.ref A_NoSuch)))
    (xl_NoSuch : K.lookup A_NoSuch = some (excClassObj nm_NoSuch q_NoSuch A_NoSuch N_NoSuch bs_NoSuch [.ref A_TreeError, .ref A_CleanedError, .type "ValueError", .type "Exception", .type "BaseException", .type "object"] true sn_NoSuch sub_NoSuch ab_NoSuch col_NoSuch dd_NoSuch m0_NoSuch m1_NoSuch m2_NoSuch m3_NoSuch m5_NoSuch "ValueError.__new__"))
    (xs_NoSuch : PySem.W.findIn K (.ref A_NoSuch) "__setattr__" = some (some (.builtin "object.__setattr__")))
    (xg_NoSuch : PySem.W.findIn K (.ref A_NoSuch) "__getattribute__" = some (some (.builtin "BaseException.__getattribute__")))
    (xh_NoSuch : PySem.W.findIn K (.ref A_NoSuch) "__getattr__" = some none)
    (xe_NoSuch : PySem.W.subIn K (.ref A_NoSuch) (.type "BaseException") = some true)
    (xt_NoSuch : PySem.W.typeIn K (.ref A_NoSuch) = some (.type "type"))
    (xk_NoSuch : PySem.W.keepIn K (.ref A_NoSuch) = true)
    (xd_NoSuch : PySem.W.hasDictIn K A_NoSuch = true)
    (xc_NoSuch : PySem.W.findIn K (.ref A_NoSuch) "__class__" = some (some (.builtin "object.__class__")))
    (xo_NoSuch : PySem.W.mroIn K A_NoSuch (.type "object") = some true)
    (xa_Exists : PySem.W.nsIn K mainGlobals "Exists" = some (some (.ref A_Exists)))
    (xl_Exists : K.lookup A_Exists = some (excClassObj nm_Exists q_Exists A_Exists N_Exists bs_Exists [.ref A_TreeError, .ref A_CleanedError, .type "ValueError", .type "Exception", .type "BaseException", .type "object"] true sn_Exists sub_Exists ab_Exists col_Exists dd_Exists m0_Exists m1_Exists m2_Exists m3_Exists m5_Exists "ValueError.__new__"))
    (xs_Exists : PySem.W.findIn K (.ref A_Exists) "__setattr__" = some (some (.builtin "object.__setattr__")))
    (xg_Exists : PySem.W.findIn K (.ref A_Exists) "__getattribute__" = some (some (.builtin "BaseException.__getattribute__")))
    (xh_Exists : PySem.W.findIn K (.ref A_Exists) "__getattr__" = some none)
    (xe_Exists : PySem.W.subIn K (.ref A_Exists) (.type "BaseException") = some true)
    (xt_Exists : PySem.W.typeIn K (.ref A_Exists) = some (.type "type"))
    (xk_Exists : PySem.W.keepIn K (.ref A_Exists) = true)
    (xd_Exists : PySem.W.hasDictIn K A_Exists = true)
    (xc_Exists : PySem.W.findIn K (.ref A_Exists) "__class__" = some (some (.builtin "object.__class__")))
    (xo_Exists : PySem.W.mroIn K A_Exists (.type "object") = some true)
    (xa_TooMuch : PySem.W.nsIn K mainGlobals "TooMuch" = some (some (.ref A_TooMuch)))
    (xl_TooMuch : K.lookup A_TooMuch = some (excClassObj nm_TooMuch q_TooMuch A_TooMuch N_TooMuch bs_TooMuch [.ref A_TreeError, .ref A_CleanedError, .type "ValueError", .type "Exception", .type "BaseException", .type "object"] true sn_TooMuch sub_TooMuch ab_TooMuch col_TooMuch dd_TooMuch m0_TooMuch m1_TooMuch m2_TooMuch m3_TooMuch m5_TooMuch "ValueError.__new__"))
    (xs_TooMuch : PySem.W.findIn K (.ref A_TooMuch) "__setattr__" = some (some (.builtin "object.__setattr__")))
    (xg_TooMuch : PySem.W.findIn K (.ref A_TooMuch) "__getattribute__" = some (some (.builtin "BaseException.__getattribute__")))
    (xh_TooMuch : PySem.W.findIn K (.ref A_TooMuch) "__getattr__" = some none)
    (xe_TooMuch : PySem.W.subIn K (.ref A_TooMuch) (.type "BaseException") = some true)
    (xt_TooMuch : PySem.W.typeIn K (.ref A_TooMuch) = some (.type "type"))
    (xk_TooMuch : PySem.W.keepIn K (.ref A_TooMuch) = true)
    (xd_TooMuch : PySem.W.hasDictIn K A_TooMuch = true)
    (xc_TooMuch : PySem.W.findIn K (.ref A_TooMuch) "__class__" = some (some (.builtin "object.__class__")))
    (xo_TooMuch : PySem.W.mroIn K A_TooMuch (.type "object") = some true)
    (xa_BadSpot : PySem.W.nsIn K mainGlobals "BadSpot" = some (some (.ref A_BadSpot)))
    (xl_BadSpot : K.lookup A_BadSpot = some (excClassObj nm_BadSpot q_BadSpot A_BadSpot N_BadSpot bs_BadSpot [.ref A_TreeError, .ref A_CleanedError, .type "ValueError", .type "Exception", .type "BaseException", .type "object"] true sn_BadSpot sub_BadSpot ab_BadSpot col_BadSpot dd_BadSpot m0_BadSpot m1_BadSpot m2_BadSpot m3_BadSpot m5_BadSpot "ValueError.__new__"))
    (xs_BadSpot : PySem.W.findIn K (.ref A_BadSpot) "__setattr__" = some (some (.builtin "object.__setattr__")))
    (xg_BadSpot : PySem.W.findIn K (.ref A_BadSpot) "__getattribute__" = some (some (.builtin "BaseException.__getattribute__")))
    (xh_BadSpot : PySem.W.findIn K (.ref A_BadSpot) "__getattr__" = some none)
    (xe_BadSpot : PySem.W.subIn K (.ref A_BadSpot) (.type "BaseException") = some true)
    (xt_BadSpot : PySem.W.typeIn K (.ref A_BadSpot) = some (.type "type"))
    (xk_BadSpot : PySem.W.keepIn K (.ref A_BadSpot) = true)
    (xd_BadSpot : PySem.W.hasDictIn K A_BadSpot = true)
    (xc_BadSpot : PySem.W.findIn K (.ref A_BadSpot) "__class__" = some (some (.builtin "object.__class__")))
    (xo_BadSpot : PySem.W.mroIn K A_BadSpot (.type "object") = some true)
    (xa_Fixed : PySem.W.nsIn K mainGlobals "Fixed" = some (some (.ref A_Fixed)))
    (xl_Fixed : K.lookup A_Fixed = some (excClassObj nm_Fixed q_Fixed A_Fixed N_Fixed bs_Fixed [.ref A_TreeError, .ref A_CleanedError, .type "ValueError", .type "Exception", .type "BaseException", .type "object"] true sn_Fixed sub_Fixed ab_Fixed col_Fixed dd_Fixed m0_Fixed m1_Fixed m2_Fixed m3_Fixed m5_Fixed "ValueError.__new__"))
    (xs_Fixed : PySem.W.findIn K (.ref A_Fixed) "__setattr__" = some (some (.builtin "object.__setattr__")))
    (xg_Fixed : PySem.W.findIn K (.ref A_Fixed) "__getattribute__" = some (some (.builtin "BaseException.__getattribute__")))
    (xh_Fixed : PySem.W.findIn K (.ref A_Fixed) "__getattr__" = some none)
    (xe_Fixed : PySem.W.subIn K (.ref A_Fixed) (.type "BaseException") = some true)
    (xt_Fixed : PySem.W.typeIn K (.ref A_Fixed) = some (.type "type"))
    (xk_Fixed : PySem.W.keepIn K (.ref A_Fixed) = true)
    (xd_Fixed : PySem.W.hasDictIn K A_Fixed = true)
    (xc_Fixed : PySem.W.findIn K (.ref A_Fixed) "__class__" = some (some (.builtin "object.__class__")))
    (xo_Fixed : PySem.W.mroIn K A_Fixed (.type "object") = some true)
    (xa_BadWord : PySem.W.nsIn K mainGlobals "BadWord" = some (some (.ref A_BadWord)))
    (xl_BadWord : K.lookup A_BadWord = some (excClassObj nm_BadWord q_BadWord A_BadWord N_BadWord bs_BadWord [.ref A_TreeError, .ref A_CleanedError, .type "ValueError", .type "Exception", .type "BaseException", .type "object"] true sn_BadWord sub_BadWord ab_BadWord col_BadWord dd_BadWord m0_BadWord m1_BadWord m2_BadWord m3_BadWord m5_BadWord "ValueError.__new__"))
    (xs_BadWord : PySem.W.findIn K (.ref A_BadWord) "__setattr__" = some (some (.builtin "object.__setattr__")))
    (xg_BadWord : PySem.W.findIn K (.ref A_BadWord) "__getattribute__" = some (some (.builtin "BaseException.__getattribute__")))
    (xh_BadWord : PySem.W.findIn K (.ref A_BadWord) "__getattr__" = some none)
    (xe_BadWord : PySem.W.subIn K (.ref A_BadWord) (.type "BaseException") = some true)
    (xt_BadWord : PySem.W.typeIn K (.ref A_BadWord) = some (.type "type"))
    (xk_BadWord : PySem.W.keepIn K (.ref A_BadWord) = true)
    (xd_BadWord : PySem.W.hasDictIn K A_BadWord = true)
    (xc_BadWord : PySem.W.findIn K (.ref A_BadWord) "__class__" = some (some (.builtin "object.__class__")))
    (xo_BadWord : PySem.W.mroIn K A_BadWord (.type "object") = some true)
    (xa_IsDir : PySem.W.nsIn K mainGlobals "IsDir" = some (some (.ref A_IsDir)))
    (xl_IsDir : K.lookup A_IsDir = some (excClassObj nm_IsDir q_IsDir A_IsDir N_IsDir bs_IsDir [.ref A_TreeError, .ref A_CleanedError, .type "ValueError", .type "Exception", .type "BaseException", .type "object"] true sn_IsDir sub_IsDir ab_IsDir col_IsDir dd_IsDir m0_IsDir m1_IsDir m2_IsDir m3_IsDir m5_IsDir "ValueError.__new__"))
    (xs_IsDir : PySem.W.findIn K (.ref A_IsDir) "__setattr__" = some (some (.builtin "object.__setattr__")))
    (xg_IsDir : PySem.W.findIn K (.ref A_IsDir) "__getattribute__" = some (some (.builtin "BaseException.__getattribute__")))
    (xh_IsDir : PySem.W.findIn K (.ref A_IsDir) "__getattr__" = some none)
    (xe_IsDir : PySem.W.subIn K (.ref A_IsDir) (.type "BaseException") = some true)
    (xt_IsDir : PySem.W.typeIn K (.ref A_IsDir) = some (.type "type"))
    (xk_IsDir : PySem.W.keepIn K (.ref A_IsDir) = true)
    (xd_IsDir : PySem.W.hasDictIn K A_IsDir = true)
    (xc_IsDir : PySem.W.findIn K (.ref A_IsDir) "__class__" = some (some (.builtin "object.__class__")))
    (xo_IsDir : PySem.W.mroIn K A_IsDir (.type "object") = some true)
    (xa_NotEmpty : PySem.W.nsIn K mainGlobals "NotEmpty" = some (some (.ref A_NotEmpty)))
    (xl_NotEmpty : K.lookup A_NotEmpty = some (excClassObj nm_NotEmpty q_NotEmpty A_NotEmpty N_NotEmpty bs_NotEmpty [.ref A_TreeError, .ref A_CleanedError, .type "ValueError", .type "Exception", .type "BaseException", .type "object"] true sn_NotEmpty sub_NotEmpty ab_NotEmpty col_NotEmpty dd_NotEmpty m0_NotEmpty m1_NotEmpty m2_NotEmpty m3_NotEmpty m5_NotEmpty "ValueError.__new__"))
    (xs_NotEmpty : PySem.W.findIn K (.ref A_NotEmpty) "__setattr__" = some (some (.builtin "object.__setattr__")))
    (xg_NotEmpty : PySem.W.findIn K (.ref A_NotEmpty) "__getattribute__" = some (some (.builtin "BaseException.__getattribute__")))
    (xh_NotEmpty : PySem.W.findIn K (.ref A_NotEmpty) "__getattr__" = some none)
    (xe_NotEmpty : PySem.W.subIn K (.ref A_NotEmpty) (.type "BaseException") = some true)
    (xt_NotEmpty : PySem.W.typeIn K (.ref A_NotEmpty) = some (.type "type"))
    (xk_NotEmpty : PySem.W.keepIn K (.ref A_NotEmpty) = true)
    (xd_NotEmpty : PySem.W.hasDictIn K A_NotEmpty = true)
    (xc_NotEmpty : PySem.W.findIn K (.ref A_NotEmpty) "__class__" = some (some (.builtin "object.__class__")))
    (xo_NotEmpty : PySem.W.mroIn K A_NotEmpty (.type "object") = some true)
    (xa_Inside : PySem.W.nsIn K mainGlobals "Inside" = some (some (.ref A_Inside)))
    (xl_Inside : K.lookup A_Inside = some (excClassObj nm_Inside q_Inside A_Inside N_Inside bs_Inside [.ref A_TreeError, .ref A_CleanedError, .type "ValueError", .type "Exception", .type "BaseException", .type "object"] true sn_Inside sub_Inside ab_Inside col_Inside dd_Inside m0_Inside m1_Inside m2_Inside m3_Inside m5_Inside "ValueError.__new__"))
    (xs_Inside : PySem.W.findIn K (.ref A_Inside) "__setattr__" = some (some (.builtin "object.__setattr__")))
    (xg_Inside : PySem.W.findIn K (.ref A_Inside) "__getattribute__" = some (some (.builtin "BaseException.__getattribute__")))
    (xh_Inside : PySem.W.findIn K (.ref A_Inside) "__getattr__" = some none)
    (xe_Inside : PySem.W.subIn K (.ref A_Inside) (.type "BaseException") = some true)
    (xt_Inside : PySem.W.typeIn K (.ref A_Inside) = some (.type "type"))
    (xk_Inside : PySem.W.keepIn K (.ref A_Inside) = true)
    (xd_Inside : PySem.W.hasDictIn K A_Inside = true)
    (xc_Inside : PySem.W.findIn K (.ref A_Inside) "__class__" = some (some (.builtin "object.__class__")))
    (xo_Inside : PySem.W.mroIn K A_Inside (.type "object") = some true)
    (xa_DiskError : PySem.W.nsIn K mainGlobals "DiskError" = some (some (.ref A_DiskError)))
    (xl_DiskError : K.lookup A_DiskError = some (excClassObj nm_DiskError q_DiskError A_DiskError N_DiskError bs_DiskError [.ref A_CleanedError, .type "ValueError", .type "Exception", .type "BaseException", .type "object"] true sn_DiskError sub_DiskError ab_DiskError col_DiskError dd_DiskError m0_DiskError m1_DiskError m2_DiskError m3_DiskError m5_DiskError "ValueError.__new__"))
    (xs_DiskError : PySem.W.findIn K (.ref A_DiskError) "__setattr__" = some (some (.builtin "object.__setattr__")))
    (xg_DiskError : PySem.W.findIn K (.ref A_DiskError) "__getattribute__" = some (some (.builtin "BaseException.__getattribute__")))
    (xh_DiskError : PySem.W.findIn K (.ref A_DiskError) "__getattr__" = some none)
    (xe_DiskError : PySem.W.subIn K (.ref A_DiskError) (.type "BaseException") = some true)
    (xt_DiskError : PySem.W.typeIn K (.ref A_DiskError) = some (.type "type"))
    (xk_DiskError : PySem.W.keepIn K (.ref A_DiskError) = true)
    (xd_DiskError : PySem.W.hasDictIn K A_DiskError = true)
    (xc_DiskError : PySem.W.findIn K (.ref A_DiskError) "__class__" = some (some (.builtin "object.__class__")))
    (xo_DiskError : PySem.W.mroIn K A_DiskError (.type "object") = some true)
    (xf_BadPath : PySem.W.findIn K (.ref A_BadPath) "__init__" = some (some (.ref f_BadPath_init)))
    (xy_BadPath : PySem.W.typeIn K (.ref f_BadPath_init) = some (.type "function"))
    (l_BadPath_init : K.lookup f_BadPath_init = some ⟨oc_BadPath_init, od_BadPath_init, .func (PySem.W.fnOf "__init__" "BadPath.__init__" (defArgs s_BadPath_init) (defBody s_BadPath_init) (defScope s_BadPath_init) .none kV_BadPath_init dc_BadPath_init pm_BadPath_init an_BadPath_init cd_BadPath_init ct_BadPath_init), sl_BadPath_init⟩)
    (c_BadPath_init : PySem.W.codeIn K cd_BadPath_init "BadPath.__init__" = true)
    (k_BadPath_init : PySem.W.keepIn K (.ref f_BadPath_init) = true)
    (xq_BadPath : PySem.W.findIn K (.ref A_BadPath) "path" = some none)
    (xf_NotDir : PySem.W.findIn K (.ref A_NotDir) "__init__" = some (some (.ref f_NotDir_init)))
    (xy_NotDir : PySem.W.typeIn K (.ref f_NotDir_init) = some (.type "function"))
    (l_NotDir_init : K.lookup f_NotDir_init = some ⟨oc_NotDir_init, od_NotDir_init, .func (PySem.W.fnOf "__init__" "NotDir.__init__" (defArgs s_NotDir_init) (defBody s_NotDir_init) (defScope s_NotDir_init) .none kV_NotDir_init dc_NotDir_init pm_NotDir_init an_NotDir_init cd_NotDir_init ct_NotDir_init), sl_NotDir_init⟩)
    (c_NotDir_init : PySem.W.codeIn K cd_NotDir_init "NotDir.__init__" = true)
    (k_NotDir_init : PySem.W.keepIn K (.ref f_NotDir_init) = true)
    (xq_NotDir : PySem.W.findIn K (.ref A_NotDir) "path" = some none)
    (xf_NoSuch : PySem.W.findIn K (.ref A_NoSuch) "__init__" = some (some (.ref f_NoSuch_init)))
    (xy_NoSuch : PySem.W.typeIn K (.ref f_NoSuch_init) = some (.type "function"))
    (l_NoSuch_init : K.lookup f_NoSuch_init = some ⟨oc_NoSuch_init, od_NoSuch_init, .func (PySem.W.fnOf "__init__" "NoSuch.__init__" (defArgs s_NoSuch_init) (defBody s_NoSuch_init) (defScope s_NoSuch_init) .none kV_NoSuch_init dc_NoSuch_init pm_NoSuch_init an_NoSuch_init cd_NoSuch_init ct_NoSuch_init), sl_NoSuch_init⟩)
    (c_NoSuch_init : PySem.W.codeIn K cd_NoSuch_init "NoSuch.__init__" = true)
    (k_NoSuch_init : PySem.W.keepIn K (.ref f_NoSuch_init) = true)
    (xq_NoSuch : PySem.W.findIn K (.ref A_NoSuch) "path" = some none)
    (xf_Exists : PySem.W.findIn K (.ref A_Exists) "__init__" = some (some (.ref f_Exists_init)))
    (xy_Exists : PySem.W.typeIn K (.ref f_Exists_init) = some (.type "function"))
    (l_Exists_init : K.lookup f_Exists_init = some ⟨oc_Exists_init, od_Exists_init, .func (PySem.W.fnOf "__init__" "Exists.__init__" (defArgs s_Exists_init) (defBody s_Exists_init) (defScope s_Exists_init) .none kV_Exists_init dc_Exists_init pm_Exists_init an_Exists_init cd_Exists_init ct_Exists_init), sl_Exists_init⟩)
    (c_Exists_init : PySem.W.codeIn K cd_Exists_init "Exists.__init__" = true)
    (k_Exists_init : PySem.W.keepIn K (.ref f_Exists_init) = true)
    (xq_Exists : PySem.W.findIn K (.ref A_Exists) "path" = some none)
    (xf_TooMuch : PySem.W.findIn K (.ref A_TooMuch) "__init__" = some (some (.ref f_TooMuch_init)))
    (xy_TooMuch : PySem.W.typeIn K (.ref f_TooMuch_init) = some (.type "function"))
    (l_TooMuch_init : K.lookup f_TooMuch_init = some ⟨oc_TooMuch_init, od_TooMuch_init, .func (PySem.W.fnOf "__init__" "TooMuch.__init__" (defArgs s_TooMuch_init) (defBody s_TooMuch_init) (defScope s_TooMuch_init) .none kV_TooMuch_init dc_TooMuch_init pm_TooMuch_init an_TooMuch_init cd_TooMuch_init ct_TooMuch_init), sl_TooMuch_init⟩)
    (c_TooMuch_init : PySem.W.codeIn K cd_TooMuch_init "TooMuch.__init__" = true)
    (k_TooMuch_init : PySem.W.keepIn K (.ref f_TooMuch_init) = true)
    (xq_TooMuch : PySem.W.findIn K (.ref A_TooMuch) "kind" = some none)
    (hXF_BadPath_many : PySem.W.findIn K (.ref A_BadPath) "many" = some none)
    (hXF_BadPath_kind : PySem.W.findIn K (.ref A_BadPath) "kind" = some none)
    (hXK_BadPath_BadSpot : PySem.W.subIn K (.ref A_BadPath) (.ref A_BadSpot) = some false)
    (hXS_BadPath : PySem.W.subIn K (.ref A_BadPath) (.ref A_BadPath) = some true)
    (hXK_BadPath_TooMuch : PySem.W.subIn K (.ref A_BadPath) (.ref A_TooMuch) = some false)
    (hXK_BadPath_Fixed : PySem.W.subIn K (.ref A_BadPath) (.ref A_Fixed) = some false)
    (hXK_BadPath_BadWord : PySem.W.subIn K (.ref A_BadPath) (.ref A_BadWord) = some false)
    (hXF_NoSuch_many : PySem.W.findIn K (.ref A_NoSuch) "many" = some none)
    (hXF_NoSuch_kind : PySem.W.findIn K (.ref A_NoSuch) "kind" = some none)
    (hXK_NoSuch_BadSpot : PySem.W.subIn K (.ref A_NoSuch) (.ref A_BadSpot) = some false)
    (hXS_NoSuch : PySem.W.subIn K (.ref A_NoSuch) (.ref A_NoSuch) = some true)
    (hXK_NoSuch_TooMuch : PySem.W.subIn K (.ref A_NoSuch) (.ref A_TooMuch) = some false)
    (hXK_NoSuch_Fixed : PySem.W.subIn K (.ref A_NoSuch) (.ref A_Fixed) = some false)
    (hXK_NoSuch_BadWord : PySem.W.subIn K (.ref A_NoSuch) (.ref A_BadWord) = some false)
    (hXF_NotDir_many : PySem.W.findIn K (.ref A_NotDir) "many" = some none)
    (hXF_NotDir_kind : PySem.W.findIn K (.ref A_NotDir) "kind" = some none)
    (hXK_NotDir_BadSpot : PySem.W.subIn K (.ref A_NotDir) (.ref A_BadSpot) = some false)
    (hXS_NotDir : PySem.W.subIn K (.ref A_NotDir) (.ref A_NotDir) = some true)
    (hXK_NotDir_TooMuch : PySem.W.subIn K (.ref A_NotDir) (.ref A_TooMuch) = some false)
    (hXK_NotDir_Fixed : PySem.W.subIn K (.ref A_NotDir) (.ref A_Fixed) = some false)
    (hXK_NotDir_BadWord : PySem.W.subIn K (.ref A_NotDir) (.ref A_BadWord) = some false)
    (hXF_Exists_many : PySem.W.findIn K (.ref A_Exists) "many" = some none)
    (hXF_Exists_kind : PySem.W.findIn K (.ref A_Exists) "kind" = some none)
    (hXK_Exists_BadSpot : PySem.W.subIn K (.ref A_Exists) (.ref A_BadSpot) = some false)
    (hXS_Exists : PySem.W.subIn K (.ref A_Exists) (.ref A_Exists) = some true)
    (hXK_Exists_TooMuch : PySem.W.subIn K (.ref A_Exists) (.ref A_TooMuch) = some false)
    (hXK_Exists_Fixed : PySem.W.subIn K (.ref A_Exists) (.ref A_Fixed) = some false)
    (hXK_Exists_BadWord : PySem.W.subIn K (.ref A_Exists) (.ref A_BadWord) = some false)
    (hXF_TooMuch_many : PySem.W.findIn K (.ref A_TooMuch) "many" = some none)
    (hXF_TooMuch_path : PySem.W.findIn K (.ref A_TooMuch) "path" = some none)
    (hXK_TooMuch_BadSpot : PySem.W.subIn K (.ref A_TooMuch) (.ref A_BadSpot) = some false)
    (hXS_TooMuch : PySem.W.subIn K (.ref A_TooMuch) (.ref A_TooMuch) = some true)
    (hXK_TooMuch_TooMuch : PySem.W.subIn K (.ref A_TooMuch) (.ref A_TooMuch) = some true)
    (hXK_TooMuch_Fixed : PySem.W.subIn K (.ref A_TooMuch) (.ref A_Fixed) = some false)
    (hXK_TooMuch_BadWord : PySem.W.subIn K (.ref A_TooMuch) (.ref A_BadWord) = some false)
    (hXK_BadPath_BadPath : PySem.W.subIn K (.ref A_BadPath) (.ref A_BadPath) = some true)
    (hXK_BadPath_NoSuch : PySem.W.subIn K (.ref A_BadPath) (.ref A_NoSuch) = some false)
    (hXK_BadPath_NotDir : PySem.W.subIn K (.ref A_BadPath) (.ref A_NotDir) = some false)
    (hXK_BadPath_IsDir : PySem.W.subIn K (.ref A_BadPath) (.ref A_IsDir) = some false)
    (hXK_BadPath_Exists : PySem.W.subIn K (.ref A_BadPath) (.ref A_Exists) = some false)
    (hXK_BadPath_NotEmpty : PySem.W.subIn K (.ref A_BadPath) (.ref A_NotEmpty) = some false)
    (hXK_BadPath_Inside : PySem.W.subIn K (.ref A_BadPath) (.ref A_Inside) = some false)
    (hXK_BadPath_ValueError : PySem.W.subIn K (.ref A_BadPath) (.type "ValueError") = some true)
    (hXK_BadPath_DiskError : PySem.W.subIn K (.ref A_BadPath) (.ref A_DiskError) = some false)
    (hXK_NoSuch_BadPath : PySem.W.subIn K (.ref A_NoSuch) (.ref A_BadPath) = some false)
    (hXK_NoSuch_NoSuch : PySem.W.subIn K (.ref A_NoSuch) (.ref A_NoSuch) = some true)
    (hXK_NoSuch_NotDir : PySem.W.subIn K (.ref A_NoSuch) (.ref A_NotDir) = some false)
    (hXK_NoSuch_IsDir : PySem.W.subIn K (.ref A_NoSuch) (.ref A_IsDir) = some false)
    (hXK_NoSuch_Exists : PySem.W.subIn K (.ref A_NoSuch) (.ref A_Exists) = some false)
    (hXK_NoSuch_NotEmpty : PySem.W.subIn K (.ref A_NoSuch) (.ref A_NotEmpty) = some false)
    (hXK_NoSuch_Inside : PySem.W.subIn K (.ref A_NoSuch) (.ref A_Inside) = some false)
    (hXK_NoSuch_ValueError : PySem.W.subIn K (.ref A_NoSuch) (.type "ValueError") = some true)
    (hXK_NoSuch_DiskError : PySem.W.subIn K (.ref A_NoSuch) (.ref A_DiskError) = some false)
    (hXK_NotDir_BadPath : PySem.W.subIn K (.ref A_NotDir) (.ref A_BadPath) = some false)
    (hXK_NotDir_NoSuch : PySem.W.subIn K (.ref A_NotDir) (.ref A_NoSuch) = some false)
    (hXK_NotDir_NotDir : PySem.W.subIn K (.ref A_NotDir) (.ref A_NotDir) = some true)
    (hXK_NotDir_IsDir : PySem.W.subIn K (.ref A_NotDir) (.ref A_IsDir) = some false)
    (hXK_NotDir_Exists : PySem.W.subIn K (.ref A_NotDir) (.ref A_Exists) = some false)
    (hXK_NotDir_NotEmpty : PySem.W.subIn K (.ref A_NotDir) (.ref A_NotEmpty) = some false)
    (hXK_NotDir_Inside : PySem.W.subIn K (.ref A_NotDir) (.ref A_Inside) = some false)
    (hXK_NotDir_ValueError : PySem.W.subIn K (.ref A_NotDir) (.type "ValueError") = some true)
    (hXK_NotDir_DiskError : PySem.W.subIn K (.ref A_NotDir) (.ref A_DiskError) = some false)
    (hXK_Exists_BadPath : PySem.W.subIn K (.ref A_Exists) (.ref A_BadPath) = some false)
    (hXK_Exists_NoSuch : PySem.W.subIn K (.ref A_Exists) (.ref A_NoSuch) = some false)
    (hXK_Exists_NotDir : PySem.W.subIn K (.ref A_Exists) (.ref A_NotDir) = some false)
    (hXK_Exists_IsDir : PySem.W.subIn K (.ref A_Exists) (.ref A_IsDir) = some false)
    (hXK_Exists_Exists : PySem.W.subIn K (.ref A_Exists) (.ref A_Exists) = some true)
    (hXK_Exists_NotEmpty : PySem.W.subIn K (.ref A_Exists) (.ref A_NotEmpty) = some false)
    (hXK_Exists_Inside : PySem.W.subIn K (.ref A_Exists) (.ref A_Inside) = some false)
    (hXK_Exists_ValueError : PySem.W.subIn K (.ref A_Exists) (.type "ValueError") = some true)
    (hXK_Exists_DiskError : PySem.W.subIn K (.ref A_Exists) (.ref A_DiskError) = some false)
    (hXK_TooMuch_BadPath : PySem.W.subIn K (.ref A_TooMuch) (.ref A_BadPath) = some false)
    (hXK_TooMuch_NoSuch : PySem.W.subIn K (.ref A_TooMuch) (.ref A_NoSuch) = some false)
    (hXK_TooMuch_NotDir : PySem.W.subIn K (.ref A_TooMuch) (.ref A_NotDir) = some false)
    (hXK_TooMuch_IsDir : PySem.W.subIn K (.ref A_TooMuch) (.ref A_IsDir) = some false)
    (hXK_TooMuch_Exists : PySem.W.subIn K (.ref A_TooMuch) (.ref A_Exists) = some false)
    (hXK_TooMuch_NotEmpty : PySem.W.subIn K (.ref A_TooMuch) (.ref A_NotEmpty) = some false)
    (hXK_TooMuch_Inside : PySem.W.subIn K (.ref A_TooMuch) (.ref A_Inside) = some false)
    (hXK_TooMuch_ValueError : PySem.W.subIn K (.ref A_TooMuch) (.type "ValueError") = some true)
    (hXK_TooMuch_DiskError : PySem.W.subIn K (.ref A_TooMuch) (.ref A_DiskError) = some false)
    (hXM_BadPath_TreeError : PySem.W.subIn K (.ref A_BadPath) (.ref A_TreeError) = some true)
    (hXM_NoSuch_TreeError : PySem.W.subIn K (.ref A_NoSuch) (.ref A_TreeError) = some true)
    (hXM_NotDir_TreeError : PySem.W.subIn K (.ref A_NotDir) (.ref A_TreeError) = some true)
    (hXM_Exists_TreeError : PySem.W.subIn K (.ref A_Exists) (.ref A_TreeError) = some true)
    (hXM_TooMuch_TreeError : PySem.W.subIn K (.ref A_TooMuch) (.ref A_TreeError) = some true)
    (ig_ : PySem.W.specialIn K (.builtin "object.__class__") "__get__" = some (some (.builtin "getset_descriptor.__get__")))
    (it_ : PySem.W.takesIn K (.builtin "object.__class__") = some true)
    (ac_Tree : PySem.W.nsIn K mainGlobals "Tree" = some (some (.ref A_Tree)))
    (pg_Tree : PySem.W.plainGet K A_Tree Str.empty = true)
    (hd_Tree : PySem.W.hasDictIn K A_Tree = true)
    (po_Tree : PySem.W.plainOver K A_Tree = true)
    (sa_Tree : PySem.W.findIn K (.ref A_Tree) "__setattr__" = some (some (.builtin "object.__setattr__")))
    (mk_Tree : PySem.W.makesIn K A_Tree = true)
    (kc_Tree : PySem.W.keepIn K (.ref A_Tree) = true)
    (ic_Tree : PySem.W.findIn K (.ref A_Tree) "__class__" = some (some (.builtin "object.__class__")))
    (im_Tree : PySem.W.mroIn K A_Tree (.type "object") = some true)
    (n_Tree_inner : PySem.W.findIn K (.ref A_Tree) "inner" = some none)
    (n_Tree_next_one : PySem.W.findIn K (.ref A_Tree) "next_one" = some none)
    (a_is_of : PySem.W.nsIn K mainGlobals "is_of" = some (some (.ref f_is_of)))
    (l_is_of : K.lookup f_is_of = some ⟨oc_is_of, od_is_of, .func (PySem.W.fnOf "is_of" "is_of" (defArgs s_is_of) (defBody s_is_of) (defScope s_is_of) .none kV_is_of dc_is_of pm_is_of an_is_of cd_is_of ct_is_of), sl_is_of⟩)
    (c_is_of : PySem.W.codeIn K cd_is_of "is_of" = true)
    (k_is_of : PySem.W.keepIn K (.ref f_is_of) = true)
    (a_is_name : PySem.W.nsIn K mainGlobals "is_name" = some (some (.ref f_is_name)))
    (l_is_name : K.lookup f_is_name = some ⟨oc_is_name, od_is_name, .func (PySem.W.fnOf "is_name" "is_name" (defArgs s_is_name) (defBody s_is_name) (defScope s_is_name) .none kV_is_name dc_is_name pm_is_name an_is_name cd_is_name ct_is_name), sl_is_name⟩)
    (c_is_name : PySem.W.codeIn K cd_is_name "is_name" = true)
    (k_is_name : PySem.W.keepIn K (.ref f_is_name) = true)
    (a_names_of : PySem.W.nsIn K mainGlobals "names_of" = some (some (.ref f_names_of)))
    (l_names_of : K.lookup f_names_of = some ⟨oc_names_of, od_names_of, .func (PySem.W.fnOf "names_of" "names_of" (defArgs s_names_of) (defBody s_names_of) (defScope s_names_of) .none kV_names_of dc_names_of pm_names_of an_names_of cd_names_of ct_names_of), sl_names_of⟩)
    (c_names_of : PySem.W.codeIn K cd_names_of "names_of" = true)
    (k_names_of : PySem.W.keepIn K (.ref f_names_of) = true)
    (a_path_of : PySem.W.nsIn K mainGlobals "path_of" = some (some (.ref f_path_of)))
    (l_path_of : K.lookup f_path_of = some ⟨oc_path_of, od_path_of, .func (PySem.W.fnOf "path_of" "path_of" (defArgs s_path_of) (defBody s_path_of) (defScope s_path_of) .none kV_path_of dc_path_of pm_path_of an_path_of cd_path_of ct_path_of), sl_path_of⟩)
    (c_path_of : PySem.W.codeIn K cd_path_of "path_of" = true)
    (k_path_of : PySem.W.keepIn K (.ref f_path_of) = true)
    (a_Tree_init : PySem.W.findIn K (.ref A_Tree) "__init__" = some (some (.ref f_Tree_init)))
    (i_Tree_init : PySem.W.isFn K (.ref f_Tree_init) = true)
    (l_Tree_init : K.lookup f_Tree_init = some ⟨oc_Tree_init, od_Tree_init, .func (PySem.W.fnOf "__init__" "Tree.__init__" (defArgs s_Tree_init) (defBody s_Tree_init) (defScope s_Tree_init) .none kV_Tree_init dc_Tree_init pm_Tree_init an_Tree_init cd_Tree_init ct_Tree_init), sl_Tree_init⟩)
    (c_Tree_init : PySem.W.codeIn K cd_Tree_init "Tree.__init__" = true)
    (k_Tree_init : PySem.W.keepIn K (.ref f_Tree_init) = true)
    (a_l_pot : PySem.W.nsIn K mainGlobals "_law_pot" = some (some (.ref f_l_pot)))
    (l_l_pot : K.lookup f_l_pot = some ⟨oc_l_pot, od_l_pot, .func (PySem.W.fnOf "_law_pot" "_law_pot" (defArgs s_l_pot) (defBody s_l_pot) (defScope s_l_pot) .none kV_l_pot dc_l_pot pm_l_pot an_l_pot cd_l_pot ct_l_pot), sl_l_pot⟩)
    (c_l_pot : PySem.W.codeIn K cd_l_pot "_law_pot" = true)
    (k_l_pot : PySem.W.keepIn K (.ref f_l_pot) = true)
    (a_Tree_links : PySem.W.findIn K (.ref A_Tree) "links" = some (some (.ref f_Tree_links)))
    (i_Tree_links : PySem.W.isFn K (.ref f_Tree_links) = true)
    (l_Tree_links : K.lookup f_Tree_links = some ⟨oc_Tree_links, od_Tree_links, .func (PySem.W.fnOf "links" "Tree.links" (defArgs s_Tree_links) (defBody s_Tree_links) (defScope s_Tree_links) .none kV_Tree_links dc_Tree_links pm_Tree_links an_Tree_links cd_Tree_links ct_Tree_links), sl_Tree_links⟩)
    (c_Tree_links : PySem.W.codeIn K cd_Tree_links "Tree.links" = true)
    (k_Tree_links : PySem.W.keepIn K (.ref f_Tree_links) = true)
    (a_Tree_node : PySem.W.findIn K (.ref A_Tree) "node" = some (some (.ref f_Tree_node)))
    (i_Tree_node : PySem.W.isFn K (.ref f_Tree_node) = true)
    (l_Tree_node : K.lookup f_Tree_node = some ⟨oc_Tree_node, od_Tree_node, .func (PySem.W.fnOf "node" "Tree.node" (defArgs s_Tree_node) (defBody s_Tree_node) (defScope s_Tree_node) .none kV_Tree_node dc_Tree_node pm_Tree_node an_Tree_node cd_Tree_node ct_Tree_node), sl_Tree_node⟩)
    (c_Tree_node : PySem.W.codeIn K cd_Tree_node "Tree.node" = true)
    (k_Tree_node : PySem.W.keepIn K (.ref f_Tree_node) = true)
    (a_l_take : PySem.W.nsIn K mainGlobals "_law_take" = some (some (.ref f_l_take)))
    (l_l_take : K.lookup f_l_take = some ⟨oc_l_take, od_l_take, .func (PySem.W.fnOf "_law_take" "_law_take" (defArgs s_l_take) (defBody s_l_take) (defScope s_l_take) .none kV_l_take dc_l_take pm_l_take an_l_take cd_l_take ct_l_take), sl_l_take⟩)
    (c_l_take : PySem.W.codeIn K cd_l_take "_law_take" = true)
    (k_l_take : PySem.W.keepIn K (.ref f_l_take) = true)
    (a_l_name : PySem.W.nsIn K mainGlobals "_law_name" = some (some (.ref f_l_name)))
    (l_l_name : K.lookup f_l_name = some ⟨oc_l_name, od_l_name, .func (PySem.W.fnOf "_law_name" "_law_name" (defArgs s_l_name) (defBody s_l_name) (defScope s_l_name) .none kV_l_name dc_l_name pm_l_name an_l_name cd_l_name ct_l_name), sl_l_name⟩)
    (c_l_name : PySem.W.codeIn K cd_l_name "_law_name" = true)
    (k_l_name : PySem.W.keepIn K (.ref f_l_name) = true)
    (a_Tree_is_dir : PySem.W.findIn K (.ref A_Tree) "is_dir" = some (some (.ref f_Tree_is_dir)))
    (i_Tree_is_dir : PySem.W.isFn K (.ref f_Tree_is_dir) = true)
    (l_Tree_is_dir : K.lookup f_Tree_is_dir = some ⟨oc_Tree_is_dir, od_Tree_is_dir, .func (PySem.W.fnOf "is_dir" "Tree.is_dir" (defArgs s_Tree_is_dir) (defBody s_Tree_is_dir) (defScope s_Tree_is_dir) .none kV_Tree_is_dir dc_Tree_is_dir pm_Tree_is_dir an_Tree_is_dir cd_Tree_is_dir ct_Tree_is_dir), sl_Tree_is_dir⟩)
    (c_Tree_is_dir : PySem.W.codeIn K cd_Tree_is_dir "Tree.is_dir" = true)
    (k_Tree_is_dir : PySem.W.keepIn K (.ref f_Tree_is_dir) = true)
    (a_Tree_going : PySem.W.findIn K (.ref A_Tree) "going" = some (some (.ref f_Tree_going)))
    (i_Tree_going : PySem.W.isFn K (.ref f_Tree_going) = true)
    (l_Tree_going : K.lookup f_Tree_going = some ⟨oc_Tree_going, od_Tree_going, .func (PySem.W.fnOf "going" "Tree.going" (defArgs s_Tree_going) (defBody s_Tree_going) (defScope s_Tree_going) .none kV_Tree_going dc_Tree_going pm_Tree_going an_Tree_going cd_Tree_going ct_Tree_going), sl_Tree_going⟩)
    (c_Tree_going : PySem.W.codeIn K cd_Tree_going "Tree.going" = true)
    (k_Tree_going : PySem.W.keepIn K (.ref f_Tree_going) = true)
    (a_Tree_dir_above : PySem.W.findIn K (.ref A_Tree) "dir_above" = some (some (.ref f_Tree_dir_above)))
    (i_Tree_dir_above : PySem.W.isFn K (.ref f_Tree_dir_above) = true)
    (l_Tree_dir_above : K.lookup f_Tree_dir_above = some ⟨oc_Tree_dir_above, od_Tree_dir_above, .func (PySem.W.fnOf "dir_above" "Tree.dir_above" (defArgs s_Tree_dir_above) (defBody s_Tree_dir_above) (defScope s_Tree_dir_above) .none kV_Tree_dir_above dc_Tree_dir_above pm_Tree_dir_above an_Tree_dir_above cd_Tree_dir_above ct_Tree_dir_above), sl_Tree_dir_above⟩)
    (c_Tree_dir_above : PySem.W.codeIn K cd_Tree_dir_above "Tree.dir_above" = true)
    (k_Tree_dir_above : PySem.W.keepIn K (.ref f_Tree_dir_above) = true)
    (a_Tree_want_free : PySem.W.findIn K (.ref A_Tree) "want_free" = some (some (.ref f_Tree_want_free)))
    (i_Tree_want_free : PySem.W.isFn K (.ref f_Tree_want_free) = true)
    (l_Tree_want_free : K.lookup f_Tree_want_free = some ⟨oc_Tree_want_free, od_Tree_want_free, .func (PySem.W.fnOf "want_free" "Tree.want_free" (defArgs s_Tree_want_free) (defBody s_Tree_want_free) (defScope s_Tree_want_free) .none kV_Tree_want_free dc_Tree_want_free pm_Tree_want_free an_Tree_want_free cd_Tree_want_free ct_Tree_want_free), sl_Tree_want_free⟩)
    (c_Tree_want_free : PySem.W.codeIn K cd_Tree_want_free "Tree.want_free" = true)
    (k_Tree_want_free : PySem.W.keepIn K (.ref f_Tree_want_free) = true)
    (a_Tree_put_new : PySem.W.findIn K (.ref A_Tree) "put_new" = some (some (.ref f_Tree_put_new)))
    (i_Tree_put_new : PySem.W.isFn K (.ref f_Tree_put_new) = true)
    (l_Tree_put_new : K.lookup f_Tree_put_new = some ⟨oc_Tree_put_new, od_Tree_put_new, .func (PySem.W.fnOf "put_new" "Tree.put_new" (defArgs s_Tree_put_new) (defBody s_Tree_put_new) (defScope s_Tree_put_new) .none kV_Tree_put_new dc_Tree_put_new pm_Tree_put_new an_Tree_put_new cd_Tree_put_new ct_Tree_put_new), sl_Tree_put_new⟩)
    (c_Tree_put_new : PySem.W.codeIn K cd_Tree_put_new "Tree.put_new" = true)
    (k_Tree_put_new : PySem.W.keepIn K (.ref f_Tree_put_new) = true)
    (a_Tree_paths : PySem.W.findIn K (.ref A_Tree) "paths" = some (some (.ref f_Tree_paths)))
    (i_Tree_paths : PySem.W.isFn K (.ref f_Tree_paths) = true)
    (l_Tree_paths : K.lookup f_Tree_paths = some ⟨oc_Tree_paths, od_Tree_paths, .func (PySem.W.fnOf "paths" "Tree.paths" (defArgs s_Tree_paths) (defBody s_Tree_paths) (defScope s_Tree_paths) .none (.ref KD_Tree_paths) dc_Tree_paths pm_Tree_paths an_Tree_paths cd_Tree_paths ct_Tree_paths), sl_Tree_paths⟩)
    (c_Tree_paths : PySem.W.codeIn K cd_Tree_paths "Tree.paths" = true)
    (k_Tree_paths : PySem.W.keepIn K (.ref f_Tree_paths) = true)
    (lK_Tree_paths : PySem.W.nsIn K KD_Tree_paths "under" = some (some (Value.str "/" tK_Tree_paths)))
    (a_l_path : PySem.W.nsIn K mainGlobals "_law_path" = some (some (.ref f_l_path)))
    (l_l_path : K.lookup f_l_path = some ⟨oc_l_path, od_l_path, .func (PySem.W.fnOf "_law_path" "_law_path" (defArgs s_l_path) (defBody s_l_path) (defScope s_l_path) .none kV_l_path dc_l_path pm_l_path an_l_path cd_l_path ct_l_path), sl_l_path⟩)
    (c_l_path : PySem.W.codeIn K cd_l_path "_law_path" = true)
    (k_l_path : PySem.W.keepIn K (.ref f_l_path) = true)
    (a_l_free : PySem.W.nsIn K mainGlobals "_law_free" = some (some (.ref f_l_free)))
    (l_l_free : K.lookup f_l_free = some ⟨oc_l_free, od_l_free, .func (PySem.W.fnOf "_law_free" "_law_free" (defArgs s_l_free) (defBody s_l_free) (defScope s_l_free) .none kV_l_free dc_l_free pm_l_free an_l_free cd_l_free ct_l_free), sl_l_free⟩)
    (c_l_free : PySem.W.codeIn K cd_l_free "_law_free" = true)
    (k_l_free : PySem.W.keepIn K (.ref f_l_free) = true)
    (a_l_node : PySem.W.nsIn K mainGlobals "_law_node" = some (some (.ref f_l_node)))
    (l_l_node : K.lookup f_l_node = some ⟨oc_l_node, od_l_node, .func (PySem.W.fnOf "_law_node" "_law_node" (defArgs s_l_node) (defBody s_l_node) (defScope s_l_node) .none kV_l_node dc_l_node pm_l_node an_l_node cd_l_node ct_l_node), sl_l_node⟩)
    (c_l_node : PySem.W.codeIn K cd_l_node "_law_node" = true)
    (k_l_node : PySem.W.keepIn K (.ref f_l_node) = true)
    (a_l_field : PySem.W.nsIn K mainGlobals "_law_field" = some (some (.ref f_l_field)))
    (l_l_field : K.lookup f_l_field = some ⟨oc_l_field, od_l_field, .func (PySem.W.fnOf "_law_field" "_law_field" (defArgs s_l_field) (defBody s_l_field) (defScope s_l_field) .none kV_l_field dc_l_field pm_l_field an_l_field cd_l_field ct_l_field), sl_l_field⟩)
    (c_l_field : PySem.W.codeIn K cd_l_field "_law_field" = true)
    (k_l_field : PySem.W.keepIn K (.ref f_l_field) = true)
    (a_l_class : PySem.W.nsIn K mainGlobals "_law_class" = some (some (.ref f_l_class)))
    (l_l_class : K.lookup f_l_class = some ⟨oc_l_class, od_l_class, .func (PySem.W.fnOf "_law_class" "_law_class" (defArgs s_l_class) (defBody s_l_class) (defScope s_l_class) .none kV_l_class dc_l_class pm_l_class an_l_class cd_l_class ct_l_class), sl_l_class⟩)
    (c_l_class : PySem.W.codeIn K cd_l_class "_law_class" = true)
    (k_l_class : PySem.W.keepIn K (.ref f_l_class) = true)
    (a_l_going : PySem.W.nsIn K mainGlobals "_law_going" = some (some (.ref f_l_going)))
    (l_l_going : K.lookup f_l_going = some ⟨oc_l_going, od_l_going, .func (PySem.W.fnOf "_law_going" "_law_going" (defArgs s_l_going) (defBody s_l_going) (defScope s_l_going) .none kV_l_going dc_l_going pm_l_going an_l_going cd_l_going ct_l_going), sl_l_going⟩)
    (c_l_going : PySem.W.codeIn K cd_l_going "_law_going" = true)
    (k_l_going : PySem.W.keepIn K (.ref f_l_going) = true)
    (a_l_above : PySem.W.nsIn K mainGlobals "_law_above" = some (some (.ref f_l_above)))
    (l_l_above : K.lookup f_l_above = some ⟨oc_l_above, od_l_above, .func (PySem.W.fnOf "_law_above" "_law_above" (defArgs s_l_above) (defBody s_l_above) (defScope s_l_above) .none kV_l_above dc_l_above pm_l_above an_l_above cd_l_above ct_l_above), sl_l_above⟩)
    (c_l_above : PySem.W.codeIn K cd_l_above "_law_above" = true)
    (k_l_above : PySem.W.keepIn K (.ref f_l_above) = true)
    (a_l_put_due : PySem.W.nsIn K mainGlobals "_law_put_due" = some (some (.ref f_l_put_due)))
    (l_l_put_due : K.lookup f_l_put_due = some ⟨oc_l_put_due, od_l_put_due, .func (PySem.W.fnOf "_law_put_due" "_law_put_due" (defArgs s_l_put_due) (defBody s_l_put_due) (defScope s_l_put_due) .none kV_l_put_due dc_l_put_due pm_l_put_due an_l_put_due cd_l_put_due ct_l_put_due), sl_l_put_due⟩)
    (c_l_put_due : PySem.W.codeIn K cd_l_put_due "_law_put_due" = true)
    (k_l_put_due : PySem.W.keepIn K (.ref f_l_put_due) = true)
    (a_Tree_numbers : PySem.W.findIn K (.ref A_Tree) "numbers" = some (some (.ref f_Tree_numbers)))
    (i_Tree_numbers : PySem.W.isFn K (.ref f_Tree_numbers) = true)
    (l_Tree_numbers : K.lookup f_Tree_numbers = some ⟨oc_Tree_numbers, od_Tree_numbers, .func (PySem.W.fnOf "numbers" "Tree.numbers" (defArgs s_Tree_numbers) (defBody s_Tree_numbers) (defScope s_Tree_numbers) .none kV_Tree_numbers dc_Tree_numbers pm_Tree_numbers an_Tree_numbers cd_Tree_numbers ct_Tree_numbers), sl_Tree_numbers⟩)
    (c_Tree_numbers : PySem.W.codeIn K cd_Tree_numbers "Tree.numbers" = true)
    (k_Tree_numbers : PySem.W.keepIn K (.ref f_Tree_numbers) = true)
    (a_Tree_next_number : PySem.W.findIn K (.ref A_Tree) "next_number" = some (some (.ref f_Tree_next_number)))
    (i_Tree_next_number : PySem.W.isFn K (.ref f_Tree_next_number) = true)
    (l_Tree_next_number : K.lookup f_Tree_next_number = some ⟨oc_Tree_next_number, od_Tree_next_number, .func (PySem.W.fnOf "next_number" "Tree.next_number" (defArgs s_Tree_next_number) (defBody s_Tree_next_number) (defScope s_Tree_next_number) .none kV_Tree_next_number dc_Tree_next_number pm_Tree_next_number an_Tree_next_number cd_Tree_next_number ct_Tree_next_number), sl_Tree_next_number⟩)
    (c_Tree_next_number : PySem.W.codeIn K cd_Tree_next_number "Tree.next_number" = true)
    (k_Tree_next_number : PySem.W.keepIn K (.ref f_Tree_next_number) = true)
    (a_Tree_number : PySem.W.findIn K (.ref A_Tree) "number" = some (some (.ref f_Tree_number)))
    (i_Tree_number : PySem.W.isFn K (.ref f_Tree_number) = true)
    (l_Tree_number : K.lookup f_Tree_number = some ⟨oc_Tree_number, od_Tree_number, .func (PySem.W.fnOf "number" "Tree.number" (defArgs s_Tree_number) (defBody s_Tree_number) (defScope s_Tree_number) .none kV_Tree_number dc_Tree_number pm_Tree_number an_Tree_number cd_Tree_number ct_Tree_number), sl_Tree_number⟩)
    (c_Tree_number : PySem.W.codeIn K cd_Tree_number "Tree.number" = true)
    (k_Tree_number : PySem.W.keepIn K (.ref f_Tree_number) = true)
    (a_Tree_names : PySem.W.findIn K (.ref A_Tree) "names" = some (some (.ref f_Tree_names)))
    (i_Tree_names : PySem.W.isFn K (.ref f_Tree_names) = true)
    (l_Tree_names : K.lookup f_Tree_names = some ⟨oc_Tree_names, od_Tree_names, .func (PySem.W.fnOf "names" "Tree.names" (defArgs s_Tree_names) (defBody s_Tree_names) (defScope s_Tree_names) .none kV_Tree_names dc_Tree_names pm_Tree_names an_Tree_names cd_Tree_names ct_Tree_names), sl_Tree_names⟩)
    (c_Tree_names : PySem.W.codeIn K cd_Tree_names "Tree.names" = true)
    (k_Tree_names : PySem.W.keepIn K (.ref f_Tree_names) = true)
    (a_l_right : PySem.W.nsIn K mainGlobals "_law_right" = some (some (.ref f_l_right)))
    (l_l_right : K.lookup f_l_right = some ⟨oc_l_right, od_l_right, .func (PySem.W.fnOf "_law_right" "_law_right" (defArgs s_l_right) (defBody s_l_right) (defScope s_l_right) .none kV_l_right dc_l_right pm_l_right an_l_right cd_l_right ct_l_right), sl_l_right⟩)
    (c_l_right : PySem.W.codeIn K cd_l_right "_law_right" = true)
    (k_l_right : PySem.W.keepIn K (.ref f_l_right) = true)
    (a_Tree_make : PySem.W.findIn K (.ref A_Tree) "make" = some (some (.ref f_Tree_make)))
    (i_Tree_make : PySem.W.isFn K (.ref f_Tree_make) = true)
    (l_Tree_make : K.lookup f_Tree_make = some ⟨oc_Tree_make, od_Tree_make, .func (PySem.W.fnOf "make" "Tree.make" (defArgs s_Tree_make) (defBody s_Tree_make) (defScope s_Tree_make) .none kV_Tree_make dc_Tree_make pm_Tree_make an_Tree_make cd_Tree_make ct_Tree_make), sl_Tree_make⟩)
    (c_Tree_make : PySem.W.codeIn K cd_Tree_make "Tree.make" = true)
    (k_Tree_make : PySem.W.keepIn K (.ref f_Tree_make) = true)
    (a_Tree_create : PySem.W.findIn K (.ref A_Tree) "create" = some (some (.ref f_Tree_create)))
    (i_Tree_create : PySem.W.isFn K (.ref f_Tree_create) = true)
    (l_Tree_create : K.lookup f_Tree_create = some ⟨oc_Tree_create, od_Tree_create, .func (PySem.W.fnOf "create" "Tree.create" (defArgs s_Tree_create) (defBody s_Tree_create) (defScope s_Tree_create) .none kV_Tree_create dc_Tree_create pm_Tree_create an_Tree_create cd_Tree_create ct_Tree_create), sl_Tree_create⟩)
    (c_Tree_create : PySem.W.codeIn K cd_Tree_create "Tree.create" = true)
    (k_Tree_create : PySem.W.keepIn K (.ref f_Tree_create) = true)
    (a_l_begun : PySem.W.nsIn K mainGlobals "_law_begun" = some (some (.ref f_l_begun)))
    (l_l_begun : K.lookup f_l_begun = some ⟨oc_l_begun, od_l_begun, .func (PySem.W.fnOf "_law_begun" "_law_begun" (defArgs s_l_begun) (defBody s_l_begun) (defScope s_l_begun) .none kV_l_begun dc_l_begun pm_l_begun an_l_begun cd_l_begun ct_l_begun), sl_l_begun⟩)
    (c_l_begun : PySem.W.codeIn K cd_l_begun "_law_begun" = true)
    (k_l_begun : PySem.W.keepIn K (.ref f_l_begun) = true)
    (a_l_names : PySem.W.nsIn K mainGlobals "_law_names" = some (some (.ref f_l_names)))
    (l_l_names : K.lookup f_l_names = some ⟨oc_l_names, od_l_names, .func (PySem.W.fnOf "_law_names" "_law_names" (defArgs s_l_names) (defBody s_l_names) (defScope s_l_names) .none kV_l_names dc_l_names pm_l_names an_l_names cd_l_names ct_l_names), sl_l_names⟩)
    (c_l_names : PySem.W.codeIn K cd_l_names "_law_names" = true)
    (k_l_names : PySem.W.keepIn K (.ref f_l_names) = true)
    (a_l_done : PySem.W.nsIn K mainGlobals "_law_done" = some (some (.ref f_l_done)))
    (l_l_done : K.lookup f_l_done = some ⟨oc_l_done, od_l_done, .func (PySem.W.fnOf "_law_done" "_law_done" (defArgs s_l_done) (defBody s_l_done) (defScope s_l_done) .none kV_l_done dc_l_done pm_l_done an_l_done cd_l_done ct_l_done), sl_l_done⟩)
    (c_l_done : PySem.W.codeIn K cd_l_done "_law_done" = true)
    (k_l_done : PySem.W.keepIn K (.ref f_l_done) = true)
    (a_law : PySem.W.nsIn K mainGlobals "law" = some (some (.ref f_law)))
    (l_law : K.lookup f_law = some ⟨oc_law, od_law, .func (PySem.W.fnOf "law" "law" (defArgs s_law) (defBody s_law) (defScope s_law) .none kV_law dc_law pm_law an_law cd_law ct_law), sl_law⟩)
    (c_law : PySem.W.codeIn K cd_law "law" = true)
    (k_law : PySem.W.keepIn K (.ref f_law) = true) :
    ∃ fd : FuncData, (∀ (s : Shared) (v : Value), BindsTo s fd ⟨[v], []⟩ [("script", v)]) ∧ ∀ base : Heap, K.In base → base.Ns mainGlobals mg → GnOk P w K mg base CX0 8 fa fd ["script"] (sp_law K) := by
  have e := hfa.symm.trans (PySem.W.mg_of X G a_law)
  cases e
  have F_law := fun_mk (st := s_law) l_law c_law k_law
  refine ⟨PySem.W.fnOf "law" "law" (defArgs s_law) (defBody s_law) (defScope s_law) .none kV_law dc_law pm_law an_law cd_law ct_law, fun s v => .of_eq rfl, fun base _ _ => ?_⟩
  have B : Bt mg := ⟨PySem.W.mg_none_of X G z_len, PySem.W.mg_none_of X G z_max, PySem.W.mg_none_of X G z_min, PySem.W.mg_none_of X G z_abs, PySem.W.mg_none_of X G z_divmod, PySem.W.mg_none_of X G z_range, PySem.W.mg_none_of X G z_ord, PySem.W.mg_none_of X G z_isinstance, PySem.W.mg_none_of X G z_int, PySem.W.mg_none_of X G z_str, PySem.W.mg_none_of X G z_bool, PySem.W.mg_none_of X G z_list, PySem.W.mg_none_of X G z_tuple, PySem.W.mg_none_of X G z_dict, PySem.W.mg_none_of X G z_set, PySem.W.mg_none_of X G z_all, PySem.W.mg_none_of X G z_any, PySem.W.mg_none_of X G z_sorted, PySem.W.mg_none_of X G z_enumerate, PySem.W.mg_none_of X G z_zip, PySem.W.mg_none_of X G z_repr, PySem.W.mg_none_of X G z_sum⟩
  have g_MOST_SIGNS := PySem.W.mg_of X G a_MOST_SIGNS
  have g_LETTERS := PySem.W.mg_of X G a_LETTERS
  have g_STROKE := PySem.W.mg_of X G a_STROKE
  have g_MOST_DEEP := PySem.W.mg_of X G a_MOST_DEEP
  have g_MOST_NODES := PySem.W.mg_of X G a_MOST_NODES
  have g_MOST_NAMES := PySem.W.mg_of X G a_MOST_NAMES
  have g_ROOT := PySem.W.mg_of X G a_ROOT
  have BV := PySem.W.mg_none_of X G z_ValueError
  have XC_CleanedError : XCls K mg "CleanedError" A_CleanedError := ⟨PySem.W.mg_of X G xa_CleanedError, ⟨⟨_, _, _, _, _, _, _, _, _, _, _, _, _, _, _, xl_CleanedError, by kernel_rfl⟩, xs_CleanedError, xe_CleanedError, xt_CleanedError, xk_CleanedError⟩, ⟨xg_CleanedError, xh_CleanedError, xe_CleanedError, xd_CleanedError, xc_CleanedError, ig_, it_, xo_CleanedError⟩⟩
  have XC_TreeError : XCls K mg "TreeError" A_TreeError := ⟨PySem.W.mg_of X G xa_TreeError, ⟨⟨_, _, _, _, _, _, _, _, _, _, _, _, _, _, _, xl_TreeError, by kernel_rfl⟩, xs_TreeError, xe_TreeError, xt_TreeError, xk_TreeError⟩, ⟨xg_TreeError, xh_TreeError, xe_TreeError, xd_TreeError, xc_TreeError, ig_, it_, xo_TreeError⟩⟩
  have XC_BadPath : XCls K mg "BadPath" A_BadPath := ⟨PySem.W.mg_of X G xa_BadPath, ⟨⟨_, _, _, _, _, _, _, _, _, _, _, _, _, _, _, xl_BadPath, by kernel_rfl⟩, xs_BadPath, xe_BadPath, xt_BadPath, xk_BadPath⟩, ⟨xg_BadPath, xh_BadPath, xe_BadPath, xd_BadPath, xc_BadPath, ig_, it_, xo_BadPath⟩⟩
  have XC_NotDir : XCls K mg "NotDir" A_NotDir := ⟨PySem.W.mg_of X G xa_NotDir, ⟨⟨_, _, _, _, _, _, _, _, _, _, _, _, _, _, _, xl_NotDir, by kernel_rfl⟩, xs_NotDir, xe_NotDir, xt_NotDir, xk_NotDir⟩, ⟨xg_NotDir, xh_NotDir, xe_NotDir, xd_NotDir, xc_NotDir, ig_, it_, xo_NotDir⟩⟩
  have XC_NoSuch : XCls K mg "NoSuch" A_NoSuch := ⟨PySem.W.mg_of X G xa_NoSuch, ⟨⟨_, _, _, _, _, _, _, _, _, _, _, _, _, _, _, xl_NoSuch, by kernel_rfl⟩, xs_NoSuch, xe_NoSuch, xt_NoSuch, xk_NoSuch⟩, ⟨xg_NoSuch, xh_NoSuch, xe_NoSuch, xd_NoSuch, xc_NoSuch, ig_, it_, xo_NoSuch⟩⟩
  have XC_Exists : XCls K mg "Exists" A_Exists := ⟨PySem.W.mg_of X G xa_Exists, ⟨⟨_, _, _, _, _, _, _, _, _, _, _, _, _, _, _, xl_Exists, by kernel_rfl⟩, xs_Exists, xe_Exists, xt_Exists, xk_Exists⟩, ⟨xg_Exists, xh_Exists, xe_Exists, xd_Exists, xc_Exists, ig_, it_, xo_Exists⟩⟩
  have XC_TooMuch : XCls K mg "TooMuch" A_TooMuch := ⟨PySem.W.mg_of X G xa_TooMuch, ⟨⟨_, _, _, _, _, _, _, _, _, _, _, _, _, _, _, xl_TooMuch, by kernel_rfl⟩, xs_TooMuch, xe_TooMuch, xt_TooMuch, xk_TooMuch⟩, ⟨xg_TooMuch, xh_TooMuch, xe_TooMuch, xd_TooMuch, xc_TooMuch, ig_, it_, xo_TooMuch⟩⟩
  have XC_BadSpot : XCls K mg "BadSpot" A_BadSpot := ⟨PySem.W.mg_of X G xa_BadSpot, ⟨⟨_, _, _, _, _, _, _, _, _, _, _, _, _, _, _, xl_BadSpot, by kernel_rfl⟩, xs_BadSpot, xe_BadSpot, xt_BadSpot, xk_BadSpot⟩, ⟨xg_BadSpot, xh_BadSpot, xe_BadSpot, xd_BadSpot, xc_BadSpot, ig_, it_, xo_BadSpot⟩⟩
  have XC_Fixed : XCls K mg "Fixed" A_Fixed := ⟨PySem.W.mg_of X G xa_Fixed, ⟨⟨_, _, _, _, _, _, _, _, _, _, _, _, _, _, _, xl_Fixed, by kernel_rfl⟩, xs_Fixed, xe_Fixed, xt_Fixed, xk_Fixed⟩, ⟨xg_Fixed, xh_Fixed, xe_Fixed, xd_Fixed, xc_Fixed, ig_, it_, xo_Fixed⟩⟩
  have XC_BadWord : XCls K mg "BadWord" A_BadWord := ⟨PySem.W.mg_of X G xa_BadWord, ⟨⟨_, _, _, _, _, _, _, _, _, _, _, _, _, _, _, xl_BadWord, by kernel_rfl⟩, xs_BadWord, xe_BadWord, xt_BadWord, xk_BadWord⟩, ⟨xg_BadWord, xh_BadWord, xe_BadWord, xd_BadWord, xc_BadWord, ig_, it_, xo_BadWord⟩⟩
  have XC_IsDir : XCls K mg "IsDir" A_IsDir := ⟨PySem.W.mg_of X G xa_IsDir, ⟨⟨_, _, _, _, _, _, _, _, _, _, _, _, _, _, _, xl_IsDir, by kernel_rfl⟩, xs_IsDir, xe_IsDir, xt_IsDir, xk_IsDir⟩, ⟨xg_IsDir, xh_IsDir, xe_IsDir, xd_IsDir, xc_IsDir, ig_, it_, xo_IsDir⟩⟩
  have XC_NotEmpty : XCls K mg "NotEmpty" A_NotEmpty := ⟨PySem.W.mg_of X G xa_NotEmpty, ⟨⟨_, _, _, _, _, _, _, _, _, _, _, _, _, _, _, xl_NotEmpty, by kernel_rfl⟩, xs_NotEmpty, xe_NotEmpty, xt_NotEmpty, xk_NotEmpty⟩, ⟨xg_NotEmpty, xh_NotEmpty, xe_NotEmpty, xd_NotEmpty, xc_NotEmpty, ig_, it_, xo_NotEmpty⟩⟩
  have XC_Inside : XCls K mg "Inside" A_Inside := ⟨PySem.W.mg_of X G xa_Inside, ⟨⟨_, _, _, _, _, _, _, _, _, _, _, _, _, _, _, xl_Inside, by kernel_rfl⟩, xs_Inside, xe_Inside, xt_Inside, xk_Inside⟩, ⟨xg_Inside, xh_Inside, xe_Inside, xd_Inside, xc_Inside, ig_, it_, xo_Inside⟩⟩
  have XC_DiskError : XCls K mg "DiskError" A_DiskError := ⟨PySem.W.mg_of X G xa_DiskError, ⟨⟨_, _, _, _, _, _, _, _, _, _, _, _, _, _, _, xl_DiskError, by kernel_rfl⟩, xs_DiskError, xe_DiskError, xt_DiskError, xk_DiskError⟩, ⟨xg_DiskError, xh_DiskError, xe_DiskError, xd_DiskError, xc_DiskError, ig_, it_, xo_DiskError⟩⟩
  have XO_TreeError : OBase K mg "TreeError" A_TreeError := ⟨XC_TreeError.mgC, xp_TreeError, xr_TreeError, xn_TreeError⟩
  have F_BadPath_init := fun_mk (st := s_BadPath_init) l_BadPath_init c_BadPath_init k_BadPath_init
  have XI_BadPath : ExI P w K mg base "BadPath" A_BadPath ["self", "path"] (sp_exc1 "path" A_BadPath) := ⟨XC_BadPath.mgC, XC_BadPath.ox, f_BadPath_init, _, xf_BadPath, xy_BadPath, ok_BadPath_init F_BadPath_init XC_BadPath XO_TreeError xq_BadPath, F_BadPath_init.binds (ps := ["self", "path"]) fun _ _ _ _ _ _ us hl => match us, hl with | [_, _], _ => rfl⟩
  have F_NotDir_init := fun_mk (st := s_NotDir_init) l_NotDir_init c_NotDir_init k_NotDir_init
  have XI_NotDir : ExI P w K mg base "NotDir" A_NotDir ["self", "path"] (sp_exc1 "path" A_NotDir) := ⟨XC_NotDir.mgC, XC_NotDir.ox, f_NotDir_init, _, xf_NotDir, xy_NotDir, ok_NotDir_init F_NotDir_init XC_NotDir XO_TreeError xq_NotDir, F_NotDir_init.binds (ps := ["self", "path"]) fun _ _ _ _ _ _ us hl => match us, hl with | [_, _], _ => rfl⟩
  have F_NoSuch_init := fun_mk (st := s_NoSuch_init) l_NoSuch_init c_NoSuch_init k_NoSuch_init
  have XI_NoSuch : ExI P w K mg base "NoSuch" A_NoSuch ["self", "path"] (sp_exc1 "path" A_NoSuch) := ⟨XC_NoSuch.mgC, XC_NoSuch.ox, f_NoSuch_init, _, xf_NoSuch, xy_NoSuch, ok_NoSuch_init F_NoSuch_init XC_NoSuch XO_TreeError xq_NoSuch, F_NoSuch_init.binds (ps := ["self", "path"]) fun _ _ _ _ _ _ us hl => match us, hl with | [_, _], _ => rfl⟩
  have F_Exists_init := fun_mk (st := s_Exists_init) l_Exists_init c_Exists_init k_Exists_init
  have XI_Exists : ExI P w K mg base "Exists" A_Exists ["self", "path"] (sp_exc1 "path" A_Exists) := ⟨XC_Exists.mgC, XC_Exists.ox, f_Exists_init, _, xf_Exists, xy_Exists, ok_Exists_init F_Exists_init XC_Exists XO_TreeError xq_Exists, F_Exists_init.binds (ps := ["self", "path"]) fun _ _ _ _ _ _ us hl => match us, hl with | [_, _], _ => rfl⟩
  have F_TooMuch_init := fun_mk (st := s_TooMuch_init) l_TooMuch_init c_TooMuch_init k_TooMuch_init
  have XI_TooMuch : ExI P w K mg base "TooMuch" A_TooMuch ["self", "kind"] (sp_exc1 "kind" A_TooMuch) := ⟨XC_TooMuch.mgC, XC_TooMuch.ox, f_TooMuch_init, _, xf_TooMuch, xy_TooMuch, ok_TooMuch_init F_TooMuch_init XC_TooMuch XO_TreeError xq_TooMuch, F_TooMuch_init.binds (ps := ["self", "kind"]) fun _ _ _ _ _ _ us hl => match us, hl with | [_, _], _ => rfl⟩
  have XF_BadPath_many := hXF_BadPath_many
  have XF_BadPath_kind := hXF_BadPath_kind
  have XF_BadPath_path := xq_BadPath
  have XK_BadPath_BadSpot := kit_own xd_BadSpot xt_BadSpot hXK_BadPath_BadSpot hXS_BadPath
  have XK_BadPath_TooMuch := kit_own xd_TooMuch xt_TooMuch hXK_BadPath_TooMuch hXS_BadPath
  have XK_BadPath_Fixed := kit_own xd_Fixed xt_Fixed hXK_BadPath_Fixed hXS_BadPath
  have XK_BadPath_BadWord := kit_own xd_BadWord xt_BadWord hXK_BadPath_BadWord hXS_BadPath
  have XF_NoSuch_many := hXF_NoSuch_many
  have XF_NoSuch_kind := hXF_NoSuch_kind
  have XF_NoSuch_path := xq_NoSuch
  have XK_NoSuch_BadSpot := kit_own xd_BadSpot xt_BadSpot hXK_NoSuch_BadSpot hXS_NoSuch
  have XK_NoSuch_TooMuch := kit_own xd_TooMuch xt_TooMuch hXK_NoSuch_TooMuch hXS_NoSuch
  have XK_NoSuch_Fixed := kit_own xd_Fixed xt_Fixed hXK_NoSuch_Fixed hXS_NoSuch
  have XK_NoSuch_BadWord := kit_own xd_BadWord xt_BadWord hXK_NoSuch_BadWord hXS_NoSuch
  have XF_NotDir_many := hXF_NotDir_many
  have XF_NotDir_kind := hXF_NotDir_kind
  have XF_NotDir_path := xq_NotDir
  have XK_NotDir_BadSpot := kit_own xd_BadSpot xt_BadSpot hXK_NotDir_BadSpot hXS_NotDir
  have XK_NotDir_TooMuch := kit_own xd_TooMuch xt_TooMuch hXK_NotDir_TooMuch hXS_NotDir
  have XK_NotDir_Fixed := kit_own xd_Fixed xt_Fixed hXK_NotDir_Fixed hXS_NotDir
  have XK_NotDir_BadWord := kit_own xd_BadWord xt_BadWord hXK_NotDir_BadWord hXS_NotDir
  have XF_Exists_many := hXF_Exists_many
  have XF_Exists_kind := hXF_Exists_kind
  have XF_Exists_path := xq_Exists
  have XK_Exists_BadSpot := kit_own xd_BadSpot xt_BadSpot hXK_Exists_BadSpot hXS_Exists
  have XK_Exists_TooMuch := kit_own xd_TooMuch xt_TooMuch hXK_Exists_TooMuch hXS_Exists
  have XK_Exists_Fixed := kit_own xd_Fixed xt_Fixed hXK_Exists_Fixed hXS_Exists
  have XK_Exists_BadWord := kit_own xd_BadWord xt_BadWord hXK_Exists_BadWord hXS_Exists
  have XF_TooMuch_many := hXF_TooMuch_many
  have XF_TooMuch_kind := xq_TooMuch
  have XF_TooMuch_path := hXF_TooMuch_path
  have XK_TooMuch_BadSpot := kit_own xd_BadSpot xt_BadSpot hXK_TooMuch_BadSpot hXS_TooMuch
  have XK_TooMuch_TooMuch := kit_own xd_TooMuch xt_TooMuch hXK_TooMuch_TooMuch hXS_TooMuch
  have XK_TooMuch_Fixed := kit_own xd_Fixed xt_Fixed hXK_TooMuch_Fixed hXS_TooMuch
  have XK_TooMuch_BadWord := kit_own xd_BadWord xt_BadWord hXK_TooMuch_BadWord hXS_TooMuch
  have XK_BadPath_BadPath := kit_own xd_BadPath xt_BadPath hXK_BadPath_BadPath hXS_BadPath
  have XK_BadPath_NoSuch := kit_own xd_NoSuch xt_NoSuch hXK_BadPath_NoSuch hXS_BadPath
  have XK_BadPath_NotDir := kit_own xd_NotDir xt_NotDir hXK_BadPath_NotDir hXS_BadPath
  have XK_BadPath_IsDir := kit_own xd_IsDir xt_IsDir hXK_BadPath_IsDir hXS_BadPath
  have XK_BadPath_Exists := kit_own xd_Exists xt_Exists hXK_BadPath_Exists hXS_BadPath
  have XK_BadPath_NotEmpty := kit_own xd_NotEmpty xt_NotEmpty hXK_BadPath_NotEmpty hXS_BadPath
  have XK_BadPath_Inside := kit_own xd_Inside xt_Inside hXK_BadPath_Inside hXS_BadPath
  have XK_BadPath_ValueError := kit_bi hXK_BadPath_ValueError
  have XK_BadPath_DiskError := kit_own xd_DiskError xt_DiskError hXK_BadPath_DiskError hXS_BadPath
  have XK_NoSuch_BadPath := kit_own xd_BadPath xt_BadPath hXK_NoSuch_BadPath hXS_NoSuch
  have XK_NoSuch_NoSuch := kit_own xd_NoSuch xt_NoSuch hXK_NoSuch_NoSuch hXS_NoSuch
  have XK_NoSuch_NotDir := kit_own xd_NotDir xt_NotDir hXK_NoSuch_NotDir hXS_NoSuch
  have XK_NoSuch_IsDir := kit_own xd_IsDir xt_IsDir hXK_NoSuch_IsDir hXS_NoSuch
  have XK_NoSuch_Exists := kit_own xd_Exists xt_Exists hXK_NoSuch_Exists hXS_NoSuch
  have XK_NoSuch_NotEmpty := kit_own xd_NotEmpty xt_NotEmpty hXK_NoSuch_NotEmpty hXS_NoSuch
  have XK_NoSuch_Inside := kit_own xd_Inside xt_Inside hXK_NoSuch_Inside hXS_NoSuch
  have XK_NoSuch_ValueError := kit_bi hXK_NoSuch_ValueError
  have XK_NoSuch_DiskError := kit_own xd_DiskError xt_DiskError hXK_NoSuch_DiskError hXS_NoSuch
  have XK_NotDir_BadPath := kit_own xd_BadPath xt_BadPath hXK_NotDir_BadPath hXS_NotDir
  have XK_NotDir_NoSuch := kit_own xd_NoSuch xt_NoSuch hXK_NotDir_NoSuch hXS_NotDir
  have XK_NotDir_NotDir := kit_own xd_NotDir xt_NotDir hXK_NotDir_NotDir hXS_NotDir
  have XK_NotDir_IsDir := kit_own xd_IsDir xt_IsDir hXK_NotDir_IsDir hXS_NotDir
  have XK_NotDir_Exists := kit_own xd_Exists xt_Exists hXK_NotDir_Exists hXS_NotDir
  have XK_NotDir_NotEmpty := kit_own xd_NotEmpty xt_NotEmpty hXK_NotDir_NotEmpty hXS_NotDir
  have XK_NotDir_Inside := kit_own xd_Inside xt_Inside hXK_NotDir_Inside hXS_NotDir
  have XK_NotDir_ValueError := kit_bi hXK_NotDir_ValueError
  have XK_NotDir_DiskError := kit_own xd_DiskError xt_DiskError hXK_NotDir_DiskError hXS_NotDir
  have XK_Exists_BadPath := kit_own xd_BadPath xt_BadPath hXK_Exists_BadPath hXS_Exists
  have XK_Exists_NoSuch := kit_own xd_NoSuch xt_NoSuch hXK_Exists_NoSuch hXS_Exists
  have XK_Exists_NotDir := kit_own xd_NotDir xt_NotDir hXK_Exists_NotDir hXS_Exists
  have XK_Exists_IsDir := kit_own xd_IsDir xt_IsDir hXK_Exists_IsDir hXS_Exists
  have XK_Exists_Exists := kit_own xd_Exists xt_Exists hXK_Exists_Exists hXS_Exists
  have XK_Exists_NotEmpty := kit_own xd_NotEmpty xt_NotEmpty hXK_Exists_NotEmpty hXS_Exists
  have XK_Exists_Inside := kit_own xd_Inside xt_Inside hXK_Exists_Inside hXS_Exists
  have XK_Exists_ValueError := kit_bi hXK_Exists_ValueError
  have XK_Exists_DiskError := kit_own xd_DiskError xt_DiskError hXK_Exists_DiskError hXS_Exists
  have XK_TooMuch_BadPath := kit_own xd_BadPath xt_BadPath hXK_TooMuch_BadPath hXS_TooMuch
  have XK_TooMuch_NoSuch := kit_own xd_NoSuch xt_NoSuch hXK_TooMuch_NoSuch hXS_TooMuch
  have XK_TooMuch_NotDir := kit_own xd_NotDir xt_NotDir hXK_TooMuch_NotDir hXS_TooMuch
  have XK_TooMuch_IsDir := kit_own xd_IsDir xt_IsDir hXK_TooMuch_IsDir hXS_TooMuch
  have XK_TooMuch_Exists := kit_own xd_Exists xt_Exists hXK_TooMuch_Exists hXS_TooMuch
  have XK_TooMuch_NotEmpty := kit_own xd_NotEmpty xt_NotEmpty hXK_TooMuch_NotEmpty hXS_TooMuch
  have XK_TooMuch_Inside := kit_own xd_Inside xt_Inside hXK_TooMuch_Inside hXS_TooMuch
  have XK_TooMuch_ValueError := kit_bi hXK_TooMuch_ValueError
  have XK_TooMuch_DiskError := kit_own xd_DiskError xt_DiskError hXK_TooMuch_DiskError hXS_TooMuch
  have XM_BadPath_TreeError := PySem.W.exm_ref xe_TreeError xd_TreeError xt_TreeError hXM_BadPath_TreeError
  have XM_NoSuch_TreeError := PySem.W.exm_ref xe_TreeError xd_TreeError xt_TreeError hXM_NoSuch_TreeError
  have XM_NotDir_TreeError := PySem.W.exm_ref xe_TreeError xd_TreeError xt_TreeError hXM_NotDir_TreeError
  have XM_Exists_TreeError := PySem.W.exm_ref xe_TreeError xd_TreeError xt_TreeError hXM_Exists_TreeError
  have XM_TooMuch_TreeError := PySem.W.exm_ref xe_TreeError xd_TreeError xt_TreeError hXM_TooMuch_TreeError
  have T_Tree : CF K mg "Tree" A_Tree ["inner", "next_one"] := ⟨⟨pg_Tree, hd_Tree, po_Tree, sa_Tree⟩, PySem.W.mg_of X G ac_Tree, (all_cons n_Tree_inner (all_cons n_Tree_next_one (fun _ h => nomatch h))), ic_Tree, ig_, it_, im_Tree⟩
  have C_is_of : Cal P w K mg base CX0 "is_of" 1 ["thing", "signs"] (sp_is_of K) := cal_mk2 X G a_is_of l_is_of c_is_of k_is_of rfl (fun _ _ _ _ _ _ _ _ => rfl) (fun F => ok_is_of F B g_MOST_SIGNS)
  have C_is_name : Cal P w K mg base CX0 "is_name" 2 ["thing"] (sp_is_name K) := cal_mk1 X G a_is_name l_is_name c_is_name k_is_name rfl (fun _ _ _ _ _ _ _ => rfl) (fun F => ok_is_name F B C_is_of g_LETTERS)
  have C_names_of : Cal P w K mg base (L2.CX P w) "names_of" 3 ["path"] (sp_names_of K A_BadPath) := cal_mk1 X G a_names_of l_names_of c_names_of k_names_of rfl (fun _ _ _ _ _ _ _ => rfl) (fun F => ok_names_of F B XI_BadPath C_is_name g_STROKE g_MOST_DEEP)
  have C_path_of : Cal P w K mg base CX0 "path_of" 1 ["names"] (sp_path_of K) := cal_mk1 X G a_path_of l_path_of c_path_of k_path_of rfl (fun _ _ _ _ _ _ _ => rfl) (fun F => ok_path_of F B g_STROKE)
  have F_Tree_init := fun_mk (st := s_Tree_init) l_Tree_init c_Tree_init k_Tree_init
  have I_Tree : Mkr P w K mg base CX0 A_Tree 1 ["self"] (sp_Tree_init A_Tree) := ⟨_, _, ok_Tree_init F_Tree_init B T_Tree g_ROOT, ⟨mk_Tree, a_Tree_init, i_Tree_init, kc_Tree⟩, F_Tree_init.binds (ps := ["self"]) fun _ _ _ _ _ _ us hl => match us, hl with | [_], _ => rfl⟩
  have C_law_pot : Cal P w K mg base CX0 "_law_pot" 1 ["script", "k"] (sp_l_pot_k31 K) := cal_mk2 X G a_l_pot l_l_pot c_l_pot k_l_pot rfl (fun _ _ _ _ _ _ _ _ => rfl) (fun F => ok_l_pot F B)
  have F_Tree_links := fun_mk (st := s_Tree_links) l_Tree_links c_Tree_links k_Tree_links
  have M_Tree_links : Mth P w K mg base CX0 A_Tree "links" 1 ["self", "number"] (sp_Tree_links A_Tree) := ⟨_, _, ok_Tree_links F_Tree_links B T_Tree g_ROOT, ⟨a_Tree_links, i_Tree_links, k_Tree_links⟩, F_Tree_links.binds (ps := ["self", "number"]) fun _ _ _ _ _ _ us hl => match us, hl with | [_, _], _ => rfl⟩
  have F_Tree_node := fun_mk (st := s_Tree_node) l_Tree_node c_Tree_node k_Tree_node
  have M_Tree_node : Mth P w K mg base CX0 A_Tree "node" 2 ["self", "number"] (sp_Tree_node K A_Tree) := ⟨_, _, ok_Tree_node F_Tree_node B T_Tree M_Tree_links, ⟨a_Tree_node, i_Tree_node, k_Tree_node⟩, F_Tree_node.binds (ps := ["self", "number"]) fun _ _ _ _ _ _ us hl => match us, hl with | [_, _], _ => rfl⟩
  have C_law_take : Cal P w K mg base CX0 "_law_take" 1 ["pot", "many"] sp_l_tk := cal_mk2 X G a_l_take l_l_take c_l_take k_l_take rfl (fun _ _ _ _ _ _ _ _ => rfl) (fun F => ok_l_take F B)
  have C_law_name : Cal P w K mg base CX0 "_law_name" 2 ["pot", "some"] (sp_l_name_t K) := cal_mk2 X G a_l_name l_l_name c_l_name k_l_name rfl (fun _ _ _ _ _ _ _ _ => rfl) (fun F => ok_l_name F B C_law_take)
  have F_Tree_is_dir := fun_mk (st := s_Tree_is_dir) l_Tree_is_dir c_Tree_is_dir k_Tree_is_dir
  have M_Tree_is_dir : Mth P w K mg base CX0 A_Tree "is_dir" 1 ["self", "number"] (sp_Tree_is_dir A_Tree) := ⟨_, _, ok_Tree_is_dir F_Tree_is_dir B T_Tree, ⟨a_Tree_is_dir, i_Tree_is_dir, k_Tree_is_dir⟩, F_Tree_is_dir.binds (ps := ["self", "number"]) fun _ _ _ _ _ _ us hl => match us, hl with | [_, _], _ => rfl⟩
  have F_Tree_going := fun_mk (st := s_Tree_going) l_Tree_going c_Tree_going k_Tree_going
  have M_Tree_going : Mth P w K mg base (L2.CX P w) A_Tree "going" 3 ["self", "names"] (sp_Tree_going K A_Tree A_NotDir A_NoSuch) := ⟨_, _, ok_Tree_going F_Tree_going B T_Tree M_Tree_is_dir XI_NotDir XI_NoSuch C_path_of g_ROOT, ⟨a_Tree_going, i_Tree_going, k_Tree_going⟩, F_Tree_going.binds (ps := ["self", "names"]) fun _ _ _ _ _ _ us hl => match us, hl with | [_, _], _ => rfl⟩
  have F_Tree_dir_above := fun_mk (st := s_Tree_dir_above) l_Tree_dir_above c_Tree_dir_above k_Tree_dir_above
  have M_Tree_dir_above : Mth P w K mg base (L2.CX P w) A_Tree "dir_above" 4 ["self", "names"] (sp_Tree_dir_above K A_Tree A_NotDir A_NoSuch) := ⟨_, _, ok_Tree_dir_above F_Tree_dir_above B T_Tree M_Tree_going M_Tree_is_dir XI_NotDir C_path_of, ⟨a_Tree_dir_above, i_Tree_dir_above, k_Tree_dir_above⟩, F_Tree_dir_above.binds (ps := ["self", "names"]) fun _ _ _ _ _ _ us hl => match us, hl with | [_, _], _ => rfl⟩
  have F_Tree_want_free := fun_mk (st := s_Tree_want_free) l_Tree_want_free c_Tree_want_free k_Tree_want_free
  have M_Tree_want_free : Mth P w K mg base (L2.CX P w) A_Tree "want_free" 3 ["self", "where", "names"] (sp_Tree_want_free K A_Tree A_Exists A_TooMuch) := ⟨_, _, ok_Tree_want_free F_Tree_want_free B T_Tree XI_Exists XI_TooMuch C_path_of g_MOST_NAMES, ⟨a_Tree_want_free, i_Tree_want_free, k_Tree_want_free⟩, F_Tree_want_free.binds (ps := ["self", "where", "names"]) fun _ _ _ _ _ _ us hl => match us, hl with | [_, _, _], _ => rfl⟩
  have F_Tree_put_new := fun_mk (st := s_Tree_put_new) l_Tree_put_new c_Tree_put_new k_Tree_put_new
  have M_Tree_put_new : Mth P w K mg base (L2.CX P w) A_Tree "put_new" 5 ["self", "path", "inside"] (sp_Tree_put_new K A_Tree A_BadPath A_NotDir A_NoSuch A_Exists A_TooMuch) := ⟨_, _, ok_Tree_put_new F_Tree_put_new B T_Tree M_Tree_dir_above M_Tree_want_free XI_Exists XI_TooMuch C_names_of g_MOST_NODES, ⟨a_Tree_put_new, i_Tree_put_new, k_Tree_put_new⟩, F_Tree_put_new.binds (ps := ["self", "path", "inside"]) fun _ _ _ _ _ _ us hl => match us, hl with | [_, _, _], _ => rfl⟩
  have F_Tree_paths := fun_mk (st := s_Tree_paths) l_Tree_paths c_Tree_paths k_Tree_paths
  have M_Tree_paths_kw0 : MthK P w K mg base (L2.CX P w) A_Tree "paths" 4 ["self", "under"] 0 [] (fun us ws => [us.getD 0 V.non, (V.str "/")]) (sp_Tree_paths K A_Tree A_BadPath A_NotDir A_NoSuch) := ⟨_, _, (fun us ws => [us.getD 0 Value.none, (Value.str "/" tK_Tree_paths)]), ok_Tree_paths F_Tree_paths B T_Tree M_Tree_going M_Tree_is_dir C_names_of C_path_of, ⟨a_Tree_paths, i_Tree_paths, k_Tree_paths⟩, kb_kwd (q := ("under", Value.str "/" tK_Tree_paths)) lK_Tree_paths (fun us ws => [us.getD 0 Value.none, (Value.str "/" tK_Tree_paths)]) (fun us ws => [us.getD 0 V.non, (V.str "/")]) (fun r1 r2 => (.cons (vget r1 0) (.cons ⟨_, rfl⟩ .nil))) (fun us ws h1 h2 => match us, ws, h1, h2 with | [_], [], _, _ => ⟨_, _, _, _, _, _, rfl, rfl, rfl⟩)⟩
  have C_law_path : Cal P w K mg base CX0 "_law_path" 1 ["names"] (sp_l_path_m K) := cal_mk1 X G a_l_path l_l_path c_l_path k_l_path rfl (fun _ _ _ _ _ _ _ => rfl) (fun F => ok_l_path F B)
  have C_law_free : Cal P w K mg base CX0 "_law_free" 2 ["model", "names"] (sp_l_free_m K) := cal_mk2 X G a_l_free l_l_free c_l_free k_l_free rfl (fun _ _ _ _ _ _ _ _ => rfl) (fun F => ok_l_free F B C_law_path)
  have C_law_node : Cal P w K mg base CX0 "_law_node" 1 ["model", "names"] (sp_l_node_k32 K) := cal_mk2 X G a_l_node l_l_node c_l_node k_l_node rfl (fun _ _ _ _ _ _ _ _ => rfl) (fun F => ok_l_node F B)
  have F_l_field := fun_mk (st := s_l_field) l_l_field c_l_field k_l_field
  have E_l_field : CalE P w K mg base "_law_field" 1 ["e"] (sp_l_field A_BadPath A_NoSuch A_NotDir A_Exists A_TooMuch) := ⟨f_l_field, _, ok_l_field F_l_field B XC_BadSpot XC_TooMuch XC_Fixed XC_BadWord XC_BadPath XF_BadPath_many XF_BadPath_kind XF_BadPath_path XK_BadPath_BadSpot XK_BadPath_TooMuch XK_BadPath_Fixed XK_BadPath_BadWord XC_NoSuch XF_NoSuch_many XF_NoSuch_kind XF_NoSuch_path XK_NoSuch_BadSpot XK_NoSuch_TooMuch XK_NoSuch_Fixed XK_NoSuch_BadWord XC_NotDir XF_NotDir_many XF_NotDir_kind XF_NotDir_path XK_NotDir_BadSpot XK_NotDir_TooMuch XK_NotDir_Fixed XK_NotDir_BadWord XC_Exists XF_Exists_many XF_Exists_kind XF_Exists_path XK_Exists_BadSpot XK_Exists_TooMuch XK_Exists_Fixed XK_Exists_BadWord XF_TooMuch_many XF_TooMuch_kind XF_TooMuch_path XK_TooMuch_BadSpot XK_TooMuch_TooMuch XK_TooMuch_Fixed XK_TooMuch_BadWord, PySem.W.mg_of X G a_l_field, k_l_field, F_l_field.binds (fun _ _ _ _ _ _ us hl => match us, hl with | [_], _ => rfl)⟩
  have F_l_class := fun_mk (st := s_l_class) l_l_class c_l_class k_l_class
  have E_l_class : CalE P w K mg base "_law_class" 1 ["e"] (sp_l_class A_BadPath A_NoSuch A_NotDir A_Exists A_TooMuch) := ⟨f_l_class, _, ok_l_class F_l_class B XC_BadPath XC_NoSuch XC_NotDir XC_IsDir XC_Exists XC_NotEmpty XC_Inside XC_Fixed XC_BadWord XC_BadSpot XC_TooMuch XC_DiskError XK_BadPath_BadPath XK_BadPath_NoSuch XK_BadPath_NotDir XK_BadPath_IsDir XK_BadPath_Exists XK_BadPath_NotEmpty XK_BadPath_Inside XK_BadPath_Fixed XK_BadPath_BadWord XK_BadPath_BadSpot XK_BadPath_TooMuch XK_BadPath_ValueError XK_BadPath_DiskError XK_NoSuch_BadPath XK_NoSuch_NoSuch XK_NoSuch_NotDir XK_NoSuch_IsDir XK_NoSuch_Exists XK_NoSuch_NotEmpty XK_NoSuch_Inside XK_NoSuch_Fixed XK_NoSuch_BadWord XK_NoSuch_BadSpot XK_NoSuch_TooMuch XK_NoSuch_ValueError XK_NoSuch_DiskError XK_NotDir_BadPath XK_NotDir_NoSuch XK_NotDir_NotDir XK_NotDir_IsDir XK_NotDir_Exists XK_NotDir_NotEmpty XK_NotDir_Inside XK_NotDir_Fixed XK_NotDir_BadWord XK_NotDir_BadSpot XK_NotDir_TooMuch XK_NotDir_ValueError XK_NotDir_DiskError XK_Exists_BadPath XK_Exists_NoSuch XK_Exists_NotDir XK_Exists_IsDir XK_Exists_Exists XK_Exists_NotEmpty XK_Exists_Inside XK_Exists_Fixed XK_Exists_BadWord XK_Exists_BadSpot XK_Exists_TooMuch XK_Exists_ValueError XK_Exists_DiskError XK_TooMuch_BadPath XK_TooMuch_NoSuch XK_TooMuch_NotDir XK_TooMuch_IsDir XK_TooMuch_Exists XK_TooMuch_NotEmpty XK_TooMuch_Inside XK_TooMuch_Fixed XK_TooMuch_BadWord XK_TooMuch_BadSpot XK_TooMuch_TooMuch XK_TooMuch_ValueError XK_TooMuch_DiskError BV, PySem.W.mg_of X G a_l_class, k_l_class, F_l_class.binds (fun _ _ _ _ _ _ us hl => match us, hl with | [_], _ => rfl)⟩
  have C_law_going : Cal P w K mg base CX0 "_law_going" 2 ["model", "names"] (sp_l_going_m K) := cal_mk2 X G a_l_going l_l_going c_l_going k_l_going rfl (fun _ _ _ _ _ _ _ _ => rfl) (fun F => ok_l_going F B C_law_path)
  have C_law_above : Cal P w K mg base CX0 "_law_above" 3 ["model", "names"] (sp_l_above_m K) := cal_mk2 X G a_l_above l_l_above c_l_above k_l_above rfl (fun _ _ _ _ _ _ _ _ => rfl) (fun F => ok_l_above F B C_law_going C_law_path)
  have C_law_put_due : Cal P w K mg base CX0 "_law_put_due" 4 ["model", "word", "names"] (sp_l_put_due K) := cal_mk3 X G a_l_put_due l_l_put_due c_l_put_due k_l_put_due rfl (fun _ _ _ _ _ _ _ _ _ => rfl) (fun F => ok_l_put_due F B C_law_above C_law_free C_law_path)
  have F_Tree_numbers := fun_mk (st := s_Tree_numbers) l_Tree_numbers c_Tree_numbers k_Tree_numbers
  have M_Tree_numbers : Mth P w K mg base CX0 A_Tree "numbers" 1 ["self"] (sp_Tree_numbers A_Tree) := ⟨_, _, ok_Tree_numbers F_Tree_numbers B T_Tree, ⟨a_Tree_numbers, i_Tree_numbers, k_Tree_numbers⟩, F_Tree_numbers.binds (ps := ["self"]) fun _ _ _ _ _ _ us hl => match us, hl with | [_], _ => rfl⟩
  have F_Tree_next_number := fun_mk (st := s_Tree_next_number) l_Tree_next_number c_Tree_next_number k_Tree_next_number
  have M_Tree_next_number : Mth P w K mg base CX0 A_Tree "next_number" 1 ["self"] (sp_Tree_next_number A_Tree) := ⟨_, _, ok_Tree_next_number F_Tree_next_number B T_Tree, ⟨a_Tree_next_number, i_Tree_next_number, k_Tree_next_number⟩, F_Tree_next_number.binds (ps := ["self"]) fun _ _ _ _ _ _ us hl => match us, hl with | [_], _ => rfl⟩
  have F_Tree_number := fun_mk (st := s_Tree_number) l_Tree_number c_Tree_number k_Tree_number
  have M_Tree_number : Mth P w K mg base (L2.CX P w) A_Tree "number" 4 ["self", "path"] (sp_Tree_number K A_Tree A_BadPath A_NotDir A_NoSuch) := ⟨_, _, ok_Tree_number F_Tree_number B T_Tree M_Tree_going C_names_of, ⟨a_Tree_number, i_Tree_number, k_Tree_number⟩, F_Tree_number.binds (ps := ["self", "path"]) fun _ _ _ _ _ _ us hl => match us, hl with | [_, _], _ => rfl⟩
  have F_Tree_names := fun_mk (st := s_Tree_names) l_Tree_names c_Tree_names k_Tree_names
  have M_Tree_names : Mth P w K mg base (L2.CX P w) A_Tree "names" 5 ["self", "path"] (sp_Tree_names K A_Tree A_BadPath A_NotDir A_NoSuch) := ⟨_, _, ok_Tree_names F_Tree_names B T_Tree M_Tree_number M_Tree_is_dir XI_NotDir, ⟨a_Tree_names, i_Tree_names, k_Tree_names⟩, F_Tree_names.binds (ps := ["self", "path"]) fun _ _ _ _ _ _ us hl => match us, hl with | [_, _], _ => rfl⟩
  have C_law_right : Cal P w K mg base CX0 "_law_right" 6 ["tree", "model", "names"] (sp_l_right_k32 K A_Tree) := cal_mk3 X G a_l_right l_l_right c_l_right k_l_right rfl (fun _ _ _ _ _ _ _ _ _ => rfl) (fun F => ok_l_right F B T_Tree M_Tree_numbers M_Tree_next_number M_Tree_paths_kw0 M_Tree_node M_Tree_number M_Tree_names C_law_node C_law_path)
  have F_Tree_make := fun_mk (st := s_Tree_make) l_Tree_make c_Tree_make k_Tree_make
  have M_Tree_make : Mth P w K mg base (L2.CX P w) A_Tree "make" 6 ["self", "path"] (sp_Tree_make K A_Tree A_BadPath A_NotDir A_NoSuch A_Exists A_TooMuch) := ⟨_, _, ok_Tree_make F_Tree_make B T_Tree M_Tree_put_new, ⟨a_Tree_make, i_Tree_make, k_Tree_make⟩, F_Tree_make.binds (ps := ["self", "path"]) fun _ _ _ _ _ _ us hl => match us, hl with | [_, _], _ => rfl⟩
  have F_Tree_create := fun_mk (st := s_Tree_create) l_Tree_create c_Tree_create k_Tree_create
  have M_Tree_create : Mth P w K mg base (L2.CX P w) A_Tree "create" 6 ["self", "path"] (sp_Tree_create K A_Tree A_BadPath A_NotDir A_NoSuch A_Exists A_TooMuch) := ⟨_, _, ok_Tree_create F_Tree_create B T_Tree M_Tree_put_new, ⟨a_Tree_create, i_Tree_create, k_Tree_create⟩, F_Tree_create.binds (ps := ["self", "path"]) fun _ _ _ _ _ _ us hl => match us, hl with | [_, _], _ => rfl⟩
  have C_law_begun : Cal P w K mg base CX0 "_law_begun" 7 ["tree", "model", "many"] (sp_l_begun_k32 K A_Tree) := cal_mk3 X G a_l_begun l_l_begun c_l_begun k_l_begun rfl (fun _ _ _ _ _ _ _ _ _ => rfl) (fun F => ok_l_begun F B T_Tree M_Tree_make M_Tree_create)
  have C_law_names : Cal P w K mg base CX0 "_law_names" 3 ["pot", "model"] (sp_l_names_m K) := cal_mk2 X G a_l_names l_l_names c_l_names k_l_names rfl (fun _ _ _ _ _ _ _ _ => rfl) (fun F => ok_l_names F B C_law_take C_law_name)
  have C_law_done : Cal P w K mg base CX0 "_law_done" 7 ["tree", "word", "path"] (sp_l_done K A_Tree A_BadPath A_NoSuch A_NotDir A_Exists A_TooMuch) := cal_mk3 X G a_l_done l_l_done c_l_done k_l_done rfl (fun _ _ _ _ _ _ _ _ _ => rfl) (fun F => ok_l_done F B T_Tree M_Tree_make M_Tree_create XC_TreeError XM_BadPath_TreeError XM_NoSuch_TreeError XM_NotDir_TreeError XM_Exists_TreeError XM_TooMuch_TreeError E_l_class E_l_field)
  exact ok_law F_law B T_Tree I_Tree C_law_pot C_law_begun C_law_names C_law_put_due C_law_take C_law_done C_law_right C_law_path
theorem walk {l : PySem.W.OpenLaw} {q : Program} {loose : List Str} {XP : (Str → Option Value) → Heap → Prop} {YP : World → Heap → Prop} {d : DefRec} {K : Params → PySem.W.Frag} (hn : l.most = some 63) (hdf : d.params.defaults = [])
    (hY : ∀ (w : World) (h : Heap), YP w h → (K w.params).In h)
    (F : ∀ (w : World) (mg : Str → Option Value) (fa : Addr) (h : Heap), (K w.params).In h → h.Ns mainGlobals mg → mg d.name = some (.ref fa) →
      ∃ fd : FuncData, (∀ (s : Shared) (u : Value), BindsTo s fd ⟨[u], []⟩ [("script", u)]) ∧ ∀ base : Heap, (K w.params).In base → base.Ns mainGlobals mg → GnOk l.prog w (K w.params) mg base CX0 8 fa fd ["script"] (sp_law (K w.params))) :
    PySem.W.WalkO q loose XP YP l.row.toRowW d [] (fun f vs => PySem.call f vs) :=
  gn_walk (n := 63) (k := 8) (x := "script") (CX := fun _ => CX0) (sp := sp_law) hn (by decide) hdf ⟨rfl, by decide, by decide⟩ hY F (fun _ _ a ns hl hS => ⟨a, ns, rfl, hS, hl, fun _ => rfl⟩) fun _ _ _ _ _ z => z
end Cl
open PySem PySem.W PyProof.Rows
set_option maxRecDepth 100000 in
set_option maxHeartbeats 0 in
theorem PySem.Challenge.cw_cleanedlog_k32_make_and_create_holds : PySem.Challenge.rw_cleanedlog_k32_make_and_create.Holds := by
  w_on; o_law; k_head; (case hw => w_witness2)
  k_fill
  refine Cl.walk (l := PySem.Challenge.rw_cleanedlog_k32_make_and_create) rfl rfl (fun w h Y => PySem.W.kIn_of Y) ?F
  case F =>
    intro w mg fa h KX G hmg
    refine' Cl.all_mk KX G hmg ?z_len ?z_max ?z_min ?z_abs ?z_divmod ?z_range ?z_ord ?z_isinstance ?z_int ?z_str ?z_bool ?z_list ?z_tuple ?z_dict ?z_set ?z_all ?z_any ?z_sorted ?z_enumerate ?z_zip ?z_repr ?z_sum ?a_MOST_SIGNS ?a_LETTERS ?a_STROKE ?a_MOST_DEEP ?a_MOST_NODES ?a_MOST_NAMES ?a_ROOT ?z_ValueError ?xa_CleanedError ?xl_CleanedError ?xs_CleanedError ?xg_CleanedError ?xh_CleanedError ?xe_CleanedError ?xt_CleanedError ?xk_CleanedError ?xd_CleanedError ?xc_CleanedError ?xo_CleanedError ?xa_TreeError ?xl_TreeError ?xs_TreeError ?xg_TreeError ?xh_TreeError ?xe_TreeError ?xt_TreeError ?xk_TreeError ?xd_TreeError ?xc_TreeError ?xo_TreeError ?xp_TreeError ?xr_TreeError ?xn_TreeError ?xa_BadPath ?xl_BadPath ?xs_BadPath ?xg_BadPath ?xh_BadPath ?xe_BadPath ?xt_BadPath ?xk_BadPath ?xd_BadPath ?xc_BadPath ?xo_BadPath ?xa_NotDir ?xl_NotDir ?xs_NotDir ?xg_NotDir ?xh_NotDir ?xe_NotDir ?xt_NotDir ?xk_NotDir ?xd_NotDir ?xc_NotDir ?xo_NotDir ?xa_NoSuch ?xl_NoSuch ?xs_NoSuch ?xg_NoSuch ?xh_NoSuch ?xe_NoSuch ?xt_NoSuch ?xk_NoSuch ?xd_NoSuch ?xc_NoSuch ?xo_NoSuch ?xa_Exists ?xl_Exists ?xs_Exists ?xg_Exists ?xh_Exists ?xe_Exists ?xt_Exists ?xk_Exists ?xd_Exists ?xc_Exists ?xo_Exists ?xa_TooMuch ?xl_TooMuch ?xs_TooMuch ?xg_TooMuch ?xh_TooMuch ?xe_TooMuch ?xt_TooMuch ?xk_TooMuch ?xd_TooMuch ?xc_TooMuch ?xo_TooMuch ?xa_BadSpot ?xl_BadSpot ?xs_BadSpot ?xg_BadSpot ?xh_BadSpot ?xe_BadSpot ?xt_BadSpot ?xk_BadSpot ?xd_BadSpot ?xc_BadSpot ?xo_BadSpot ?xa_Fixed ?xl_Fixed ?xs_Fixed ?xg_Fixed ?xh_Fixed ?xe_Fixed ?xt_Fixed ?xk_Fixed ?xd_Fixed ?xc_Fixed ?xo_Fixed ?xa_BadWord ?xl_BadWord ?xs_BadWord ?xg_BadWord ?xh_BadWord ?xe_BadWord ?xt_BadWord ?xk_BadWord ?xd_BadWord ?xc_BadWord ?xo_BadWord ?xa_IsDir ?xl_IsDir ?xs_IsDir ?xg_IsDir ?xh_IsDir ?xe_IsDir ?xt_IsDir ?xk_IsDir ?xd_IsDir ?xc_IsDir ?xo_IsDir ?xa_NotEmpty ?xl_NotEmpty ?xs_NotEmpty ?xg_NotEmpty ?xh_NotEmpty ?xe_NotEmpty ?xt_NotEmpty ?xk_NotEmpty ?xd_NotEmpty ?xc_NotEmpty ?xo_NotEmpty ?xa_Inside ?xl_Inside ?xs_Inside ?xg_Inside ?xh_Inside ?xe_Inside ?xt_Inside ?xk_Inside ?xd_Inside ?xc_Inside ?xo_Inside ?xa_DiskError ?xl_DiskError ?xs_DiskError ?xg_DiskError ?xh_DiskError ?xe_DiskError ?xt_DiskError ?xk_DiskError ?xd_DiskError ?xc_DiskError ?xo_DiskError ?xf_BadPath ?xy_BadPath ?l_BadPath_init ?c_BadPath_init ?k_BadPath_init ?xq_BadPath ?xf_NotDir ?xy_NotDir ?l_NotDir_init ?c_NotDir_init ?k_NotDir_init ?xq_NotDir ?xf_NoSuch ?xy_NoSuch ?l_NoSuch_init ?c_NoSuch_init ?k_NoSuch_init ?xq_NoSuch ?xf_Exists ?xy_Exists ?l_Exists_init ?c_Exists_init ?k_Exists_init ?xq_Exists ?xf_TooMuch ?xy_TooMuch ?l_TooMuch_init ?c_TooMuch_init ?k_TooMuch_init ?xq_TooMuch ?hXF_BadPath_many ?hXF_BadPath_kind ?hXK_BadPath_BadSpot ?hXS_BadPath ?hXK_BadPath_TooMuch ?hXK_BadPath_Fixed ?hXK_BadPath_BadWord ?hXF_NoSuch_many ?hXF_NoSuch_kind ?hXK_NoSuch_BadSpot ?hXS_NoSuch ?hXK_NoSuch_TooMuch ?hXK_NoSuch_Fixed ?hXK_NoSuch_BadWord ?hXF_NotDir_many ?hXF_NotDir_kind ?hXK_NotDir_BadSpot ?hXS_NotDir ?hXK_NotDir_TooMuch ?hXK_NotDir_Fixed ?hXK_NotDir_BadWord ?hXF_Exists_many ?hXF_Exists_kind ?hXK_Exists_BadSpot ?hXS_Exists ?hXK_Exists_TooMuch ?hXK_Exists_Fixed ?hXK_Exists_BadWord ?hXF_TooMuch_many ?hXF_TooMuch_path ?hXK_TooMuch_BadSpot ?hXS_TooMuch ?hXK_TooMuch_TooMuch ?hXK_TooMuch_Fixed ?hXK_TooMuch_BadWord ?hXK_BadPath_BadPath ?hXK_BadPath_NoSuch ?hXK_BadPath_NotDir ?hXK_BadPath_IsDir ?hXK_BadPath_Exists ?hXK_BadPath_NotEmpty ?hXK_BadPath_Inside ?hXK_BadPath_ValueError ?hXK_BadPath_DiskError ?hXK_NoSuch_BadPath ?hXK_NoSuch_NoSuch ?hXK_NoSuch_NotDir ?hXK_NoSuch_IsDir ?hXK_NoSuch_Exists ?hXK_NoSuch_NotEmpty ?hXK_NoSuch_Inside ?hXK_NoSuch_ValueError ?hXK_NoSuch_DiskError ?hXK_NotDir_BadPath ?hXK_NotDir_NoSuch ?hXK_NotDir_NotDir ?hXK_NotDir_IsDir ?hXK_NotDir_Exists ?hXK_NotDir_NotEmpty ?hXK_NotDir_Inside ?hXK_NotDir_ValueError ?hXK_NotDir_DiskError ?hXK_Exists_BadPath ?hXK_Exists_NoSuch ?hXK_Exists_NotDir ?hXK_Exists_IsDir ?hXK_Exists_Exists ?hXK_Exists_NotEmpty ?hXK_Exists_Inside ?hXK_Exists_ValueError ?hXK_Exists_DiskError ?hXK_TooMuch_BadPath ?hXK_TooMuch_NoSuch ?hXK_TooMuch_NotDir ?hXK_TooMuch_IsDir ?hXK_TooMuch_Exists ?hXK_TooMuch_NotEmpty ?hXK_TooMuch_Inside ?hXK_TooMuch_ValueError ?hXK_TooMuch_DiskError ?hXM_BadPath_TreeError ?hXM_NoSuch_TreeError ?hXM_NotDir_TreeError ?hXM_Exists_TreeError ?hXM_TooMuch_TreeError ?ig_ ?it_ ?ac_Tree ?pg_Tree ?hd_Tree ?po_Tree ?sa_Tree ?mk_Tree ?kc_Tree ?ic_Tree ?im_Tree ?n_Tree_inner ?n_Tree_next_one ?a_is_of ?l_is_of ?c_is_of ?k_is_of ?a_is_name ?l_is_name ?c_is_name ?k_is_name ?a_names_of ?l_names_of ?c_names_of ?k_names_of ?a_path_of ?l_path_of ?c_path_of ?k_path_of ?a_Tree_init ?i_Tree_init ?l_Tree_init ?c_Tree_init ?k_Tree_init ?a_l_pot ?l_l_pot ?c_l_pot ?k_l_pot ?a_Tree_links ?i_Tree_links ?l_Tree_links ?c_Tree_links ?k_Tree_links ?a_Tree_node ?i_Tree_node ?l_Tree_node ?c_Tree_node ?k_Tree_node ?a_l_take ?l_l_take ?c_l_take ?k_l_take ?a_l_name ?l_l_name ?c_l_name ?k_l_name ?a_Tree_is_dir ?i_Tree_is_dir ?l_Tree_is_dir ?c_Tree_is_dir ?k_Tree_is_dir ?a_Tree_going ?i_Tree_going ?l_Tree_going ?c_Tree_going ?k_Tree_going ?a_Tree_dir_above ?i_Tree_dir_above ?l_Tree_dir_above ?c_Tree_dir_above ?k_Tree_dir_above ?a_Tree_want_free ?i_Tree_want_free ?l_Tree_want_free ?c_Tree_want_free ?k_Tree_want_free ?a_Tree_put_new ?i_Tree_put_new ?l_Tree_put_new ?c_Tree_put_new ?k_Tree_put_new ?a_Tree_paths ?i_Tree_paths ?l_Tree_paths ?c_Tree_paths ?k_Tree_paths ?lK_Tree_paths ?a_l_path ?l_l_path ?c_l_path ?k_l_path ?a_l_free ?l_l_free ?c_l_free ?k_l_free ?a_l_node ?l_l_node ?c_l_node ?k_l_node ?a_l_field ?l_l_field ?c_l_field ?k_l_field ?a_l_class ?l_l_class ?c_l_class ?k_l_class ?a_l_going ?l_l_going ?c_l_going ?k_l_going ?a_l_above ?l_l_above ?c_l_above ?k_l_above ?a_l_put_due ?l_l_put_due ?c_l_put_due ?k_l_put_due ?a_Tree_numbers ?i_Tree_numbers ?l_Tree_numbers ?c_Tree_numbers ?k_Tree_numbers ?a_Tree_next_number ?i_Tree_next_number ?l_Tree_next_number ?c_Tree_next_number ?k_Tree_next_number ?a_Tree_number ?i_Tree_number ?l_Tree_number ?c_Tree_number ?k_Tree_number ?a_Tree_names ?i_Tree_names ?l_Tree_names ?c_Tree_names ?k_Tree_names ?a_l_right ?l_l_right ?c_l_right ?k_l_right ?a_Tree_make ?i_Tree_make ?l_Tree_make ?c_Tree_make ?k_Tree_make ?a_Tree_create ?i_Tree_create ?l_Tree_create ?c_Tree_create ?k_Tree_create ?a_l_begun ?l_l_begun ?c_l_begun ?k_l_begun ?a_l_names ?l_l_names ?c_l_names ?k_l_names ?a_l_done ?l_l_done ?c_l_done ?k_l_done ?a_law ?l_law ?c_law ?k_law
    (case z_len => k_is); (case z_max => k_is); (case z_min => k_is); (case z_abs => k_is); (case z_divmod => k_is); (case z_range => k_is); (case z_ord => k_is); (case z_isinstance => k_is); (case z_int => k_is); (case z_str => k_is); (case z_bool => k_is); (case z_list => k_is); (case z_tuple => k_is); (case z_dict => k_is); (case z_set => k_is); (case z_all => k_is); (case z_any => k_is); (case z_sorted => k_is); (case z_enumerate => k_is); (case z_zip => k_is); (case z_repr => k_is); (case z_sum => k_is); (case a_MOST_SIGNS => k_is); (case a_LETTERS => k_is); (case a_STROKE => k_is); (case a_MOST_DEEP => k_is); (case a_MOST_NODES => k_is); (case a_MOST_NAMES => k_is); (case a_ROOT => k_is); (case z_ValueError => k_is); (case xa_CleanedError => k_is); (case xl_CleanedError => k_is); (case xs_CleanedError => k_is); (case xg_CleanedError => k_is); (case xh_CleanedError => k_is); (case xe_CleanedError => k_is); (case xt_CleanedError => k_is); (case xk_CleanedError => k_is); (case xd_CleanedError => k_is); (case xc_CleanedError => k_is); (case xo_CleanedError => k_is); (case xa_TreeError => k_is); (case xl_TreeError => k_is); (case xs_TreeError => k_is); (case xg_TreeError => k_is); (case xh_TreeError => k_is); (case xe_TreeError => k_is); (case xt_TreeError => k_is); (case xk_TreeError => k_is); (case xd_TreeError => k_is); (case xc_TreeError => k_is); (case xo_TreeError => k_is); (case xp_TreeError => k_is); (case xr_TreeError => k_is); (case xn_TreeError => k_is); (case xa_BadPath => k_is); (case xl_BadPath => k_is); (case xs_BadPath => k_is); (case xg_BadPath => k_is); (case xh_BadPath => k_is); (case xe_BadPath => k_is); (case xt_BadPath => k_is); (case xk_BadPath => k_is); (case xd_BadPath => k_is); (case xc_BadPath => k_is); (case xo_BadPath => k_is); (case xa_NotDir => k_is); (case xl_NotDir => k_is); (case xs_NotDir => k_is); (case xg_NotDir => k_is); (case xh_NotDir => k_is); (case xe_NotDir => k_is); (case xt_NotDir => k_is); (case xk_NotDir => k_is); (case xd_NotDir => k_is); (case xc_NotDir => k_is); (case xo_NotDir => k_is); (case xa_NoSuch => k_is); (case xl_NoSuch => k_is); (case xs_NoSuch => k_is); (case xg_NoSuch => k_is); (case xh_NoSuch => k_is); (case xe_NoSuch => k_is); (case xt_NoSuch => k_is); (case xk_NoSuch => k_is); (case xd_NoSuch => k_is); (case xc_NoSuch => k_is); (case xo_NoSuch => k_is); (case xa_Exists => k_is); (case xl_Exists => k_is); (case xs_Exists => k_is); (case xg_Exists => k_is); (case xh_Exists => k_is); (case xe_Exists => k_is); (case xt_Exists => k_is); (case xk_Exists => k_is); (case xd_Exists => k_is); (case xc_Exists => k_is); (case xo_Exists => k_is); (case xa_TooMuch => k_is); (case xl_TooMuch => k_is); (case xs_TooMuch => k_is); (case xg_TooMuch => k_is); (case xh_TooMuch => k_is); (case xe_TooMuch => k_is); (case xt_TooMuch => k_is); (case xk_TooMuch => k_is); (case xd_TooMuch => k_is); (case xc_TooMuch => k_is); (case xo_TooMuch => k_is); (case xa_BadSpot => k_is); (case xl_BadSpot => k_is); (case xs_BadSpot => k_is); (case xg_BadSpot => k_is); (case xh_BadSpot => k_is); (case xe_BadSpot => k_is); (case xt_BadSpot => k_is); (case xk_BadSpot => k_is); (case xd_BadSpot => k_is); (case xc_BadSpot => k_is); (case xo_BadSpot => k_is); (case xa_Fixed => k_is); (case xl_Fixed => k_is); (case xs_Fixed => k_is); (case xg_Fixed => k_is); (case xh_Fixed => k_is); (case xe_Fixed => k_is); (case xt_Fixed => k_is); (case xk_Fixed => k_is); (case xd_Fixed => k_is); (case xc_Fixed => k_is); (case xo_Fixed => k_is); (case xa_BadWord => k_is); (case xl_BadWord => k_is); (case xs_BadWord => k_is); (case xg_BadWord => k_is); (case xh_BadWord => k_is); (case xe_BadWord => k_is); (case xt_BadWord => k_is); (case xk_BadWord => k_is); (case xd_BadWord => k_is); (case xc_BadWord => k_is); (case xo_BadWord => k_is); (case xa_IsDir => k_is); (case xl_IsDir => k_is); (case xs_IsDir => k_is); (case xg_IsDir => k_is); (case xh_IsDir => k_is); (case xe_IsDir => k_is); (case xt_IsDir => k_is); (case xk_IsDir => k_is); (case xd_IsDir => k_is); (case xc_IsDir => k_is); (case xo_IsDir => k_is); (case xa_NotEmpty => k_is); (case xl_NotEmpty => k_is); (case xs_NotEmpty => k_is); (case xg_NotEmpty => k_is); (case xh_NotEmpty => k_is); (case xe_NotEmpty => k_is); (case xt_NotEmpty => k_is); (case xk_NotEmpty => k_is); (case xd_NotEmpty => k_is); (case xc_NotEmpty => k_is); (case xo_NotEmpty => k_is); (case xa_Inside => k_is); (case xl_Inside => k_is); (case xs_Inside => k_is); (case xg_Inside => k_is); (case xh_Inside => k_is); (case xe_Inside => k_is); (case xt_Inside => k_is); (case xk_Inside => k_is); (case xd_Inside => k_is); (case xc_Inside => k_is); (case xo_Inside => k_is); (case xa_DiskError => k_is); (case xl_DiskError => k_is); (case xs_DiskError => k_is); (case xg_DiskError => k_is); (case xh_DiskError => k_is); (case xe_DiskError => k_is); (case xt_DiskError => k_is); (case xk_DiskError => k_is); (case xd_DiskError => k_is); (case xc_DiskError => k_is); (case xo_DiskError => k_is); (case xf_BadPath => k_is); (case xy_BadPath => k_is); (case l_BadPath_init => k_is); (case c_BadPath_init => k_is); (case k_BadPath_init => k_is); (case xq_BadPath => k_is); (case xf_NotDir => k_is); (case xy_NotDir => k_is); (case l_NotDir_init => k_is); (case c_NotDir_init => k_is); (case k_NotDir_init => k_is); (case xq_NotDir => k_is); (case xf_NoSuch => k_is); (case xy_NoSuch => k_is); (case l_NoSuch_init => k_is); (case c_NoSuch_init => k_is); (case k_NoSuch_init => k_is); (case xq_NoSuch => k_is); (case xf_Exists => k_is); (case xy_Exists => k_is); (case l_Exists_init => k_is); (case c_Exists_init => k_is); (case k_Exists_init => k_is); (case xq_Exists => k_is); (case xf_TooMuch => k_is); (case xy_TooMuch => k_is); (case l_TooMuch_init => k_is); (case c_TooMuch_init => k_is); (case k_TooMuch_init => k_is); (case xq_TooMuch => k_is); (case hXF_BadPath_many => k_is); (case hXF_BadPath_kind => k_is); (case hXK_BadPath_BadSpot => k_is); (case hXS_BadPath => k_is); (case hXK_BadPath_TooMuch => k_is); (case hXK_BadPath_Fixed => k_is); (case hXK_BadPath_BadWord => k_is); (case hXF_NoSuch_many => k_is); (case hXF_NoSuch_kind => k_is); (case hXK_NoSuch_BadSpot => k_is); (case hXS_NoSuch => k_is); (case hXK_NoSuch_TooMuch => k_is); (case hXK_NoSuch_Fixed => k_is); (case hXK_NoSuch_BadWord => k_is); (case hXF_NotDir_many => k_is); (case hXF_NotDir_kind => k_is); (case hXK_NotDir_BadSpot => k_is); (case hXS_NotDir => k_is); (case hXK_NotDir_TooMuch => k_is); (case hXK_NotDir_Fixed => k_is); (case hXK_NotDir_BadWord => k_is); (case hXF_Exists_many => k_is); (case hXF_Exists_kind => k_is); (case hXK_Exists_BadSpot => k_is); (case hXS_Exists => k_is); (case hXK_Exists_TooMuch => k_is); (case hXK_Exists_Fixed => k_is); (case hXK_Exists_BadWord => k_is); (case hXF_TooMuch_many => k_is); (case hXF_TooMuch_path => k_is); (case hXK_TooMuch_BadSpot => k_is); (case hXS_TooMuch => k_is); (case hXK_TooMuch_TooMuch => k_is); (case hXK_TooMuch_Fixed => k_is); (case hXK_TooMuch_BadWord => k_is); (case hXK_BadPath_BadPath => k_is); (case hXK_BadPath_NoSuch => k_is); (case hXK_BadPath_NotDir => k_is); (case hXK_BadPath_IsDir => k_is); (case hXK_BadPath_Exists => k_is); (case hXK_BadPath_NotEmpty => k_is); (case hXK_BadPath_Inside => k_is); (case hXK_BadPath_ValueError => k_is); (case hXK_BadPath_DiskError => k_is); (case hXK_NoSuch_BadPath => k_is); (case hXK_NoSuch_NoSuch => k_is); (case hXK_NoSuch_NotDir => k_is); (case hXK_NoSuch_IsDir => k_is); (case hXK_NoSuch_Exists => k_is); (case hXK_NoSuch_NotEmpty => k_is); (case hXK_NoSuch_Inside => k_is); (case hXK_NoSuch_ValueError => k_is); (case hXK_NoSuch_DiskError => k_is); (case hXK_NotDir_BadPath => k_is); (case hXK_NotDir_NoSuch => k_is); (case hXK_NotDir_NotDir => k_is); (case hXK_NotDir_IsDir => k_is); (case hXK_NotDir_Exists => k_is); (case hXK_NotDir_NotEmpty => k_is); (case hXK_NotDir_Inside => k_is); (case hXK_NotDir_ValueError => k_is); (case hXK_NotDir_DiskError => k_is); (case hXK_Exists_BadPath => k_is); (case hXK_Exists_NoSuch => k_is); (case hXK_Exists_NotDir => k_is); (case hXK_Exists_IsDir => k_is); (case hXK_Exists_Exists => k_is); (case hXK_Exists_NotEmpty => k_is); (case hXK_Exists_Inside => k_is); (case hXK_Exists_ValueError => k_is); (case hXK_Exists_DiskError => k_is); (case hXK_TooMuch_BadPath => k_is); (case hXK_TooMuch_NoSuch => k_is); (case hXK_TooMuch_NotDir => k_is); (case hXK_TooMuch_IsDir => k_is); (case hXK_TooMuch_Exists => k_is); (case hXK_TooMuch_NotEmpty => k_is); (case hXK_TooMuch_Inside => k_is); (case hXK_TooMuch_ValueError => k_is); (case hXK_TooMuch_DiskError => k_is); (case hXM_BadPath_TreeError => k_is); (case hXM_NoSuch_TreeError => k_is); (case hXM_NotDir_TreeError => k_is); (case hXM_Exists_TreeError => k_is); (case hXM_TooMuch_TreeError => k_is); (case ig_ => k_is); (case it_ => k_is); (case ac_Tree => k_is); (case pg_Tree => k_is); (case hd_Tree => k_is); (case po_Tree => k_is); (case sa_Tree => k_is); (case mk_Tree => k_is); (case kc_Tree => k_is); (case ic_Tree => k_is); (case im_Tree => k_is); (case n_Tree_inner => k_is); (case n_Tree_next_one => k_is); (case a_is_of => k_is); (case l_is_of => k_is); (case c_is_of => k_is); (case k_is_of => k_is); (case a_is_name => k_is); (case l_is_name => k_is); (case c_is_name => k_is); (case k_is_name => k_is); (case a_names_of => k_is); (case l_names_of => k_is); (case c_names_of => k_is); (case k_names_of => k_is); (case a_path_of => k_is); (case l_path_of => k_is); (case c_path_of => k_is); (case k_path_of => k_is); (case a_Tree_init => k_is); (case i_Tree_init => k_is); (case l_Tree_init => k_is); (case c_Tree_init => k_is); (case k_Tree_init => k_is); (case a_l_pot => k_is); (case l_l_pot => k_is); (case c_l_pot => k_is); (case k_l_pot => k_is); (case a_Tree_links => k_is); (case i_Tree_links => k_is); (case l_Tree_links => k_is); (case c_Tree_links => k_is); (case k_Tree_links => k_is); (case a_Tree_node => k_is); (case i_Tree_node => k_is); (case l_Tree_node => k_is); (case c_Tree_node => k_is); (case k_Tree_node => k_is); (case a_l_take => k_is); (case l_l_take => k_is); (case c_l_take => k_is); (case k_l_take => k_is); (case a_l_name => k_is); (case l_l_name => k_is); (case c_l_name => k_is); (case k_l_name => k_is); (case a_Tree_is_dir => k_is); (case i_Tree_is_dir => k_is); (case l_Tree_is_dir => k_is); (case c_Tree_is_dir => k_is); (case k_Tree_is_dir => k_is); (case a_Tree_going => k_is); (case i_Tree_going => k_is); (case l_Tree_going => k_is); (case c_Tree_going => k_is); (case k_Tree_going => k_is); (case a_Tree_dir_above => k_is); (case i_Tree_dir_above => k_is); (case l_Tree_dir_above => k_is); (case c_Tree_dir_above => k_is); (case k_Tree_dir_above => k_is); (case a_Tree_want_free => k_is); (case i_Tree_want_free => k_is); (case l_Tree_want_free => k_is); (case c_Tree_want_free => k_is); (case k_Tree_want_free => k_is); (case a_Tree_put_new => k_is); (case i_Tree_put_new => k_is); (case l_Tree_put_new => k_is); (case c_Tree_put_new => k_is); (case k_Tree_put_new => k_is); (case a_Tree_paths => k_is); (case i_Tree_paths => k_is); (case l_Tree_paths => k_is); (case c_Tree_paths => k_is); (case k_Tree_paths => k_is); (case lK_Tree_paths => k_is); (case a_l_path => k_is); (case l_l_path => k_is); (case c_l_path => k_is); (case k_l_path => k_is); (case a_l_free => k_is); (case l_l_free => k_is); (case c_l_free => k_is); (case k_l_free => k_is); (case a_l_node => k_is); (case l_l_node => k_is); (case c_l_node => k_is); (case k_l_node => k_is); (case a_l_field => k_is); (case l_l_field => k_is); (case c_l_field => k_is); (case k_l_field => k_is); (case a_l_class => k_is); (case l_l_class => k_is); (case c_l_class => k_is); (case k_l_class => k_is); (case a_l_going => k_is); (case l_l_going => k_is); (case c_l_going => k_is); (case k_l_going => k_is); (case a_l_above => k_is); (case l_l_above => k_is); (case c_l_above => k_is); (case k_l_above => k_is); (case a_l_put_due => k_is); (case l_l_put_due => k_is); (case c_l_put_due => k_is); (case k_l_put_due => k_is); (case a_Tree_numbers => k_is); (case i_Tree_numbers => k_is); (case l_Tree_numbers => k_is); (case c_Tree_numbers => k_is); (case k_Tree_numbers => k_is); (case a_Tree_next_number => k_is); (case i_Tree_next_number => k_is); (case l_Tree_next_number => k_is); (case c_Tree_next_number => k_is); (case k_Tree_next_number => k_is); (case a_Tree_number => k_is); (case i_Tree_number => k_is); (case l_Tree_number => k_is); (case c_Tree_number => k_is); (case k_Tree_number => k_is); (case a_Tree_names => k_is); (case i_Tree_names => k_is); (case l_Tree_names => k_is); (case c_Tree_names => k_is); (case k_Tree_names => k_is); (case a_l_right => k_is); (case l_l_right => k_is); (case c_l_right => k_is); (case k_l_right => k_is); (case a_Tree_make => k_is); (case i_Tree_make => k_is); (case l_Tree_make => k_is); (case c_Tree_make => k_is); (case k_Tree_make => k_is); (case a_Tree_create => k_is); (case i_Tree_create => k_is); (case l_Tree_create => k_is); (case c_Tree_create => k_is); (case k_Tree_create => k_is); (case a_l_begun => k_is); (case l_l_begun => k_is); (case c_l_begun => k_is); (case k_l_begun => k_is); (case a_l_names => k_is); (case l_l_names => k_is); (case c_l_names => k_is); (case k_l_names => k_is); (case a_l_done => k_is); (case l_l_done => k_is); (case c_l_done => k_is); (case k_l_done => k_is); (case a_law => k_is); (case l_law => k_is); (case c_law => k_is); (case k_law => k_is)
