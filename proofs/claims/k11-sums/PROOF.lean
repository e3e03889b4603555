import PyProof.Rows.All
import Wide.All
import OpenK.AllK
import Wide.FinOn
import HandS.ForMost
import HandS.ForExc
import HandS.WideBits
import HandS.StrMore
import HandS.Flow
import HandS.IsInst
import HandS.Defaults
import PySem.Challenge.RW_cleanedlog_k11_sums
set_option Elab.async false
set_option linter.all false
set_option maxRecDepth 100000
set_option maxHeartbeats 4000000
/-! ### Cl0: words used by all laws: built-ins, calls of own defs by one bundle, heaps that grow, drawing from a pot -/
namespace Cl
open PySem L2

/-- the built-ins that the top leaves as they are -/
structure Bt (mg : Str → Option Value) : Prop where
  len : mg "len" = none
  max : mg "max" = none
  min : mg "min" = none
  abs : mg "abs" = none
  divmod : mg "divmod" = none
  range : mg "range" = none
  ord : mg "ord" = none
  isinstance : mg "isinstance" = none
  int : mg "int" = none
  str : mg "str" = none
  bool : mg "bool" = none
  list : mg "list" = none
  tuple : mg "tuple" = none
  dict : mg "dict" = none
  set : mg "set" = none
  all : mg "all" = none
  any : mg "any" = none
  sorted : mg "sorted" = none
  enumerate : mg "enumerate" = none
  zip : mg "zip" = none
  repr : mg "repr" = none
  sum : mg "sum" = none

/-- a def of the text that keeps a promise, and how it is called -/
structure Cal (P : Program) (w : World) (K : PySem.W.Frag) (mg : Str → Option Value) (base : Heap) (CX : CXT) (x : Str) (k : Nat) (ps : List Str) (sp : Sp) : Prop where
  ex : ∃ (f : Addr) (fd : FuncData), FnOk P w K mg base CX k f fd ps sp ∧ mg x = some (.ref f) ∧ PySem.W.keepIn K (.ref f) = true ∧ Binds K fd ps []
section
variable {X : Cx} {CX : CXT} {k : Nat} {ps : List Str} {sp : Sp} {E : XK} {x : Str} {p pos : Pos} {e : Expr} {es : List Expr} {t : TA}
theorem pe_cal (C : Cal X.prog X.w X.K X.mg X.base CX x k ps sp) (hr : Room k X.A) (hg : Gl X x) (hx : Passes CX X E) (ha : PA X (e :: es) t) (hdb : (x == ("__debug__" : Str)) = false := by decide)
    (he : starEach (e :: es) X.env = (false, eval e X.env) :: starEach es X.env := by rfl) (hpl : (backTo pos (starEach es X.env)).any (·.1) = false := by rfl) :
    PE X (.Call (.Name x p) (e :: es) [] pos) (tCall sp [] E t) := by
  obtain ⟨f, fd, F, hm, hk, hb⟩ := C.ex
  exact pe_call F hr hg hm hk hb .nil hx ha hdb he hpl
theorem pe_cal0 (C : Cal X.prog X.w X.K X.mg X.base CX x k ps sp) (hr : Room k X.A) (hg : Gl X x) (hx : Passes CX X E) (hdb : (x == ("__debug__" : Str)) = false := by decide) :
    PE X (.Call (.Name x p) [] [] pos) (tCall sp [] E tNil) := by
  obtain ⟨f, fd, F, hm, hk, hb⟩ := C.ex
  exact pe_call0 F hr hg hm hk hb .nil hx hdb
end
theorem cal_mk {P : Program} {w : World} {K : PySem.W.Frag} {mg : Str → Option Value} {base h : Heap} {CX : CXT} {x qual : Str} {k : Nat} {ps : List Str} {sp : Sp} {st : Stmt} {f : Addr} {oc : Value} {od an : Option Addr} {osl : Array (Option Value)} {kV doc pm cdv ct : Value}
    (KX : K.In h) (G : h.Ns mainGlobals mg) (a : PySem.W.nsIn K mainGlobals x = some (some (.ref f)))
    (l : K.lookup f = some ⟨oc, od, .func (PySem.W.fnOf x qual (defArgs st) (defBody st) (defScope st) .none kV doc pm an cdv ct), osl⟩) (c : PySem.W.codeIn K cdv qual = true) (kp : PySem.W.keepIn K (.ref f) = true)
    (hb : ∀ (kV doc pm : Value) (an : Option Addr) (cdv ct : Value) (us : List Value), us.length = ps.length → bindArgs (PySem.W.fnOf x qual (defArgs st) (defBody st) (defScope st) .none kV doc pm an cdv ct) ⟨us, []⟩ = pure (ps.zip us))
    (ok : ∀ {f : Addr} {fd : FuncData}, Fun K x qual st f fd → FnOk P w K mg base CX k f fd ps sp) : Cal P w K mg base CX x k ps sp :=
  have F := fun_mk (st := st) l c kp
  ⟨f, _, ok F, PySem.W.mg_of KX G a, kp, F.binds hb⟩

/-- the same, called with keywords -/
structure CalK (P : Program) (w : World) (K : PySem.W.Frag) (mg : Str → Option Value) (base : Heap) (CX : CXT) (x : Str) (k : Nat) (ps : List Str) (n : Nat) (ks : List Str) (gV : List V → List V → List V) (sp : Sp) : Prop where
  ex : ∃ (f : Addr) (fd : FuncData) (g : List Value → List Value → List Value), FnOk P w K mg base CX k f fd ps sp ∧ mg x = some (.ref f) ∧ PySem.W.keepIn K (.ref f) = true ∧ KBn K fd ps n ks g gV
section
variable {X : Cx} {CX : CXT} {k n : Nat} {ps ks : List Str} {sp : Sp} {E : XK} {x : Str} {p pos : Pos} {e : Expr} {es : List Expr} {kws : List Keyword} {t tk : TA} {gV : List V → List V → List V}
theorem pe_calk (C : CalK X.prog X.w X.K X.mg X.base CX x k ps n ks gV sp) (hr : Room k X.A) (hg : Gl X x) (hx : Passes CX X E) (ha : PA X (e :: es) t) (hkw : PK X kws tk)
    (hall : (backToKw pos (keywordEach kws X.env)).all (·.1.isSome) = true := by rfl) (hks : (backToKw pos (keywordEach kws X.env)).filterMap (·.1) = ks := by rfl)
    (hdb : (x == ("__debug__" : Str)) = false := by decide) (he : starEach (e :: es) X.env = (false, eval e X.env) :: starEach es X.env := by rfl)
    (hpl : ((backTo pos (starEach (e :: es) X.env)).any (·.1) || (backToKw pos (keywordEach kws X.env)).any (·.1.isNone)) = false := by rfl) :
    PE X (.Call (.Name x p) (e :: es) kws pos) (tCallN n ks.length sp gV E t tk) := by
  obtain ⟨f, fd, g, F, hm, hk, hb⟩ := C.ex
  exact pe_callN F hr hg hm hk hb hx ha hkw hall hks hdb he hpl
theorem pe_calk0 (C : CalK X.prog X.w X.K X.mg X.base CX x k ps n ks gV sp) (hr : Room k X.A) (hg : Gl X x) (hx : Passes CX X E) (hkw : PK X kws tk)
    (hall : (backToKw pos (keywordEach kws X.env)).all (·.1.isSome) = true := by rfl) (hks : (backToKw pos (keywordEach kws X.env)).filterMap (·.1) = ks := by rfl)
    (hdb : (x == ("__debug__" : Str)) = false := by decide)
    (hpl : ((backTo pos (starEach [] X.env)).any (·.1) || (backToKw pos (keywordEach kws X.env)).any (·.1.isNone)) = false := by rfl) :
    PE X (.Call (.Name x p) [] kws pos) (tCallN n ks.length sp gV E tNil tk) := by
  obtain ⟨f, fd, g, F, hm, hk, hb⟩ := C.ex
  refine ⟨fun pins s σ H Q I h => ?_⟩
  refine wpAny_Call_Name_kw (ld_glob I hg hm ?_ hdb)
  refine PySem.W.callWith_KW0 (h₀ := X.base) I.ok.mod.kin hk hall ?_ hpl
  refine thn (hkw.run pos pins s σ H _ I h) fun ws s2 ⟨zs, H2, I2, rz, l1, l2, q2⟩ => ⟨I2.kIn, ?_⟩
  rw [hks]
  exact run_fnN (us := []) (vs := []) F hr hb hx I2 .nil rz l1 l2 q2
end
theorem calk_mk {P : Program} {w : World} {K : PySem.W.Frag} {mg : Str → Option Value} {base h : Heap} {CX : CXT} {x qual : Str} {k n : Nat} {ps ks : List Str} {sp : Sp} {st : Stmt} {f : Addr} {oc : Value} {od an : Option Addr} {osl : Array (Option Value)} {kV doc pm cdv ct : Value}
    {g : List Value → List Value → List Value} {gV : List V → List V → List V}
    (KX : K.In h) (G : h.Ns mainGlobals mg) (a : PySem.W.nsIn K mainGlobals x = some (some (.ref f)))
    (l : K.lookup f = some ⟨oc, od, .func (PySem.W.fnOf x qual (defArgs st) (defBody st) (defScope st) .none kV doc pm an cdv ct), osl⟩) (c : PySem.W.codeIn K cdv qual = true) (kp : PySem.W.keepIn K (.ref f) = true)
    (hb : ∀ (kV doc pm : Value) (an : Option Addr) (cdv ct : Value) (us ws : List Value), us.length = n → ws.length = ks.length → bindArgs (PySem.W.fnOf x qual (defArgs st) (defBody st) (defScope st) .none kV doc pm an cdv ct) ⟨us, ks.zip ws⟩ = pure (ps.zip (g us ws)))
    (hrel : ∀ {vs : List V} {us : List Value} {zs : List V} {ws : List Value}, Vals vs us → Vals zs ws → Vals (gV vs zs) (g us ws))
    (ok : ∀ {f : Addr} {fd : FuncData}, Fun K x qual st f fd → FnOk P w K mg base CX k f fd ps sp) : CalK P w K mg base CX x k ps n ks gV sp :=
  have F := fun_mk (st := st) l c kp
  ⟨f, _, g, ok F, PySem.W.mg_of KX G a, kp, ⟨fun s us ws _ l1 l2 => BindsTo.of_eq (hb _ _ _ _ _ _ us ws l1 l2), hrel⟩⟩

/-- all but the object at p stays -/
def SameBut (p : Addr) (H H' : Hp) : Prop := ∀ b o, H b = some o → b ≠ p → H' b = some o
theorem SameBut.of {p : Addr} {H H' : Hp} (h : Same H H') : SameBut p H H' := fun b o e _ => h b o e
theorem Same.new {H : Hp} {p : Addr} {o : HO} (h : H p = none) : Same H (upd H p o) := fun b u e => by
  rw [upd_ne (ne_of_none e h)]; exact e
theorem SameBut.upd {p : Addr} {H H' : Hp} {o : HO} (h : SameBut p H H') : SameBut p H (L2.upd H' p o) := fun b u e n => by
  rw [upd_ne n]; exact h b u e n
theorem SameBut.refl (p : Addr) (H : Hp) : SameBut p H H := fun _ _ e _ => e
theorem SameBut.trans {p : Addr} {H H1 H2 : Hp} (a : SameBut p H H1) (b : SameBut p H1 H2) : SameBut p H H2 := fun c o e n => b c o (a c o e n) n
theorem SameBut.same {p : Addr} {H H1 H2 : Hp} (a : SameBut p H H1) (b : Same H1 H2) : SameBut p H H2 := fun c o e n => b c o (a c o e n)
theorem SameBut.at {p : Addr} {H H' : Hp} (a : SameBut p H H') {b : Addr} {o : HO} (e : H b = some o) (n : b ≠ p) : H' b = some o := a b o e n
theorem SameBut.free {p : Addr} {H H' : Hp} (a : SameBut p H H') {q : Addr} (h : H' q = none) (n : q ≠ p) : H q = none := by
  cases e : H q with
  | none => rfl
  | some o => rw [a q o e n] at h; cases h
/-- q is new behind H: what then changes it, changes nothing of H -/
theorem SameBut.newer {p q : Addr} {H H1 : Hp} {o : HO} (a : SameBut p H H1) (h : H q = none) : SameBut p H (L2.upd H1 q o) := fun c u e n => by
  rw [upd_ne (ne_of_none e h)]; exact a c u e n
theorem Same.newer {q : Addr} {H H1 : Hp} {o : HO} (a : Same H H1) (h : H q = none) : Same H (L2.upd H1 q o) := fun c u e => by
  rw [upd_ne (ne_of_none e h)]; exact a c u e

/-! ### a list, a tuple, read -/
theorem SameBut.seq {K : PySem.W.Frag} {p : Addr} {H H' : Hp} {a : Addr} {xs : List V} (e : SameBut p H H') (h : SqL K H a xs) (n : a ≠ p) : SqL K H' a xs := by
  rcases h with (h | ⟨o, h⟩) | h
  · exact .inl (.inl (e _ _ h n))
  · exact .inl (.inr ⟨o, e _ _ h n⟩)
  · exact .inr h
/-- p is newer than H -/
theorem Same.but {p : Addr} {H H1 H2 : Hp} (s : Same H H1) (b : SameBut p H1 H2) (n : H p = none) : Same H H2 := fun c o e => b c o (s c o e) (ne_of_none e n)

theorem iteF' {b : Bool} {A B : Prop} (e : b = false) (h : B) : if b = true then A else B := by
  rw [e]
  exact iteF h
theorem iteT' {b : Bool} {A B : Prop} (e : b = true) (h : A) : if b = true then A else B := by
  rw [e]
  exact iteT h
/-! ### isinstance -/
theorem kSS {K : PySem.W.Frag} : PySem.W.kitOne K (.type "str") (.type "str") = some true := kit_ty (by decide +kernel)
/-! ### loops -/
theorem for_str {z : Str} {g : TG} {tb : TS} {D : Ends} {σ : St} {H : Hp} (Pv : Nat → St → Hp → Prop) (h0 : Pv 0 σ H)
    (hs : ∀ i c σ H, z.cps.toList[i]? = some c → Pv i σ H → g (.str ⟨#[c]⟩) σ H fun σ2 H2 => tb { D with nx := Pv (i + 1), ct := Pv (i + 1), bk := D.nx } σ2 H2) (hd : ∀ σ H, Pv z.cps.size σ H → D.nx σ H) :
    ∃ W : Nat → Nat → St → Hp → Prop, (∃ m, W 0 m σ H) ∧ ∀ i m σ H, W i m σ H →
      ((Its z).stop i H ∧ D.nx σ H) ∨ ((Its z).go i H ∧ ∃ N : St → Hp → Prop, (∀ σ' H', N σ' H' → ∃ m', m' < m ∧ W (i + 1) m' σ' H') ∧ ∀ x H', (Its z).yld i H x H' → g x σ H' fun σ2 H2 => tb { D with nx := N, ct := N, bk := D.nx } σ2 H2) := by
  refine ⟨fun i m σ H => m = z.cps.size - i ∧ i ≤ z.cps.size ∧ Pv i σ H, ⟨z.cps.size, by simp, Nat.zero_le _, h0⟩, ?_⟩
  rintro i m σ H ⟨rfl, hi, p⟩
  by_cases hlt : i < z.cps.size
  · refine .inr ⟨hlt, Pv (i + 1), fun σ' H' p' => ⟨z.cps.size - (i + 1), by omega, rfl, hlt, p'⟩, fun x H' y => ?_⟩
    obtain ⟨rfl, c, hc, rfl⟩ := y
    exact hs i c σ H' (by rw [Array.getElem?_toList]; exact hc) p
  · have : i = z.cps.size := by omega
    subst this
    exact .inl ⟨Nat.le_refl _, hd σ H p⟩

/-! ### drawing -/
def potA (c : Int) : Int := if c - 10 ^ 18 > 0 then c - 10 ^ 18 else 0
def potB (c : Int) : Int := ((if c < 0 then -c else c) % 2147483563 + 1) ^ 2 % 2147483549 + 17
def tkD (a b m : Int) : Int := if 0 < a then a % m else ((b * 48271 + 12347) % 2147483647) * ((b * 48271 + 12347) % 2147483647) % 2147483579 / 13 % m
def tkA (a b m : Int) : Int := if 0 < a then a / m else a
def tkB (a b m : Int) : Int := if 0 < a then b else (b * 48271 + 12347) % 2147483647
theorem tkD_nn {a b m : Int} (h : 0 < m) : 0 ≤ tkD a b m := by
  unfold tkD
  split <;> exact Int.emod_nonneg _ (by omega)
theorem tkD_lt {a b m : Int} (h : 0 < m) : tkD a b m < m := by
  unfold tkD
  split <;> exact Int.emod_lt_of_pos _ h
def PotOk (b : Int) : Prop := 0 ≤ b ∧ b < 4294967296
theorem tkB_ok {a b m : Int} (h : PotOk b) : PotOk (tkB a b m) := by
  unfold tkB PotOk at *
  split <;> omega
theorem potB_ok (c : Int) : PotOk (potB c) := by
  unfold potB PotOk
  omega
/-- a pot stands at p -/
def Pot (H : Hp) (p : Addr) (a b : Int) : Prop := H p = some (.lst [.int a, .int b]) ∧ PotOk b
def sp_l_pot : Sp := fun vs H Q _ => ∃ c : Int, vs = [.int c] ∧ ∀ p H', Same H H' → H p = none → Pot H' p (potA c) (potB c) → Q (.ref p) H'
def sp_l_take : Sp := fun vs H Q _ => ∃ (p : Addr) (a b m : Int), vs = [.ref p, .int m] ∧ Pot H p a b ∧ 0 < m ∧ m.natAbs.log2 < 9000 ∧
  ∀ H', SameBut p H H' → Pot H' p (tkA a b m) (tkB a b m) → Q (.int (tkD a b m)) H'
theorem atI_mem {α : Type} {xs : List α} {i : Int} (h0 : 0 ≤ i) (h1 : i < (xs.length : Int)) : ∃ v, atI xs i = some v ∧ v ∈ xs := by
  obtain ⟨j, rfl⟩ : ∃ j : Nat, i = (j : Int) := ⟨i.toNat, by omega⟩
  have hj : j < xs.length := by omega
  exact ⟨xs[j], atI_nat (by simp [hj]), List.getElem_mem hj⟩
theorem sz_of {n : Nat} (h : n ≤ 100000) : n ≤ sizeLine := Nat.le_trans h (by decide)
theorem sz_lt {n : Nat} (h : n < 100000) : n < sizeLine := Nat.lt_of_lt_of_le h (by decide)
theorem sum_ones {ys : List Str} (h : ∀ y ∈ ys, y.length = 1) : (ys.map (·.length)).sum = ys.length := by
  induction ys with
  | nil => rfl
  | cons y r ih =>
    rw [List.map_cons, List.sum_cons, ih fun z hz => h z (List.mem_cons_of_mem _ hz), h y List.mem_cons_self, List.length_cons]
    omega
theorem len_append (a b : Str) : (a ++ b).length = a.length + b.length := by
  show (a.cps ++ b.cps).size = _
  rw [Array.size_append]
  rfl
theorem len_toList (a : Str) : a.cps.toList.length = a.length := by
  rw [Array.length_toList]
  rfl
theorem Pot.ne {H : Hp} {p q : Addr} {a b : Int} (h : Pot H p a b) (n : H q = none) : q ≠ p := fun e => by
  subst e
  rw [h.1] at n
  cases n
theorem Pot.new {H : Hp} {p q : Addr} {a b : Int} {o : HO} (h : Pot H p a b) (n : H q = none) : Pot (L2.upd H q o) p a b := ⟨by rw [upd_ne (Ne.symm (h.ne n))]; exact h.1, h.2⟩
theorem Pot.other {H : Hp} {p q : Addr} {a b : Int} {o : HO} (h : Pot H p a b) (n : q ≠ p) : Pot (L2.upd H q o) p a b := ⟨by rw [upd_ne (Ne.symm n)]; exact h.1, h.2⟩
theorem SameBut.new {p q : Addr} {H H' : Hp} {o : HO} (h : SameBut p H H') (n : H' q = none) : SameBut p H (L2.upd H' q o) := h.same (Same.new n)
/-- a draw below m, small -/
theorem draw3 {m : Int} (h0 : 0 < m) (h : m < 2 ^ 60) : 0 < m ∧ m.natAbs.log2 < 9000 := ⟨h0, Nat.lt_of_lt_of_le (PySem.Flt.log2_lt_of (k := 60) (by decide) (by omega)) (by decide)⟩
/-- a cell of the script, or 0: some int -/
def sp_l_at (K : PySem.W.Frag) : Sp := fun vs H Q _ => ∃ (a : Addr) (ns : List Int) (i : Nat), vs = [.ref a, .int i] ∧ SqL K H a (ns.map V.int) ∧ ∀ c : Int, Q (.int c) H
/-- the law's own promise -/
def sp_law (K : PySem.W.Frag) : Sp := fun vs H Q _ => ∃ (a : Addr) (ns : List Int), vs = [.ref a] ∧ SqL K H a (ns.map V.int) ∧ ns.length ≤ 63 ∧ ∀ H', Q (.bl true) H'
theorem log2_small {m : Int} (h0 : 0 < m) (h : m < 2 ^ 60) : m.natAbs.log2 < 9000 :=
  Nat.lt_of_lt_of_le (PySem.Flt.log2_lt_of (k := 60) (by decide) (by omega)) (by decide)
end Cl

/-! ### ClHex: numbers in base sixteen, sums of texts -/
namespace Cl
open PySem L2
theorem rel_s (x : Str) (t : Tok) : RelV (.str x) (.str x t) := ⟨t, rfl⟩
theorem rel_i (x : Int) (t : Tok) : RelV (.int x) (.int x t) := ⟨t, rfl⟩
def hd (k : Nat) : Nat := if k < 10 then 48 + k else 87 + k
def hxR : Nat → Nat → List Nat → List Nat
  | 0, _, f => f
  | k + 1, r, f => if r = 0 then f else hxR k (r / 16) (hd (r % 16) :: f)
def hexL (n : Nat) : List Nat := hxR n (n / 16) [hd (n % 16)]
def sOf (l : List Nat) : Str := ⟨l.toArray⟩
def hexS (n : Nat) : Str := sOf (hexL n)
theorem hxR_fuel : ∀ (k r : Nat) (f : List Nat), r ≤ k → ∀ j, r ≤ j → hxR k r f = hxR j r f
  | 0, r, f, h, j, hj => by
    have : r = 0 := by omega
    subst this
    cases j with
    | zero => rfl
    | succ j => rfl
  | k + 1, r, f, h, j, hj => by
    cases j with
    | zero =>
      have : r = 0 := by omega
      subst this
      rfl
    | succ j =>
      show (if r = 0 then f else hxR k (r / 16) (hd (r % 16) :: f)) = if r = 0 then f else hxR j (r / 16) (hd (r % 16) :: f)
      split
      · rfl
      · exact hxR_fuel k (r / 16) _ (by omega) j (by omega)
theorem hxR_step {k r : Nat} (f : List Nat) (h : r ≤ k) (h0 : r ≠ 0) : hxR k r f = hxR k (r / 16) (hd (r % 16) :: f) := by
  cases k with
  | zero => omega
  | succ k =>
    show (if r = 0 then f else hxR k (r / 16) (hd (r % 16) :: f)) = _
    rw [if_neg h0]
    exact hxR_fuel _ _ _ (by omega) _ (by omega)
theorem hxR_zero (k : Nat) (f : List Nat) : hxR k 0 f = f := by
  cases k <;> rfl
def figs : Str := "0123456789abcdef"
theorem figs_at {k : Nat} (h : k < 16) : atI figs.cps.toList ((k : Nat) : Int) = some (hd k) := by
  have : ∀ k : Fin 16, atI figs.cps.toList ((k.val : Nat) : Int) = some (hd k.val) := by decide +kernel
  exact this ⟨k, h⟩
theorem figs_len : figs.length ≤ sizeLine := by decide +kernel
theorem sOf_app (a b : List Nat) : sOf a ++ sOf b = sOf (a ++ b) := by
  show (⟨a.toArray ++ b.toArray⟩ : Str) = ⟨(a ++ b).toArray⟩
  rw [List.append_toArray]
theorem sOf_len (l : List Nat) : (sOf l).length = l.length := by
  show l.toArray.size = _
  simp
theorem emod_nat (m k : Nat) : ((m : Int) % (k : Int)) = ((m % k : Nat) : Int) := by omega
theorem ediv_nat (m k : Nat) : ((m : Int) / (k : Int)) = ((m / k : Nat) : Int) := by omega
def sp_hex : Sp := fun vs H Q _ => ∃ n : Nat, vs = [.int n] ∧ n < 2 ^ 60 ∧ Q (.str (hexS n)) H
theorem hex_lt {i n j : Nat} (h : n < 2 ^ 60) (hj : j = n / 16 ^ i) (h0 : 0 < j) : i < 15 := by
  refine Nat.lt_of_not_le fun q => ?_
  have h1 : (16:Nat) ^ 15 ≤ 16 ^ i := Nat.pow_le_pow_right (by decide) q
  have h2 : (16:Nat) ^ 15 = 2 ^ 60 := by decide
  have h3 : n / 16 ^ i = 0 := Nat.div_eq_of_lt (by omega)
  omega
theorem hex_le {i n j : Nat} (hj : j = n / 16 ^ i) : j ≤ n := by
  rw [hj]
  exact Nat.div_le_self _ _
theorem str17 {l : List Nat} (h : l.length ≤ 100) : (sOf l).length ≤ sizeLine := by
  rw [sOf_len]
  exact Nat.le_trans h (by decide)

/-- the two numbers of a text's sum -/
def smA : List Nat → Nat → Nat
  | [], a => a
  | c :: r, a => smA r ((a + c) % 251)
def smB : List Nat → Nat → Nat → Nat
  | [], _, b => b
  | c :: r, a, b => smB r ((a + c) % 251) ((b + (a + c) % 251) % 241)
def smA' (l : List Nat) (n : Nat) : Nat := smA (l.take n) 0
def smB' (l : List Nat) (n : Nat) : Nat := smB (l.take n) 0 0
theorem smA_snoc : ∀ (l : List Nat) (c a : Nat), smA (l ++ [c]) a = (smA l a + c) % 251
  | [], _, _ => rfl
  | _ :: r, c, a => smA_snoc r c _
theorem smB_snoc : ∀ (l : List Nat) (c a b : Nat), smB (l ++ [c]) a b = (smB l a b + (smA l a + c) % 251) % 241
  | [], _, _, _ => rfl
  | _ :: r, c, a, b => smB_snoc r c _ _
theorem take_snoc {α : Type} {l : List α} {i : Nat} {c : α} (h : l[i]? = some c) : l.take (i + 1) = l.take i ++ [c] := by
  rw [List.take_add_one, h]
  rfl
theorem smA_lt : ∀ (l : List Nat) (a : Nat), a < 251 → smA l a < 251
  | [], _, h => h
  | _ :: r, _, _ => smA_lt r _ (Nat.mod_lt _ (by decide))
theorem smB_lt : ∀ (l : List Nat) (a b : Nat), b < 241 → smB l a b < 241
  | [], _, _, h => h
  | _ :: r, _, _, _ => smB_lt r _ _ (Nat.mod_lt _ (by decide))
def two (n : Nat) : Str := sOf [hd (n / 16), hd (n % 16)]
theorem two_zfill {n : Nat} (h : n < 256) : Txt.zfill (hexS n) 2 = two n := by
  have : ∀ n : Fin 256, Txt.zfill (hexS n.val) 2 = two n.val := by decide +kernel
  exact this ⟨n, h⟩
theorem two_cut {n : Nat} (h : n < 256) : cutS (hexS (256 + n)) (some 1) none = two n := by
  have : ∀ n : Fin 256, cutS (hexS (256 + n.val)) (some 1) none = two n.val := by decide +kernel
  exact this ⟨n, h⟩
theorem hex3 {n : Nat} (h : n < 256) : (hexS (256 + n)).length ≤ sizeLine := by
  have : ∀ n : Fin 256, (hexS (256 + n.val)).length = 3 := by decide +kernel
  exact Nat.le_trans (Nat.le_of_eq (this ⟨n, h⟩)) (by decide)
def sumS (z : Str) : Str := two (smA z.cps.toList 0) ++ two (smB z.cps.toList 0 0)
def sp_sum : Sp := fun vs H Q _ => ∃ z : Str, vs = [.str z] ∧ Q (.str (sumS z)) H
end Cl

namespace Cl
open PySem L2
def topS (i : Nat) : Stmt := PySem.Challenge.pw_cleanedlog_k11_sums.main.body.getD i (.Pass ⟨0, 0, 0, 0⟩)
section
variable {P : Program} {w : World} {K : PySem.W.Frag} {mg : Str → Option Value} {base : Heap}
abbrev s_sixteens : Stmt := topS 2
abbrev N_sixteens : List Str := ["number", "found"]
theorem sc_sixteens : FnScope N_sixteens ["number"] (defScope s_sixteens) := ⟨rfl, rfl, rfl, by decide +kernel, rfl, by decide +kernel, by decide +kernel⟩
theorem ok_sixteens {f : Addr} {fd : FuncData} (F : Fun K "sixteens" "sixteens" s_sixteens f fd) (B : Bt mg) {tk : Tok} (g_FIGURES : mg "FIGURES" = some (.str "0123456789abcdef" tk)) : FnOk P w K mg base CX0 1 f fd ["number"] sp_hex := by
  refine F.ok sc_sixteens (fun vs H Q E h => ?_) (fun cdv A outer s H vs Q E hr h => ?_)
  · obtain ⟨n, rfl, _⟩ := h
    rfl
  · obtain ⟨n, rfl, hn, k⟩ := h
    refine ⟨_, (pss_cons (ps_set (i := 1) sc_sixteens.nd rfl (Or.inl rfl) (pe_ix ix_str (pe_glob (by rfl) g_FIGURES (rel_s _ _)) (pe_op op_mod (pv 0) pe_int) (fun _ _ => rfl)))
    (pss_cons (ps_while PassesOwn.never (pt_cmpR op_gt (pv 0) pe_int (nomark _))
      (pss_cons (ps_set (i := 0) sc_sixteens.nd rfl (Or.inl rfl) (pe_op op_fdiv (pv 0) pe_int))
    (pss_one (ps_set (i := 1) sc_sixteens.nd rfl (Or.inl rfl) (pe_op op_add_str (pe_ix ix_str (pe_glob (by rfl) g_FIGURES (rel_s _ _)) (pe_op op_mod (pv 0) pe_int) (fun _ _ => rfl)) (pv 1))))))
    (pss_one (ps_ret (pv 1))))), ?_⟩
    refine ⟨_, rfl, _, _, rfl, rfl, (by show (0:Int) < 16; decide), figs, _, hd (n % 16), rfl, rfl, figs_len, (by rw [show ((n : Int) % 16) = ((n % 16 : Nat) : Int) from emod_nat n 16]; exact figs_at (Nat.mod_lt _ (by decide))), ?_⟩
    refine ⟨fun m σ H' => ∃ (i j : Nat) (l : List Nat), H' = H ∧ m = j ∧ σ = [some (.int j), some (.str (sOf l))] ∧ j = n / 16 ^ i ∧ l.length = i + 1 ∧ hxR n (j / 16) l = hexL n, ⟨n, 0, n, _, rfl, rfl, rfl, by simp, rfl, rfl⟩, ?_⟩
    rintro m σ H' ⟨i, j, l, rfl, hm, rfl, hj, hl, hx⟩
    refine ⟨_, rfl, _, _, rfl, rfl, _, rfl, ?_⟩
    refine ite2 (fun c => ?_) (fun c => ?_)
    · have c' : (15:Int) < j := of_decide_eq_true c
      have hjn : j ≤ n := hex_le hj
      have hi : i < 15 := hex_lt hn hj (by omega)
      refine ⟨fun σ' H'' => H'' = H' ∧ σ' = [some (.int ((j / 16 : Nat) : Int)), some (.str (sOf (hd (j / 16 % 16) :: l)))], ?_, ?_⟩
      · rintro σ' H'' ⟨rfl, rfl⟩
        refine ⟨j / 16, by omega, i + 1, j / 16, _, rfl, rfl, rfl, ?_, ?_, ?_⟩
        · rw [hj, Nat.div_div_eq_div_mul, Nat.pow_succ]
        · rw [List.length_cons, hl]
        · rw [← hxR_step _ (by omega) (by omega)]
          exact hx
      · have e1 : ((j : Int) / 16) = ((j / 16 : Nat) : Int) := ediv_nat j 16
        refine ⟨_, rfl, _, _, rfl, rfl, ⟨by decide, by decide⟩, _, rfl, _, _, rfl, rfl, (by show (0:Int) < 16; decide), figs, _, hd (j / 16 % 16), rfl, rfl, figs_len, ?_, ?_⟩
        · rw [e1, show (((j / 16 : Nat) : Int) % 16) = ((j / 16 % 16 : Nat) : Int) from emod_nat _ 16]
          exact figs_at (Nat.mod_lt _ (by decide))
        · refine ⟨_, rfl, _, _, rfl, rfl, ?_, rfl, ?_⟩
          · show (sOf [hd (j / 16 % 16)]).length + (sOf l).length ≤ sizeLine
            rw [sOf_len, sOf_len, hl, List.length_singleton]
            exact Nat.le_trans (by omega) (by decide : 17 ≤ sizeLine)
          · show [some (V.int ((j : Int) / 16)), some (V.str (sOf [hd (j / 16 % 16)] ++ sOf l))] = _
            rw [e1, sOf_app]
            rfl
    · have c' : ¬ (15:Int) < j := fun z => c (decide_eq_true z)
      refine ⟨_, rfl, ?_⟩
      have : j / 16 = 0 := by omega
      rw [this, hxR_zero] at hx
      subst hx
      exact k
abbrev s_sum_of : Stmt := topS 3
abbrev N_sum_of : List Str := ["text", "a", "b", "sign"]
theorem sc_sum_of : FnScope N_sum_of ["text"] (defScope s_sum_of) := ⟨rfl, rfl, rfl, by decide +kernel, rfl, by decide +kernel, by decide +kernel⟩
theorem ok_sum_of {f : Addr} {fd : FuncData} (F : Fun K "sum_of" "sum_of" s_sum_of f fd) (B : Bt mg) (C_sixteens : Cal P w K mg base CX0 "sixteens" 1 ["number"] sp_hex) : FnOk P w K mg base CX0 2 f fd ["text"] sp_sum := by
  refine F.ok sc_sum_of (fun vs H Q E h => ?_) (fun cdv A outer s H vs Q E hr h => ?_)
  · obtain ⟨z, rfl, _⟩ := h
    rfl
  · obtain ⟨z, rfl, k⟩ := h
    refine ⟨_, (pss_cons (ps_asg2 pe_int (pg_name (i := 1) sc_sum_of.nd rfl (Or.inl rfl)) (pg_name (i := 2) sc_sum_of.nd rfl (Or.inl rfl)))
    (pss_cons (ps_for PassesOwn.never rfl (pi_str (pv 0)) (pg_name (i := 3) sc_sum_of.nd rfl (Or.inl rfl))
      (pss_cons (ps_set (i := 1) sc_sum_of.nd rfl (Or.inl rfl) (pe_op op_mod (pe_op op_add (pv 1) (pe_callB call_ord (by rfl) B.ord (by decide +kernel) (pa_cons (pv 3) pa_nil))) pe_int))
    (pss_one (ps_set (i := 2) sc_sum_of.nd rfl (Or.inl rfl) (pe_op op_mod (pe_op op_add (pv 2) (pv 1)) pe_int)))))
    (pss_one (ps_ret (pe_op op_add_str (pe_bm PySem.F.plainAttrs_str PySem.F.slot_str_zfill PySem.F.type_str_zfill mt_zfill (pe_cal C_sixteens (hr.mono (by decide)) (by rfl) pass0 (pa_cons (pv 1) pa_nil)) (pa_cons pe_int pa_nil)) (pe_bm PySem.F.plainAttrs_str PySem.F.slot_str_zfill PySem.F.type_str_zfill mt_zfill (pe_cal C_sixteens (hr.mono (by decide)) (by rfl) pass0 (pa_cons (pv 2) pa_nil)) (pa_cons pe_int pa_nil))))))), ?_⟩
    refine ⟨_, rfl, z, rfl, for_str (z := z) (fun i σ H' => H' = H ∧ ∃ v, σ = [some (.str z), some (.int ((smA' z.cps.toList i : Nat) : Int)), some (.int ((smB' z.cps.toList i : Nat) : Int)), v]) ⟨rfl, none, rfl⟩ ?_ ?_⟩
    · rintro i c σ H' hc ⟨rfl, v, rfl⟩
      refine ⟨_, rfl, _, rfl, _, rfl, rfl, _, _, rfl, rfl, _, _, rfl, rfl, (by show (0:Int) < 251; decide), _, rfl, _, rfl, _, _, rfl, rfl, _, _, rfl, rfl, (by show (0:Int) < 241; decide), rfl, some (.str ⟨#[c]⟩), ?_⟩
      have e := take_snoc hc
      have e1 : smA' z.cps.toList (i + 1) = (smA' z.cps.toList i + c) % 251 := by
        unfold smA'
        rw [e, smA_snoc]
      have e2 : smB' z.cps.toList (i + 1) = (smB' z.cps.toList i + (smA' z.cps.toList i + c) % 251) % 241 := by
        unfold smB' smA'
        rw [e, smB_snoc]
      rw [e1, e2]
      rfl
    · rintro σ H' ⟨rfl, v, rfl⟩
      have ha := smA_lt z.cps.toList 0 (by decide)
      have hb := smB_lt z.cps.toList 0 0 (by decide)
      have e1 : smA' z.cps.toList z.cps.size = smA z.cps.toList 0 := by
        unfold smA'
        rw [List.take_of_length_le (by simp)]
      have e2 : smB' z.cps.toList z.cps.size = smB z.cps.toList 0 0 := by
        unfold smB'
        rw [List.take_of_length_le (by simp)]
      refine ⟨_, rfl, _, rfl, (by rw [e1]; omega), rfl, _, _, rfl, rfl, rfl, _, rfl, _, rfl, (by rw [e2]; omega), rfl, _, _, rfl, rfl, rfl, _, _, rfl, rfl, ?_, ?_⟩
      · rw [e1, e2, two_zfill (by omega), two_zfill (by omega)]
        show (sOf _).length + (sOf _).length ≤ sizeLine
        rw [sOf_len, sOf_len]
        show 2 + 2 ≤ sizeLine
        decide
      · rw [e1, e2, two_zfill (by omega), two_zfill (by omega)]
        exact k
abbrev s_l_at : Stmt := topS 5
abbrev N_l_at : List Str := ["script", "k"]
theorem sc_l_at : FnScope N_l_at ["script", "k"] (defScope s_l_at) := ⟨rfl, rfl, rfl, by decide +kernel, rfl, by decide +kernel, by decide +kernel⟩
theorem ok_l_at {f : Addr} {fd : FuncData} (F : Fun K "_law_at" "_law_at" s_l_at f fd) (B : Bt mg) : FnOk P w K mg base CX0 1 f fd ["script", "k"] (sp_l_at K) := by
  refine F.ok sc_l_at (fun vs H Q E h => ?_) (fun cdv A outer s H vs Q E hr h => ?_)
  · obtain ⟨a, ns, i, rfl, _⟩ := h
    rfl
  · obtain ⟨a, ns, i, rfl, hS, k⟩ := h
    refine ⟨_, (pss_cons (ps_if (pt_cmpR op_lt (pv 1) (pe_callB call_len (by rfl) B.len (by decide +kernel) (pa_cons (pv 0) pa_nil)) (nomark _))
      (pss_one (ps_ret (pe_ix ix_list (pv 0) (pv 1) (fun _ _ => rfl))))
      pss_nil)
    (pss_one (ps_ret pe_int))), ?_⟩
    refine ⟨_, rfl, _, rfl, _, ns.length, rfl, .inl ⟨_, hS, by simp⟩, _, _, rfl, rfl, _, rfl, ?_⟩
    refine ite2 (fun c => ?_) (fun c => ?_)
    · have c' : (i : Int) < ns.length := of_decide_eq_true c
      refine ⟨_, rfl, _, rfl, a, _, _, _, rfl, rfl, hS, atI_nat (v := V.int (ns[i]'(by omega))) (by simp [show i < ns.length by omega]), ?_⟩
      exact k _
    · exact k 0
abbrev s_l_pot : Stmt := topS 6
abbrev N_l_pot : List Str := ["cell"]
theorem sc_l_pot : FnScope N_l_pot ["cell"] (defScope s_l_pot) := ⟨rfl, rfl, rfl, by decide +kernel, rfl, by decide +kernel, by decide +kernel⟩
theorem ok_l_pot {f : Addr} {fd : FuncData} (F : Fun K "_law_pot" "_law_pot" s_l_pot f fd) (B : Bt mg) : FnOk P w K mg base CX0 1 f fd ["cell"] sp_l_pot := by
  refine F.ok sc_l_pot (fun vs H Q E h => ?_) (fun cdv A outer s H vs Q E hr h => ?_)
  · obtain ⟨c, rfl, _⟩ := h
    rfl
  · obtain ⟨c, rfl, k⟩ := h
    refine ⟨_, pss_one (ps_ret (pe_lst (pa_cons (pe_callB (call_max2 rfl) (by rfl) B.max (by decide +kernel) (pa_cons pe_int (pa_cons (pe_op op_sub (pv 0) (pe_op op_pow pe_int pe_int)) pa_nil)))
      (pa_cons (pe_op op_add (pe_op op_mod (pe_op op_pow (pe_op op_add (pe_op op_mod (pe_callB call_abs (by rfl) B.abs (by decide +kernel) (pa_cons (pv 0) pa_nil)) pe_int) pe_int) pe_int) pe_int) pe_int) pa_nil)))), ?_⟩
    refine ⟨_, rfl, _, _, rfl, rfl, ⟨by decide, by decide, by decide⟩, _, _, rfl, rfl, _, _, rfl, ?_⟩
    refine ⟨_, rfl, _, rfl, ?_⟩
    refine ⟨_, _, rfl, rfl, (by show (0:Int) < 2147483563; decide), _, _, rfl, rfl, _, _, rfl, rfl, ⟨by decide, by decide, ?_⟩, ?_⟩
    · show (((if c < 0 then -c else c) % 2147483563 + 1 : Int)).natAbs < 2 ^ 64
      omega
    refine ⟨_, _, rfl, rfl, (by show (0:Int) < 2147483549; decide), _, _, rfl, rfl, (by show 2 ≤ sizeLine; decide), fun p hp => ?_⟩
    exact k p _ (Same.new hp) hp ⟨upd_same, potB_ok c⟩
abbrev s_l_take : Stmt := topS 7
abbrev N_l_take : List Str := ["pot", "many", "digit"]
theorem sc_l_take : FnScope N_l_take ["pot", "many"] (defScope s_l_take) := ⟨rfl, rfl, rfl, by decide +kernel, rfl, by decide +kernel, by decide +kernel⟩
theorem ok_l_take {f : Addr} {fd : FuncData} (F : Fun K "_law_take" "_law_take" s_l_take f fd) (B : Bt mg) : FnOk P w K mg base CX0 1 f fd ["pot", "many"] sp_l_take := by
  refine F.ok sc_l_take (fun vs H Q E h => ?_) (fun cdv A outer s H vs Q E hr h => ?_)
  · obtain ⟨p, a, b, m, rfl, _⟩ := h
    rfl
  · obtain ⟨p, a, b, m, rfl, ⟨hp, hb⟩, hm, hm2, k⟩ := h
    refine ⟨_, pss_cons (ps_if (pt_cmpR op_gt (pe_ix ix_list (pv 0) pe_int (fun _ _ => rfl)) pe_int (nomark _))
        (pss_cons (ps_asg (pe_callB call_divmodW (by rfl) B.divmod (by decide +kernel) (pa_cons (pe_ix ix_list (pv 0) pe_int (fun _ _ => rfl)) (pa_cons (pv 1) pa_nil)))
            (pg_tup (by rfl) (pgs_cons (pg_sub (pv 0) pe_int set_list) (pgs_cons (pg_name (i := 2) sc_l_take.nd rfl (Or.inl rfl)) pgs_nil))))
          (pss_one (ps_ret (pv 2)))) pss_nil)
      (pss_cons (ps_asg (pe_op op_mod (pe_op op_add (pe_op op_mul (pe_ix ix_list (pv 0) pe_int (fun _ _ => rfl)) pe_int) pe_int) pe_int) (pg_sub (pv 0) pe_int set_list))
      (pss_one (ps_ret (pe_op op_mod (pe_op op_fdiv (pe_op op_mod (pe_op op_mul (pe_ix ix_list (pv 0) pe_int (fun _ _ => rfl)) (pe_ix ix_list (pv 0) pe_int (fun _ _ => rfl))) pe_int) pe_int) (pv 1))))), ?_⟩
    refine ⟨_, rfl, p, _, _, _, rfl, rfl, SqL.of hp, rfl, _, _, rfl, rfl, _, rfl, ?_⟩
    have hd : CDivP a m := ⟨hm, PyProof.noPylong_of_log2 hm2⟩
    refine ite2 (fun c => ?_) (fun c => ?_)
    · have c' : 0 < a := of_decide_eq_true c
      refine ⟨_, rfl, p, _, _, _, rfl, rfl, SqL.of hp, rfl, _, rfl, _, _, rfl, hd, fun t ht => ?_⟩
      have npt : p ≠ t := ne_of_none hp ht
      refine ⟨t, _, rfl, SqT.of upd_same, rfl, ?_⟩
      refine ⟨_, _, rfl, _, rfl, p, _, _, _, rfl, rfl, (by rw [upd_ne npt]; exact hp), rfl, ?_⟩
      refine ⟨_, _, rfl, rfl, _, rfl, ?_⟩
      have e1 : tkA a b m = a / m := if_pos c'
      have e2 : tkB a b m = b := if_pos c'
      have e3 : tkD a b m = a % m := if_pos c'
      have := k (upd (upd H t (.tup [.int (a / m), .int (a % m)])) p (.lst [.int (tkA a b m), .int (tkB a b m)])) (SameBut.of (Same.new ht)).upd ⟨upd_same, tkB_ok hb⟩
      rw [e1, e2, e3] at this
      exact this
    · have c' : ¬ 0 < a := fun z => c (decide_eq_true z)
      refine ⟨_, rfl, p, _, _, _, rfl, rfl, SqL.of hp, rfl, _, _, rfl, rfl, .inr (by decide), _, _, rfl, rfl, _, _, rfl, rfl, (by show (0:Int) < 2147483647; decide), ?_⟩
      refine ⟨_, rfl, p, _, _, _, rfl, rfl, hp, rfl, ?_⟩
      have e1 : tkA a b m = a := if_neg c'
      have e2 : tkB a b m = (b * 48271 + 12347) % 2147483647 := if_neg c'
      have e3 : tkD a b m = ((b * 48271 + 12347) % 2147483647) * ((b * 48271 + 12347) % 2147483647) % 2147483579 / 13 % m := if_neg c'
      refine ⟨_, rfl, p, _, _, _, rfl, rfl, SqL.of upd_same, rfl, _, rfl, p, _, _, _, rfl, rfl, SqL.of upd_same, rfl, _, _, rfl, rfl, .inr ?_, ?_⟩
      · show -(2 ^ 64) < (b * 48271 + 12347) % 2147483647 ∧ (b * 48271 + 12347) % 2147483647 < 2 ^ 64
        omega
      refine ⟨_, _, rfl, rfl, (by show (0:Int) < 2147483579; decide), _, _, rfl, rfl, ⟨by decide, by decide⟩, _, rfl, _, _, rfl, rfl, hm, ?_⟩
      have := k (upd H p (.lst [.int (tkA a b m), .int (tkB a b m)])) (SameBut.of (Same.refl H)).upd ⟨upd_same, tkB_ok hb⟩
      rw [e1, e2, e3] at this
      exact this
abbrev s_l_hex : Stmt := topS 8
abbrev N_l_hex : List Str := ["number", "found", "rest"]
theorem sc_l_hex : FnScope N_l_hex ["number"] (defScope s_l_hex) := ⟨rfl, rfl, rfl, by decide +kernel, rfl, by decide +kernel, by decide +kernel⟩
theorem ok_l_hex {f : Addr} {fd : FuncData} (F : Fun K "_law_hex" "_law_hex" s_l_hex f fd) (B : Bt mg) : FnOk P w K mg base CX0 1 f fd ["number"] sp_hex := by
  refine F.ok sc_l_hex (fun vs H Q E h => ?_) (fun cdv A outer s H vs Q E hr h => ?_)
  · obtain ⟨n, rfl, _⟩ := h
    rfl
  · obtain ⟨n, rfl, hn, k⟩ := h
    refine ⟨_, (pss_cons (ps_set (i := 1) sc_l_hex.nd rfl (Or.inl rfl) (pe_ix ix_str pe_str (pe_op op_mod (pv 0) pe_int) (fun _ _ => rfl)))
    (pss_cons (ps_set (i := 2) sc_l_hex.nd rfl (Or.inl rfl) (pe_op op_fdiv (pv 0) pe_int))
    (pss_cons (ps_while PassesOwn.never (pt_cmpR op_gt (pv 2) pe_int (nomark _))
      (pss_cons (ps_set (i := 1) sc_l_hex.nd rfl (Or.inl rfl) (pe_op op_add_str (pe_ix ix_str pe_str (pe_op op_mod (pv 2) pe_int) (fun _ _ => rfl)) (pv 1)))
    (pss_one (ps_set (i := 2) sc_l_hex.nd rfl (Or.inl rfl) (pe_op op_fdiv (pv 2) pe_int)))))
    (pss_one (ps_ret (pv 1)))))), ?_⟩
    refine ⟨_, rfl, _, _, rfl, rfl, (by show (0:Int) < 16; decide), figs, _, hd (n % 16), rfl, rfl, figs_len, (by rw [show ((n : Int) % 16) = ((n % 16 : Nat) : Int) from emod_nat n 16]; exact figs_at (Nat.mod_lt _ (by decide))), ?_⟩
    refine ⟨_, rfl, _, _, rfl, rfl, ⟨by decide, by decide⟩, ?_⟩
    refine ⟨fun m σ H' => ∃ (i j : Nat) (l : List Nat), H' = H ∧ m = j ∧ σ = [some (.int n), some (.str (sOf l)), some (.int j)] ∧ j = n / 16 ^ (i + 1) ∧ l.length = i + 1 ∧ hxR n j l = hexL n, ⟨n / 16, 0, n / 16, [hd (n % 16)], rfl, rfl, (by rw [← ediv_nat]; rfl), rfl, rfl, rfl⟩, ?_⟩
    rintro m σ H' ⟨i, j, l, rfl, hm, rfl, hj, hl, hx⟩
    refine ⟨_, rfl, _, _, rfl, rfl, _, rfl, ?_⟩
    refine ite2 (fun c => ?_) (fun c => ?_)
    · have c' : (0:Int) < j := of_decide_eq_true c
      have hjn : j ≤ n := hex_le hj
      have hi : i + 1 < 15 := hex_lt hn hj (by omega)
      refine ⟨fun σ' H'' => H'' = H' ∧ σ' = [some (.int n), some (.str (sOf (hd (j % 16) :: l))), some (.int ((j / 16 : Nat) : Int))], ?_, ?_⟩
      · rintro σ' H'' ⟨rfl, rfl⟩
        refine ⟨j / 16, by omega, i + 1, j / 16, _, rfl, rfl, rfl, ?_, ?_, ?_⟩
        · rw [hj, Nat.div_div_eq_div_mul, Nat.pow_succ _ (i + 1)]
        · rw [List.length_cons, hl]
        · rw [← hxR_step _ (by omega) (by omega)]
          exact hx
      · refine ⟨_, rfl, _, _, rfl, rfl, (by show (0:Int) < 16; decide), figs, _, hd (j % 16), rfl, rfl, figs_len, ?_, ?_⟩
        · rw [show ((j : Int) % 16) = ((j % 16 : Nat) : Int) from emod_nat _ 16]
          exact figs_at (Nat.mod_lt _ (by decide))
        · refine ⟨_, rfl, _, _, rfl, rfl, ?_, _, rfl, _, _, rfl, rfl, ⟨by decide, by decide⟩, rfl, ?_⟩
          · show (sOf [hd (j % 16)]).length + (sOf l).length ≤ sizeLine
            rw [sOf_len, sOf_len, hl, List.length_singleton]
            exact Nat.le_trans (by omega) (by decide : 17 ≤ sizeLine)
          · show [some (V.int n), some (V.str (sOf [hd (j % 16)] ++ sOf l)), some (V.int ((j : Int) / 16))] = _
            rw [show ((j : Int) / 16) = ((j / 16 : Nat) : Int) from ediv_nat j 16, sOf_app]
            rfl
    · have c' : ¬ (0:Int) < j := fun z => c (decide_eq_true z)
      refine ⟨_, rfl, ?_⟩
      have : j = 0 := by omega
      rw [this, hxR_zero] at hx
      subst hx
      exact k
abbrev s_l_sum : Stmt := topS 9
abbrev N_l_sum : List Str := ["row", "one", "two", "sign"]
theorem sc_l_sum : FnScope N_l_sum ["row"] (defScope s_l_sum) := ⟨rfl, rfl, rfl, by decide +kernel, rfl, by decide +kernel, by decide +kernel⟩
theorem ok_l_sum {f : Addr} {fd : FuncData} (F : Fun K "_law_sum" "_law_sum" s_l_sum f fd) (B : Bt mg) (C_law_hex : Cal P w K mg base CX0 "_law_hex" 1 ["number"] sp_hex) : FnOk P w K mg base CX0 2 f fd ["row"] sp_sum := by
  refine F.ok sc_l_sum (fun vs H Q E h => ?_) (fun cdv A outer s H vs Q E hr h => ?_)
  · obtain ⟨z, rfl, _⟩ := h
    rfl
  · obtain ⟨z, rfl, k⟩ := h
    refine ⟨_, (pss_cons (ps_set (i := 1) sc_l_sum.nd rfl (Or.inl rfl) pe_int)
    (pss_cons (ps_set (i := 2) sc_l_sum.nd rfl (Or.inl rfl) pe_int)
    (pss_cons (ps_for PassesOwn.never rfl (pi_str (pv 0)) (pg_name (i := 3) sc_l_sum.nd rfl (Or.inl rfl))
      (pss_cons (ps_set (i := 1) sc_l_sum.nd rfl (Or.inl rfl) (pe_op op_mod (pe_op op_add (pv 1) (pe_callB call_ord (by rfl) B.ord (by decide +kernel) (pa_cons (pv 3) pa_nil))) pe_int))
    (pss_one (ps_set (i := 2) sc_l_sum.nd rfl (Or.inl rfl) (pe_op op_mod (pe_op op_add (pv 2) (pv 1)) pe_int)))))
    (pss_one (ps_ret (pe_op op_add_str (pe_slice sl_str (pe_cal C_law_hex (hr.mono (by decide)) (by rfl) pass0 (pa_cons (pe_op op_add pe_int (pv 1)) pa_nil)) (po_some pe_int) po_none) (pe_slice sl_str (pe_cal C_law_hex (hr.mono (by decide)) (by rfl) pass0 (pa_cons (pe_op op_add pe_int (pv 2)) pa_nil)) (po_some pe_int) po_none))))))), ?_⟩
    refine ⟨_, rfl, z, rfl, for_str (z := z) (fun i σ H' => H' = H ∧ ∃ v, σ = [some (.str z), some (.int ((smA' z.cps.toList i : Nat) : Int)), some (.int ((smB' z.cps.toList i : Nat) : Int)), v]) ⟨rfl, none, rfl⟩ ?_ ?_⟩
    · rintro i c σ H' hc ⟨rfl, v, rfl⟩
      refine ⟨_, rfl, _, rfl, _, rfl, rfl, _, _, rfl, rfl, _, _, rfl, rfl, (by show (0:Int) < 251; decide), _, rfl, _, rfl, _, _, rfl, rfl, _, _, rfl, rfl, (by show (0:Int) < 241; decide), rfl, some (.str ⟨#[c]⟩), ?_⟩
      have e := take_snoc hc
      have e1 : smA' z.cps.toList (i + 1) = (smA' z.cps.toList i + c) % 251 := by
        unfold smA'
        rw [e, smA_snoc]
      have e2 : smB' z.cps.toList (i + 1) = (smB' z.cps.toList i + (smA' z.cps.toList i + c) % 251) % 241 := by
        unfold smB' smA'
        rw [e, smB_snoc]
      rw [e1, e2]
      rfl
    · rintro σ H' ⟨rfl, v, rfl⟩
      have ha := smA_lt z.cps.toList 0 (by decide)
      have hb := smB_lt z.cps.toList 0 0 (by decide)
      have e1 : smA' z.cps.toList z.cps.size = smA z.cps.toList 0 := by
        unfold smA'
        rw [List.take_of_length_le (by simp)]
      have e2 : smB' z.cps.toList z.cps.size = smB z.cps.toList 0 0 := by
        unfold smB'
        rw [List.take_of_length_le (by simp)]
      have f1 : V.int ((256 : Int) + ((smA' z.cps.toList z.cps.size : Nat) : Int)) = V.int ((256 + smA z.cps.toList 0 : Nat) : Int) := by rw [e1]; rfl
      have f2 : V.int ((256 : Int) + ((smB' z.cps.toList z.cps.size : Nat) : Int)) = V.int ((256 + smB z.cps.toList 0 0 : Nat) : Int) := by rw [e2]; rfl
      refine ⟨_, rfl, _, _, rfl, rfl, _, congrArg (fun v => [v]) f1, (by omega), _, rfl, _, rfl, ?_, _, rfl, _, _, rfl, rfl, _, congrArg (fun v => [v]) f2, (by omega), _, rfl, _, rfl, ?_, _, _, rfl, rfl, ?_, ?_⟩
      · exact hex3 (by omega)
      · exact hex3 (by omega)
      · rw [two_cut (by omega), two_cut (by omega)]
        show (sOf _).length + (sOf _).length ≤ sizeLine
        rw [sOf_len, sOf_len]
        show 2 + 2 ≤ sizeLine
        decide
      · rw [two_cut (by omega), two_cut (by omega)]
        exact k
abbrev s_l_any : Stmt := topS 10
abbrev N_l_any : List Str := ["pot", "letters", "signs", "some", "many", "k"]
theorem sc_l_any : FnScope N_l_any ["pot"] (defScope s_l_any) := ⟨rfl, rfl, rfl, by decide +kernel, rfl, by decide +kernel, by decide +kernel⟩
def sp_l_any : Sp := fun vs H Q _ => ∃ (p : Addr) (a b : Int), vs = [.ref p] ∧ Pot H p a b ∧ ∀ (z : Str) (H' : Hp) (a' b' : Int), SameBut p H H' → Pot H' p a' b' → Q (.str z) H'
def anyL : Str := "abcdefghijklmnopqrstuvwxyz"
def anySigns : Str := (" !\"#$&'()*+,-./0123456789:;<=>?\x40[\\]^_`{|}~" : Str) ++ anyL ++ Txt.upper anyL
theorem anySigns_len : anySigns.length = 94 := by decide +kernel
theorem ok_l_any {f : Addr} {fd : FuncData} (F : Fun K "_law_any" "_law_any" s_l_any f fd) (B : Bt mg) (C_law_take : Cal P w K mg base CX0 "_law_take" 1 ["pot", "many"] sp_l_take) : FnOk P w K mg base CX0 2 f fd ["pot"] sp_l_any := by
  refine F.ok sc_l_any (fun vs H Q E h => ?_) (fun cdv A outer s H vs Q E hr h => ?_)
  · obtain ⟨p, a, b, rfl, _⟩ := h
    rfl
  · obtain ⟨p, a, b, rfl, hp, k⟩ := h
    refine ⟨_, (pss_cons (ps_set (i := 1) sc_l_any.nd rfl (Or.inl rfl) pe_str)
    (pss_cons (ps_set (i := 2) sc_l_any.nd rfl (Or.inl rfl) (pe_op op_add_str (pe_op op_add_str pe_str (pv 1)) (pe_upper (pv 1))))
    (pss_cons (ps_set (i := 3) sc_l_any.nd rfl (Or.inr rfl) (pe_ix ix_list (pe_lst (pa_cons (pv 2) (pa_cons (pe_op op_add_str pe_str (pe_ix ix_str (pv 2) (pe_cal C_law_take (hr.mono (by decide)) (by rfl) pass0 (pa_cons (pv 0) (pa_cons (pe_callB call_len_str (by rfl) B.len (by decide +kernel) (pa_cons (pv 2) pa_nil)) pa_nil))) (fun _ _ => rfl))) (pa_cons (pe_op op_add_str pe_str (pv 1)) pa_nil)))) (pe_cal C_law_take (hr.mono (by decide)) (by rfl) pass0 (pa_cons (pv 0) (pa_cons pe_int pa_nil))) (fun _ _ => rfl)))
    (pss_cons (ps_set (i := 4) sc_l_any.nd rfl (Or.inl rfl) (pe_cal C_law_take (hr.mono (by decide)) (by rfl) pass0 (pa_cons (pv 0) (pa_cons (pe_ix ix_list (pe_lst (pa_cons pe_int (pa_cons pe_int (pa_cons pe_int pa_nil)))) (pe_cal C_law_take (hr.mono (by decide)) (by rfl) pass0 (pa_cons (pv 0) (pa_cons pe_int pa_nil))) (fun _ _ => rfl)) pa_nil))))
    (pss_one (ps_ret (pe_join pe_str (pe_lc (own := [("k", 5)]) (g := gName 5) (tt := tYes) (by rfl) sc_l_any.nd (pi_range1 (by rfl) B.range (pa_cons (pv 4) pa_nil)) (blkOk_by (N := N_l_any) (sc := defScope s_l_any) (by decide +kernel)) (fun _ _ _ _ _ => pg_name (i := 5) sc_l_any.nd rfl (Or.inl rfl)) (fun _ _ _ _ _ => pts_nil) (fun _ _ _ _ _ => (pe_ix ix_str (pv 3) (pe_cal C_law_take (hr.mono (by decide)) (by rfl) pass0 (pa_cons (pv 0) (pa_cons (pe_callB call_len_str (by rfl) B.len (by decide +kernel) (pa_cons (pv 3) pa_nil)) pa_nil))) (fun _ _ => rfl))))))))))), ?_⟩
    have len3 : (3 : Nat) ≤ sizeLine := by decide
    -- letters, signs
    refine ⟨_, rfl, _, _, rfl, rfl, sz_of (by decide +kernel), ?_⟩
    refine ⟨_, rfl, ⟨_, rfl⟩, _, rfl, rfl, (by decide +kernel), _, _, rfl, rfl, sz_of (by decide +kernel), ?_⟩
    -- some
    refine ⟨_, rfl, _, rfl, _, rfl, _, rfl, anySigns, rfl, sz_of (by rw [anySigns_len]; decide), p, a, b, _, rfl, hp, (by rw [anySigns_len]; decide), (by rw [anySigns_len]; decide), fun H1 s1 p1 => ?_⟩
    have hl : ((anySigns.cps.toList.length : Nat) : Int) = 94 := by rw [len_toList, anySigns_len]; rfl
    obtain ⟨c, hc, _⟩ := atI_mem (xs := anySigns.cps.toList) (i := tkD a b (anySigns.length : Int)) (tkD_nn (by rw [anySigns_len]; decide)) (by rw [hl, anySigns_len]; exact tkD_lt (by decide))
    refine ⟨anySigns, _, c, rfl, rfl, sz_of (by rw [anySigns_len]; decide), hc, _, _, rfl, rfl, (by show _ + 1 ≤ sizeLine; exact sz_of (by decide +kernel)), _, rfl, _, _, rfl, rfl, sz_of (by decide +kernel), len3, fun l hl => ?_⟩
    have npl : l ≠ p := p1.ne hl
    refine ⟨_, rfl, p, _, _, _, rfl, p1.new hl, (by decide), (by decide), fun H2 s2 p2 => ?_⟩
    obtain ⟨v, hv, hm⟩ := atI_mem (xs := [V.str anySigns, V.str ((Str.ofString "~") ++ ⟨#[c]⟩), V.str ((Str.ofString "\n ") ++ anyL)]) (i := tkD (tkA a b anySigns.length) (tkB a b anySigns.length) 3) (tkD_nn (by decide)) (tkD_lt (by decide))
    obtain ⟨y, rfl, hy0, hy1⟩ : ∃ y : Str, v = V.str y ∧ 0 < y.length ∧ y.length ≤ 100 := by
      rcases List.mem_cons.mp hm with e | hm
      · exact ⟨_, e, by rw [anySigns_len]; decide, by rw [anySigns_len]; decide⟩
      rcases List.mem_cons.mp hm with e | hm
      · exact ⟨_, e, by rw [len_append]; exact Nat.succ_pos _, by rw [len_append]; show 1 + 1 ≤ 100; decide⟩
      · exact ⟨_, List.mem_singleton.mp hm, by decide +kernel, by decide +kernel⟩
    refine ⟨l, _, _, _, rfl, rfl, SqL.of (s2.at upd_same npl), hv, ?_⟩
    have t2 : SameBut p H H2 := (s1.new hl).trans s2
    -- many
    refine ⟨_, rfl, len3, fun q hq => ?_⟩
    have nqp : q ≠ p := p2.ne hq
    refine ⟨_, rfl, p, _, _, _, rfl, p2.new hq, (by decide), (by decide), fun H3 s3 p3 => ?_⟩
    obtain ⟨v, hv, hm⟩ := atI_mem (xs := [V.int 4, V.int 61, V.int 2001]) (i := tkD (tkA (tkA a b anySigns.length) (tkB a b anySigns.length) 3) (tkB (tkA a b anySigns.length) (tkB a b anySigns.length) 3) 3) (tkD_nn (by decide)) (tkD_lt (by decide))
    obtain ⟨y2, rfl, h0, h1⟩ : ∃ n : Int, v = V.int n ∧ 0 < n ∧ n ≤ 2001 := by
      rcases List.mem_cons.mp hm with e | hm
      · exact ⟨_, e, by decide, by decide⟩
      rcases List.mem_cons.mp hm with e | hm
      · exact ⟨_, e, by decide, by decide⟩
      · exact ⟨_, List.mem_singleton.mp hm, by decide, by decide⟩
    refine ⟨q, _, _, _, rfl, rfl, SqL.of (s3.at upd_same nqp), hv, ?_⟩
    have t3 : SameBut p H H3 := (t2.new hq).trans s3
    refine ⟨p, _, _, _, rfl, p3, h0, log2_small h0 (by omega), fun H4 s4 p4 => ?_⟩
    have t4 : SameBut p H H4 := t3.trans s4
    generalize e : tkD _ _ y2 = n
    have hn0 : 0 ≤ n := by rw [← e]; exact tkD_nn h0
    have hn1 : n < y2 := by rw [← e]; exact tkD_lt h0
    -- the text
    refine ⟨⟨_, rfl⟩, _, rfl, n, rfl, by omega, by omega, fun D hD => lc_range (lo := 0) (n := n.toNat) (fun i H5 => ∃ (ys : List Str) (a' b' : Int), H5 D = some (.lst (ys.map V.str)) ∧ ys.length = i ∧ (∀ y ∈ ys, y.length = 1) ∧ Pot H5 p a' b' ∧ SameBut p H4 H5) ⟨[], _, _, upd_same, rfl, (fun _ h => nomatch h), p4.new hD, SameBut.new (SameBut.refl p H4) hD⟩ ?_ ?_⟩
    · rintro i H5 hi ⟨ys, a', b', hl5, hz, h1s, p5, t5⟩
      have nDp : D ≠ p := p4.ne hD
      refine ⟨rfl, ?_⟩
      refine ⟨_, rfl, _, rfl, _, rfl, _, rfl, sz_of (by omega), p, _, _, _, rfl, p5, (by omega), log2_small (by omega) (by omega), fun H6 s6 p6 => ?_⟩
      obtain ⟨c6, hc6, _⟩ := atI_mem (xs := y.cps.toList) (i := tkD a' b' (y.length : Int)) (tkD_nn (by omega)) (by rw [len_toList]; exact tkD_lt (by omega))
      refine ⟨y, _, c6, rfl, rfl, sz_of (by omega), hc6, _, s6.at hl5 nDp, sz_lt (by rw [List.length_map]; omega), ys ++ [⟨#[c6]⟩], _, _, ?_, ?_, ?_, p6.other nDp, (t5.trans s6).newer hD⟩
      · rw [upd_same, List.map_append]
        rfl
      · rw [List.length_append, hz]
        rfl
      · intro z hz
        rcases List.mem_append.mp hz with h | h
        · exact h1s z h
        · rw [List.mem_singleton.mp h]
          rfl
    · rintro H5 ⟨ys, a', b', hl5, hz, h1s, p5, t5⟩
      refine ⟨_, D, ys, rfl, rfl, .inl (SqL.of hl5), ?_, ?_⟩
      · rw [sum_ones h1s]
        show ys.length + ys.length * 0 ≤ _
        omega
      · exact k _ _ _ _ (t4.trans t5) p5
abbrev s_law : Stmt := topS 11
abbrev N_law : List Str := ["script", "k", "row", "told"]
theorem sc_law : FnScope N_law ["script"] (defScope s_law) := ⟨rfl, rfl, rfl, by decide +kernel, rfl, by decide +kernel, by decide +kernel⟩
theorem ok_law {f : Addr} {fd : FuncData} (F : Fun K "law" "law" s_law f fd) (B : Bt mg) (C_law_at : Cal P w K mg base CX0 "_law_at" 1 ["script", "k"] (sp_l_at K)) (C_law_pot : Cal P w K mg base CX0 "_law_pot" 1 ["cell"] sp_l_pot)
    (C_law_any : Cal P w K mg base CX0 "_law_any" 2 ["pot"] sp_l_any) (C_sum_of : Cal P w K mg base CX0 "sum_of" 2 ["text"] sp_sum) (C_sum_of_kw : CalK P w K mg base CX0 "sum_of" 2 ["text"] 0 ["text"] (fun _ zs => zs) sp_sum) (C_law_sum : Cal P w K mg base CX0 "_law_sum" 2 ["row"] sp_sum) : FnOk P w K mg base CX0 3 f fd ["script"] (sp_law K) := by
  refine F.ok sc_law (fun vs H Q E h => ?_) (fun cdv A outer s H vs Q E hr h => ?_)
  · obtain ⟨a, ns, rfl, _⟩ := h
    rfl
  · obtain ⟨a, ns, rfl, hS, hn, k⟩ := h
    refine ⟨_, (pss_cons (ps_for PassesOwn.never rfl (pi_range1 (by rfl) B.range (pa_cons (pe_callB (call_max2 rfl) (by rfl) B.max (by decide +kernel) (pa_cons pe_int (pa_cons (pe_callB (call_min2 rfl) (by rfl) B.min (by decide +kernel) (pa_cons (pe_callB call_len (by rfl) B.len (by decide +kernel) (pa_cons (pv 0) pa_nil)) (pa_cons pe_int pa_nil))) pa_nil))) pa_nil)) (pg_name (i := 1) sc_law.nd rfl (Or.inl rfl))
      (pss_cons (ps_set (i := 2) sc_law.nd rfl (Or.inl rfl) (pe_cal C_law_any (hr.mono (by decide)) (by rfl) pass0 (pa_cons (pe_cal C_law_pot (hr.mono (by decide)) (by rfl) pass0 (pa_cons (pe_cal C_law_at (hr.mono (by decide)) (by rfl) pass0 (pa_cons (pv 0) (pa_cons (pv 1) pa_nil))) pa_nil)) pa_nil)))
    (pss_cons (ps_set (i := 3) sc_law.nd rfl (Or.inl rfl) (pe_calk0 C_sum_of_kw (hr.mono (by decide)) (by rfl) pass0 (pk_cons (pv 2) pk_nil)))
    (pss_one (ps_if (PW.pt (pw_or (pt_not (pt_val (pe_callB call_isi (by rfl) B.isinstance (by decide +kernel) (pa_cons (pv 3) (pa_cons (pe_bltn (v := .ty "str") (by rfl) B.str (by decide +kernel) rfl) pa_nil))))) (pw_or (pt_cmpR op_ne (pv 3) (pe_cal C_law_sum (hr.mono (by decide)) (by rfl) pass0 (pa_cons (pv 2) pa_nil)) (nomark _)) (pw_or1 (pt_cmpR op_ne (pe_cal C_sum_of (hr.mono (by decide)) (by rfl) pass0 (pa_cons (pv 2) pa_nil)) (pv 3) (nomark _))))))
      (pss_one (ps_ret pe_bl))
      pss_nil)))))
    (pss_one (ps_ret (pe_and (pe_cmpR op_eq (pe_cal C_sum_of (hr.mono (by decide)) (by rfl) pass0 (pa_cons pe_str pa_nil)) pe_str (nomark _)) (pe_one (pe_cmpR op_eq (pe_cal C_sum_of (hr.mono (by decide)) (by rfl) pass0 (pa_cons pe_str pa_nil)) pe_str (nomark _))))))), ?_⟩
    refine ⟨_, rfl, _, ns.length, rfl, .inl ⟨_, hS, by simp⟩, _, _, rfl, _, _, rfl, ?_⟩
    generalize e : (if (if (12 : Int) < (ns.length : Int) then (12 : Int) else (ns.length : Int)) > 1 then _ else _ : Int) = n
    have hn0 : 0 ≤ n ∧ n ≤ 100 := by
      rw [← e]
      split <;> (try split) <;> omega
    refine ⟨n, rfl, by omega, by omega, for_range (lo := 0) (n := n.toNat) (fun i σ H' => ∃ v1 v2 v3, σ = [some (.ref a), v1, v2, v3] ∧ Same H H') ⟨none, none, none, rfl, Same.refl H⟩ ?_ ?_⟩
    · rintro i σ H' hi ⟨v1, v2, v3, rfl, s1⟩
      refine ⟨_, rfl, _, congrArg (fun v => some (some v)) (congrArg V.int (Int.zero_add _)), a, ns, i, rfl, s1.seq hS, fun c => ?_⟩
      refine ⟨c, rfl, fun p H2 s2 f2 p2 => ?_⟩
      refine ⟨p, _, _, rfl, p2, fun z H3 a' b' s3 p3 => ?_⟩
      have t3 : Same H H3 := Same.but (s1.trans s2) s3 (s1.free f2)
      refine ⟨_, rfl, rfl, rfl, z, rfl, ?_⟩
      refine ⟨_, rfl, _, _, _, _, true, rfl, .ty _, .base (.str _), kSS, true, rfl, ?_⟩
      refine iteF ?_
      refine ⟨_, rfl, _, rfl, z, rfl, rfl, _, rfl, ?_⟩
      refine iteF' (by simp) ?_
      refine ⟨_, rfl, z, rfl, _, rfl, rfl, _, rfl, ?_⟩
      refine iteF' (by simp) ?_
      exact ⟨_, _, _, rfl, t3⟩
    · rintro σ H' ⟨v1, v2, v3, rfl, s1⟩
      refine ⟨_, rfl, rfl, true, ?_, ?_⟩
      · decide +kernel
      · refine iteT ?_
        refine ⟨_, rfl, rfl, ?_⟩
        have : (decide (V.str (sumS (Str.ofString "words b 0 2 ab c7")) = V.str (Str.ofString "09ac"))) = true := by decide +kernel
        rw [this]
        exact k H'
end
theorem all_mk {P : Program} {w : World} {K : PySem.W.Frag} {h : Heap} {mg : Str → Option Value} {fa : Addr} (X : K.In h) (G : h.Ns mainGlobals mg) (hfa : mg "law" = some (.ref fa))
    {tk_FIGURES0 : Tok}
    {f_sixteens : Addr} {oc_sixteens kV_sixteens dc_sixteens pm_sixteens cd_sixteens ct_sixteens : Value} {od_sixteens an_sixteens : Option Addr} {sl_sixteens : Array (Option Value)}
    {f_sum_of : Addr} {oc_sum_of kV_sum_of dc_sum_of pm_sum_of cd_sum_of ct_sum_of : Value} {od_sum_of an_sum_of : Option Addr} {sl_sum_of : Array (Option Value)}
    {f_l_at : Addr} {oc_l_at kV_l_at dc_l_at pm_l_at cd_l_at ct_l_at : Value} {od_l_at an_l_at : Option Addr} {sl_l_at : Array (Option Value)}
    {f_l_pot : Addr} {oc_l_pot kV_l_pot dc_l_pot pm_l_pot cd_l_pot ct_l_pot : Value} {od_l_pot an_l_pot : Option Addr} {sl_l_pot : Array (Option Value)}
    {f_l_take : Addr} {oc_l_take kV_l_take dc_l_take pm_l_take cd_l_take ct_l_take : Value} {od_l_take an_l_take : Option Addr} {sl_l_take : Array (Option Value)}
    {f_l_hex : Addr} {oc_l_hex kV_l_hex dc_l_hex pm_l_hex cd_l_hex ct_l_hex : Value} {od_l_hex an_l_hex : Option Addr} {sl_l_hex : Array (Option Value)}
    {f_l_sum : Addr} {oc_l_sum kV_l_sum dc_l_sum pm_l_sum cd_l_sum ct_l_sum : Value} {od_l_sum an_l_sum : Option Addr} {sl_l_sum : Array (Option Value)}
    {f_l_any : Addr} {oc_l_any kV_l_any dc_l_any pm_l_any cd_l_any ct_l_any : Value} {od_l_any an_l_any : Option Addr} {sl_l_any : Array (Option Value)}
    {f_law : Addr} {oc_law kV_law dc_law pm_law cd_law ct_law : Value} {od_law an_law : Option Addr} {sl_law : Array (Option Value)}
    (z_len : PySem.W.nsIn K mainGlobals "len" = some none)
    (z_max : PySem.W.nsIn K mainGlobals "max" = some none)
    (z_min : PySem.W.nsIn K mainGlobals "min" = some none)
    (z_abs : PySem.W.nsIn K mainGlobals "abs" = some none)
    (z_divmod : PySem.W.nsIn K mainGlobals "divmod" = some none)
    (z_range : PySem.W.nsIn K mainGlobals "range" = some none)
    (z_ord : PySem.W.nsIn K mainGlobals "ord" = some none)
    (z_isinstance : PySem.W.nsIn K mainGlobals "isinstance" = some none)
    (z_int : PySem.W.nsIn K mainGlobals "int" = some none)
    (z_str : PySem.W.nsIn K mainGlobals "str" = some none)
    (z_bool : PySem.W.nsIn K mainGlobals "bool" = some none)
    (z_list : PySem.W.nsIn K mainGlobals "list" = some none)
    (z_tuple : PySem.W.nsIn K mainGlobals "tuple" = some none)
    (z_dict : PySem.W.nsIn K mainGlobals "dict" = some none)
    (z_set : PySem.W.nsIn K mainGlobals "set" = some none)
    (z_all : PySem.W.nsIn K mainGlobals "all" = some none)
    (z_any : PySem.W.nsIn K mainGlobals "any" = some none)
    (z_sorted : PySem.W.nsIn K mainGlobals "sorted" = some none)
    (z_enumerate : PySem.W.nsIn K mainGlobals "enumerate" = some none)
    (z_zip : PySem.W.nsIn K mainGlobals "zip" = some none)
    (z_repr : PySem.W.nsIn K mainGlobals "repr" = some none)
    (z_sum : PySem.W.nsIn K mainGlobals "sum" = some none)
    (a_FIGURES : PySem.W.nsIn K mainGlobals "FIGURES" = some (some (.str "0123456789abcdef" tk_FIGURES0)))
    (a_sixteens : PySem.W.nsIn K mainGlobals "sixteens" = some (some (.ref f_sixteens)))
    (l_sixteens : K.lookup f_sixteens = some ⟨oc_sixteens, od_sixteens, .func (PySem.W.fnOf "sixteens" "sixteens" (defArgs s_sixteens) (defBody s_sixteens) (defScope s_sixteens) .none kV_sixteens dc_sixteens pm_sixteens an_sixteens cd_sixteens ct_sixteens), sl_sixteens⟩)
    (c_sixteens : PySem.W.codeIn K cd_sixteens "sixteens" = true)
    (k_sixteens : PySem.W.keepIn K (.ref f_sixteens) = true)
    (a_sum_of : PySem.W.nsIn K mainGlobals "sum_of" = some (some (.ref f_sum_of)))
    (l_sum_of : K.lookup f_sum_of = some ⟨oc_sum_of, od_sum_of, .func (PySem.W.fnOf "sum_of" "sum_of" (defArgs s_sum_of) (defBody s_sum_of) (defScope s_sum_of) .none kV_sum_of dc_sum_of pm_sum_of an_sum_of cd_sum_of ct_sum_of), sl_sum_of⟩)
    (c_sum_of : PySem.W.codeIn K cd_sum_of "sum_of" = true)
    (k_sum_of : PySem.W.keepIn K (.ref f_sum_of) = true)
    (a_l_at : PySem.W.nsIn K mainGlobals "_law_at" = some (some (.ref f_l_at)))
    (l_l_at : K.lookup f_l_at = some ⟨oc_l_at, od_l_at, .func (PySem.W.fnOf "_law_at" "_law_at" (defArgs s_l_at) (defBody s_l_at) (defScope s_l_at) .none kV_l_at dc_l_at pm_l_at an_l_at cd_l_at ct_l_at), sl_l_at⟩)
    (c_l_at : PySem.W.codeIn K cd_l_at "_law_at" = true)
    (k_l_at : PySem.W.keepIn K (.ref f_l_at) = true)
    (a_l_pot : PySem.W.nsIn K mainGlobals "_law_pot" = some (some (.ref f_l_pot)))
    (l_l_pot : K.lookup f_l_pot = some ⟨oc_l_pot, od_l_pot, .func (PySem.W.fnOf "_law_pot" "_law_pot" (defArgs s_l_pot) (defBody s_l_pot) (defScope s_l_pot) .none kV_l_pot dc_l_pot pm_l_pot an_l_pot cd_l_pot ct_l_pot), sl_l_pot⟩)
    (c_l_pot : PySem.W.codeIn K cd_l_pot "_law_pot" = true)
    (k_l_pot : PySem.W.keepIn K (.ref f_l_pot) = true)
    (a_l_take : PySem.W.nsIn K mainGlobals "_law_take" = some (some (.ref f_l_take)))
    (l_l_take : K.lookup f_l_take = some ⟨oc_l_take, od_l_take, .func (PySem.W.fnOf "_law_take" "_law_take" (defArgs s_l_take) (defBody s_l_take) (defScope s_l_take) .none kV_l_take dc_l_take pm_l_take an_l_take cd_l_take ct_l_take), sl_l_take⟩)
    (c_l_take : PySem.W.codeIn K cd_l_take "_law_take" = true)
    (k_l_take : PySem.W.keepIn K (.ref f_l_take) = true)
    (a_l_hex : PySem.W.nsIn K mainGlobals "_law_hex" = some (some (.ref f_l_hex)))
    (l_l_hex : K.lookup f_l_hex = some ⟨oc_l_hex, od_l_hex, .func (PySem.W.fnOf "_law_hex" "_law_hex" (defArgs s_l_hex) (defBody s_l_hex) (defScope s_l_hex) .none kV_l_hex dc_l_hex pm_l_hex an_l_hex cd_l_hex ct_l_hex), sl_l_hex⟩)
    (c_l_hex : PySem.W.codeIn K cd_l_hex "_law_hex" = true)
    (k_l_hex : PySem.W.keepIn K (.ref f_l_hex) = true)
    (a_l_sum : PySem.W.nsIn K mainGlobals "_law_sum" = some (some (.ref f_l_sum)))
    (l_l_sum : K.lookup f_l_sum = some ⟨oc_l_sum, od_l_sum, .func (PySem.W.fnOf "_law_sum" "_law_sum" (defArgs s_l_sum) (defBody s_l_sum) (defScope s_l_sum) .none kV_l_sum dc_l_sum pm_l_sum an_l_sum cd_l_sum ct_l_sum), sl_l_sum⟩)
    (c_l_sum : PySem.W.codeIn K cd_l_sum "_law_sum" = true)
    (k_l_sum : PySem.W.keepIn K (.ref f_l_sum) = true)
    (a_l_any : PySem.W.nsIn K mainGlobals "_law_any" = some (some (.ref f_l_any)))
    (l_l_any : K.lookup f_l_any = some ⟨oc_l_any, od_l_any, .func (PySem.W.fnOf "_law_any" "_law_any" (defArgs s_l_any) (defBody s_l_any) (defScope s_l_any) .none kV_l_any dc_l_any pm_l_any an_l_any cd_l_any ct_l_any), sl_l_any⟩)
    (c_l_any : PySem.W.codeIn K cd_l_any "_law_any" = true)
    (k_l_any : PySem.W.keepIn K (.ref f_l_any) = true)
    (a_law : PySem.W.nsIn K mainGlobals "law" = some (some (.ref f_law)))
    (l_law : K.lookup f_law = some ⟨oc_law, od_law, .func (PySem.W.fnOf "law" "law" (defArgs s_law) (defBody s_law) (defScope s_law) .none kV_law dc_law pm_law an_law cd_law ct_law), sl_law⟩)
    (c_law : PySem.W.codeIn K cd_law "law" = true)
    (k_law : PySem.W.keepIn K (.ref f_law) = true) :
    ∃ fd : FuncData, (∀ (s : Shared) (v : Value), BindsTo s fd ⟨[v], []⟩ [("script", v)]) ∧ ∀ base : Heap, K.In base → base.Ns mainGlobals mg → FnOk P w K mg base CX0 3 fa fd ["script"] (sp_law K) := by
  have e := hfa.symm.trans (PySem.W.mg_of X G a_law)
  cases e
  have F_law := fun_mk (st := s_law) l_law c_law k_law
  refine ⟨PySem.W.fnOf "law" "law" (defArgs s_law) (defBody s_law) (defScope s_law) .none kV_law dc_law pm_law an_law cd_law ct_law, fun s v => .of_eq rfl, fun base _ _ => ?_⟩
  have B : Bt mg := ⟨PySem.W.mg_none_of X G z_len, PySem.W.mg_none_of X G z_max, PySem.W.mg_none_of X G z_min, PySem.W.mg_none_of X G z_abs, PySem.W.mg_none_of X G z_divmod, PySem.W.mg_none_of X G z_range, PySem.W.mg_none_of X G z_ord, PySem.W.mg_none_of X G z_isinstance, PySem.W.mg_none_of X G z_int, PySem.W.mg_none_of X G z_str, PySem.W.mg_none_of X G z_bool, PySem.W.mg_none_of X G z_list, PySem.W.mg_none_of X G z_tuple, PySem.W.mg_none_of X G z_dict, PySem.W.mg_none_of X G z_set, PySem.W.mg_none_of X G z_all, PySem.W.mg_none_of X G z_any, PySem.W.mg_none_of X G z_sorted, PySem.W.mg_none_of X G z_enumerate, PySem.W.mg_none_of X G z_zip, PySem.W.mg_none_of X G z_repr, PySem.W.mg_none_of X G z_sum⟩
  have g_FIGURES := PySem.W.mg_of X G a_FIGURES
  have C_sixteens : Cal P w K mg base CX0 "sixteens" 1 ["number"] sp_hex := cal_mk X G a_sixteens l_sixteens c_sixteens k_sixteens (fun _ _ _ _ _ _ us hl => match us, hl with | [_], _ => rfl) (fun F => ok_sixteens F B g_FIGURES)
  have C_sum_of : Cal P w K mg base CX0 "sum_of" 2 ["text"] sp_sum := cal_mk X G a_sum_of l_sum_of c_sum_of k_sum_of (fun _ _ _ _ _ _ us hl => match us, hl with | [_], _ => rfl) (fun F => ok_sum_of F B C_sixteens)
  have C_sum_of_kw : CalK P w K mg base CX0 "sum_of" 2 ["text"] 0 ["text"] (fun _ zs => zs) sp_sum := calk_mk (g := fun _ zs => zs) X G a_sum_of l_sum_of c_sum_of k_sum_of (fun _ _ _ _ _ _ us ws h1 h2 => match us, ws, h1, h2 with | [], [_], _, _ => rfl) (fun _ r => r) (fun F => ok_sum_of F B C_sixteens)
  have C_law_at : Cal P w K mg base CX0 "_law_at" 1 ["script", "k"] (sp_l_at K) := cal_mk X G a_l_at l_l_at c_l_at k_l_at (fun _ _ _ _ _ _ us hl => match us, hl with | [_, _], _ => rfl) (fun F => ok_l_at F B)
  have C_law_pot : Cal P w K mg base CX0 "_law_pot" 1 ["cell"] sp_l_pot := cal_mk X G a_l_pot l_l_pot c_l_pot k_l_pot (fun _ _ _ _ _ _ us hl => match us, hl with | [_], _ => rfl) (fun F => ok_l_pot F B)
  have C_law_take : Cal P w K mg base CX0 "_law_take" 1 ["pot", "many"] sp_l_take := cal_mk X G a_l_take l_l_take c_l_take k_l_take (fun _ _ _ _ _ _ us hl => match us, hl with | [_, _], _ => rfl) (fun F => ok_l_take F B)
  have C_law_hex : Cal P w K mg base CX0 "_law_hex" 1 ["number"] sp_hex := cal_mk X G a_l_hex l_l_hex c_l_hex k_l_hex (fun _ _ _ _ _ _ us hl => match us, hl with | [_], _ => rfl) (fun F => ok_l_hex F B)
  have C_law_sum : Cal P w K mg base CX0 "_law_sum" 2 ["row"] sp_sum := cal_mk X G a_l_sum l_l_sum c_l_sum k_l_sum (fun _ _ _ _ _ _ us hl => match us, hl with | [_], _ => rfl) (fun F => ok_l_sum F B C_law_hex)
  have C_law_any : Cal P w K mg base CX0 "_law_any" 2 ["pot"] sp_l_any := cal_mk X G a_l_any l_l_any c_l_any k_l_any (fun _ _ _ _ _ _ us hl => match us, hl with | [_], _ => rfl) (fun F => ok_l_any F B C_law_take)
  exact ok_law F_law B C_law_at C_law_pot C_law_any C_sum_of C_sum_of_kw C_law_sum
theorem walk {l : PySem.W.OpenLaw} {q : Program} {loose : List Str} {XP : (Str → Option Value) → Heap → Prop} {YP : World → Heap → Prop} {d : DefRec} {K : Params → PySem.W.Frag} (hn : l.most = some 63) (hdf : d.params.defaults = [])
    (hY : ∀ (w : World) (h : Heap), YP w h → (K w.params).In h)
    (F : ∀ (w : World) (mg : Str → Option Value) (fa : Addr) (h : Heap), (K w.params).In h → h.Ns mainGlobals mg → mg d.name = some (.ref fa) →
      ∃ fd : FuncData, (∀ (s : Shared) (u : Value), BindsTo s fd ⟨[u], []⟩ [("script", u)]) ∧ ∀ base : Heap, (K w.params).In base → base.Ns mainGlobals mg → FnOk l.prog w (K w.params) mg base CX0 3 fa fd ["script"] (sp_law (K w.params))) :
    PySem.W.WalkO q loose XP YP l.row.toRowW d [] (fun f vs => PySem.call f vs) :=
  L2.walk_of (n := 63) (k := 3) (x := "script") (CX := fun _ => CX0) (sp := fun w => sp_law (K w.params)) hn (by decide) hdf ⟨rfl, by decide, by decide⟩ hY F (fun _ _ a ns hl _ hS => ⟨a, ns, rfl, hS, hl, fun _ => rfl⟩) fun _ _ _ _ _ z => z
end Cl
open PySem PySem.W PyProof.Rows
set_option maxRecDepth 100000 in
set_option maxHeartbeats 0 in
theorem PySem.Challenge.cw_cleanedlog_k11_sums_holds : PySem.Challenge.rw_cleanedlog_k11_sums.Holds := by
  w_on; o_law; k_head; (case hw => w_witness2)
  k_fill
  refine Cl.walk (l := PySem.Challenge.rw_cleanedlog_k11_sums) rfl rfl (fun w h Y => PySem.W.kIn_of Y) ?F
  case F =>
    intro w mg fa h KX G hmg
    refine' Cl.all_mk KX G hmg ?z_len ?z_max ?z_min ?z_abs ?z_divmod ?z_range ?z_ord ?z_isinstance ?z_int ?z_str ?z_bool ?z_list ?z_tuple ?z_dict ?z_set ?z_all ?z_any ?z_sorted ?z_enumerate ?z_zip ?z_repr ?z_sum ?a_FIGURES ?a_sixteens ?l_sixteens ?c_sixteens ?k_sixteens ?a_sum_of ?l_sum_of ?c_sum_of ?k_sum_of ?a_l_at ?l_l_at ?c_l_at ?k_l_at ?a_l_pot ?l_l_pot ?c_l_pot ?k_l_pot ?a_l_take ?l_l_take ?c_l_take ?k_l_take ?a_l_hex ?l_l_hex ?c_l_hex ?k_l_hex ?a_l_sum ?l_l_sum ?c_l_sum ?k_l_sum ?a_l_any ?l_l_any ?c_l_any ?k_l_any ?a_law ?l_law ?c_law ?k_law
    (case z_len => k_is); (case z_max => k_is); (case z_min => k_is); (case z_abs => k_is); (case z_divmod => k_is); (case z_range => k_is); (case z_ord => k_is); (case z_isinstance => k_is); (case z_int => k_is); (case z_str => k_is); (case z_bool => k_is); (case z_list => k_is); (case z_tuple => k_is); (case z_dict => k_is); (case z_set => k_is); (case z_all => k_is); (case z_any => k_is); (case z_sorted => k_is); (case z_enumerate => k_is); (case z_zip => k_is); (case z_repr => k_is); (case z_sum => k_is); (case a_FIGURES => k_is); (case a_sixteens => k_is); (case l_sixteens => k_is); (case c_sixteens => k_is); (case k_sixteens => k_is); (case a_sum_of => k_is); (case l_sum_of => k_is); (case c_sum_of => k_is); (case k_sum_of => k_is); (case a_l_at => k_is); (case l_l_at => k_is); (case c_l_at => k_is); (case k_l_at => k_is); (case a_l_pot => k_is); (case l_l_pot => k_is); (case c_l_pot => k_is); (case k_l_pot => k_is); (case a_l_take => k_is); (case l_l_take => k_is); (case c_l_take => k_is); (case k_l_take => k_is); (case a_l_hex => k_is); (case l_l_hex => k_is); (case c_l_hex => k_is); (case k_l_hex => k_is); (case a_l_sum => k_is); (case l_l_sum => k_is); (case c_l_sum => k_is); (case k_l_sum => k_is); (case a_l_any => k_is); (case l_l_any => k_is); (case c_l_any => k_is); (case k_l_any => k_is); (case a_law => k_is); (case l_law => k_is); (case c_law => k_is); (case k_law => k_is)
