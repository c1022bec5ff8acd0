import PyProof.Rows.All
import Wide.All
import OpenK.AllK
import Wide.FinOn
import HandS.ForMost
import HandS.Defaults
import HandS.Star
import HandS.ClsMeth
import HandS.Property
import PyProof.RulesMatch
import HandS.DictComp
import HandS.OwnEq
import HandS.More
import PyProof.InstNe
import HandS.HeadHook4
import HandS.IsInst
import KE.KExcSuper
import KE.KExcInit
import KE.KStateDown
import HandS.Head0
import HandS.Head1
import HandS.Head2
import HandS.Walk
import KE.KDictOf
import HandS.SortInts
import HandS.SortRule
import HandS.SetKeys
import KE.GoesEnumKw
import HandS.CallLocal
import HandS.NamedTupGet
import PyProof.DictUpdate
import HandS.ForExc
import HandS.TryOnly
import HandS.HeadWalk
import HandS.ExcOwn
import HandS.Finally
import HandS.Style
import HandS.Lambda
import HandS.TryMany
import HandS.NestedK
import PySem.Challenge.RW_tapeeffect_k75_whole_sessions_follow_the
/-! part XA -/
set_option Elab.async false
set_option linter.all false
set_option maxRecDepth 100000
set_option maxHeartbeats 2000000
/-! own layer, part A: calls by raw promises (positional values, keyword values), match, what is never reached -/
namespace Tp
open PySem PySem.Spec PyProof.Rows L2

/-- an expression that is never reached -/
def tNo : TE := fun _ _ _ => False
theorem pe_no {X : Cx} {e : Expr} : PE X e tNo := ⟨fun _ _ _ _ _ _ h => h.elim⟩
theorem pt_no {X : Cx} {e : Expr} : PT X e (fun _ _ _ => False) := ⟨fun _ _ _ _ _ _ h => h.elim⟩

/-- a promise by positional values and keyword values (names ks); the promise speaks of vs ++ zs -/
def FnN (P : Program) (w : World) (K : PySem.W.Frag) (mg : Str → Option Value) (base : Heap) (CX : CXT) (k : Nat) (f : Addr) (n : Nat) (ks : List Str) (sp : Sp) : Prop :=
  ∀ (A : Around) (outer : List Env) (s : Shared) (H : Hp) (us ws : List Value) (vs zs : List V) (Q : VK) (E : XK), Room k A → Env0 P w K mg base A outer s H → Vals vs us → Vals zs ws → vs.length = n → zs.length = ks.length → sp (vs ++ zs) H Q E →
    codeAny (model P w) A (.call (.ref f) ⟨us, ks.zip ws⟩) (CR CX outer P w H s Q E) s
section
variable {P : Program} {w : World} {K : PySem.W.Frag} {mg : Str → Option Value} {base : Heap} {CX : CXT} {j k n : Nat} {f : Addr} {sp sp' : Sp} {ks : List Str}
theorem FnN.mono (F : FnN P w K mg base CX j f n ks sp) (h : j ≤ k) : FnN P w K mg base CX k f n ks sp := fun A outer s H us ws vs zs Q E hr => F A outer s H us ws vs zs Q E (hr.mono h)
theorem fnN_of {fd : FuncData} {ps : List Str} {g : List Value → List Value → List Value} {gV : List V → List V → List V} (F : FnOk P w K mg base CX k f fd ps sp) (hb : KBn K fd ps n ks g gV) (hg : ∀ vs zs, vs.length = n → zs.length = ks.length → gV vs zs = vs ++ zs) :
    FnN P w K mg base CX k f n ks sp := by
  intro A outer s H us ws vs zs Q E hr e0 r rz l1 l2 hs
  have r2 := hb.rel r rz
  rw [hg vs zs l1 l2] at r2
  exact F.run A outer s H ⟨us, ks.zip ws⟩ (g us ws) (vs ++ zs) Q E hr e0 (hb.to s us ws (e0.mod.kin.keeps fun b o e => (e0.bs b o e).1) (r.length.symm.trans l1) (rz.length.symm.trans l2)) r2 hs
end

section
variable {X : Cx} {pins : List (Addr × Obj)} {σ : L2.St} {H : Hp} {s : Shared}
theorem run_fnNr {CX : CXT} {k n : Nat} {f : Addr} {ks : List Str} {sp : Sp} {E : XK} {Q : VK} {us ws : List Value} {vs zs : List V} (F : FnN X.prog X.w X.K X.mg X.base CX k f n ks sp) (hr : Room k X.A) (hx : Passes CX X E) (I : Inv X pins σ H s) (r : Vals vs us) (rz : Vals zs ws)
    (l1 : vs.length = n) (l2 : zs.length = ks.length) (h : sp (vs ++ zs) H Q E) :
    wpAny (model X.prog X.w) X.A (call (.ref f) us (ks.zip ws)) (EP X pins σ Q) X.xe s := by
  refine wpAny_call (codeAny_mono (F X.A X.stack s H us ws vs zs Q E hr I.env0 r rz l1 l2 h) fun r s' hq => ?_)
  cases r with
  | error e => exact hx pins σ H s e s' I hq
  | ok fl =>
    cases fl with
    | ret u => exact I.after hq
    | next => exact False.elim hq
    | brk => exact False.elim hq
    | cont => exact False.elim hq
end

/-- f(e, ..) -/
def tCallR (sp : Sp) (E : XK) (t : TA) : TE := fun σ H Q => t σ H fun vs H1 => sp vs H1 Q E
/-- f(e, .., k = v) -/
def tCallM (n m : Nat) (sp : Sp) (E : XK) (t tk : TA) : TE := fun σ H Q => t σ H fun vs H1 => tk σ H1 fun zs H2 => vs.length = n ∧ zs.length = m ∧ sp (vs ++ zs) H2 Q E
def tMethM (C : Addr) (m : Str) (n mk : Nat) (sp : Sp) (E : XK) (ta : TE) (t tk : TA) : TE := fun σ H Q => ta σ H fun x H1 => ∃ a dx fs, x = .ref a ∧ H1 a = some (.ins C dx fs) ∧ fs.lookup m = none ∧
  t σ H1 fun vs H2 => tk σ H2 fun zs H3 => vs.length + 1 = n ∧ zs.length = mk ∧ sp (x :: (vs ++ zs)) H3 Q E
def tMakeM (C : Addr) (n m : Nat) (sp : Sp) (E : XK) (t tk : TA) : TE := fun σ H Q => t σ H fun vs H1 => tk σ H1 fun zs H2 => vs.length + 1 = n ∧ zs.length = m ∧
  ∀ x dx, H2 x = none → H2 dx = none → dx ≠ x → sp (.ref x :: (vs ++ zs)) (upd (upd H2 dx (.own x)) x (.ins C dx [])) (fun v H3 => v = .non ∧ Q (.ref x) H3) E

section
variable {X : Cx} {CX : CXT} {k n : Nat} {f C : Addr} {ks : List Str} {sp : Sp} {E : XK} {x m : Str} {p pos apos : Pos} {e o : Expr} {es : List Expr} {kws : List Keyword} {ta : TE} {t tk : TA}
theorem pe_cR (F : FnR X.prog X.w X.K X.mg X.base CX k f sp) (hr : Room k X.A) (hg : Gl X x) (hm : X.mg x = some (.ref f)) (hk : PySem.W.keepIn X.K (.ref f) = true) (hx : Passes CX X E)
    (ha : PA X (e :: es) t) (hdb : (x == ("__debug__" : Str)) = false := by decide) (he : starEach (e :: es) X.env = (false, eval e X.env) :: starEach es X.env := by rfl) (hpl : (backTo pos (starEach es X.env)).any (·.1) = false := by rfl) :
    PE X (.Call (.Name x p) (e :: es) [] pos) (tCallR sp E t) := by
  refine ⟨fun pins s σ H Q I h => ?_⟩
  refine wpAny_Call_Name_kw (ld_glob I hg hm ?_ hdb)
  refine PySem.W.callWith_K (h₀ := X.base) I.ok.mod.kin hk (thn (ha.run pos pins s σ H _ I h) fun us s1 ⟨vs, H1, I1, r, q⟩ => ⟨I1.kIn, ?_⟩) he hpl
  exact wpAny_call (run_fnR F hr hx I1 r q)
theorem pe_cR0 (F : FnR X.prog X.w X.K X.mg X.base CX k f sp) (hr : Room k X.A) (hg : Gl X x) (hm : X.mg x = some (.ref f)) (hk : PySem.W.keepIn X.K (.ref f) = true) (hx : Passes CX X E)
    (hdb : (x == ("__debug__" : Str)) = false := by decide) : PE X (.Call (.Name x p) [] [] pos) (tCallR sp E tNil) := by
  refine ⟨fun pins s σ H Q I h => ?_⟩
  refine wpAny_Call_Name_kw (ld_glob I hg hm ?_ hdb)
  exact PySem.W.callWith_K0 I.kIn hk (wpAny_call (run_fnR (us := []) F hr hx I .nil h))
theorem pe_cM (F : FnN X.prog X.w X.K X.mg X.base CX k f n ks sp) (hr : Room k X.A) (hg : Gl X x) (hm : X.mg x = some (.ref f)) (hk : PySem.W.keepIn X.K (.ref f) = true) (hx : Passes CX X E)
    (ha : PA X (e :: es) t) (hkw : PK X kws tk) (hall : (backToKw pos (keywordEach kws X.env)).all (·.1.isSome) = true := by rfl) (hks : (backToKw pos (keywordEach kws X.env)).filterMap (·.1) = ks := by rfl)
    (hdb : (x == ("__debug__" : Str)) = false := by decide) (he : starEach (e :: es) X.env = (false, eval e X.env) :: starEach es X.env := by rfl)
    (hpl : ((backTo pos (starEach (e :: es) X.env)).any (·.1) || (backToKw pos (keywordEach kws X.env)).any (·.1.isNone)) = false := by rfl) :
    PE X (.Call (.Name x p) (e :: es) kws pos) (tCallM n ks.length sp E t tk) := by
  refine ⟨fun pins s σ H Q I h => ?_⟩
  refine wpAny_Call_Name_kw (ld_glob I hg hm ?_ hdb)
  refine PySem.W.callWith_KW (h₀ := X.base) I.ok.mod.kin hk hall (thn (ha.run pos pins s σ H _ I h) fun us s1 ⟨vs, H1, I1, r, q⟩ => ?_) hpl he
  refine thn (hkw.run pos pins s1 σ H1 _ I1 q) fun ws s2 ⟨zs, H2, I2, rz, l1, l2, q2⟩ => ⟨I2.kIn, ?_⟩
  rw [hks]
  exact run_fnNr F hr hx I2 r rz l1 l2 q2
/-- o.m() -/
theorem pe_mR0 {pl : Sem Bool} (he : PE X o ta) (c : Cls X.K C) (hm : Meth X.K C m f) (F : FnR X.prog X.w X.K X.mg X.base CX k f sp) (hr : Room k X.A) (hx : Passes CX X E)
    (ht : eval (.Call (.Attribute o m apos) [] [] pos) X.env = (do
      let ov ← eval o X.env
      standAt apos.atName
      let (f, first) ← holding [ov] (getMethod ov m pl)
      callWith pos f first (backTo pos (starEach [] X.env)) (backToKw pos (keywordEach [] X.env))) := by rfl) :
    PE X (.Call (.Attribute o m apos) [] [] pos) (tMethR C m sp E ta tNil) := by
  refine ⟨fun pins s σ H Q I h => ?_⟩
  refine PySem.W.methodCall_KW (pl := pl) (thn (he.run pins s σ H _ I h) fun u s1 ⟨x, H1, I1, rx, a, dx, fs, ex, ea, l, q⟩ => ?_) ht
  subst ex
  obtain rfl : u = Value.ref a := rx
  refine getmeth_ok I1 ea c hm l ?_
  exact PySem.W.callWith_K0 (first := [.ref a]) I1.kIn hm.kp (wpAny_call (run_fnR (us := [.ref a]) (vs := [.ref a]) F hr hx I1 (.cons rfl .nil) q))
/-- o.m(e, .., k = v) -/
theorem pe_mM {pl : Sem Bool} (he : PE X o ta) (c : Cls X.K C) (hm : Meth X.K C m f) (F : FnN X.prog X.w X.K X.mg X.base CX k f n ks sp) (hr : Room k X.A) (hx : Passes CX X E) (ha : PA X (e :: es) t) (hkw : PK X kws tk)
    (hall : (backToKw pos (keywordEach kws X.env)).all (·.1.isSome) = true := by rfl) (hks : (backToKw pos (keywordEach kws X.env)).filterMap (·.1) = ks := by rfl)
    (hst : starEach (e :: es) X.env = (false, eval e X.env) :: starEach es X.env := by rfl)
    (hpl : ((backTo pos (starEach (e :: es) X.env)).any (·.1) || (backToKw pos (keywordEach kws X.env)).any (·.1.isNone)) = false := by rfl)
    (ht : eval (.Call (.Attribute o m apos) (e :: es) kws pos) X.env = (do
      let ov ← eval o X.env
      standAt apos.atName
      let (f, first) ← holding [ov] (getMethod ov m pl)
      callWith pos f first (backTo pos (starEach (e :: es) X.env)) (backToKw pos (keywordEach kws X.env))) := by rfl) :
    PE X (.Call (.Attribute o m apos) (e :: es) kws pos) (tMethM C m n ks.length sp E ta t tk) := by
  refine ⟨fun pins s σ H Q I h => ?_⟩
  refine PySem.W.methodCall_KW (pl := pl) (thn (he.run pins s σ H _ I h) fun u s1 ⟨x, H1, I1, rx, a, dx, fs, ex, ea, l, q⟩ => ?_) ht
  subst ex
  obtain rfl : u = Value.ref a := rx
  refine getmeth_ok I1 ea c hm l ?_
  refine PySem.W.callWith_KW (first := [.ref a]) (h₀ := X.base) I.ok.mod.kin hm.kp hall (thn (ha.run pos pins s1 σ H1 _ I1 q) fun us s2 ⟨vs, H2, I2, r, q2⟩ => ?_) hpl hst
  refine thn (hkw.run pos pins s2 σ H2 _ I2 q2) fun ws s3 ⟨zs, H3, I3, rz, l1, l2, q3⟩ => ⟨I3.kIn, ?_⟩
  rw [hks]
  exact run_fnNr (us := .ref a :: us) (vs := .ref a :: vs) F hr hx I3 (.cons rfl r) rz l1 l2 q3
/-- C() -/
theorem pe_kR0 (M : Mk X.K C f) (F : FnR X.prog X.w X.K X.mg X.base CX k f sp) (hr : Room (k + 1) X.A) (hg : Gl X x) (hm : X.mg x = some (.ref C)) (hx : Passes CX X E) (hdb : (x == ("__debug__" : Str)) = false := by decide) :
    PE X (.Call (.Name x p) [] [] pos) (StX.tMakeR C sp E tNil) := by
  refine ⟨fun pins s σ H Q I h => ?_⟩
  refine wpAny_Call_Name_kw (ld_glob I hg hm ?_ hdb)
  exact PySem.W.callWith_K0 I.kIn M.kp (StX.run_makeR (us := []) M F hr hx I .nil h)
theorem run_makeM {pins : List (Addr × Obj)} {σ : L2.St} {H : Hp} {s : Shared} {Q : VK} {us ws : List Value} {vs zs : List V} (M : Mk X.K C f) (F : FnN X.prog X.w X.K X.mg X.base CX k f n ks sp) (hr : Room (k + 1) X.A) (hx : Passes CX X E) (I : Inv X pins σ H s) (r : Vals vs us) (rz : Vals zs ws) (l1 : vs.length + 1 = n) (l2 : zs.length = ks.length)
    (h : ∀ x dx, H x = none → H dx = none → dx ≠ x → sp (V.ref x :: (vs ++ zs)) (upd (upd H dx (.own x)) x (.ins C dx [])) (fun v H2 => v = .non ∧ Q (.ref x) H2) E) :
    wpAny (model X.prog X.w) X.A (call (.ref C) us (ks.zip ws)) (EP X pins σ Q) X.xe s := by
  have hq := h (s.heap.objs.size + 1) s.heap.objs.size (I.hok.fresh (Nat.le_succ _)) (I.hok.fresh (Nat.le_refl _)) (Nat.ne_of_lt (Nat.lt_succ_self _))
  have I2 := Inv.made (C := C) I
  have r1 : Vals (V.ref (s.heap.objs.size + 1) :: vs) (Value.ref (s.heap.objs.size + 1) :: us) := .cons rfl r
  refine wpAny_call (make_map (f := f) I.kIn M.makes M.init (beq_iff_eq.mp M.fn) (codeAny_mono (F _ X.stack _ _ (Value.ref (s.heap.objs.size + 1) :: us) ws (V.ref (s.heap.objs.size + 1) :: vs) zs _ E (hr.make C us (ks.zip ws)) (I2.env0.make C us (ks.zip ws)) r1 rz l1 l2 hq) fun r s' hq' => ?_))
  cases r with
  | error e => exact hx pins σ _ _ e s' I2 hq'
  | ok fl =>
    cases fl with
    | ret u =>
      obtain ⟨v, H', I3, rv, ev, q3⟩ := I2.after hq'
      subst ev
      exact ⟨rv, ⟨V.ref (s.heap.objs.size + 1), H', I3, rfl, q3⟩⟩
    | next => exact False.elim hq'
    | brk => exact False.elim hq'
    | cont => exact False.elim hq'
/-- C(e, .., k = v) -/
theorem pe_kM (M : Mk X.K C f) (F : FnN X.prog X.w X.K X.mg X.base CX k f n ks sp) (hr : Room (k + 1) X.A) (hg : Gl X x) (hm : X.mg x = some (.ref C)) (hx : Passes CX X E) (ha : PA X (e :: es) t) (hkw : PK X kws tk)
    (hall : (backToKw pos (keywordEach kws X.env)).all (·.1.isSome) = true := by rfl) (hks : (backToKw pos (keywordEach kws X.env)).filterMap (·.1) = ks := by rfl)
    (hdb : (x == ("__debug__" : Str)) = false := by decide) (he : starEach (e :: es) X.env = (false, eval e X.env) :: starEach es X.env := by rfl)
    (hpl : ((backTo pos (starEach (e :: es) X.env)).any (·.1) || (backToKw pos (keywordEach kws X.env)).any (·.1.isNone)) = false := by rfl) :
    PE X (.Call (.Name x p) (e :: es) kws pos) (tMakeM C n ks.length sp E t tk) := by
  refine ⟨fun pins s σ H Q I h => ?_⟩
  refine wpAny_Call_Name_kw (ld_glob I hg hm ?_ hdb)
  refine PySem.W.callWith_KW (h₀ := X.base) I.ok.mod.kin M.kp hall (thn (ha.run pos pins s σ H _ I h) fun us s1 ⟨vs, H1, I1, r, q⟩ => ?_) hpl he
  refine thn (hkw.run pos pins s1 σ H1 _ I1 q) fun ws s2 ⟨zs, H2, I2, rz, l1, l2, q2⟩ => ⟨I2.kIn, ?_⟩
  rw [hks]
  exact run_makeM M F hr hx I2 r rz l1 l2 q2
end

/-! ### properties by a raw promise -/
def tPropR (C : Addr) (sp : Sp) (E : XK) (ta : TE) : TE := fun σ H Q => ta σ H fun x H1 => ∃ a dx fs, x = .ref a ∧ H1 a = some (.ins C dx fs) ∧ sp [.ref a] H1 Q E
section
variable {X : Cx} {CX : CXT} {k : Nat} {C p g a dx : Addr} {fs : List (Str × V)} {f : Str} {sp : Sp} {E : XK} {e : Expr} {pos : Pos} {ta : TE}
theorem getpropR_ok {pins : List (Addr × Obj)} {σ : L2.St} {H : Hp} {s : Shared} {Q : VK} {b : Bool} {E' : Value → Shared → Prop} (I : Inv X pins σ H s) (ea : H a = some (.ins C dx fs)) (c : Cls X.K C) (hp : PropOf X.K C f p g)
    (F : FnR X.prog X.w X.K X.mg X.base CX k g sp) (hr : Room (k + 1) X.A) (hx : Passes CX X.nox E) (h : sp [.ref a] H Q E) :
    wpAny (model X.prog X.w) X.A (getAttr (.ref a) f b) (EP X pins σ Q) E' s := by
  obtain ⟨mA, O, _, _, _, _⟩ := ins_get I.hok ea
  obtain ⟨od, J, _⟩ := O.look
  obtain ⟨rest, hrec⟩ := hp.rec_
  have I1 := I.tok (s.toks + 1)
  have hc : (PySem.W.clsIn X.K C).isSome = true := by
    obtain ⟨cd, hc, _⟩ := PySem.W.any_some c.hd
    rw [hc]
    rfl
  refine PySem.W.get_bind I.kIn J (PySem.W.plainGet_of (c.get f)).1 (PySem.W.findObj_data hc hp.at_ hp.get hp.tak) (PySem.W.plainGet_of (c.get f)).2 (wpAny_call (PySem.W.prop_get (s := { s with toks := s.toks + 1 }) I.kIn hrec ?_))
  refine codeAny_mono (F X.A.in1 X.stack { s with toks := s.toks + 1 } H [.ref a] [.ref a] Q E hr.in1 I1.env0.in1 (.cons rfl .nil) h) fun r s' hq => ?_
  cases r with
  | error er => exact False.elim (hx pins σ H { s with toks := s.toks + 1 } er s' (I1.wish _) hq)
  | ok fl =>
    cases fl with
    | ret u =>
      obtain ⟨v, H', I3, rv, q3⟩ := I1.after hq
      show wpAny _ _ (handedOut u) _ _ _
      rw [PySem.W.handedOut_of (handed_of rv)]
      exact wpAny_pure ⟨v, H', I3, rv, q3⟩
    | next => exact False.elim hq
    | brk => exact False.elim hq
    | cont => exact False.elim hq
theorem pe_propR (he : PE X e ta) (c : Cls X.K C) (hp : PropOf X.K C f p g) (F : FnR X.prog X.w X.K X.mg X.base CX k g sp) (hr : Room (k + 1) X.A) (hx : Passes CX X.nox E)
    (hab : attributeBase e f X.env (eval e X.env) = eval e X.env := by rfl) : PE X (.Attribute e f pos) (tPropR C sp E ta) := by
  refine ⟨fun pins s σ H Q I h => ?_⟩
  refine attr_of hab (thn (he.run pins s σ H _ I h) fun u s1 ⟨x, H1, I1, rx, a, dx, fs, ex, ea, q⟩ => ?_)
  subst ex
  obtain rfl : u = Value.ref a := rx
  exact getpropR_ok I1 ea c hp F hr hx q
end

/-! ### match over a text: value patterns, then _ -/
/-- the cases' readings, by the subject -/
abbrev TM := V → TS
structure PM (X : Cx) (cs : List MatchCase) (t : TM) : Prop where
  run : ∀ (first : Bool) (pins : List (Addr × Obj)) (s : Shared) (σ : L2.St) (H : Hp) (D : Ends) (v : V) (u : Value), Inv X pins σ H s → RelV v u → t v D σ H →
    wpAny (model X.prog X.w) X.A (matchCases cs X.env u first) (SP X pins D) X.xe s
section
variable {X : Cx} {subj : Expr} {cs : List MatchCase} {pos : Pos} {te : TE} {tm : TM}
def tMatch (te : TE) (tm : TM) : TS := fun D σ H => te σ H fun v H1 => tm v D σ H1
theorem ps_match (he : PE X subj te) (hc : PM X cs tm) : PS X (.Match subj cs pos) (tMatch te tm) := by
  refine ⟨fun pins s σ H D I h => ?_⟩
  refine wpAny_Match (thn (he.run pins s σ H _ I h) fun u s1 ⟨v, H1, I1, r, q⟩ => ?_)
  exact hc.run true pins s1 σ H1 D v u I1 r q
theorem pm_nil : PM X [] (fun _ D σ H => D.nx σ H) := ⟨fun _ pins s σ H D v u I r h => wpAny_matchCases_nil ⟨σ, H, I, h⟩⟩
/-- case 'text': body -/
theorem pm_str {z : Str} {j : Nat} {p1 p2 : Pos} {body : List Stmt} {rest : List MatchCase} {tb : TS} {tr : TM} (hb : PSs X body tb) (hr : PM X rest tr) :
    PM X (⟨.MatchValue (.Constant (.str z) j p1) p2, none, body⟩ :: rest) (fun v D σ H => ∃ y, v = .str y ∧ if decide (y = z) = true then tb D σ H else tr v D σ H) := by
  refine ⟨fun first pins s σ H D v u I r h => ?_⟩
  obtain ⟨y, rfl, h⟩ := h
  refine wpAny_matchCases_cons (wpAny_matchPattern_Value (thn (pe_str.run pins s σ H (fun v H1 => v = .str z ∧ H1 = H) I ⟨rfl, rfl⟩) fun x s1 ⟨v1, H1, I1, r1, e1, e2⟩ => ?_))
  subst e1 e2
  refine thn (op_eq pins s1 σ H1 (.str y) (.str z) u x (fun v H2 => v = .bl (decide (V.str y = V.str z)) ∧ H2 = H1) I1 r r1 ⟨rfl, rfl, rfl⟩) fun c s2 ⟨v2, H2, I2, r2, e3, e4⟩ => ?_
  subst e3 e4
  cases r2
  have hd : decide (V.str y = V.str z) = decide (y = z) := by simp
  rw [hd]
  by_cases e : y = z
  · rw [decide_eq_true e, if_pos rfl] at h
    rw [decide_eq_true e]
    refine wpAny_truthy_bool ?_
    show wpAny _ _ (assignInOrder [] []) _ _ _
    exact wpAny_assignInOrder_none (hb.run pins s2 σ H2 D I2 h)
  · rw [decide_eq_false e, if_neg Bool.false_ne_true] at h
    rw [decide_eq_false e]
    refine wpAny_truthy_bool ?_
    exact hr.run false pins s2 σ H2 D (.str y) u I2 r h
/-- case _: body -/
theorem pm_any {p2 : Pos} {body : List Stmt} {rest : List MatchCase} {tb : TS} (hb : PSs X body tb) :
    PM X (⟨.MatchAs none none p2, none, body⟩ :: rest) (fun _ D σ H => tb D σ H) := by
  refine ⟨fun first pins s σ H D v u I r h => ?_⟩
  refine wpAny_matchCases_cons (wpAny_matchPattern_Capture ?_)
  show wpAny _ _ (assignInOrder [] []) _ _ _
  exact wpAny_assignInOrder_none (hb.run pins s σ H D I h)
end
end Tp
/-! part XC -/
set_option Elab.async false
set_option linter.all false
set_option maxRecDepth 100000
set_option maxHeartbeats 2000000
/-! own layer, part C: == and != of nested data that holds instances with an own == -/
namespace Tp.GN
open PySem PySem.Spec PyProof.Rows PySem.SeqAt L2
open MeetsSeq MeetsSeq2 MeetsSeq3 SeqRoads2 GQ
section
variable {prog : Program} {w : World} {A : Around} {R : Result → Shared → Prop}
/-- the loop of list.__ne__ where all pairs are equal -/
theorem ne_loop (l b : Addr) (N : Nat) (I : Nat → Shared → Prop) (hl : ListI prog w A (fun e s' => R (.error e) s') l b N I) (fin : ∀ s, I N s → R (.ok (.ret (.bool false))) s) : ∀ (k i : Nat), N - i = k → i ≤ N → ∀ s, I i s →
    wpAny (model prog w) A.in1 (Builtin.«list.__eq__.loop» ⟨[.ref l, .ref b, rawInt i, rawInt 3], []⟩) (FinOf prog w A R) (fun e s' => R (.error e) s') s
  | 0, i, hk, hi, s, h => by
    obtain ⟨items, items2, n, n2, hl1, hb1, hs1, hs2, _⟩ := hl _ _ h
    have hi' : i = N := by omega
    have hR := fin s (hi' ▸ h)
    obtain ⟨hp, g, d, tk, os⟩ := s
    wp_walk using wpAny_loadPart' hl1, wpAny_loadPart' hb1
    have hi1 : items[((i : Nat) : Int).toNat]? = none := by simp; omega
    have hi2 : items2[((i : Nat) : Int).toNat]? = none := by simp; omega
    rw [hi1, hi2]
    wp_walk using wpAny_loadPart' hl1, wpAny_loadPart' hb1
    show R (.ok (.ret (.bool (items.size != items2.size)))) _
    rw [hs1, hs2]
    simpa using hR
  | k + 1, i, hk, hi, s, h => by
    obtain ⟨items, items2, n, n2, hl1, hb1, hs1, hs2, turn⟩ := hl _ _ h
    have hlt : i < items.size := by omega
    have hlt2 : i < items2.size := by omega
    have ht := turn hlt hlt2
    obtain ⟨hp, g, d, tk, os⟩ := s
    wp_walk using wpAny_loadPart' hl1, wpAny_loadPart' hb1
    have hi1 : items[((i : Nat) : Int).toNat]? = some items[i] := by simp [hlt]
    have hi2 : items2[((i : Nat) : Int).toNat]? = some items2[i] := by simp [hlt2]
    have hc : ((i : Int) + 1) = ((i + 1 : Nat) : Int) := by omega
    rw [hi1, hi2]
    refine wpAny_bind (wpAny_mono ht (fun r s2 h2 => ?_) fun _ _ x => x)
    obtain ⟨hr, h2⟩ := h2
    subst hr
    have hrec := ne_loop l b N I hl fin k (i + 1) (by omega) (by omega) s2 h2
    obtain ⟨hp2, g2, d2, tk2, os2⟩ := s2
    wp_walk
    rw [hc]
    exact ⟨plainId_quiet plain_eq_loop _, codeAny_builtin entry_eq_loop (by
      rw [Around.under_plainId plain_eq_loop _]
      exact hrec)⟩
theorem list_ne (l b : Addr) (N : Nat) (I : Nat → Shared → Prop) (hl : ListI prog w A (fun e s' => R (.error e) s') l b N I) (fin : ∀ s, I N s → R (.ok (.ret (.bool false))) s) {s : Shared} (h : I 0 s) :
    wpAny (model prog w) A.in1 (Builtin.«list.__ne__» ⟨[.ref l, .ref b], []⟩) (FinOf prog w A R) (fun e s' => R (.error e) s') s := by
  obtain ⟨items, items2, n, n2, hl1, hb1, hs1, hs2, _⟩ := hl _ _ h
  have hrec := ne_loop (A := A) (R := R) l b N I hl fin _ 0 rfl (Nat.zero_le _) s h
  obtain ⟨hp, g, d, tk, os⟩ := s
  have f3 := AutoSeq1.sub_list_list
  have hne : ¬ (items.size != items2.size) = true := by simp [hs1, hs2]
  wp_walk using wpAny_loadPart' hl1, wpAny_loadPart' hb1
  exact ⟨plainId_quiet plain_eq_loop _, codeAny_builtin entry_eq_loop (by
    rw [Around.under_plainId plain_eq_loop _]
    exact hrec)⟩
theorem tuple_ne (l b : Addr) (items items2 : Array Value) (n n2 : Nat) (dd dd2 : Option Addr) (sl sl2 : Array (Option Value)) (hsz : items.size = items2.size) (I : Nat → Shared → Prop)
    (turn : ∀ i (h1 : i < items.size) (h2 : i < items2.size) s, I i s → wpAny (model prog w) A.in1 (eqBool items[i] items2[i]) (fun r s' => r = true ∧ I (i + 1) s') (fun e s' => R (.error e) s') s)
    (fin : ∀ s, I items.size s → R (.ok (.ret (.bool false))) s) {s : Shared} (hl1 : s.heap.get? l = some { cls := .type "tuple", dict := dd, data := .seq items n, slots := sl }) (hb1 : s.heap.get? b = some { cls := .type "tuple", dict := dd2, data := .seq items2 n2, slots := sl2 }) (h : I 0 s) :
    wpAny (model prog w) A.in1 (Builtin.«tuple.__ne__» ⟨[.ref l, .ref b], []⟩) (FinOf prog w A R) (fun e s' => R (.error e) s') s := by
  have f2 := AutoSeq1.sub_tuple_tuple
  have hZ : (items.toList.zip items2.toList).length = items.size := by simp [hsz]
  have h0 := h
  obtain ⟨hp, g, d, tk, os⟩ := s
  wp_walk using wpAny_loadPart' hl1, wpAny_loadPart' hb1, wpAny_forIn_list _ (fun rest b s' => b.1 = none ∧ ∃ i, rest = (items.toList.zip items2.toList).drop i ∧ i ≤ items.size ∧ I i s') _
  case turn =>
    rintro ⟨y, x⟩ rest b s' ⟨hb', i, hz, hi, hI⟩
    have hlt : i < (items.toList.zip items2.toList).length := by
      rcases Nat.lt_or_ge i (items.toList.zip items2.toList).length with h' | h'
      · exact h'
      · rw [List.drop_of_length_le h'] at hz
        cases hz
    have h1 : i < items.size := hZ ▸ hlt
    have h2 : i < items2.size := hsz ▸ h1
    rw [List.drop_eq_getElem_cons hlt] at hz
    injection hz with hyx hrest
    have hy : y = items[i] := by have := congrArg Prod.fst hyx; simpa using this
    have hx : x = items2[i] := by have := congrArg Prod.snd hyx; simpa using this
    subst hy hx
    refine wpAny_bind (wpAny_mono (turn i h1 h2 s' hI) (fun r s2 q2 => ?_) fun _ _ x => x)
    obtain ⟨hr, q2⟩ := q2
    subst hr
    wp_walk
    exact ⟨rfl, i + 1, hrest, h1, q2⟩
  case fin =>
    rintro ⟨b1, b2⟩ s' ⟨hb', i, hz, hi, hI⟩
    simp only at hb'
    subst hb'
    have hge : items.size ≤ i := by
      rcases Nat.lt_or_ge i (items.toList.zip items2.toList).length with h' | h'
      · rw [List.drop_eq_getElem_cons h'] at hz
        cases hz
      · exact hZ ▸ h'
    have hi' : i = items.size := by omega
    have hR : R (.ok (.ret (.bool false))) s' := fin s' (hi' ▸ hI)
    wp_walk
    simpa [Builtin.Tuple.tupleCompareSizes, hsz] using hR
  case h =>
    exact ⟨rfl, 0, rfl, Nat.zero_le _, h0⟩
end
section
variable {prog : Program} {w : World} {A : Around} {E : Value → Shared → Prop} {s : Shared}
theorem rcn_list {l b : Addr} {N : Nat} {Q : Value → Shared → Prop} (hu : A.units < cLine) (I : Nat → Shared → Prop) (hl : ListI prog w A E l b N I)
    (fin : ∀ s, I N s → Q (.bool false) s) (h : I 0 s) : wpAny (model prog w) A (richCompare .NotEq (.ref l) (.ref b)) Q E s := by
  obtain ⟨items, items2, n, n2, hl1, hb1, _, _, _⟩ := hl _ _ h
  refine wpAny_richCompare_same_room (op := .NotEq) ⟨_, hl1, rfl⟩ ⟨_, hb1, rfl⟩ F.slot_list_ne (call_here F.slot_list_ne ⟨_, hl1, rfl⟩ F.entry_list_ne (F.args_list_ne_2 _ _) ?_) hu
  exact list_ne (R := wants (fun v s' => v ≠ .notImplemented ∧ Q v s') E) l b N I hl (fun s' q => ⟨(fun x => nomatch x), fin s' q⟩) h
theorem rcn_tup {l b : Addr} {items items2 : Array Value} {Q : Value → Shared → Prop} (hsz : items.size = items2.size) (hu : A.units < cLine) (I : Nat → Shared → Prop)
    (hl : s.heap.IsTuple l items) (hb : s.heap.IsTuple b items2)
    (turn : ∀ i (h1 : i < items.size) (h2 : i < items2.size) s, I i s → wpAny (model prog w) A.in1 (eqBool items[i] items2[i]) (fun r s' => r = true ∧ I (i + 1) s') E s)
    (fin : ∀ s, I items.size s → Q (.bool false) s) (h : I 0 s) : wpAny (model prog w) A (richCompare .NotEq (.ref l) (.ref b)) Q E s := by
  obtain ⟨⟨cls, dd, data, sl⟩, ho, hc, n, hd⟩ := id hl
  obtain ⟨⟨cls2, dd2, data2, sl2⟩, ho2, hc2, n2, hd2⟩ := id hb
  simp only at hc hd hc2 hd2
  subst hc hd hc2 hd2
  refine wpAny_richCompare_same_room (op := .NotEq) ⟨_, ho, rfl⟩ ⟨_, ho2, rfl⟩ F.slot_tuple_ne (call_here F.slot_tuple_ne ⟨_, ho, rfl⟩ F.entry_tuple_ne (F.args_tuple_ne_2 _ _) ?_) hu
  exact tuple_ne (R := wants (fun v s' => v ≠ .notImplemented ∧ Q v s') E) l b items items2 n n2 dd dd2 sl sl2 hsz I turn (fun s' q => ⟨(fun x => nomatch x), fin s' q⟩) ho ho2 h
end
end Tp.GN
namespace Tp
open PySem PySem.Spec PyProof.Rows L2
section
variable {X : Cx} {n m : Nat} {D D' : Eqv}
/-- two dicts with the same entries -/
def DDict : Eqv := fun x y H => ∃ a b ks ls, x = .ref a ∧ y = .ref b ∧ H a = some (.dK ks) ∧ H b = some (.dK ls) ∧ ks.length = ls.length ∧ ∀ p ∈ ks, valV ls p.1 = some p.2 ∧ flatB p.2 = true
theorem mon_dict : Mon DDict := fun x y H H' e d => by
  obtain ⟨a, b, ks, ls, hx, hy, h1, h2, p⟩ := d
  exact ⟨a, b, ks, ls, hx, hy, e _ _ h1, e _ _ h2, p⟩
theorem rcG_dict : RcG X 0 DDict := by
  intro A pins s σ H x y u v sb I rx ry d
  obtain ⟨a, b, ks, ls, rfl, rfl, ea, eb, hlen, hp⟩ := d
  obtain rfl : u = Value.ref a := rx
  obtain rfl : v = Value.ref b := ry
  obtain ⟨_, ya, va, ra, da⟩ := dk_of I.hok ea
  obtain ⟨_, yb, vb, rb, db⟩ := dk_of I.hok eb
  have hl : va.length = vb.length := by rw [← ra.length, ← rb.length]; exact hlen
  have z := PySem.W.keq_eq (prog := X.prog) (w := X.w) (knd := mixKind X.prog X.w) (A := A) (E := X.xe) (r := true) (Q := fun r s' => r = .bool true ∧ ∃ H', Inv X pins σ H' s' ∧ Ext H H') ya yb da db sb.room.units0 (fun _ => hits_all rb ra hp) ⟨by simp [hl], H, I, Ext.rfl'⟩
  exact z
theorem eqG_dict : EqG X 0 DDict := rcG_dict.eqG fun _ _ _ d => let ⟨a, b, _, _, hx, hy, _⟩ := d; ⟨a, b, hx, hy⟩

/-- x != y gives False for what D says, and only makes objects -/
def NcG (X : Cx) (n : Nat) (D : Eqv) : Prop :=
  ∀ (A : Around) (pins : List (Addr × Obj)) (s : Shared) (σ : L2.St) (H : Hp) (x y : V) (u v : Value), Sub X n A → Inv X pins σ H s → RelV x u → RelV y v → D x y H →
    wpAny (model X.prog X.w) A (richCompare .NotEq u v) (fun r s' => r = .bool false ∧ ∃ H', Inv X pins σ H' s' ∧ Ext H H') X.xe s
theorem ncG_list (hD : Mon D) (h : EqG X n D) : NcG X (n + 1) (DList D) := by
  intro A pins s σ H x y u v sb I rx ry d
  obtain ⟨a, b, xs, ys, rfl, rfl, ha, hb, p⟩ := d
  cases rx
  cases ry
  refine GN.rcn_list (N := xs.length) sb.room.units0 (fun _ s' => LoopI X pins σ H s') (fun i s' q => ?_) (fun s' q => ⟨rfl, q⟩) ⟨H, I, Ext.rfl'⟩
  obtain ⟨H1, I1, e1⟩ := id q
  obtain ⟨z, its, k, r, e⟩ := I1.hok a _ (e1 _ _ ha)
  obtain ⟨z2, its2, k2, r2, e2⟩ := I1.hok b _ (e1 _ _ hb)
  exact ⟨its.toArray, its2.toArray, k, k2, e, e2, by rw [List.size_toArray, ← r.length], by rw [List.size_toArray, ← r2.length, ← p.1], fun h1 h2 => turnG hD h sb p r r2 i h1 h2 s' q⟩
theorem ncG_tup (hD : Mon D) (h : EqG X n D) : NcG X (n + 1) (DTup X.K D) := by
  intro A pins s σ H x y u v sb I rx ry d
  obtain ⟨a, b, xs, ys, rfl, rfl, ha, hb, p⟩ := d
  cases rx
  cases ry
  obtain ⟨its, r, e, z⟩ := I.tuple ha
  obtain ⟨its2, r2, e2, z2⟩ := I.tuple hb
  have hsz : its.toArray.size = its2.toArray.size := by rw [List.size_toArray, List.size_toArray, ← r.length, ← r2.length]; exact p.1
  exact GN.rcn_tup hsz sb.room.units0 (fun _ s' => LoopI X pins σ H s') e e2 (fun i h1 h2 s' q => turnG hD h sb p r r2 i h1 h2 s' q) (fun s' q => ⟨rfl, q⟩) ⟨H, I, Ext.rfl'⟩
/-- x != y as an expression: they are equal -/
def rNeG (D : Eqv) : R2 := fun x y H Q => D x y H ∧ ∀ H', Ext H H' → Q (.bl false) H'
theorem op_neG (h : NcG X n D) (hr : Room n X.A) : OpR X (compareOp .NotEq) (rNeG D) := by
  intro pins s σ H x y v u Q I rx ry hq
  obtain ⟨d, q⟩ := hq
  show wpAny (model X.prog X.w) X.A (richCompare .NotEq v u) (EP X pins σ Q) X.xe s
  refine wpAny_mono (h X.A pins s σ H x y v u ⟨hr, rfl⟩ I rx ry d) (fun r s' z => ?_) fun _ _ x => x
  obtain ⟨hr', H', I', e⟩ := z
  subst hr'
  exact ⟨.bl false, H', I', rfl, q H' e⟩
/-- != of two instances whose class has an own == and no own != -/
structure NeObj (K : PySem.W.Frag) (C : Addr) : Prop where
  ne : PySem.W.findIn K (.ref C) "__ne__" = some (some (.builtin "object.__ne__"))
  ob : PySem.W.mroIn K C (.type "object") = some true
theorem runEq {CX : CXT} {f : Addr} {R : Addr → Addr → Hp → Prop} {E : XK} {A : Around} {pins : List (Addr × Obj)} {s : Shared} {σ : L2.St} {H : Hp} {a b : Addr} (F : FnR X.prog X.w X.K X.mg X.base CX n f (spEq R)) (hx : Passes CX X E) (sb : Sub X n A) (I : Inv X pins σ H s) (hr : R a b H) :
    wpAny (model X.prog X.w) A (call (.ref f) [.ref a, .ref b]) (fun v s' => v = .bool true ∧ ∃ H', Inv X pins σ H' s' ∧ Ext H H') X.xe s := by
  have e0 : Env0 X.prog X.w X.K X.mg X.base A X.stack s H := by
    have e := I.env0
    exact ⟨by rw [sb.fr]; exact e.frames, e.mod, e.bs, e.bsz, e.funs, e.frf, e.hok, e.bare⟩
  refine wpAny_call (codeAny_mono (F A X.stack s H [.ref a, .ref b] [.ref a, .ref b] (fun v H' => v = .bl true ∧ Ext H H') E sb.room e0 (.cons rfl (.cons rfl .nil)) ⟨a, b, rfl, hr, fun H' e => ⟨rfl, e⟩⟩) fun r s' hq => ?_)
  cases r with
  | error e => exact hx pins σ H s e s' I hq
  | ok fl =>
    cases fl with
    | ret w =>
      obtain ⟨z, H', I', rz, ez, ex⟩ := I.after hq
      subst ez
      cases rz
      exact ⟨rfl, H', I', ex⟩
    | next => exact False.elim hq
    | brk => exact False.elim hq
    | cont => exact False.elim hq
theorem rcG_insR {CX : CXT} {C f : Addr} {R : Addr → Addr → Hp → Prop} {E : XK} (F : FnR X.prog X.w X.K X.mg X.base CX n f (spEq R))
    (hs : PySem.W.findIn X.K (.ref C) "__eq__" = some (some (.ref f))) (hf : PySem.W.isFn X.K (.ref f) = true) (hx : Passes CX X E) : RcG X n (DIns C R) := by
  intro A pins s σ H x y u v sb I rx ry d
  obtain ⟨a, b, dx, dy, fs, gs, rfl, rfl, ha, hb', hr⟩ := d
  cases rx
  cases ry
  obtain ⟨mA, J, _⟩ := ins_get I.hok ha
  obtain ⟨mB, J', _⟩ := ins_get I.hok hb'
  obtain ⟨od, J, _⟩ := J.look
  obtain ⟨od', J', _⟩ := J'.look
  obtain ⟨m, hF⟩ := I.fr
  refine PySem.W.cmp_K (op := .Eq) (tb := .ref C) sb.room.units0 hF I.ok.mod.kin J J'.type (by simp [PySem.W.notFirst]) hs hf ?_
  refine wpAny_mono (runEq F hx sb I hr) (fun v s' z => ?_) fun _ _ x => x
  obtain ⟨e, q⟩ := z
  subst e
  exact ⟨rfl, q⟩
theorem eqG_insR {CX : CXT} {C f : Addr} {R : Addr → Addr → Hp → Prop} {E : XK} (F : FnR X.prog X.w X.K X.mg X.base CX n f (spEq R))
    (hs : PySem.W.findIn X.K (.ref C) "__eq__" = some (some (.ref f))) (hf : PySem.W.isFn X.K (.ref f) = true) (hx : Passes CX X E) : EqG X n (DIns C R) :=
  (rcG_insR F hs hf hx).eqG fun _ _ _ d => let ⟨a, b, _, _, _, _, hx, hy, _⟩ := d; ⟨a, b, hx, hy⟩
theorem ncG_ins {CX : CXT} {C f : Addr} {R : Addr → Addr → Hp → Prop} {E : XK} (F : FnR X.prog X.w X.K X.mg X.base CX n f (spEq R))
    (hs : PySem.W.findIn X.K (.ref C) "__eq__" = some (some (.ref f))) (hf : PySem.W.isFn X.K (.ref f) = true) (hx : Passes CX X E) (N : NeObj X.K C) : NcG X (n + 1) (DIns C R) := by
  intro A pins s σ H x y u v sb I rx ry d
  obtain ⟨a, b, dx, dy, fs, gs, rfl, rfl, ha, hb', hr⟩ := d
  cases rx
  cases ry
  obtain ⟨mA, J, _⟩ := ins_get I.hok ha
  obtain ⟨mB, J', _⟩ := ins_get I.hok hb'
  obtain ⟨od, J, _⟩ := J.look
  obtain ⟨od', J', _⟩ := J'.look
  -- object.__ne__ over the own ==
  have body : ∀ {P : Fin → Shared → Prop} {E' : Value → Shared → Prop}, (∀ e s', X.xe e s' → E' e s') → (∀ s' H', Inv X pins σ H' s' → Ext H H' → P (.done (.ret (.bool false))) s') →
      wpAny (model X.prog X.w) A.in1 (Builtin.«object.__ne__» ⟨[.ref a, .ref b], []⟩) P E' s := by
    intro P E' hE hP
    have z : wpAny (model X.prog X.w) A.in1 (callSpecialIfBound? (.ref a) "__eq__" [.ref b]) (fun r s' => r = some (.bool true) ∧ ∃ H', Inv X pins σ H' s' ∧ Ext H H') E' s := by
      refine PySem.W.ifBound_K I.kIn J hs hf (wpAny_mono (runEq F hx sb.in1 I hr) (fun v s' z => ?_) fun e s' x => hE e s' x)
      obtain ⟨e, q⟩ := z
      subst e
      exact ⟨rfl, q⟩
    unfold Builtin.«object.__ne__»
    repeat (first
      | with_reducible refine wpAny_cRoomFor sb.in1.room.units0 ?_
      | (refine wpAny_bind (m := callSpecialIfBound? (.ref a) _ [.ref b]) (wpAny_mono z (fun r s' hr' => ?_) fun _ _ x => x))
      | wp_step)
    obtain ⟨e, H', I', ex⟩ := hr'
    subst e
    exact wpAny_bind (wpAny_truthy_bool (wpAny_pure (hP s' H' I' ex)))
  have one : wpAny (model X.prog X.w) A (tryCompare (.ref a) "__ne__" (.ref b)) (fun r s' => r = some (.bool false) ∧ ∃ H', Inv X pins σ H' s' ∧ Ext H H') X.xe s := by
    unfold tryCompare
    refine wpAny_bind ?_
    simp only [callSpecialIfBound?, bindSpecialIfBound?]
    refine wpAny_holding (wpAny_bind (wpAny_bind (wpAny_bind (J.type.here ((PySem.W.looks_findIn I.kIn N.ne).here ?_)))))
    have fin : wpAny (model X.prog X.w) A (call (.builtin "object.__ne__") ([.ref a] ++ [.ref b]) >>= fun v => pure (some v)) (fun r s' => wpAny (model X.prog X.w) A (match r with
        | some .notImplemented => pure none
        | none => pure none
        | some v => pure (some v)) (fun r s' => r = some (.bool false) ∧ ∃ H', Inv X pins σ H' s' ∧ Ext H H') X.xe s') X.xe s := by
      refine wpAny_bind (wpAny_call (codeAny_call_builtin PySem.F.cmp_object.ne.plain PySem.F.cmpEntry_ne (PySem.W.check_slot PySem.F.cmpKind_ne PySem.F.cmpSplit_ne (J.type.andThen (PySem.W.looks_mroIn I.kIn N.ob)) (PySem.F.cmpArgs_ne _ _) ?_)))
      exact body (fun e s' h => h) fun s' H' I' ex => wpAny_pure (wpAny_pure ⟨rfl, H', I', ex⟩)
    refine wpAny_bind (wpAny_askSetting (wpAny_ite ?_))
    split
    · exact wpAny_bind (wpAny_of_eq (PySem.F.cmp_object.ne.bind _) (wpAny_pure (by exact fin)))
    · exact wpAny_tryCatch (wpAny_bind (wpAny_of_eq (PySem.F.cmp_object.ne.bind _) (wpAny_pure (by exact fin))))
  unfold richCompare
  simp only [oneThing_ref]
  refine wpAny_holding (wpAny_bind (wpAny_cRoomFor sb.room.units0 ?_))
  rw [cmpInfo_NotEq]
  dsimp only
  refine wpAny_bind (J.type.here (wpAny_bind (J'.type.here ?_)))
  rw [show (Value.ref C != Value.ref C) = false from by simp]
  simp only [Bool.false_eq_true, if_false]
  refine wpAny_bind (wpAny_pure ?_)
  simp only [Bool.false_eq_true, if_false]
  refine wpAny_bind (wpAny_mono one (fun r s' z => ?_) fun _ _ x => x)
  obtain ⟨e, q⟩ := z
  subst e
  exact wpAny_pure ⟨rfl, q⟩
end
end Tp
/-! part XI -/
set_option Elab.async false
set_option linter.all false
set_option maxRecDepth 100000
set_option maxHeartbeats 2000000
/-! the program's defs as data, the facts by names (printed by gen_facts.py) -/
namespace Tp
open PySem PySem.Spec PyProof.Rows L2
def top (i : Nat) : Stmt := PySem.Challenge.pw_tapeeffect_k75_whole_sessions_follow_the.main.body.getD i (.Pass ⟨0, 0, 0, 0⟩)
/-- a class body's j-th statement, decorated or not -/
abbrev s_is_letter : Stmt := top 16
abbrev s_is_integer : Stmt := top 17
abbrev s_check_integer : Stmt := top 18
abbrev s_check_count : Stmt := top 19
abbrev s_is_step : Stmt := top 20
abbrev s_check_steps : Stmt := top 21
abbrev s_move_of : Stmt := top 22
abbrev s_is_letter_dict : Stmt := top 24
abbrev s_by_offset : Stmt := top 27
abbrev s_is_normal : Stmt := top 28
abbrev s_effect_of : Stmt := top 31
abbrev s_compose : Stmt := top 32
abbrev s_chains : Stmt := top 35
abbrev s_letter_left : Stmt := top 36
abbrev s_first_failing_power : Stmt := top 37
abbrev s_fails : Stmt := top 38
abbrev s_segments : Stmt := top 40
abbrev s_power : Stmt := top 42
abbrev s_run : Stmt := top 45
abbrev s_check_with_calls : Stmt := top 52
abbrev s_law_stream : Stmt := top 56
abbrev s_law_draw : Stmt := top 57
abbrev s_law_alphabet : Stmt := top 58
abbrev s_law_steps : Stmt := top 59
abbrev s_law_spots : Stmt := top 60
abbrev s_law_tried : Stmt := top 62
abbrev s_law_done : Stmt := top 63
abbrev s_law_follows : Stmt := top 64
abbrev s_law_joined : Stmt := top 65
abbrev s_law_whole_right : Stmt := top 66
abbrev s_law_unwound : Stmt := top 67
abbrev s_law : Stmt := top 68
abbrev s_Tape_init : Stmt := inClass (top 25) 0
abbrev s_Tape_eq : Stmt := inClass (top 25) 5
abbrev s_Tape_letter : Stmt := inClass (top 25) 6
abbrev s_Tape_with_letters : Stmt := inClass (top 25) 7
abbrev s_Effect_init : Stmt := inClass (top 29) 0
abbrev s_Effect_eq : Stmt := inClass (top 29) 5
abbrev s_Effect_touched : Stmt := inClass (top 29) 8
abbrev s_Effect_mismatch : Stmt := inClass (top 29) 10
abbrev s_Effect_applies : Stmt := inClass (top 29) 11
abbrev s_Effect_apply : Stmt := inClass (top 29) 12
abbrev s_Builder_init : Stmt := inClass (top 30) 0
abbrev s_Builder_expect : Stmt := inClass (top 30) 1
abbrev s_Builder_write : Stmt := inClass (top 30) 2
abbrev s_Builder_add_step : Stmt := inClass (top 30) 3
abbrev s_Builder_add_effect : Stmt := inClass (top 30) 4
abbrev s_Builder_result : Stmt := inClass (top 30) 5
abbrev s_Segment_init : Stmt := inClass (top 39) 0
abbrev s_Segment_size : Stmt := inClass (top 39) 1
abbrev s_Segment_offsets : Stmt := inClass (top 39) 2
abbrev s_BigPower_init : Stmt := inClass (top 41) 0
abbrev s_BigPower_letters_at : Stmt := inClass (top 41) 3
abbrev s_BigPower_groups : Stmt := inClass (top 41) 6
abbrev s_BigPower_touched_count : Stmt := inClass (top 41) 7
abbrev s_Run_init : Stmt := inClass (top 44) 0
abbrev s_Run_letter : Stmt := inClass (top 44) 1
abbrev s_Run_perform : Stmt := inClass (top 44) 2
abbrev s_Run_perform_all : Stmt := inClass (top 44) 3
abbrev s_Run_place : Stmt := inClass (top 44) 4
abbrev s_Definitions_init : Stmt := inClass (top 53) 0
abbrev s_Definitions_expand : Stmt := inClass (top 53) 2
abbrev s_Session_init : Stmt := inClass (top 54) 0
abbrev s_Session_len : Stmt := inClass (top 54) 4
abbrev s_Session_expand : Stmt := inClass (top 54) 8
abbrev s_Session_act : Stmt := inClass (top 54) 9
abbrev s_Session_do : Stmt := inClass (top 54) 10
abbrev s_Session_repeat : Stmt := inClass (top 54) 11
abbrev s_Session_perform : Stmt := inClass (top 54) 12
abbrev s_Session_take_over : Stmt := inClass (top 54) 13
abbrev s_Session_history : Stmt := inClass (top 54) 15
abbrev s_Session_total_effect : Stmt := inClass (top 54) 16
abbrev s_Session_undo : Stmt := inClass (top 54) 17
abbrev s_Session_redo : Stmt := inClass (top 54) 18
abbrev s_Session_clone : Stmt := inClass (top 54) 21
abbrev s_Effect_expected : Stmt := inClass (top 29) 2
abbrev s_Effect_changed : Stmt := inClass (top 29) 3
abbrev s_Effect_shift : Stmt := inClass (top 29) 4
abbrev s_BigPower_shift : Stmt := inClass (top 41) 2
abbrev s_Session_tape : Stmt := inClass (top 54) 1
abbrev s_Session_head : Stmt := inClass (top 54) 2
abbrev s_Effect_identity : Stmt := inClass (top 29) 1
abbrev s_StepFailed_init : Stmt := inClass (top 8) 0
abbrev s_NotApplicable_init : Stmt := inClass (top 12) 0
def d_is_letter : He.DefD := ⟨("is_letter", none), "is_letter", "is_letter", defArgs s_is_letter, defBody s_is_letter, defScope s_is_letter, [], []⟩
def d_is_integer : He.DefD := ⟨("is_integer", none), "is_integer", "is_integer", defArgs s_is_integer, defBody s_is_integer, defScope s_is_integer, [], []⟩
def d_check_integer : He.DefD := ⟨("check_integer", none), "check_integer", "check_integer", defArgs s_check_integer, defBody s_check_integer, defScope s_check_integer, [], []⟩
def d_check_count : He.DefD := ⟨("check_count", none), "check_count", "check_count", defArgs s_check_count, defBody s_check_count, defScope s_check_count, [], []⟩
def d_is_step : He.DefD := ⟨("is_step", none), "is_step", "is_step", defArgs s_is_step, defBody s_is_step, defScope s_is_step, [], []⟩
def d_check_steps : He.DefD := ⟨("check_steps", none), "check_steps", "check_steps", defArgs s_check_steps, defBody s_check_steps, defScope s_check_steps, [], []⟩
def d_move_of : He.DefD := ⟨("move_of", none), "move_of", "move_of", defArgs s_move_of, defBody s_move_of, defScope s_move_of, [], []⟩
def d_is_letter_dict : He.DefD := ⟨("is_letter_dict", none), "is_letter_dict", "is_letter_dict", defArgs s_is_letter_dict, defBody s_is_letter_dict, defScope s_is_letter_dict, [], []⟩
def d_by_offset : He.DefD := ⟨("by_offset", none), "by_offset", "by_offset", defArgs s_by_offset, defBody s_by_offset, defScope s_by_offset, [], []⟩
def d_is_normal : He.DefD := ⟨("is_normal", none), "is_normal", "is_normal", defArgs s_is_normal, defBody s_is_normal, defScope s_is_normal, [], []⟩
def d_effect_of : He.DefD := ⟨("effect_of", none), "effect_of", "effect_of", defArgs s_effect_of, defBody s_effect_of, defScope s_effect_of, [], []⟩
def d_compose : He.DefD := ⟨("compose", none), "compose", "compose", defArgs s_compose, defBody s_compose, defScope s_compose, [], []⟩
def d_chains : He.DefD := ⟨("chains", none), "chains", "chains", defArgs s_chains, defBody s_chains, defScope s_chains, [], []⟩
def d_letter_left : He.DefD := ⟨("letter_left", none), "letter_left", "letter_left", defArgs s_letter_left, defBody s_letter_left, defScope s_letter_left, [], []⟩
def d_first_failing_power : He.DefD := ⟨("first_failing_power", none), "first_failing_power", "first_failing_power", defArgs s_first_failing_power, defBody s_first_failing_power, defScope s_first_failing_power, [], []⟩
def d_fails : He.DefD := ⟨("fails", none), "fails", "fails", defArgs s_fails, defBody s_fails, defScope s_fails, [], []⟩
def d_segments : He.DefD := ⟨("segments", none), "segments", "segments", defArgs s_segments, defBody s_segments, defScope s_segments, [], []⟩
def d_power : He.DefD := ⟨("power", none), "power", "power", defArgs s_power, defBody s_power, defScope s_power, [], []⟩
def d_run : He.DefD := ⟨("run", none), "run", "run", defArgs s_run, defBody s_run, defScope s_run, [], [("head", .int 0)]⟩
def d_check_with_calls : He.DefD := ⟨("check_with_calls", none), "check_with_calls", "check_with_calls", defArgs s_check_with_calls, defBody s_check_with_calls, defScope s_check_with_calls, [], []⟩
def d_law_stream : He.DefD := ⟨("_law_stream", none), "_law_stream", "_law_stream", defArgs s_law_stream, defBody s_law_stream, defScope s_law_stream, [], []⟩
def d_law_draw : He.DefD := ⟨("_law_draw", none), "_law_draw", "_law_draw", defArgs s_law_draw, defBody s_law_draw, defScope s_law_draw, [], []⟩
def d_law_alphabet : He.DefD := ⟨("_law_alphabet", none), "_law_alphabet", "_law_alphabet", defArgs s_law_alphabet, defBody s_law_alphabet, defScope s_law_alphabet, [], []⟩
def d_law_steps : He.DefD := ⟨("_law_steps", none), "_law_steps", "_law_steps", defArgs s_law_steps, defBody s_law_steps, defScope s_law_steps, [], []⟩
def d_law_spots : He.DefD := ⟨("_law_spots", none), "_law_spots", "_law_spots", defArgs s_law_spots, defBody s_law_spots, defScope s_law_spots, [], []⟩
def d_law_tried : He.DefD := ⟨("_law_tried", none), "_law_tried", "_law_tried", defArgs s_law_tried, defBody s_law_tried, defScope s_law_tried, [], []⟩
def d_law_done : He.DefD := ⟨("_law_done", none), "_law_done", "_law_done", defArgs s_law_done, defBody s_law_done, defScope s_law_done, [], []⟩
def d_law_follows : He.DefD := ⟨("_law_follows", none), "_law_follows", "_law_follows", defArgs s_law_follows, defBody s_law_follows, defScope s_law_follows, [], []⟩
def d_law_joined : He.DefD := ⟨("_law_joined", none), "_law_joined", "_law_joined", defArgs s_law_joined, defBody s_law_joined, defScope s_law_joined, [], []⟩
def d_law_whole_right : He.DefD := ⟨("_law_whole_right", none), "_law_whole_right", "_law_whole_right", defArgs s_law_whole_right, defBody s_law_whole_right, defScope s_law_whole_right, [], []⟩
def d_law_unwound : He.DefD := ⟨("_law_unwound", none), "_law_unwound", "_law_unwound", defArgs s_law_unwound, defBody s_law_unwound, defScope s_law_unwound, [], []⟩
def d_law : He.DefD := ⟨("law", none), "law", "law", defArgs s_law, defBody s_law, defScope s_law, [], []⟩
def d_Tape_init : He.DefD := ⟨("Tape", some "__init__"), "__init__", "Tape.__init__", defArgs s_Tape_init, defBody s_Tape_init, defScope s_Tape_init, [.str "a"], [("cells", .non)]⟩
def d_Tape_eq : He.DefD := ⟨("Tape", some "__eq__"), "__eq__", "Tape.__eq__", defArgs s_Tape_eq, defBody s_Tape_eq, defScope s_Tape_eq, [], []⟩
def d_Tape_letter : He.DefD := ⟨("Tape", some "letter"), "letter", "Tape.letter", defArgs s_Tape_letter, defBody s_Tape_letter, defScope s_Tape_letter, [], []⟩
def d_Tape_with_letters : He.DefD := ⟨("Tape", some "with_letters"), "with_letters", "Tape.with_letters", defArgs s_Tape_with_letters, defBody s_Tape_with_letters, defScope s_Tape_with_letters, [], []⟩
def d_Effect_init : He.DefD := ⟨("Effect", some "__init__"), "__init__", "Effect.__init__", defArgs s_Effect_init, defBody s_Effect_init, defScope s_Effect_init, [], []⟩
def d_Effect_eq : He.DefD := ⟨("Effect", some "__eq__"), "__eq__", "Effect.__eq__", defArgs s_Effect_eq, defBody s_Effect_eq, defScope s_Effect_eq, [], []⟩
def d_Effect_touched : He.DefD := ⟨("Effect", some "touched"), "touched", "Effect.touched", defArgs s_Effect_touched, defBody s_Effect_touched, defScope s_Effect_touched, [], []⟩
def d_Effect_mismatch : He.DefD := ⟨("Effect", some "mismatch"), "mismatch", "Effect.mismatch", defArgs s_Effect_mismatch, defBody s_Effect_mismatch, defScope s_Effect_mismatch, [], []⟩
def d_Effect_applies : He.DefD := ⟨("Effect", some "applies"), "applies", "Effect.applies", defArgs s_Effect_applies, defBody s_Effect_applies, defScope s_Effect_applies, [], [("head", .int 0)]⟩
def d_Effect_apply : He.DefD := ⟨("Effect", some "apply"), "apply", "Effect.apply", defArgs s_Effect_apply, defBody s_Effect_apply, defScope s_Effect_apply, [], [("head", .int 0)]⟩
def d_Builder_init : He.DefD := ⟨("Builder", some "__init__"), "__init__", "Builder.__init__", defArgs s_Builder_init, defBody s_Builder_init, defScope s_Builder_init, [], []⟩
def d_Builder_expect : He.DefD := ⟨("Builder", some "expect"), "expect", "Builder.expect", defArgs s_Builder_expect, defBody s_Builder_expect, defScope s_Builder_expect, [], []⟩
def d_Builder_write : He.DefD := ⟨("Builder", some "write"), "write", "Builder.write", defArgs s_Builder_write, defBody s_Builder_write, defScope s_Builder_write, [], []⟩
def d_Builder_add_step : He.DefD := ⟨("Builder", some "add_step"), "add_step", "Builder.add_step", defArgs s_Builder_add_step, defBody s_Builder_add_step, defScope s_Builder_add_step, [], []⟩
def d_Builder_add_effect : He.DefD := ⟨("Builder", some "add_effect"), "add_effect", "Builder.add_effect", defArgs s_Builder_add_effect, defBody s_Builder_add_effect, defScope s_Builder_add_effect, [], []⟩
def d_Builder_result : He.DefD := ⟨("Builder", some "result"), "result", "Builder.result", defArgs s_Builder_result, defBody s_Builder_result, defScope s_Builder_result, [], []⟩
def d_Segment_init : He.DefD := ⟨("Segment", some "__init__"), "__init__", "Segment.__init__", defArgs s_Segment_init, defBody s_Segment_init, defScope s_Segment_init, [], []⟩
def d_Segment_size : He.DefD := ⟨("Segment", some "size"), "size", "Segment.size", defArgs s_Segment_size, defBody s_Segment_size, defScope s_Segment_size, [], []⟩
def d_Segment_offsets : He.DefD := ⟨("Segment", some "offsets"), "offsets", "Segment.offsets", defArgs s_Segment_offsets, defBody s_Segment_offsets, defScope s_Segment_offsets, [], []⟩
def d_BigPower_init : He.DefD := ⟨("BigPower", some "__init__"), "__init__", "BigPower.__init__", defArgs s_BigPower_init, defBody s_BigPower_init, defScope s_BigPower_init, [], []⟩
def d_BigPower_letters_at : He.DefD := ⟨("BigPower", some "letters_at"), "letters_at", "BigPower.letters_at", defArgs s_BigPower_letters_at, defBody s_BigPower_letters_at, defScope s_BigPower_letters_at, [], []⟩
def d_BigPower_groups : He.DefD := ⟨("BigPower", some "groups"), "groups", "BigPower.groups", defArgs s_BigPower_groups, defBody s_BigPower_groups, defScope s_BigPower_groups, [], []⟩
def d_BigPower_touched_count : He.DefD := ⟨("BigPower", some "touched_count"), "touched_count", "BigPower.touched_count", defArgs s_BigPower_touched_count, defBody s_BigPower_touched_count, defScope s_BigPower_touched_count, [], []⟩
def d_Run_init : He.DefD := ⟨("Run", some "__init__"), "__init__", "Run.__init__", defArgs s_Run_init, defBody s_Run_init, defScope s_Run_init, [], []⟩
def d_Run_letter : He.DefD := ⟨("Run", some "letter"), "letter", "Run.letter", defArgs s_Run_letter, defBody s_Run_letter, defScope s_Run_letter, [], []⟩
def d_Run_perform : He.DefD := ⟨("Run", some "perform"), "perform", "Run.perform", defArgs s_Run_perform, defBody s_Run_perform, defScope s_Run_perform, [], []⟩
def d_Run_perform_all : He.DefD := ⟨("Run", some "perform_all"), "perform_all", "Run.perform_all", defArgs s_Run_perform_all, defBody s_Run_perform_all, defScope s_Run_perform_all, [], []⟩
def d_Run_place : He.DefD := ⟨("Run", some "place"), "place", "Run.place", defArgs s_Run_place, defBody s_Run_place, defScope s_Run_place, [], []⟩
def d_Definitions_init : He.DefD := ⟨("Definitions", some "__init__"), "__init__", "Definitions.__init__", defArgs s_Definitions_init, defBody s_Definitions_init, defScope s_Definitions_init, [], []⟩
def d_Definitions_expand : He.DefD := ⟨("Definitions", some "expand"), "expand", "Definitions.expand", defArgs s_Definitions_expand, defBody s_Definitions_expand, defScope s_Definitions_expand, [], []⟩
def d_Session_init : He.DefD := ⟨("Session", some "__init__"), "__init__", "Session.__init__", defArgs s_Session_init, defBody s_Session_init, defScope s_Session_init, [.non], [("head", .int 0)]⟩
def d_Session_len : He.DefD := ⟨("Session", some "__len__"), "__len__", "Session.__len__", defArgs s_Session_len, defBody s_Session_len, defScope s_Session_len, [], []⟩
def d_Session_expand : He.DefD := ⟨("Session", some "expand"), "expand", "Session.expand", defArgs s_Session_expand, defBody s_Session_expand, defScope s_Session_expand, [], []⟩
def d_Session_act : He.DefD := ⟨("Session", some "act"), "act", "Session.act", defArgs s_Session_act, defBody s_Session_act, defScope s_Session_act, [], []⟩
def d_Session_do : He.DefD := ⟨("Session", some "do"), "do", "Session.do", defArgs s_Session_do, defBody s_Session_do, defScope s_Session_do, [], []⟩
def d_Session_repeat : He.DefD := ⟨("Session", some "repeat"), "repeat", "Session.repeat", defArgs s_Session_repeat, defBody s_Session_repeat, defScope s_Session_repeat, [], []⟩
def d_Session_perform : He.DefD := ⟨("Session", some "perform"), "perform", "Session.perform", defArgs s_Session_perform, defBody s_Session_perform, defScope s_Session_perform, [], []⟩
def d_Session_take_over : He.DefD := ⟨("Session", some "take_over"), "take_over", "Session.take_over", defArgs s_Session_take_over, defBody s_Session_take_over, defScope s_Session_take_over, [], []⟩
def d_Session_history : He.DefD := ⟨("Session", some "history"), "history", "Session.history", defArgs s_Session_history, defBody s_Session_history, defScope s_Session_history, [], []⟩
def d_Session_total_effect : He.DefD := ⟨("Session", some "total_effect"), "total_effect", "Session.total_effect", defArgs s_Session_total_effect, defBody s_Session_total_effect, defScope s_Session_total_effect, [], []⟩
def d_Session_undo : He.DefD := ⟨("Session", some "undo"), "undo", "Session.undo", defArgs s_Session_undo, defBody s_Session_undo, defScope s_Session_undo, [], []⟩
def d_Session_redo : He.DefD := ⟨("Session", some "redo"), "redo", "Session.redo", defArgs s_Session_redo, defBody s_Session_redo, defScope s_Session_redo, [], []⟩
def d_Session_clone : He.DefD := ⟨("Session", some "clone"), "clone", "Session.clone", defArgs s_Session_clone, defBody s_Session_clone, defScope s_Session_clone, [], []⟩
def fnL : List He.DefD := [d_is_letter, d_is_integer, d_check_integer, d_check_count, d_is_step, d_check_steps, d_move_of, d_is_letter_dict, d_by_offset, d_is_normal, d_effect_of, d_compose, d_chains, d_letter_left, d_first_failing_power, d_fails, d_segments, d_power, d_run, d_check_with_calls, d_law_stream, d_law_draw, d_law_alphabet, d_law_steps, d_law_spots, d_law_tried, d_law_done, d_law_follows, d_law_joined, d_law_whole_right, d_law_unwound, d_law, d_Tape_init, d_Tape_eq, d_Tape_letter, d_Tape_with_letters, d_Effect_init, d_Effect_eq, d_Effect_touched, d_Effect_mismatch, d_Effect_applies, d_Effect_apply, d_Builder_init, d_Builder_expect, d_Builder_write, d_Builder_add_step, d_Builder_add_effect, d_Builder_result, d_Segment_init, d_Segment_size, d_Segment_offsets, d_BigPower_init, d_BigPower_letters_at, d_BigPower_groups, d_BigPower_touched_count, d_Run_init, d_Run_letter, d_Run_perform, d_Run_perform_all, d_Run_place, d_Definitions_init, d_Definitions_expand, d_Session_init, d_Session_len, d_Session_expand, d_Session_act, d_Session_do, d_Session_repeat, d_Session_perform, d_Session_take_over, d_Session_history, d_Session_total_effect, d_Session_undo, d_Session_redo, d_Session_clone]
def faL : List He.Fa := [.glo "is_letter", .keep "is_letter", .glo "is_integer", .keep "is_integer", .glo "check_integer", .keep "check_integer", .glo "check_count", .keep "check_count", .glo "is_step", .keep "is_step", .glo "check_steps", .keep "check_steps", .glo "move_of", .keep "move_of", .glo "is_letter_dict", .keep "is_letter_dict", .glo "by_offset", .keep "by_offset", .glo "is_normal", .keep "is_normal", .glo "effect_of", .keep "effect_of", .glo "compose", .keep "compose", .glo "chains", .keep "chains", .glo "letter_left", .keep "letter_left", .glo "first_failing_power", .keep "first_failing_power", .glo "fails", .keep "fails", .glo "segments", .keep "segments", .glo "power", .keep "power", .glo "run", .keep "run", .glo "check_with_calls", .keep "check_with_calls", .glo "_law_stream", .keep "_law_stream", .glo "_law_draw", .keep "_law_draw", .glo "_law_alphabet", .keep "_law_alphabet", .glo "_law_steps", .keep "_law_steps", .glo "_law_spots", .keep "_law_spots", .glo "_law_tried", .keep "_law_tried", .glo "_law_done", .keep "_law_done", .glo "_law_follows", .keep "_law_follows", .glo "_law_joined", .keep "_law_joined", .glo "_law_whole_right", .keep "_law_whole_right", .glo "_law_unwound", .keep "_law_unwound", .glo "law", .keep "law", .glo "Tape", .glo "Effect", .glo "Builder", .glo "Segment", .glo "BigPower", .glo "Run", .glo "Definitions", .glo "Session", .glo "StepFailed", .glo "NotApplicable", .glo "NothingToUndo", .free "len", .free "all", .free "any", .free "sorted", .free "min", .free "max", .free "sum", .free "isinstance", .free "int", .free "str", .free "bool", .free "dict", .free "list", .free "tuple", .free "range", .free "enumerate", .free "divmod", .free "zip", .free "super", .str "LETTERS" "abcdefghijklmnopqrstuvwxyz", .int "MAX_TOUCHED" 2000, .int "MAX_STEPS" 2000, .cls "Tape", .mkr "Tape", .meth "Tape" "__init__", .meth "Tape" "__eq__", .meth "Tape" "letter", .meth "Tape" "with_letters", .noat "Tape" "blank_letter", .noat "Tape" "own_cells", .cls "Effect", .mkr "Effect", .meth "Effect" "__init__", .meth "Effect" "__eq__", .meth "Effect" "touched", .meth "Effect" "mismatch", .meth "Effect" "applies", .meth "Effect" "apply", .noat "Effect" "needs", .noat "Effect" "puts", .noat "Effect" "move", .cls "Builder", .mkr "Builder", .meth "Builder" "__init__", .meth "Builder" "expect", .meth "Builder" "write", .meth "Builder" "add_step", .meth "Builder" "add_effect", .meth "Builder" "result", .noat "Builder" "needs", .noat "Builder" "known", .noat "Builder" "written", .noat "Builder" "offset", .noat "Builder" "failed", .cls "Segment", .mkr "Segment", .meth "Segment" "__init__", .meth "Segment" "size", .meth "Segment" "offsets", .noat "Segment" "divisor", .noat "Segment" "remainder", .noat "Segment" "bounds", .noat "Segment" "needed", .noat "Segment" "left", .cls "BigPower", .mkr "BigPower", .meth "BigPower" "__init__", .meth "BigPower" "letters_at", .meth "BigPower" "groups", .meth "BigPower" "touched_count", .noat "BigPower" "base", .noat "BigPower" "times", .cls "Run", .mkr "Run", .meth "Run" "__init__", .meth "Run" "letter", .meth "Run" "perform", .meth "Run" "perform_all", .meth "Run" "place", .noat "Run" "own_tape", .noat "Run" "position", .noat "Run" "written", .cls "Definitions", .mkr "Definitions", .meth "Definitions" "__init__", .meth "Definitions" "expand", .noat "Definitions" "sequences", .cls "Session", .mkr "Session", .meth "Session" "__init__", .meth "Session" "__len__", .meth "Session" "expand", .meth "Session" "act", .meth "Session" "do", .meth "Session" "repeat", .meth "Session" "perform", .meth "Session" "take_over", .meth "Session" "history", .meth "Session" "total_effect", .meth "Session" "undo", .meth "Session" "redo", .meth "Session" "clone", .noat "Session" "own_tape", .noat "Session" "own_head", .noat "Session" "known", .noat "Session" "effects_done", .noat "Session" "places_before", .noat "Session" "undone", .noat "Session" "events", .exm "StepFailed" "StepFailed" true, .exm "StepFailed" "NotApplicable" false, .exm "StepFailed" "NothingToUndo" false, .exm "NotApplicable" "StepFailed" false, .exm "NotApplicable" "NotApplicable" true, .exm "NotApplicable" "NothingToUndo" false, .exm "NothingToUndo" "StepFailed" false, .exm "NothingToUndo" "NotApplicable" false, .exm "NothingToUndo" "NothingToUndo" true]
/-- the object that the class's name x stands for, a property or a classmethod; its function -/
def pAd (K : PySem.W.Frag) (C m : Str) : Addr := He.ma K (He.ga K C) m
def rFn (K : PySem.W.Frag) (p : Addr) (T : String) : Addr := match PySem.W.recIn K p T with
  | some (.ref g :: _) => g
  | _ => 0
def gFn (K : PySem.W.Frag) (C m : Str) : Addr := rFn K (pAd K C m) "property"
def iFn (K : PySem.W.Frag) : Addr := rFn K (pAd K "Effect" "identity") "classmethod"
def recB (K : PySem.W.Frag) (p : Addr) (T : String) : Bool := match PySem.W.recIn K p T with
  | some (.ref _ :: _) => true
  | _ => false
theorem recB_ok {K : PySem.W.Frag} {p : Addr} {T : String} (h : recB K p T = true) : ∃ rest, PySem.W.recIn K p T = some (.ref (rFn K p T) :: rest) := by
  unfold recB at h
  unfold rFn
  cases e : PySem.W.recIn K p T with
  | none =>
    rw [e] at h
    cases h
  | some l =>
    rw [e] at h
    cases l with
    | nil => cases h
    | cons v r =>
      cases v with
      | ref g => exact ⟨r, rfl⟩
      | _ => cases h
def propB (K : PySem.W.Frag) (q : Str × Str) : Bool := decide (PySem.W.findIn K (.ref (He.ga K q.1)) q.2 = some (some (.ref (pAd K q.1 q.2)))) && (decide (PySem.W.specialIn K (.ref (pAd K q.1 q.2)) "__get__" = some (some (.builtin "property.__get__"))) &&
  (decide (PySem.W.takesIn K (.ref (pAd K q.1 q.2)) = some true) && recB K (pAd K q.1 q.2) "property"))
theorem propB_ok {K : PySem.W.Frag} {C m : Str} (h : propB K (C, m) = true) : PropOf K (He.ga K C) m (pAd K C m) (gFn K C m) := by
  obtain ⟨h1, h⟩ := He.ba h
  obtain ⟨h2, h⟩ := He.ba h
  obtain ⟨h3, h4⟩ := He.ba h
  exact ⟨of_decide_eq_true h1, of_decide_eq_true h2, of_decide_eq_true h3, recB_ok h4⟩
/-- a class whose instances are told by isinstance -/
def isiB (K : PySem.W.Frag) (C : Str) : Bool := decide (PySem.W.findIn K (.ref (He.ga K C)) "__class__" = some (some (.builtin "object.__class__"))) && decide (PySem.W.mroIn K (He.ga K C) (.type "object") = some true)
def decB {α : Type} [DecidableEq α] (a b : α) : Bool := decide (a = b)
/-- identity is found in Effect as a classmethod -/
def cmB (K : PySem.W.Frag) : Bool := match PySem.W.findCls K (.ref (He.ga K "Effect")) (.type "type") "identity" with
  | some (.get g a i o) => decide (g = .builtin "classmethod.__get__" ∧ a = .ref (pAd K "Effect" "identity") ∧ i = .none ∧ o = .ref (He.ga K "Effect"))
  | _ => false
theorem cmB_ok {K : PySem.W.Frag} (h : cmB K = true) : PySem.W.findCls K (.ref (He.ga K "Effect")) (.type "type") "identity" = some (.get (.builtin "classmethod.__get__") (.ref (pAd K "Effect" "identity")) .none (.ref (He.ga K "Effect"))) := by
  unfold cmB at h
  cases e : PySem.W.findCls K (.ref (He.ga K "Effect")) (.type "type") "identity" with
  | none =>
    rw [e] at h
    cases h
  | some c =>
    rw [e] at h
    cases c with
    | get g a i o =>
      obtain ⟨h1, h2, h3, h4⟩ := of_decide_eq_true h
      rw [h1, h2, h3, h4]
    | _ => cases h
theorem decB_ok {α : Type} [DecidableEq α] {a b : α} (h : decB a b = true) : a = b := of_decide_eq_true h
def prL : List (Str × Str) := [("Effect", "expected"), ("Effect", "changed"), ("Effect", "shift"), ("BigPower", "shift"), ("Session", "tape"), ("Session", "head")]
/-- an __init__ that closes over its class: the cell holds the class, the code object is whole and knows the main file -/
def closB (K : PySem.W.Frag) (C q : Str) : Bool := match K.lookup (He.ma K (He.ga K C) "__init__") with
  | some ⟨_, _, .func fd, _⟩ => PySem.W.codeIn K fd.code q && ((match fd.closure with
    | [(_, cc)] => (match K.lookup cc with
      | some ⟨_, _, .cell (some v), _⟩ => decide (v = .ref (He.ga K C))
      | _ => false)
    | _ => false) && (match fd.code with
    | .ref cda => (match K.lookup cda with
      | some ⟨_, _, .fields vs, _⟩ => (match vs.getD 2 Value.none with
        | Value.str file _ => PySem.Challenge.pw_tapeeffect_k75_whole_sessions_follow_the.main.file == file
        | _ => false)
      | _ => false)
    | _ => false))
  | _ => false
def exL (K : PySem.W.Frag) : List Bool := [decB (PySem.W.specialIn K (.builtin "object.__class__") "__get__") (some (some (.builtin "getset_descriptor.__get__"))),
  decB (PySem.W.takesIn K (.builtin "object.__class__")) (some true),
  isiB K "Tape",
  isiB K "Effect",
  decB (PySem.W.findIn K (.ref (He.ga K "Tape")) "__ne__") (some (some (.builtin "object.__ne__"))),
  PySem.W.readsIn K (He.ga K "Effect") (.type "type"),
  decB (PySem.W.specialIn K (.ref (He.ga K "Effect")) "__getattribute__") (some (some (.builtin "type.__getattribute__"))),
  cmB K,
  recB K (pAd K "Effect" "identity") "classmethod",
  PySem.W.fnIn K (iFn K),
  decB (PySem.W.nsIn K PySem.cStatics "thirdparty.any") (some none),
  PySem.W.keepIn K (.ref (He.ga K "StepFailed")),
  decB (PySem.W.subIn K (.ref (He.ga K "StepFailed")) (.type "BaseException")) (some true),
  decB (PySem.W.typeIn K (.ref (He.ga K "StepFailed"))) (some (.type "type")),
  PySem.W.keepIn K (.ref (He.ga K "NotApplicable")),
  decB (PySem.W.subIn K (.ref (He.ga K "NotApplicable")) (.type "BaseException")) (some true),
  decB (PySem.W.typeIn K (.ref (He.ga K "NotApplicable"))) (some (.type "type")),
  PySem.W.keepIn K (.ref (He.ga K "NothingToUndo")),
  decB (PySem.W.subIn K (.ref (He.ga K "NothingToUndo")) (.type "BaseException")) (some true),
  decB (PySem.W.typeIn K (.ref (He.ga K "NothingToUndo"))) (some (.type "type")),
  PySem.W.excIn K (He.ga K "NothingToUndo") [.type "RuntimeError", .type "Exception", .type "BaseException", .type "object"] "RuntimeError.__new__",
  PySem.W.excInitIn K (He.ga K "StepFailed") [.type "RuntimeError", .type "Exception", .type "BaseException", .type "object"] "RuntimeError.__new__",
  PySem.W.excOver K (He.ga K "StepFailed") [.type "RuntimeError", .type "Exception", .type "BaseException", .type "object"],
  decB (PySem.W.subIn K (.ref (He.ga K "StepFailed")) (.type "RuntimeError")) (some true),
  decB (PySem.W.mroIn K (He.ga K "StepFailed") (.ref (He.ga K "StepFailed"))) (some true),
  decB (PySem.W.findIn K (.ref (He.ga K "StepFailed")) "__init__") (some (some (.ref (He.ma K (He.ga K "StepFailed") "__init__")))),
  PySem.W.isFn K (.ref (He.ma K (He.ga K "StepFailed") "__init__")),
  closB K "StepFailed" "StepFailed.__init__",
  decB (PySem.W.findIn K (.ref (He.ga K "StepFailed")) "index") (some none),
  PySem.W.hasDictIn K (He.ga K "StepFailed"),
  decB (PySem.W.ks_superIn K (He.ga K "StepFailed") (He.ga K "StepFailed") "__init__") (some (some (.builtin "RuntimeError.__init__"))),
  decB (PySem.W.findIn K (.ref (He.ga K "StepFailed")) "__setattr__") (some (some (.builtin "object.__setattr__"))),
  PySem.W.excInitIn K (He.ga K "NotApplicable") [.type "LookupError", .type "Exception", .type "BaseException", .type "object"] "LookupError.__new__",
  PySem.W.excOver K (He.ga K "NotApplicable") [.type "LookupError", .type "Exception", .type "BaseException", .type "object"],
  decB (PySem.W.subIn K (.ref (He.ga K "NotApplicable")) (.type "LookupError")) (some true),
  decB (PySem.W.mroIn K (He.ga K "NotApplicable") (.ref (He.ga K "NotApplicable"))) (some true),
  decB (PySem.W.findIn K (.ref (He.ga K "NotApplicable")) "__init__") (some (some (.ref (He.ma K (He.ga K "NotApplicable") "__init__")))),
  PySem.W.isFn K (.ref (He.ma K (He.ga K "NotApplicable") "__init__")),
  closB K "NotApplicable" "NotApplicable.__init__",
  decB (PySem.W.findIn K (.ref (He.ga K "NotApplicable")) "position") (some none),
  PySem.W.hasDictIn K (He.ga K "NotApplicable"),
  decB (PySem.W.ks_superIn K (He.ga K "NotApplicable") (He.ga K "NotApplicable") "__init__") (some (some (.builtin "LookupError.__init__"))),
  decB (PySem.W.findIn K (.ref (He.ga K "NotApplicable")) "__setattr__") (some (some (.builtin "object.__setattr__")))]
def exB (K : PySem.W.Frag) : Bool := (exL K).all id && prL.all fun q => propB K q
/-! functions that stand behind a property, a classmethod, a closure -/
abbrev FnC : Type := Option (Str × Str × Arguments × FuncBody × Scope × Addr × List Str × Value × Addr)
def fnC (K : PySem.W.Frag) (f : Addr) : FnC := match K.lookup f with
  | some ⟨_, _, .func fd, _⟩ => some (fd.name, fd.qualname, fd.params, fd.body, fd.scope, fd.globals, fd.closure.map (·.1), fd.defaults, fd.builtins)
  | _ => none
structure DefC where
  at_ : PySem.W.Frag → Addr
  name : Str
  qual : Str
  st : Stmt
  clo : List Str
def DefC.val (d : DefC) : FnC := some (d.name, d.qual, defArgs d.st, .stmts (defBody d.st), defScope d.st, mainGlobals, d.clo, .none, builtinsNs)
def codeB (K : PySem.W.Frag) (d : DefC) : Bool := match K.lookup (d.at_ K) with
  | some ⟨_, _, .func fd, _⟩ => PySem.W.codeIn K fd.code d.qual && PySem.W.keepIn K (.ref (d.at_ K))
  | _ => false
def o_Effect_expected : DefC := ⟨fun K => gFn K "Effect" "expected", "expected", "Effect.expected", s_Effect_expected, []⟩
def o_Effect_changed : DefC := ⟨fun K => gFn K "Effect" "changed", "changed", "Effect.changed", s_Effect_changed, []⟩
def o_Effect_shift : DefC := ⟨fun K => gFn K "Effect" "shift", "shift", "Effect.shift", s_Effect_shift, []⟩
def o_BigPower_shift : DefC := ⟨fun K => gFn K "BigPower" "shift", "shift", "BigPower.shift", s_BigPower_shift, []⟩
def o_Session_tape : DefC := ⟨fun K => gFn K "Session" "tape", "tape", "Session.tape", s_Session_tape, []⟩
def o_Session_head : DefC := ⟨fun K => gFn K "Session" "head", "head", "Session.head", s_Session_head, []⟩
def o_Effect_identity : DefC := ⟨iFn, "identity", "Effect.identity", s_Effect_identity, []⟩
def o_StepFailed_init : DefC := ⟨fun K => He.ma K (He.ga K "StepFailed") "__init__", "__init__", "StepFailed.__init__", s_StepFailed_init, ["__class__"]⟩
def o_NotApplicable_init : DefC := ⟨fun K => He.ma K (He.ga K "NotApplicable") "__init__", "__init__", "NotApplicable.__init__", s_NotApplicable_init, ["__class__"]⟩
def fcL : List DefC := [o_Effect_expected, o_Effect_changed, o_Effect_shift, o_BigPower_shift, o_Session_tape, o_Session_head, o_Effect_identity, o_StepFailed_init, o_NotApplicable_init]
/-- what the end knows -/
structure Txt (K : PySem.W.Frag) (mg : Str → Option Value) : Prop where
  hd : He.SaysD faL fnL K
  ex : exB K = true
  fc : fcL.map (fun d => fnC K (d.at_ K)) = fcL.map DefC.val
  cb : (fcL.all fun d => codeB K d) = true
  m1 : ∀ x v, PySem.W.nsIn K mainGlobals x = some (some v) → mg x = some v
  m0 : ∀ x, PySem.W.nsIn K mainGlobals x = some none → mg x = none
  tb : ∀ p ∈ [(("_law_done", none) : He.Defn)], PySem.W.codeHdIn K (He.cT K p).1 (He.cT K p).2 = true ∧ K.lookup (He.cT K p).2 = none
section
variable {K : PySem.W.Frag} {mg : Str → Option Value}
theorem Txt.exl (T : Txt K mg) (i : Nat) {b : Bool} (h : (exL K)[i]? = some b) : b = true := List.all_eq_true.mp (He.ba T.ex).1 b (List.mem_of_getElem? h)
theorem Txt.prp (T : Txt K mg) {C m : Str} (i : Nat) (h : prL[i]? = some (C, m)) : PropOf K (He.ga K C) m (pAd K C m) (gFn K C m) := propB_ok (List.all_eq_true.mp (He.ba T.ex).2 _ (List.mem_of_getElem? h))
theorem Txt.glo (T : Txt K mg) (i : Nat) {x : Str} (h : faL[i]? = some (.glo x)) : mg x = some (.ref (He.ga K x)) := T.m1 _ _ (He.eqO_ok (T.hd.fact i h))
theorem Txt.kep (T : Txt K mg) (i : Nat) {x : Str} (h : faL[i]? = some (.keep x)) : PySem.W.keepIn K (.ref (He.ga K x)) = true := He.keep_ok (T.hd.fact i h)
theorem Txt.fre (T : Txt K mg) (i : Nat) {x : Str} (h : faL[i]? = some (.free x)) : mg x = none := T.m0 _ (He.eqO_ok (T.hd.fact i h))
theorem Txt.cls (T : Txt K mg) (i : Nat) {x : Str} (h : faL[i]? = some (.cls x)) : Cls K (He.ga K x) := He.cls_ok (T.hd.fact i h)
theorem Txt.noa (T : Txt K mg) (i : Nat) {x f : Str} (h : faL[i]? = some (.noat x f)) : NoAttr K (He.ga K x) f := He.noat_ok (T.hd.fact i h)
theorem Txt.met (T : Txt K mg) (i : Nat) {x m : Str} (h : faL[i]? = some (.meth x m)) : Meth K (He.ga K x) m (He.ma K (He.ga K x) m) := He.meth_ok (T.hd.fact i h)
theorem Txt.mkr (T : Txt K mg) (i : Nat) {x : Str} (h : faL[i]? = some (.mkr x)) : Mk K (He.ga K x) (He.ma K (He.ga K x) "__init__") := He.mkr_ok (T.hd.fact i h)
theorem Txt.exm (T : Txt K mg) (i : Nat) {x y : Str} {b : Bool} (h : faL[i]? = some (.exm x y b)) : PySem.W.exmOne K (.ref (He.ga K x)) (.ref (He.ga K y)) = some b := He.exm_ok (T.hd.fact i h)
theorem Txt.def_ (T : Txt K mg) (i : Nat) {d : He.DefD} (h : fnL[i]? = some d) : ∃ fd, FunD K d.name d.qual d.params d.body d.scope (d.dvs K) (d.kws K) (He.fAd K d.at_) fd := T.hd.def_ i h
theorem Txt.str (T : Txt K mg) (i : Nat) {x z : Str} (h : faL[i]? = some (.str x z)) : ∃ t, mg x = some (.str z t) := by
  have c2 : (match PySem.W.nsIn K mainGlobals x with
    | some (some (.str y _)) => decide (y = z)
    | _ => false) = true := T.hd.fact i h
  cases e : PySem.W.nsIn K mainGlobals x with
  | none =>
    rw [e] at c2
    cases c2
  | some o =>
    rw [e] at c2
    cases o with
    | none => cases c2
    | some v =>
      cases v with
      | str y t =>
        have ej : y = z := of_decide_eq_true c2
        rw [ej] at e
        exact ⟨t, T.m1 _ _ e⟩
      | _ => cases c2
theorem Txt.int (T : Txt K mg) (i : Nat) {x : Str} {z : Int} (h : faL[i]? = some (.int x z)) : ∃ t, mg x = some (.int z t) := by
  have c2 : (match PySem.W.nsIn K mainGlobals x with
    | some (some (.int y _)) => decide (y = z)
    | _ => false) = true := T.hd.fact i h
  cases e : PySem.W.nsIn K mainGlobals x with
  | none =>
    rw [e] at c2
    cases c2
  | some o =>
    rw [e] at c2
    cases o with
    | none => cases c2
    | some v =>
      cases v with
      | int y t =>
        have ej : y = z := of_decide_eq_true c2
        rw [ej] at e
        exact ⟨t, T.m1 _ _ e⟩
      | _ => cases c2
/-- a def behind a property, a classmethod: no closure -/
theorem Txt.fun_ (T : Txt K mg) (i : Nat) {d : DefC} (h : fcL[i]? = some d) (hc : d.clo = []) : ∃ fd, FunD K d.name d.qual (defArgs d.st) (defBody d.st) (defScope d.st) [] [] (d.at_ K) fd := by
  have e2 : (fcL.map fun d => fnC K (d.at_ K))[i]? = (fcL.map DefC.val)[i]? := by rw [T.fc]
  rw [List.getElem?_map, List.getElem?_map, h] at e2
  have e3 : fnC K (d.at_ K) = d.val := Option.some.inj e2
  have c := List.all_eq_true.mp T.cb d (List.mem_of_getElem? h)
  unfold codeB at c
  unfold fnC at e3
  cases q : K.lookup (d.at_ K) with
  | none =>
    rw [q] at c
    cases c
  | some o =>
    obtain ⟨oc, od, dt, osl⟩ := o
    rw [q] at c e3
    cases dt with
    | func fd =>
      obtain ⟨n1, n2, n3, n4, n5, n6, n7, n8, n9, n10, n11, n12, n13, n14, n15⟩ := fd
      have e4 : (some (n1, n2, n3, n4, n5, n6, n7.map (·.1), n8, n15) : FnC) = some (d.name, d.qual, defArgs d.st, .stmts (defBody d.st), defScope d.st, mainGlobals, d.clo, .none, builtinsNs) := e3
      rw [hc] at e4
      simp only [Option.some.injEq, Prod.mk.injEq, List.map_eq_nil_iff] at e4
      obtain ⟨h1, h2, h3, h4, h5, h6, h7, h8, h9⟩ := e4
      subst h1 h2 h3 h4 h5 h6 h7 h8 h9
      obtain ⟨k1, k2⟩ := He.ba c
      exact ⟨_, ⟨oc, od, .none, n9, n10, n11, n12, n13, n14, osl, rfl, q, k1, .inl ⟨rfl, rfl⟩, .inl rfl⟩, k2⟩
    | _ => cases c
/-- .. one that closes over __class__ -/
theorem Txt.clo_ (T : Txt K mg) (i : Nat) {d : DefC} (h : fcL[i]? = some d) (hc : d.clo = [("__class__" : Str)]) : ∃ oc od osl kV doc pm an cdv ct cc, K.lookup (d.at_ K) = some ⟨oc, od, .func ⟨d.name, d.qual, defArgs d.st, .stmts (defBody d.st), defScope d.st, mainGlobals, [("__class__", cc)], .none, kV, doc, pm, an, cdv, ct, builtinsNs⟩, osl⟩ ∧ PySem.W.codeIn K cdv d.qual = true := by
  have e2 : (fcL.map fun d => fnC K (d.at_ K))[i]? = (fcL.map DefC.val)[i]? := by rw [T.fc]
  rw [List.getElem?_map, List.getElem?_map, h] at e2
  have e3 : fnC K (d.at_ K) = d.val := Option.some.inj e2
  have c := List.all_eq_true.mp T.cb d (List.mem_of_getElem? h)
  unfold codeB at c
  unfold fnC at e3
  cases q : K.lookup (d.at_ K) with
  | none =>
    rw [q] at c
    cases c
  | some o =>
    obtain ⟨oc, od, dt, osl⟩ := o
    rw [q] at c e3
    cases dt with
    | func fd =>
      obtain ⟨n1, n2, n3, n4, n5, n6, n7, n8, n9, n10, n11, n12, n13, n14, n15⟩ := fd
      have e4 : (some (n1, n2, n3, n4, n5, n6, n7.map (·.1), n8, n15) : FnC) = some (d.name, d.qual, defArgs d.st, .stmts (defBody d.st), defScope d.st, mainGlobals, d.clo, .none, builtinsNs) := e3
      rw [hc] at e4
      simp only [Option.some.injEq, Prod.mk.injEq] at e4
      obtain ⟨h1, h2, h3, h4, h5, h6, h7, h8, h9⟩ := e4
      obtain ⟨cc, h7⟩ : ∃ cc : Addr, n7 = [(("__class__" : Str), cc)] := by
        cases n7 with
        | nil => cases h7
        | cons p r =>
          obtain ⟨a, b⟩ := p
          cases r with
          | nil =>
            have e : a = ("__class__" : Str) := by simpa using h7
            exact ⟨b, by rw [e]⟩
          | cons p2 r2 => simp at h7
      subst h1 h2 h3 h4 h5 h6 h7 h8 h9
      obtain ⟨k1, k2⟩ := He.ba c
      exact ⟨oc, od, osl, n9, n10, n11, n12, n13, n14, cc, rfl, k1⟩
    | _ => cases c
theorem Txt.g_is_letter (T : Txt K mg) : mg "is_letter" = some (.ref (He.ga K "is_letter")) := T.glo 0 rfl
theorem Txt.kp_is_letter (T : Txt K mg) : PySem.W.keepIn K (.ref (He.ga K "is_letter")) = true := T.kep 1 rfl
theorem Txt.g_is_integer (T : Txt K mg) : mg "is_integer" = some (.ref (He.ga K "is_integer")) := T.glo 2 rfl
theorem Txt.kp_is_integer (T : Txt K mg) : PySem.W.keepIn K (.ref (He.ga K "is_integer")) = true := T.kep 3 rfl
theorem Txt.g_check_integer (T : Txt K mg) : mg "check_integer" = some (.ref (He.ga K "check_integer")) := T.glo 4 rfl
theorem Txt.kp_check_integer (T : Txt K mg) : PySem.W.keepIn K (.ref (He.ga K "check_integer")) = true := T.kep 5 rfl
theorem Txt.g_check_count (T : Txt K mg) : mg "check_count" = some (.ref (He.ga K "check_count")) := T.glo 6 rfl
theorem Txt.kp_check_count (T : Txt K mg) : PySem.W.keepIn K (.ref (He.ga K "check_count")) = true := T.kep 7 rfl
theorem Txt.g_is_step (T : Txt K mg) : mg "is_step" = some (.ref (He.ga K "is_step")) := T.glo 8 rfl
theorem Txt.kp_is_step (T : Txt K mg) : PySem.W.keepIn K (.ref (He.ga K "is_step")) = true := T.kep 9 rfl
theorem Txt.g_check_steps (T : Txt K mg) : mg "check_steps" = some (.ref (He.ga K "check_steps")) := T.glo 10 rfl
theorem Txt.kp_check_steps (T : Txt K mg) : PySem.W.keepIn K (.ref (He.ga K "check_steps")) = true := T.kep 11 rfl
theorem Txt.g_move_of (T : Txt K mg) : mg "move_of" = some (.ref (He.ga K "move_of")) := T.glo 12 rfl
theorem Txt.kp_move_of (T : Txt K mg) : PySem.W.keepIn K (.ref (He.ga K "move_of")) = true := T.kep 13 rfl
theorem Txt.g_is_letter_dict (T : Txt K mg) : mg "is_letter_dict" = some (.ref (He.ga K "is_letter_dict")) := T.glo 14 rfl
theorem Txt.kp_is_letter_dict (T : Txt K mg) : PySem.W.keepIn K (.ref (He.ga K "is_letter_dict")) = true := T.kep 15 rfl
theorem Txt.g_by_offset (T : Txt K mg) : mg "by_offset" = some (.ref (He.ga K "by_offset")) := T.glo 16 rfl
theorem Txt.kp_by_offset (T : Txt K mg) : PySem.W.keepIn K (.ref (He.ga K "by_offset")) = true := T.kep 17 rfl
theorem Txt.g_is_normal (T : Txt K mg) : mg "is_normal" = some (.ref (He.ga K "is_normal")) := T.glo 18 rfl
theorem Txt.kp_is_normal (T : Txt K mg) : PySem.W.keepIn K (.ref (He.ga K "is_normal")) = true := T.kep 19 rfl
theorem Txt.g_effect_of (T : Txt K mg) : mg "effect_of" = some (.ref (He.ga K "effect_of")) := T.glo 20 rfl
theorem Txt.kp_effect_of (T : Txt K mg) : PySem.W.keepIn K (.ref (He.ga K "effect_of")) = true := T.kep 21 rfl
theorem Txt.g_compose (T : Txt K mg) : mg "compose" = some (.ref (He.ga K "compose")) := T.glo 22 rfl
theorem Txt.kp_compose (T : Txt K mg) : PySem.W.keepIn K (.ref (He.ga K "compose")) = true := T.kep 23 rfl
theorem Txt.g_chains (T : Txt K mg) : mg "chains" = some (.ref (He.ga K "chains")) := T.glo 24 rfl
theorem Txt.kp_chains (T : Txt K mg) : PySem.W.keepIn K (.ref (He.ga K "chains")) = true := T.kep 25 rfl
theorem Txt.g_letter_left (T : Txt K mg) : mg "letter_left" = some (.ref (He.ga K "letter_left")) := T.glo 26 rfl
theorem Txt.kp_letter_left (T : Txt K mg) : PySem.W.keepIn K (.ref (He.ga K "letter_left")) = true := T.kep 27 rfl
theorem Txt.g_first_failing_power (T : Txt K mg) : mg "first_failing_power" = some (.ref (He.ga K "first_failing_power")) := T.glo 28 rfl
theorem Txt.kp_first_failing_power (T : Txt K mg) : PySem.W.keepIn K (.ref (He.ga K "first_failing_power")) = true := T.kep 29 rfl
theorem Txt.g_fails (T : Txt K mg) : mg "fails" = some (.ref (He.ga K "fails")) := T.glo 30 rfl
theorem Txt.kp_fails (T : Txt K mg) : PySem.W.keepIn K (.ref (He.ga K "fails")) = true := T.kep 31 rfl
theorem Txt.g_segments (T : Txt K mg) : mg "segments" = some (.ref (He.ga K "segments")) := T.glo 32 rfl
theorem Txt.kp_segments (T : Txt K mg) : PySem.W.keepIn K (.ref (He.ga K "segments")) = true := T.kep 33 rfl
theorem Txt.g_power (T : Txt K mg) : mg "power" = some (.ref (He.ga K "power")) := T.glo 34 rfl
theorem Txt.kp_power (T : Txt K mg) : PySem.W.keepIn K (.ref (He.ga K "power")) = true := T.kep 35 rfl
theorem Txt.g_run (T : Txt K mg) : mg "run" = some (.ref (He.ga K "run")) := T.glo 36 rfl
theorem Txt.kp_run (T : Txt K mg) : PySem.W.keepIn K (.ref (He.ga K "run")) = true := T.kep 37 rfl
theorem Txt.g_check_with_calls (T : Txt K mg) : mg "check_with_calls" = some (.ref (He.ga K "check_with_calls")) := T.glo 38 rfl
theorem Txt.kp_check_with_calls (T : Txt K mg) : PySem.W.keepIn K (.ref (He.ga K "check_with_calls")) = true := T.kep 39 rfl
theorem Txt.g_law_stream (T : Txt K mg) : mg "_law_stream" = some (.ref (He.ga K "_law_stream")) := T.glo 40 rfl
theorem Txt.kp_law_stream (T : Txt K mg) : PySem.W.keepIn K (.ref (He.ga K "_law_stream")) = true := T.kep 41 rfl
theorem Txt.g_law_draw (T : Txt K mg) : mg "_law_draw" = some (.ref (He.ga K "_law_draw")) := T.glo 42 rfl
theorem Txt.kp_law_draw (T : Txt K mg) : PySem.W.keepIn K (.ref (He.ga K "_law_draw")) = true := T.kep 43 rfl
theorem Txt.g_law_alphabet (T : Txt K mg) : mg "_law_alphabet" = some (.ref (He.ga K "_law_alphabet")) := T.glo 44 rfl
theorem Txt.kp_law_alphabet (T : Txt K mg) : PySem.W.keepIn K (.ref (He.ga K "_law_alphabet")) = true := T.kep 45 rfl
theorem Txt.g_law_steps (T : Txt K mg) : mg "_law_steps" = some (.ref (He.ga K "_law_steps")) := T.glo 46 rfl
theorem Txt.kp_law_steps (T : Txt K mg) : PySem.W.keepIn K (.ref (He.ga K "_law_steps")) = true := T.kep 47 rfl
theorem Txt.g_law_spots (T : Txt K mg) : mg "_law_spots" = some (.ref (He.ga K "_law_spots")) := T.glo 48 rfl
theorem Txt.kp_law_spots (T : Txt K mg) : PySem.W.keepIn K (.ref (He.ga K "_law_spots")) = true := T.kep 49 rfl
theorem Txt.g_law_tried (T : Txt K mg) : mg "_law_tried" = some (.ref (He.ga K "_law_tried")) := T.glo 50 rfl
theorem Txt.kp_law_tried (T : Txt K mg) : PySem.W.keepIn K (.ref (He.ga K "_law_tried")) = true := T.kep 51 rfl
theorem Txt.g_law_done (T : Txt K mg) : mg "_law_done" = some (.ref (He.ga K "_law_done")) := T.glo 52 rfl
theorem Txt.kp_law_done (T : Txt K mg) : PySem.W.keepIn K (.ref (He.ga K "_law_done")) = true := T.kep 53 rfl
theorem Txt.g_law_follows (T : Txt K mg) : mg "_law_follows" = some (.ref (He.ga K "_law_follows")) := T.glo 54 rfl
theorem Txt.kp_law_follows (T : Txt K mg) : PySem.W.keepIn K (.ref (He.ga K "_law_follows")) = true := T.kep 55 rfl
theorem Txt.g_law_joined (T : Txt K mg) : mg "_law_joined" = some (.ref (He.ga K "_law_joined")) := T.glo 56 rfl
theorem Txt.kp_law_joined (T : Txt K mg) : PySem.W.keepIn K (.ref (He.ga K "_law_joined")) = true := T.kep 57 rfl
theorem Txt.g_law_whole_right (T : Txt K mg) : mg "_law_whole_right" = some (.ref (He.ga K "_law_whole_right")) := T.glo 58 rfl
theorem Txt.kp_law_whole_right (T : Txt K mg) : PySem.W.keepIn K (.ref (He.ga K "_law_whole_right")) = true := T.kep 59 rfl
theorem Txt.g_law_unwound (T : Txt K mg) : mg "_law_unwound" = some (.ref (He.ga K "_law_unwound")) := T.glo 60 rfl
theorem Txt.kp_law_unwound (T : Txt K mg) : PySem.W.keepIn K (.ref (He.ga K "_law_unwound")) = true := T.kep 61 rfl
theorem Txt.g_law (T : Txt K mg) : mg "law" = some (.ref (He.ga K "law")) := T.glo 62 rfl
theorem Txt.kp_law (T : Txt K mg) : PySem.W.keepIn K (.ref (He.ga K "law")) = true := T.kep 63 rfl
theorem Txt.g_Tape (T : Txt K mg) : mg "Tape" = some (.ref (He.ga K "Tape")) := T.glo 64 rfl
theorem Txt.g_Effect (T : Txt K mg) : mg "Effect" = some (.ref (He.ga K "Effect")) := T.glo 65 rfl
theorem Txt.g_Builder (T : Txt K mg) : mg "Builder" = some (.ref (He.ga K "Builder")) := T.glo 66 rfl
theorem Txt.g_Segment (T : Txt K mg) : mg "Segment" = some (.ref (He.ga K "Segment")) := T.glo 67 rfl
theorem Txt.g_BigPower (T : Txt K mg) : mg "BigPower" = some (.ref (He.ga K "BigPower")) := T.glo 68 rfl
theorem Txt.g_Run (T : Txt K mg) : mg "Run" = some (.ref (He.ga K "Run")) := T.glo 69 rfl
theorem Txt.g_Definitions (T : Txt K mg) : mg "Definitions" = some (.ref (He.ga K "Definitions")) := T.glo 70 rfl
theorem Txt.g_Session (T : Txt K mg) : mg "Session" = some (.ref (He.ga K "Session")) := T.glo 71 rfl
theorem Txt.g_StepFailed (T : Txt K mg) : mg "StepFailed" = some (.ref (He.ga K "StepFailed")) := T.glo 72 rfl
theorem Txt.g_NotApplicable (T : Txt K mg) : mg "NotApplicable" = some (.ref (He.ga K "NotApplicable")) := T.glo 73 rfl
theorem Txt.g_NothingToUndo (T : Txt K mg) : mg "NothingToUndo" = some (.ref (He.ga K "NothingToUndo")) := T.glo 74 rfl
theorem Txt.n_len (T : Txt K mg) : mg "len" = none := T.fre 75 rfl
theorem Txt.n_all (T : Txt K mg) : mg "all" = none := T.fre 76 rfl
theorem Txt.n_any (T : Txt K mg) : mg "any" = none := T.fre 77 rfl
theorem Txt.n_sorted (T : Txt K mg) : mg "sorted" = none := T.fre 78 rfl
theorem Txt.n_min (T : Txt K mg) : mg "min" = none := T.fre 79 rfl
theorem Txt.n_max (T : Txt K mg) : mg "max" = none := T.fre 80 rfl
theorem Txt.n_sum (T : Txt K mg) : mg "sum" = none := T.fre 81 rfl
theorem Txt.n_isinstance (T : Txt K mg) : mg "isinstance" = none := T.fre 82 rfl
theorem Txt.n_int (T : Txt K mg) : mg "int" = none := T.fre 83 rfl
theorem Txt.n_str (T : Txt K mg) : mg "str" = none := T.fre 84 rfl
theorem Txt.n_bool (T : Txt K mg) : mg "bool" = none := T.fre 85 rfl
theorem Txt.n_dict (T : Txt K mg) : mg "dict" = none := T.fre 86 rfl
theorem Txt.n_list (T : Txt K mg) : mg "list" = none := T.fre 87 rfl
theorem Txt.n_tuple (T : Txt K mg) : mg "tuple" = none := T.fre 88 rfl
theorem Txt.n_range (T : Txt K mg) : mg "range" = none := T.fre 89 rfl
theorem Txt.n_enumerate (T : Txt K mg) : mg "enumerate" = none := T.fre 90 rfl
theorem Txt.n_divmod (T : Txt K mg) : mg "divmod" = none := T.fre 91 rfl
theorem Txt.n_zip (T : Txt K mg) : mg "zip" = none := T.fre 92 rfl
theorem Txt.n_super (T : Txt K mg) : mg "super" = none := T.fre 93 rfl
theorem Txt.x_LETTERS (T : Txt K mg) : ∃ t, mg "LETTERS" = some (.str "abcdefghijklmnopqrstuvwxyz" t) := T.str 94 rfl
theorem Txt.x_MAX_TOUCHED (T : Txt K mg) : ∃ t, mg "MAX_TOUCHED" = some (.int 2000 t) := T.int 95 rfl
theorem Txt.x_MAX_STEPS (T : Txt K mg) : ∃ t, mg "MAX_STEPS" = some (.int 2000 t) := T.int 96 rfl
theorem Txt.c_Tape (T : Txt K mg) : Cls K (He.ga K "Tape") := T.cls 97 rfl
theorem Txt.k_Tape (T : Txt K mg) : Mk K (He.ga K "Tape") (He.ma K (He.ga K "Tape") "__init__") := T.mkr 98 rfl
theorem Txt.m_Tape_init (T : Txt K mg) : Meth K (He.ga K "Tape") "__init__" (He.ma K (He.ga K "Tape") "__init__") := T.met 99 rfl
theorem Txt.m_Tape_eq (T : Txt K mg) : Meth K (He.ga K "Tape") "__eq__" (He.ma K (He.ga K "Tape") "__eq__") := T.met 100 rfl
theorem Txt.m_Tape_letter (T : Txt K mg) : Meth K (He.ga K "Tape") "letter" (He.ma K (He.ga K "Tape") "letter") := T.met 101 rfl
theorem Txt.m_Tape_with_letters (T : Txt K mg) : Meth K (He.ga K "Tape") "with_letters" (He.ma K (He.ga K "Tape") "with_letters") := T.met 102 rfl
theorem Txt.a_Tape_blank_letter (T : Txt K mg) : NoAttr K (He.ga K "Tape") "blank_letter" := T.noa 103 rfl
theorem Txt.a_Tape_own_cells (T : Txt K mg) : NoAttr K (He.ga K "Tape") "own_cells" := T.noa 104 rfl
theorem Txt.c_Effect (T : Txt K mg) : Cls K (He.ga K "Effect") := T.cls 105 rfl
theorem Txt.k_Effect (T : Txt K mg) : Mk K (He.ga K "Effect") (He.ma K (He.ga K "Effect") "__init__") := T.mkr 106 rfl
theorem Txt.m_Effect_init (T : Txt K mg) : Meth K (He.ga K "Effect") "__init__" (He.ma K (He.ga K "Effect") "__init__") := T.met 107 rfl
theorem Txt.m_Effect_eq (T : Txt K mg) : Meth K (He.ga K "Effect") "__eq__" (He.ma K (He.ga K "Effect") "__eq__") := T.met 108 rfl
theorem Txt.m_Effect_touched (T : Txt K mg) : Meth K (He.ga K "Effect") "touched" (He.ma K (He.ga K "Effect") "touched") := T.met 109 rfl
theorem Txt.m_Effect_mismatch (T : Txt K mg) : Meth K (He.ga K "Effect") "mismatch" (He.ma K (He.ga K "Effect") "mismatch") := T.met 110 rfl
theorem Txt.m_Effect_applies (T : Txt K mg) : Meth K (He.ga K "Effect") "applies" (He.ma K (He.ga K "Effect") "applies") := T.met 111 rfl
theorem Txt.m_Effect_apply (T : Txt K mg) : Meth K (He.ga K "Effect") "apply" (He.ma K (He.ga K "Effect") "apply") := T.met 112 rfl
theorem Txt.a_Effect_needs (T : Txt K mg) : NoAttr K (He.ga K "Effect") "needs" := T.noa 113 rfl
theorem Txt.a_Effect_puts (T : Txt K mg) : NoAttr K (He.ga K "Effect") "puts" := T.noa 114 rfl
theorem Txt.a_Effect_move (T : Txt K mg) : NoAttr K (He.ga K "Effect") "move" := T.noa 115 rfl
theorem Txt.c_Builder (T : Txt K mg) : Cls K (He.ga K "Builder") := T.cls 116 rfl
theorem Txt.k_Builder (T : Txt K mg) : Mk K (He.ga K "Builder") (He.ma K (He.ga K "Builder") "__init__") := T.mkr 117 rfl
theorem Txt.m_Builder_init (T : Txt K mg) : Meth K (He.ga K "Builder") "__init__" (He.ma K (He.ga K "Builder") "__init__") := T.met 118 rfl
theorem Txt.m_Builder_expect (T : Txt K mg) : Meth K (He.ga K "Builder") "expect" (He.ma K (He.ga K "Builder") "expect") := T.met 119 rfl
theorem Txt.m_Builder_write (T : Txt K mg) : Meth K (He.ga K "Builder") "write" (He.ma K (He.ga K "Builder") "write") := T.met 120 rfl
theorem Txt.m_Builder_add_step (T : Txt K mg) : Meth K (He.ga K "Builder") "add_step" (He.ma K (He.ga K "Builder") "add_step") := T.met 121 rfl
theorem Txt.m_Builder_add_effect (T : Txt K mg) : Meth K (He.ga K "Builder") "add_effect" (He.ma K (He.ga K "Builder") "add_effect") := T.met 122 rfl
theorem Txt.m_Builder_result (T : Txt K mg) : Meth K (He.ga K "Builder") "result" (He.ma K (He.ga K "Builder") "result") := T.met 123 rfl
theorem Txt.a_Builder_needs (T : Txt K mg) : NoAttr K (He.ga K "Builder") "needs" := T.noa 124 rfl
theorem Txt.a_Builder_known (T : Txt K mg) : NoAttr K (He.ga K "Builder") "known" := T.noa 125 rfl
theorem Txt.a_Builder_written (T : Txt K mg) : NoAttr K (He.ga K "Builder") "written" := T.noa 126 rfl
theorem Txt.a_Builder_offset (T : Txt K mg) : NoAttr K (He.ga K "Builder") "offset" := T.noa 127 rfl
theorem Txt.a_Builder_failed (T : Txt K mg) : NoAttr K (He.ga K "Builder") "failed" := T.noa 128 rfl
theorem Txt.c_Segment (T : Txt K mg) : Cls K (He.ga K "Segment") := T.cls 129 rfl
theorem Txt.k_Segment (T : Txt K mg) : Mk K (He.ga K "Segment") (He.ma K (He.ga K "Segment") "__init__") := T.mkr 130 rfl
theorem Txt.m_Segment_init (T : Txt K mg) : Meth K (He.ga K "Segment") "__init__" (He.ma K (He.ga K "Segment") "__init__") := T.met 131 rfl
theorem Txt.m_Segment_size (T : Txt K mg) : Meth K (He.ga K "Segment") "size" (He.ma K (He.ga K "Segment") "size") := T.met 132 rfl
theorem Txt.m_Segment_offsets (T : Txt K mg) : Meth K (He.ga K "Segment") "offsets" (He.ma K (He.ga K "Segment") "offsets") := T.met 133 rfl
theorem Txt.a_Segment_divisor (T : Txt K mg) : NoAttr K (He.ga K "Segment") "divisor" := T.noa 134 rfl
theorem Txt.a_Segment_remainder (T : Txt K mg) : NoAttr K (He.ga K "Segment") "remainder" := T.noa 135 rfl
theorem Txt.a_Segment_bounds (T : Txt K mg) : NoAttr K (He.ga K "Segment") "bounds" := T.noa 136 rfl
theorem Txt.a_Segment_needed (T : Txt K mg) : NoAttr K (He.ga K "Segment") "needed" := T.noa 137 rfl
theorem Txt.a_Segment_left (T : Txt K mg) : NoAttr K (He.ga K "Segment") "left" := T.noa 138 rfl
theorem Txt.c_BigPower (T : Txt K mg) : Cls K (He.ga K "BigPower") := T.cls 139 rfl
theorem Txt.k_BigPower (T : Txt K mg) : Mk K (He.ga K "BigPower") (He.ma K (He.ga K "BigPower") "__init__") := T.mkr 140 rfl
theorem Txt.m_BigPower_init (T : Txt K mg) : Meth K (He.ga K "BigPower") "__init__" (He.ma K (He.ga K "BigPower") "__init__") := T.met 141 rfl
theorem Txt.m_BigPower_letters_at (T : Txt K mg) : Meth K (He.ga K "BigPower") "letters_at" (He.ma K (He.ga K "BigPower") "letters_at") := T.met 142 rfl
theorem Txt.m_BigPower_groups (T : Txt K mg) : Meth K (He.ga K "BigPower") "groups" (He.ma K (He.ga K "BigPower") "groups") := T.met 143 rfl
theorem Txt.m_BigPower_touched_count (T : Txt K mg) : Meth K (He.ga K "BigPower") "touched_count" (He.ma K (He.ga K "BigPower") "touched_count") := T.met 144 rfl
theorem Txt.a_BigPower_base (T : Txt K mg) : NoAttr K (He.ga K "BigPower") "base" := T.noa 145 rfl
theorem Txt.a_BigPower_times (T : Txt K mg) : NoAttr K (He.ga K "BigPower") "times" := T.noa 146 rfl
theorem Txt.c_Run (T : Txt K mg) : Cls K (He.ga K "Run") := T.cls 147 rfl
theorem Txt.k_Run (T : Txt K mg) : Mk K (He.ga K "Run") (He.ma K (He.ga K "Run") "__init__") := T.mkr 148 rfl
theorem Txt.m_Run_init (T : Txt K mg) : Meth K (He.ga K "Run") "__init__" (He.ma K (He.ga K "Run") "__init__") := T.met 149 rfl
theorem Txt.m_Run_letter (T : Txt K mg) : Meth K (He.ga K "Run") "letter" (He.ma K (He.ga K "Run") "letter") := T.met 150 rfl
theorem Txt.m_Run_perform (T : Txt K mg) : Meth K (He.ga K "Run") "perform" (He.ma K (He.ga K "Run") "perform") := T.met 151 rfl
theorem Txt.m_Run_perform_all (T : Txt K mg) : Meth K (He.ga K "Run") "perform_all" (He.ma K (He.ga K "Run") "perform_all") := T.met 152 rfl
theorem Txt.m_Run_place (T : Txt K mg) : Meth K (He.ga K "Run") "place" (He.ma K (He.ga K "Run") "place") := T.met 153 rfl
theorem Txt.a_Run_own_tape (T : Txt K mg) : NoAttr K (He.ga K "Run") "own_tape" := T.noa 154 rfl
theorem Txt.a_Run_position (T : Txt K mg) : NoAttr K (He.ga K "Run") "position" := T.noa 155 rfl
theorem Txt.a_Run_written (T : Txt K mg) : NoAttr K (He.ga K "Run") "written" := T.noa 156 rfl
theorem Txt.c_Definitions (T : Txt K mg) : Cls K (He.ga K "Definitions") := T.cls 157 rfl
theorem Txt.k_Definitions (T : Txt K mg) : Mk K (He.ga K "Definitions") (He.ma K (He.ga K "Definitions") "__init__") := T.mkr 158 rfl
theorem Txt.m_Definitions_init (T : Txt K mg) : Meth K (He.ga K "Definitions") "__init__" (He.ma K (He.ga K "Definitions") "__init__") := T.met 159 rfl
theorem Txt.m_Definitions_expand (T : Txt K mg) : Meth K (He.ga K "Definitions") "expand" (He.ma K (He.ga K "Definitions") "expand") := T.met 160 rfl
theorem Txt.a_Definitions_sequences (T : Txt K mg) : NoAttr K (He.ga K "Definitions") "sequences" := T.noa 161 rfl
theorem Txt.c_Session (T : Txt K mg) : Cls K (He.ga K "Session") := T.cls 162 rfl
theorem Txt.k_Session (T : Txt K mg) : Mk K (He.ga K "Session") (He.ma K (He.ga K "Session") "__init__") := T.mkr 163 rfl
theorem Txt.m_Session_init (T : Txt K mg) : Meth K (He.ga K "Session") "__init__" (He.ma K (He.ga K "Session") "__init__") := T.met 164 rfl
theorem Txt.m_Session_len (T : Txt K mg) : Meth K (He.ga K "Session") "__len__" (He.ma K (He.ga K "Session") "__len__") := T.met 165 rfl
theorem Txt.m_Session_expand (T : Txt K mg) : Meth K (He.ga K "Session") "expand" (He.ma K (He.ga K "Session") "expand") := T.met 166 rfl
theorem Txt.m_Session_act (T : Txt K mg) : Meth K (He.ga K "Session") "act" (He.ma K (He.ga K "Session") "act") := T.met 167 rfl
theorem Txt.m_Session_do (T : Txt K mg) : Meth K (He.ga K "Session") "do" (He.ma K (He.ga K "Session") "do") := T.met 168 rfl
theorem Txt.m_Session_repeat (T : Txt K mg) : Meth K (He.ga K "Session") "repeat" (He.ma K (He.ga K "Session") "repeat") := T.met 169 rfl
theorem Txt.m_Session_perform (T : Txt K mg) : Meth K (He.ga K "Session") "perform" (He.ma K (He.ga K "Session") "perform") := T.met 170 rfl
theorem Txt.m_Session_take_over (T : Txt K mg) : Meth K (He.ga K "Session") "take_over" (He.ma K (He.ga K "Session") "take_over") := T.met 171 rfl
theorem Txt.m_Session_history (T : Txt K mg) : Meth K (He.ga K "Session") "history" (He.ma K (He.ga K "Session") "history") := T.met 172 rfl
theorem Txt.m_Session_total_effect (T : Txt K mg) : Meth K (He.ga K "Session") "total_effect" (He.ma K (He.ga K "Session") "total_effect") := T.met 173 rfl
theorem Txt.m_Session_undo (T : Txt K mg) : Meth K (He.ga K "Session") "undo" (He.ma K (He.ga K "Session") "undo") := T.met 174 rfl
theorem Txt.m_Session_redo (T : Txt K mg) : Meth K (He.ga K "Session") "redo" (He.ma K (He.ga K "Session") "redo") := T.met 175 rfl
theorem Txt.m_Session_clone (T : Txt K mg) : Meth K (He.ga K "Session") "clone" (He.ma K (He.ga K "Session") "clone") := T.met 176 rfl
theorem Txt.a_Session_own_tape (T : Txt K mg) : NoAttr K (He.ga K "Session") "own_tape" := T.noa 177 rfl
theorem Txt.a_Session_own_head (T : Txt K mg) : NoAttr K (He.ga K "Session") "own_head" := T.noa 178 rfl
theorem Txt.a_Session_known (T : Txt K mg) : NoAttr K (He.ga K "Session") "known" := T.noa 179 rfl
theorem Txt.a_Session_effects_done (T : Txt K mg) : NoAttr K (He.ga K "Session") "effects_done" := T.noa 180 rfl
theorem Txt.a_Session_places_before (T : Txt K mg) : NoAttr K (He.ga K "Session") "places_before" := T.noa 181 rfl
theorem Txt.a_Session_undone (T : Txt K mg) : NoAttr K (He.ga K "Session") "undone" := T.noa 182 rfl
theorem Txt.a_Session_events (T : Txt K mg) : NoAttr K (He.ga K "Session") "events" := T.noa 183 rfl
theorem Txt.e_StepFailed_StepFailed (T : Txt K mg) : PySem.W.exmOne K (.ref (He.ga K "StepFailed")) (.ref (He.ga K "StepFailed")) = some true := T.exm 184 rfl
theorem Txt.e_StepFailed_NotApplicable (T : Txt K mg) : PySem.W.exmOne K (.ref (He.ga K "StepFailed")) (.ref (He.ga K "NotApplicable")) = some false := T.exm 185 rfl
theorem Txt.e_StepFailed_NothingToUndo (T : Txt K mg) : PySem.W.exmOne K (.ref (He.ga K "StepFailed")) (.ref (He.ga K "NothingToUndo")) = some false := T.exm 186 rfl
theorem Txt.e_NotApplicable_StepFailed (T : Txt K mg) : PySem.W.exmOne K (.ref (He.ga K "NotApplicable")) (.ref (He.ga K "StepFailed")) = some false := T.exm 187 rfl
theorem Txt.e_NotApplicable_NotApplicable (T : Txt K mg) : PySem.W.exmOne K (.ref (He.ga K "NotApplicable")) (.ref (He.ga K "NotApplicable")) = some true := T.exm 188 rfl
theorem Txt.e_NotApplicable_NothingToUndo (T : Txt K mg) : PySem.W.exmOne K (.ref (He.ga K "NotApplicable")) (.ref (He.ga K "NothingToUndo")) = some false := T.exm 189 rfl
theorem Txt.e_NothingToUndo_StepFailed (T : Txt K mg) : PySem.W.exmOne K (.ref (He.ga K "NothingToUndo")) (.ref (He.ga K "StepFailed")) = some false := T.exm 190 rfl
theorem Txt.e_NothingToUndo_NotApplicable (T : Txt K mg) : PySem.W.exmOne K (.ref (He.ga K "NothingToUndo")) (.ref (He.ga K "NotApplicable")) = some false := T.exm 191 rfl
theorem Txt.e_NothingToUndo_NothingToUndo (T : Txt K mg) : PySem.W.exmOne K (.ref (He.ga K "NothingToUndo")) (.ref (He.ga K "NothingToUndo")) = some true := T.exm 192 rfl
theorem Txt.f_is_letter (T : Txt K mg) : ∃ fd, FunD K "is_letter" "is_letter" (defArgs s_is_letter) (defBody s_is_letter) (defScope s_is_letter) [] [] (He.ga K "is_letter") fd := T.def_ 0 (d := d_is_letter) rfl
theorem Txt.f_is_integer (T : Txt K mg) : ∃ fd, FunD K "is_integer" "is_integer" (defArgs s_is_integer) (defBody s_is_integer) (defScope s_is_integer) [] [] (He.ga K "is_integer") fd := T.def_ 1 (d := d_is_integer) rfl
theorem Txt.f_check_integer (T : Txt K mg) : ∃ fd, FunD K "check_integer" "check_integer" (defArgs s_check_integer) (defBody s_check_integer) (defScope s_check_integer) [] [] (He.ga K "check_integer") fd := T.def_ 2 (d := d_check_integer) rfl
theorem Txt.f_check_count (T : Txt K mg) : ∃ fd, FunD K "check_count" "check_count" (defArgs s_check_count) (defBody s_check_count) (defScope s_check_count) [] [] (He.ga K "check_count") fd := T.def_ 3 (d := d_check_count) rfl
theorem Txt.f_is_step (T : Txt K mg) : ∃ fd, FunD K "is_step" "is_step" (defArgs s_is_step) (defBody s_is_step) (defScope s_is_step) [] [] (He.ga K "is_step") fd := T.def_ 4 (d := d_is_step) rfl
theorem Txt.f_check_steps (T : Txt K mg) : ∃ fd, FunD K "check_steps" "check_steps" (defArgs s_check_steps) (defBody s_check_steps) (defScope s_check_steps) [] [] (He.ga K "check_steps") fd := T.def_ 5 (d := d_check_steps) rfl
theorem Txt.f_move_of (T : Txt K mg) : ∃ fd, FunD K "move_of" "move_of" (defArgs s_move_of) (defBody s_move_of) (defScope s_move_of) [] [] (He.ga K "move_of") fd := T.def_ 6 (d := d_move_of) rfl
theorem Txt.f_is_letter_dict (T : Txt K mg) : ∃ fd, FunD K "is_letter_dict" "is_letter_dict" (defArgs s_is_letter_dict) (defBody s_is_letter_dict) (defScope s_is_letter_dict) [] [] (He.ga K "is_letter_dict") fd := T.def_ 7 (d := d_is_letter_dict) rfl
theorem Txt.f_by_offset (T : Txt K mg) : ∃ fd, FunD K "by_offset" "by_offset" (defArgs s_by_offset) (defBody s_by_offset) (defScope s_by_offset) [] [] (He.ga K "by_offset") fd := T.def_ 8 (d := d_by_offset) rfl
theorem Txt.f_is_normal (T : Txt K mg) : ∃ fd, FunD K "is_normal" "is_normal" (defArgs s_is_normal) (defBody s_is_normal) (defScope s_is_normal) [] [] (He.ga K "is_normal") fd := T.def_ 9 (d := d_is_normal) rfl
theorem Txt.f_effect_of (T : Txt K mg) : ∃ fd, FunD K "effect_of" "effect_of" (defArgs s_effect_of) (defBody s_effect_of) (defScope s_effect_of) [] [] (He.ga K "effect_of") fd := T.def_ 10 (d := d_effect_of) rfl
theorem Txt.f_compose (T : Txt K mg) : ∃ fd, FunD K "compose" "compose" (defArgs s_compose) (defBody s_compose) (defScope s_compose) [] [] (He.ga K "compose") fd := T.def_ 11 (d := d_compose) rfl
theorem Txt.f_chains (T : Txt K mg) : ∃ fd, FunD K "chains" "chains" (defArgs s_chains) (defBody s_chains) (defScope s_chains) [] [] (He.ga K "chains") fd := T.def_ 12 (d := d_chains) rfl
theorem Txt.f_letter_left (T : Txt K mg) : ∃ fd, FunD K "letter_left" "letter_left" (defArgs s_letter_left) (defBody s_letter_left) (defScope s_letter_left) [] [] (He.ga K "letter_left") fd := T.def_ 13 (d := d_letter_left) rfl
theorem Txt.f_first_failing_power (T : Txt K mg) : ∃ fd, FunD K "first_failing_power" "first_failing_power" (defArgs s_first_failing_power) (defBody s_first_failing_power) (defScope s_first_failing_power) [] [] (He.ga K "first_failing_power") fd := T.def_ 14 (d := d_first_failing_power) rfl
theorem Txt.f_fails (T : Txt K mg) : ∃ fd, FunD K "fails" "fails" (defArgs s_fails) (defBody s_fails) (defScope s_fails) [] [] (He.ga K "fails") fd := T.def_ 15 (d := d_fails) rfl
theorem Txt.f_segments (T : Txt K mg) : ∃ fd, FunD K "segments" "segments" (defArgs s_segments) (defBody s_segments) (defScope s_segments) [] [] (He.ga K "segments") fd := T.def_ 16 (d := d_segments) rfl
theorem Txt.f_power (T : Txt K mg) : ∃ fd, FunD K "power" "power" (defArgs s_power) (defBody s_power) (defScope s_power) [] [] (He.ga K "power") fd := T.def_ 17 (d := d_power) rfl
theorem Txt.f_run (T : Txt K mg) : ∃ fd, FunD K "run" "run" (defArgs s_run) (defBody s_run) (defScope s_run) [] [("head", .int 0)] (He.ga K "run") fd := T.def_ 18 (d := d_run) rfl
theorem Txt.f_check_with_calls (T : Txt K mg) : ∃ fd, FunD K "check_with_calls" "check_with_calls" (defArgs s_check_with_calls) (defBody s_check_with_calls) (defScope s_check_with_calls) [] [] (He.ga K "check_with_calls") fd := T.def_ 19 (d := d_check_with_calls) rfl
theorem Txt.f_law_stream (T : Txt K mg) : ∃ fd, FunD K "_law_stream" "_law_stream" (defArgs s_law_stream) (defBody s_law_stream) (defScope s_law_stream) [] [] (He.ga K "_law_stream") fd := T.def_ 20 (d := d_law_stream) rfl
theorem Txt.f_law_draw (T : Txt K mg) : ∃ fd, FunD K "_law_draw" "_law_draw" (defArgs s_law_draw) (defBody s_law_draw) (defScope s_law_draw) [] [] (He.ga K "_law_draw") fd := T.def_ 21 (d := d_law_draw) rfl
theorem Txt.f_law_alphabet (T : Txt K mg) : ∃ fd, FunD K "_law_alphabet" "_law_alphabet" (defArgs s_law_alphabet) (defBody s_law_alphabet) (defScope s_law_alphabet) [] [] (He.ga K "_law_alphabet") fd := T.def_ 22 (d := d_law_alphabet) rfl
theorem Txt.f_law_steps (T : Txt K mg) : ∃ fd, FunD K "_law_steps" "_law_steps" (defArgs s_law_steps) (defBody s_law_steps) (defScope s_law_steps) [] [] (He.ga K "_law_steps") fd := T.def_ 23 (d := d_law_steps) rfl
theorem Txt.f_law_spots (T : Txt K mg) : ∃ fd, FunD K "_law_spots" "_law_spots" (defArgs s_law_spots) (defBody s_law_spots) (defScope s_law_spots) [] [] (He.ga K "_law_spots") fd := T.def_ 24 (d := d_law_spots) rfl
theorem Txt.f_law_tried (T : Txt K mg) : ∃ fd, FunD K "_law_tried" "_law_tried" (defArgs s_law_tried) (defBody s_law_tried) (defScope s_law_tried) [] [] (He.ga K "_law_tried") fd := T.def_ 25 (d := d_law_tried) rfl
theorem Txt.f_law_done (T : Txt K mg) : ∃ fd, FunD K "_law_done" "_law_done" (defArgs s_law_done) (defBody s_law_done) (defScope s_law_done) [] [] (He.ga K "_law_done") fd := T.def_ 26 (d := d_law_done) rfl
theorem Txt.f_law_follows (T : Txt K mg) : ∃ fd, FunD K "_law_follows" "_law_follows" (defArgs s_law_follows) (defBody s_law_follows) (defScope s_law_follows) [] [] (He.ga K "_law_follows") fd := T.def_ 27 (d := d_law_follows) rfl
theorem Txt.f_law_joined (T : Txt K mg) : ∃ fd, FunD K "_law_joined" "_law_joined" (defArgs s_law_joined) (defBody s_law_joined) (defScope s_law_joined) [] [] (He.ga K "_law_joined") fd := T.def_ 28 (d := d_law_joined) rfl
theorem Txt.f_law_whole_right (T : Txt K mg) : ∃ fd, FunD K "_law_whole_right" "_law_whole_right" (defArgs s_law_whole_right) (defBody s_law_whole_right) (defScope s_law_whole_right) [] [] (He.ga K "_law_whole_right") fd := T.def_ 29 (d := d_law_whole_right) rfl
theorem Txt.f_law_unwound (T : Txt K mg) : ∃ fd, FunD K "_law_unwound" "_law_unwound" (defArgs s_law_unwound) (defBody s_law_unwound) (defScope s_law_unwound) [] [] (He.ga K "_law_unwound") fd := T.def_ 30 (d := d_law_unwound) rfl
theorem Txt.f_law (T : Txt K mg) : ∃ fd, FunD K "law" "law" (defArgs s_law) (defBody s_law) (defScope s_law) [] [] (He.ga K "law") fd := T.def_ 31 (d := d_law) rfl
theorem Txt.f_Tape_init (T : Txt K mg) : ∃ fd, FunD K "__init__" "Tape.__init__" (defArgs s_Tape_init) (defBody s_Tape_init) (defScope s_Tape_init) [.str "a"] [("cells", .non)] (He.ma K (He.ga K "Tape") "__init__") fd := T.def_ 32 (d := d_Tape_init) rfl
theorem Txt.f_Tape_eq (T : Txt K mg) : ∃ fd, FunD K "__eq__" "Tape.__eq__" (defArgs s_Tape_eq) (defBody s_Tape_eq) (defScope s_Tape_eq) [] [] (He.ma K (He.ga K "Tape") "__eq__") fd := T.def_ 33 (d := d_Tape_eq) rfl
theorem Txt.f_Tape_letter (T : Txt K mg) : ∃ fd, FunD K "letter" "Tape.letter" (defArgs s_Tape_letter) (defBody s_Tape_letter) (defScope s_Tape_letter) [] [] (He.ma K (He.ga K "Tape") "letter") fd := T.def_ 34 (d := d_Tape_letter) rfl
theorem Txt.f_Tape_with_letters (T : Txt K mg) : ∃ fd, FunD K "with_letters" "Tape.with_letters" (defArgs s_Tape_with_letters) (defBody s_Tape_with_letters) (defScope s_Tape_with_letters) [] [] (He.ma K (He.ga K "Tape") "with_letters") fd := T.def_ 35 (d := d_Tape_with_letters) rfl
theorem Txt.f_Effect_init (T : Txt K mg) : ∃ fd, FunD K "__init__" "Effect.__init__" (defArgs s_Effect_init) (defBody s_Effect_init) (defScope s_Effect_init) [] [] (He.ma K (He.ga K "Effect") "__init__") fd := T.def_ 36 (d := d_Effect_init) rfl
theorem Txt.f_Effect_eq (T : Txt K mg) : ∃ fd, FunD K "__eq__" "Effect.__eq__" (defArgs s_Effect_eq) (defBody s_Effect_eq) (defScope s_Effect_eq) [] [] (He.ma K (He.ga K "Effect") "__eq__") fd := T.def_ 37 (d := d_Effect_eq) rfl
theorem Txt.f_Effect_touched (T : Txt K mg) : ∃ fd, FunD K "touched" "Effect.touched" (defArgs s_Effect_touched) (defBody s_Effect_touched) (defScope s_Effect_touched) [] [] (He.ma K (He.ga K "Effect") "touched") fd := T.def_ 38 (d := d_Effect_touched) rfl
theorem Txt.f_Effect_mismatch (T : Txt K mg) : ∃ fd, FunD K "mismatch" "Effect.mismatch" (defArgs s_Effect_mismatch) (defBody s_Effect_mismatch) (defScope s_Effect_mismatch) [] [] (He.ma K (He.ga K "Effect") "mismatch") fd := T.def_ 39 (d := d_Effect_mismatch) rfl
theorem Txt.f_Effect_applies (T : Txt K mg) : ∃ fd, FunD K "applies" "Effect.applies" (defArgs s_Effect_applies) (defBody s_Effect_applies) (defScope s_Effect_applies) [] [("head", .int 0)] (He.ma K (He.ga K "Effect") "applies") fd := T.def_ 40 (d := d_Effect_applies) rfl
theorem Txt.f_Effect_apply (T : Txt K mg) : ∃ fd, FunD K "apply" "Effect.apply" (defArgs s_Effect_apply) (defBody s_Effect_apply) (defScope s_Effect_apply) [] [("head", .int 0)] (He.ma K (He.ga K "Effect") "apply") fd := T.def_ 41 (d := d_Effect_apply) rfl
theorem Txt.f_Builder_init (T : Txt K mg) : ∃ fd, FunD K "__init__" "Builder.__init__" (defArgs s_Builder_init) (defBody s_Builder_init) (defScope s_Builder_init) [] [] (He.ma K (He.ga K "Builder") "__init__") fd := T.def_ 42 (d := d_Builder_init) rfl
theorem Txt.f_Builder_expect (T : Txt K mg) : ∃ fd, FunD K "expect" "Builder.expect" (defArgs s_Builder_expect) (defBody s_Builder_expect) (defScope s_Builder_expect) [] [] (He.ma K (He.ga K "Builder") "expect") fd := T.def_ 43 (d := d_Builder_expect) rfl
theorem Txt.f_Builder_write (T : Txt K mg) : ∃ fd, FunD K "write" "Builder.write" (defArgs s_Builder_write) (defBody s_Builder_write) (defScope s_Builder_write) [] [] (He.ma K (He.ga K "Builder") "write") fd := T.def_ 44 (d := d_Builder_write) rfl
theorem Txt.f_Builder_add_step (T : Txt K mg) : ∃ fd, FunD K "add_step" "Builder.add_step" (defArgs s_Builder_add_step) (defBody s_Builder_add_step) (defScope s_Builder_add_step) [] [] (He.ma K (He.ga K "Builder") "add_step") fd := T.def_ 45 (d := d_Builder_add_step) rfl
theorem Txt.f_Builder_add_effect (T : Txt K mg) : ∃ fd, FunD K "add_effect" "Builder.add_effect" (defArgs s_Builder_add_effect) (defBody s_Builder_add_effect) (defScope s_Builder_add_effect) [] [] (He.ma K (He.ga K "Builder") "add_effect") fd := T.def_ 46 (d := d_Builder_add_effect) rfl
theorem Txt.f_Builder_result (T : Txt K mg) : ∃ fd, FunD K "result" "Builder.result" (defArgs s_Builder_result) (defBody s_Builder_result) (defScope s_Builder_result) [] [] (He.ma K (He.ga K "Builder") "result") fd := T.def_ 47 (d := d_Builder_result) rfl
theorem Txt.f_Segment_init (T : Txt K mg) : ∃ fd, FunD K "__init__" "Segment.__init__" (defArgs s_Segment_init) (defBody s_Segment_init) (defScope s_Segment_init) [] [] (He.ma K (He.ga K "Segment") "__init__") fd := T.def_ 48 (d := d_Segment_init) rfl
theorem Txt.f_Segment_size (T : Txt K mg) : ∃ fd, FunD K "size" "Segment.size" (defArgs s_Segment_size) (defBody s_Segment_size) (defScope s_Segment_size) [] [] (He.ma K (He.ga K "Segment") "size") fd := T.def_ 49 (d := d_Segment_size) rfl
theorem Txt.f_Segment_offsets (T : Txt K mg) : ∃ fd, FunD K "offsets" "Segment.offsets" (defArgs s_Segment_offsets) (defBody s_Segment_offsets) (defScope s_Segment_offsets) [] [] (He.ma K (He.ga K "Segment") "offsets") fd := T.def_ 50 (d := d_Segment_offsets) rfl
theorem Txt.f_BigPower_init (T : Txt K mg) : ∃ fd, FunD K "__init__" "BigPower.__init__" (defArgs s_BigPower_init) (defBody s_BigPower_init) (defScope s_BigPower_init) [] [] (He.ma K (He.ga K "BigPower") "__init__") fd := T.def_ 51 (d := d_BigPower_init) rfl
theorem Txt.f_BigPower_letters_at (T : Txt K mg) : ∃ fd, FunD K "letters_at" "BigPower.letters_at" (defArgs s_BigPower_letters_at) (defBody s_BigPower_letters_at) (defScope s_BigPower_letters_at) [] [] (He.ma K (He.ga K "BigPower") "letters_at") fd := T.def_ 52 (d := d_BigPower_letters_at) rfl
theorem Txt.f_BigPower_groups (T : Txt K mg) : ∃ fd, FunD K "groups" "BigPower.groups" (defArgs s_BigPower_groups) (defBody s_BigPower_groups) (defScope s_BigPower_groups) [] [] (He.ma K (He.ga K "BigPower") "groups") fd := T.def_ 53 (d := d_BigPower_groups) rfl
theorem Txt.f_BigPower_touched_count (T : Txt K mg) : ∃ fd, FunD K "touched_count" "BigPower.touched_count" (defArgs s_BigPower_touched_count) (defBody s_BigPower_touched_count) (defScope s_BigPower_touched_count) [] [] (He.ma K (He.ga K "BigPower") "touched_count") fd := T.def_ 54 (d := d_BigPower_touched_count) rfl
theorem Txt.f_Run_init (T : Txt K mg) : ∃ fd, FunD K "__init__" "Run.__init__" (defArgs s_Run_init) (defBody s_Run_init) (defScope s_Run_init) [] [] (He.ma K (He.ga K "Run") "__init__") fd := T.def_ 55 (d := d_Run_init) rfl
theorem Txt.f_Run_letter (T : Txt K mg) : ∃ fd, FunD K "letter" "Run.letter" (defArgs s_Run_letter) (defBody s_Run_letter) (defScope s_Run_letter) [] [] (He.ma K (He.ga K "Run") "letter") fd := T.def_ 56 (d := d_Run_letter) rfl
theorem Txt.f_Run_perform (T : Txt K mg) : ∃ fd, FunD K "perform" "Run.perform" (defArgs s_Run_perform) (defBody s_Run_perform) (defScope s_Run_perform) [] [] (He.ma K (He.ga K "Run") "perform") fd := T.def_ 57 (d := d_Run_perform) rfl
theorem Txt.f_Run_perform_all (T : Txt K mg) : ∃ fd, FunD K "perform_all" "Run.perform_all" (defArgs s_Run_perform_all) (defBody s_Run_perform_all) (defScope s_Run_perform_all) [] [] (He.ma K (He.ga K "Run") "perform_all") fd := T.def_ 58 (d := d_Run_perform_all) rfl
theorem Txt.f_Run_place (T : Txt K mg) : ∃ fd, FunD K "place" "Run.place" (defArgs s_Run_place) (defBody s_Run_place) (defScope s_Run_place) [] [] (He.ma K (He.ga K "Run") "place") fd := T.def_ 59 (d := d_Run_place) rfl
theorem Txt.f_Definitions_init (T : Txt K mg) : ∃ fd, FunD K "__init__" "Definitions.__init__" (defArgs s_Definitions_init) (defBody s_Definitions_init) (defScope s_Definitions_init) [] [] (He.ma K (He.ga K "Definitions") "__init__") fd := T.def_ 60 (d := d_Definitions_init) rfl
theorem Txt.f_Definitions_expand (T : Txt K mg) : ∃ fd, FunD K "expand" "Definitions.expand" (defArgs s_Definitions_expand) (defBody s_Definitions_expand) (defScope s_Definitions_expand) [] [] (He.ma K (He.ga K "Definitions") "expand") fd := T.def_ 61 (d := d_Definitions_expand) rfl
theorem Txt.f_Session_init (T : Txt K mg) : ∃ fd, FunD K "__init__" "Session.__init__" (defArgs s_Session_init) (defBody s_Session_init) (defScope s_Session_init) [.non] [("head", .int 0)] (He.ma K (He.ga K "Session") "__init__") fd := T.def_ 62 (d := d_Session_init) rfl
theorem Txt.f_Session_len (T : Txt K mg) : ∃ fd, FunD K "__len__" "Session.__len__" (defArgs s_Session_len) (defBody s_Session_len) (defScope s_Session_len) [] [] (He.ma K (He.ga K "Session") "__len__") fd := T.def_ 63 (d := d_Session_len) rfl
theorem Txt.f_Session_expand (T : Txt K mg) : ∃ fd, FunD K "expand" "Session.expand" (defArgs s_Session_expand) (defBody s_Session_expand) (defScope s_Session_expand) [] [] (He.ma K (He.ga K "Session") "expand") fd := T.def_ 64 (d := d_Session_expand) rfl
theorem Txt.f_Session_act (T : Txt K mg) : ∃ fd, FunD K "act" "Session.act" (defArgs s_Session_act) (defBody s_Session_act) (defScope s_Session_act) [] [] (He.ma K (He.ga K "Session") "act") fd := T.def_ 65 (d := d_Session_act) rfl
theorem Txt.f_Session_do (T : Txt K mg) : ∃ fd, FunD K "do" "Session.do" (defArgs s_Session_do) (defBody s_Session_do) (defScope s_Session_do) [] [] (He.ma K (He.ga K "Session") "do") fd := T.def_ 66 (d := d_Session_do) rfl
theorem Txt.f_Session_repeat (T : Txt K mg) : ∃ fd, FunD K "repeat" "Session.repeat" (defArgs s_Session_repeat) (defBody s_Session_repeat) (defScope s_Session_repeat) [] [] (He.ma K (He.ga K "Session") "repeat") fd := T.def_ 67 (d := d_Session_repeat) rfl
theorem Txt.f_Session_perform (T : Txt K mg) : ∃ fd, FunD K "perform" "Session.perform" (defArgs s_Session_perform) (defBody s_Session_perform) (defScope s_Session_perform) [] [] (He.ma K (He.ga K "Session") "perform") fd := T.def_ 68 (d := d_Session_perform) rfl
theorem Txt.f_Session_take_over (T : Txt K mg) : ∃ fd, FunD K "take_over" "Session.take_over" (defArgs s_Session_take_over) (defBody s_Session_take_over) (defScope s_Session_take_over) [] [] (He.ma K (He.ga K "Session") "take_over") fd := T.def_ 69 (d := d_Session_take_over) rfl
theorem Txt.f_Session_history (T : Txt K mg) : ∃ fd, FunD K "history" "Session.history" (defArgs s_Session_history) (defBody s_Session_history) (defScope s_Session_history) [] [] (He.ma K (He.ga K "Session") "history") fd := T.def_ 70 (d := d_Session_history) rfl
theorem Txt.f_Session_total_effect (T : Txt K mg) : ∃ fd, FunD K "total_effect" "Session.total_effect" (defArgs s_Session_total_effect) (defBody s_Session_total_effect) (defScope s_Session_total_effect) [] [] (He.ma K (He.ga K "Session") "total_effect") fd := T.def_ 71 (d := d_Session_total_effect) rfl
theorem Txt.f_Session_undo (T : Txt K mg) : ∃ fd, FunD K "undo" "Session.undo" (defArgs s_Session_undo) (defBody s_Session_undo) (defScope s_Session_undo) [] [] (He.ma K (He.ga K "Session") "undo") fd := T.def_ 72 (d := d_Session_undo) rfl
theorem Txt.f_Session_redo (T : Txt K mg) : ∃ fd, FunD K "redo" "Session.redo" (defArgs s_Session_redo) (defBody s_Session_redo) (defScope s_Session_redo) [] [] (He.ma K (He.ga K "Session") "redo") fd := T.def_ 73 (d := d_Session_redo) rfl
theorem Txt.f_Session_clone (T : Txt K mg) : ∃ fd, FunD K "clone" "Session.clone" (defArgs s_Session_clone) (defBody s_Session_clone) (defScope s_Session_clone) [] [] (He.ma K (He.ga K "Session") "clone") fd := T.def_ 74 (d := d_Session_clone) rfl
theorem Txt.f_Effect_expected (T : Txt K mg) : ∃ fd, FunD K "expected" "Effect.expected" (defArgs s_Effect_expected) (defBody s_Effect_expected) (defScope s_Effect_expected) [] [] (gFn K "Effect" "expected") fd := T.fun_ 0 (d := o_Effect_expected) rfl rfl
theorem Txt.p_Effect_expected (T : Txt K mg) : PropOf K (He.ga K "Effect") "expected" (pAd K "Effect" "expected") (gFn K "Effect" "expected") := T.prp 0 rfl
theorem Txt.f_Effect_changed (T : Txt K mg) : ∃ fd, FunD K "changed" "Effect.changed" (defArgs s_Effect_changed) (defBody s_Effect_changed) (defScope s_Effect_changed) [] [] (gFn K "Effect" "changed") fd := T.fun_ 1 (d := o_Effect_changed) rfl rfl
theorem Txt.p_Effect_changed (T : Txt K mg) : PropOf K (He.ga K "Effect") "changed" (pAd K "Effect" "changed") (gFn K "Effect" "changed") := T.prp 1 rfl
theorem Txt.f_Effect_shift (T : Txt K mg) : ∃ fd, FunD K "shift" "Effect.shift" (defArgs s_Effect_shift) (defBody s_Effect_shift) (defScope s_Effect_shift) [] [] (gFn K "Effect" "shift") fd := T.fun_ 2 (d := o_Effect_shift) rfl rfl
theorem Txt.p_Effect_shift (T : Txt K mg) : PropOf K (He.ga K "Effect") "shift" (pAd K "Effect" "shift") (gFn K "Effect" "shift") := T.prp 2 rfl
theorem Txt.f_BigPower_shift (T : Txt K mg) : ∃ fd, FunD K "shift" "BigPower.shift" (defArgs s_BigPower_shift) (defBody s_BigPower_shift) (defScope s_BigPower_shift) [] [] (gFn K "BigPower" "shift") fd := T.fun_ 3 (d := o_BigPower_shift) rfl rfl
theorem Txt.p_BigPower_shift (T : Txt K mg) : PropOf K (He.ga K "BigPower") "shift" (pAd K "BigPower" "shift") (gFn K "BigPower" "shift") := T.prp 3 rfl
theorem Txt.f_Session_tape (T : Txt K mg) : ∃ fd, FunD K "tape" "Session.tape" (defArgs s_Session_tape) (defBody s_Session_tape) (defScope s_Session_tape) [] [] (gFn K "Session" "tape") fd := T.fun_ 4 (d := o_Session_tape) rfl rfl
theorem Txt.p_Session_tape (T : Txt K mg) : PropOf K (He.ga K "Session") "tape" (pAd K "Session" "tape") (gFn K "Session" "tape") := T.prp 4 rfl
theorem Txt.f_Session_head (T : Txt K mg) : ∃ fd, FunD K "head" "Session.head" (defArgs s_Session_head) (defBody s_Session_head) (defScope s_Session_head) [] [] (gFn K "Session" "head") fd := T.fun_ 5 (d := o_Session_head) rfl rfl
theorem Txt.p_Session_head (T : Txt K mg) : PropOf K (He.ga K "Session") "head" (pAd K "Session" "head") (gFn K "Session" "head") := T.prp 5 rfl
theorem Txt.f_Effect_identity (T : Txt K mg) : ∃ fd, FunD K "identity" "Effect.identity" (defArgs s_Effect_identity) (defBody s_Effect_identity) (defScope s_Effect_identity) [] [] (iFn K) fd := T.fun_ 6 (d := o_Effect_identity) rfl rfl
theorem Txt.xs_get (T : Txt K mg) : PySem.W.specialIn K (.builtin "object.__class__") "__get__" = (some (some (.builtin "getset_descriptor.__get__"))) := decB_ok (T.exl 0 (b := decB (PySem.W.specialIn K (.builtin "object.__class__") "__get__") (some (some (.builtin "getset_descriptor.__get__")))) rfl)
theorem Txt.xs_set (T : Txt K mg) : PySem.W.takesIn K (.builtin "object.__class__") = (some true) := decB_ok (T.exl 1 (b := decB (PySem.W.takesIn K (.builtin "object.__class__")) (some true)) rfl)
theorem Txt.xs_isi_Tape (T : Txt K mg) : isiB K "Tape" = true := T.exl 2 (b := isiB K "Tape") rfl
theorem Txt.xs_isi_Effect (T : Txt K mg) : isiB K "Effect" = true := T.exl 3 (b := isiB K "Effect") rfl
theorem Txt.xs_ne_Tape (T : Txt K mg) : PySem.W.findIn K (.ref (He.ga K "Tape")) "__ne__" = (some (some (.builtin "object.__ne__"))) := decB_ok (T.exl 4 (b := decB (PySem.W.findIn K (.ref (He.ga K "Tape")) "__ne__") (some (some (.builtin "object.__ne__")))) rfl)
theorem Txt.xs_rd (T : Txt K mg) : PySem.W.readsIn K (He.ga K "Effect") (.type "type") = true := T.exl 5 (b := PySem.W.readsIn K (He.ga K "Effect") (.type "type")) rfl
theorem Txt.xs_ga (T : Txt K mg) : PySem.W.specialIn K (.ref (He.ga K "Effect")) "__getattribute__" = (some (some (.builtin "type.__getattribute__"))) := decB_ok (T.exl 6 (b := decB (PySem.W.specialIn K (.ref (He.ga K "Effect")) "__getattribute__") (some (some (.builtin "type.__getattribute__")))) rfl)
theorem Txt.xs_cm (T : Txt K mg) : cmB K = true := T.exl 7 (b := cmB K) rfl
theorem Txt.xs_rc (T : Txt K mg) : recB K (pAd K "Effect" "identity") "classmethod" = true := T.exl 8 (b := recB K (pAd K "Effect" "identity") "classmethod") rfl
theorem Txt.xs_fi (T : Txt K mg) : PySem.W.fnIn K (iFn K) = true := T.exl 9 (b := PySem.W.fnIn K (iFn K)) rfl
theorem Txt.xs_thd (T : Txt K mg) : PySem.W.nsIn K PySem.cStatics "thirdparty.any" = (some none) := decB_ok (T.exl 10 (b := decB (PySem.W.nsIn K PySem.cStatics "thirdparty.any") (some none)) rfl)
theorem Txt.xs_kp_StepFailed (T : Txt K mg) : PySem.W.keepIn K (.ref (He.ga K "StepFailed")) = true := T.exl 11 (b := PySem.W.keepIn K (.ref (He.ga K "StepFailed"))) rfl
theorem Txt.xs_b_StepFailed (T : Txt K mg) : PySem.W.subIn K (.ref (He.ga K "StepFailed")) (.type "BaseException") = (some true) := decB_ok (T.exl 12 (b := decB (PySem.W.subIn K (.ref (He.ga K "StepFailed")) (.type "BaseException")) (some true)) rfl)
theorem Txt.xs_t_StepFailed (T : Txt K mg) : PySem.W.typeIn K (.ref (He.ga K "StepFailed")) = (some (.type "type")) := decB_ok (T.exl 13 (b := decB (PySem.W.typeIn K (.ref (He.ga K "StepFailed"))) (some (.type "type"))) rfl)
theorem Txt.xs_kp_NotApplicable (T : Txt K mg) : PySem.W.keepIn K (.ref (He.ga K "NotApplicable")) = true := T.exl 14 (b := PySem.W.keepIn K (.ref (He.ga K "NotApplicable"))) rfl
theorem Txt.xs_b_NotApplicable (T : Txt K mg) : PySem.W.subIn K (.ref (He.ga K "NotApplicable")) (.type "BaseException") = (some true) := decB_ok (T.exl 15 (b := decB (PySem.W.subIn K (.ref (He.ga K "NotApplicable")) (.type "BaseException")) (some true)) rfl)
theorem Txt.xs_t_NotApplicable (T : Txt K mg) : PySem.W.typeIn K (.ref (He.ga K "NotApplicable")) = (some (.type "type")) := decB_ok (T.exl 16 (b := decB (PySem.W.typeIn K (.ref (He.ga K "NotApplicable"))) (some (.type "type"))) rfl)
theorem Txt.xs_kp_NothingToUndo (T : Txt K mg) : PySem.W.keepIn K (.ref (He.ga K "NothingToUndo")) = true := T.exl 17 (b := PySem.W.keepIn K (.ref (He.ga K "NothingToUndo"))) rfl
theorem Txt.xs_b_NothingToUndo (T : Txt K mg) : PySem.W.subIn K (.ref (He.ga K "NothingToUndo")) (.type "BaseException") = (some true) := decB_ok (T.exl 18 (b := decB (PySem.W.subIn K (.ref (He.ga K "NothingToUndo")) (.type "BaseException")) (some true)) rfl)
theorem Txt.xs_t_NothingToUndo (T : Txt K mg) : PySem.W.typeIn K (.ref (He.ga K "NothingToUndo")) = (some (.type "type")) := decB_ok (T.exl 19 (b := decB (PySem.W.typeIn K (.ref (He.ga K "NothingToUndo"))) (some (.type "type"))) rfl)
theorem Txt.xs_x_NothingToUndo (T : Txt K mg) : PySem.W.excIn K (He.ga K "NothingToUndo") [.type "RuntimeError", .type "Exception", .type "BaseException", .type "object"] "RuntimeError.__new__" = true := T.exl 20 (b := PySem.W.excIn K (He.ga K "NothingToUndo") [.type "RuntimeError", .type "Exception", .type "BaseException", .type "object"] "RuntimeError.__new__") rfl
theorem Txt.xs_xi_StepFailed (T : Txt K mg) : PySem.W.excInitIn K (He.ga K "StepFailed") [.type "RuntimeError", .type "Exception", .type "BaseException", .type "object"] "RuntimeError.__new__" = true := T.exl 21 (b := PySem.W.excInitIn K (He.ga K "StepFailed") [.type "RuntimeError", .type "Exception", .type "BaseException", .type "object"] "RuntimeError.__new__") rfl
theorem Txt.xs_xo_StepFailed (T : Txt K mg) : PySem.W.excOver K (He.ga K "StepFailed") [.type "RuntimeError", .type "Exception", .type "BaseException", .type "object"] = true := T.exl 22 (b := PySem.W.excOver K (He.ga K "StepFailed") [.type "RuntimeError", .type "Exception", .type "BaseException", .type "object"]) rfl
theorem Txt.xs_sB_StepFailed (T : Txt K mg) : PySem.W.subIn K (.ref (He.ga K "StepFailed")) (.type "RuntimeError") = (some true) := decB_ok (T.exl 23 (b := decB (PySem.W.subIn K (.ref (He.ga K "StepFailed")) (.type "RuntimeError")) (some true)) rfl)
theorem Txt.xs_sC_StepFailed (T : Txt K mg) : PySem.W.mroIn K (He.ga K "StepFailed") (.ref (He.ga K "StepFailed")) = (some true) := decB_ok (T.exl 24 (b := decB (PySem.W.mroIn K (He.ga K "StepFailed") (.ref (He.ga K "StepFailed"))) (some true)) rfl)
theorem Txt.xs_iC_StepFailed (T : Txt K mg) : PySem.W.findIn K (.ref (He.ga K "StepFailed")) "__init__" = (some (some (.ref (He.ma K (He.ga K "StepFailed") "__init__")))) := decB_ok (T.exl 25 (b := decB (PySem.W.findIn K (.ref (He.ga K "StepFailed")) "__init__") (some (some (.ref (He.ma K (He.ga K "StepFailed") "__init__"))))) rfl)
theorem Txt.xs_iF_StepFailed (T : Txt K mg) : PySem.W.isFn K (.ref (He.ma K (He.ga K "StepFailed") "__init__")) = true := T.exl 26 (b := PySem.W.isFn K (.ref (He.ma K (He.ga K "StepFailed") "__init__"))) rfl
theorem Txt.xs_cl_StepFailed (T : Txt K mg) : closB K "StepFailed" "StepFailed.__init__" = true := T.exl 27 (b := closB K "StepFailed" "StepFailed.__init__") rfl
theorem Txt.xs_no_StepFailed (T : Txt K mg) : PySem.W.findIn K (.ref (He.ga K "StepFailed")) "index" = (some none) := decB_ok (T.exl 28 (b := decB (PySem.W.findIn K (.ref (He.ga K "StepFailed")) "index") (some none)) rfl)
theorem Txt.xs_hd_StepFailed (T : Txt K mg) : PySem.W.hasDictIn K (He.ga K "StepFailed") = true := T.exl 29 (b := PySem.W.hasDictIn K (He.ga K "StepFailed")) rfl
theorem Txt.xs_su_StepFailed (T : Txt K mg) : PySem.W.ks_superIn K (He.ga K "StepFailed") (He.ga K "StepFailed") "__init__" = (some (some (.builtin "RuntimeError.__init__"))) := decB_ok (T.exl 30 (b := decB (PySem.W.ks_superIn K (He.ga K "StepFailed") (He.ga K "StepFailed") "__init__") (some (some (.builtin "RuntimeError.__init__")))) rfl)
theorem Txt.xs_sa_StepFailed (T : Txt K mg) : PySem.W.findIn K (.ref (He.ga K "StepFailed")) "__setattr__" = (some (some (.builtin "object.__setattr__"))) := decB_ok (T.exl 31 (b := decB (PySem.W.findIn K (.ref (He.ga K "StepFailed")) "__setattr__") (some (some (.builtin "object.__setattr__")))) rfl)
theorem Txt.xs_xi_NotApplicable (T : Txt K mg) : PySem.W.excInitIn K (He.ga K "NotApplicable") [.type "LookupError", .type "Exception", .type "BaseException", .type "object"] "LookupError.__new__" = true := T.exl 32 (b := PySem.W.excInitIn K (He.ga K "NotApplicable") [.type "LookupError", .type "Exception", .type "BaseException", .type "object"] "LookupError.__new__") rfl
theorem Txt.xs_xo_NotApplicable (T : Txt K mg) : PySem.W.excOver K (He.ga K "NotApplicable") [.type "LookupError", .type "Exception", .type "BaseException", .type "object"] = true := T.exl 33 (b := PySem.W.excOver K (He.ga K "NotApplicable") [.type "LookupError", .type "Exception", .type "BaseException", .type "object"]) rfl
theorem Txt.xs_sB_NotApplicable (T : Txt K mg) : PySem.W.subIn K (.ref (He.ga K "NotApplicable")) (.type "LookupError") = (some true) := decB_ok (T.exl 34 (b := decB (PySem.W.subIn K (.ref (He.ga K "NotApplicable")) (.type "LookupError")) (some true)) rfl)
theorem Txt.xs_sC_NotApplicable (T : Txt K mg) : PySem.W.mroIn K (He.ga K "NotApplicable") (.ref (He.ga K "NotApplicable")) = (some true) := decB_ok (T.exl 35 (b := decB (PySem.W.mroIn K (He.ga K "NotApplicable") (.ref (He.ga K "NotApplicable"))) (some true)) rfl)
theorem Txt.xs_iC_NotApplicable (T : Txt K mg) : PySem.W.findIn K (.ref (He.ga K "NotApplicable")) "__init__" = (some (some (.ref (He.ma K (He.ga K "NotApplicable") "__init__")))) := decB_ok (T.exl 36 (b := decB (PySem.W.findIn K (.ref (He.ga K "NotApplicable")) "__init__") (some (some (.ref (He.ma K (He.ga K "NotApplicable") "__init__"))))) rfl)
theorem Txt.xs_iF_NotApplicable (T : Txt K mg) : PySem.W.isFn K (.ref (He.ma K (He.ga K "NotApplicable") "__init__")) = true := T.exl 37 (b := PySem.W.isFn K (.ref (He.ma K (He.ga K "NotApplicable") "__init__"))) rfl
theorem Txt.xs_cl_NotApplicable (T : Txt K mg) : closB K "NotApplicable" "NotApplicable.__init__" = true := T.exl 38 (b := closB K "NotApplicable" "NotApplicable.__init__") rfl
theorem Txt.xs_no_NotApplicable (T : Txt K mg) : PySem.W.findIn K (.ref (He.ga K "NotApplicable")) "position" = (some none) := decB_ok (T.exl 39 (b := decB (PySem.W.findIn K (.ref (He.ga K "NotApplicable")) "position") (some none)) rfl)
theorem Txt.xs_hd_NotApplicable (T : Txt K mg) : PySem.W.hasDictIn K (He.ga K "NotApplicable") = true := T.exl 40 (b := PySem.W.hasDictIn K (He.ga K "NotApplicable")) rfl
theorem Txt.xs_su_NotApplicable (T : Txt K mg) : PySem.W.ks_superIn K (He.ga K "NotApplicable") (He.ga K "NotApplicable") "__init__" = (some (some (.builtin "LookupError.__init__"))) := decB_ok (T.exl 41 (b := decB (PySem.W.ks_superIn K (He.ga K "NotApplicable") (He.ga K "NotApplicable") "__init__") (some (some (.builtin "LookupError.__init__")))) rfl)
theorem Txt.xs_sa_NotApplicable (T : Txt K mg) : PySem.W.findIn K (.ref (He.ga K "NotApplicable")) "__setattr__" = (some (some (.builtin "object.__setattr__"))) := decB_ok (T.exl 42 (b := decB (PySem.W.findIn K (.ref (He.ga K "NotApplicable")) "__setattr__") (some (some (.builtin "object.__setattr__")))) rfl)
theorem Txt.isi (T : Txt K mg) {C : Str} (hi : isiB K C = true) (hc : Cls K (He.ga K C)) {H : Hp} {a dx : Addr} {fs : List (Str × V)} (h : H a = some (.ins (He.ga K C) dx fs)) : TyX K H (.ref a) (.ref (He.ga K C)) :=
  .base (.ins h hc (of_decide_eq_true (He.ba hi).1) T.xs_get T.xs_set (of_decide_eq_true (He.ba hi).2))
theorem Txt.isi_Tape (T : Txt K mg) {H : Hp} {a dx : Addr} {fs : List (Str × V)} (h : H a = some (.ins (He.ga K "Tape") dx fs)) : TyX K H (.ref a) (.ref (He.ga K "Tape")) := T.isi T.xs_isi_Tape T.c_Tape h
theorem Txt.isi_Effect (T : Txt K mg) {H : Hp} {a dx : Addr} {fs : List (Str × V)} (h : H a = some (.ins (He.ga K "Effect") dx fs)) : TyX K H (.ref a) (.ref (He.ga K "Effect")) := T.isi T.xs_isi_Effect T.c_Effect h
theorem Txt.ne_Tape (T : Txt K mg) : NeObj K (He.ga K "Tape") := ⟨T.xs_ne_Tape, of_decide_eq_true (He.ba T.xs_isi_Tape).2⟩
theorem Txt.rd_Effect (T : Txt K mg) : ClX.CRead K (He.ga K "Effect") (.type "type") := ⟨T.xs_rd, T.xs_ga⟩
theorem Txt.cm_Effect (T : Txt K mg) : ClX.CMet K (He.ga K "Effect") (.type "type") "identity" (pAd K "Effect" "identity") (iFn K) := ⟨cmB_ok T.xs_cm, recB_ok T.xs_rc, T.xs_fi⟩
end
end Tp
/-! part XJ -/
set_option Elab.async false
set_option linter.all false
set_option maxRecDepth 100000
set_option maxHeartbeats 0
/-! the head: the Hook of the facts, the run -/
namespace Tp
open PySem PySem.W PySem.Calls PyProof.Rows
abbrev tfL : List He.Defn := [("_law_done", none)]
def refsP (o : Obj) : List Addr := match o.data with
  | .dict es _ => es.toList.flatMap fun e => He.refV e.val
  | .func fd => He.refV fd.code ++ (He.refV fd.defaults ++ (He.refV fd.kwdefaults ++ fd.closure.map (·.2)))
  | .cls cd => [cd.ns]
  | .fields vs => (match o.cls == .type "code" with
    | true => []
    | false => vs.toList.flatMap He.refV)
  | _ => []
def nextP (g : Addr → Option Obj) (as : List Addr) : List Addr := as.flatMap fun a => match g a with
  | some o => refsP o
  | none => []
/-- level by level from the module's names -/
def levP (g : Addr → Option Obj) : Nat → List Addr → List Addr
  | 0, as => as
  | n + 1, as => as ++ levP g n (nextP g as)
def asP (g : Addr → Option Obj) (n : Nat) : List Addr := PySem.cStatics :: levP g n [mainGlobals]
def KP (n : Nat) (g : Addr → Option Obj) : PySem.W.Frag := He.frT g (asP g n)
abbrev AlP : Type := He.AlD × Bool × List FnC
def obsP (n : Nat) (g : Addr → Option Obj) : AlP := (He.obsD faL fnL (KP n g), exB (KP n g) && ((fcL.all fun d => codeB (KP n g) d) && He.tabsB g tfL (KP n g)), fcL.map fun d => fnC (KP n g) (d.at_ (KP n g)))
def valP : AlP := (He.valD fnL, true, fcL.map DefC.val)
/-- what the head tells -/
structure SaysP (h : Heap) (K : PySem.W.Frag) : Prop where
  hd : He.SaysD faL fnL K
  ex : exB K = true
  fc : fcL.map (fun d => fnC K (d.at_ K)) = fcL.map DefC.val
  cb : (fcL.all fun d => codeB K d) = true
  tb : ∀ p ∈ tfL, PySem.W.codeHdIn K (He.cT K p).1 (He.cT K p).2 = true ∧ K.lookup (He.cT K p).2 = none
  tE : ∀ p ∈ tfL, h.get? (He.cT K p).2 = some { cls := .none, data := .fields #[] }
theorem saysP_of {n : Nat} {h : Heap} (e : obsP n h.get? = valP) : SaysP h (KP n h.get?) := by
  have e1 : He.obsD faL fnL (KP n h.get?) = He.valD fnL := congrArg (fun z : AlP => z.1) e
  have e2 : (exB (KP n h.get?) && ((fcL.all fun d => codeB (KP n h.get?) d) && He.tabsB h.get? tfL (KP n h.get?))) = true := congrArg (fun z : AlP => z.2.1) e
  have e3 : fcL.map (fun d => fnC (KP n h.get?) (d.at_ (KP n h.get?))) = fcL.map DefC.val := congrArg (fun z : AlP => z.2.2) e
  obtain ⟨h1, h2⟩ := He.ba e2
  obtain ⟨h3, h4⟩ := He.ba h2
  have key : ∀ p ∈ tfL, PySem.W.codeHdIn (KP n h.get?) (He.cT (KP n h.get?) p).1 (He.cT (KP n h.get?) p).2 = true ∧ ∃ o, h.get? (He.cT (KP n h.get?) p).2 = some o ∧ He.emptyTab o = true := fun p hp => by
    obtain ⟨h5, h6⟩ := He.ba (List.all_eq_true.mp h4 p hp)
    refine ⟨h5, ?_⟩
    cases q : h.get? (He.cT (KP n h.get?) p).2 with
    | none =>
      rw [q] at h6
      cases h6
    | some o =>
      rw [q] at h6
      exact ⟨o, rfl, h6⟩
  exact ⟨e1, h1, e3, h3, fun p hp => by
    obtain ⟨k, o, q, z⟩ := key p hp
    exact ⟨k, He.frT_none q z⟩, fun p hp => by
    obtain ⟨_, o, q, z⟩ := key p hp
    rw [q, He.emptyTab_eq z]⟩
def hookP (n : Nat) : PySem.W.Hook where
  α := AlP
  obs := fun s => obsP n s.heap.get?
  val := fun _ => valP
  says := fun _ h => ∃ K : PySem.W.Frag, K.In h ∧ SaysP h K
  of := fun _ _ e => ⟨_, He.frT_in, saysP_of e⟩
  keeps := fun _ _ _ ⟨K, hK, c⟩ k => ⟨K, PySem.W.Frag.In.keeps hK k, ⟨c.hd, c.ex, c.fc, c.cb, c.tb, fun p hp => k _ _ (c.tE p hp)⟩⟩
theorem obsP_eq {n : Nat} {g : Addr → Option Obj} {s : Shared} (h : ∀ a, g a = s.heap.get? a) : obsP n g = (hookP n).obs s := by
  have e : g = s.heap.get? := funext h
  rw [e] <;> rfl
abbrev R : OpenRow := OpenLaw.row PySem.Challenge.rw_tapeeffect_k75_whole_sessions_follow_the
abbrev qv : Program := view R.prog [68]
def names1 : List PySem.Str := ["_wall", "TapeError", "InvalidSteps", "InvalidLetter", "InvalidTape", "InvalidEffect", "InvalidNumber", "StepFailed", "NeverApplies", "NothingToUndo", "UnknownName", "NotApplicable", "LimitExceeded", "LETTERS", "is_letter", "is_integer", "check_integer", "check_count", "is_step", "check_steps", "move_of", "is_letter_dict", "Tape", "by_offset", "is_normal", "Effect", "Builder", "effect_of", "compose", "MAX_TOUCHED"]
def names2 : List PySem.Str := ["chains", "letter_left", "first_failing_power", "fails", "Segment", "segments", "BigPower", "power", "Run", "run", "MAX_LETTERS", "is_word", "MAX_STEPS", "is_call", "check_with_calls", "Definitions", "Session", "_law_stream", "_law_draw", "_law_alphabet", "_law_steps", "_law_spots", "_law_run", "_law_tried", "_law_done", "_law_follows", "_law_joined", "_law_whole_right", "_law_unwound"]
def names : List PySem.Str := names1 ++ names2
abbrev hk : PySem.W.Hook := hookP 6
def ob (s : PySem.W.SharedT) : AlP := obsP 6 (HandSHeadRun.getT s)
theorem ob_eq (s : PySem.W.SharedT) : ob s = hk.obs s.abs := obsP_eq (HandSHeadRun.getT_eq s)
/-! the run in three pieces: each a kernel run of its own -/
section
open HandSHeadRun
theorem runA (w : World) (os : OsState) : (endF (stepQ (denQ tabQ) R.prog w) 30000 R.prog w os).map (fun s => (looksF R.prog (boot_heap w.params) s.abs, seenQ qv names (importedModules R.prog.main.body) (fun s => xlAt qv [] s && recOk R.toRowW.records s) s.abs, (faL.take 160).all fun f => f.ok (KP 6 (getT s)))) = some (true, openGood qv names, true) := by
  kernel_rfl
theorem runB (w : World) (os : OsState) : (endF (stepQ (denQ tabQ) R.prog w) 30000 R.prog w os).map (fun s => ((faL.drop 160).all fun f => f.ok (KP 6 (getT s)), exB (KP 6 (getT s)) && ((fcL.all fun d => codeB (KP 6 (getT s)) d) && He.tabsB (getT s) tfL (KP 6 (getT s))), fcL.map fun d => fnC (KP 6 (getT s)) (d.at_ (KP 6 (getT s))))) = some (true, true, fcL.map DefC.val) := by
  kernel_rfl
theorem runC (w : World) (os : OsState) : (endF (stepQ (denQ tabQ) R.prog w) 30000 R.prog w os).map (fun s => (fnL.all fun d => d.ok (KP 6 (getT s)), fnL.map fun d => He.fnW (KP 6 (getT s)) d.at_)) = some (true, fnL.map He.DefD.val) := by
  kernel_rfl
theorem all_two {α : Type} (l : List α) (k : Nat) (f : α → Bool) (h1 : (l.take k).all f = true) (h2 : (l.drop k).all f = true) : l.all f = true := by
  rw [← List.take_append_drop k l, List.all_append, h1, h2]
  rfl
theorem run_of {α β γ δ ε : Type} {o : Option α} {f : α → β × γ × Bool} {x : β} {y : γ} {g : α → δ} {z : δ} {h : α → ε} {v : ε} (e1 : o.map f = some (x, y, true)) (e2 : o.map g = some z) (e3 : o.map h = some v) : ∃ s, o = some s ∧ f s = (x, y, true) ∧ g s = z ∧ h s = v := by
  cases o with
  | none => cases e1
  | some s => exact ⟨s, rfl, Option.some.inj e1, Option.some.inj e2, Option.some.inj e3⟩
theorem run (w : World) : RunEq R qv hk ob 30000 names w := by
  intro os
  obtain ⟨s, e, h1, h2, h3⟩ := run_of (runA w os) (runB w os) (runC w os)
  rw [e]
  have a1 := congrArg (fun z : _ × _ × Bool => z.1) h1
  have a2 := congrArg (fun z : _ × _ × Bool => z.2.1) h1
  have a3 := congrArg (fun z : _ × _ × Bool => z.2.2) h1
  have b1 := congrArg (fun z : Bool × Bool × List FnC => z.1) h2
  have b2 := congrArg (fun z : Bool × Bool × List FnC => z.2.1) h2
  have b3 := congrArg (fun z : Bool × Bool × List FnC => z.2.2) h2
  have hall : (faL.all fun f => f.ok (KP 6 (getT s))) = true := all_two faL 160 _ a3 b1
  have c1 := congrArg (fun z => z.1) h3
  have c2 := congrArg (fun z => z.2) h3
  have hob : ob s = valP := Prod.ext (Prod.ext ((congr (congrArg and hall) c1).trans rfl) c2) (Prod.ext b2 b3)
  exact congrArg some (Prod.ext a1 (Prod.ext a2 hob))
end
end Tp
/-! part XB -/
set_option Elab.async false
set_option linter.all false
set_option maxRecDepth 100000
set_option maxHeartbeats 2000000
/-! own layer, part B: {**a, **b} -/
namespace Tp
open PySem PySem.Spec PyProof.Rows L2
section
variable {prog : Program} {w : World} {K : Type} [DecidableEq K] {knd : KeyKind prog w K} {A : Around} {E : Value → Shared → Prop} {s : Shared}

theorem dictPut_ok {d : Addr} {kvs : List (K × Value)} {k : K} {key v : Value} {Q : Unit → Shared → Prop} (hkey : knd.is k key = true) (hm : s.heap.DictOf knd d kvs) (hsz : kvs.length ≤ sizeLine)
    (hQ : ∀ h', h'.DictOf knd d (stored kvs k v) → Heap.SameBut d s.heap h' → Q () { s with heap := h' }) :
    wpAny (model prog w) A (dictPut d (knd.hash k) key v) Q E s := by
  obtain ⟨o, es, ep, ho, hc, hd, hk, hp, hn⟩ := hm
  have e1 := hp.length
  have e2 : es.toList.length = es.size := by simp
  have hes : es.size ≤ sizeLine := by omega
  have hidx : (es.findIdx? fun e => knd.is k e.key) = kvs.findIdx? fun kv => decide (kv.1 = k) := by
    have z := hp.findIdx k
    obtain ⟨l⟩ := es
    simpa using z
  unfold dictPut
  refine wpAny_bind (wpAny_dictFind_of hkey ho hd hk ?_)
  cases hi : es.findIdx? fun e => knd.is k e.key with
  | some i =>
    refine wpAny_updateDict ho hd (hQ _ ⟨_, _, ep, Heap.get?_update_self _ ho (Obj.isFreed_of_dict (Obj.data_mapDict hd _)), hc.mapDict _, Obj.data_mapDict hd _, hk.modify _ _, ?_, ?_⟩ (Heap.SameBut.update ..))
    · have hl : (es.toList.findIdx? fun e => knd.is k e.key) = some i := by
        obtain ⟨l⟩ := es
        simpa using hi
      have z := hp.modify hn hl v
      rw [stored, if_pos (any_of_findIdx_some (hidx ▸ hi))]
      obtain ⟨l⟩ := es
      simpa using z
    · rw [stored, if_pos (any_of_findIdx_some (hidx ▸ hi)), keys_map_store]
      exact hn
  | none =>
    have hnot : k ∉ kvs.map (·.1) := not_mem_of_findIdx_none (hidx ▸ hi)
    have hany : ¬ (kvs.any fun kv => decide (kv.1 = k)) = true := fun z => by
      obtain ⟨kv, h1, h2⟩ := List.any_eq_true.mp z
      exact hnot (List.mem_map.mpr ⟨kv, h1, of_decide_eq_true h2⟩)
    refine wpAny_updateDictKeys (hz := hes) ho hd (hQ _ ⟨_, _, ep + 1, Heap.get?_update_self _ ho (Obj.isFreed_of_dict (Obj.data_mapDictKeys hd _)), hc.mapDictKeys _, Obj.data_mapDictKeys hd _, hk.push hkey _, ?_, ?_⟩ (Heap.SameBut.update ..))
    · have z := hp.append hkey (knd.hash k) v
      rw [stored, if_neg hany]
      obtain ⟨l⟩ := es
      simpa using z
    · rw [stored, if_neg hany, List.map_append, List.nodup_append]
      refine ⟨hn, by simp, fun a ha b hb => ?_⟩
      have hb' : b = k := by simpa using hb
      rw [hb']
      exact fun e => hnot (e ▸ ha)

theorem rangeOut {n i : Nat} (h : [] = List.range' i (n - i)) (hi : i ≤ n) : i = n := by
  have z := congrArg List.length h
  simp only [List.length_nil, List.length_range'] at z
  omega
theorem rangeIn {n i x : Nat} {rest : List Nat} (h : x :: rest = List.range' i (n - i)) : i < n ∧ x = i ∧ rest = List.range' (i + 1) (n - (i + 1)) := by
  have z := congrArg List.length h
  simp only [List.length_cons, List.length_range'] at z
  have e : n - i = (n - (i + 1)) + 1 := by omega
  rw [e, List.range'_succ] at h
  injection h with h1 h2
  exact ⟨by omega, h1, h2⟩

theorem merge_loop {d o : Addr} {kvs more : List (K × Value)} {oo : Obj} {eso : Array DictEntry} {epo : Nat} {z : String} {Q : Unit → Shared → Prop} (hdo : d ≠ o) (hd : s.heap.DictOf knd d kvs) (hoo : s.heap.get? o = some oo) (hdo' : oo.data = .dict eso epo)
    (hko : KeysOf knd eso) (hpo : Pairs knd eso.toList more) (hsz : kvs.length + more.length ≤ sizeLine) (hQ : ∀ h', h'.DictOf knd d (merged kvs more) → Heap.SameBut d s.heap h' → Q () { s with heap := h' }) :
    wpAny (model prog w) A (do
      forIn (List.range eso.size) PUnit.unit fun i (_ : PUnit) => (do
        let l ← dictEntries o
        match l[i]? with
          | some e => do
            holding [e.key, e.val] (dictPut d e.hash e.key e.val)
            let ep' ← dictEpoch o
            if (ep' != epo) = true then do
                (unsupported z : Sem PUnit)
                pure (ForInStep.yield PUnit.unit)
              else pure (ForInStep.yield PUnit.unit)
          | _ => do
            (unsupported z : Sem PUnit)
            pure (ForInStep.yield PUnit.unit) : Sem (ForInStep PUnit))
      pure ()) Q E s := by
  have hlen : more.length = eso.size := by
    rw [← hpo.length]
    simp
  refine wpAny_bind ?_
  rw [List.range_eq_range']
  refine wpAny_forIn_list _
    (fun rest _ s' => ∃ h' i, s' = { s with heap := h' } ∧ rest = List.range' i (eso.size - i) ∧ i ≤ eso.size ∧ h'.DictOf knd d (merged kvs (more.take i)) ∧ h'.get? o = some oo ∧ Heap.SameBut d s.heap h')
    _ ?_ ?_ _ _ ⟨s.heap, 0, rfl, by simp, Nat.zero_le _, by simpa [merged] using hd, hoo, Heap.SameBut.refl _ _⟩
  · rintro x rest b s' ⟨h', i, rfl, hr, hi, hd', hoo', hs'⟩
    obtain ⟨hlt, rfl, hrest⟩ := rangeIn hr
    have hlt2 : x < more.length := by omega
    refine wpAny_bind (wpAny_dictEntries hoo' hdo' ?_)
    rw [Array.getElem?_eq_getElem hlt]
    obtain ⟨hkey, hval⟩ := hpo.get? (e := eso[x]) (k := more[x].1) (v := more[x].2) (by simp [hlt]) (List.getElem?_eq_getElem hlt2)
    obtain ⟨k', hkey', hhash⟩ := hko eso[x] (Array.getElem_mem hlt)
    have hk' : k' = more[x].1 := knd.inj _ _ _ hkey' hkey
    rw [hk'] at hhash
    have e1 := merged_length_le kvs (more.take x)
    have e2 : (more.take x).length ≤ more.length := by
      rw [List.length_take]
      omega
    show wpAny _ _ (holding [eso[x].key, eso[x].val] (dictPut d eso[x].hash eso[x].key eso[x].val) >>= _) _ _ _
    rw [hhash, hval]
    refine wpAny_bind (wpAny_holding (dictPut_ok hkey hd' (by omega) fun h'' hd'' hs'' => ?_))
    have hoo'' : h''.get? o = some oo := (hs''.2 o (Ne.symm hdo)).trans hoo'
    refine wpAny_bind (wpAny_dictEpoch hoo'' hdo' ?_)
    rw [if_neg (by simp)]
    exact wpAny_pure ⟨h'', x + 1, rfl, hrest, hlt, by rw [merged_take_succ kvs more x more[x] (List.getElem?_eq_getElem hlt2)]; exact hd'', hoo'', hs'.trans hs''⟩
  · rintro b s' ⟨h', i, rfl, hr, hi, hd', hoo', hs'⟩
    have hin := rangeOut hr hi
    rw [hin, ← hlen, List.take_length] at hd'
    exact wpAny_pure (hQ h' hd' hs')

theorem mergeMapping_ok {d o : Addr} {kvs more : List (K × Value)} {Q : Unit → Shared → Prop} (hdo : d ≠ o) (hoS : (o == sysModules) = false) (hd : s.heap.DictOf knd d kvs) (ho : s.heap.DictOf knd o more) (hsz : kvs.length + more.length ≤ sizeLine)
    (nr : ∀ k a, knd.is k (.ref a) = false)
    (hQ : ∀ h', h'.DictOf knd d (merged kvs more) → Heap.SameBut d s.heap h' → Q () { s with heap := h' }) :
    wpAny (model prog w) A (mergeMapping d (.ref o) false) Q E s := by
  obtain ⟨od, esd, epd, hod, hcd, hdd, hkd, hpd, hnd⟩ := id hd
  obtain ⟨oo, eso, epo, hoo, hco, hdo', hko, hpo, hno⟩ := id ho
  unfold mergeMapping
  refine wpAny_bind (wpAny_isInstance ho.typeIs isSubtype_dict_dict ?_)
  simp only [if_true]
  refine wpAny_bind (wpAny_specialOf ho.typeIs F.slot_dict_iter.lookup (wpAny_bind (wpAny_pure ?_)))
  simp only [beq_self_eq_true]
  rw [if_neg (by rw [hoS]; exact Bool.false_ne_true)]
  refine wpAny_bind (wpAny_dictEntries hod hdd ?_)
  refine wpAny_ite ?_
  have tail := merge_loop (A := A) (E := E) (z := "dict.changed-during-merge") hdo hd hoo hdo' hko hpo hsz hQ
  split
  · refine wpAny_bind (wpAny_dictEntries hoo hdo' ?_)
    refine wpAny_bind ?_
    rw [← Array.forIn_toList]
    refine wpAny_forIn_list _ (fun rest _ s' => s' = s ∧ ∀ e ∈ rest, e ∈ eso) _ ?_ ?_ _ _ ⟨rfl, fun e he => Array.mem_toList_iff.mp he⟩
    · rintro e rest b s' ⟨rfl, hm⟩
      obtain ⟨k, hk, _⟩ := hko e (hm e List.mem_cons_self)
      have hm2 : ∀ e' ∈ rest, e' ∈ eso := fun e' he => hm e' (List.mem_cons_of_mem _ he)
      cases q : e.key with
      | ref a =>
        rw [q, nr k a] at hk
        cases hk
      | _ => exact wpAny_pure ⟨rfl, hm2⟩
    · rintro b s' ⟨rfl, _⟩
      refine wpAny_bind (wpAny_dictEntries hoo hdo' ?_)
      refine wpAny_bind (wpAny_dictEpoch hoo hdo' ?_)
      exact tail
  · refine wpAny_bind (wpAny_dictEntries hoo hdo' ?_)
    refine wpAny_bind (wpAny_dictEpoch hoo hdo' ?_)
    exact tail
end

theorem key_noref (P : Program) (w : World) (k : Key) (a : Addr) : (mixKind P w).is k (.ref a) = false := by
  cases k <;> rfl
section
variable {X : Cx} {pins : List (Addr × Obj)} {σ : L2.St} {H : Hp} {s : Shared}
/-- a dict is merged into another one -/
theorem d_merge {d o : Addr} {kvs more : List (Key × V)} {Q : Unit → Shared → Prop} {A : Around} {E : Value → Shared → Prop} (I : Inv X pins σ H s) (hdo : d ≠ o) (hd : H d = some (.dK kvs)) (ho : Rd H o (.dK more)) (hsz : kvs.length + more.length ≤ sizeLine)
    (h : ∀ s', Inv X pins σ (upd H d (.dK (mergeK kvs more))) s' → Q () s') : wpAny (model X.prog X.w) A (mergeMapping d (.ref o) false) Q E s := by
  obtain ⟨z1, y1, vs1, r1, d1⟩ := dk_of I.hok hd
  obtain ⟨z2, y2, vs2, r2, d2⟩ := dk_rd I.hok ho
  refine mergeMapping_ok hdo y2 d1 d2 (by rw [← r1.length, ← r2.length]; exact hsz) (key_noref _ _) fun h' hd' hs => h _ ?_
  have he : ∃ q, h'.get? d = some q := let ⟨q, _, _, hq, _⟩ := hd'; ⟨q, hq⟩
  have hl := length_mergeK more kvs
  exact d_write I (by rw [hd]; exact True.intro) hs he (dk_new (by omega) y1 (r2.merge r1) hd')
end
/-- {**a, **b}: a new dict -/
def tStar2 (ta tb : TE) : TE := fun σ H Q => ∀ p, H p = none → ta σ (upd H p (.dK [])) fun x H1 => ∃ a ks, x = .ref a ∧ a ≠ p ∧ Rd H1 a (.dK ks) ∧ H1 p = some (.dK []) ∧ ks.length ≤ 1000000 ∧
  tb σ (upd H1 p (.dK (mergeK [] ks))) fun y H2 => ∃ b ls, y = .ref b ∧ b ≠ p ∧ Rd H2 b (.dK ls) ∧ H2 p = some (.dK (mergeK [] ks)) ∧ ls.length ≤ 1000000 ∧ Q (.ref p) (upd H2 p (.dK (mergeK (mergeK [] ks) ls)))
theorem pe_star2 {X : Cx} {a b : Expr} {ta tb : TE} {pos : Pos} (ha : PE X a ta) (hb : PE X b tb) (he : evalEachOpt [none, none] X.env = [none, none] := by rfl) (hv : evalEach [a, b] X.env = [eval a X.env, eval b X.env] := by rfl) :
    PE X (.Dict [none, none] [a, b] pos) (tStar2 ta tb) := by
  refine ⟨fun pins s σ H Q I q => ?_⟩
  have hn := I.hok.fresh (Nat.le_refl s.heap.objs.size)
  have I0 := I.laid (a := s.heap.objs.size) (o := .dK []) (h' := s.heap.push { cls := .type "dict", data := .dict #[] }) (t' := s.toks) (fun _ _ q => Heap.get?_push_of_some _ q) (Nat.le_refl _) (dk_empty s.heap I.big)
  have hl : sizeLine = 16777216 := sizeLine_eq
  rw [arm_eval_Dict, he, hv]
  refine wpAny_bind (wpAny_standAt ?_)
  unfold dictDisplay
  simp only [List.map_cons, List.map_nil, List.zip_cons_cons, List.zip_nil_left, List.forIn_cons, List.forIn_nil, List.isEmpty_nil, if_true]
  -- what each of the two does: evaluated, merged, nothing raised by the merging
  have step : ∀ {e : Expr} {te : TE} {d : Addr} {H0 : Hp} {s0 : Shared} {ks0 : List (Key × V)} {R : Unit → Shared → Prop} {Qx : VK} {k1 : Value → Value → Sem Unit} {k2 : Value → Sem Unit} {k3 : Value → Value → Sem Unit}, PE X e te → Inv X pins σ H0 s0 → te σ H0 Qx →
      (∀ x H1, Qx x H1 → ∃ a ks, x = .ref a ∧ a ≠ d ∧ Rd H1 a (.dK ks) ∧ H1 d = some (.dK ks0) ∧ ks0.length + ks.length ≤ sizeLine ∧ ∀ s', Inv X pins σ (upd H1 d (.dK (mergeK ks0 ks))) s' → R () s') →
      wpAny (model X.prog X.w) X.A (holding [Value.ref d] (do
        let x ← eval e X.env
        standAt pos
        pure x)) (fun m s1 => wpAny (model X.prog X.w) X.A ((((holding [Value.ref d, m] (mergeMapping d m false)).onRaise (k1 m)).tryCatch (k3 m)).onRaise k2) R X.xe s1) X.xe s0 := by
    intro e te d H0 s0 ks0 R Qx k1 k2 k3 he I h hq
    refine wpAny_holding (wpAny_bind (thn (he.run pins s0 σ H0 _ I h) fun u s1 ⟨x, H1, I1, r1, qx⟩ => wpAny_bind (wpAny_standAt (wpAny_pure ?_))))
    obtain ⟨b, ks, ex, ne, hr, hd1, hz, q1⟩ := hq x H1 qx
    subst ex
    obtain rfl : u = Value.ref b := r1
    exact wpAny_onRaise (wpAny_tryCatch (wpAny_onRaise (wpAny_holding (d_merge I1 (Ne.symm ne) hd1 hr hz q1))))
  have fin : ∀ {α β : Type} {m : Sem α} {f : α → Sem Unit} {g : Sem β} {R : β → Shared → Prop} {s0 : Shared}, wpAny (model X.prog X.w) X.A m (fun x s1 => wpAny (model X.prog X.w) X.A (f x) (fun _ s2 => wpAny (model X.prog X.w) X.A g R X.xe s2) X.xe s1) X.xe s0 →
      wpAny (model X.prog X.w) X.A (m >>= fun x => f x >>= fun _ => g) R X.xe s0 := fun h => wpAny_bind (thn h fun _ _ h1 => wpAny_bind h1)
  refine wpAny_bind (wpAny_bind (wpAny_bind (wpAny_pure (wpAny_bind (wpAny_alloc ?_)))))
  refine fin (step ha I0 (q _ hn) fun x H1 ⟨a1, ks, ex, ne, hr, hp, hz, q1⟩ => ⟨a1, ks, ex, ne, hr, hp, by rw [List.length_nil]; omega, fun s1 I1 => ?_⟩)
  have hz1 := length_mergeK ks []
  rw [List.length_nil] at hz1
  refine wpAny_pure (wpAny_bind (wpAny_bind (wpAny_pure (wpAny_bind (wpAny_pure ?_)))))
  refine fin (step hb I1 q1 fun y H2 ⟨b1, ls, ey, ne2, hr2, hp2, hz2, q2⟩ => ⟨b1, ls, ey, ne2, hr2, hp2, by omega, fun s2 I2 => ?_⟩)
  exact wpAny_pure (wpAny_pure (wpAny_bind (wpAny_pure (wpAny_pure ⟨.ref s.heap.objs.size, _, I2, rfl, q2⟩))))
end Tp
/-! part XD -/
set_option Elab.async false
set_option linter.all false
set_option maxRecDepth 100000
set_option maxHeartbeats 4000000
/-! own layer, part D: walks that lock, dict comprehensions over any walk, sorted of a dict's ints, zip(strict=False), divmod of any sign, attributes as targets, classmethods without arguments -/
namespace Tp
open PySem PySem.Spec PyProof.Rows L2

/-! ### a dict comprehension over a walk -/
theorem dc_it {J : It} {n : Nat} {G : Hp → Prop} {Y : Nat → Hp → V → Hp → Prop} (w : Walk J n G Y) {g : TG} {tt : TT} {tk tv : TE} {vs : List Nat} {σ : L2.St} {H1 : Hp} {D : Addr} {Qd : Hp → Prop} (Pv : Nat → Hp → Prop) (h0 : Pv 0 (upd H1 D (.dK []))) (hG : ∀ i H, i ≤ n → Pv i H → G H)
    (hs : ∀ i x H H', i < n → Pv i H → Y i H x H' → g x (wipe σ vs) H' fun σ2 H2 => wipe σ2 vs = wipe σ vs ∧ tt σ2 H2 fun b H3 =>
      if b = true then tk σ2 H3 fun y H4 => tv σ2 H4 fun z H5 => ∃ kvs k, y = kV k ∧ H5 D = some (.dK kvs) ∧ kvs.length < sizeLine ∧ Pv (i + 1) (upd H5 D (.dK (putK kvs k z))) else Pv (i + 1) H3) (hd : ∀ H, Pv n H → Qd H) :
    ∃ W : Nat → Nat → Hp → Prop, (∃ m, W 0 m (upd H1 D (.dK []))) ∧ ∀ i m H, W i m H →
      (J.stop i H ∧ Qd H) ∨ (J.go i H ∧ ∃ Nx : Hp → Prop, (∀ H', Nx H' → ∃ m', m' < m ∧ W (i + 1) m' H') ∧ ∀ x H', J.yld i H x H' → g x (wipe σ vs) H' fun σ2 H2 => wipe σ2 vs = wipe σ vs ∧ tt σ2 H2 fun b H3 =>
        if b = true then tk σ2 H3 fun y H4 => tv σ2 H4 fun z H5 => ∃ kvs k, y = kV k ∧ H5 D = some (.dK kvs) ∧ kvs.length < sizeLine ∧ Nx (upd H5 D (.dK (putK kvs k z))) else Nx H3) := by
  refine ⟨fun i m H => m = n - i ∧ i ≤ n ∧ Pv i H, ⟨n, by simp, Nat.zero_le _, h0⟩, ?_⟩
  rintro i m H ⟨rfl, hi, p⟩
  rcases Nat.lt_or_ge i n with hlt | hge
  · exact .inr ⟨w.goes i H hlt (hG i H hi p), Pv (i + 1), fun H' p' => ⟨n - (i + 1), by omega, rfl, hlt, p'⟩, fun x H' y => hs i x H H' hlt p (w.yields i H x H' hlt (hG i H hi p) y)⟩
  · have e : i = n := by omega
    subst e
    exact .inl ⟨w.stops H (hG i H hi p), hd H p⟩

/-! ### a new dict walked by its values, its items: locked from then on -/
section
variable {X : Cx} {tg e : Expr} {td : TE} {apos cpos : Pos}
def iValsL (td : TE) : TI := fun σ H R => td σ H fun x H1 => ∃ d kvs, x = .ref d ∧ H1 d = some (.dK kvs) ∧ ∀ o, R (Itd d o kvs) (upd H1 d (.frz o (.dK kvs)))
def iItemsL (td : TE) : TI := fun σ H R => td σ H fun x H1 => ∃ d kvs, x = .ref d ∧ H1 d = some (.dK kvs) ∧ ∀ o, R (Iti d o kvs) (upd H1 d (.frz o (.dK kvs)))
/-- the value of e, its dict locked behind it -/
theorem lockE {pins : List (Addr × Obj)} {s : Shared} {σ : L2.St} {H : Hp} {Q : VK} {d : Addr} {u : HO} {v : Value} (I : Inv X pins σ H s) (h : H d = some u) (mu : Mut (some u)) (r : RelV (.ref d) v) (q : ∀ o, Q (.ref d) (upd H d (.frz o u))) : EP X pins σ Q v s := by
  obtain ⟨o, I'⟩ := I.lock h mu
  exact ⟨.ref d, _, I', r, q o⟩
def tLk (td : TE) : TE := fun σ H Q => td σ H fun x H1 => ∃ d kvs, x = .ref d ∧ H1 d = some (.dK kvs) ∧ ∀ o, Q (.ref d) (upd H1 d (.frz o (.dK kvs)))
theorem pe_lk (he : PE X e td) : PE X e (tLk td) := by
  refine ⟨fun pins s σ H Q I h => thn (he.run pins s σ H _ I h) fun v s1 ⟨x, H1, I1, r1, d, kvs, ex, hd, q⟩ => ?_⟩
  subst ex
  exact lockE I1 hd True.intro r1 q
theorem PI.imp {wi wi' : TI} {iter : Expr} (h : PI X tg iter wi) (k : ∀ σ H R, wi' σ H R → wi σ H R) : PI X tg iter wi' := ⟨fun pins s σ H R I q => h.run pins s σ H R I (k σ H R q)⟩
end
section
variable {X : Cx} {e : Expr} {td : TE} {apos cpos : Pos}
theorem pi_valuesL {tg : Expr} (he : PE X e td) (hbase : attributeBase e "values" X.env (eval e X.env) = eval e X.env := by rfl) (hline : (apos.endLine == cpos.line) = true := by rfl) : PI X tg (.Call (.Attribute e "values" apos) [] [] cpos) (iVals (tLk td)) :=
  pi_values (pe_lk he) hbase hline
theorem pi_itemsL {elts : List Expr} {kk : Nat} {tpos : Pos} (he : PE X e td) (hbase : attributeBase e "items" X.env (eval e X.env) = eval e X.env := by rfl) (hline : (apos.endLine == cpos.line) = true := by rfl) :
    PI X (.Tuple elts kk tpos) (.Call (.Attribute e "items" apos) [] [] cpos) (iItems (tLk td)) := pi_items (pe_lk he) hbase hline
end

/-! ### sorted(d) of a dict whose keys are ints, any number of them -/
section
variable {X : Cx}
def rSortedDI : List V → Hp → VK → Prop := fun xs H Q => ∃ (a : Addr) (kvs : List (Key × V)) (ks : List Int), xs = [.ref a] ∧ Rd H a (.dK kvs) ∧ kvs.map (·.1) = ks.map Sum.inl ∧
    ∀ (ys : List Int) (p : Addr), ys.Perm ks → ys.Pairwise (· ≤ ·) → H p = none → Q (.ref p) (upd H p (.lst (ys.map V.int)))
theorem cr_sortedDI (hcalm : X.calm = true) : CallR X (.builtin "sorted") rSortedDI := by
  intro pins s σ H xs us Q I r q
  obtain ⟨a, kvs, ks, ex, hd, hks, q⟩ := q
  subst ex
  obtain ⟨u, eu, rx⟩ := vals1 r
  subst eu
  cases rx
  obtain ⟨z, lo, vs, rel, dd⟩ := dk_rd I.hok hd
  obtain ⟨ep, hat⟩ := dd.dictAt
  have hkeys : vs.map (·.1) = ks.map Sum.inl := rel.keys.symm.trans hks
  have hl : vs.length = ks.length := by simpa using congrArg List.length hkeys
  have h16 : vs.length ≤ sizeLine := by rw [← rel.length]; exact z
  refine Calls.call_function_entry PyProof.Rows.kind_sorted PyProof.Rows.plain_sorted PyProof.Rows.entry_sorted (PyProof.Rows.args_sorted1 _) ?_
  unfold Builtin.«sorted»
  refine wpAny_bind (m := checkCount "sorted" 1 1 _) (wpAny_pure ?_)
  refine wpAny_bind (PySem.W.kdu_collect (A := X.A.in1) (PySem.W.kdl_dict (knd := mixKind X.prog X.w) (kvs := vs) (ep := ep) lo) (I.ok.hd hcalm) hat h16 fun h' tk acc hk hacc => ?_)
  have hal : acc.toList.length = ks.length := by rw [Array.length_toList, hacc.1, hl]
  have hS : IntsAre acc.toList ks := ints_each hal fun j v e => by
    obtain ⟨k, x, e1, e2⟩ := hacc.2 j v (by rw [← Array.getElem?_toList]; exact e)
    have e3 : (ks.map (Sum.inl : Int → Key))[j]? = some k := by rw [← hkeys, List.getElem?_map, e1]; rfl
    rw [List.getElem?_map] at e3
    obtain ⟨y, e4, e5⟩ := Option.map_eq_some_iff.mp e3
    subst e5
    rcases keyIs_shape (show keyIs (Sum.inl y) v = true from e2) with ⟨i, t, ek, ev⟩ | ⟨z, t, ek, ev⟩
    · cases ek
      exact ⟨y, t, e4, ev⟩
    · cases ek
  have I1 : Inv X pins σ H { s with heap := h', toks := tk } := I.kept hk
  have hz : acc.toList.length ≤ sizeLine := by omega
  refine wpAny_bind (wpAny_newList ?_ hz)
  have hoL : (h'.push (seqObj "list" acc.toList.toArray 0)).get? h'.objs.size = some (seqObj "list" acc.toList.toArray 0) := Heap.get?_push_size _ rfl
  show wpAny _ _ _ _ _ { s with heap := h'.push (seqObj "list" acc.toList.toArray 0), toks := tk }
  refine wpAny_bind (wpAny_holding (wpAny_call_entry PyProof.Rows.slot_list_sort ⟨_, hoL, rfl⟩ PyProof.Rows.entry_list_sort
    (SrtO.list_sort_ord (s := { s with heap := h'.push (seqObj "list" acc.toList.toArray 0), toks := tk }) SrtO.swo_int hoL hz (fun h2 => SrtO.ints_sortable hS h2) fun out g1 g2 => ⟨_, rfl, ?_⟩) (PyProof.Rows.args_list_sort _)))
  obtain ⟨k1, k2, k3⟩ := SrtO.ints_out hS g1 g2
  obtain ⟨e', he'⟩ := PyProof.Rows.sortedHeap_at (vs := acc.toList) (out := out.toArray) hoL
  have hlen : ((out.map SrtO.iv).map V.int).length ≤ sizeLine := by
    rw [List.length_map, k2.length_eq]
    omega
  refine wpAny_pure ⟨_, rfl, .ref h'.objs.size, upd H h'.objs.size (.lst ((out.map SrtO.iv).map V.int)), I1.laid (t' := tk) (fun b u e => ?_) (Nat.le_refl _)
    (show ObjOk X.prog X.w _ _ _ (.lst ((out.map SrtO.iv).map V.int)) from ⟨hlen, out, e', vals_of_ints k1, he'⟩), rfl, q _ _ k2 k3 (I1.hok.fresh (Nat.le_refl _))⟩
  have hb : b < h'.objs.size := Heap.lt_size e
  rw [PyProof.Rows.sortedHeap_old (Nat.ne_of_lt hb) (by rw [Heap.size_push]; exact Nat.lt_succ_of_lt hb)]
  exact Heap.get?_push_of_some _ e

/-! ### divmod by a divisor that is not 0 -/
def rDivmod : List V → Hp → VK → Prop := fun xs H Q => ∃ i j, xs = [.int i, .int j] ∧ CDivN i j ∧ ∀ p, H p = none → Q (.ref p) (upd H p (.tup [.int (i.fdiv j), .int (i.fmod j)]))
theorem cr_divmod : CallR X (.builtin "divmod") rDivmod := by
  intro pins s σ H xs us Q I r h
  obtain ⟨i, j, rfl, ⟨h1, h2⟩, q⟩ := h
  obtain ⟨u, w', rfl, ⟨t, rfl⟩, ⟨t', rfl⟩⟩ := vals2 r
  refine divmod_int h1 ?_ (.inl (PyProof.noPylong_small h2))
  refine ⟨.ref s.heap.objs.size, _, I.laid (fun b o e => Heap.get?_push_of_some _ e) (Nat.le_refl _) ?_, rfl, q _ (I.hok.fresh (Nat.le_refl _))⟩
  exact ⟨by show 2 ≤ sizeLine; decide, [_, _], .cons ⟨_, rfl⟩ (.cons ⟨_, rfl⟩ .nil), ⟨_, Heap.get?_push_size s.heap rfl, rfl, 0, rfl⟩⟩
end

/-! ### o.f as a target -/
def gFld (K : PySem.W.Frag) (ta : TE) (f : Str) : TG := fun v σ H Q => ta σ H fun x H1 => ∃ a C dx fs, x = .ref a ∧ H1 a = some (.ins C dx fs) ∧ Cls K C ∧ NoAttr K C f ∧ fs.length < 1000 ∧ Q σ (upd H1 a (.ins C dx (putF f v fs)))
theorem pg_fld {X : Cx} {o : Expr} {f : Str} {pos : Pos} {ta : TE} (ho : PE X o ta)
    (ha : ∀ v, assign (.Attribute o f pos) X.env v = (do
      let ov ← holding [v] (eval o X.env)
      standAt pos.atName
      holding [v, ov] (setAttr ov f v)
      release [v, ov] []) := by intro _; rfl) : PG X (.Attribute o f pos) (gFld X.K ta f) := by
  refine ⟨fun pins s σ H v u Q I r h => ?_⟩
  rw [ha]
  refine wpAny_bind (wpAny_holding (thn (ho.run pins s σ H _ I h) fun ov s1 ⟨x, H1, I1, rx, a, C, dx, fs, ex, ea, c, n, l, q⟩ => ?_))
  subst ex
  obtain rfl : ov = Value.ref a := rx
  refine wpAny_bind (wpAny_standAt (wpAny_bind (wpAny_holding (setattr_ok I1 ea c n l r fun s3 I3 => ?_))))
  exact wpAny_release ⟨σ, _, I3, q⟩
end Tp
/-! part XE -/
set_option Elab.async false
set_option linter.all false
set_option maxRecDepth 100000
set_option maxHeartbeats 4000000
/-! own layer, part E: a list against an empty one, len of an object with an own __len__, d.update(e), name = a dict comprehension, a classmethod without arguments, the call of a class in a slot -/
namespace Tp.GN
open PySem PySem.Spec PyProof.Rows PySem.SeqAt L2
open MeetsSeq MeetsSeq2 MeetsSeq3 SeqRoads2 GQ
section
variable {prog : Program} {w : World} {A : Around} {R : Result → Shared → Prop}
theorem list_eq_far (l b : Addr) (items items2 : Array Value) (n n2 : Nat) (dd dd2 : Option Addr) (sl sl2 : Array (Option Value)) (hsz : items.size ≠ items2.size) {s : Shared}
    (hl1 : s.heap.get? l = some { cls := .type "list", dict := dd, data := .seq items n, slots := sl }) (hb1 : s.heap.get? b = some { cls := .type "list", dict := dd2, data := .seq items2 n2, slots := sl2 }) (h : R (.ok (.ret (.bool false))) s) :
    wpAny (model prog w) A.in1 (Builtin.«list.__eq__» ⟨[.ref l, .ref b], []⟩) (FinOf prog w A R) (fun e s' => R (.error e) s') s := by
  obtain ⟨hp, g, d, tk, os⟩ := s
  have f3 := AutoSeq1.sub_list_list
  have hne : (items.size != items2.size) = true := by simp [hsz]
  wp_walk using wpAny_loadPart' hl1, wpAny_loadPart' hb1
  exact h
theorem list_ne_far (l b : Addr) (items items2 : Array Value) (n n2 : Nat) (dd dd2 : Option Addr) (sl sl2 : Array (Option Value)) (hsz : items.size ≠ items2.size) {s : Shared}
    (hl1 : s.heap.get? l = some { cls := .type "list", dict := dd, data := .seq items n, slots := sl }) (hb1 : s.heap.get? b = some { cls := .type "list", dict := dd2, data := .seq items2 n2, slots := sl2 }) (h : R (.ok (.ret (.bool true))) s) :
    wpAny (model prog w) A.in1 (Builtin.«list.__ne__» ⟨[.ref l, .ref b], []⟩) (FinOf prog w A R) (fun e s' => R (.error e) s') s := by
  obtain ⟨hp, g, d, tk, os⟩ := s
  have f3 := AutoSeq1.sub_list_list
  have hne : (items.size != items2.size) = true := by simp [hsz]
  wp_walk using wpAny_loadPart' hl1, wpAny_loadPart' hb1
  exact h
end
end Tp.GN
namespace Tp
open PySem PySem.Spec PyProof.Rows L2
section
variable {X : Cx}
/-- xs == [] -/
def rEqNil : R2 := fun x y H Q => ∃ a b xs, x = .ref a ∧ y = .ref b ∧ H a = some (.lst xs) ∧ H b = some (.lst []) ∧ Q (.bl (decide (xs = []))) H
def rNeNil : R2 := fun x y H Q => ∃ a b xs, x = .ref a ∧ y = .ref b ∧ H a = some (.lst xs) ∧ H b = some (.lst []) ∧ Q (.bl (!decide (xs = []))) H
theorem op_eqNil (hu : X.A.units < cLine) : OpR X (compareOp .Eq) rEqNil := by
  intro pins s σ H x y v u Q I rx ry hq
  obtain ⟨a, b, xs, rfl, rfl, ha, hb, q⟩ := hq
  cases rx
  cases ry
  show wpAny (model X.prog X.w) X.A (richCompare .Eq (.ref a) (.ref b)) (EP X pins σ Q) X.xe s
  obtain ⟨z, its, k, r, e⟩ := I.hok a _ ha
  obtain ⟨z2, its2, k2, r2, e2⟩ := I.hok b _ hb
  cases r2
  cases xs with
  | nil =>
    cases r
    refine GQ.rc_listG (N := 0) hu (fun _ s' => s' = s) (fun i s' q' => ?_) (fun s' q' => ?_) rfl
    · subst q'
      exact ⟨#[], #[], k, k2, e, e2, rfl, rfl, fun h1 => absurd h1 (by simp)⟩
    · subst q'
      exact ⟨.bl _, H, I, rfl, q⟩
  | cons x xs =>
    cases r with
    | @cons _ u0 _ us0 ru r =>
    refine wpAny_richCompare_same_room (op := .Eq) ⟨_, e, rfl⟩ ⟨_, e2, rfl⟩ F.slot_list_eq (GQ.call_here F.slot_list_eq ⟨_, e, rfl⟩ F.entry_list_eq (F.args_list_eq_2 _ _) ?_) hu
    refine GN.list_eq_far (R := wants (fun v s' => v ≠ .notImplemented ∧ EP X pins σ Q v s') X.xe) a b _ _ k k2 _ _ _ _ (by simp) e e2 ⟨(fun x => nomatch x), ⟨.bl _, H, I, rfl, q⟩⟩
theorem op_neNil (hu : X.A.units < cLine) : OpR X (compareOp .NotEq) rNeNil := by
  intro pins s σ H x y v u Q I rx ry hq
  obtain ⟨a, b, xs, rfl, rfl, ha, hb, q⟩ := hq
  cases rx
  cases ry
  show wpAny (model X.prog X.w) X.A (richCompare .NotEq (.ref a) (.ref b)) (EP X pins σ Q) X.xe s
  obtain ⟨z, its, k, r, e⟩ := I.hok a _ ha
  obtain ⟨z2, its2, k2, r2, e2⟩ := I.hok b _ hb
  cases r2
  cases xs with
  | nil =>
    cases r
    refine GN.rcn_list (N := 0) hu (fun _ s' => s' = s) (fun i s' q' => ?_) (fun s' q' => ?_) rfl
    · subst q'
      exact ⟨#[], #[], k, k2, e, e2, rfl, rfl, fun h1 => absurd h1 (by simp)⟩
    · subst q'
      exact ⟨.bl _, H, I, rfl, q⟩
  | cons x xs =>
    cases r with
    | @cons _ u0 _ us0 ru r =>
    refine wpAny_richCompare_same_room (op := .NotEq) ⟨_, e, rfl⟩ ⟨_, e2, rfl⟩ F.slot_list_ne (GQ.call_here F.slot_list_ne ⟨_, e, rfl⟩ F.entry_list_ne (F.args_list_ne_2 _ _) ?_) hu
    refine GN.list_ne_far (R := wants (fun v s' => v ≠ .notImplemented ∧ EP X pins σ Q v s') X.xe) a b _ _ k k2 _ _ _ _ (by simp) e e2 ⟨(fun x => nomatch x), ⟨.bl _, H, I, rfl, q⟩⟩
/-- d.update(e) -/
def rDUpd : V → List V → Hp → VK → Prop := fun x vs H Q => ∃ a b kvs ls, x = .ref a ∧ vs = [.ref b] ∧ a ≠ b ∧ H a = some (.dK kvs) ∧ Rd H b (.dK ls) ∧ kvs.length + ls.length ≤ sizeLine ∧ Q .non (upd H a (.dK (mergeK kvs ls)))
theorem mt_dupd : MtR X "dict.update" rDUpd := by
  intro pins s σ H x vs v us Q I rx rv h
  obtain ⟨a, b, kvs, ls, rfl, rfl, ne, ha, hb, hz, q⟩ := h
  cases rx
  obtain ⟨u, eu, ru⟩ := vals1 rv
  subst eu
  cases ru
  obtain ⟨z1, y1, vs1, r1, d1⟩ := dk_of I.hok ha
  obtain ⟨z2, y2, vs2, r2, d2⟩ := dk_rd I.hok hb
  refine call_meetsIn PySem.F.slot_dict_update d1.typeIs PySem.F.entry_dict_update (PySem.F.args_dict_update_2 _ _) (meets_dict_update (mixKind X.prog X.w) a b ne y2)
    ⟨vs1, vs2, d1, d2, (by rw [← r1.length, ← r2.length]; exact hz), fun h' hm _ hs => ?_⟩
  have hl := length_mergeK ls kvs
  have he : ∃ q, h'.get? a = some q := let ⟨q, _, _, hq, _⟩ := hm; ⟨q, hq⟩
  exact ⟨.non, _, d_write (t' := s.toks) I (by rw [ha]; exact True.intro) hs he (dk_new (by omega) y1 (r2.merge r1) hm), rfl, q⟩
/-- len(o), o an instance whose class has an own __len__ that only reads -/
def rLenOwn (C : Addr) (sp : Sp) : List V → Hp → VK → Prop := fun xs H Q => ∃ a dx fs, xs = [.ref a] ∧ H a = some (.ins C dx fs) ∧ sp [.ref a] H (fun v H' => ∃ n : Nat, v = .int n ∧ n < 2 ^ 62 ∧ Q (.int n) H') (fun _ _ _ => False)
theorem cr_lenOwn {C f : Addr} {k : Nat} {sp : Sp} (F : FnR X.prog X.w X.K X.mg X.base CX0 k f sp) (hr : Room (k + 1) X.A) (hs : PySem.W.findIn X.K (.ref C) "__len__" = some (some (.ref f))) (hf : PySem.W.isFn X.K (.ref f) = true) : CallR X (.builtin "len") (rLenOwn C sp) := by
  intro pins s σ H xs us Q I r q
  obtain ⟨a, dx, fs, ex, ha, q⟩ := q
  subst ex
  obtain ⟨u, eu, rx⟩ := vals1 r
  subst eu
  cases rx
  obtain ⟨mA, J, _⟩ := ins_get I.hok ha
  obtain ⟨od, J, _⟩ := J.look
  refine Calls.call_function_entry kind_len plain_len entry_len (args_len1 _) ?_
  unfold Builtin.«len»
  refine wpAny_bind (m := oneArg "len" _) (wpAny_pure ?_)
  have e0 : Env0 X.prog X.w X.K X.mg X.base X.A.in1 X.stack s H := I.env0.in1
  have z : wpAny (model X.prog X.w) X.A.in1 (callSpecial? (.ref a) "__len__" []) (fun r s' => ∃ (n : Nat) (t : Tok), r = some (.int n t) ∧ n < 2 ^ 62 ∧ ∃ H', Inv X pins σ H' s' ∧ Q (.int n) H') (fun _ _ => False) s := by
    simp only [callSpecial?]
    refine wpAny_bind ((J.type.andThen (PySem.W.looks_findIn I.kIn hs)).here ?_)
    refine wpAny_holding (wpAny_bind ((PySem.W.bind_fn I.kIn _ (beq_iff_eq.mp hf)).here ?_))
    refine wpAny_bind (wpAny_mono (wpAny_call (codeAny_mono (F X.A.in1 X.stack s H [.ref a] [.ref a] _ _ hr.in1 e0 (.cons rfl .nil) q) fun r s' hq => ?_)) (fun v s' hv => wpAny_pure hv) fun _ _ x => x)
    cases r with
    | error e => exact (show False from hq).elim
    | ok fl =>
      cases fl with
      | ret w =>
        obtain ⟨v, H', I', rv, n, ev, hn, q2⟩ := I.after hq
        subst ev
        obtain ⟨t, rfl⟩ := rv
        exact ⟨n, t, rfl, hn, H', I', q2⟩
      | next => exact False.elim hq
      | brk => exact False.elim hq
      | cont => exact False.elim hq
  refine wpAny_bind (m := callSpecial? (.ref a) (PySem.Str.ofString "__len__")) (wpAny_mono z (fun r s' hr' => ?_) fun _ _ x => x.elim)
  obtain ⟨n, t, er, hn, H', I', q2⟩ := hr'
  subst er
  refine wpAny_bind (wpAny_holding (wpAny_pure ?_))
  refine wpAny_bind (wpAny_letGo ?_)
  show wpAny _ _ (if ((n : Nat) : Int) < 0 then _ else _) _ _ _
  rw [if_neg (by omega)]
  show wpAny _ _ (if ((n : Nat) : Int) ≥ 2 ^ 63 then _ else _) _ _ _
  rw [if_neg (by omega)]
  exact wpAny_bind (wpAny_mkInt (wpAny_pure ⟨_, rfl, .int n, H', I'.tok _, ⟨_, rfl⟩, q2⟩))
end
/-! ### name = {k: v for ..} -/
section
variable {X : Cx}
theorem ps_setDc {i : Nat} {y : Str} {py : Pos} {kx vx tg iter : Expr} {ifs : List Expr} {scope : Scope} {own : List (Str × Nat)} {pos spos : Pos} {wi : TI} {g : TG} {tt : TT} {tk tv : TE} (hc : X.calm = true) (hN : X.N.Nodup) (hy : X.N[i]? = some y) (hyl : X.env.scope.names.lookup y = some .local)
    (hsw : swapsWith (.DictComp kx vx [⟨tg, iter, ifs, 0⟩] scope pos) (some (.Name y py)) spos.line X.env = pure true) (hi : PI X tg iter wi) (ok : BlkOk X.N X.env.scope scope own)
    (hg : ∀ (s : Shared) (H : Hp) (C : Addr) (cl : List (Str × Addr)) (fp : List Addr), PG (X.blk s H scope (compEnvC scope cl C X.env) fp) tg g) (ht : ∀ (s : Shared) (H : Hp) (C : Addr) (cl : List (Str × Addr)) (fp : List Addr), PTs (X.blk s H scope (compEnvC scope cl C X.env) fp) ifs tt)
    (hk : ∀ (s : Shared) (H : Hp) (C : Addr) (cl : List (Str × Addr)) (fp : List Addr), PE (X.blk s H scope (compEnvC scope cl C X.env) fp) kx tk)
    (he : ∀ (s : Shared) (H : Hp) (C : Addr) (cl : List (Str × Addr)) (fp : List Addr), PE (X.blk s H scope (compEnvC scope cl C X.env) fp) vx tv) (hs : ∀ x, foldedSetIterable iter X.env x = pure x := by intro _; rfl) :
    PS X (.Assign [.Name y py] (.DictComp kx vx [⟨tg, iter, ifs, 0⟩] scope pos) spos) (tAsg (tDc wi g tt tk tv (own.map (·.2))) (gName i)) := by
  refine ⟨fun pins s σ H D I h => ?_⟩
  rw [exec_Assign_Name_used _ _ _ _ hsw]
  refine wpAny_bind (wpAny_standAt (wpAny_bind ?_))
  show wpAny _ X.A (do let _ ← comprehension (.DictComp kx vx [⟨tg, iter, ifs, 0⟩] scope pos) scope X.env (firstIterPos [⟨tg, iter, ifs, 0⟩] pos) newDict false (eval iter X.env) (some (assign (.Name y py) X.env))) _ _ s
  have h : tDc wi g tt tk tv (own.map (·.2)) σ H (fun x H1 => gName i x σ H1 D.nx) := h
  refine wpAny_bind (thn (dc_core (Qf := fun _ s' => SP X pins D .next s') hc hN I hi ok hg ht hk he hs h fun L C s' m H' I' q hn f => ?_) fun _ s' hq => wpAny_pure (wpAny_pure hq))
  show wpAny _ _ (assign (.Name y py) X.env (.ref L)) _ _ _
  refine wpAny_assign_Name (store_ok2 (v := V.ref L) I' hN hy (.inl hyl) rfl (fun s2 I2 ⟨a, sb, ha⟩ => ?_) (.inr hyl))
  obtain ⟨f0, f1, f2, f3, f4, f5⟩ := f
  have haC : C ≠ a := by
    rcases ha with z | z
    · rw [z]; exact f1
    · exact fun e => f4 y a z e.symm
  refine ⟨m, hn.sameBut sb haC, fun h3 sb3 => ?_⟩
  exact ⟨_, H', I2.turned (t' := s2.toks) (fun b o hb e => (sb3.2 b hb).trans e) f0 f1 f3 f4 f5, q⟩
theorem sw_trueD {kx vx : Expr} {gs : List Comprehension} {scope : Scope} {pos py : Pos} {y : Str} {l : Nat} {env : Env} (hk : env.scope.kind = .function) (hy : env.scope.names.lookup y = some .local) (hl : (py.line == pos.line) = true)
    (ha : (scope.names.any fun (n, k) => n == y && (k == .local || k == .cell)) = false) : swapsWith (.DictComp kx vx gs scope pos) (some (.Name y py)) l env = pure true := by
  have ky : env.kindOf y = some .local := hy
  have hb : env.blockKind = .function := by unfold Env.blockKind; rw [hk]; rfl
  unfold swapsWith
  simp only [hb, ky, ha, Expr.pos, hl]
  rfl
end
/-! ### C.m(), m a classmethod; cls(e, ..), cls a slot that holds a class -/
def tClsL (i : Nat) (C : Addr) (sp : Sp) (E : XK) (t : TA) : TE := fun σ H Q => σ[i]? = some (some (.ref C)) ∧ t σ H fun vs H1 => ∀ x dx, H1 x = none → H1 dx = none → dx ≠ x → sp (V.ref x :: vs) (upd (upd H1 dx (.own x)) x (.ins C dx [])) (fun v H2 => v = .non ∧ Q (.ref x) H2) E
section
variable {X : Cx} {C p g f : Addr} {mc : Value} {m x : Str} {CX : CXT} {k i : Nat} {sp : Sp} {E : XK} {o e : Expr} {es : List Expr} {pos apos p1 : Pos} {ta : TE} {t : TA}
theorem pe_cmeth0 {pl : Sem Bool} (he : PE X o ta) (r : ClX.CRead X.K C mc) (c : ClX.CMet X.K C mc m p g) (F : FnR X.prog X.w X.K X.mg X.base CX k g sp) (hr : Room k X.A) (hx : Passes CX X E)
    (ht : eval (.Call (.Attribute o m apos) [] [] pos) X.env = (do
      let ov ← eval o X.env
      standAt apos.atName
      let (f, first) ← holding [ov] (getMethod ov m pl)
      callWith pos f first (backTo pos (starEach [] X.env)) (backToKw pos (keywordEach [] X.env))) := by rfl) :
    PE X (.Call (.Attribute o m apos) [] [] pos) (ClX.tCMeth C sp E ta tNil) := by
  refine ⟨fun pins s σ H Q I h => ?_⟩
  refine PySem.W.methodCall_KW (pl := pl) (thn (he.run pins s σ H _ I h) fun u s1 ⟨x, H1, I1, rx, ex, q⟩ => ?_) ht
  subst ex
  obtain rfl : u = Value.ref C := rx
  refine ClX.getmethcm_ok I1 r c fun s2 I2 => ?_
  exact PySem.W.callWith_M0 (first := []) ⟨ClX.pin_at I2, I2.kIn⟩ c.fi (ClX.run_cm (us := []) F hr hx I2 .nil q)
theorem pe_clsL (M : Mk X.K C f) (F : FnR X.prog X.w X.K X.mg X.base CX k f sp) (hr : Room (k + 1) X.A) (hN : X.N[i]? = some x) (hv : Vis X.env.scope x) (hx : Passes CX X E) (ha : PA X (e :: es) t)
    (hdb : (x == ("__debug__" : Str)) = false := by decide) (hcd : (x == ("__classdict__" : Str)) = false := by decide)
    (he : starEach (e :: es) X.env = (false, eval e X.env) :: starEach es X.env := by rfl) (hpl : (backTo pos (starEach es X.env)).any (·.1) = false := by rfl) : PE X (.Call (.Name x p1) (e :: es) [] pos) (tClsL i C sp E t) := by
  refine ⟨fun pins s σ H Q I h => ?_⟩
  obtain ⟨hs, ht⟩ := h
  refine wpAny_Call_Name_kw (thn ((pe_var (pos := p1) hN hv hdb hcd).run pins s σ H (fun v H1 => v = .ref C ∧ H1 = H) I ⟨.ref C, hs, rfl, rfl⟩) fun u s1 ⟨v, H1, I1, r1, q1⟩ => ?_)
  obtain ⟨rfl, rfl⟩ := q1
  cases r1
  refine PySem.W.callWith_K (h₀ := X.base) I.ok.mod.kin M.kp (thn (ha.run pos pins s1 σ _ _ I1 ht) fun us s2 ⟨vs, H2, I2, r, q⟩ => ⟨I2.kIn, ?_⟩) he hpl
  exact StX.run_makeR M F hr hx I2 r q
end
end Tp
/-! part XF -/
set_option Elab.async false
set_option linter.all false
set_option maxRecDepth 100000
set_option maxHeartbeats 4000000
/-! own layer, part F: zip(a, b, strict=False) -/
namespace Tp
open PySem PySem.Spec PyProof.Rows L2
namespace ZF
theorem typeCall_zip_s (a b c : Value) : checkTypeCall "zip" ⟨[a, b], [(Str.ofString "strict", c)]⟩ = pure () := by kernel_rfl
theorem newCall_zip_s (a b c : Value) : checkBuiltinCall "zip.__new__" ⟨[.type "zip", a, b], [(Str.ofString "strict", c)]⟩ = pure () := by kernel_rfl
theorem args_object_init_s (obj a b c : Value) : argsOk "object.__init__" ⟨[obj, a, b], [(Str.ofString "strict", c)]⟩ := by unfold argsOk; kernel_rfl
theorem meets_zip_newS (l1 l2 : Addr) (xs ys : Array Value) :
    Meets (Builtin.«zip.__new__» ⟨[.type "zip", .ref l1, .ref l2], [(Str.ofString "strict", .bool false)]⟩) (fun _ R s => s.heap.IsList l1 xs ∧ s.heap.IsList l2 ys ∧
      R (.ok (.ret (.ref (zipH4 s.heap l1 l2).objs.size))) { s with heap := zipH5 s.heap l1 l2 }) :=
  .of_wp fun prog w A R s h => by
    obtain ⟨hp, g, d, tk, os⟩ := s; obtain ⟨hl1, hl2, h⟩ := h
    have hsub := sub_zip
    have e1 : (Str.ofString "strict" != ("strict" : Str)) = false := by decide +kernel
    have hL1 : Heap.IsList (Shared.heap ⟨hp, g, d, tk, os⟩) l1 xs := hl1
    have hL2 : Heap.IsList (Shared.heap ⟨hp.push { cls := .type "list_iterator", data := .fields #[.ref l1, .int 0 0] }, g, d, tk, os⟩) l2 ys := Heap.IsList.push hl2 _
    wp_walk using wpAny_pyIter_list hL1, wpAny_pyIter_list hL2
    exact ⟨_, rfl, h⟩
section
variable {prog : Program} {w : World} {A : Around} {E : Value → Shared → Prop} {s : Shared}
theorem call_zip_s {l1 l2 : Addr} {xs ys : Array Value} {Q : Value → Shared → Prop} (hl1 : s.heap.IsList l1 xs) (hl2 : s.heap.IsList l2 ys)
    (h : ∀ h', IsZip h' (s.heap.objs.size + 4) (s.heap.objs.size + 2) (s.heap.objs.size + 3) .none → IsPair h' (s.heap.objs.size + 2) (.ref s.heap.objs.size) (.ref (s.heap.objs.size + 1)) →
      IsPair h' (s.heap.objs.size + 3) .none .none → h'.IsListIter s.heap.objs.size l1 0 → h'.IsListIter (s.heap.objs.size + 1) l2 0 → h'.objs.size = s.heap.objs.size + 5 →
      (∀ c o, s.heap.get? c = some o → h'.get? c = some o) → Q (.ref (s.heap.objs.size + 4)) { s with heap := h' }) :
    wpAny (model prog w) A (call (.type "zip") [.ref l1, .ref l2] [(Str.ofString "strict", .bool false)]) Q E s := by
  refine callType_newKw F.called_zip (by decide) (typeCall_zip_s _ _ _) (newCall_zip_s _ _ _) (fun obj => args_object_init_s obj _ _ _) F.entry_zip_new
    (meets_zip_newS l1 l2 xs ys) ⟨hl1, hl2, ?_⟩
  have z1 : (zipH1 s.heap l1).objs.size = s.heap.objs.size + 1 := Heap.size_push ..
  have z2 : (zipH2 s.heap l1 l2).objs.size = s.heap.objs.size + 2 := by rw [Heap.size_push, z1]
  have z3 : (zipH3 s.heap l1 l2).objs.size = s.heap.objs.size + 3 := by rw [Heap.size_push, z2]
  have z4 : (zipH4 s.heap l1 l2).objs.size = s.heap.objs.size + 4 := by rw [Heap.size_push, z3]
  have z5 : (zipH5 s.heap l1 l2).objs.size = s.heap.objs.size + 5 := by rw [Heap.size_push, z4]
  have g5 : (zipH5 s.heap l1 l2).get? (zipH4 s.heap l1 l2).objs.size = some _ := Heap.get?_push_size _ rfl
  have g4 : (zipH5 s.heap l1 l2).get? (zipH3 s.heap l1 l2).objs.size = some _ := Heap.get?_push_of_some _ (Heap.get?_push_size _ rfl)
  have g3 : (zipH5 s.heap l1 l2).get? (zipH2 s.heap l1 l2).objs.size = some _ := Heap.get?_push_of_some _ (Heap.get?_push_of_some _ (Heap.get?_push_size _ rfl))
  have g2 : (zipH5 s.heap l1 l2).get? (zipH1 s.heap l1).objs.size = some _ := Heap.get?_push_of_some _ (Heap.get?_push_of_some _ (Heap.get?_push_of_some _ (Heap.get?_push_size _ rfl)))
  have g1 : (zipH5 s.heap l1 l2).get? s.heap.objs.size = some _ := Heap.get?_push_of_some _ (Heap.get?_push_of_some _ (Heap.get?_push_of_some _ (Heap.get?_push_of_some _ (Heap.get?_push_size _ rfl))))
  show _ ∧ _
  rw [z2, z3, z4] at g5
  rw [z1, z2] at g3
  rw [z3] at g4
  rw [z1] at g2
  rw [z4]
  exact ⟨⟨_, g5, rfl⟩, h _ g5 g3 g4 ⟨_, g1, rfl, rfl⟩ ⟨_, g2, rfl, rfl⟩ z5 fun c o x =>
    Heap.get?_push_of_some _ (Heap.get?_push_of_some _ (Heap.get?_push_of_some _ (Heap.get?_push_of_some _ (Heap.get?_push_of_some _ x))))⟩
theorem callWith_typeKw {env : Env} {M : Model} {pos : Pos} {T : String} {e : Expr} {rest : List Expr} {kws : List Keyword} {Q : Value → Shared → Prop}
    (h : wpAny M A (spliced (backTo pos (starEach (e :: rest) env))) (fun vs s₁ => wpAny M A (evalAll ((backToKw pos (keywordEach kws env)).map (·.2)))
      (fun kvs s₂ => wpAny M A (call (.type T) vs (((backToKw pos (keywordEach kws env)).filterMap (·.1)).zip kvs)) Q E s₂) E s₁) E s)
    (he : backTo pos (starEach (e :: rest) env) = (false, eval e env) :: backTo pos (starEach rest env) := by rfl)
    (hplain : (backTo pos (starEach (e :: rest) env)).any (·.1) = false := by rfl)
    (hall : (backToKw pos (keywordEach kws env)).all (·.1.isSome) = true := by rfl)
    (hkw : (backToKw pos (keywordEach kws env)).any (·.1.isNone) = false := by rfl) :
    wpAny M A (callWith pos (.type T) [] (backTo pos (starEach (e :: rest) env)) (backToKw pos (keywordEach kws env))) Q E s := by
  rw [he] at h hplain ⊢
  unfold callWith
  refine wpAny_bind (wpAny_holding (wpAny_mono (evalArgs_kwB (Q := fun a s₁ => wpAny M A (call (.type T) ([] ++ a.pos) a.kw) Q E s₁) hall h) (fun a s₁ h₁ => wpAny_bind (wpAny_standAt ?_)) fun _ _ x => x))
  simp only [hplain, hkw, Bool.or_false]
  refine wpAny_bind (wpAny_pure ?_)
  exact wpAny_bind (wpAny_mono h₁ (fun r s₂ hr => wpAny_bind (wpAny_holding (wpAny_point (wpAny_pure hr)))) fun _ _ x => x)
end
end ZF
def iZipS (K : PySem.W.Frag) (ta : TA) : TI := fun σ H R => ta σ H fun vs H1 => ∃ a b xs ys, vs = [.ref a, .ref b] ∧ SqL K H1 a xs ∧ SqL K H1 b ys ∧ R (Itz K a b) H1
theorem pi_zipS {X : Cx} {e e2 : Expr} {ta : TA} {p pos tpos kp : Pos} {elts : List Expr} {kk j : Nat} {cp : Pos} (hg : Gl X "zip") (hm : X.mg "zip" = none) (ha : PA X [e, e2] ta)
    (hs : backTo pos (starEach [e, e2] X.env) = (false, eval e X.env) :: backTo pos (starEach [e2] X.env) := by rfl) (hpl : (backTo pos (starEach [e, e2] X.env)).any (·.1) = false := by rfl) :
    PI X (.Tuple elts kk tpos) (.Call (.Name "zip" p) [e, e2] [⟨some "strict", .Constant (.bool false) j cp, kp⟩] pos) (iZipS X.K ta) := by
  refine ⟨fun pins s σ H R I h => ?_⟩
  refine wpAny_Call_Name_kw (ld_blt I hg hm PyProof.Rows.boot_zip (ZF.callWith_typeKw (thn (ha.run pos pins s σ H _ I h) fun us s1 ⟨vs, H1, I1, r1, q1⟩ => ?_) hs hpl))
  refine thn ((pk_cons (X := X) (nm := some "strict") (kpos := kp) pe_bl pk_nil).run pos pins s1 σ H1 (fun zs H2 => zs = [.bl false] ∧ H2 = H1) I1 ⟨rfl, rfl⟩) fun ws s2 ⟨zs, H2, I2, rz, ez, eh⟩ => ?_
  subst ez eh
  obtain ⟨w0, ew, rw0⟩ := vals1 rz
  subst ew
  cases rw0
  obtain ⟨a, b, xs, ys, ex, hqx, hqy, q⟩ := q1
  subst ex
  cases r1 with
  | cons r rr =>
    cases rr with
    | cons r' rr =>
      cases rr
      cases r
      cases r'
      obtain ⟨its, rv, p1, _⟩ := I2.list hqx
      obtain ⟨its2, rv2, p2, _⟩ := I2.list hqy
      have la : a < s2.heap.objs.size := p1.lt
      have lb : b < s2.heap.objs.size := p2.lt
      refine ZF.call_zip_s p1.isList p2.isList fun h' hz hTI hTO h1 h2 hsz hk => wpAny_pyIter_zip hz ?_
      have I3 : Inv X pins σ H2 { s2 with heap := h' } := I2.kept (t' := s2.toks) hk
      refine ⟨s2.heap.objs.size + 4, [s2.heap.objs.size + 4, s2.heap.objs.size + 2, s2.heap.objs.size + 3, s2.heap.objs.size, s2.heap.objs.size + 1], _, _, H2, rfl, I3, turn_zip (PySem.W.ktu_apart s2.heap.objs.size a b la lb), ⟨hz, hTI, ⟨_, _, hTO⟩, h1, h2⟩, fun c hcm => ?_, q⟩
      have e' : c = s2.heap.objs.size + 4 ∨ c = s2.heap.objs.size + 2 ∨ c = s2.heap.objs.size + 3 ∨ c = s2.heap.objs.size ∨ c = s2.heap.objs.size + 1 := by simpa using hcm
      have hle : s2.heap.objs.size ≤ c := by
        rcases e' with z | z | z | z | z <;> rw [z] <;> first | exact Nat.le_add_right _ _ | exact Nat.le_refl _
      exact I2.fpOk hle (I2.hok.fresh hle)
end Tp
/-! part XG -/
set_option Elab.async false
set_option linter.all false
set_option maxRecDepth 100000
set_option maxHeartbeats 4000000
/-! own layer, part G: a dict comprehension with two for -/
namespace Tp
open PySem PySem.Spec PyProof.Rows L2
theorem turn2d_out (kx vx t0 i0 t1 i1 : Expr) (ifs0 ifs1 : List Expr) (scope : Scope) (pos : Pos) (it acc : Value) (env : Env) :
    compTurn (.DictComp kx vx [⟨t0, i0, ifs0, 0⟩, ⟨t1, i1, ifs1, 0⟩] scope pos) 0 it acc env = (do
      standAt i0.pos
      match ← pyNext it with
      | none => pure (.done .next)
      | some v =>
        letOwnedTupleGo t0 it v
        assign t0 env v
        let mut ok := true
        for c in ifs0 do
          if ok then ok ← isTrue c env (eval c env)
        if ok then
          let x ← eval i1 env
          standAt i1.pos
          let x ← foldedSetIterable i1 env x
          let _ ← runOwn (.compStart (.DictComp kx vx [⟨t0, i0, ifs0, 0⟩, ⟨t1, i1, ifs1, 0⟩] scope pos) 1 (← holding [x] (pyIter x)) acc env) env
        again (.compLoop (.DictComp kx vx [⟨t0, i0, ifs0, 0⟩, ⟨t1, i1, ifs1, 0⟩] scope pos) 0 it acc env)) := by rfl
theorem turn2d_in (kx vx t0 i0 t1 i1 : Expr) (ifs0 ifs1 : List Expr) (scope : Scope) (pos : Pos) (it : Value) (D : Addr) (env : Env) :
    compTurn (.DictComp kx vx [⟨t0, i0, ifs0, 0⟩, ⟨t1, i1, ifs1, 0⟩] scope pos) 1 it (.ref D) env = (do
      standAt i1.pos
      match ← pyNext it with
      | none => pure (.done .next)
      | some v =>
        letOwnedTupleGo t1 it v
        assign t1 env v
        let mut ok := true
        for c in ifs1 do
          if ok then ok ← isTrue c env (eval c env)
        if ok then
          (do
            let k ← eval kx env
            let v ← holding [k] (eval vx env)
            standAt { kx.pos with endLine := vx.pos.endLine, endCol := vx.pos.endCol }
            holding [k, v] (dictSet D k v))
        again (.compLoop (.DictComp kx vx [⟨t0, i0, ifs0, 0⟩, ⟨t1, i1, ifs1, 0⟩] scope pos) 1 it (.ref D) env)) := by rfl

section
variable {prog : Program} {w : World} {A : Around} {R : Result → Shared → Prop} {s : Shared} {kx vx t0 i0 t1 i1 : Expr} {ifs0 ifs1 : List Expr} {scope : Scope} {pos : Pos} {it acc : Value} {env : Env}
/-- the loop of the first clause -/
theorem loop2d_out (hs : ∀ x, foldedSetIterable i1 env x = pure x) (I : Nat → Shared → Prop)
    (turn : ∀ n s, I n s → wpAny (model prog w) A (pyNext it) (fun r s₁ => match r with
      | none => R (.ok .next) s₁
      | some v => wpAny (model prog w) A (letOwnedTupleGo t0 it v) (fun _ s₁' => wpAny (model prog w) A (assign t0 env v) (fun _ s₂ =>
          wpAny (model prog w) A (forIn ifs0 true fun c r => if r = true then do let ok ← isTrue c env (eval c env); pure (ForInStep.yield ok) else pure (ForInStep.yield r)) (fun ok s₃ =>
            if ok = true then wpAny (model prog w) A (eval i1 env) (fun x s₄ => wpAny (model prog w) A (pyIter x) (fun it1 s₅ =>
              codeAny (model prog w) A (.compStart (.DictComp kx vx [⟨t0, i0, ifs0, 0⟩, ⟨t1, i1, ifs1, 0⟩] scope pos) 1 it1 acc env) (fun r s' => match r with
                | .ok _ => ∃ m, m < n ∧ I m s'
                | .error _ => False) s₅) (notedBy (model prog w) A env fun e s' => R (.error e) s') s₄) (notedBy (model prog w) A env fun e s' => R (.error e) s') s₃
            else ∃ m, m < n ∧ I m s₃) (notedBy (model prog w) A env fun e s' => R (.error e) s') s₂) (notedBy (model prog w) A env fun e s' => R (.error e) s') s₁') (notedBy (model prog w) A env fun e s' => R (.error e) s') s₁) (notedBy (model prog w) A env fun e s' => R (.error e) s') s)
    (n : Nat) (h : I n s) :
    codeAny (model prog w) A (.compLoop (.DictComp kx vx [⟨t0, i0, ifs0, 0⟩, ⟨t1, i1, ifs1, 0⟩] scope pos) 0 it acc env) R s := by
  refine codeAny_loop rfl I (fun n s hI => ?_) n h
  show wpAny _ A ((compTurn (.DictComp kx vx [⟨t0, i0, ifs0, 0⟩, ⟨t1, i1, ifs1, 0⟩] scope pos) 0 it acc env).onRaise (fun x => do noteFrame x env; theTreesLotGoes x)) _ _ s
  refine wpAny_noted ?_
  rw [turn2d_out]
  refine wpAny_bind (wpAny_standAt (wpAny_bind (wpAny_mono (turn n s hI) (fun r s₁ h₁ => ?_) fun _ _ h' => h')))
  cases r with
  | none => exact wpAny_pure h₁
  | some v =>
    refine wpAny_bind (wpAny_mono h₁ (fun _ s₁' h₁' => ?_) fun _ _ h' => h')
    refine wpAny_bind (wpAny_mono h₁' (fun _ s₂ h₂ => wpAny_bind (wpAny_mono h₂ (fun ok s₃ h₃ => ?_) fun _ _ h' => h')) fun _ _ h' => h')
    cases ok with
    | false => exact wpAny_pure ⟨rfl, h₃⟩
    | true =>
      refine wpAny_bind (wpAny_mono h₃ (fun x s₄ h₄ => ?_) fun _ _ h' => h')
      refine wpAny_bind (wpAny_standAt (wpAny_bind (wpAny_of_eq (hs x) (wpAny_bind (wpAny_holding (wpAny_mono h₄ (fun it1 s₅ h₅ => ?_) fun _ _ h' => h'))))))
      refine wpAny_bind (wpAny_runOwn ?_)
      rw [Around.mark_none]
      refine codeAny_mono h₅ fun r s' hr => ?_
      cases r with
      | ok f =>
        first
          | exact wpAny_pure ⟨rfl, hr⟩
          | exact wpAny_bind (wpAny_pure (wpAny_pure ⟨rfl, hr⟩))
      | error e => exact hr.elim
/-- the loop of the second -/
theorem loop2d_in {D : Addr} (I : Nat → Shared → Prop)
    (turn : ∀ n s, I n s → wpAny (model prog w) A (pyNext it) (fun r s₁ => match r with
      | none => R (.ok .next) s₁
      | some v => wpAny (model prog w) A (letOwnedTupleGo t1 it v) (fun _ s₁' => wpAny (model prog w) A (assign t1 env v) (fun _ s₂ =>
          wpAny (model prog w) A (forIn ifs1 true fun c r => if r = true then do let ok ← isTrue c env (eval c env); pure (ForInStep.yield ok) else pure (ForInStep.yield r)) (fun ok s₃ =>
            if ok = true then wpAny (model prog w) A (eval kx env) (fun kv s₄ => wpAny (model prog w) A (eval vx env) (fun vv s₅ =>
              wpAny (model prog w) A (dictSet D kv vv) (fun _ s₆ => ∃ m, m < n ∧ I m s₆) (notedBy (model prog w) A env fun e s' => R (.error e) s') s₅) (notedBy (model prog w) A env fun e s' => R (.error e) s') s₄) (notedBy (model prog w) A env fun e s' => R (.error e) s') s₃
            else ∃ m, m < n ∧ I m s₃) (notedBy (model prog w) A env fun e s' => R (.error e) s') s₂) (notedBy (model prog w) A env fun e s' => R (.error e) s') s₁') (notedBy (model prog w) A env fun e s' => R (.error e) s') s₁) (notedBy (model prog w) A env fun e s' => R (.error e) s') s)
    (n : Nat) (h : I n s) :
    codeAny (model prog w) A (.compLoop (.DictComp kx vx [⟨t0, i0, ifs0, 0⟩, ⟨t1, i1, ifs1, 0⟩] scope pos) 1 it (.ref D) env) R s := by
  refine codeAny_loop rfl I (fun n s hI => ?_) n h
  show wpAny _ A ((compTurn (.DictComp kx vx [⟨t0, i0, ifs0, 0⟩, ⟨t1, i1, ifs1, 0⟩] scope pos) 1 it (.ref D) env).onRaise (fun x => do noteFrame x env; theTreesLotGoes x)) _ _ s
  refine wpAny_noted ?_
  rw [turn2d_in]
  refine wpAny_bind (wpAny_standAt (wpAny_bind (wpAny_mono (turn n s hI) (fun r s₁ h₁ => ?_) fun _ _ h' => h')))
  cases r with
  | none => exact wpAny_pure h₁
  | some v =>
    refine wpAny_bind (wpAny_mono h₁ (fun _ s₁' h₁' => ?_) fun _ _ h' => h')
    refine wpAny_bind (wpAny_mono h₁' (fun _ s₂ h₂ => wpAny_bind (wpAny_mono h₂ (fun ok s₃ h₃ => ?_) fun _ _ h' => h')) fun _ _ h' => h')
    cases ok with
    | false => exact wpAny_pure ⟨rfl, h₃⟩
    | true =>
      exact wpAny_bind (wpAny_bind (wpAny_mono h₃ (fun kv s₄ h₄ => wpAny_bind (wpAny_holding (wpAny_mono h₄ (fun vv s₅ h₅ => wpAny_bind (wpAny_standAt (wpAny_holding (wpAny_mono h₅ (fun _ s₆ h₆ => wpAny_pure ⟨rfl, h₆⟩) fun _ _ h' => h')))) fun _ _ h' => h'))) fun _ _ h' => h'))
/-- the second clause's start -/
theorem start1d_ok (h0 : codeAny (model prog w) A (.compLoop (.DictComp kx vx [⟨t0, i0, ifs0, 0⟩, ⟨t1, i1, ifs1, 0⟩] scope pos) 1 it acc env) R s)
    (h : wpAny (model prog w) A (pyIter it) (fun it' s' => codeAny (model prog w) A (.compLoop (.DictComp kx vx [⟨t0, i0, ifs0, 0⟩, ⟨t1, i1, ifs1, 0⟩] scope pos) 1 it' acc env) R s')
      (notedBy (model prog w) A env fun x s' => R (.error x) s') s) :
    codeAny (model prog w) A (.compStart (.DictComp kx vx [⟨t0, i0, ifs0, 0⟩, ⟨t1, i1, ifs1, 0⟩] scope pos) 1 it acc env) R s := by
  refine codeAny_of_tree ?_
  show wpAny _ _ ((compStart (.DictComp kx vx [⟨t0, i0, ifs0, 0⟩, ⟨t1, i1, ifs1, 0⟩] scope pos) 1 it acc env).onRaise (fun x => do noteFrame x env; standAt theWindowsPlace)) _ _ s
  refine wpAny_notedAt ?_
  unfold compStart
  show wpAny _ _ (ask >>= _) _ _ s
  refine wpAny_bind (wpAny_askSetting (wpAny_ite ?_))
  split
  · first
      | exact wpAny_bind (wpAny_pure (wpAny_pure (And.intro rfl h0)))
      | exact wpAny_pure (And.intro rfl h0)
  · first
      | exact wpAny_bind (wpAny_rule (wpAny_bind (wpAny_standAt (wpAny_bind (wpAny_mono h (fun it' s' h' => wpAny_pure (And.intro rfl h')) fun _ _ x => x)))))
      | (refine wpAny_bind (wpAny_rule ?_); show wpAny _ _ (standAt i1.pos >>= _) _ _ s; exact wpAny_bind (wpAny_standAt (wpAny_bind (wpAny_mono h (fun it' s' h' => wpAny_pure (And.intro rfl h')) fun _ _ x => x))))
end

section
variable {X : Cx}
/-- [elt for tg in iter if .. for tg1 in iter1 if ..]: behind the first clause's store and tests the second source's own loop, from which Nx is reached. vs: the block's names; vs1: those of the second target -/
def tDc2 (wi : TI) (g : TG) (tt : TT) (wi1 : TI) (g1 : TG) (tt1 : TT) (tk tv : TE) (vs vs1 : List Nat) : TE := fun σ H Q => wi σ H fun J H1 => ∀ D, H1 D = none → ∃ W : Nat → Nat → Hp → Prop, (∃ m, W 0 m (upd H1 D (.dK []))) ∧ ∀ i m H, W i m H →
  (J.stop i H ∧ Q (.ref D) H) ∨ (J.go i H ∧ ∃ Nx : Hp → Prop, (∀ H', Nx H' → ∃ m', m' < m ∧ W (i + 1) m' H') ∧ ∀ x H', J.yld i H x H' → g x (wipe σ vs) H' fun σ2 H2 => wipe σ2 vs = wipe σ vs ∧ tt σ2 H2 fun b H3 =>
    if b = true then wi1 σ2 H3 fun J1 H4 => ∃ W1 : Nat → Nat → Hp → Prop, (∃ m, W1 0 m H4) ∧ ∀ j k H, W1 j k H →
      (J1.stop j H ∧ Nx H) ∨ (J1.go j H ∧ ∃ Nx1 : Hp → Prop, (∀ H', Nx1 H' → ∃ k', k' < k ∧ W1 (j + 1) k' H') ∧ ∀ x H', J1.yld j H x H' → g1 x (wipe σ2 vs1) H' fun σ3 H5 => wipe σ3 vs1 = wipe σ2 vs1 ∧ tt1 σ3 H5 fun b H6 =>
        if b = true then tk σ3 H6 fun y H7 => tv σ3 H7 fun z H8 => ∃ kvs k, y = kV k ∧ H8 D = some (.dK kvs) ∧ kvs.length < sizeLine ∧ Nx1 (upd H8 D (.dK (putK kvs k z))) else Nx1 H6)
    else Nx H3)
theorem dc2_core {pins : List (Addr × Obj)} {s : Shared} {σ : L2.St} {H : Hp} {Q : VK} {kx vx tg iter tg1 iter1 : Expr} {ifs ifs1 : List Expr} {scope : Scope} {own : List (Str × Nat)} {vs1 : List Nat} {pos pos' : Pos} {wi wi1 : TI} {g g1 : TG} {tt tt1 : TT} {tk tv : TE} {use : Option (Value → Sem Unit)} {Qf : Value → Shared → Prop}
    (hc : X.calm = true) (hN : X.N.Nodup) (I : Inv X pins σ H s) (hi : PI X tg iter wi) (ok : BlkOk X.N X.env.scope scope own) (hv : ∀ i ∈ vs1, i ∈ own.map (·.2))
    (hg : ∀ (s : Shared) (H : Hp) (C : Addr) (cl : List (Str × Addr)) (fp : List Addr), PG (X.blk s H scope (compEnvC scope cl C X.env) fp) tg g) (ht : ∀ (s : Shared) (H : Hp) (C : Addr) (cl : List (Str × Addr)) (fp : List Addr), PTs (X.blk s H scope (compEnvC scope cl C X.env) fp) ifs tt)
    (hk : ∀ (s : Shared) (H : Hp) (C : Addr) (cl : List (Str × Addr)) (fp : List Addr), PE (X.blk s H scope (compEnvC scope cl C X.env) fp) kx tk) (he : ∀ (s : Shared) (H : Hp) (C : Addr) (cl : List (Str × Addr)) (fp : List Addr), PE (X.blk s H scope (compEnvC scope cl C X.env) fp) vx tv) (hs : ∀ x, foldedSetIterable iter X.env x = pure x)
    (hi1 : ∀ (s : Shared) (H : Hp) (C : Addr) (cl : List (Str × Addr)) (fp : List Addr), PI (X.blk s H scope (compEnvC scope cl C X.env) fp) tg1 iter1 wi1)
    (hg1 : ∀ (s : Shared) (H : Hp) (C : Addr) (cl : List (Str × Addr)) (fp : List Addr), PG (X.blk s H scope (compEnvC scope cl C X.env) fp) tg1 g1)
    (ht1 : ∀ (s : Shared) (H : Hp) (C : Addr) (cl : List (Str × Addr)) (fp : List Addr), PTs (X.blk s H scope (compEnvC scope cl C X.env) fp) ifs1 tt1)
    (hs1 : ∀ env x, foldedSetIterable iter1 env x = pure x)
    (h : tDc2 wi g tt wi1 g1 tt1 tk tv (own.map (·.2)) vs1 σ H Q)
    (hRR : ∀ D C s' m H', Inv X pins σ H' s' → Q (.ref D) H' → s'.heap.Ns C m → FpOk X pins H' C → compPost (model X.prog X.w) X.A X.xe use Qf (.ref D) C (.ok .next) s') :
    wpAny (model X.prog X.w) X.A (comprehension (.DictComp kx vx [⟨tg, iter, ifs, 0⟩, ⟨tg1, iter1, ifs1, 0⟩] scope pos) scope X.env pos' newDict false (eval iter X.env) use) Qf X.xe s := by
  have hfree : ∀ y ∈ scope.names, y.2 = .free → ∃ c, X.env.cells.lookup y.1 = some c := fun y hy e => by
    rcases ok.free y hy e with k | k
    · exact I.ok.has _ (.inl k)
    · exact I.ok.has _ (.inr k)
  refine wpAny_comprehension_free (use := use) rfl hs (closure_ok hfree) ok.kind (fun y hy e => by rw [ok.uniq y hy, e])
    (thn (hi.run pins s σ H _ I h) fun xv s1 hx => thn hx fun itv s2 h2 => ?_)
  obtain ⟨it, fp, tn, J, H2, e, I2, T, st2, f2, q⟩ := h2
  subst e
  refine wpAny_newObj_type (newEnv_comp ?_)
  generalize hD : s2.heap.objs.size = D
  have hDn : H2 D = none := I2.hok.fresh (Nat.le_of_eq hD)
  obtain ⟨W, ⟨m0, w0⟩, turn⟩ := q D hDn
  -- the new list
  generalize hs3 : ({ s2 with heap := s2.heap.push { cls := .type "dict", data := .dict #[] } } : Shared) = s3
  have I3 : Inv X pins σ (upd H2 D (.dK [])) s3 := by
    rw [← hs3]
    refine I2.laid (t' := s2.toks) (fun b o e => Heap.get?_push_of_some _ e) (Nat.le_of_eq hD) ?_
    rw [← hD]
    exact dk_empty s2.heap I2.big
  have h3 : s3.heap = s2.heap.push { cls := .type "dict", data := .dict #[] } := by rw [← hs3]
  have sz : ∀ b ∈ fp, b < s2.heap.objs.size := fun b hb => by
    obtain ⟨o, e, _⟩ := T.obj _ _ st2 b hb
    exact Heap.lt_size e
  have f3 : ∀ b ∈ fp, FpOk X pins (upd H2 D (.dK [])) b ∧ b < s3.heap.objs.size := fun b hb => by
    have hlt := sz b hb
    refine ⟨⟨?_, (f2 b hb).2⟩, by rw [h3, Heap.size_push]; exact Nat.lt_succ_of_lt hlt⟩
    rw [upd_ne (by rw [← hD]; exact Nat.ne_of_lt hlt)]
    exact (f2 b hb).1
  have st3 : tn 0 s3.heap := T.keep _ _ _ st2 fun b _ o e => by rw [h3]; exact Heap.get?_push_of_some _ e
  have I4 := block_start I3 ok hN f3
  have pg := hg s3 (upd H2 D (.dK [])) s3.heap.objs.size (cellsFrom (s3.heap.objs.size + 1) scope.names (cloFrom X.env.cells scope.names [])) fp
  have pt := ht s3 (upd H2 D (.dK [])) s3.heap.objs.size (cellsFrom (s3.heap.objs.size + 1) scope.names (cloFrom X.env.cells scope.names [])) fp
  have pk := hk s3 (upd H2 D (.dK [])) s3.heap.objs.size (cellsFrom (s3.heap.objs.size + 1) scope.names (cloFrom X.env.cells scope.names [])) fp
  have pe := he s3 (upd H2 D (.dK [])) s3.heap.objs.size (cellsFrom (s3.heap.objs.size + 1) scope.names (cloFrom X.env.cells scope.names [])) fp
  have pi1 := hi1 s3 (upd H2 D (.dK [])) s3.heap.objs.size (cellsFrom (s3.heap.objs.size + 1) scope.names (cloFrom X.env.cells scope.names [])) fp
  have pg1 := hg1 s3 (upd H2 D (.dK [])) s3.heap.objs.size (cellsFrom (s3.heap.objs.size + 1) scope.names (cloFrom X.env.cells scope.names [])) fp
  have pt1 := ht1 s3 (upd H2 D (.dK [])) s3.heap.objs.size (cellsFrom (s3.heap.objs.size + 1) scope.names (cloFrom X.env.cells scope.names [])) fp
  show codeAny _ _ (.compStart (.DictComp kx vx [⟨tg, iter, ifs, 0⟩, ⟨tg1, iter1, ifs1, 0⟩] scope pos) 0 (.ref it) (.ref D) (compEnvC scope (cellsFrom (s3.heap.objs.size + 1) scope.names (cloFrom X.env.cells scope.names [])) s3.heap.objs.size X.env)) (compPost (model X.prog X.w) X.A X.xe use Qf (.ref D) s3.heap.objs.size) { s3 with heap := pushCells (s3.heap.push { cls := .type "dict", data := .dict #[] }) scope.names }
  have nfp : ∀ b ∈ fp, (upd H2 D (.dK [])) b = none := fun b hb => (f3 b hb).1.1
  generalize hce : compEnvC scope (cellsFrom (s3.heap.objs.size + 1) scope.names (cloFrom X.env.cells scope.names [])) s3.heap.objs.size X.env = ce at I4 pg pt pk pe pi1 pg1 pt1 ⊢
  have cL : ce.locals = s3.heap.objs.size := by subst hce; rfl
  generalize hH3 : upd H2 D (.dK []) = H3 at I3 I4 pg pt pk pe pi1 pg1 pt1 w0 nfp f3
  generalize hs4 : ({ s3 with heap := pushCells (s3.heap.push { cls := .type "dict", data := .dict #[] }) scope.names } : Shared) = s4 at I4 ⊢
  have st4 : tn 0 s4.heap := T.keep _ _ _ st3 fun b _ o e => by rw [← hs4]; exact pushCells_keeps _ _ _ _ (Heap.get?_push_of_some _ e)
  have stat : ∀ {σ' : L2.St} {H' : Hp} {s' : Shared}, Inv (X.blk s3 H3 scope ce fp) [] σ' H' s' → (∀ b ∈ fp, H' b = none) → ∀ b ∈ fp, FpOk (X.blk s3 H3 scope ce fp) [] H' b := fun {σ' H' s'} I' hn b hb =>
    ⟨hn b hb, (I'.ok.exf b hb).1, I'.ok.exfs b hb, .inl hb, fun x c e => (I'.ok.exf b hb).2 x c e, fun p hp => absurd (show p ∈ ([] : List (Addr × Obj)) ++ [] from hp) (by simp)⟩
  have loop : codeAny (model X.prog X.w) X.A (.compLoop (.DictComp kx vx [⟨tg, iter, ifs, 0⟩, ⟨tg1, iter1, ifs1, 0⟩] scope pos) 0 (.ref it) (.ref D) ce) (compPost (model X.prog X.w) X.A X.xe use Qf (.ref D) s3.heap.objs.size) s4 := by
    refine loop2d_out (hs1 ce) (fun n s' => ∃ i H', Inv (X.blk s3 H3 scope ce fp) [] (wipe σ (own.map (·.2))) H' s' ∧ tn i s'.heap ∧ (∀ b ∈ fp, H' b = none) ∧ W i n H') ?_ m0 ⟨0, H3, I4, st4, nfp, w0⟩
    rintro n s5 ⟨i, H5, I5, st5, n5, w5⟩
    rcases turn i n H5 w5 with ⟨stop, qq⟩ | ⟨go, Nx, hNx, step⟩
    · have td := T.done (X.blk s3 H3 scope ce fp) rfl rfl rfl hc i [] s5 _ H5 (fun _ _ => False) I5 (stat I5 n5) st5 stop
      refine thnF td fun r s6 ⟨hr, I6⟩ => ?_
      subst hr
      -- back in the def's context
      have I7 : Inv X pins σ H5 s6 := I3.call' (ch := fp) I6.os I6.base I6.hok I6.bare fun b hb => ⟨(f3 b hb).1.2.2.2.1, (f3 b hb).1.2.1, (f3 b hb).1.2.2.2.2.1, (f3 b hb).1.2.2.2.2.2⟩
      have nC : H5 s3.heap.objs.size = none := by
        have z : H5 ce.locals = none := I6.free
        rw [cL] at z
        exact z
      obtain ⟨m, hn, _⟩ := I6.loc
      have hn : s6.heap.Ns ce.locals m := hn
      rw [cL] at hn
      exact hRR D s3.heap.objs.size s6 m H5 I7 qq hn (I3.fpOk (Nat.le_refl _) nC)
    · have ti := T.item (X.blk s3 H3 scope ce fp) rfl rfl rfl hc i [] s5 _ H5 (fun _ _ => False) I5 (stat I5 n5) st5 go
      refine thnF ti fun r s6 ⟨u, hr, h6⟩ => ?_
      subst hr
      refine thnF h6 fun _ s7 ⟨x, H7, I7, r7, y7, st7, n7⟩ => ?_
      have I7' := I7.pinned (stat I7 n7) (T.obj _ _ st7)
      refine thnF (pg.run _ s7 _ H7 x u _ I7' r7 (step x H7 y7)) fun _ s8 ⟨σ8, H8, I8, hw8, q8⟩ => ?_
      refine thnF (pt.run _ s8 σ8 H8 _ I8 q8) fun b s9 ⟨H9, I9, q9⟩ => ?_
      -- the turn's end, from any slots that know what the block knew at its start
      have fin : ∀ {σ9 : L2.St} {s' : Shared} {H' : Hp}, Inv (X.blk s3 H3 scope ce fp) ([] ++ pinsAt fp s7.heap) σ9 H' s' → (wipe σ (own.map (·.2))).length = σ9.length → (∀ (j : Nat) v, (wipe σ (own.map (·.2)))[j]? = some (some v) → σ9[j]? = some (some v)) → Nx H' →
          ∃ m, m < n ∧ ∃ i H', Inv (X.blk s3 H3 scope ce fp) [] (wipe σ (own.map (·.2))) H' s' ∧ tn i s'.heap ∧ (∀ b ∈ fp, H' b = none) ∧ W i m H' := fun {σ9 s' H'} I' hl hk nx => by
        obtain ⟨m', hm, w'⟩ := hNx H' nx
        have pin' : ∀ b ∈ fp, ∀ o, s7.heap.get? b = some o → s'.heap.get? b = some o ∧ H' b = none := fun b hb o e =>
          let z := I'.pin (b, o) (List.mem_append_right _ (List.mem_append_right _ (mem_pinsAt hb e)))
          ⟨z.1, z.2.1⟩
        refine ⟨m', hm, i + 1, H', (I'.unpinned (pins := [])).weak hl hk, T.keep _ _ _ st7 fun b hb o e => (pin' b hb o e).1, fun b hb => ?_, w'⟩
        obtain ⟨o, e, _⟩ := T.obj _ _ st7 b hb
        exact (pin' b hb o e).2
      have hl8 : (wipe σ (own.map (·.2))).length = σ8.length := by rw [← hw8, wipe_length]
      have hk8 : ∀ (j : Nat) v, (wipe σ (own.map (·.2)))[j]? = some (some v) → σ8[j]? = some (some v) := fun j v e => by
        rw [← hw8] at e
        exact (wipe_some e).1
      have hk9 : ∀ (j : Nat) v, (wipe σ (own.map (·.2)))[j]? = some (some v) → (wipe σ8 vs1)[j]? = some (some v) := fun j v e => by
        rw [← hw8] at e
        obtain ⟨e1, e2⟩ := wipe_some e
        rw [wipe_out fun z => e2 (hv j z)]
        exact e1
      cases b with
      | false =>
        simp only [Bool.false_eq_true, if_false] at q9 ⊢
        exact fin I9 hl8 hk8 q9
      | true =>
        simp only [if_true] at q9 ⊢
        refine thnF (pi1.run _ s9 σ8 H9 _ I9 q9) fun xv s10 hx => thnF hx fun itv s11 h11 => ?_
        obtain ⟨it1, fp1, tn1, J1, H11, e1, I11, T1, st11, f11, W1, ⟨m1, w1⟩, turn1⟩ := h11
        subst e1
        -- the inner loop
        have stat1 : ∀ {H' : Hp}, (∀ b ∈ fp1, H' b = none) → ∀ b ∈ fp1, FpOk (X.blk s3 H3 scope ce fp) ([] ++ pinsAt fp s7.heap) H' b := fun hn b hb => ⟨hn b hb, (f11 b hb).2⟩
        have loop1 : codeAny (model X.prog X.w) X.A (.compLoop (.DictComp kx vx [⟨tg, iter, ifs, 0⟩, ⟨tg1, iter1, ifs1, 0⟩] scope pos) 1 (.ref it1) (.ref D) ce)
            (fun r s' => match r with
              | .ok _ => ∃ m, m < n ∧ ∃ i H', Inv (X.blk s3 H3 scope ce fp) [] (wipe σ (own.map (·.2))) H' s' ∧ tn i s'.heap ∧ (∀ b ∈ fp, H' b = none) ∧ W i m H'
              | .error _ => False) s11 := by
          refine loop2d_in (fun k s' => ∃ j H', Inv (X.blk s3 H3 scope ce fp) ([] ++ pinsAt fp s7.heap) (wipe σ8 vs1) H' s' ∧ tn1 j s'.heap ∧ (∀ b ∈ fp1, H' b = none) ∧ W1 j k H') ?_ m1 ⟨0, H11, I11.weak (wipe_length _ _) (fun j v e => (wipe_some e).1), st11, fun b hb => (f11 b hb).1, w1⟩
          rintro k s12 ⟨j, H12, I12, st12, n12, w12⟩
          rcases turn1 j k H12 w12 with ⟨stop1, nx1⟩ | ⟨go1, Nx1, hNx1, step1⟩
          · refine thnF (T1.done (X.blk s3 H3 scope ce fp) rfl rfl rfl hc j _ s12 (wipe σ8 vs1) H12 (fun _ _ => False) I12 (stat1 n12) st12 stop1) fun r s13 ⟨hr, I13⟩ => ?_
            subst hr
            exact fin I13 (hl8.trans (wipe_length σ8 vs1).symm) hk9 nx1
          · refine thnF (T1.item (X.blk s3 H3 scope ce fp) rfl rfl rfl hc j _ s12 (wipe σ8 vs1) H12 (fun _ _ => False) I12 (stat1 n12) st12 go1) fun r s13 ⟨u1, hr, h13⟩ => ?_
            subst hr
            refine thnF h13 fun _ s14 ⟨x1, H14, I14, r14, y14, st14, n14⟩ => ?_
            have I14' := I14.pinned (stat1 n14) (T1.obj _ _ st14)
            refine thnF (pg1.run _ s14 (wipe σ8 vs1) H14 x1 u1 _ I14' r14 (step1 x1 H14 y14)) fun _ s15 ⟨σ15, H15, I15, hw15, q15⟩ => ?_
            refine thnF (pt1.run _ s15 σ15 H15 _ I15 q15) fun b1 s16 ⟨H16, I16, q16⟩ => ?_
            have fin1 : ∀ {s' : Shared} {H' : Hp}, Inv (X.blk s3 H3 scope ce fp) (([] ++ pinsAt fp s7.heap) ++ pinsAt fp1 s14.heap) σ15 H' s' → Nx1 H' → ∃ m, m < k ∧ ∃ j H', Inv (X.blk s3 H3 scope ce fp) ([] ++ pinsAt fp s7.heap) (wipe σ8 vs1) H' s' ∧ tn1 j s'.heap ∧ (∀ b ∈ fp1, H' b = none) ∧ W1 j m H' := fun {s' H'} I' nx => by
              obtain ⟨m', hm, w'⟩ := hNx1 H' nx
              have pin' : ∀ b ∈ fp1, ∀ o, s14.heap.get? b = some o → s'.heap.get? b = some o ∧ H' b = none := fun b hb o e =>
                let z := I'.pin (b, o) (List.mem_append_right _ (List.mem_append_right _ (mem_pinsAt hb e)))
                ⟨z.1, z.2.1⟩
              refine ⟨m', hm, j + 1, H', I'.unpinned.weak (by rw [← hw15, wipe_length]) (fun j v e => by rw [← hw15] at e; exact (wipe_some e).1), T1.keep _ _ _ st14 fun b hb o e => (pin' b hb o e).1, fun b hb => ?_, w'⟩
              obtain ⟨o, e, _⟩ := T1.obj _ _ st14 b hb
              exact (pin' b hb o e).2
            cases b1 with
            | false =>
              simp only [Bool.false_eq_true, if_false] at q16 ⊢
              exact fin1 I16 q16
            | true =>
              simp only [if_true] at q16 ⊢
              refine thnF (pk.run _ s16 σ15 H16 _ I16 q16) fun z s17 ⟨yk, H17, I17, r17, q17⟩ => ?_
              refine thnF (pe.run _ s17 σ15 H17 _ I17 q17) fun z2 s18 ⟨yv, H18, I18, r18, kvs, k0, ek, hD18, hz18, nx⟩ => ?_
              subst ek
              exact d_dictSet (X := X.blk s3 H3 scope ce fp) I18 hD18 hz18 r17 r18 fun s19 I19 => fin1 I19 nx
        exact start1d_ok loop1 (T1.self X.A 0 _ _ _ st11 loop1)
  exact codeAny_compStart_dict loop (T.self X.A 0 _ _ _ st4 loop)
/-- as a value -/
theorem pe_dc2 {kx vx tg iter tg1 iter1 : Expr} {ifs ifs1 : List Expr} {scope : Scope} {own : List (Str × Nat)} {vs1 : List Nat} {pos : Pos} {wi wi1 : TI} {g g1 : TG} {tt tt1 : TT} {tk tv : TE} (hc : X.calm = true) (hN : X.N.Nodup) (hi : PI X tg iter wi) (ok : BlkOk X.N X.env.scope scope own) (hv : ∀ i ∈ vs1, i ∈ own.map (·.2))
    (hg : ∀ (s : Shared) (H : Hp) (C : Addr) (cl : List (Str × Addr)) (fp : List Addr), PG (X.blk s H scope (compEnvC scope cl C X.env) fp) tg g) (ht : ∀ (s : Shared) (H : Hp) (C : Addr) (cl : List (Str × Addr)) (fp : List Addr), PTs (X.blk s H scope (compEnvC scope cl C X.env) fp) ifs tt)
    (hi1 : ∀ (s : Shared) (H : Hp) (C : Addr) (cl : List (Str × Addr)) (fp : List Addr), PI (X.blk s H scope (compEnvC scope cl C X.env) fp) tg1 iter1 wi1)
    (hg1 : ∀ (s : Shared) (H : Hp) (C : Addr) (cl : List (Str × Addr)) (fp : List Addr), PG (X.blk s H scope (compEnvC scope cl C X.env) fp) tg1 g1) (ht1 : ∀ (s : Shared) (H : Hp) (C : Addr) (cl : List (Str × Addr)) (fp : List Addr), PTs (X.blk s H scope (compEnvC scope cl C X.env) fp) ifs1 tt1)
    (hk : ∀ (s : Shared) (H : Hp) (C : Addr) (cl : List (Str × Addr)) (fp : List Addr), PE (X.blk s H scope (compEnvC scope cl C X.env) fp) kx tk) (he : ∀ (s : Shared) (H : Hp) (C : Addr) (cl : List (Str × Addr)) (fp : List Addr), PE (X.blk s H scope (compEnvC scope cl C X.env) fp) vx tv) (hs : ∀ x, foldedSetIterable iter X.env x = pure x := by intro _; rfl) (hs1 : ∀ env x, foldedSetIterable iter1 env x = pure x := by intro _ _; rfl) :
    PE X (.DictComp kx vx [⟨tg, iter, ifs, 0⟩, ⟨tg1, iter1, ifs1, 0⟩] scope pos) (tDc2 wi g tt wi1 g1 tt1 tk tv (own.map (·.2)) vs1) := by
  refine ⟨fun pins s σ H Q I h => ?_⟩
  rw [arm_eval_DictComp]
  show wpAny _ X.A (comprehension (.DictComp kx vx [⟨tg, iter, ifs, 0⟩, ⟨tg1, iter1, ifs1, 0⟩] scope pos) scope X.env (firstIterPos [⟨tg, iter, ifs, 0⟩, ⟨tg1, iter1, ifs1, 0⟩] pos) newDict false (eval iter X.env)) _ _ s
  refine dc2_core hc hN I hi ok hv hg ht hk he hs hi1 hg1 ht1 hs1 h fun D C s' m H' I' q hn f => ⟨m, hn, fun h'' sb => ?_⟩
  obtain ⟨f0, f1, f2, f3, f4, f5⟩ := f
  exact ⟨.ref D, H', I'.turned (t' := s'.toks) (fun b o hb e => (sb.2 b hb).trans e) f0 f1 f3 f4 f5, rfl, q⟩
end
end Tp
/-! part XH -/
set_option Elab.async false
set_option linter.all false
set_option maxRecDepth 100000
set_option maxHeartbeats 4000000
/-! own layer, part H: raise of an own exception whose __init__ says super().__init__('..'); self.f = x -/
namespace Tp
open PySem PySem.Spec PyProof.Rows PySem.Calls PySem.W
/-- what the written part says of such a class -/
structure SupC (prog : Program) (K : Frag) (C fI cc cda : Addr) (B i newId : String) (bmB : List Value) (f : Str) : Prop where
  xi : excInitIn K C bmB newId = true
  xo : excOver K C bmB = true
  sB : subIn K (.ref C) (.type B) = some true
  sC : mroIn K C (.ref C) = some true
  iC : findIn K (.ref C) "__init__" = some (some (.ref fI))
  iF : isFn K (.ref fI) = true
  no : findIn K (.ref C) f = some none
  sa : findIn K (.ref C) "__setattr__" = some (some (.builtin "object.__setattr__"))
  hd : hasDictIn K C = true
  su : ks_superIn K C C "__init__" = some (some (.builtin i))
  thd : nsIn K cStatics "thirdparty.any" = some none
  cell : ∃ cl cld csl, K.lookup cc = some ⟨cl, cld, .cell (some (.ref C)), csl⟩
  code : ∃ ccl cdd vs ccs file tf, K.lookup cda = some ⟨ccl, cdd, .fields vs, ccs⟩ ∧ vs[2]? = some (.str file tf) ∧ ((prog.main.file : Str) == file) = true
  ex : subIn K (.ref C) (.type "BaseException") = some true
  ty : typeIn K (.ref C) = some (.type "type")
  kp : keepIn K (.ref C) = true
section
variable {prog : Program} {w : World} {A : Around} {E : Value → Shared → Prop} {s : Shared} {K : Frag} {C fI cc cda : Addr} {B i newId : String} {bmB : List Value} {mg mb : Str → Option Value}
/-- the body of such an __init__ -/
def supBody (f ar : Str) (x0 x1 : Str) (j : Nat) (p0 p1 p2 p3 p4 p5 p6 p7 p8 p9 : Pos) : List Stmt :=
  [.Expr (.Call (.Attribute (.Call (.Name "super" p0) [] [] p1) "__init__" p2) [.Constant (.str x1) j p3] [] p4) p5, .Assign [.Attribute (.Name "self" p6) f p7] (.Name ar p8) p9]
theorem call_excS {qual : Str} {params : Arguments} {scope : Scope} {kV doc pm ct oc : Value} {an od : Option Addr} {osl : Array (Option Value)} {f ar x0 x1 : Str} {j : Nat} {p0 p1 p2 p3 p4 p5 p6 p7 p8 p9 : Pos} {v : Value} {Q : Value → Shared → Prop}
    (S : SupC prog K C fI cc cda B i newId bmB f) (FB : ExcBaseFacts B newId i bmB) (KF : KxsFacts B i) (SF : StoreFacts B bmB "object.__setattr__" "object")
    (X : K.In s.heap) (NL : s.heap.NoLimit) (G : s.heap.Ns mainGlobals mg) (Bn : s.heap.Ns builtinsNs mb) (hbb : ∀ x : Str, x ≠ "__name__" → mb x = bootBuiltins x) (mS : mg "super" = none) (htop : (prog.main.scope.names.lookup ("super" : Str)).isSome = false)
    (ho : K.lookup fI = some ⟨oc, od, .func (ksFn "__init__" qual params (supBody f ar x0 x1 j p0 p1 p2 p3 p4 p5 p6 p7 p8 p9) scope .none kV doc pm an (.ref cda) ct cc), osl⟩) (hcd : codeIn K (.ref cda) qual = true) (hroom : A.depth + 1 < recursionLimit)
    (hbind : ∀ a b : Value, bindArgs (ksFn "__init__" qual params (supBody f ar x0 x1 j p0 p1 p2 p3 p4 p5 p6 p7 p8 p9) scope .none kV doc pm an (.ref cda) ct cc) ⟨[a, b], []⟩ = pure [(("self" : Str), a), (ar, b)])
    (hp : (params.posonlyargs ++ params.args).head?.map (·.arg) = some ("self" : Str)) (hks : scope.names.lookup ("super" : Str) = some .globalImplicit) (hkc : scope.names.lookup ("__class__" : Str) = some .free) (hka : scope.names.lookup ("self" : Str) = some .local) (hkr : scope.names.lookup ar = some .local)
    (hne : ar ≠ ("self" : Str)) (hdb : (ar == ("__debug__" : Str)) = false) (hk : scope.kind = .function) (hco : scope.isCoroutine = false) (hgen : scope.isGenerator = false) (hcell : ∀ x ∈ scope.names, x.2 ≠ .cell)
    (hpos : (p2.endLine == p4.line) = true) (hi : ∀ L, interactive (ksEnv qual scope L fI (.ref cda) cc) = false) (hsw : ∀ L, swapsWith (.Name ar p8) (some (.Attribute (.Name "self" p6) f p7)) p9.line (ksEnv qual scope L fI (.ref cda) cc) = pure false)
    (h : ∀ e t dx h' tk, (∀ b o, s.heap.get? b = some o → h'.get? b = some o) → s.heap.get? e = none → h'.get? e = some (excObj C t (some dx) .none) → Q (.ref e) { s with heap := h', toks := tk }) :
    wpAny (model prog w) A (call (.ref C) [v]) Q E s := by
  obtain ⟨nm, N', qn, bs, bm, hdct, sn, sub, ab, col, dd, k0, k1, k2, k3, k5, hC, hT⟩ := excInit_of X S.xi
  obtain ⟨hh, g, d, tk, os⟩ := s
  dsimp only at X NL G Bn hC h
  have kk : ∀ b o, hh.get? b = some o → ((hh.push (kdv_tup [v])).push (HandSPX.excO C hh.objs.size)).get? b = some o := fun b o e => Heap.get?_push_of_some _ (Heap.get?_push_of_some _ e)
  have hget : ((hh.push (kdv_tup [v])).push (HandSPX.excO C hh.objs.size)).get? (hh.objs.size + 1) = some (HandSPX.excO C hh.objs.size) := by heap_get
  refine wpAny_call (HandSPX.call_own FB hT hC (looks_findIn X S.iC) (fun self => bind_fn X self (beq_iff_eq.mp S.iF)) (by show 1 ≤ sizeLine; decide) ?_)
  refine ks_codeAny_call_defAt (fd := ksFn "__init__" qual params (supBody f ar x0 x1 j p0 p1 p2 p3 p4 p5 p6 p7 p8 p9) scope .none kV doc pm an (.ref cda) ct cc) (body := supBody f ar x0 x1 j p0 p1 p2 p3 p4 p5 p6 p7 p8 p9) (binds := [(("self" : Str), .ref (hh.objs.size + 1)), (ar, v)]) ?_ (kk _ _ (X _ _ ho)) rfl (NL.keeps kk) ((codeRec_of X hcd).keeps kk) rfl (BindsTo.of_eq (hbind _ _)) hcell (fun y hy => ?_) (fun h₁ hns hk₁ => ?_) hco hgen hk
  · exact hroom
  · rcases List.mem_cons.mp hy with rfl | hy
    · exact hka
    · rw [List.mem_singleton.mp hy]
      exact hkr
  have hL : ((hh.push (kdv_tup [v])).push (HandSPX.excO C hh.objs.size)).objs.size = hh.objs.size + 2 := by rw [Heap.size_push, Heap.size_push]
  have mself : (fun x => List.lookup x [(("self" : Str), Value.ref (hh.objs.size + 1)), (ar, v)].reverse) "self" = some (.ref (hh.objs.size + 1)) := by
    have e1 : (("self" : Str) == ar) = false := by simpa using fun q : ("self" : Str) = ar => hne q.symm
    simp [List.lookup, e1]
  have marg : (fun x => List.lookup x [(("self" : Str), Value.ref (hh.objs.size + 1)), (ar, v)].reverse) ar = some v := by
    simp [List.lookup]
  have F : Fr hh ((hh.push (kdv_tup [v])).push (HandSPX.excO C hh.objs.size)).objs.size h₁ (fun x => List.lookup x [(("self" : Str), Value.ref (hh.objs.size + 1)), (ar, v)].reverse) := ⟨hns, fun b o e => hk₁ b o (kk b o e), by rw [hL]; omega⟩
  have nn : ∀ b, hh.objs.size ≤ b → hh.get? b = none := fun b hb => Heap.get?_none_of_le hb
  have N : News hh ((hh.push (kdv_tup [v])).push (HandSPX.excO C hh.objs.size)).objs.size h₁ [(hh.objs.size + 1, excObj C hh.objs.size none .none)] := fun p hp => by
    rw [List.mem_singleton.mp hp]
    exact ⟨hk₁ _ _ hget, by rw [hL]; show hh.objs.size + 1 ≠ hh.objs.size + 2; omega, nn _ (Nat.le_succ _)⟩
  generalize hLg : ((hh.push (kdv_tup [v])).push (HandSPX.excO C hh.objs.size)).objs.size = L at F N hns ⊢
  generalize hm : (fun x => List.lookup x [(("self" : Str), Value.ref (hh.objs.size + 1)), (ar, v)].reverse) = m at F hns mself marg ⊢
  obtain ⟨cl, cld, csl, hcc⟩ := S.cell
  obtain ⟨ccl, cdd, vs, ccs, file, tf, hcda, hvs, hfile⟩ := S.code
  obtain ⟨ar0, hp0, hp1⟩ := Option.map_eq_some_iff.mp hp
  have X1 : K.In h₁ := X.keeps F.keep
  obtain ⟨cdD, hcdD⟩ : ∃ cd, clsIn K C = some cd := by
    have z := S.sC
    unfold mroIn at z
    cases q : clsIn K C with
    | none =>
      rw [q] at z
      cases z
    | some cd => exact ⟨cd, rfl⟩
  obtain ⟨oD, hD1, hD2⟩ : ∃ oD, h₁.get? C = some oD ∧ oD.data = .cls cdD := by
    unfold clsIn at hcdD
    split at hcdD
    · rename_i c d cd' sl ho'
      cases hcdD
      exact ⟨_, X1 _ _ ho', rfl⟩
    · cases hcdD
  have hx1 := (N _ List.mem_cons_self).1
  show _root_.PySem.wpAt (model prog w) _ (.func _ (ksEnv qual scope L fI (.ref cda) cc)) (execs (supBody f ar x0 x1 j p0 p1 p2 p3 p4 p5 p6 p7 p8 p9) (ksEnv qual scope L fI (.ref cda) cc)) _ _ _
  unfold supBody
  -- super().__init__('..')
  refine ks_wpAt_execs_cons (ks_wpAt_Expr_any (hi := hi L) ?_)
  refine ks_wpAt_MethodCall (pl := (do return (← importBound (.Call (.Name "super" p0) [] [] p1) (ksEnv qual scope L fI (.ref cda) cc)).getD true)) ?_ (by
    show (do
      let ov ← attributeBase (.Call (.Name "super" p0) [] [] p1) "__init__" (ksEnv qual scope L fI (.ref cda) cc) (eval (.Call (.Name "super" p0) [] [] p1) (ksEnv qual scope L fI (.ref cda) cc))
      standAt p2.atName
      methodCall (.Call (.Name "super" p0) [] [] p1) "__init__" p2 p4 (ksEnv qual scope L fI (.ref cda) cc) ov (1 + 0) (backTo p4 (starEach [.Constant (.str x1) j p3] (ksEnv qual scope L fI (.ref cda) cc))) []) = _
    congr 1
    funext ov
    congr 1
    funext _
    exact L2.mcall_line rfl hpos)
  refine ks_wpAt_super_base (env := ksEnv qual scope L fI (.ref cda) cc) hks hkc (by decide) rfl (X1 _ _ ho) rfl hp0 rfl (X1 _ _ hcda) rfl hvs hfile htop ?_
  refine ks_loadName_global hk hks (loadGlobal_builtin (env := ksEnv qual scope L fI (.ref cda) cc) (G.keeps F.keep) mS (Bn.keeps F.keep) ((hbb _ (by decide +kernel)).trans (show bootBuiltins "super" = some (.type "super") by decide +kernel)) ⟨rfl, ?_⟩)
  refine wpAny_loadName_free hk hkc rfl ⟨_, X1 _ _ hcc, rfl⟩ ?_
  rw [hp1]
  refine wpAny_loadName_local hk hka F.ns mself ?_
  refine ks_wpAny_isType_cls hD1 hD2 ⟨rfl, ?_⟩
  refine ks_wpAny_call_super hD1 hD2 hx1 rfl (fun c e => nomatch e) (looks_mroIn X1 S.sC) (fun h2 e2 k2 => ?_)
  obtain ⟨F2, N2, l2⟩ := ks_newsPush (s := ⟨h₁, g, d, 0, os⟩) F N rfl e2 k2
  refine kxs_method KF F2 X N2 List.mem_cons_self (InstAt.of_exc0 N2 (List.mem_cons_of_mem _ List.mem_cons_self)) S.thd S.su S.sB (by decide) fun q h3 F3 N3 l3 => ?_
  refine kxs_callWith1 N3 List.mem_cons_self (Calls.spliced_cons (x := eval (.Constant (.str x1) j p3) (ksEnv qual scope L fI (.ref cda) cc)) (rest := []) (Calls.Constant_str (Calls.spliced_nil ⟨kxs_at (i := i) (x := hh.objs.size + 1) N3 List.mem_cons_self, ?_⟩)))
  refine kxs_call F3 X N3 FB S.xi List.mem_cons_self (.tail (Ne.symm (Nat.ne_of_lt (l3 _ (List.mem_cons_of_mem _ List.mem_cons_self)))) (.tail (Ne.symm (Nat.ne_of_lt (l2 _ List.mem_cons_self))) (.head fun _ h => nomatch h))) (by show 1 ≤ sizeLine; decide) (fun t' h4 F4 N4 l4 => ?_)
  refine ks_wpAt_execs_cons (ks_wpAt_Assign_Attr (hs := hsw L) ?_)
  refine wpAt_of_wpAny ?_
  refine wpAny_Name (wpAny_loadName_local (env := ksEnv qual scope L fI (.ref cda) cc) hk hkr F4.ns marg ?_) hdb
  refine wpAny_Name (wpAny_loadName_local (env := ksEnv qual scope L fI (.ref cda) cc) hk hka F4.ns mself ?_) (by decide)
  refine set_exc0 SF F4 X N4 (List.mem_cons_of_mem _ (List.mem_cons_of_mem _ (List.mem_cons_of_mem _ List.mem_cons_self))) S.sa S.xo (by unfold takerIn; rw [S.no]; rfl) S.hd rfl (.tail (Ne.symm (Nat.ne_of_lt (l4 _ (List.mem_cons_of_mem _ (List.mem_cons_of_mem _ List.mem_cons_self))))) (.tail (Ne.symm (Nat.ne_of_lt (l3 _ (List.mem_cons_of_mem _ List.mem_cons_self)))) (.tail (Ne.symm (Nat.ne_of_lt (l2 _ List.mem_cons_self))) (.head fun _ h => nomatch h)))) (by show 1 ≤ 1000; decide) (fun dx h5 F5 N5 l5 => ?_)
  show _root_.PySem.wpAt (model prog w) _ (.func _ (ksEnv qual scope L fI (.ref cda) cc)) (execs [] (ksEnv qual scope L fI (.ref cda) cc)) _ _ _
  refine wpAt_of_wpAny (wpAny_pure ?_)
  refine ⟨rfl, ?_⟩
  refine h _ _ dx h5 _ F5.keep (nn _ (Nat.le_succ _)) (N5 _ (List.mem_cons_of_mem _ (List.mem_cons_of_mem _ (List.mem_cons_of_mem _ (List.mem_cons_of_mem _ List.mem_cons_self))))).1
end
end Tp
/-! part XK -/
set_option Elab.async false
set_option linter.all false
set_option maxRecDepth 100000
set_option maxHeartbeats 4000000
/-! raise StepFailed(..), raise NotApplicable(..), raise NothingToUndo('..') -/
namespace Tp
open PySem PySem.Spec PyProof.Rows L2
/-- what is known of the program in whose model all runs -/
class PrgOk (P : Program) : Prop where
  file : P.main.file = PySem.Challenge.pw_tapeeffect_k75_whole_sessions_follow_the.main.file
  top : (P.main.scope.names.lookup ("super" : Str)).isSome = false
theorem pmk_sup {X : Cx} {C fI cc cda : Addr} {B i newId : String} {bmB : List Value} {f ar x0 x1 x qual : Str} {j : Nat} {p0 p1 p2 p3 p4 p5 p6 p7 p8 p9 p pos : Pos} {params : Arguments} {scope : Scope} {kV doc pm ct oc : Value} {an od : Option Addr} {osl : Array (Option Value)} {e : Expr} {ta : TA}
    (S : Tp.SupC X.prog X.K C fI cc cda B i newId bmB f) (FB : ExcBaseFacts B newId i bmB) (KF : PySem.W.KxsFacts B i) (SF : PySem.StoreFacts B bmB "object.__setattr__" "object")
    (mS : X.mg "super" = none) (htop : (X.prog.main.scope.names.lookup ("super" : Str)).isSome = false)
    (ho : X.K.lookup fI = some ⟨oc, od, .func (PySem.W.ksFn "__init__" qual params (Tp.supBody f ar x0 x1 j p0 p1 p2 p3 p4 p5 p6 p7 p8 p9) scope .none kV doc pm an (.ref cda) ct cc), osl⟩) (hcd : PySem.W.codeIn X.K (.ref cda) qual = true) (hr : Room 1 X.A)
    (hbind : ∀ a b : Value, bindArgs (PySem.W.ksFn "__init__" qual params (Tp.supBody f ar x0 x1 j p0 p1 p2 p3 p4 p5 p6 p7 p8 p9) scope .none kV doc pm an (.ref cda) ct cc) ⟨[a, b], []⟩ = pure [(("self" : Str), a), (ar, b)])
    (hp : (params.posonlyargs ++ params.args).head?.map (·.arg) = some ("self" : Str)) (hks : scope.names.lookup ("super" : Str) = some .globalImplicit) (hkc : scope.names.lookup ("__class__" : Str) = some .free) (hka : scope.names.lookup ("self" : Str) = some .local) (hkr : scope.names.lookup ar = some .local)
    (hne : ar ≠ ("self" : Str)) (hdb : (ar == ("__debug__" : Str)) = false) (hk : scope.kind = .function) (hco : scope.isCoroutine = false) (hgen : scope.isGenerator = false) (hcell : ∀ x ∈ scope.names, x.2 ≠ .cell) (hpos : (p2.endLine == p4.line) = true)
    (hi : ∀ L, interactive (PySem.W.ksEnv qual scope L fI (.ref cda) cc) = false) (hsw : ∀ L, swapsWith (.Name ar p8) (some (.Attribute (.Name "self" p6) f p7)) p9.line (PySem.W.ksEnv qual scope L fI (.ref cda) cc) = pure false)
    (hg : Gl X x) (hm : X.mg x = some (.ref C)) (ha : PA X [e] ta) (hdx : (x == ("__debug__" : Str)) = false := by decide) (hst : starEach (e :: []) X.env = (false, eval e X.env) :: starEach [] X.env := by rfl) (hpl : (backTo pos (starEach [] X.env)).any (·.1) = false := by rfl) :
    PMk X (.Call (.Name x p) [e] [] pos) (fun σ H Q => ta σ H fun vs H1 => vs.length = 1 ∧ ∀ d, Q (.ref C) (some d) H1) := by
  intro pins s σ H Q I h
  refine wpAny_Call_Name_kw (ld_glob I hg hm ?_ hdx)
  refine PySem.W.callWith_K (h₀ := X.base) I.ok.mod.kin S.kp (thn (ha.run pos pins s σ H _ I h) fun us s1 hh => ?_) hst hpl
  obtain ⟨vs, H1, I1, r1, hl, q⟩ := hh
  refine ⟨I1.kIn, ?_⟩
  obtain ⟨u, rfl⟩ : ∃ u, us = [u] := by
    have z := r1.length
    rw [hl] at z
    match us, z with
    | [u], _ => exact ⟨u, rfl⟩
  show wpAny _ _ (call (.ref C) [u]) _ _ _
  obtain ⟨mb, b1, b2⟩ := I1.ok.mod.blt
  refine Tp.call_excS S FB KF SF I1.kIn I1.nolimit (I1.ok.mod.glob.keeps I1.bk) (b1.keeps I1.bk) b2 mS htop ho hcd (by have := hr.dp; omega) hbind hp hks hkc hka hkr hne hdb hk hco hgen hcell hpos hi hsw fun a t dx h' tk' k n g => ?_
  obtain ⟨hp, g0, dr, tk, os⟩ := s1
  exact ⟨a, _, _, ⟨hp, g0, dr, tk, os⟩, H1, .ref C, some dx, rfl, I1, k, n, g, ⟨rfl, rfl⟩, rfl, rfl, I1.hok.gone n, rfl, I1.bare, raises_own S.ex S.ty, q dx⟩
theorem clos_of {K : PySem.W.Frag} {C q : Str} {oc : Value} {od : Option Addr} {osl : Array (Option Value)} {fd : FuncData} {cc : Addr} (h : closB K C q = true) (lk : K.lookup (He.ma K (He.ga K C) "__init__") = some ⟨oc, od, .func fd, osl⟩) (hc : fd.closure = [(("__class__" : Str), cc)]) :
    ∃ cda : Addr, fd.code = .ref cda ∧ PySem.W.codeIn K (.ref cda) q = true ∧ (∃ cl cld csl, K.lookup cc = some ⟨cl, cld, .cell (some (.ref (He.ga K C))), csl⟩) ∧
      ∃ ccl cdd vs ccs file tf, K.lookup cda = some ⟨ccl, cdd, .fields vs, ccs⟩ ∧ vs[2]? = some (.str file tf) ∧ (PySem.Challenge.pw_tapeeffect_k75_whole_sessions_follow_the.main.file == file) = true := by
  unfold closB at h
  rw [lk] at h
  obtain ⟨h1, h2⟩ := He.ba h
  rw [hc] at h2
  obtain ⟨h3, h4⟩ := He.ba h2
  dsimp only at h3 h4
  cases hcd : fd.code with
  | ref cda =>
    rw [hcd] at h1 h4
    refine ⟨cda, rfl, h1, ?_, ?_⟩
    · cases q1 : K.lookup cc with
      | none =>
        rw [q1] at h3
        cases h3
      | some o =>
        rw [q1] at h3
        obtain ⟨cl, cld, dt, csl⟩ := o
        cases dt with
        | cell ov =>
          cases ov with
          | none => cases h3
          | some v =>
            have e : v = .ref (He.ga K C) := of_decide_eq_true h3
            subst e
            exact ⟨cl, cld, csl, rfl⟩
        | _ => cases h3
    · dsimp only at h4
      cases q1 : K.lookup cda with
      | none =>
        rw [q1] at h4
        cases h4
      | some o =>
        rw [q1] at h4
        obtain ⟨cl, cld, dt, csl⟩ := o
        cases dt with
        | fields vs =>
          dsimp only at h4
          cases q2 : vs.getD 2 Value.none with
          | str file tf =>
            rw [q2] at h4
            refine ⟨cl, cld, vs, csl, file, tf, rfl, ?_, h4⟩
            rw [Array.getD_eq_getD_getElem?] at q2
            cases q3 : vs[2]? with
            | none =>
              rw [q3] at q2
              cases q2
            | some v =>
              rw [q3] at q2
              exact congrArg some q2
          | _ =>
            rw [q2] at h4
            cases h4
        | _ => cases h4
  | _ =>
    rw [hcd] at h4
    cases h4
theorem pmk_StepFailed {X : Cx} {p pos : Pos} {e : Expr} {ta : TA} (hP : PrgOk X.prog) (T : Txt X.K X.mg) (hr : Room 1 X.A) (hg : Gl X "StepFailed") (ha : PA X [e] ta)
    (hst : starEach (e :: []) X.env = (false, eval e X.env) :: starEach [] X.env := by rfl) (hpl : (backTo pos (starEach [] X.env)).any (·.1) = false := by rfl) :
    PMk X (.Call (.Name "StepFailed" p) [e] [] pos) (fun σ H Q => ta σ H fun vs H1 => vs.length = 1 ∧ ∀ d, Q (.ref (He.ga X.K "StepFailed")) (some d) H1) := by
  obtain ⟨oc, od, osl, kV, doc, pm, an, cdv, ct, cc, lk, hcd⟩ := T.clo_ 7 rfl rfl
  obtain ⟨cda, e1, h1, h2, ccl, cdd, vs, ccs, file, tf, k1, k2, k3⟩ := clos_of T.xs_cl_StepFailed lk rfl
  cases e1
  refine pmk_sup (x0 := "x") (f := "index") (ar := "index") ⟨T.xs_xi_StepFailed, T.xs_xo_StepFailed, T.xs_sB_StepFailed, T.xs_sC_StepFailed, T.xs_iC_StepFailed, T.xs_iF_StepFailed, T.xs_no_StepFailed, T.xs_sa_StepFailed, T.xs_hd_StepFailed, T.xs_su_StepFailed, T.xs_thd, h2, ⟨ccl, cdd, vs, ccs, file, tf, k1, k2, by rw [hP.file]; exact k3⟩, T.xs_b_StepFailed, T.xs_t_StepFailed, T.xs_kp_StepFailed⟩
    PySem.F.excBase_RuntimeError PySem.W.kxs_RuntimeError PySem.F.store_RuntimeError T.n_super hP.top lk h1 hr (fun a b => rfl) rfl rfl rfl rfl rfl (by decide) (by decide) rfl rfl rfl (by decide +kernel) rfl (fun L => rfl) (fun L => rfl) hg T.g_StepFailed ha (by decide) hst hpl
theorem pmk_NotApplicable {X : Cx} {p pos : Pos} {e : Expr} {ta : TA} (hP : PrgOk X.prog) (T : Txt X.K X.mg) (hr : Room 1 X.A) (hg : Gl X "NotApplicable") (ha : PA X [e] ta)
    (hst : starEach (e :: []) X.env = (false, eval e X.env) :: starEach [] X.env := by rfl) (hpl : (backTo pos (starEach [] X.env)).any (·.1) = false := by rfl) :
    PMk X (.Call (.Name "NotApplicable" p) [e] [] pos) (fun σ H Q => ta σ H fun vs H1 => vs.length = 1 ∧ ∀ d, Q (.ref (He.ga X.K "NotApplicable")) (some d) H1) := by
  obtain ⟨oc, od, osl, kV, doc, pm, an, cdv, ct, cc, lk, hcd⟩ := T.clo_ 8 rfl rfl
  obtain ⟨cda, e1, h1, h2, ccl, cdd, vs, ccs, file, tf, k1, k2, k3⟩ := clos_of T.xs_cl_NotApplicable lk rfl
  cases e1
  refine pmk_sup (x0 := "x") (f := "position") (ar := "position") ⟨T.xs_xi_NotApplicable, T.xs_xo_NotApplicable, T.xs_sB_NotApplicable, T.xs_sC_NotApplicable, T.xs_iC_NotApplicable, T.xs_iF_NotApplicable, T.xs_no_NotApplicable, T.xs_sa_NotApplicable, T.xs_hd_NotApplicable, T.xs_su_NotApplicable, T.xs_thd, h2, ⟨ccl, cdd, vs, ccs, file, tf, k1, k2, by rw [hP.file]; exact k3⟩, T.xs_b_NotApplicable, T.xs_t_NotApplicable, T.xs_kp_NotApplicable⟩
    PySem.F.excBase_LookupError PySem.W.kxs_LookupError PySem.F.store_LookupError T.n_super hP.top lk h1 hr (fun a b => rfl) rfl rfl rfl rfl rfl (by decide) (by decide) rfl rfl rfl (by decide +kernel) rfl (fun L => rfl) (fun L => rfl) hg T.g_NotApplicable ha (by decide) hst hpl
theorem pmk_NothingToUndo {X : Cx} {m : Str} {j : Nat} {p p2 pos : Pos} (T : Txt X.K X.mg) (hg : Gl X "NothingToUndo") : PMk X (.Call (.Name "NothingToUndo" p) [.Constant (.str m) j p2] [] pos) (fun _ H Q => Q (.ref (He.ga X.K "NothingToUndo")) none H) :=
  pmk_own PySem.F.excBase_RuntimeError T.xs_x_NothingToUndo T.g_NothingToUndo T.xs_kp_NothingToUndo (raises_own T.xs_b_NothingToUndo T.xs_t_NothingToUndo) hg
end Tp
/-! part XL -/
set_option Elab.async false
set_option linter.all false
set_option maxRecDepth 100000
set_option maxHeartbeats 4000000
/-! own layer, part L: try: suite; return e / finally: suite; a raising method within a try -/
namespace Tp
open PySem PySem.Spec PyProof.Rows L2
theorem wp_execs_app {M : Model} {Γ : PySem.Ctx} {env : Env} {R : List Stmt} {Q : Flow → Pos → Shared → Prop} {E : Value → Pos → Shared → Prop} : ∀ (B : List Stmt) p s, Sem.wp M Γ (execs B env) (fun f p' s' => match f with
    | .next => Sem.wp M Γ (execs R env) Q E p' s'
    | f => Q f p' s') E p s → Sem.wp M Γ (execs (B ++ R) env) Q E p s
  | [], p, s, h => by
    rw [execs_nil, Sem.wp_pure'] at h
    exact h
  | st :: B, p, s, h => by
    rw [List.cons_append, execs_cons, Sem.wp_bind']
    rw [execs_cons, Sem.wp_bind'] at h
    refine Sem.wp_mono M Γ _ (fun f p' s' h' => ?_) (fun _ _ _ h' => h') _ _ h
    cases f with
    | next => exact wp_execs_app B p' s' h'
    | _ =>
      rw [Sem.wp_pure'] at h' ⊢
      exact h'
theorem execs_app {M : Model} {A : Around} {env : Env} {B R : List Stmt} {Q : Flow → Shared → Prop} {E : Value → Shared → Prop} {s : Shared} (h : wpAny M A (execs B env) (fun f s' => match f with
    | .next => wpAny M A (execs R env) Q E s'
    | f => Q f s') E s) : wpAny M A (execs (B ++ R) env) Q E s := fun Γ p hΓ => by
  refine wp_execs_app B p s ?_
  refine Sem.wp_mono M Γ _ (fun f p' s' h' => ?_) (fun _ _ _ h' => h') _ _ (h Γ p hΓ)
  cases f with
  | next => exact h' Γ p' hΓ
  | _ => exact h'
/-- try: suite; return e / finally: suite -/
def tFinR (tb : WX → TS) (te : WX → TE) (tf tfs : TS) (Wout : WX) : TS := fun D σ H => tb (wFin tfs Wout) { nx := fun σ1 H1 => te (wFin tfs Wout) σ1 H1 fun v H2 => tf { D with nx := fun _ H3 => D.rt v H3 } σ1 H2, rt := fun _ _ => False } σ H
theorem ps_finR {X : Cx} {body B : List Stmt} {e : Expr} {f₀ : Stmt} {fs : List Stmt} {rp pos : Pos} {tb : WX → TS} {te : WX → TE} {tf tfs : TS} {Wout : WX} (hB : body = B ++ [.Return (some e) rp]) (hs : X.stack = X.env :: X.outer) (hf : X.env.frame = some X.env.locals) (hex : X.ex = []) (tk : Takes X Wout)
    (hb : ∀ (W : WX) (pn : List (Addr × Obj)) (xe : Value → Shared → Prop), Takes (X.tr pn xe) W → PassesOwn (model X.prog X.w) X.A X.env xe → PSs (X.tr pn xe) B (tb W))
    (he : ∀ (W : WX) (pn : List (Addr × Obj)) (xe : Value → Shared → Prop), Takes (X.tr pn xe) W → PassesOwn (model X.prog X.w) X.A X.env xe → PE (X.tr pn xe) e (te W))
    (hfin : PSs X.nox (f₀ :: fs) tf) (hsu : ∀ (a : Addr) (pn : List (Addr × Obj)), PSs (X.suite a pn) (f₀ :: fs) tfs) : PS X (.Try body [] [] (f₀ :: fs) pos) (tFinR tb te tf tfs Wout) := by
  subst hB
  refine ⟨fun pins s σ H D I h => ?_⟩
  have ok := I.ok
  have tk2 : Takes (X.tr (X.pn ++ pins) (fun x s₁ => wpAny (model X.prog X.w) X.A (noteFrame x X.env) (fun _ s₂ => FinallyRaised X.prog X.w X.A X.xe X.env (f₀ :: fs) (SP X pins D) x s₂) (FinallyRaised X.prog X.w X.A X.xe X.env (f₀ :: fs) (SP X pins D)) s₁)) (wFin tfs Wout) := fun u s' xx => fin_exc hs hf hex ok tk hsu xx
  refine wpAny_Try_finally (execs_app ?_)
  refine wpAny_mono ((hb (wFin tfs Wout) (X.pn ++ pins) _ tk2 PassesOwn.looking).run [] s σ H { nx := fun σ1 H1 => te (wFin tfs Wout) σ1 H1 fun v H2 => tf { D with nx := fun _ H3 => D.rt v H3 } σ1 H2, rt := fun _ _ => False } (I.toTry _) h) (fun g s1 z => ?_) (fun x s1 hx => hx)
  cases g with
  | ret u =>
    obtain ⟨_, _, _, _, _, q⟩ := z
    exact False.elim q
  | brk =>
    obtain ⟨_, _, _, q⟩ := z
    exact False.elim q
  | cont =>
    obtain ⟨_, _, _, q⟩ := z
    exact False.elim q
  | next =>
    obtain ⟨σ1, H1, J1, q1⟩ := z
    refine wpAny_execs_cons (wpAny_Return_some ?_)
    refine wpAny_mono ((he (wFin tfs Wout) (X.pn ++ pins) _ tk2 PassesOwn.looking).run [] s1 σ1 H1 _ J1 q1) (fun u s2 z => ?_) (fun x s1 hx => hx)
    obtain ⟨v, H2, I2, r2, q2⟩ := z
    exact fin_ret hfin (I2.ofTry ok) r2 q2
theorem ps_finR4 {X : Cx} {s1 s2 s3 s4 : Stmt} {e : Expr} {f₀ : Stmt} {fs : List Stmt} {rp pos : Pos} {tb : WX → TS} {te : WX → TE} {tf tfs : TS} {Wout : WX} (hs : X.stack = X.env :: X.outer) (hf : X.env.frame = some X.env.locals) (hex : X.ex = []) (tk : Takes X Wout)
    (hb : ∀ (W : WX) (pn : List (Addr × Obj)) (xe : Value → Shared → Prop), Takes (X.tr pn xe) W → PassesOwn (model X.prog X.w) X.A X.env xe → PSs (X.tr pn xe) [s1, s2, s3, s4] (tb W))
    (he : ∀ (W : WX) (pn : List (Addr × Obj)) (xe : Value → Shared → Prop), Takes (X.tr pn xe) W → PassesOwn (model X.prog X.w) X.A X.env xe → PE (X.tr pn xe) e (te W))
    (hfin : PSs X.nox (f₀ :: fs) tf) (hsu : ∀ (a : Addr) (pn : List (Addr × Obj)), PSs (X.suite a pn) (f₀ :: fs) tfs) : PS X (.Try [s1, s2, s3, s4, .Return (some e) rp] [] [] (f₀ :: fs) pos) (tFinR tb te tf tfs Wout) :=
  ps_finR (B := [s1, s2, s3, s4]) rfl hs hf hex tk hb he hfin hsu
/-- o.m(e, ..) in a try: what is raised is wished for at the slots as they stand -/
def tMethRS (C : Addr) (m : Str) (sp : Sp) (E : L2.St → XK) (ta : TE) (t : TA) : TE := fun σ H Q => ta σ H fun x H1 => ∃ a dx fs, x = .ref a ∧ H1 a = some (.ins C dx fs) ∧ fs.lookup m = none ∧ t σ H1 fun vs H2 => sp (x :: vs) H2 Q (E σ)
theorem run_fnRS {X : Cx} {pins : List (Addr × Obj)} {σ : L2.St} {H : Hp} {s : Shared} {CX : CXT} {k : Nat} {f : Addr} {sp : Sp} {E : L2.St → XK} {Q : VK} {us : List Value} {vs : List V} (F : FnR X.prog X.w X.K X.mg X.base CX k f sp) (hr : Room k X.A) (hx : PassesAt CX X σ (E σ)) (I : Inv X pins σ H s) (r : Vals vs us) (h : sp vs H Q (E σ)) :
    codeAny (model X.prog X.w) X.A (.call (.ref f) ⟨us, []⟩) (fun r s' => match r with | .ok (.ret v) => EP X pins σ Q v s' | .ok _ => False | .error e => X.xe e s') s := by
  refine codeAny_mono (F X.A X.stack s H us vs Q (E σ) hr I.env0 r h) fun r s' hq => ?_
  cases r with
  | error e => exact hx pins H s e s' I hq
  | ok fl =>
    cases fl with
    | ret u => exact I.after hq
    | next => exact False.elim hq
    | brk => exact False.elim hq
    | cont => exact False.elim hq
theorem pe_methRS {X : Cx} {CX : CXT} {k : Nat} {C f : Addr} {m : Str} {sp : Sp} {E : L2.St → XK} {o e : Expr} {es : List Expr} {ta : TE} {t : TA} {apos pos : Pos} {pl : Sem Bool} (he : PE X o ta) (c : Cls X.K C) (hm : Meth X.K C m f)
    (F : FnR X.prog X.w X.K X.mg X.base CX k f sp) (hr : Room k X.A) (hx : ∀ σ, PassesAt CX X σ (E σ)) (ha : PA X (e :: es) t)
    (hst : starEach (e :: es) X.env = (false, eval e X.env) :: starEach es X.env := by rfl) (hpl : (backTo pos (starEach es X.env)).any (·.1) = false := by rfl)
    (ht : eval (.Call (.Attribute o m apos) (e :: es) [] pos) X.env = (do
      let ov ← eval o X.env
      standAt apos.atName
      let (f, first) ← holding [ov] (getMethod ov m pl)
      callWith pos f first (backTo pos (starEach (e :: es) X.env)) (backToKw pos (keywordEach [] X.env))) := by rfl) :
    PE X (.Call (.Attribute o m apos) (e :: es) [] pos) (tMethRS C m sp E ta t) := by
  refine ⟨fun pins s σ H Q I h => ?_⟩
  refine PySem.W.methodCall_KW (pl := pl) (thn (he.run pins s σ H _ I h) fun u s1 ⟨x, H1, I1, rx, a, dx, fs, ex, ea, l, q⟩ => ?_) ht
  subst ex
  obtain rfl : u = Value.ref a := rx
  refine getmeth_ok I1 ea c hm l ?_
  refine PySem.W.callWith_K (first := [.ref a]) (h₀ := X.base) I.ok.mod.kin hm.kp (thn (ha.run pos pins s1 σ H1 _ I1 q) fun us s2 ⟨vs, H2, I2, r, q2⟩ => ⟨I2.kIn, ?_⟩) hst hpl
  exact wpAny_call (run_fnRS (us := .ref a :: us) (vs := .ref a :: vs) F hr (hx σ) I2 (.cons rfl r) q2)
end Tp
/-! part XM -/
set_option Elab.async false
set_option linter.all false
set_option maxRecDepth 100000
set_option maxHeartbeats 2000000
/-! the mirror of dicts from ints to letters: lists of pairs, partial functions; lists of values by a relation -/
namespace Tp
open PySem PySem.Spec PyProof.Rows L2
def LET : Str := "abcdefghijklmnopqrstuvwxyz"
/-- one letter -/
def Let (z : Str) : Prop := ∃ c : Nat, z = ⟨#[c]⟩ ∧ c ∈ LET.cps.toList
abbrev M : Type := List (Int × Str)
abbrev PF : Type := Int → Option Str
def tk (m : M) : List (Key × V) := m.map fun p => (Sum.inl p.1, V.str p.2)
def look : M → PF
  | [], _ => none
  | (k, z) :: r, i => if k = i then some z else look r i
def keys (m : M) : List Int := m.map (·.1)
def putM : M → Int → Str → M
  | [], i, z => [(i, z)]
  | (k, y) :: r, i, z => if k = i then (k, z) :: r else (k, y) :: putM r i z
theorem tk_length (m : M) : (tk m).length = m.length := by simp [tk]
theorem tk_nil : tk [] = [] := rfl
theorem tk_get {m : M} {i : Nat} {p : Key × V} (h : (tk m)[i]? = some p) : ∃ q, m[i]? = some q ∧ p = (Sum.inl q.1, V.str q.2) := by
  unfold tk at h
  rw [List.getElem?_map] at h
  cases e : m[i]? with
  | none =>
    rw [e] at h
    cases h
  | some q =>
    rw [e] at h
    exact ⟨q, rfl, (Option.some.inj h).symm⟩
theorem tk_at {m : M} {i : Nat} {q : Int × Str} (h : m[i]? = some q) : (tk m)[i]? = some (Sum.inl q.1, V.str q.2) := by
  unfold tk
  rw [List.getElem?_map, h]
  rfl
theorem valV_tk (m : M) (i : Int) : valV (tk m) (Sum.inl i) = (look m i).map V.str := by
  induction m with
  | nil => rfl
  | cons p r ih =>
    obtain ⟨k, z⟩ := p
    show valV ((Sum.inl k, V.str z) :: tk r) (Sum.inl i) = _
    by_cases e : k = i
    · subst e
      rw [valV_pos rfl]
      simp [look]
    · rw [valV_neg (fun q => e (Sum.inl.inj q)), ih]
      simp [look, e]
theorem keys_nil : keys [] = [] := rfl
theorem keys_cons (p : Int × Str) (r : M) : keys (p :: r) = p.1 :: keys r := rfl
theorem keys_put (m : M) (i : Int) (z : Str) : keys (putM m i z) = if i ∈ keys m then keys m else keys m ++ [i] := by
  induction m with
  | nil => simp [keys, putM]
  | cons p r ih =>
    obtain ⟨k, y⟩ := p
    by_cases e : k = i
    · simp [keys, putM, e]
    · have e' : ¬ i = k := fun q => e q.symm
      simp only [putM, if_neg e, keys_cons, List.mem_cons, e', false_or, ih]
      by_cases h : i ∈ keys r
      · rw [if_pos h, if_pos h]
      · rw [if_neg h, if_neg h]
        rfl
theorem any_tk (m : M) (i : Int) : ((tk m).any fun kv => decide (kv.1 = Sum.inl i)) = decide (i ∈ keys m) := by
  induction m with
  | nil => simp [tk, keys]
  | cons p r ih =>
    obtain ⟨k, y⟩ := p
    show (decide ((Sum.inl k : Key) = Sum.inl i) || (tk r).any fun kv => decide (kv.1 = Sum.inl i)) = decide (i ∈ keys ((k, y) :: r))
    rw [ih]
    by_cases e : k = i
    · subst e
      simp [keys_cons]
    · have e' : ¬ i = k := fun q => e q.symm
      rw [decide_eq_false (fun q => e (Sum.inl.inj q)), Bool.false_or]
      simp only [keys_cons, List.mem_cons, e', false_or]
theorem putM_new {m : M} {i : Int} {z : Str} (h : i ∉ keys m) : putM m i z = m ++ [(i, z)] := by
  induction m with
  | nil => rfl
  | cons p r ih =>
    obtain ⟨k, y⟩ := p
    have h1 : ¬ k = i := fun e => h (by simp [keys, e])
    have h2 : i ∉ keys r := fun e => h (by
      have e' : i ∈ List.map (fun x : Int × Str => x.1) r := e
      simp [keys]
      right
      simpa using e')
    simp only [putM, if_neg h1, List.cons_append, ih h2]
theorem putM_old {m : M} {i : Int} {z : Str} (hn : (keys m).Nodup) (h : i ∈ keys m) : (tk m).map (fun kv => if kv.1 = Sum.inl i then (kv.1, V.str z) else kv) = tk (putM m i z) := by
  induction m with
  | nil => simp [keys] at h
  | cons p r ih =>
    obtain ⟨k, y⟩ := p
    have hn' : k ∉ keys r ∧ (keys r).Nodup := by
      have : (k :: keys r).Nodup := hn
      exact List.nodup_cons.mp this
    by_cases e : k = i
    · subst e
      show (if (Sum.inl k : Key) = Sum.inl k then ((Sum.inl k : Key), V.str z) else _) :: (tk r).map _ = _
      rw [if_pos rfl]
      simp only [putM, if_pos]
      show _ :: _ = (Sum.inl k, V.str z) :: tk r
      congr 1
      unfold tk
      rw [List.map_map]
      apply List.map_congr_left
      intro q hq
      have : ¬ q.1 = k := fun e => hn'.1 (by rw [← e]; exact List.mem_map_of_mem hq)
      simp [this]
    · have h2 : i ∈ keys r := by
        have : i ∈ k :: keys r := h
        rcases List.mem_cons.mp this with q | q
        · exact absurd q.symm e
        · exact q
      show (if (Sum.inl k : Key) = Sum.inl i then _ else ((Sum.inl k : Key), V.str y)) :: (tk r).map _ = _
      rw [if_neg (fun q => e (Sum.inl.inj q)), ih hn'.2 h2]
      simp only [putM, if_neg e]
      rfl
theorem putK_tk {m : M} (hn : (keys m).Nodup) (i : Int) (z : Str) : putK (tk m) (Sum.inl i) (V.str z) = tk (putM m i z) := by
  unfold putK
  rw [any_tk]
  by_cases h : i ∈ keys m
  · rw [if_pos (decide_eq_true h)]
    exact putM_old hn h
  · rw [if_neg (by simpa using h), putM_new h]
    simp [tk]
theorem nodup_put {m : M} (hn : (keys m).Nodup) (i : Int) (z : Str) : (keys (putM m i z)).Nodup := by
  rw [keys_put]
  by_cases h : i ∈ keys m
  · rw [if_pos h]
    exact hn
  · rw [if_neg h]
    rw [List.nodup_append]
    refine ⟨hn, by simp, fun a ha b hb => ?_⟩
    have : b = i := by simpa using hb
    rw [this]
    exact fun e => h (e ▸ ha)
theorem look_put (m : M) (i : Int) (z : Str) (j : Int) : look (putM m i z) j = if i = j then some z else look m j := by
  induction m with
  | nil => simp [putM, look]
  | cons p r ih =>
    obtain ⟨k, y⟩ := p
    by_cases e : k = i
    · subst e
      simp only [putM, if_pos, look]
      by_cases e2 : k = j <;> simp [e2]
    · simp only [putM, if_neg e, look, ih]
      by_cases e2 : k = j
      · subst e2
        have : ¬ i = k := fun q => e q.symm
        simp [this]
      · simp [e2]
theorem length_put (m : M) (i : Int) (z : Str) : (putM m i z).length ≤ m.length + 1 ∧ m.length ≤ (putM m i z).length := by
  induction m with
  | nil => simp [putM]
  | cons p r ih =>
    obtain ⟨k, y⟩ := p
    by_cases e : k = i
    · simp [putM, e]
    · simp only [putM, if_neg e, List.length_cons]
      omega
theorem mem_put {m : M} {i : Int} {z : Str} {p : Int × Str} (h : p ∈ putM m i z) : p ∈ m ∨ p = (i, z) := by
  induction m with
  | nil =>
    simp [putM] at h
    exact .inr h
  | cons q r ih =>
    obtain ⟨k, y⟩ := q
    by_cases e : k = i
    · simp only [putM, if_pos e, List.mem_cons] at h
      rcases h with h | h
      · exact .inr (by rw [h, e])
      · exact .inl (List.mem_cons_of_mem _ h)
    · simp only [putM, if_neg e, List.mem_cons] at h
      rcases h with h | h
      · exact .inl (by rw [h]; exact List.mem_cons_self)
      · rcases ih h with h | h
        · exact .inl (List.mem_cons_of_mem _ h)
        · exact .inr h
theorem look_mem {m : M} {i : Int} {z : Str} (h : look m i = some z) : (i, z) ∈ m := by
  induction m with
  | nil => cases h
  | cons q r ih =>
    obtain ⟨k, y⟩ := q
    by_cases e : k = i
    · simp only [look, if_pos e] at h
      cases h
      rw [e]
      exact List.mem_cons_self
    · simp only [look, if_neg e] at h
      exact List.mem_cons_of_mem _ (ih h)
theorem mem_look {m : M} (hn : (keys m).Nodup) {i : Int} {z : Str} (h : (i, z) ∈ m) : look m i = some z := by
  induction m with
  | nil => cases h
  | cons q r ih =>
    obtain ⟨k, y⟩ := q
    have hn' : k ∉ keys r ∧ (keys r).Nodup := List.nodup_cons.mp (show (k :: keys r).Nodup from hn)
    rcases List.mem_cons.mp h with e | e
    · cases e
      simp [look]
    · have : ¬ k = i := fun q => hn'.1 (by rw [q]; exact List.mem_map_of_mem (f := fun x : Int × Str => x.1) e)
      simp only [look, if_neg this]
      exact ih hn'.2 e
theorem mem_keys {m : M} {i : Int} : i ∈ keys m ↔ look m i ≠ none := by
  induction m with
  | nil => simp [keys, look]
  | cons q r ih =>
    obtain ⟨k, y⟩ := q
    by_cases e : k = i
    · simp [keys, look, e]
    · have e' : ¬ i = k := fun q => e q.symm
      show i ∈ k :: keys r ↔ _
      simp only [List.mem_cons, e', false_or, look, if_neg e]
      exact ih
/-- m is the partial function f, its values letters -/
structure Dct (m : M) (f : PF) : Prop where
  nd : (keys m).Nodup
  lk : ∀ i, look m i = f i
  lt : ∀ p ∈ m, Let p.2
theorem Dct.nil : Dct [] (fun _ => none) := ⟨by simp [keys], fun _ => rfl, fun p h => by cases h⟩
theorem Dct.put {m : M} {f : PF} (d : Dct m f) {i : Int} {z : Str} (hz : Let z) : Dct (putM m i z) (fun j => if i = j then some z else f j) :=
  ⟨nodup_put d.nd i z, fun j => by rw [look_put, d.lk], fun p h => by
    rcases mem_put h with h | h
    · exact d.lt p h
    · rw [h]
      exact hz⟩
theorem Dct.letter {m : M} {f : PF} (d : Dct m f) {i : Int} {z : Str} (h : f i = some z) : Let z := d.lt (i, z) (look_mem (by rw [d.lk, h]))
theorem Dct.congr {m : M} {f g : PF} (d : Dct m f) (h : ∀ i, f i = g i) : Dct m g := ⟨d.nd, fun i => (d.lk i).trans (h i), d.lt⟩
theorem Dct.uniq {m : M} {f g : PF} (d : Dct m f) (e : Dct m g) : f = g := funext fun i => (d.lk i).symm.trans (e.lk i)
/-- merging -/
def mergeM (a b : M) : M := b.foldl (fun acc p => putM acc p.1 p.2) a
theorem merge_tk {a : M} (ha : (keys a).Nodup) (b : M) : mergeK (tk a) (tk b) = tk (mergeM a b) := by
  induction b generalizing a with
  | nil => rfl
  | cons p r ih =>
    show mergeK (putK (tk a) (Sum.inl p.1) (V.str p.2)) (tk r) = _
    rw [putK_tk ha, ih (nodup_put ha _ _)]
    rfl
theorem Dct.merge {a b : M} {f g : PF} (d : Dct a f) (e : Dct b g) : Dct (mergeM a b) (fun i => match g i with
    | some z => some z
    | none => f i) := by
  induction b generalizing a f g with
  | nil =>
    have : ∀ i, g i = none := fun i => (e.lk i).symm
    exact d.congr fun i => by rw [this i]
  | cons p r ih =>
    obtain ⟨k, z⟩ := p
    have hn' : k ∉ keys r ∧ (keys r).Nodup := List.nodup_cons.mp (show (k :: keys r).Nodup from e.nd)
    have e2 : Dct r (fun i => look r i) := ⟨hn'.2, fun _ => rfl, fun p hp => e.lt p (List.mem_cons_of_mem _ hp)⟩
    refine (ih (d.put (i := k) (e.lt (k, z) List.mem_cons_self)) e2).congr fun i => ?_
    rw [← e.lk i]
    by_cases h : k = i
    · subst h
      have : look r k = none := by
        cases q : look r k with
        | none => rfl
        | some y => exact absurd (mem_keys.mpr (by rw [q]; simp)) hn'.1
      simp [look, this]
    · simp only [look, if_neg h]
theorem length_merge (a b : M) : (mergeM a b).length ≤ a.length + b.length := by
  induction b generalizing a with
  | nil => simp [mergeM]
  | cons p r ih =>
    have h1 := (length_put a p.1 p.2).1
    have h2 := ih (putM a p.1 p.2)
    show (mergeM (putM a p.1 p.2) r).length ≤ _
    simp only [List.length_cons]
    omega
theorem len_sub : ∀ {l1 l2 : List Int}, l1.Nodup → (∀ x ∈ l1, x ∈ l2) → l1.length ≤ l2.length
  | [], _, _, _ => Nat.zero_le _
  | a :: l, l2, hn, hs => by
    obtain ⟨h1, h2⟩ := List.nodup_cons.mp hn
    have ha : a ∈ l2 := hs a List.mem_cons_self
    have h3 := len_sub (l1 := l) (l2 := l2.erase a) h2 fun x hx => (List.mem_erase_of_ne (fun e => h1 (by rw [← e]; exact hx))).mpr (hs x (List.mem_cons_of_mem _ hx))
    have h4 := List.length_erase_of_mem ha
    have h5 : 0 < l2.length := List.length_pos_of_mem ha
    simp only [List.length_cons]
    omega
/-- two dicts of one function: one length -/
theorem keys_perm {a b : M} {f : PF} (d : Dct a f) (e : Dct b f) : a.length = b.length := by
  have h1 : (keys a).length = (keys b).length := by
    have sub : ∀ {x y : M}, Dct x f → Dct y f → (keys x).length ≤ (keys y).length := fun {x y} dx dy => by
      refine len_sub dx.nd fun i hi => ?_
      rw [mem_keys] at hi ⊢
      rw [dy.lk, ← dx.lk]
      exact hi
    exact Nat.le_antisymm (sub d e) (sub e d)
  simpa [keys] using h1
/-! ### lists of values that stand for things -/
/-- the i-th of xs stands for the i-th of ys -/
def All2 {α β : Type} (R : α → β → Prop) (xs : List α) (ys : List β) : Prop := xs.length = ys.length ∧ ∀ (i : Nat) x y, xs[i]? = some x → ys[i]? = some y → R x y
section
variable {α β : Type} {R R' : α → β → Prop} {xs : List α} {ys : List β}
theorem All2.nil : All2 R [] [] := ⟨rfl, fun i x y h => by simp at h⟩
theorem All2.mono (a : All2 R xs ys) (h : ∀ x y, R x y → R' x y) : All2 R' xs ys := ⟨a.1, fun i x y h1 h2 => h x y (a.2 i x y h1 h2)⟩
theorem All2.get (a : All2 R xs ys) {i : Nat} {x : α} (h : xs[i]? = some x) : ∃ y, ys[i]? = some y ∧ R x y := by
  have hl : i < xs.length := (List.getElem?_eq_some_iff.mp h).1
  have hy : ys[i]? = some (ys[i]'(a.1 ▸ hl)) := List.getElem?_eq_getElem _
  exact ⟨_, hy, a.2 i _ _ h hy⟩
theorem All2.get' (a : All2 R xs ys) {i : Nat} {y : β} (h : ys[i]? = some y) : ∃ x, xs[i]? = some x ∧ R x y := by
  have hl : i < ys.length := (List.getElem?_eq_some_iff.mp h).1
  have hx : xs[i]? = some (xs[i]'(a.1 ▸ hl)) := List.getElem?_eq_getElem _
  exact ⟨_, hx, a.2 i _ _ hx h⟩
theorem All2.append {xs' : List α} {ys' : List β} (a : All2 R xs ys) (b : All2 R xs' ys') : All2 R (xs ++ xs') (ys ++ ys') := by
  refine ⟨by rw [List.length_append, List.length_append, a.1, b.1], fun i x y h1 h2 => ?_⟩
  by_cases h : i < xs.length
  · rw [List.getElem?_append_left h] at h1
    rw [List.getElem?_append_left (a.1 ▸ h)] at h2
    exact a.2 i x y h1 h2
  · rw [List.getElem?_append_right (Nat.le_of_not_lt h)] at h1
    rw [List.getElem?_append_right (by rw [← a.1]; exact Nat.le_of_not_lt h), ← a.1] at h2
    exact b.2 _ x y h1 h2
theorem All2.one {x : α} {y : β} (h : R x y) : All2 R [x] [y] := ⟨rfl, fun i a b h1 h2 => by
  cases i with
  | zero =>
    cases h1
    cases h2
    exact h
  | succ n => simp at h1⟩
theorem All2.snoc {x : α} {y : β} (a : All2 R xs ys) (h : R x y) : All2 R (xs ++ [x]) (ys ++ [y]) := a.append (All2.one h)
theorem All2.cons {x : α} {y : β} (h : R x y) (a : All2 R xs ys) : All2 R (x :: xs) (y :: ys) := (All2.one h).append a
theorem All2.take (a : All2 R xs ys) (n : Nat) : All2 R (xs.take n) (ys.take n) := ⟨by rw [List.length_take, List.length_take, a.1], fun i x y h1 h2 => by
  rw [List.getElem?_take] at h1 h2
  by_cases h : i < n
  · rw [if_pos h] at h1 h2
    exact a.2 i x y h1 h2
  · rw [if_neg h] at h1
    cases h1⟩
theorem All2.dropLast (a : All2 R xs ys) : All2 R xs.dropLast ys.dropLast := by
  rw [List.dropLast_eq_take, List.dropLast_eq_take, ← a.1]
  exact a.take _
theorem All2.last (a : All2 R xs ys) {y : β} (h : ys[ys.length - 1]? = some y) : ∃ x, xs[xs.length - 1]? = some x ∧ R x y := by
  rw [← a.1] at h
  exact a.get' h
end
theorem take_succ' {α : Type} {l : List α} {i : Nat} {x : α} (h : l[i]? = some x) : l.take (i + 1) = l.take i ++ [x] := by
  rw [List.take_add_one, h]
  rfl
end Tp
/-! part K1 -/
set_option Elab.async false
set_option linter.all false
set_option maxRecDepth 100000
set_option maxHeartbeats 4000000
/-! the defs, part 1: letters, ints, steps -/
namespace Tp
open PySem PySem.Spec PyProof.Rows L2
section
variable {X : Cx} {K : PySem.W.Frag} {e : Expr} {es : List Expr} {f : Str} {ta te : TE} {t : TA} {pos p : Pos} {tg : Expr}
theorem pe_fldK (he : PE X e ta) (hK : X.K = K := by rfl) (hb : attributeBase e f X.env (eval e X.env) = eval e X.env := by rfl) : PE X (.Attribute e f pos) (tFld K ta f) := hK ▸ pe_fld he hb
theorem ix_tupK (K : PySem.W.Frag) (hK : X.K = K := by rfl) : IxR X (rIxT K) := hK ▸ ix_tup
theorem cr_sortedPOK (K : PySem.W.Frag) (hK : X.K = K := by rfl) : CallR X (.builtin "sorted") (rSortedPO K) := hK ▸ cr_sortedPO
theorem pi_tupK (hl : PE X e te) (hK : X.K = K := by rfl) : PI X tg e (iTup K te) := hK ▸ pi_tup hl
theorem pa_starK (he : PE X e te) (hr : PA X es t) (hK : X.K = K := by rfl) (hs : starEach (.Starred e p :: es) X.env = (true, eval e X.env) :: starEach es X.env := by rfl) : PA X (.Starred e p :: es) (StX.tStar K te t) := hK ▸ StX.pa_star he hr hs
end
theorem pt_never {X : Cx} {e : Expr} : PT X e (fun _ _ _ => False) := pt_no
theorem ifT {A B : Prop} (h : A) : if true = true then A else B := by rw [if_pos rfl]; exact h
theorem ifF {A B : Prop} (h : B) : if false = true then A else B := by rw [if_neg Bool.false_ne_true]; exact h
theorem ifD {p : Prop} [Decidable p] {A B : Prop} (h1 : p → A) (h2 : ¬ p → B) : if decide p = true then A else B := by
  by_cases h : p
  · rw [if_pos (decide_eq_true h)]
    exact h1 h
  · rw [if_neg (by simpa using h)]
    exact h2 h
theorem ifND {p : Prop} [Decidable p] {A B : Prop} (h1 : ¬ p → A) (h2 : p → B) : if (!decide p) = true then A else B := by
  by_cases h : p
  · rw [if_neg (by simpa using h)]
    exact h2 h
  · rw [if_pos (by simpa using h)]
    exact h1 h
/-- a step -/
inductive Stp where
  | l | r | wr (z : Str) | ex (z : Str)
def Stp.vals : Stp → List V
  | .l => [.str "left"]
  | .r => [.str "right"]
  | .wr z => [.str "write", .str z]
  | .ex z => [.str "expect", .str z]
def Stp.ok : Stp → Prop
  | .l => True
  | .r => True
  | .wr z => Let z
  | .ex z => Let z
def Stp.mv : Stp → Int
  | .l => -1
  | .r => 1
  | .wr _ => 0
  | .ex _ => 0
def StepAt (H : Hp) (v : V) (s : Stp) : Prop := ∃ t, v = .ref t ∧ H t = some (.tup s.vals) ∧ s.ok
theorem StepAt.ext {H H' : Hp} {v : V} {s : Stp} (h : StepAt H v s) (e : Ext H H') : StepAt H' v s := let ⟨t, a, b, c⟩ := h; ⟨t, a, e _ _ b, c⟩
def StepsAt (H : Hp) (l : Addr) (ss : List Stp) : Prop := ∃ vs, H l = some (.lst vs) ∧ All2 (StepAt H) vs ss
theorem StepsAt.ext {H H' : Hp} {l : Addr} {ss : List Stp} (h : StepsAt H l ss) (e : Ext H H') : StepsAt H' l ss := let ⟨vs, a, b⟩ := h; ⟨vs, e _ _ a, b.mono fun _ _ q => q.ext e⟩
section
variable {P : Program} {w : World} {K : PySem.W.Frag} {mg : Str → Option Value} {base : Heap}
def sp_is_letter : Sp := fun vs H Q _ => ∃ z, vs = [.str z] ∧ Let z ∧ Q (.bl true) H
theorem sc_is_letter : FnScope ["candidate"] ["candidate"] (defScope s_is_letter) := ⟨rfl, rfl, rfl, by decide +kernel, rfl, by decide +kernel, by decide +kernel⟩
theorem k_is_letter (T : Txt K mg) : FnR P w K mg base CX0 1 (He.ga K "is_letter") (sp_is_letter) := by
  obtain ⟨fd, F⟩ := T.f_is_letter
  obtain ⟨tLETTERS, gLETTERS⟩ := T.x_LETTERS
  refine (fun (G : FnOk P w K mg base CX0 1 _ fd _ (sp_is_letter)) => ?_) (F.ok sc_is_letter (fun vs H Q E h => by obtain ⟨_, rfl, _⟩ := h; rfl) (fun cdv A outer s H vs Q E hr h => ?_))
  · exact (G.raw (F.bindsN fun _ _ _ _ _ _ us hl => match us, hl with | [_], _ => rfl) .nil).imp fun vs H Q E h => by rw [List.append_nil]; exact h
  · have hu := hu_of hr
    have hu0 : (A.deeper (envOfC _ _ s.heap.objs.size _ cdv)).units < cLine := Nat.lt_of_succ_lt hu
    refine ⟨_, PSs.nox (pss_one (ps_ret (pe_and (pe_callB call_isi (by rfl) T.n_isinstance (by decide +kernel) (pa_cons (pv 0) (pa_cons (pe_bltn (v := .ty "str") (by rfl) T.n_str (by decide +kernel) rfl) pa_nil))) (pe_and (pe_cmpR op_eq (pe_callB call_len_str (by rfl) T.n_len (by decide +kernel) (pa_cons (pv 0) pa_nil)) pe_int (nomark _)) (pe_one (pe_cmpR op_in_sign (pv 0) (pe_glob (v := .str "abcdefghijklmnopqrstuvwxyz") (by rfl) gLETTERS ⟨_, rfl⟩) rfl)))))), ?_⟩
    obtain ⟨z, rfl, ⟨c, rfl, hc⟩, q⟩ := h
    refine ⟨_, rfl, _, _, _, _, true, rfl, .ty _, .base (.str _), kit_ty (by decide +kernel), true, rfl, ?_⟩
    refine ⟨_, rfl, _, rfl, (by show 1 ≤ sizeLine; decide), rfl, true, rfl, ?_⟩
    refine ⟨_, rfl, c, LET, rfl, rfl, ?_⟩
    rw [decide_eq_true hc]
    exact q
def sp_is_integer : Sp := fun vs H Q _ => ∃ i, vs = [.int i] ∧ Q (.bl true) H
theorem sc_is_integer : FnScope ["candidate"] ["candidate"] (defScope s_is_integer) := ⟨rfl, rfl, rfl, by decide +kernel, rfl, by decide +kernel, by decide +kernel⟩
theorem k_is_integer (T : Txt K mg) : FnR P w K mg base CX0 1 (He.ga K "is_integer") (sp_is_integer) := by
  obtain ⟨fd, F⟩ := T.f_is_integer
  refine (fun (G : FnOk P w K mg base CX0 1 _ fd _ (sp_is_integer)) => ?_) (F.ok sc_is_integer (fun vs H Q E h => by obtain ⟨_, rfl, _⟩ := h; rfl) (fun cdv A outer s H vs Q E hr h => ?_))
  · exact (G.raw (F.bindsN fun _ _ _ _ _ _ us hl => match us, hl with | [_], _ => rfl) .nil).imp fun vs H Q E h => by rw [List.append_nil]; exact h
  · have hu := hu_of hr
    have hu0 : (A.deeper (envOfC _ _ s.heap.objs.size _ cdv)).units < cLine := Nat.lt_of_succ_lt hu
    refine ⟨_, PSs.nox (pss_one (ps_ret (pe_and (pe_callB call_isi (by rfl) T.n_isinstance (by decide +kernel) (pa_cons (pv 0) (pa_cons (pe_bltn (v := .ty "int") (by rfl) T.n_int (by decide +kernel) rfl) pa_nil))) (pe_one (pe_not (pe_callB call_isi (by rfl) T.n_isinstance (by decide +kernel) (pa_cons (pv 0) (pa_cons (pe_bltn (v := .ty "bool") (by rfl) T.n_bool (by decide +kernel) rfl) pa_nil)))))))), ?_⟩
    obtain ⟨i, rfl, q⟩ := h
    refine ⟨_, rfl, _, _, _, _, true, rfl, .ty _, .base (.int _), kit_ty (by decide +kernel), true, rfl, ?_⟩
    refine ⟨_, rfl, _, _, _, _, false, rfl, .ty _, .base (.int _), kit_ty (by decide +kernel), false, rfl, ?_⟩
    exact q
def sp_check_integer : Sp := fun vs H Q _ => ∃ i, vs = [.int i] ∧ Q .non H
theorem sc_check_integer : FnScope ["candidate"] ["candidate"] (defScope s_check_integer) := ⟨rfl, rfl, rfl, by decide +kernel, rfl, by decide +kernel, by decide +kernel⟩
theorem k_check_integer (T : Txt K mg) : FnR P w K mg base CX0 2 (He.ga K "check_integer") (sp_check_integer) := by
  obtain ⟨fd, F⟩ := T.f_check_integer
  refine (fun (G : FnOk P w K mg base CX0 2 _ fd _ (sp_check_integer)) => ?_) (F.ok sc_check_integer (fun vs H Q E h => by obtain ⟨_, rfl, _⟩ := h; rfl) (fun cdv A outer s H vs Q E hr h => ?_))
  · exact (G.raw (F.bindsN fun _ _ _ _ _ _ us hl => match us, hl with | [_], _ => rfl) .nil).imp fun vs H Q E h => by rw [List.append_nil]; exact h
  · have hu := hu_of hr
    have hu0 : (A.deeper (envOfC _ _ s.heap.objs.size _ cdv)).units < cLine := Nat.lt_of_succ_lt hu
    refine ⟨_, PSs.nox (pss_one (ps_if (pt_not (pt_val (pe_cR (k_is_integer T) (hr.mono (by decide)) (by rfl) T.g_is_integer T.kp_is_integer pass0 (pa_cons (pv 0) pa_nil)))) pss_never pss_nil)), ?_⟩
    obtain ⟨i, rfl, q⟩ := h
    exact ⟨_, rfl, i, rfl, true, rfl, ifF q⟩
def sp_check_count : Sp := fun vs H Q _ => ∃ i : Int, vs = [.int i] ∧ 0 ≤ i ∧ Q .non H
theorem sc_check_count : FnScope ["candidate"] ["candidate"] (defScope s_check_count) := ⟨rfl, rfl, rfl, by decide +kernel, rfl, by decide +kernel, by decide +kernel⟩
theorem k_check_count (T : Txt K mg) : FnR P w K mg base CX0 2 (He.ga K "check_count") (sp_check_count) := by
  obtain ⟨fd, F⟩ := T.f_check_count
  refine (fun (G : FnOk P w K mg base CX0 2 _ fd _ (sp_check_count)) => ?_) (F.ok sc_check_count (fun vs H Q E h => by obtain ⟨_, rfl, _⟩ := h; rfl) (fun cdv A outer s H vs Q E hr h => ?_))
  · exact (G.raw (F.bindsN fun _ _ _ _ _ _ us hl => match us, hl with | [_], _ => rfl) .nil).imp fun vs H Q E h => by rw [List.append_nil]; exact h
  · have hu := hu_of hr
    have hu0 : (A.deeper (envOfC _ _ s.heap.objs.size _ cdv)).units < cLine := Nat.lt_of_succ_lt hu
    refine ⟨_, PSs.nox (pss_one (ps_if (PW.pt (pw_or (pt_not (pt_val (pe_cR (k_is_integer T) (hr.mono (by decide)) (by rfl) T.g_is_integer T.kp_is_integer pass0 (pa_cons (pv 0) pa_nil)))) (pw_or1 (pt_cmpR op_lt (pv 0) pe_int (nomark _))))) pss_never pss_nil)), ?_⟩
    obtain ⟨i, rfl, h0, q⟩ := h
    refine ⟨_, rfl, i, rfl, true, rfl, ?_⟩
    refine ⟨_, rfl, _, _, rfl, rfl, _, rfl, ?_⟩
    exact ifD (fun z => absurd z (by omega)) fun _ => q
def sp_is_step : Sp := fun vs H Q _ => ∃ (v : V) (s : Stp), vs = [v] ∧ StepAt H v s ∧ ∀ H', Ext H H' → Q (.bl true) H'
theorem sc_is_step : FnScope ["candidate"] ["candidate"] (defScope s_is_step) := ⟨rfl, rfl, rfl, by decide +kernel, rfl, by decide +kernel, by decide +kernel⟩
theorem k_is_step (T : Txt K mg) : FnR P w K mg base CX0 2 (He.ga K "is_step") (sp_is_step) := by
  obtain ⟨fd, F⟩ := T.f_is_step
  refine (fun (G : FnOk P w K mg base CX0 2 _ fd _ (sp_is_step)) => ?_) (F.ok sc_is_step (fun vs H Q E h => by obtain ⟨_, _, rfl, _⟩ := h; rfl) (fun cdv A outer s H vs Q E hr h => ?_))
  · exact (G.raw (F.bindsN fun _ _ _ _ _ _ us hl => match us, hl with | [_], _ => rfl) .nil).imp fun vs H Q E h => by rw [List.append_nil]; exact h
  · have hu := hu_of hr
    have hu0 : (A.deeper (envOfC _ _ s.heap.objs.size _ cdv)).units < cLine := Nat.lt_of_succ_lt hu
    refine ⟨_, PSs.nox (pss_cons (ps_if (PW.pt (pw_or (pt_not (pt_val (pe_callB call_isi (by rfl) T.n_isinstance (by decide +kernel) (pa_cons (pv 0) (pa_cons (pe_bltn (v := .ty "tuple") (by rfl) T.n_tuple (by decide +kernel) rfl) pa_nil))))) (pw_or (pt_not (pt_chain op_le op_le pe_int (pe_callB call_len_seq (by rfl) T.n_len (by decide +kernel) (pa_cons (pv 0) pa_nil)) pe_int)) (pw_or1 (pt_not (pt_val (pe_callB call_isi (by rfl) T.n_isinstance (by decide +kernel) (pa_cons (pe_ix ix_tup (pv 0) pe_int (fun _ _ => rfl)) (pa_cons (pe_bltn (v := .ty "str") (by rfl) T.n_str (by decide +kernel) rfl) pa_nil))))))))) (pss_one (ps_ret pe_bl)) pss_nil)
  (pss_cons (ps_if (pt_cmpR op_eq (pe_callB call_len_seq (by rfl) T.n_len (by decide +kernel) (pa_cons (pv 0) pa_nil)) pe_int (nomark _)) (pss_one (ps_ret (pe_cmpR op_in_seq (pe_ix ix_tup (pv 0) pe_int (fun _ _ => rfl)) (pe_tup (pa_cons pe_str (pa_cons pe_str pa_nil))) rfl))) pss_nil)
  (pss_one (ps_ret (pe_and (pe_cmpR op_in_seq (pe_ix ix_tup (pv 0) pe_int (fun _ _ => rfl)) (pe_tup (pa_cons pe_str (pa_cons pe_str pa_nil))) rfl) (pe_one (pe_cR (k_is_letter T) (hr.mono (by decide)) (by rfl) T.g_is_letter T.kp_is_letter pass0 (pa_cons (pe_ix ix_tup (pv 0) pe_int (fun _ _ => rfl)) pa_nil)))))))), ?_⟩
    obtain ⟨v, s0, rfl, ⟨t, rfl, ht, hs⟩, q⟩ := h
    refine ⟨_, rfl, _, _, _, _, true, rfl, .ty _, .base (.tup ht), kit_ty (by decide +kernel), true, rfl, ?_⟩
    cases s0 with
    | l =>
      refine ⟨_, rfl, t, _, rfl, .inr (SqT.of ht), _, _, rfl, rfl, true, rfl, _, _, rfl, rfl, _, rfl, ?_⟩
      refine ⟨_, rfl, t, _, _, _, rfl, rfl, SqT.of ht, rfl, _, _, _, _, true, rfl, .ty _, .base (.str _), kit_ty (by decide +kernel), true, rfl, ?_⟩
      refine ⟨_, rfl, t, _, rfl, .inr (SqT.of ht), rfl, true, rfl, ?_⟩
      refine ⟨_, rfl, t, _, _, _, rfl, rfl, SqT.of ht, rfl, ?_⟩
      refine ⟨by show 2 ≤ sizeLine; decide, fun p hp => ⟨p, _, rfl, .inr (SqT.of upd_same), rfl, rfl, ?_⟩⟩
      exact q _ (Ext.upd hp)
    | r =>
      refine ⟨_, rfl, t, _, rfl, .inr (SqT.of ht), _, _, rfl, rfl, true, rfl, _, _, rfl, rfl, _, rfl, ?_⟩
      refine ⟨_, rfl, t, _, _, _, rfl, rfl, SqT.of ht, rfl, _, _, _, _, true, rfl, .ty _, .base (.str _), kit_ty (by decide +kernel), true, rfl, ?_⟩
      refine ⟨_, rfl, t, _, rfl, .inr (SqT.of ht), rfl, true, rfl, ?_⟩
      refine ⟨_, rfl, t, _, _, _, rfl, rfl, SqT.of ht, rfl, ?_⟩
      refine ⟨by show 2 ≤ sizeLine; decide, fun p hp => ⟨p, _, rfl, .inr (SqT.of upd_same), rfl, rfl, ?_⟩⟩
      exact q _ (Ext.upd hp)
    | wr z =>
      refine ⟨_, rfl, t, _, rfl, .inr (SqT.of ht), _, _, rfl, rfl, true, rfl, _, _, rfl, rfl, _, rfl, ?_⟩
      refine ⟨_, rfl, t, _, _, _, rfl, rfl, SqT.of ht, rfl, _, _, _, _, true, rfl, .ty _, .base (.str _), kit_ty (by decide +kernel), true, rfl, ?_⟩
      refine ⟨_, rfl, t, _, rfl, .inr (SqT.of ht), rfl, false, rfl, ?_⟩
      refine ⟨_, rfl, t, _, _, _, rfl, rfl, SqT.of ht, rfl, ?_⟩
      refine ⟨by show 2 ≤ sizeLine; decide, fun p hp => ⟨p, _, rfl, .inr (SqT.of upd_same), rfl, rfl, true, rfl, ?_⟩⟩
      have ht2 := Ext.upd (o := .tup [V.str "write", V.str "expect"]) hp _ _ ht
      refine ⟨_, rfl, t, _, _, _, rfl, rfl, SqT.of ht2, rfl, z, rfl, hs, ?_⟩
      exact q _ (Ext.upd hp)
    | ex z =>
      refine ⟨_, rfl, t, _, rfl, .inr (SqT.of ht), _, _, rfl, rfl, true, rfl, _, _, rfl, rfl, _, rfl, ?_⟩
      refine ⟨_, rfl, t, _, _, _, rfl, rfl, SqT.of ht, rfl, _, _, _, _, true, rfl, .ty _, .base (.str _), kit_ty (by decide +kernel), true, rfl, ?_⟩
      refine ⟨_, rfl, t, _, rfl, .inr (SqT.of ht), rfl, false, rfl, ?_⟩
      refine ⟨_, rfl, t, _, _, _, rfl, rfl, SqT.of ht, rfl, ?_⟩
      refine ⟨by show 2 ≤ sizeLine; decide, fun p hp => ⟨p, _, rfl, .inr (SqT.of upd_same), rfl, rfl, true, rfl, ?_⟩⟩
      have ht2 := Ext.upd (o := .tup [V.str "write", V.str "expect"]) hp _ _ ht
      refine ⟨_, rfl, t, _, _, _, rfl, rfl, SqT.of ht2, rfl, z, rfl, hs, ?_⟩
      exact q _ (Ext.upd hp)
def sp_move_of : Sp := fun vs H Q _ => ∃ (v : V) (s : Stp), vs = [v] ∧ StepAt H v s ∧ Q (.int s.mv) H
theorem sc_move_of : FnScope ["step"] ["step"] (defScope s_move_of) := ⟨rfl, rfl, rfl, by decide +kernel, rfl, by decide +kernel, by decide +kernel⟩
theorem k_move_of (T : Txt K mg) : FnR P w K mg base CX0 1 (He.ga K "move_of") (sp_move_of) := by
  obtain ⟨fd, F⟩ := T.f_move_of
  refine (fun (G : FnOk P w K mg base CX0 1 _ fd _ (sp_move_of)) => ?_) (F.ok sc_move_of (fun vs H Q E h => by obtain ⟨_, _, rfl, _⟩ := h; rfl) (fun cdv A outer s H vs Q E hr h => ?_))
  · exact (G.raw (F.bindsN fun _ _ _ _ _ _ us hl => match us, hl with | [_], _ => rfl) .nil).imp fun vs H Q E h => by rw [List.append_nil]; exact h
  · have hu := hu_of hr
    have hu0 : (A.deeper (envOfC _ _ s.heap.objs.size _ cdv)).units < cLine := Nat.lt_of_succ_lt hu
    refine ⟨_, PSs.nox (pss_one (ps_match (pe_ix ix_tup (pv 0) pe_int (fun _ _ => rfl)) (pm_str (pss_one (ps_ret (pe_un un_neg pe_int))) (pm_str (pss_one (ps_ret pe_int)) (pm_any (pss_one (ps_ret pe_int))))))), ?_⟩
    obtain ⟨v, s0, rfl, ⟨t, rfl, ht, hs⟩, q⟩ := h
    cases s0 with
    | l =>
      refine ⟨_, rfl, t, _, _, _, rfl, rfl, SqT.of ht, rfl, _, rfl, ifT ?_⟩
      exact ⟨_, rfl, q⟩
    | r =>
      refine ⟨_, rfl, t, _, _, _, rfl, rfl, SqT.of ht, rfl, _, rfl, ifF ⟨_, rfl, ifT ?_⟩⟩
      exact q
    | wr z =>
      refine ⟨_, rfl, t, _, _, _, rfl, rfl, SqT.of ht, rfl, _, rfl, ifF ⟨_, rfl, ifF ?_⟩⟩
      exact q
    | ex z =>
      refine ⟨_, rfl, t, _, _, _, rfl, rfl, SqT.of ht, rfl, _, rfl, ifF ⟨_, rfl, ifF ?_⟩⟩
      exact q
def sp_check_steps (K : PySem.W.Frag) : Sp := fun vs H Q _ => ∃ (l : Addr) (ss : List Stp), vs = [.ref l] ∧ StepsAt H l ss ∧ ∀ H', Ext H H' → Q .non H'
theorem sc_check_steps : FnScope ["candidate", "index", "step"] ["candidate"] (defScope s_check_steps) := ⟨rfl, rfl, rfl, by decide +kernel, rfl, by decide +kernel, by decide +kernel⟩
theorem k_check_steps (T : Txt K mg) : FnR P w K mg base CX0 3 (He.ga K "check_steps") (sp_check_steps K) := by
  obtain ⟨fd, F⟩ := T.f_check_steps
  refine (fun (G : FnOk P w K mg base CX0 3 _ fd _ (sp_check_steps K)) => ?_) (F.ok sc_check_steps (fun vs H Q E h => by obtain ⟨_, _, rfl, _⟩ := h; rfl) (fun cdv A outer s H vs Q E hr h => ?_))
  · exact (G.raw (F.bindsN fun _ _ _ _ _ _ us hl => match us, hl with | [_], _ => rfl) .nil).imp fun vs H Q E h => by rw [List.append_nil]; exact h
  · have hu := hu_of hr
    have hu0 : (A.deeper (envOfC _ _ s.heap.objs.size _ cdv)).units < cLine := Nat.lt_of_succ_lt hu
    refine ⟨_, PSs.nox (pss_cons (ps_if (pt_not (pt_val (pe_callB call_isiT (by rfl) T.n_isinstance (by decide +kernel) (pa_cons (pv 0) (pa_cons (pe_tup (pa_cons (pe_bltn (v := .ty "list") (by rfl) T.n_list (by decide +kernel) rfl) (pa_cons (pe_bltn (v := .ty "tuple") (by rfl) T.n_tuple (by decide +kernel) rfl) pa_nil))) pa_nil))))) pss_never pss_nil)
  (pss_one (ps_for PassesOwn.never rfl (pi_enum (by rfl) T.n_enumerate (pa_cons (pv 0) pa_nil)) (pg_tup rfl (pgs_cons (pg_name (i := 1) sc_check_steps.nd rfl (Or.inl rfl)) (pgs_cons (pg_name (i := 2) sc_check_steps.nd rfl (Or.inl rfl)) pgs_nil))) (pss_one (ps_if (pt_not (pt_val (pe_cR (k_is_step T) (hr.mono (by decide)) (by rfl) T.g_is_step T.kp_is_step pass0 (pa_cons (pv 2) pa_nil)))) pss_never pss_nil))))), ?_⟩
    obtain ⟨l, ss, rfl, ⟨xs, hl, hss⟩, q⟩ := h
    refine ⟨_, rfl, by show 2 ≤ sizeLine; decide, fun p hp => ?_⟩
    have e1 : Ext H (upd H p (.tup [V.ty "list", V.ty "tuple"])) := Ext.upd hp
    refine ⟨_, p, _, _, _, true, rfl, upd_same, .cons (.ty _) (.cons (.ty _) .nil), .base (.lst (e1 _ _ hl)), by rfl, true, rfl, ?_⟩
    refine ifF ?_
    refine ⟨_, rfl, l, xs, rfl, SqL.of (e1 _ _ hl), ?_⟩
    refine for_it (walk_enum (xs := xs)) (fun i σ H' => ∃ v1 v2, σ = [some (.ref l), v1, v2] ∧ Ext H H') ⟨_, _, rfl, e1⟩ (fun i σ H' _ ⟨_, _, _, e⟩ => SqL.of (e _ _ hl)) ?_ ?_
    · rintro i x σ H1 H2 hi ⟨v1, v2, rfl, e⟩ ⟨t, x1, y1, rfl, ht, rfl, h1, h2⟩
      have e2 := e.trans (Ext.upd (o := .tup [x1, y1]) ht)
      refine ⟨t, _, rfl, SqT.of upd_same, rfl, _, _, rfl, _, _, rfl, rfl, ?_⟩
      obtain ⟨st, hst, hs⟩ := hss.get h2
      refine ⟨_, rfl, y1, st, rfl, hs.ext e2, fun H3 e3 => ?_⟩
      exact ⟨true, rfl, ifF ⟨_, _, rfl, e2.trans e3⟩⟩
    · rintro σ H1 ⟨v1, v2, rfl, e⟩
      exact q _ e
def sp_check_with_calls (K : PySem.W.Frag) : Sp := sp_check_steps K
theorem sc_check_with_calls : FnScope ["candidate", "index", "step"] ["candidate"] (defScope s_check_with_calls) := ⟨rfl, rfl, rfl, by decide +kernel, rfl, by decide +kernel, by decide +kernel⟩
theorem k_check_with_calls (T : Txt K mg) : FnR P w K mg base CX0 3 (He.ga K "check_with_calls") (sp_check_with_calls K) := by
  obtain ⟨fd, F⟩ := T.f_check_with_calls
  refine (fun (G : FnOk P w K mg base CX0 3 _ fd _ (sp_check_with_calls K)) => ?_) (F.ok sc_check_with_calls (fun vs H Q E h => by obtain ⟨_, _, rfl, _⟩ := h; rfl) (fun cdv A outer s H vs Q E hr h => ?_))
  · exact (G.raw (F.bindsN fun _ _ _ _ _ _ us hl => match us, hl with | [_], _ => rfl) .nil).imp fun vs H Q E h => by rw [List.append_nil]; exact h
  · have hu := hu_of hr
    have hu0 : (A.deeper (envOfC _ _ s.heap.objs.size _ cdv)).units < cLine := Nat.lt_of_succ_lt hu
    refine ⟨_, PSs.nox (pss_cons (ps_if (pt_not (pt_val (pe_callB call_isiT (by rfl) T.n_isinstance (by decide +kernel) (pa_cons (pv 0) (pa_cons (pe_tup (pa_cons (pe_bltn (v := .ty "list") (by rfl) T.n_list (by decide +kernel) rfl) (pa_cons (pe_bltn (v := .ty "tuple") (by rfl) T.n_tuple (by decide +kernel) rfl) pa_nil))) pa_nil))))) pss_never pss_nil)
  (pss_one (ps_for PassesOwn.never rfl (pi_enum (by rfl) T.n_enumerate (pa_cons (pv 0) pa_nil)) (pg_tup rfl (pgs_cons (pg_name (i := 1) sc_check_with_calls.nd rfl (Or.inl rfl)) (pgs_cons (pg_name (i := 2) sc_check_with_calls.nd rfl (Or.inl rfl)) pgs_nil))) (pss_one (ps_if (PW.pt (pw_and (pt_not (pt_val (pe_cR (k_is_step T) (hr.mono (by decide)) (by rfl) T.g_is_step T.kp_is_step pass0 (pa_cons (pv 2) pa_nil)))) (pw_and1 (pt_never)))) pss_never pss_nil))))), ?_⟩
    obtain ⟨l, ss, rfl, ⟨xs, hl, hss⟩, q⟩ := h
    refine ⟨_, rfl, by show 2 ≤ sizeLine; decide, fun p hp => ?_⟩
    have e1 : Ext H (upd H p (.tup [V.ty "list", V.ty "tuple"])) := Ext.upd hp
    refine ⟨_, p, _, _, _, true, rfl, upd_same, .cons (.ty _) (.cons (.ty _) .nil), .base (.lst (e1 _ _ hl)), by rfl, true, rfl, ?_⟩
    refine ifF ?_
    refine ⟨_, rfl, l, xs, rfl, SqL.of (e1 _ _ hl), ?_⟩
    refine for_it (walk_enum (xs := xs)) (fun i σ H' => ∃ v1 v2, σ = [some (.ref l), v1, v2] ∧ Ext H H') ⟨_, _, rfl, e1⟩ (fun i σ H' _ ⟨_, _, _, e⟩ => SqL.of (e _ _ hl)) ?_ ?_
    · rintro i x σ H1 H2 hi ⟨v1, v2, rfl, e⟩ ⟨t, x1, y1, rfl, ht, rfl, h1, h2⟩
      have e2 := e.trans (Ext.upd (o := .tup [x1, y1]) ht)
      refine ⟨t, _, rfl, SqT.of upd_same, rfl, _, _, rfl, _, _, rfl, rfl, ?_⟩
      obtain ⟨st, hst, hs⟩ := hss.get h2
      refine ⟨_, rfl, y1, st, rfl, hs.ext e2, fun H3 e3 => ?_⟩
      exact ⟨true, rfl, ifF (ifF ⟨_, _, rfl, e2.trans e3⟩)⟩
    · rintro σ H1 ⟨v1, v2, rfl, e⟩
      exact q _ e
end
end Tp
/-! part K2 -/
set_option Elab.async false
set_option linter.all false
set_option maxRecDepth 100000
set_option maxHeartbeats 4000000
/-! the defs, part 2: dicts of letters, tapes, effects -/
namespace Tp
open PySem PySem.Spec PyProof.Rows L2
/-! ### binding of keyword values -/
section
variable {K : PySem.W.Frag} {x qual : Str} {params : Arguments} {body : List Stmt} {scope : Scope} {dvs : List V} {kws : List (Str × V)} {f : Addr} {fd : FuncData} {ps ks : List Str} {n : Nat}
theorem kbn_no (F : FunD K x qual params body scope [] kws f fd)
    (h : ∀ (kV doc pm : Value) (an : Option Addr) (cdv ct : Value) (us ws : List Value), us.length = n → ws.length = ks.length → bindArgs (PySem.W.fnOf x qual params body scope .none kV doc pm an cdv ct) ⟨us, ks.zip ws⟩ = pure (ps.zip (us ++ ws))) :
    KBn K fd ps n ks (fun us ws => us ++ ws) (fun vs zs => vs ++ zs) := by
  obtain ⟨oc, od, dV, kV, doc, pm, an, cdv, ct, osl, rfl, lk, hcd, hD, hK⟩ := F.ex
  rcases hD with ⟨_, rfl⟩ | ⟨e, _⟩
  · exact ⟨fun s us ws _ l1 l2 => BindsTo.of_eq (h kV doc pm an cdv ct us ws l1 l2), fun r1 r2 => r1.append r2⟩
  · exact absurd rfl e
theorem kbn_dv (F : FunD K x qual params body scope dvs kws f fd) (hd : dvs ≠ [])
    (h : ∀ (T : Addr) (kV doc pm : Value) (an : Option Addr) (cdv ct : Value) (us its ws : List Value), us.length = n → its.length = dvs.length → ws.length = ks.length →
      ∃ k, bindArgs (PySem.W.fnOf x qual params body scope (.ref T) kV doc pm an cdv ct) ⟨us, ks.zip ws⟩ = seqItems? (.ref T) >>= k ∧ k (some its.toArray) = pure (ps.zip (us ++ ws))) :
    KBn K fd ps n ks (fun us ws => us ++ ws) (fun vs zs => vs ++ zs) := by
  obtain ⟨oc, od, dV, kV, doc, pm, an, cdv, ct, osl, rfl, lk, hcd, hD, hK⟩ := F.ex
  rcases hD with ⟨e, _⟩ | ⟨_, T, o, its, m, rfl, lT, oT, rT⟩
  · exact absurd e hd
  · refine ⟨fun s us ws X l1 l2 => ?_, fun r1 r2 => r1.append r2⟩
    obtain ⟨k, e1, e2⟩ := h T kV doc pm an cdv ct us its ws l1 rT.length.symm l2
    refine BindsTo.of_looks fun M => ?_
    rw [e1]
    exact looks_items X lT oT (.of_pure e2)
end
/-! ### a thing locked while it is walked -/
structure Lk (H : Hp) (d : Addr) (od : Obj) (u : HO) (Hc : Hp) : Prop where
  src : H d = some u
  at_ : Hc d = some (.frz od u)
  keep : ∀ a o, a ≠ d → H a = some o → Hc a = some o
theorem Lk.start {H : Hp} {d : Addr} {od : Obj} {u : HO} (h : H d = some u) : Lk H d od u (upd H d (.frz od u)) := ⟨h, upd_same, fun a o ne e => by rw [upd_ne ne]; exact e⟩
theorem Lk.new {H Hc : Hp} {d p : Addr} {od : Obj} {u o : HO} (l : Lk H d od u Hc) (h : Hc p = none) : Lk H d od u (upd Hc p o) :=
  ⟨l.src, by rw [upd_ne (ne_of_none l.at_ h)]; exact l.at_, fun a o' ne e => by rw [upd_ne (ne_of_none (l.keep a o' ne e) h)]; exact l.keep a o' ne e⟩
theorem Lk.ext {H Hc Hd : Hp} {d : Addr} {od : Obj} {u : HO} (l : Lk H d od u Hc) (e : Ext Hc Hd) : Lk H d od u Hd := ⟨l.src, e _ _ l.at_, fun a o ne h => e _ _ (l.keep a o ne h)⟩
theorem Lk.fresh {H Hc : Hp} {d p : Addr} {od : Obj} {u : HO} (l : Lk H d od u Hc) (h : Hc p = none) : H p = none := by
  cases e : H p with
  | none => rfl
  | some o =>
    have ne : p ≠ d := fun z => by
      rw [z, l.at_] at h
      cases h
    rw [l.keep p o ne e] at h
    cases h
theorem Lk.put {H Hc : Hp} {d p : Addr} {od : Obj} {u o : HO} (l : Lk H d od u Hc) (h : H p = none) : Lk H d od u (upd Hc p o) := by
  have ne : p ≠ d := fun z => by
    rw [z, l.src] at h
    cases h
  exact ⟨l.src, by rw [upd_ne (Ne.symm ne)]; exact l.at_, fun a o' na e => by
    rw [upd_ne (ne_of_none e h)]
    exact l.keep a o' na e⟩
theorem Lk.back {H Hc : Hp} {d : Addr} {od : Obj} {u : HO} (l : Lk H d od u Hc) : Ext H (upd Hc d u) := fun a o e => by
  by_cases z : a = d
  · subst z
    rw [upd_same]
    rw [l.src] at e
    exact e
  · rw [upd_ne z]
    exact l.keep a o z e
theorem Lk.ne {H Hc : Hp} {d p : Addr} {od : Obj} {u : HO} (l : Lk H d od u Hc) (h : H p = none) : p ≠ d := fun z => by
  rw [z, l.src] at h
  cases h
theorem _root_.L2.Ext.put {H H' : Hp} {p : Addr} {o : HO} (e : Ext H H') (h : H p = none) : Ext H (upd H' p o) := fun a u z => by
  rw [upd_ne (ne_of_none z h)]
  exact e a u z
theorem _root_.L2.Ext.none {H H' : Hp} {p : Addr} (e : Ext H H') (h : H' p = Option.none) : H p = Option.none := by
  cases z : H p with
  | none => rfl
  | some o =>
    rw [e p o z] at h
    cases h
/-- all but what stands at p -/
def ExtBut (p : Addr) (H H' : Hp) : Prop := ∀ a o, a ≠ p → H a = some o → H' a = some o
theorem ExtBut.refl {p : Addr} {H : Hp} : ExtBut p H H := fun _ _ _ e => e
theorem ExtBut.ext {p : Addr} {H H1 H2 : Hp} (a : ExtBut p H H1) (b : Ext H1 H2) : ExtBut p H H2 := fun c o ne e => b c o (a c o ne e)
theorem ExtBut.put {p : Addr} {H H1 : Hp} {o : HO} (a : ExtBut p H H1) : ExtBut p H (upd H1 p o) := fun c o' ne e => by rw [upd_ne ne]; exact a c o' ne e
/-- a new instance made: what stood before stands -/
theorem made_ext {H H' : Hp} {x dx C : Addr} (nx : H x = none) (nd : H dx = none) (k : ExtBut x (upd (upd H dx (.own x)) x (.ins C dx [])) H') : Ext H H' := fun a o e => by
  have h1 : a ≠ x := ne_of_none e nx
  have h2 : a ≠ dx := ne_of_none e nd
  exact k a o h1 (by rw [upd_ne h1, upd_ne h2]; exact e)
/-! ### dicts of letters in the heap -/
def DAt (H : Hp) (d : Addr) (f : PF) (n : Nat) : Prop := ∃ m, H d = some (.dK (tk m)) ∧ Dct m f ∧ m.length ≤ n
theorem DAt.ext {H H' : Hp} {d : Addr} {f : PF} {n : Nat} (h : DAt H d f n) (e : Ext H H') : DAt H' d f n := let ⟨m, a, b⟩ := h; ⟨m, e _ _ a, b⟩
theorem DAt.le {H : Hp} {d : Addr} {f : PF} {n k : Nat} (h : DAt H d f n) (e : n ≤ k) : DAt H d f k := let ⟨m, a, b, c⟩ := h; ⟨m, a, b, Nat.le_trans c e⟩
/-- the value that d.get gives -/
def ov (o : Option Str) : V := match o with
  | some z => .str z
  | none => .non
theorem ov_get (o : Option Str) : (o.map V.str).getD .non = ov o := by cases o <;> rfl
theorem dget_of {H : Hp} {d : Addr} {m : M} {f : PF} (h : Rd H d (.dK (tk m))) (c : Dct m f) (i : Int) : DGet H d (.int i) ((f i).map V.str) := .inl ⟨tk m, Sum.inl i, h, rfl, by rw [valV_tk, c.lk]⟩
theorem isd_of {H : Hp} {d : Addr} {m : M} (h : Rd H d (.dK (tk m))) : IsD H d := .inl ⟨_, h⟩
def BIG : Nat := 1000000
theorem big_line {n : Nat} (h : n ≤ BIG) : n < sizeLine := Nat.lt_of_le_of_lt h (by decide)
/-! ### dicts collected key by key -/
theorem tk_keys (m : M) : (tk m).map (·.1) = (keys m).map Sum.inl := by simp [tk, keys]
/-- of the first i keys of ys, those that g has -/
structure Coll (ys : List Int) (g : PF) (i : Nat) (m : M) : Prop where
  d : Dct m (fun j => if j ∈ ys.take i then g j else none)
  len : m.length ≤ i
theorem Coll.nil {ys : List Int} {g : PF} : Coll ys g 0 [] := ⟨Dct.nil.congr fun i => by simp, Nat.le_refl _⟩
theorem Coll.put {ys : List Int} {g : PF} {i : Nat} {m : M} {k : Int} {z : Str} (c : Coll ys g i m) (h : ys[i]? = some k) (hg : g k = some z) (hz : Let z) : Coll ys g (i + 1) (putM m k z) := by
  refine ⟨(c.d.put hz).congr fun j => ?_, Nat.le_trans (length_put m k z).1 (Nat.succ_le_succ c.len)⟩
  rw [take_succ' h]
  by_cases e : k = j
  · subst e
    simp [hg]
  · have e' : ¬ j = k := fun q => e q.symm
    simp [e, e']
theorem Coll.skip {ys : List Int} {g : PF} {i : Nat} {m : M} {k : Int} (c : Coll ys g i m) (h : ys[i]? = some k) (hg : g k = none) : Coll ys g (i + 1) m := by
  refine ⟨c.d.congr fun j => ?_, Nat.le_succ_of_le c.len⟩
  rw [take_succ' h]
  by_cases e : j = k
  · subst e
    simp [hg]
  · simp [e]
theorem Coll.all {ys : List Int} {g : PF} {m : M} (c : Coll ys g ys.length m) (h : ∀ j z, g j = some z → j ∈ ys) : Dct m g := by
  refine c.d.congr fun j => ?_
  rw [List.take_length]
  by_cases e : j ∈ ys
  · rw [if_pos e]
  · rw [if_neg e]
    cases q : g j with
    | none => rfl
    | some z => exact absurd (h j z q) e
theorem perm_mem {m : M} {f : PF} (d : Dct m f) {ys : List Int} (p : ys.Perm (keys m)) (j : Int) : j ∈ ys ↔ f j ≠ none := by
  rw [p.mem_iff, mem_keys, d.lk]
theorem perm_len {m : M} {ys : List Int} (p : ys.Perm (keys m)) : ys.length = m.length := by rw [p.length_eq]; simp [keys]
theorem Lk.rd {H Hc : Hp} {d a : Addr} {od : Obj} {u o : HO} (l : Lk H d od u Hc) (h : H a = some o) : Rd Hc a o := by
  by_cases z : a = d
  · subst z
    rw [l.src] at h
    cases h
    exact .inr ⟨od, l.at_⟩
  · exact .inl (l.keep a o z h)
theorem scal_ov (o : Option Str) (z : Str) : scal (ov o) (.str z) = true := by cases o <;> rfl
theorem scal_ovs (o p : Option Str) : scal (ov o) (ov p) = true := by cases o <;> cases p <;> rfl
theorem ov_str {o : Option Str} {z : Str} : ov o = .str z ↔ o = some z := by
  cases o with
  | none => exact ⟨fun h => V.noConfusion h, fun h => Option.noConfusion rfl (heq_of_eq h)⟩
  | some y => exact ⟨fun h => by cases h; rfl, fun h => by cases h; rfl⟩
theorem ov_inj {o p : Option Str} : ov o = ov p ↔ o = p := by
  refine ⟨fun h => ?_, fun h => by rw [h]⟩
  cases p with
  | some z => exact ov_str.mp h
  | none =>
    cases o with
    | none => rfl
    | some z => cases h
theorem ov_non {o : Option Str} : ov o = .non ↔ o = none := by
  cases o with
  | none => exact ⟨fun _ => rfl, fun _ => rfl⟩
  | some y => exact ⟨fun h => (by cases h), fun h => (by cases h)⟩
/-! ### tapes -/
def tF (b : Str) (d : Addr) : List (Str × V) := [("blank_letter", .str b), ("own_cells", .ref d)]
theorem tF_1 (b : Str) (d : Addr) : (tF b d).lookup ("blank_letter" : Str) = some (.str b) := by rfl
theorem tF_2 (b : Str) (d : Addr) : (tF b d).lookup ("own_cells" : Str) = some (.ref d) := by rfl
/-- what a tape with the blank b holds, its letters being t -/
def cellsOf (b : Str) (t : Int → Str) : PF := fun i => if t i = b then none else some (t i)
def TapeAt (K : PySem.W.Frag) (H : Hp) (a : Addr) (b : Str) (t : Int → Str) (n : Nat) : Prop := ∃ dx d m, H a = some (.ins (He.ga K "Tape") dx (tF b d)) ∧ H d = some (.dK (tk m)) ∧ Dct m (cellsOf b t) ∧ m.length ≤ n ∧ Let b
theorem TapeAt.ext {K : PySem.W.Frag} {H H' : Hp} {a : Addr} {b : Str} {t : Int → Str} {n : Nat} (h : TapeAt K H a b t n) (e : Ext H H') : TapeAt K H' a b t n := let ⟨dx, d, m, h1, h2, h3⟩ := h; ⟨dx, d, m, e _ _ h1, e _ _ h2, h3⟩
/-- .. its dict being read only -/
def TapeRd (K : PySem.W.Frag) (H : Hp) (a : Addr) (b : Str) (t : Int → Str) : Prop := ∃ dx d m, H a = some (.ins (He.ga K "Tape") dx (tF b d)) ∧ Rd H d (.dK (tk m)) ∧ Dct m (cellsOf b t)
theorem TapeAt.rd {K : PySem.W.Frag} {H : Hp} {a : Addr} {b : Str} {t : Int → Str} {n : Nat} (h : TapeAt K H a b t n) : TapeRd K H a b t := let ⟨dx, d, m, h1, h2, h3, _⟩ := h; ⟨dx, d, m, h1, .inl h2, h3⟩
theorem TapeAt.lk {K : PySem.W.Frag} {H Hc : Hp} {a d : Addr} {b : Str} {t : Int → Str} {n : Nat} {od : Obj} {kvs : List (Key × V)} (h : TapeAt K H a b t n) (l : Lk H d od (.dK kvs) Hc) : TapeRd K Hc a b t := by
  obtain ⟨dx, c, m, h1, h2, h3, _⟩ := h
  refine ⟨dx, c, m, l.keep a _ (fun z => ?_) h1, l.rd h2, h3⟩
  rw [z, l.src] at h1
  cases h1
theorem cells_letter (b : Str) (t : Int → Str) (i : Int) : ((cellsOf b t i).map V.str).getD (.str b) = .str (t i) := by
  unfold cellsOf
  by_cases h : t i = b
  · rw [if_pos h, h]
    rfl
  · rw [if_neg h]
    rfl
section
variable {P : Program} {w : World} {K : PySem.W.Frag} {mg : Str → Option Value} {base : Heap}
def sp_is_letter_dict : Sp := fun vs H Q _ => ∃ (d : Addr) (f : PF), vs = [.ref d] ∧ DAt H d f BIG ∧ ∀ H', Ext H H' → Q (.bl true) H'
theorem sc_is_letter_dict : FnScope ["candidate", "key", "value"] ["candidate"] (defScope s_is_letter_dict) := ⟨rfl, rfl, rfl, by decide +kernel, rfl, by decide +kernel, by decide +kernel⟩
theorem k_is_letter_dict (T : Txt K mg) : FnR P w K mg base CX0 2 (He.ga K "is_letter_dict") (sp_is_letter_dict) := by
  obtain ⟨fd, F⟩ := T.f_is_letter_dict
  refine (fun (G : FnOk P w K mg base CX0 2 _ fd _ (sp_is_letter_dict)) => ?_) (F.ok sc_is_letter_dict (fun vs H Q E h => by obtain ⟨_, _, rfl, _⟩ := h; rfl) (fun cdv A outer s H vs Q E hr h => ?_))
  · exact (G.raw (F.bindsN fun _ _ _ _ _ _ us hl => match us, hl with | [_], _ => rfl) .nil).imp fun vs H Q E h => by rw [List.append_nil]; exact h
  · have hu := hu_of hr
    have hu0 : (A.deeper (envOfC _ _ s.heap.objs.size _ cdv)).units < cLine := Nat.lt_of_succ_lt hu
    refine ⟨_, PSs.nox (pss_cons (ps_if (pt_not (pt_val (pe_callB call_isi (by rfl) T.n_isinstance (by decide +kernel) (pa_cons (pv 0) (pa_cons (pe_bltn (v := .ty "dict") (by rfl) T.n_dict (by decide +kernel) rfl) pa_nil))))) (pss_one (ps_ret pe_bl)) pss_nil)
  (pss_one (ps_ret (pe_callB (cr_all (by rfl)) (by rfl) T.n_all (by decide +kernel) (pa_cons (pe_lock (pe_lc (own := [("key", 1), ("value", 2)]) (g := (gTup K 2 (gCons (gName 1) (gCons (gName 2) gNil)))) rfl sc_is_letter_dict.nd (pi_items (pv 0)) (blkOk_by (own := [("key", 1), ("value", 2)]) (N := ["candidate", "key", "value"]) (sc := defScope s_is_letter_dict) (by decide +kernel)) (fun _ _ _ _ _ => (pg_tup rfl (pgs_cons (pg_name (i := 1) sc_is_letter_dict.nd rfl (Or.inl rfl)) (pgs_cons (pg_name (i := 2) sc_is_letter_dict.nd rfl (Or.inl rfl)) pgs_nil)))) (fun _ _ _ _ _ => pts_nil) (fun _ _ _ _ _ => (pe_and (pe_cR (k_is_integer T) (hr.mono (by decide)) (by rfl) T.g_is_integer T.kp_is_integer pass0 (pa_cons (pv 1) pa_nil)) (pe_one (pe_cR (k_is_letter T) (hr.mono (by decide)) (by rfl) T.g_is_letter T.kp_is_letter pass0 (pa_cons (pv 2) pa_nil))))))) pa_nil))))), ?_⟩
    obtain ⟨d, f, rfl, ⟨m, hd, hm, hn⟩, q⟩ := h
    refine ⟨_, rfl, _, _, _, _, true, rfl, .ty _, .base (.dK hd), kit_ty (by decide +kernel), true, rfl, ?_⟩
    refine ifF ?_
    refine ⟨d, _, hd, trivial, fun od => ?_⟩
    refine ⟨_, rfl, d, od, tk m, rfl, upd_same, fun D hD => ?_⟩
    have hD0 : H D = none := (Lk.start hd).fresh hD
    refine lc_it walk_items (fun i Hc => Lk H d od (.dK (tk m)) Hc ∧ Hc D = some (.lst (List.replicate i (.bl true)))) ⟨(Lk.start hd).new hD, upd_same⟩ (fun i Hc _ p => p.1.at_) ?_ ?_
    · rintro i x Hc H1 hi ⟨l, hL⟩ ⟨t, x1, y1, rfl, ht, rfl, h1, h2⟩
      have l2 : Lk H d od (.dK (tk m)) (upd Hc t (.tup [x1, y1])) := l.new ht
      have hL2 : (upd Hc t (.tup [x1, y1])) D = some (.lst (List.replicate i (.bl true))) := by rw [upd_ne (ne_of_none hL ht)]; exact hL
      obtain ⟨p, hp, e⟩ := Option.map_eq_some_iff.mp h1
      obtain ⟨p2, hp2, e2⟩ := Option.map_eq_some_iff.mp h2
      obtain ⟨qq, hq, rfl⟩ := tk_get hp
      rw [hp] at hp2
      cases hp2
      subst e e2
      refine ⟨t, _, rfl, SqT.of upd_same, rfl, _, _, rfl, _, _, rfl, rfl, rfl, ?_⟩
      refine ⟨_, rfl, qq.1, rfl, true, rfl, ?_⟩
      refine ⟨_, rfl, qq.2, rfl, hm.lt _ (List.mem_of_getElem? hq), ?_⟩
      refine ⟨_, hL2, ?_, l2.put hD0, ?_⟩
      · rw [List.length_replicate]
        rw [tk_length] at hi
        exact big_line (by omega)
      · rw [upd_same, List.replicate_succ']
    · rintro Hc ⟨l, hL⟩
      refine ⟨l.at_, D, List.replicate (tk m).length true, rfl, SqL.of ?_, ?_⟩
      · rw [upd_ne (l.ne hD0), hL, List.map_replicate]
      · rw [show (List.replicate (tk m).length true).all id = true from by simp]
        exact q _ l.back
def sp_by_offset (K : PySem.W.Frag) : Sp := fun vs H Q _ => ∃ (d : Addr) (f : PF) (n : Nat), vs = [.ref d] ∧ DAt H d f n ∧ n ≤ BIG ∧ ∀ p H', Ext H H' → DAt H' p f n → H p = none → Q (.ref p) H'
theorem sc_by_offset : FnScope ["letters", "offset"] ["letters"] (defScope s_by_offset) := ⟨rfl, rfl, rfl, by decide +kernel, rfl, by decide +kernel, by decide +kernel⟩
theorem k_by_offset (T : Txt K mg) : FnR P w K mg base CX0 2 (He.ga K "by_offset") (sp_by_offset K) := by
  obtain ⟨fd, F⟩ := T.f_by_offset
  refine (fun (G : FnOk P w K mg base CX0 2 _ fd _ (sp_by_offset K)) => ?_) (F.ok sc_by_offset (fun vs H Q E h => by obtain ⟨_, _, _, rfl, _⟩ := h; rfl) (fun cdv A outer s H vs Q E hr h => ?_))
  · exact (G.raw (F.bindsN fun _ _ _ _ _ _ us hl => match us, hl with | [_], _ => rfl) .nil).imp fun vs H Q E h => by rw [List.append_nil]; exact h
  · have hu := hu_of hr
    have hu0 : (A.deeper (envOfC _ _ s.heap.objs.size _ cdv)).units < cLine := Nat.lt_of_succ_lt hu
    refine ⟨_, PSs.nox (pss_one (ps_ret (pe_dc (own := [("offset", 1)]) (g := (gName 1)) rfl sc_by_offset.nd (pi_list (pe_callB (cr_sortedDI (by rfl)) (by rfl) T.n_sorted (by decide +kernel) (pa_cons (pv 0) pa_nil))) (blkOk_by (own := [("offset", 1)]) (N := ["letters", "offset"]) (sc := defScope s_by_offset) (by decide +kernel)) (fun _ _ _ _ _ => (pg_name (i := 1) sc_by_offset.nd rfl (Or.inl rfl))) (fun _ _ _ _ _ => pts_nil) (fun _ _ _ _ _ => (pv 1)) (fun _ _ _ _ _ => (pe_dget hu (pv 0) (pv 1) (fun _ _ => rfl)))))), ?_⟩
    obtain ⟨d, f, n, rfl, ⟨m, hd, hm, hn⟩, hb, q⟩ := h
    refine ⟨_, rfl, d, tk m, keys m, rfl, .inl hd, tk_keys m, fun ys p hp _ np => ?_⟩
    have e1 : Ext H (upd H p (.lst (ys.map V.int))) := Ext.upd np
    refine ⟨p, rfl, ⟨_, SqL.of upd_same⟩, fun D hD => ?_⟩
    have e2 : Ext H (upd (upd H p (.lst (ys.map V.int))) D (.dK [])) := e1.trans (Ext.upd hD)
    have hl := perm_len hp
    refine dc_it (walk_list (xs := ys.map V.int)) (fun i Hc => Ext (upd H p (.lst (ys.map V.int))) Hc ∧ ∃ mi, Hc D = some (.dK (tk mi)) ∧ Coll ys f i mi) ⟨Ext.upd hD, [], upd_same, Coll.nil⟩ (fun i Hc _ z => SqL.of (z.1 _ _ upd_same)) ?_ ?_
    · rintro i x Hc H1 hi ⟨e, mi, hM, c⟩ ⟨rfl, hx⟩
      rw [List.getElem?_map] at hx
      obtain ⟨k, hk, rfl⟩ := Option.map_eq_some_iff.mp hx
      have hmem : k ∈ ys := List.mem_of_getElem? hk
      obtain ⟨z, hz⟩ := Option.ne_none_iff_exists'.mp ((perm_mem hm hp k).mp hmem)
      have hdc : H1 d = some (.dK (tk m)) := e _ _ (e1 _ _ hd)
      have g := dget_of (.inl hdc) hm k
      rw [hz] at g
      refine ⟨rfl, _, rfl, _, rfl, _, rfl, d, _, rfl, g, tk mi, Sum.inl k, rfl, hM, ?_, ?_⟩
      · rw [tk_length]
        rw [List.length_map] at hi
        have := c.len
        exact big_line (by omega)
      · refine ⟨e.put hD, putM mi k z, ?_, c.put hk hz (hm.letter hz)⟩
        rw [upd_same, putK_tk c.d.nd]
    · rintro Hc ⟨e, mi, hM, c⟩
      rw [List.length_map] at c
      refine q D Hc (e1.trans e) ⟨mi, hM, c.all fun j z hj => (perm_mem hm hp j).mpr (by rw [hj]; simp), ?_⟩ (e1.none hD)
      have := c.len
      omega
def sp_is_normal : Sp := fun vs H Q _ => ∃ (d1 d2 : Addr) (N P : PF) (k : Int), vs = [.ref d1, .ref d2, .int k] ∧ DAt H d1 N BIG ∧ DAt H d2 P BIG ∧ (∀ i z, P i = some z → N i ≠ some z) ∧ ∀ H', Ext H H' → Q (.bl true) H'
theorem sc_is_normal : FnScope ["expected", "changed", "shift", "offset", "letter"] ["expected", "changed", "shift"] (defScope s_is_normal) := ⟨rfl, rfl, rfl, by decide +kernel, rfl, by decide +kernel, by decide +kernel⟩
theorem k_is_normal (T : Txt K mg) : FnR P w K mg base CX0 3 (He.ga K "is_normal") (sp_is_normal) := by
  obtain ⟨fd, F⟩ := T.f_is_normal
  refine (fun (G : FnOk P w K mg base CX0 3 _ fd _ (sp_is_normal)) => ?_) (F.ok sc_is_normal (fun vs H Q E h => by obtain ⟨_, _, _, _, _, rfl, _⟩ := h; rfl) (fun cdv A outer s H vs Q E hr h => ?_))
  · exact (G.raw (F.bindsN fun _ _ _ _ _ _ us hl => match us, hl with | [_, _, _], _ => rfl) .nil).imp fun vs H Q E h => by rw [List.append_nil]; exact h
  · have hu := hu_of hr
    have hu0 : (A.deeper (envOfC _ _ s.heap.objs.size _ cdv)).units < cLine := Nat.lt_of_succ_lt hu
    refine ⟨_, PSs.nox (pss_cons (ps_if (PW.pt (pw_or (pt_not (pt_val (pe_cR (k_is_letter_dict T) (hr.mono (by decide)) (by rfl) T.g_is_letter_dict T.kp_is_letter_dict pass0 (pa_cons (pv 0) pa_nil)))) (pw_or (pt_not (pt_val (pe_cR (k_is_letter_dict T) (hr.mono (by decide)) (by rfl) T.g_is_letter_dict T.kp_is_letter_dict pass0 (pa_cons (pv 1) pa_nil)))) (pw_or1 (pt_not (pt_val (pe_cR (k_is_integer T) (hr.mono (by decide)) (by rfl) T.g_is_integer T.kp_is_integer pass0 (pa_cons (pv 2) pa_nil)))))))) (pss_one (ps_ret pe_bl)) pss_nil)
  (pss_one (ps_ret (pe_callB (cr_all (by rfl)) (by rfl) T.n_all (by decide +kernel) (pa_cons (pe_lock (pe_lc (own := [("offset", 3), ("letter", 4)]) (g := (gTup K 2 (gCons (gName 3) (gCons (gName 4) gNil)))) rfl sc_is_normal.nd (pi_items (pv 1)) (blkOk_by (own := [("offset", 3), ("letter", 4)]) (N := ["expected", "changed", "shift", "offset", "letter"]) (sc := defScope s_is_normal) (by decide +kernel)) (fun _ _ _ _ _ => (pg_tup rfl (pgs_cons (pg_name (i := 3) sc_is_normal.nd rfl (Or.inl rfl)) (pgs_cons (pg_name (i := 4) sc_is_normal.nd rfl (Or.inl rfl)) pgs_nil)))) (fun _ _ _ _ _ => pts_nil) (fun _ _ _ _ _ => (pe_cmpR op_ne (pe_dget1 hu (pv 0) (pv 3) ⟨rfl, rfl, rfl, rfl⟩) (pv 4) (nomark _))))) pa_nil))))), ?_⟩
    obtain ⟨d1, d2, N, P, k, rfl, h1, h2, hn, q⟩ := h
    refine ⟨_, rfl, d1, N, rfl, h1, fun H1 e1 => ⟨true, rfl, ifF ?_⟩⟩
    refine ⟨_, rfl, d2, P, rfl, h2.ext e1, fun H2 e2 => ⟨true, rfl, ifF ?_⟩⟩
    refine ⟨_, rfl, k, rfl, true, rfl, ifF ?_⟩
    obtain ⟨m1, hd1, c1, l1⟩ := (h1.ext e1).ext e2
    obtain ⟨m2, hd2, c2, l2⟩ := (h2.ext e1).ext e2
    refine ⟨d2, _, hd2, trivial, fun od => ?_⟩
    refine ⟨_, rfl, d2, od, tk m2, rfl, upd_same, fun D hD => ?_⟩
    have hD0 : H2 D = none := (Lk.start hd2).fresh hD
    refine lc_it walk_items (fun i Hc => Lk H2 d2 od (.dK (tk m2)) Hc ∧ Hc D = some (.lst (List.replicate i (.bl true)))) ⟨(Lk.start hd2).new hD, upd_same⟩ (fun i Hc _ p => p.1.at_) ?_ ?_
    · rintro i x Hc H1 hi ⟨l, hL⟩ ⟨t, x1, y1, rfl, ht, rfl, g1, g2⟩
      have l3 : Lk H2 d2 od (.dK (tk m2)) (upd Hc t (.tup [x1, y1])) := l.new ht
      have hL2 : (upd Hc t (.tup [x1, y1])) D = some (.lst (List.replicate i (.bl true))) := by rw [upd_ne (ne_of_none hL ht)]; exact hL
      obtain ⟨p, hp, e⟩ := Option.map_eq_some_iff.mp g1
      obtain ⟨p2, hp2, e2⟩ := Option.map_eq_some_iff.mp g2
      obtain ⟨qq, hq, rfl⟩ := tk_get hp
      rw [hp] at hp2
      cases hp2
      subst e e2
      have hmem := List.mem_of_getElem? hq
      have hP : P qq.1 = some qq.2 := (c2.lk _).symm.trans (mem_look c2.nd hmem)
      refine ⟨t, _, rfl, SqT.of upd_same, rfl, _, _, rfl, _, _, rfl, rfl, rfl, ?_⟩
      refine ⟨_, rfl, d1, rfl, isd_of (l3.rd hd1), _, rfl, _, dget_of (l3.rd hd1) c1 _, _, rfl, ?_⟩
      rw [ov_get]
      refine ⟨scal_ov _ _, _, hL2, ?_, l3.put hD0, ?_⟩
      · rw [List.length_replicate]
        rw [tk_length] at hi
        exact big_line (by omega)
      · have : decide (ov (N qq.1) = V.str qq.2) = false := decide_eq_false fun z => hn _ _ hP (ov_str.mp z)
        rw [this, upd_same, List.replicate_succ']
        rfl
    · rintro Hc ⟨l, hL⟩
      refine ⟨l.at_, D, List.replicate (tk m2).length true, rfl, SqL.of ?_, ?_⟩
      · rw [upd_ne (l.ne hD0), hL, List.map_replicate]
      · rw [show (List.replicate (tk m2).length true).all id = true from by simp]
        exact q _ ((e1.trans e2).trans l.back)
theorem cells_of (b : Str) (g : PF) : cellsOf b (fun i => (g i).getD b) = fun i => (g i).bind fun z => if z = b then none else some z := by
  funext i
  show (if (g i).getD b = b then none else some ((g i).getD b)) = _
  cases g i with
  | none => simp
  | some z => rfl
theorem ExtBut.fresh {x D : Addr} {H Hc : Hp} {o : HO} (e : ExtBut x H Hc) (hx : Hc x = some o) (h : Hc D = none) : H D = none ∧ D ≠ x := by
  have ne : D ≠ x := fun z => by
    rw [z, hx] at h
    cases h
  cases z : H D with
  | none => exact ⟨rfl, ne⟩
  | some u =>
    rw [e D u ne z] at h
    cases h
theorem ExtBut.at_ {x D : Addr} {H Hc : Hp} {o : HO} (e : ExtBut x H Hc) (h : H D = none) : ExtBut x H (upd Hc D o) := fun a u ne z => by
  rw [upd_ne (ne_of_none z h)]
  exact e a u ne z
def sp_Tape_init (K : PySem.W.Frag) : Sp := fun vs H Q _ => ∃ (x dx c : Addr) (b : Str) (g : PF) (n : Nat), vs = [.ref x, .str b, .ref c] ∧ H x = some (.ins (He.ga K "Tape") dx []) ∧ Let b ∧ DAt H c g n ∧ n ≤ BIG ∧
  ∀ H', ExtBut x H H' → TapeAt K H' x b (fun i => (g i).getD b) n → Q .non H'
theorem sc_Tape_init : FnScope ["self", "blank", "cells", "position"] ["self", "blank", "cells"] (defScope s_Tape_init) := ⟨rfl, rfl, rfl, by decide +kernel, rfl, by decide +kernel, by decide +kernel⟩
theorem k_Tape_init (T : Txt K mg) : FnN P w K mg base CX0 3 (He.ma K (He.ga K "Tape") "__init__") 2 ["cells"] (sp_Tape_init K) := by
  obtain ⟨fd, F⟩ := T.f_Tape_init
  refine (fun (G : FnOk P w K mg base CX0 3 _ fd _ (sp_Tape_init K)) => ?_) (F.ok sc_Tape_init (fun vs H Q E h => by obtain ⟨_, _, _, _, _, _, rfl, _⟩ := h; rfl) (fun cdv A outer s H vs Q E hr h => ?_))
  · exact fnN_of G (kbn_dv F (by simp) fun _ _ _ _ _ _ _ us its ws l1 l2 l3 => match us, l1, its, l2, ws, l3 with | [_, _], _, [_], _, [_], _ => ⟨_, rfl, rfl⟩) (fun _ _ _ _ => rfl)
  · have hu := hu_of hr
    have hu0 : (A.deeper (envOfC _ _ s.heap.objs.size _ cdv)).units < cLine := Nat.lt_of_succ_lt hu
    refine ⟨_, PSs.nox (pss_cons (ps_if (pt_not (pt_val (pe_cR (k_is_letter T) (hr.mono (by decide)) (by rfl) T.g_is_letter T.kp_is_letter pass0 (pa_cons (pv 1) pa_nil)))) pss_never pss_nil)
  (pss_cons (ps_if (PW.pt (pw_and (pt_cmpR op_notN (pv 2) pe_non (nomark _)) (pw_and1 (pt_not (pt_val (pe_cR (k_is_letter_dict T) (hr.mono (by decide)) (by rfl) T.g_is_letter_dict T.kp_is_letter_dict pass0 (pa_cons (pv 2) pa_nil))))))) pss_never pss_nil)
  (pss_cons (ps_fld (pv 0) (pv 1) rfl)
  (pss_cons (ps_fld (pv 0) pe_dnewK rfl)
  (pss_one (ps_if (pt_cmpR op_notN (pv 2) pe_non (nomark _)) (pss_one (ps_fld (pv 0) (pe_dc (own := [("position", 3)]) (g := (gName 3)) rfl sc_Tape_init.nd (pi_list (pe_callB (cr_sortedDI (by rfl)) (by rfl) T.n_sorted (by decide +kernel) (pa_cons (pv 2) pa_nil))) (blkOk_by (own := [("position", 3)]) (N := ["self", "blank", "cells", "position"]) (sc := defScope s_Tape_init) (by decide +kernel)) (fun _ _ _ _ _ => (pg_name (i := 3) sc_Tape_init.nd rfl (Or.inl rfl))) (fun _ _ _ _ _ => (pts_one (pt_cmpR op_ne (pe_dget hu (pv 2) (pv 3) (fun _ _ => rfl)) (pv 1) (nomark _)))) (fun _ _ _ _ _ => (pv 3)) (fun _ _ _ _ _ => (pe_dget hu (pv 2) (pv 3) (fun _ _ => rfl)))) rfl)) pss_nil)))))), ?_⟩
    obtain ⟨x, dx, c, b, g, n, rfl, hx, hb, hc, hn, q⟩ := h
    have hc0 : c ≠ x := by
      obtain ⟨m, hm, _⟩ := hc
      exact ne_of hm hx (by intro z; cases z)
    refine ⟨_, rfl, b, rfl, hb, true, rfl, ifF ?_⟩
    refine ⟨_, rfl, rfl, true, rfl, ?_⟩
    refine ⟨_, rfl, c, g, rfl, hc.le hn, fun H1 e1 => ⟨true, rfl, ifF ?_⟩⟩
    obtain ⟨m, hd, hm, hl⟩ := hc.ext e1
    -- the two fields
    refine ⟨_, rfl, _, rfl, x, _, dx, _, rfl, e1 _ _ hx, T.c_Tape, T.a_Tape_blank_letter, (by show 0 < 1000; decide), ?_⟩
    intro p0 hp0
    have np0x : p0 ≠ x := fun z => by
      rw [z, upd_same] at hp0
      cases hp0
    refine ⟨_, rfl, x, _, dx, _, rfl, (by rw [upd_ne (Ne.symm np0x)]; exact upd_same), T.c_Tape, T.a_Tape_own_cells, (by show 1 < 1000; decide), ?_⟩
    refine ⟨_, rfl, rfl, true, rfl, ?_⟩
    -- the cells
    have eb0 : ExtBut x H H1 := fun a o _ e => e1 a o e
    rw [upd_ne np0x] at hp0
    have eb3 : ∀ o1 o2 o3, ExtBut x H (upd (upd (upd H1 x o1) p0 o2) x o3) := fun o1 o2 o3 => ((eb0.put (o := o1)).at_ (eb0.fresh (e1 _ _ hx) hp0).1).put
    have hd3 : ∀ o1 o2 o3, (upd (upd (upd H1 x o1) p0 o2) x o3) c = some (.dK (tk m)) := fun o1 o2 o3 => by
      rw [upd_ne hc0, upd_ne (ne_of_none hd hp0), upd_ne hc0]
      exact hd
    refine ⟨_, rfl, c, tk m, keys m, rfl, .inl (hd3 _ _ _), tk_keys m, fun ys p hp _ np => ?_⟩
    refine ⟨p, rfl, ⟨_, SqL.of upd_same⟩, fun D hD => ?_⟩
    have hlen := perm_len hp
    have npx : p ≠ x := fun z => by
      rw [z, upd_same] at np
      cases np
    have nDp : D ≠ p := fun z => by
      rw [z, upd_same] at hD
      cases hD
    rw [upd_ne nDp] at hD
    have nDx : D ≠ x := fun z => by
      rw [z, upd_same] at hD
      cases hD
    have hp0' : H p = none := ((eb3 _ _ _).fresh upd_same np).1
    have hD0 : H D = none := ((eb3 _ _ _).fresh upd_same hD).1
    have nDc : c ≠ D := ne_of_none (hd3 _ _ _) hD
    have nDpc : c ≠ p := ne_of_none (hd3 _ _ _) np
    refine dc_it (walk_list (xs := ys.map V.int)) (fun i Hc => ExtBut x H Hc ∧ (∃ fs, Hc x = some (.ins (He.ga K "Tape") dx fs) ∧ putF "own_cells" (V.ref D) fs = tF b D ∧ fs.length = 2) ∧ Hc c = some (.dK (tk m)) ∧ Hc p = some (.lst (ys.map V.int)) ∧ ∃ mi, Hc D = some (.dK (tk mi)) ∧ Coll ys (fun i => (g i).bind fun z => if z = b then none else some z) i mi)
      ⟨((eb3 _ _ _).at_ hp0').at_ hD0, ⟨_, (by rw [upd_ne (Ne.symm nDx), upd_ne (Ne.symm npx)]; exact upd_same), by rfl, by rfl⟩, (by rw [upd_ne nDc, upd_ne nDpc]; exact hd3 _ _ _), (by rw [upd_ne (Ne.symm nDp)]; exact upd_same), [], upd_same, Coll.nil⟩ (fun i Hc _ z => SqL.of z.2.2.2.1) ?_ ?_
    · rintro i y Hc H2 hi ⟨e, hxc, hcc, hpc, mi, hM, cc⟩ ⟨rfl, hy⟩
      rw [List.getElem?_map] at hy
      obtain ⟨k, hk, rfl⟩ := Option.map_eq_some_iff.mp hy
      have hmem : k ∈ ys := List.mem_of_getElem? hk
      obtain ⟨z, hz⟩ := Option.ne_none_iff_exists'.mp ((perm_mem hm hp k).mp hmem)
      have gg := dget_of (.inl hcc) hm k
      rw [hz] at gg
      refine ⟨rfl, _, rfl, _, rfl, c, _, rfl, gg, _, rfl, rfl, _, rfl, ?_⟩
      refine ifND (fun ne => ?_) fun eq => ?_
      · have ne' : ¬ z = b := fun q => ne (by rw [q])
        refine ⟨_, rfl, _, rfl, _, rfl, c, _, rfl, gg, tk mi, Sum.inl k, rfl, hM, ?_, ?_⟩
        · rw [tk_length]
          rw [List.length_map] at hi
          have := cc.len
          exact big_line (by omega)
        · obtain ⟨fs, hx1, hx2⟩ := hxc
          refine ⟨e.at_ hD0, ⟨fs, (by rw [upd_ne (Ne.symm nDx)]; exact hx1), hx2⟩, (by rw [upd_ne nDc]; exact hcc), (by rw [upd_ne (Ne.symm nDp)]; exact hpc), putM mi k z, ?_, cc.put hk (by rw [hz]; simp [ne']) (hm.letter hz)⟩
          rw [upd_same, putK_tk cc.d.nd]
      · have eq' : z = b := by
          cases eq
          rfl
        exact ⟨e, hxc, hcc, hpc, mi, hM, cc.skip hk (by rw [hz]; simp [eq'])⟩
    · rintro Hc ⟨e, ⟨fs, hx1, hx2, hx3⟩, hcc, hpc, mi, hM, cc⟩
      rw [List.length_map] at cc
      refine ⟨_, rfl, x, _, dx, fs, rfl, hx1, T.c_Tape, T.a_Tape_own_cells, (by omega), ?_⟩
      refine q _ e.put ⟨dx, D, mi, ?_, ?_, ?_, ?_, hb⟩
      · rw [upd_same, hx2]
      · rw [upd_ne nDx]
        exact hM
      · rw [cells_of]
        exact cc.all fun j z hj => (perm_mem hm hp j).mpr fun q => by
          rw [q] at hj
          cases hj
      · have := cc.len
        omega
theorem kit_self (v : Value) : PySem.W.kitOne K v v = some true := by
  unfold PySem.W.kitOne
  rw [if_pos (beq_self_eq_true v)]
/-- two tapes with the same letters -/
def TapeEq (K : PySem.W.Frag) (a b : Addr) (H : Hp) : Prop := ∃ z t n m, TapeAt K H a z t n ∧ TapeAt K H b z t m
theorem ddict_of {H : Hp} {a b : Addr} {f : PF} {m k : M} (ha : H a = some (.dK (tk m))) (hb : H b = some (.dK (tk k))) (d : Dct m f) (e : Dct k f) : DDict (.ref a) (.ref b) H := by
  refine ⟨a, b, tk m, tk k, rfl, rfl, ha, hb, by rw [tk_length, tk_length]; exact keys_perm d e, fun p hp => ?_⟩
  unfold tk at hp
  obtain ⟨q, hq, rfl⟩ := List.mem_map.mp hp
  refine ⟨?_, rfl⟩
  show valV (tk k) (Sum.inl q.1) = _
  rw [valV_tk, e.lk, ← d.lk, mem_look d.nd hq]
  rfl
def sp_Tape_eq (K : PySem.W.Frag) : Sp := spEq (TapeEq K)
theorem sc_Tape_eq : FnScope ["self", "other"] ["self", "other"] (defScope s_Tape_eq) := ⟨rfl, rfl, rfl, by decide +kernel, rfl, by decide +kernel, by decide +kernel⟩
theorem k_Tape_eq (T : Txt K mg) : FnR P w K mg base CX0 1 (He.ma K (He.ga K "Tape") "__eq__") (sp_Tape_eq K) := by
  obtain ⟨fd, F⟩ := T.f_Tape_eq
  refine (fun (G : FnOk P w K mg base CX0 1 _ fd _ (sp_Tape_eq K)) => ?_) (F.ok sc_Tape_eq (fun vs H Q E h => by obtain ⟨_, _, rfl, _⟩ := h; rfl) (fun cdv A outer s H vs Q E hr h => ?_))
  · exact (G.raw (F.bindsN fun _ _ _ _ _ _ us hl => match us, hl with | [_, _], _ => rfl) .nil).imp fun vs H Q E h => by rw [List.append_nil]; exact h
  · have hu := hu_of hr
    have hu0 : (A.deeper (envOfC _ _ s.heap.objs.size _ cdv)).units < cLine := Nat.lt_of_succ_lt hu
    refine ⟨_, PSs.nox (pss_cons (ps_if (pt_not (pt_val (pe_callB call_isi (by rfl) T.n_isinstance (by decide +kernel) (pa_cons (pv 1) (pa_cons (pe_glob (v := .ref (He.ga _ "Tape")) (by rfl) T.g_Tape rfl) pa_nil))))) (pss_one (ps_ret pe_bl)) pss_nil)
  (pss_one (ps_ret (pe_and (pe_cmpR op_eq (pe_fld (pv 0) rfl) (pe_fld (pv 1) rfl) (nomark _)) (pe_one (pe_cmpR (op_eqG rcG_dict (hr.mono (by decide))) (pe_fld (pv 0) rfl) (pe_fld (pv 1) rfl) (nomark _))))))), ?_⟩
    obtain ⟨a, c, rfl, ⟨z, t, n, m, ⟨dx, d, ma, h1, h2, h3, h4, h5⟩, ⟨dy, e, mb, g1, g2, g3, g4, g5⟩⟩, q⟩ := h
    refine ⟨_, rfl, _, _, _, _, true, rfl, .own _, T.isi_Tape g1, kit_self _, true, rfl, ifF ?_⟩
    refine ⟨_, rfl, a, _, dx, _, _, rfl, h1, T.c_Tape, T.a_Tape_blank_letter, tF_1 _ _, _, rfl, c, _, dy, _, _, rfl, g1, T.c_Tape, T.a_Tape_blank_letter, tF_1 _ _, rfl, true, ?_, ?_⟩
    · rw [decide_eq_true rfl]
    · refine ⟨_, rfl, a, _, dx, _, _, rfl, h1, T.c_Tape, T.a_Tape_own_cells, tF_2 _ _, _, rfl, c, _, dy, _, _, rfl, g1, T.c_Tape, T.a_Tape_own_cells, tF_2 _ _, ddict_of h2 g2 h3 g3, ?_⟩
      exact q
def sp_Tape_letter (K : PySem.W.Frag) : Sp := fun vs H Q _ => ∃ (a : Addr) (i : Int) (b : Str) (t : Int → Str), vs = [.ref a, .int i] ∧ TapeRd K H a b t ∧ Q (.str (t i)) H
theorem sc_Tape_letter : FnScope ["self", "position"] ["self", "position"] (defScope s_Tape_letter) := ⟨rfl, rfl, rfl, by decide +kernel, rfl, by decide +kernel, by decide +kernel⟩
theorem k_Tape_letter (T : Txt K mg) : FnR P w K mg base CX0 2 (He.ma K (He.ga K "Tape") "letter") (sp_Tape_letter K) := by
  obtain ⟨fd, F⟩ := T.f_Tape_letter
  refine (fun (G : FnOk P w K mg base CX0 2 _ fd _ (sp_Tape_letter K)) => ?_) (F.ok sc_Tape_letter (fun vs H Q E h => by obtain ⟨_, _, _, _, rfl, _⟩ := h; rfl) (fun cdv A outer s H vs Q E hr h => ?_))
  · exact (G.raw (F.bindsN fun _ _ _ _ _ _ us hl => match us, hl with | [_, _], _ => rfl) .nil).imp fun vs H Q E h => by rw [List.append_nil]; exact h
  · have hu := hu_of hr
    have hu0 : (A.deeper (envOfC _ _ s.heap.objs.size _ cdv)).units < cLine := Nat.lt_of_succ_lt hu
    refine ⟨_, PSs.nox (pss_cons (ps_if (pt_not (pt_val (pe_cR (k_is_integer T) (hr.mono (by decide)) (by rfl) T.g_is_integer T.kp_is_integer pass0 (pa_cons (pv 1) pa_nil)))) pss_never pss_nil)
  (pss_one (ps_ret (pe_dget2 hu (pe_fld (pv 0) rfl) (pv 1) (pe_fld (pv 0) rfl) ⟨rfl, rfl, rfl, rfl⟩)))), ?_⟩
    obtain ⟨a, i, b, t, rfl, ⟨dx, d, m, h1, h2, h3⟩, q⟩ := h
    refine ⟨_, rfl, i, rfl, true, rfl, ifF ?_⟩
    refine ⟨_, rfl, a, _, dx, _, _, rfl, h1, T.c_Tape, T.a_Tape_own_cells, tF_2 _ _, d, rfl, isd_of h2, _, rfl, _, rfl, a, _, dx, _, _, rfl, h1, T.c_Tape, T.a_Tape_blank_letter, tF_1 _ _, _, dget_of h2 h3 i, ?_⟩
    rw [cells_letter]
    exact q
def sp_Tape_with_letters (K : PySem.W.Frag) : Sp := fun vs H Q _ => ∃ (a d : Addr) (b : Str) (t : Int → Str) (g : PF) (n k : Nat), vs = [.ref a, .ref d] ∧ TapeAt K H a b t n ∧ DAt H d g k ∧ n + k ≤ BIG ∧
  ∀ p H', Ext H H' → TapeAt K H' p b (fun i => (g i).getD (t i)) (n + k) → H p = none → Q (.ref p) H'
theorem cells_merge (b : Str) (t : Int → Str) (g : PF) (i : Int) : ((match g i with
    | some z => some z
    | none => cellsOf b t i).getD b) = (g i).getD (t i) := by
  cases g i with
  | some z => rfl
  | none =>
    show (if t i = b then none else some (t i)).getD b = t i
    by_cases h : t i = b
    · rw [if_pos h, h]
      rfl
    · rw [if_neg h]
      rfl
theorem sc_Tape_with_letters : FnScope ["self", "letters"] ["self", "letters"] (defScope s_Tape_with_letters) := ⟨rfl, rfl, rfl, by decide +kernel, rfl, by decide +kernel, by decide +kernel⟩
theorem k_Tape_with_letters (T : Txt K mg) : FnR P w K mg base CX0 5 (He.ma K (He.ga K "Tape") "with_letters") (sp_Tape_with_letters K) := by
  obtain ⟨fd, F⟩ := T.f_Tape_with_letters
  refine (fun (G : FnOk P w K mg base CX0 5 _ fd _ (sp_Tape_with_letters K)) => ?_) (F.ok sc_Tape_with_letters (fun vs H Q E h => by obtain ⟨_, _, _, _, _, _, _, rfl, _⟩ := h; rfl) (fun cdv A outer s H vs Q E hr h => ?_))
  · exact (G.raw (F.bindsN fun _ _ _ _ _ _ us hl => match us, hl with | [_, _], _ => rfl) .nil).imp fun vs H Q E h => by rw [List.append_nil]; exact h
  · have hu := hu_of hr
    have hu0 : (A.deeper (envOfC _ _ s.heap.objs.size _ cdv)).units < cLine := Nat.lt_of_succ_lt hu
    refine ⟨_, PSs.nox (pss_cons (ps_if (pt_not (pt_val (pe_cR (k_is_letter_dict T) (hr.mono (by decide)) (by rfl) T.g_is_letter_dict T.kp_is_letter_dict pass0 (pa_cons (pv 1) pa_nil)))) pss_never pss_nil)
  (pss_one (ps_ret (pe_kM T.k_Tape (k_Tape_init T) (hr.mono (by decide)) (by rfl) T.g_Tape pass0 (pa_cons (pe_fld (pv 0) rfl) pa_nil) (pk_cons (pe_star2 (pe_fld (pv 0) rfl) (pv 1)) pk_nil))))), ?_⟩
    obtain ⟨a, d, b, t, g, n, k, rfl, ha, hd, hnk, q⟩ := h
    refine ⟨_, rfl, d, g, rfl, hd.le (by omega), fun H1 e1 => ⟨true, rfl, ifF ?_⟩⟩
    obtain ⟨dx, c, m, h1, h2, h3, h4, h5⟩ := ha.ext e1
    obtain ⟨md, g1, g2, g3⟩ := hd.ext e1
    have hB : BIG = 1000000 := rfl
    refine ⟨_, rfl, a, _, dx, _, _, rfl, h1, T.c_Tape, T.a_Tape_blank_letter, tF_1 _ _, fun p hp => ?_⟩
    have e2 : Ext H1 (upd H1 p (.dK [])) := Ext.upd hp
    refine ⟨_, rfl, a, _, dx, _, _, rfl, e2 _ _ h1, T.c_Tape, T.a_Tape_own_cells, tF_2 _ _, c, tk m, rfl, ne_of_none h2 hp, .inl (e2 _ _ h2), upd_same, (by rw [tk_length]; omega), ?_⟩
    have s1 : mergeK [] (tk m) = tk (mergeM [] m) := merge_tk (a := []) (by simp [keys]) m
    have c1 := Dct.nil.merge h3
    rw [s1, upd_upd]
    have e3 : Ext H1 (upd H1 p (.dK (tk (mergeM [] m)))) := Ext.upd hp
    refine ⟨_, rfl, d, tk md, rfl, ne_of_none g1 hp, .inl (e3 _ _ g1), upd_same, (by rw [tk_length]; omega), ?_⟩
    rw [merge_tk c1.nd, upd_upd]
    have c2 := c1.merge g2
    have l1 := length_merge [] m
    have l2 := length_merge (mergeM [] m) md
    simp only [List.length_nil] at l1
    refine ⟨rfl, rfl, fun x dxx nx ndx ne => ?_⟩
    have hx1 : H1 x = none := (Ext.upd hp (o := .dK (tk (mergeM (mergeM [] m) md)))).none nx
    have hx2 : H1 dxx = none := (Ext.upd hp (o := .dK (tk (mergeM (mergeM [] m) md)))).none ndx
    have npx : p ≠ x := fun z => by
      rw [← z, upd_same] at nx
      cases nx
    have npd : p ≠ dxx := fun z => by
      rw [← z, upd_same] at ndx
      cases ndx
    refine ⟨x, dxx, p, b, _, n + k, rfl, upd_same, h5, ⟨_, (by rw [upd_ne npx, upd_ne npd]; exact upd_same), c2, by omega⟩, hnk, fun H' eb hT => ⟨rfl, ?_⟩⟩
    refine q x H' (e1.trans ((Ext.upd hp (o := .dK (tk (mergeM (mergeM [] m) md)))).trans (made_ext nx ndx eb))) ?_ (e1.none hx1)
    refine Eq.mp (congrArg (fun z : Int → Str => TapeAt K H' x b z (n + k)) (funext fun i => ?_)) hT
    rw [← cells_merge b t g i]
    cases g i with
    | some z => rfl
    | none => cases cellsOf b t i <;> rfl
end
end Tp
/-! part K3 -/
set_option Elab.async false
set_option linter.all false
set_option maxRecDepth 100000
set_option maxHeartbeats 4000000
/-! the defs, part 3: effects -/
namespace Tp
open PySem PySem.Spec PyProof.Rows L2
structure Eff where
  N : PF
  P : PF
  mv : Int
def Eff.one : Eff := ⟨fun _ => none, fun _ => none, 0⟩
def eF (dn dp : Addr) (k : Int) : List (Str × V) := [("needs", .ref dn), ("puts", .ref dp), ("move", .int k)]
theorem eF_1 (dn dp : Addr) (k : Int) : (eF dn dp k).lookup ("needs" : Str) = some (.ref dn) := by rfl
theorem eF_2 (dn dp : Addr) (k : Int) : (eF dn dp k).lookup ("puts" : Str) = some (.ref dp) := by rfl
theorem eF_3 (dn dp : Addr) (k : Int) : (eF dn dp k).lookup ("move" : Str) = some (.int k) := by rfl
theorem eF_4 (dn dp : Addr) (k : Int) : (eF dn dp k).lookup ("touched" : Str) = none := by rfl
theorem eF_5 (dn dp : Addr) (k : Int) : (eF dn dp k).lookup ("mismatch" : Str) = none := by rfl
theorem eF_6 (dn dp : Addr) (k : Int) : (eF dn dp k).lookup ("apply" : Str) = none := by rfl
theorem eF_7 (dn dp : Addr) (k : Int) : (eF dn dp k).lookup ("applies" : Str) = none := by rfl
theorem tF_3 (b : Str) (d : Addr) : (tF b d).lookup ("letter" : Str) = none := by rfl
theorem tF_4 (b : Str) (d : Addr) : (tF b d).lookup ("with_letters" : Str) = none := by rfl
def EffAt (K : PySem.W.Frag) (H : Hp) (a : Addr) (e : Eff) (n : Nat) : Prop := ∃ dx dn dp mn mp, H a = some (.ins (He.ga K "Effect") dx (eF dn dp e.mv)) ∧ H dn = some (.dK (tk mn)) ∧ H dp = some (.dK (tk mp)) ∧ Dct mn e.N ∧ Dct mp e.P ∧ mn.length ≤ n ∧ mp.length ≤ n ∧ ∀ i z, e.P i = some z → e.N i ≠ some z
theorem EffAt.ext {K : PySem.W.Frag} {H H' : Hp} {a : Addr} {e : Eff} {n : Nat} (h : EffAt K H a e n) (x : Ext H H') : EffAt K H' a e n := let ⟨dx, dn, dp, mn, mp, h1, h2, h3, h4⟩ := h; ⟨dx, dn, dp, mn, mp, x _ _ h1, x _ _ h2, x _ _ h3, h4⟩
theorem EffAt.le {K : PySem.W.Frag} {H : Hp} {a : Addr} {e : Eff} {n k : Nat} (h : EffAt K H a e n) (x : n ≤ k) : EffAt K H a e k := let ⟨dx, dn, dp, mn, mp, h1, h2, h3, h4, h5, h6, h7, h8⟩ := h; ⟨dx, dn, dp, mn, mp, h1, h2, h3, h4, h5, Nat.le_trans h6 x, Nat.le_trans h7 x, h8⟩
theorem DAt.put {H : Hp} {d x C dx : Addr} {f : PF} {n : Nat} {fs : List (Str × V)} {o : HO} (h : DAt H d f n) (hx : H x = some (.ins C dx fs)) : DAt (upd H x o) d f n := by
  obtain ⟨m, h1, h2⟩ := h
  refine ⟨m, ?_, h2⟩
  rw [upd_ne (ne_of h1 hx (by intro z; cases z))]
  exact h1
/-- the effect's needs stand on the tape t, the head at h -/
def Fits (e : Eff) (t : Int → Str) (h : Int) : Prop := ∀ i z, e.N i = some z → t (h + i) = z
/-- the tape behind it -/
def Eff.on (e : Eff) (t : Int → Str) (h : Int) : Int → Str := fun j => (e.P (j - h)).getD (t j)
/-- the offsets that it touches, in order -/
def Tch (e : Eff) (ts : List Int) : Prop := ts.Pairwise (· ≤ ·) ∧ ts.Nodup ∧ ∀ i, i ∈ ts ↔ e.N i ≠ none ∨ e.P i ≠ none
theorem look_snoc {m : M} {p : Int × Str} (hn : (keys (m ++ [p])).Nodup) {i : Int} : look (m ++ [p]) i = if p.1 = i then some p.2 else look m i := by
  induction m with
  | nil => simp [look]
  | cons r m ih =>
    have hn' : r.1 ∉ keys (m ++ [p]) ∧ (keys (m ++ [p])).Nodup := List.nodup_cons.mp (show (r.1 :: keys (m ++ [p])).Nodup from hn)
    have : p.1 ∈ keys (m ++ [p]) := by simp [keys]
    obtain ⟨rk, rz⟩ := r
    by_cases er : rk = i
    · subst er
      have : ¬ p.1 = rk := fun z => hn'.1 (by rw [← z]; exact this)
      simp [look, this]
    · simp only [List.cons_append, look, if_neg er]
      exact ih hn'.2
theorem nodup_take_snoc {m : M} (hn : (keys m).Nodup) {i : Nat} {p : Int × Str} (h : m[i]? = some p) : (keys (m.take i ++ [p])).Nodup := by
  rw [← take_succ' h]
  unfold keys at hn ⊢
  rw [List.map_take]
  exact hn.sublist (List.take_sublist _ _)
theorem merged_keys {m1 m2 : M} {f g : PF} (d : Dct m1 f) (e : Dct m2 g) (i : Int) : (match g i with
    | some z => some z
    | none => f i) ≠ none ↔ f i ≠ none ∨ g i ≠ none := by
  cases g i with
  | some z => simp
  | none => simp
section
variable {P : Program} {w : World} {K : PySem.W.Frag} {mg : Str → Option Value} {base : Heap}
def sp_Effect_init (K : PySem.W.Frag) : Sp := fun vs H Q _ => ∃ (x dx d1 d2 : Addr) (N P : PF) (k : Int) (n : Nat), vs = [.ref x, .ref d1, .ref d2, .int k] ∧ H x = some (.ins (He.ga K "Effect") dx []) ∧ DAt H d1 N n ∧ DAt H d2 P n ∧ n ≤ BIG ∧ (∀ i z, P i = some z → N i ≠ some z) ∧
  ∀ H', ExtBut x H H' → EffAt K H' x ⟨N, P, k⟩ n → Q .non H'
theorem sc_Effect_init : FnScope ["self", "expected", "changed", "shift"] ["self", "expected", "changed", "shift"] (defScope s_Effect_init) := ⟨rfl, rfl, rfl, by decide +kernel, rfl, by decide +kernel, by decide +kernel⟩
theorem k_Effect_init (T : Txt K mg) : FnR P w K mg base CX0 4 (He.ma K (He.ga K "Effect") "__init__") (sp_Effect_init K) := by
  obtain ⟨fd, F⟩ := T.f_Effect_init
  refine (fun (G : FnOk P w K mg base CX0 4 _ fd _ (sp_Effect_init K)) => ?_) (F.ok sc_Effect_init (fun vs H Q E h => by obtain ⟨_, _, _, _, _, _, _, _, rfl, _⟩ := h; rfl) (fun cdv A outer s H vs Q E hr h => ?_))
  · exact (G.raw (F.bindsN fun _ _ _ _ _ _ us hl => match us, hl with | [_, _, _, _], _ => rfl) .nil).imp fun vs H Q E h => by rw [List.append_nil]; exact h
  · have hu := hu_of hr
    have hu0 : (A.deeper (envOfC _ _ s.heap.objs.size _ cdv)).units < cLine := Nat.lt_of_succ_lt hu
    refine ⟨_, PSs.nox (pss_cons (ps_if (pt_not (pt_val (pe_cR (k_is_normal T) (hr.mono (by decide)) (by rfl) T.g_is_normal T.kp_is_normal pass0 (pa_cons (pv 1) (pa_cons (pv 2) (pa_cons (pv 3) pa_nil)))))) pss_never pss_nil)
  (pss_cons (ps_fld (pv 0) (pe_cR (k_by_offset T) (hr.mono (by decide)) (by rfl) T.g_by_offset T.kp_by_offset pass0 (pa_cons (pv 1) pa_nil)) rfl)
  (pss_cons (ps_fld (pv 0) (pe_cR (k_by_offset T) (hr.mono (by decide)) (by rfl) T.g_by_offset T.kp_by_offset pass0 (pa_cons (pv 2) pa_nil)) rfl)
  (pss_one (ps_fld (pv 0) (pv 3) rfl))))), ?_⟩
    obtain ⟨x, dx, d1, d2, N, P, k, n, rfl, hx, h1, h2, hn, nm, q⟩ := h
    refine ⟨_, rfl, _, rfl, _, rfl, d1, d2, N, P, k, rfl, h1.le hn, h2.le hn, nm, fun H1 e1 => ⟨true, rfl, ifF ?_⟩⟩
    refine ⟨_, rfl, d1, N, n, rfl, h1.ext e1, hn, fun p H2 e2 hp np => ?_⟩
    have hx2 := e2 _ _ (e1 _ _ hx)
    refine ⟨_, rfl, x, _, dx, [], rfl, hx2, T.c_Effect, T.a_Effect_needs, (by show 0 < 1000; decide), ?_⟩
    have h22 := ((h2.ext e1).ext e2).put (o := .ins (He.ga K "Effect") dx (putF "needs" (V.ref p) [])) hx2
    refine ⟨_, rfl, d2, P, n, rfl, h22, hn, fun p2 H3 e3 hp2 np2 => ?_⟩
    have hx3 := e3 _ _ (upd_same (H := H2) (a := x) (o := .ins (He.ga K "Effect") dx (putF "needs" (V.ref p) [])))
    refine ⟨_, rfl, x, _, dx, _, rfl, hx3, T.c_Effect, T.a_Effect_puts, (by show 1 < 1000; decide), ?_⟩
    refine ⟨_, rfl, _, rfl, x, _, dx, _, rfl, upd_same, T.c_Effect, T.a_Effect_move, (by show 2 < 1000; decide), ?_⟩
    rw [upd_upd]
    have eb : ExtBut x H H3 := (((ExtBut.refl.ext e1).ext e2).put).ext e3
    have hp3 := ((hp.put (o := .ins (He.ga K "Effect") dx (putF "needs" (V.ref p) [])) hx2).ext e3).put (o := .ins (He.ga K "Effect") dx (eF p p2 k)) hx3
    have hp4 := hp2.put (o := .ins (He.ga K "Effect") dx (eF p p2 k)) hx3
    obtain ⟨m1, a1, a2, a3⟩ := hp3
    obtain ⟨m2, b1, b2, b3⟩ := hp4
    exact q (upd H3 x (.ins (He.ga K "Effect") dx (eF p p2 k))) eb.put ⟨dx, p, p2, m1, m2, upd_same, a1, b1, a2, b2, a3, b3, nm⟩
def sp_Effect_identity (K : PySem.W.Frag) : Sp := fun vs H Q _ => vs = [.ref (He.ga K "Effect")] ∧ ∀ p H', Ext H H' → EffAt K H' p Eff.one 0 → H p = none → Q (.ref p) H'
theorem sc_Effect_identity : FnScope ["cls"] ["cls"] (defScope s_Effect_identity) := ⟨rfl, rfl, rfl, by decide +kernel, rfl, by decide +kernel, by decide +kernel⟩
theorem k_Effect_identity (T : Txt K mg) : FnR P w K mg base CX0 6 (iFn K) (sp_Effect_identity K) := by
  obtain ⟨fd, F⟩ := T.f_Effect_identity
  refine (fun (G : FnOk P w K mg base CX0 6 _ fd _ (sp_Effect_identity K)) => ?_) (F.ok sc_Effect_identity (fun vs H Q E h => by obtain ⟨rfl, _⟩ := h; rfl) (fun cdv A outer s H vs Q E hr h => ?_))
  · exact (G.raw (F.bindsN fun _ _ _ _ _ _ us hl => match us, hl with | [_], _ => rfl) .nil).imp fun vs H Q E h => by rw [List.append_nil]; exact h
  · have hu := hu_of hr
    have hu0 : (A.deeper (envOfC _ _ s.heap.objs.size _ cdv)).units < cLine := Nat.lt_of_succ_lt hu
    refine ⟨_, PSs.nox (pss_one (ps_ret (pe_clsL (i := 0) T.k_Effect (k_Effect_init T) (hr.mono (by decide)) rfl (Or.inl rfl) pass0 (pa_cons pe_dnewK (pa_cons pe_dnewK (pa_cons pe_int pa_nil)))))), ?_⟩
    obtain ⟨rfl, q⟩ := h
    refine ⟨rfl, fun p1 np1 p2 np2 x dx nx ndx ne => ?_⟩
    have e1 : Ext H (upd H p1 (.dK [])) := Ext.upd np1
    have e2 := Ext.upd (o := .dK []) np2
    have d1 : DAt (upd (upd H p1 (.dK [])) p2 (.dK [])) p1 (fun _ => none) 0 := ⟨[], e2 _ _ upd_same, Dct.nil, Nat.le_refl _⟩
    have d2 : DAt (upd (upd H p1 (.dK [])) p2 (.dK [])) p2 (fun _ => none) 0 := ⟨[], upd_same, Dct.nil, Nat.le_refl _⟩
    have em := made_ext (C := He.ga K "Effect") nx ndx ExtBut.refl
    refine ⟨x, dx, p1, p2, _, _, 0, 0, rfl, upd_same, d1.ext em, d2.ext em, Nat.zero_le _, fun i z h => (by cases h), fun H' eb hE => ⟨rfl, ?_⟩⟩
    have e3 := made_ext nx ndx eb
    exact q x H' ((e1.trans e2).trans e3) hE ((e1.trans e2).none nx)
def sp_Effect_expected (K : PySem.W.Frag) : Sp := fun vs H Q _ => ∃ (a : Addr) (e : Eff) (n : Nat), vs = [.ref a] ∧ EffAt K H a e n ∧ ∀ p m, Dct m e.N → m.length ≤ n → H p = none → Q (.ref p) (upd H p (.dK (tk m)))
theorem sc_Effect_expected : FnScope ["self"] ["self"] (defScope s_Effect_expected) := ⟨rfl, rfl, rfl, by decide +kernel, rfl, by decide +kernel, by decide +kernel⟩
theorem k_Effect_expected (T : Txt K mg) : FnR P w K mg base CX0 1 (gFn K "Effect" "expected") (sp_Effect_expected K) := by
  obtain ⟨fd, F⟩ := T.f_Effect_expected
  refine (fun (G : FnOk P w K mg base CX0 1 _ fd _ (sp_Effect_expected K)) => ?_) (F.ok sc_Effect_expected (fun vs H Q E h => by obtain ⟨_, _, _, rfl, _⟩ := h; rfl) (fun cdv A outer s H vs Q E hr h => ?_))
  · exact (G.raw (F.bindsN fun _ _ _ _ _ _ us hl => match us, hl with | [_], _ => rfl) .nil).imp fun vs H Q E h => by rw [List.append_nil]; exact h
  · have hu := hu_of hr
    have hu0 : (A.deeper (envOfC _ _ s.heap.objs.size _ cdv)).units < cLine := Nat.lt_of_succ_lt hu
    refine ⟨_, PSs.nox (pss_one (ps_ret (pe_callTy call_dictD (by rfl) T.n_dict (by decide +kernel) (pa_cons (pe_fld (pv 0) rfl) pa_nil)))), ?_⟩
    obtain ⟨a, e, n, rfl, ⟨dx, dn, dp, mn, mp, h1, h2, h3, h4, h5, h6, h7, h8⟩, q⟩ := h
    exact ⟨_, rfl, a, _, dx, _, _, rfl, h1, T.c_Effect, T.a_Effect_needs, eF_1 _ _ _, dn, _, rfl, .inl h2, fun p hp => q p mn h4 h6 hp⟩
def sp_Effect_changed (K : PySem.W.Frag) : Sp := fun vs H Q _ => ∃ (a : Addr) (e : Eff) (n : Nat), vs = [.ref a] ∧ EffAt K H a e n ∧ ∀ p m, Dct m e.P → m.length ≤ n → H p = none → Q (.ref p) (upd H p (.dK (tk m)))
theorem sc_Effect_changed : FnScope ["self"] ["self"] (defScope s_Effect_changed) := ⟨rfl, rfl, rfl, by decide +kernel, rfl, by decide +kernel, by decide +kernel⟩
theorem k_Effect_changed (T : Txt K mg) : FnR P w K mg base CX0 1 (gFn K "Effect" "changed") (sp_Effect_changed K) := by
  obtain ⟨fd, F⟩ := T.f_Effect_changed
  refine (fun (G : FnOk P w K mg base CX0 1 _ fd _ (sp_Effect_changed K)) => ?_) (F.ok sc_Effect_changed (fun vs H Q E h => by obtain ⟨_, _, _, rfl, _⟩ := h; rfl) (fun cdv A outer s H vs Q E hr h => ?_))
  · exact (G.raw (F.bindsN fun _ _ _ _ _ _ us hl => match us, hl with | [_], _ => rfl) .nil).imp fun vs H Q E h => by rw [List.append_nil]; exact h
  · have hu := hu_of hr
    have hu0 : (A.deeper (envOfC _ _ s.heap.objs.size _ cdv)).units < cLine := Nat.lt_of_succ_lt hu
    refine ⟨_, PSs.nox (pss_one (ps_ret (pe_callTy call_dictD (by rfl) T.n_dict (by decide +kernel) (pa_cons (pe_fld (pv 0) rfl) pa_nil)))), ?_⟩
    obtain ⟨a, e, n, rfl, ⟨dx, dn, dp, mn, mp, h1, h2, h3, h4, h5, h6, h7, h8⟩, q⟩ := h
    exact ⟨_, rfl, a, _, dx, _, _, rfl, h1, T.c_Effect, T.a_Effect_puts, eF_2 _ _ _, dp, _, rfl, .inl h3, fun p hp => q p mp h5 h7 hp⟩
def sp_Effect_shift (K : PySem.W.Frag) : Sp := fun vs H Q _ => ∃ (a : Addr) (e : Eff) (n : Nat), vs = [.ref a] ∧ EffAt K H a e n ∧ Q (.int e.mv) H
theorem sc_Effect_shift : FnScope ["self"] ["self"] (defScope s_Effect_shift) := ⟨rfl, rfl, rfl, by decide +kernel, rfl, by decide +kernel, by decide +kernel⟩
theorem k_Effect_shift (T : Txt K mg) : FnR P w K mg base CX0 1 (gFn K "Effect" "shift") (sp_Effect_shift K) := by
  obtain ⟨fd, F⟩ := T.f_Effect_shift
  refine (fun (G : FnOk P w K mg base CX0 1 _ fd _ (sp_Effect_shift K)) => ?_) (F.ok sc_Effect_shift (fun vs H Q E h => by obtain ⟨_, _, _, rfl, _⟩ := h; rfl) (fun cdv A outer s H vs Q E hr h => ?_))
  · exact (G.raw (F.bindsN fun _ _ _ _ _ _ us hl => match us, hl with | [_], _ => rfl) .nil).imp fun vs H Q E h => by rw [List.append_nil]; exact h
  · have hu := hu_of hr
    have hu0 : (A.deeper (envOfC _ _ s.heap.objs.size _ cdv)).units < cLine := Nat.lt_of_succ_lt hu
    refine ⟨_, PSs.nox (pss_one (ps_ret (pe_fld (pv 0) rfl))), ?_⟩
    obtain ⟨a, e, n, rfl, ⟨dx, dn, dp, mn, mp, h1, h2, h3, h4, h5, h6, h7, h8⟩, q⟩ := h
    exact ⟨_, rfl, a, _, dx, _, _, rfl, h1, T.c_Effect, T.a_Effect_move, eF_3 _ _ _, q⟩
/-- two equal effects -/
def EffEq (K : PySem.W.Frag) (a b : Addr) (H : Hp) : Prop := ∃ e n m, EffAt K H a e n ∧ EffAt K H b e m
def sp_Effect_eq (K : PySem.W.Frag) : Sp := spEq (EffEq K)
theorem sc_Effect_eq : FnScope ["self", "other"] ["self", "other"] (defScope s_Effect_eq) := ⟨rfl, rfl, rfl, by decide +kernel, rfl, by decide +kernel, by decide +kernel⟩
theorem k_Effect_eq (T : Txt K mg) : FnR P w K mg base CX0 1 (He.ma K (He.ga K "Effect") "__eq__") (sp_Effect_eq K) := by
  obtain ⟨fd, F⟩ := T.f_Effect_eq
  refine (fun (G : FnOk P w K mg base CX0 1 _ fd _ (sp_Effect_eq K)) => ?_) (F.ok sc_Effect_eq (fun vs H Q E h => by obtain ⟨_, _, rfl, _⟩ := h; rfl) (fun cdv A outer s H vs Q E hr h => ?_))
  · exact (G.raw (F.bindsN fun _ _ _ _ _ _ us hl => match us, hl with | [_, _], _ => rfl) .nil).imp fun vs H Q E h => by rw [List.append_nil]; exact h
  · have hu := hu_of hr
    have hu0 : (A.deeper (envOfC _ _ s.heap.objs.size _ cdv)).units < cLine := Nat.lt_of_succ_lt hu
    refine ⟨_, PSs.nox (pss_cons (ps_if (pt_not (pt_val (pe_callB call_isi (by rfl) T.n_isinstance (by decide +kernel) (pa_cons (pv 1) (pa_cons (pe_glob (v := .ref (He.ga _ "Effect")) (by rfl) T.g_Effect rfl) pa_nil))))) (pss_one (ps_ret pe_bl)) pss_nil)
  (pss_one (ps_ret (pe_and (pe_cmpR (op_eqG rcG_dict (hr.mono (by decide))) (pe_fld (pv 0) rfl) (pe_fld (pv 1) rfl) (nomark _)) (pe_and (pe_cmpR (op_eqG rcG_dict (hr.mono (by decide))) (pe_fld (pv 0) rfl) (pe_fld (pv 1) rfl) (nomark _)) (pe_one (pe_cmpR op_eq (pe_fld (pv 0) rfl) (pe_fld (pv 1) rfl) (nomark _)))))))), ?_⟩
    obtain ⟨a, c, rfl, ⟨e, n, m, ⟨dx, dn, dp, mn, mp, h1, h2, h3, h4, h5, h6, h7, h8⟩, ⟨dy, en, ep, kn, kp, g1, g2, g3, g4, g5, g6, g7, g8⟩⟩, q⟩ := h
    refine ⟨_, rfl, _, _, _, _, true, rfl, .own _, T.isi_Effect g1, kit_self _, true, rfl, ifF ?_⟩
    refine ⟨_, rfl, a, _, dx, _, _, rfl, h1, T.c_Effect, T.a_Effect_needs, eF_1 _ _ _, _, rfl, c, _, dy, _, _, rfl, g1, T.c_Effect, T.a_Effect_needs, eF_1 _ _ _, ddict_of h2 g2 h4 g4, fun H1 e1 => ⟨true, rfl, ?_⟩⟩
    refine ⟨_, rfl, a, _, dx, _, _, rfl, e1 _ _ h1, T.c_Effect, T.a_Effect_puts, eF_2 _ _ _, _, rfl, c, _, dy, _, _, rfl, e1 _ _ g1, T.c_Effect, T.a_Effect_puts, eF_2 _ _ _, ddict_of (e1 _ _ h3) (e1 _ _ g3) h5 g5, fun H2 e2 => ⟨true, rfl, ?_⟩⟩
    refine ⟨_, rfl, a, _, dx, _, _, rfl, e2 _ _ (e1 _ _ h1), T.c_Effect, T.a_Effect_move, eF_3 _ _ _, _, rfl, c, _, dy, _, _, rfl, e2 _ _ (e1 _ _ g1), T.c_Effect, T.a_Effect_move, eF_3 _ _ _, rfl, ?_⟩
    rw [decide_eq_true rfl]
    exact q _ (e1.trans e2)
def sp_Effect_touched (K : PySem.W.Frag) : Sp := fun vs H Q _ => ∃ (a : Addr) (e : Eff) (n : Nat), vs = [.ref a] ∧ EffAt K H a e n ∧ n + n ≤ BIG ∧ ∀ l ts H', Ext H H' → Tch e ts → ts.length ≤ n + n → H' l = some (.lst (ts.map V.int)) → H l = none → Q (.ref l) H'
theorem sc_Effect_touched : FnScope ["self"] ["self"] (defScope s_Effect_touched) := ⟨rfl, rfl, rfl, by decide +kernel, rfl, by decide +kernel, by decide +kernel⟩
theorem k_Effect_touched (T : Txt K mg) : FnR P w K mg base CX0 1 (He.ma K (He.ga K "Effect") "touched") (sp_Effect_touched K) := by
  obtain ⟨fd, F⟩ := T.f_Effect_touched
  refine (fun (G : FnOk P w K mg base CX0 1 _ fd _ (sp_Effect_touched K)) => ?_) (F.ok sc_Effect_touched (fun vs H Q E h => by obtain ⟨_, _, _, rfl, _⟩ := h; rfl) (fun cdv A outer s H vs Q E hr h => ?_))
  · exact (G.raw (F.bindsN fun _ _ _ _ _ _ us hl => match us, hl with | [_], _ => rfl) .nil).imp fun vs H Q E h => by rw [List.append_nil]; exact h
  · have hu := hu_of hr
    have hu0 : (A.deeper (envOfC _ _ s.heap.objs.size _ cdv)).units < cLine := Nat.lt_of_succ_lt hu
    refine ⟨_, PSs.nox (pss_one (ps_ret (pe_callB (cr_sortedDI (by rfl)) (by rfl) T.n_sorted (by decide +kernel) (pa_cons (pe_star2 (pe_fld (pv 0) rfl) (pe_fld (pv 0) rfl)) pa_nil)))), ?_⟩
    obtain ⟨a, e, n, rfl, ⟨dx, dn, dp, mn, mp, h1, h2, h3, h4, h5, h6, h7, h8⟩, hn, q⟩ := h
    have hB : BIG = 1000000 := rfl
    intro p hp
    have e2 : Ext H (upd H p (.dK [])) := Ext.upd hp
    refine ⟨_, rfl, a, _, dx, _, _, rfl, e2 _ _ h1, T.c_Effect, T.a_Effect_needs, eF_1 _ _ _, dn, tk mn, rfl, ne_of_none h2 hp, .inl (e2 _ _ h2), upd_same, (by rw [tk_length]; omega), ?_⟩
    have s1 : mergeK [] (tk mn) = tk (mergeM [] mn) := merge_tk (a := []) (by simp [keys]) mn
    have c1 := Dct.nil.merge h4
    rw [s1, upd_upd]
    have e3 : Ext H (upd H p (.dK (tk (mergeM [] mn)))) := Ext.upd hp
    refine ⟨_, rfl, a, _, dx, _, _, rfl, e3 _ _ h1, T.c_Effect, T.a_Effect_puts, eF_2 _ _ _, dp, tk mp, rfl, ne_of_none h3 hp, .inl (e3 _ _ h3), upd_same, (by rw [tk_length]; omega), ?_⟩
    rw [merge_tk c1.nd, upd_upd]
    have c2 := c1.merge h5
    have l1 := length_merge [] mn
    have l2 := length_merge (mergeM [] mn) mp
    simp only [List.length_nil] at l1
    refine ⟨p, _, keys (mergeM (mergeM [] mn) mp), rfl, .inl upd_same, tk_keys _, fun ys r hy so nr => ?_⟩
    have hmem := fun i => perm_mem c2 hy i
    have e4 : Ext H (upd (upd H p (.dK (tk (mergeM (mergeM [] mn) mp)))) r (.lst (ys.map V.int))) := (Ext.upd hp).trans (Ext.upd nr)
    refine q r ys _ e4 ⟨so, hy.nodup_iff.mpr c2.nd, fun i => (hmem i).trans ((merged_keys c1 h5 i).trans ?_)⟩ ?_ upd_same ((Ext.upd hp).none nr)
    · cases e.N i <;> simp
    · have := perm_len hy
      omega
def sp_Effect_mismatch (K : PySem.W.Frag) : Sp := fun vs H Q _ => ∃ (a c : Addr) (h : Int) (e : Eff) (n : Nat) (b : Str) (t : Int → Str) (k : Nat), vs = [.ref a, .ref c, .int h] ∧ EffAt K H a e n ∧ TapeAt K H c b t k ∧
  (Fits e t h → ∀ H', Ext H H' → Q .non H') ∧ (¬ Fits e t h → ∀ (j : Int) H', Ext H H' → Q (.int j) H')
theorem sc_Effect_mismatch : FnScope ["self", "tape", "head", "offset", "letter"] ["self", "tape", "head"] (defScope s_Effect_mismatch) := ⟨rfl, rfl, rfl, by decide +kernel, rfl, by decide +kernel, by decide +kernel⟩
theorem k_Effect_mismatch (T : Txt K mg) : FnR P w K mg base CX0 3 (He.ma K (He.ga K "Effect") "mismatch") (sp_Effect_mismatch K) := by
  obtain ⟨fd, F⟩ := T.f_Effect_mismatch
  refine (fun (G : FnOk P w K mg base CX0 3 _ fd _ (sp_Effect_mismatch K)) => ?_) (F.ok sc_Effect_mismatch (fun vs H Q E h => by obtain ⟨_, _, _, _, _, _, _, _, rfl, _⟩ := h; rfl) (fun cdv A outer s H vs Q E hr h => ?_))
  · exact (G.raw (F.bindsN fun _ _ _ _ _ _ us hl => match us, hl with | [_, _, _], _ => rfl) .nil).imp fun vs H Q E h => by rw [List.append_nil]; exact h
  · have hu := hu_of hr
    have hu0 : (A.deeper (envOfC _ _ s.heap.objs.size _ cdv)).units < cLine := Nat.lt_of_succ_lt hu
    refine ⟨_, PSs.nox (pss_cons (ps_lock (ps_for PassesOwn.never rfl (pi_items (pe_fld (pv 0) rfl)) (pg_tup rfl (pgs_cons (pg_name (i := 3) sc_Effect_mismatch.nd rfl (Or.inl rfl)) (pgs_cons (pg_name (i := 4) sc_Effect_mismatch.nd rfl (Or.inl rfl)) pgs_nil))) (pss_one (ps_if (pt_cmpR op_ne (pe_methR (pv 1) T.c_Tape T.m_Tape_letter (k_Tape_letter T) (hr.mono (by decide)) pass0 (pa_cons (pe_op op_add (pv 2) (pv 3)) pa_nil)) (pv 4) (nomark _)) (pss_one (ps_ret (pe_op op_add (pv 2) (pv 3)))) pss_nil))))
  (pss_one (ps_ret pe_non))), ?_⟩
    obtain ⟨a, c, hh, e, n, b, t, k, rfl, ⟨dx, dn, dp, mn, mp, h1, h2, h3, h4, h5, h6, h7, h8⟩, ht, q1, q2⟩ := h
    refine ⟨dn, _, h2, trivial, fun od => ?_⟩
    have hne : a ≠ dn := ne_of h1 h2 (by intro z; cases z)
    refine ⟨_, rfl, a, _, dx, _, _, rfl, (Lk.start (od := od) h2).keep a _ hne h1, T.c_Effect, T.a_Effect_needs, eF_1 _ _ _, dn, od, tk mn, rfl, upd_same, ?_⟩
    refine for_it walk_items (fun i σ Hc => ∃ v1 v2, σ = [some (.ref a), some (.ref c), some (.int hh), v1, v2] ∧ Lk H dn od (.dK (tk mn)) Hc ∧ ∀ p ∈ mn.take i, t (hh + p.1) = p.2) ⟨_, _, rfl, Lk.start h2, fun p hp => by simp at hp⟩ (fun i σ Hc _ ⟨_, _, _, l, _⟩ => l.at_) ?_ ?_
    · rintro i x σ Hc H1 hi ⟨v1, v2, rfl, l, ok⟩ ⟨tt, x1, y1, rfl, htt, rfl, g1, g2⟩
      have l3 : Lk H dn od (.dK (tk mn)) (upd Hc tt (.tup [x1, y1])) := l.new htt
      obtain ⟨p, hp, e1⟩ := Option.map_eq_some_iff.mp g1
      obtain ⟨p2, hp2, e2⟩ := Option.map_eq_some_iff.mp g2
      obtain ⟨qq, hq, rfl⟩ := tk_get hp
      rw [hp] at hp2
      cases hp2
      subst e1 e2
      refine ⟨tt, _, rfl, SqT.of upd_same, rfl, _, _, rfl, _, _, rfl, rfl, ?_⟩
      obtain ⟨dxt, dt, mt, g1t, g2t⟩ := ht.lk l3
      refine ⟨_, rfl, c, dxt, _, rfl, g1t, tF_3 _ _, _, rfl, _, rfl, _, _, rfl, rfl, c, _, b, t, rfl, ⟨dxt, dt, mt, g1t, g2t⟩, ?_⟩
      refine ⟨_, rfl, rfl, _, rfl, ?_⟩
      have hmem := List.mem_of_getElem? hq
      have hN : e.N qq.1 = some qq.2 := (h4.lk _).symm.trans (mem_look h4.nd hmem)
      refine ifND (fun ne => ?_) fun eq => ?_
      · refine ⟨_, rfl, _, rfl, _, _, rfl, rfl, l3.at_, ?_⟩
        exact q2 (fun F => ne (by rw [F _ _ hN])) _ _ l3.back
      · have eq' : t (hh + qq.1) = qq.2 := by
          injection eq
        refine ⟨_, _, rfl, l3, fun p hp => ?_⟩
        rw [take_succ' hq] at hp
        rcases List.mem_append.mp hp with hp | hp
        · exact ok p hp
        · rw [List.mem_singleton.mp hp]
          exact eq'
    · rintro σ Hc ⟨v1, v2, rfl, l, ok⟩
      rw [tk_length, List.take_length] at ok
      refine ⟨l.at_, ?_⟩
      exact q1 (fun i z hz => ok (i, z) (look_mem ((h4.lk i).trans hz))) _ l.back
def sp_Effect_applies (K : PySem.W.Frag) : Sp := fun vs H Q _ => ∃ (a c : Addr) (h : Int) (e : Eff) (n : Nat) (b : Str) (t : Int → Str) (k : Nat), vs = [.ref a, .ref c, .int h] ∧ EffAt K H a e n ∧ TapeAt K H c b t k ∧
  (Fits e t h → ∀ H', Ext H H' → Q (.bl true) H') ∧ (¬ Fits e t h → ∀ H', Ext H H' → Q (.bl false) H')
theorem sc_Effect_applies : FnScope ["self", "tape", "head"] ["self", "tape", "head"] (defScope s_Effect_applies) := ⟨rfl, rfl, rfl, by decide +kernel, rfl, by decide +kernel, by decide +kernel⟩
theorem k_Effect_applies (T : Txt K mg) : FnN P w K mg base CX0 4 (He.ma K (He.ga K "Effect") "applies") 2 ["head"] (sp_Effect_applies K) := by
  obtain ⟨fd, F⟩ := T.f_Effect_applies
  refine (fun (G : FnOk P w K mg base CX0 4 _ fd _ (sp_Effect_applies K)) => ?_) (F.ok sc_Effect_applies (fun vs H Q E h => by obtain ⟨_, _, _, _, _, _, _, _, rfl, _⟩ := h; rfl) (fun cdv A outer s H vs Q E hr h => ?_))
  · exact fnN_of G (kbn_no F fun _ _ _ _ _ _ us ws l1 l2 => match us, l1, ws, l2 with | [_, _], _, [_], _ => rfl) (fun _ _ _ _ => rfl)
  · have hu := hu_of hr
    have hu0 : (A.deeper (envOfC _ _ s.heap.objs.size _ cdv)).units < cLine := Nat.lt_of_succ_lt hu
    refine ⟨_, PSs.nox (pss_cons (ps_expr (pe_cR (k_check_integer T) (hr.mono (by decide)) (by rfl) T.g_check_integer T.kp_check_integer pass0 (pa_cons (pv 2) pa_nil)))
  (pss_one (ps_ret (pe_cmpR op_isN (pe_methR (pv 0) T.c_Effect T.m_Effect_mismatch (k_Effect_mismatch T) (hr.mono (by decide)) pass0 (pa_cons (pv 1) (pa_cons (pv 2) pa_nil))) pe_non (nomark _))))), ?_⟩
    obtain ⟨a, c, hh, e, n, b, t, k, rfl, he, ht, q1, q2⟩ := h
    refine ⟨_, rfl, hh, rfl, ?_⟩
    obtain ⟨dx, dn, dp, mn, mp, h1, _⟩ := id he
    refine ⟨_, rfl, a, dx, _, rfl, h1, eF_5 _ _ _, _, rfl, _, rfl, a, c, hh, e, n, b, t, k, rfl, he, ht, fun F H1 e1 => ⟨rfl, q1 F H1 e1⟩, fun F j H1 e1 => ⟨rfl, q2 F H1 e1⟩⟩
/-- what stands at the address of a place: a new tuple of a tape and a position -/
def PlaceAt (K : PySem.W.Frag) (H : Hp) (p : Addr) (b : Str) (t : Int → Str) (h : Int) (n : Nat) : Prop := ∃ c, H p = some (.tup [.ref c, .int h]) ∧ TapeAt K H c b t n
theorem PlaceAt.ext {H H' : Hp} {p : Addr} {b : Str} {t : Int → Str} {h : Int} {n : Nat} (x : PlaceAt K H p b t h n) (e : Ext H H') : PlaceAt K H' p b t h n := let ⟨c, h1, h2⟩ := x; ⟨c, e _ _ h1, h2.ext e⟩
def sp_Effect_apply (K : PySem.W.Frag) : Sp := fun vs H Q _ => ∃ (a c : Addr) (h : Int) (e : Eff) (n : Nat) (b : Str) (t : Int → Str) (k : Nat), vs = [.ref a, .ref c, .int h] ∧ EffAt K H a e n ∧ TapeAt K H c b t k ∧ Fits e t h ∧ k + n ≤ BIG ∧
  ∀ p H', Ext H H' → PlaceAt K H' p b (e.on t h) (h + e.mv) (k + n) → H p = none → Q (.ref p) H'
theorem sc_Effect_apply : FnScope ["self", "tape", "head", "position", "offset", "letter"] ["self", "tape", "head"] (defScope s_Effect_apply) := ⟨rfl, rfl, rfl, by decide +kernel, rfl, by decide +kernel, by decide +kernel⟩
theorem k_Effect_apply (T : Txt K mg) : FnN P w K mg base CX0 6 (He.ma K (He.ga K "Effect") "apply") 2 ["head"] (sp_Effect_apply K) := by
  obtain ⟨fd, F⟩ := T.f_Effect_apply
  refine (fun (G : FnOk P w K mg base CX0 6 _ fd _ (sp_Effect_apply K)) => ?_) (F.ok sc_Effect_apply (fun vs H Q E h => by obtain ⟨_, _, _, _, _, _, _, _, rfl, _⟩ := h; rfl) (fun cdv A outer s H vs Q E hr h => ?_))
  · exact fnN_of G (kbn_no F fun _ _ _ _ _ _ us ws l1 l2 => match us, l1, ws, l2 with | [_, _], _, [_], _ => rfl) (fun _ _ _ _ => rfl)
  · have hu := hu_of hr
    have hu0 : (A.deeper (envOfC _ _ s.heap.objs.size _ cdv)).units < cLine := Nat.lt_of_succ_lt hu
    refine ⟨_, PSs.nox (pss_cons (ps_expr (pe_cR (k_check_integer T) (hr.mono (by decide)) (by rfl) T.g_check_integer T.kp_check_integer pass0 (pa_cons (pv 2) pa_nil)))
  (pss_cons (ps_set (i := 3) sc_Effect_apply.nd rfl (Or.inl rfl) (pe_methR (pv 0) T.c_Effect T.m_Effect_mismatch (k_Effect_mismatch T) (hr.mono (by decide)) pass0 (pa_cons (pv 1) (pa_cons (pv 2) pa_nil))))
  (pss_cons (ps_if (pt_cmpR op_notN (pv 3) pe_non (nomark _)) pss_never pss_nil)
  (pss_one (ps_ret (pe_tup (pa_cons (pe_methR (pv 1) T.c_Tape T.m_Tape_with_letters (k_Tape_with_letters T) (hr.mono (by decide)) pass0 (pa_cons (pe_lock (pe_dc (own := [("offset", 4), ("letter", 5)]) (g := (gTup K 2 (gCons (gName 4) (gCons (gName 5) gNil)))) rfl sc_Effect_apply.nd (pi_items (pe_fld (pv 0) rfl)) (blkOk_by (own := [("offset", 4), ("letter", 5)]) (N := ["self", "tape", "head", "position", "offset", "letter"]) (sc := defScope s_Effect_apply) (by decide +kernel)) (fun _ _ _ _ _ => (pg_tup rfl (pgs_cons (pg_name (i := 4) sc_Effect_apply.nd rfl (Or.inl rfl)) (pgs_cons (pg_name (i := 5) sc_Effect_apply.nd rfl (Or.inl rfl)) pgs_nil)))) (fun _ _ _ _ _ => pts_nil) (fun _ _ _ _ _ => (pe_op op_add (pv 2) (pv 4))) (fun _ _ _ _ _ => (pv 5)))) pa_nil)) (pa_cons (pe_op op_add (pv 2) (pe_fld (pv 0) rfl)) pa_nil)))))))), ?_⟩
    obtain ⟨a, c, hh, e, n, b, t, k, rfl, he, ht, hF, hkn, q⟩ := h
    refine ⟨_, rfl, hh, rfl, ?_⟩
    obtain ⟨dx, dn, dp, mn, mp, h1, _⟩ := id he
    refine ⟨_, rfl, a, dx, _, rfl, h1, eF_5 _ _ _, _, rfl, _, rfl, a, c, hh, e, n, b, t, k, rfl, he, ht, fun _ H1 e1 => ?_, fun nF => absurd hF nF⟩
    refine ⟨_, rfl, rfl, false, rfl, ifF ?_⟩
    clear h1
    obtain ⟨dx, dn, dp, mn, mp, h1, h2, h3, h4, h5, h6, h7, h8⟩ := he.ext e1
    obtain ⟨dxt, dt, mt, g1, g2, g3⟩ := ht.ext e1
    have htp : TapeAt K H1 c b t k := ⟨dxt, dt, mt, g1, g2, g3⟩
    refine ⟨_, rfl, c, dxt, _, rfl, g1, tF_4 _ _, ?_⟩
    refine ⟨dp, _, h3, trivial, fun od => ?_⟩
    have hne : a ≠ dp := ne_of h1 h3 (by intro z; cases z)
    refine ⟨_, rfl, a, _, dx, _, _, rfl, (Lk.start (od := od) h3).keep a _ hne h1, T.c_Effect, T.a_Effect_puts, eF_2 _ _ _, dp, od, tk mp, rfl, upd_same, fun D hD => ?_⟩
    have hD0 : H1 D = none := (Lk.start h3).fresh hD
    have hB : BIG = 1000000 := rfl
    refine dc_it walk_items (fun i Hc => Lk H1 dp od (.dK (tk mp)) Hc ∧ ∃ mi, Hc D = some (.dK (tk mi)) ∧ Dct mi (fun j => look (mp.take i) (j - hh)) ∧ mi.length ≤ i) ⟨(Lk.start h3).new hD, [], upd_same, Dct.nil.congr fun j => by simp [look], Nat.le_refl _⟩ (fun i Hc _ z => z.1.at_) ?_ ?_
    · rintro i x Hc H2 hi ⟨l, mi, hM, dM, lM⟩ ⟨tt, x1, y1, rfl, htt, rfl, r1, r2⟩
      have l3 : Lk H1 dp od (.dK (tk mp)) (upd Hc tt (.tup [x1, y1])) := l.new htt
      obtain ⟨p, hp, e1⟩ := Option.map_eq_some_iff.mp r1
      obtain ⟨p2, hp2, e2⟩ := Option.map_eq_some_iff.mp r2
      obtain ⟨qq, hq, rfl⟩ := tk_get hp
      rw [hp] at hp2
      cases hp2
      subst e1 e2
      refine ⟨tt, _, rfl, SqT.of upd_same, rfl, _, _, rfl, _, _, rfl, rfl, rfl, ?_⟩
      refine ⟨_, rfl, _, rfl, _, _, rfl, rfl, _, rfl, tk mi, Sum.inl (hh + qq.1), rfl, (by rw [upd_ne (ne_of_none hM htt)]; exact hM), ?_, l3.put hD0, putM mi (hh + qq.1) qq.2, ?_, ?_, ?_⟩
      · rw [tk_length]
        rw [tk_length] at hi
        exact big_line (by omega)
      · rw [upd_same]
        exact congrArg (fun z => some (HO.dK z)) (putK_tk dM.nd _ _)
      · refine (dM.put (h5.lt _ (List.mem_of_getElem? hq))).congr fun j => ?_
        rw [take_succ' hq]
        have nd := nodup_take_snoc h5.nd hq
        rw [look_snoc nd]
        by_cases ej : hh + qq.1 = j
        · rw [if_pos ej, if_pos (by omega)]
        · rw [if_neg ej, if_neg (by omega)]
      · exact Nat.le_trans (length_put mi _ _).1 (Nat.succ_le_succ lM)
    · rintro Hc ⟨l, mi, hM, dM, lM⟩
      rw [tk_length, List.take_length] at dM
      rw [tk_length] at lM
      have dD : D ≠ dp := l.ne hD0
      have eL : Ext H1 (upd Hc dp (.dK (tk mp))) := l.back
      refine ⟨l.at_, c, D, b, t, fun j => e.P (j - hh), k, n, rfl, htp.ext eL, ⟨mi, (by rw [upd_ne dD]; exact hM), dM.congr fun j => h5.lk _, by omega⟩, hkn, fun pt H3 e3 hT _ => ?_⟩
      refine ⟨_, rfl, _, rfl, a, _, dx, _, _, rfl, e3 _ _ (eL _ _ h1), T.c_Effect, T.a_Effect_move, eF_3 _ _ _, _, _, rfl, rfl, (by show 2 ≤ sizeLine; decide), fun pp hpp => ?_⟩
      have e5 := ((e1.trans eL).trans e3)
      refine q pp _ (e5.trans (Ext.upd hpp)) ⟨pt, upd_same, hT.ext (Ext.upd hpp)⟩ (e5.none hpp)
end
end Tp
/-! part XN -/
set_option Elab.async false
set_option linter.all false
set_option maxRecDepth 100000
set_option maxHeartbeats 2000000
/-! the mathematics of building an effect, of running steps -/
namespace Tp
open PySem PySem.Spec PyProof.Rows L2
def setF (f : PF) (i : Int) (z : Str) : PF := fun j => if i = j then some z else f j
def setT (t : Int → Str) (i : Int) (z : Str) : Int → Str := fun j => if i = j then z else t j
theorem setF_same (f : PF) (i : Int) (z : Str) : setF f i z i = some z := if_pos rfl
theorem setF_ne {f : PF} {i j : Int} {z : Str} (h : i ≠ j) : setF f i z j = f j := if_neg h
/-- a builder -/
structure Bs where
  N : PF
  K : PF
  W : PF
  off : Int
  bad : Bool
def Bs.zero : Bs := ⟨fun _ => none, fun _ => none, fun _ => none, 0, false⟩
def Bs.ex (s : Bs) (i : Int) (z : Str) : Bs := match s.K i with
  | none => { s with N := setF s.N i z, K := setF s.K i z }
  | some y => if y = z then s else { s with bad := true }
def Bs.wr (s : Bs) (i : Int) (z : Str) : Bs := { s with K := setF s.K i z, W := setF s.W i z }
def Bs.go (s : Bs) (k : Int) : Bs := { s with off := s.off + k }
def Bs.step (s : Bs) : Stp → Bs
  | .l => s.go (-1)
  | .r => s.go 1
  | .wr z => s.wr s.off z
  | .ex z => s.ex s.off z
def Bs.steps (s : Bs) (ss : List Stp) : Bs := ss.foldl Bs.step s
def Bs.exs (s : Bs) (c : Int) (m : M) : Bs := m.foldl (fun s p => s.ex (c + p.1) p.2) s
def Bs.wrs (s : Bs) (c : Int) (m : M) : Bs := m.foldl (fun s p => s.wr (c + p.1) p.2) s
/-- what is written and not needed so -/
def Bs.left (s : Bs) : PF := fun i => (s.W i).bind fun z => if s.N i = some z then none else some z
def Bs.eff (s : Bs) : Eff := ⟨s.N, s.left, s.off⟩
def Bs.out (s : Bs) : Option Eff := if s.bad then none else some s.eff
theorem Bs.out_ok {s : Bs} (h : s.bad = false) : s.out = some s.eff := by unfold Bs.out; rw [h, if_neg Bool.false_ne_true]
theorem Bs.out_bad {s : Bs} (h : s.bad = true) : s.out = none := by unfold Bs.out; rw [h, if_pos rfl]
theorem Bs.left_normal (s : Bs) (i : Int) (z : Str) (h : s.left i = some z) : s.N i ≠ some z := by
  unfold Bs.left at h
  cases e : s.W i with
  | none =>
    rw [e] at h
    cases h
  | some y =>
    rw [e] at h
    have h2 : (if s.N i = some y then none else some y) = some z := h
    by_cases q : s.N i = some y
    · rw [if_pos q] at h2
      cases h2
    · rw [if_neg q] at h2
      rw [← Option.some.inj h2]
      exact q
/-! ### a builder and a tape -/
/-- s tells how the tape t, the head at h, came from t0, h0 -/
structure Good (s : Bs) (t0 : Int → Str) (h0 : Int) (t : Int → Str) (h : Int) : Prop where
  bad : s.bad = false
  off : h0 + s.off = h
  n : ∀ i z, s.N i = some z → t0 (h0 + i) = z
  k : ∀ i z, s.K i = some z → t (h0 + i) = z
  w : ∀ i, t (h0 + i) = (s.W i).getD (t0 (h0 + i))
  d : ∀ i, s.K i = none ↔ s.W i = none ∧ s.N i = none
theorem Good.zero (t : Int → Str) (h : Int) : Good Bs.zero t h t h := ⟨rfl, Int.add_zero h, fun i z q => (by cases q), fun i z q => (by cases q), fun i => rfl, fun i => ⟨fun _ => ⟨rfl, rfl⟩, fun _ => rfl⟩⟩
theorem Bs.ex_new {s : Bs} {i : Int} {z : Str} (h : s.K i = none) : s.ex i z = ⟨setF s.N i z, setF s.K i z, s.W, s.off, s.bad⟩ := by
  unfold Bs.ex
  rw [h]
theorem Bs.ex_old {s : Bs} {i : Int} {y z : Str} (h : s.K i = some y) : s.ex i z = if y = z then s else ⟨s.N, s.K, s.W, s.off, true⟩ := by
  unfold Bs.ex
  rw [h]
theorem Good.ex {s : Bs} {t0 t : Int → Str} {h0 h : Int} (g : Good s t0 h0 t h) {i : Int} {z : Str} (e : t (h0 + i) = z) : Good (s.ex i z) t0 h0 t h := by
  cases q : s.K i with
  | none =>
    obtain ⟨w0, n0⟩ := (g.d i).mp q
    rw [Bs.ex_new q]
    refine ⟨g.bad, g.off, fun j y hj => ?_, fun j y hj => ?_, g.w, fun j => ?_⟩
    · have hj : setF s.N i z j = some y := hj
      by_cases ij : i = j
      · subst ij
        rw [setF_same] at hj
        cases hj
        rw [← e, g.w i, w0]
        rfl
      · rw [setF_ne ij] at hj
        exact g.n j y hj
    · have hj : setF s.K i z j = some y := hj
      by_cases ij : i = j
      · subst ij
        rw [setF_same] at hj
        cases hj
        exact e
      · rw [setF_ne ij] at hj
        exact g.k j y hj
    · show setF s.K i z j = none ↔ s.W j = none ∧ setF s.N i z j = none
      by_cases ij : i = j
      · subst ij
        rw [setF_same, setF_same]
        exact ⟨fun x => (by cases x), fun x => (by cases x.2)⟩
      · rw [setF_ne ij, setF_ne ij]
        exact g.d j
  | some y =>
    have : y = z := by rw [← e, g.k i y q]
    rw [Bs.ex_old q, if_pos this]
    exact g
theorem Good.wr {s : Bs} {t0 t : Int → Str} {h0 h : Int} (g : Good s t0 h0 t h) (i : Int) (z : Str) : Good (s.wr i z) t0 h0 (setT t (h0 + i) z) h := by
  refine ⟨g.bad, g.off, g.n, fun j y hj => ?_, fun j => ?_, fun j => ?_⟩
  · by_cases ij : i = j
    · subst ij
      rw [show (s.wr i z).K i = some z from setF_same _ _ _] at hj
      cases hj
      exact if_pos rfl
    · rw [show (s.wr i z).K j = s.K j from setF_ne ij] at hj
      show (if h0 + i = h0 + j then z else t (h0 + j)) = y
      rw [if_neg (by omega)]
      exact g.k j y hj
  · show (if h0 + i = h0 + j then z else t (h0 + j)) = (setF s.W i z j).getD _
    by_cases ij : i = j
    · subst ij
      rw [if_pos rfl, setF_same]
      rfl
    · rw [if_neg (by omega), setF_ne ij]
      exact g.w j
  · show setF s.K i z j = none ↔ setF s.W i z j = none ∧ s.N j = none
    by_cases ij : i = j
    · subst ij
      rw [setF_same, setF_same]
      exact ⟨fun x => (by cases x), fun x => (by cases x.1)⟩
    · rw [setF_ne ij, setF_ne ij]
      exact g.d j
theorem Good.go {s : Bs} {t0 t : Int → Str} {h0 h : Int} (g : Good s t0 h0 t h) (k : Int) : Good (s.go k) t0 h0 t (h + k) := ⟨g.bad, by have := g.off; show h0 + (s.off + k) = h + k; omega, g.n, g.k, g.w, g.d⟩
/-- what its effect does -/
theorem Good.fits {s : Bs} {t0 t : Int → Str} {h0 h : Int} (g : Good s t0 h0 t h) : Fits s.eff t0 h0 := fun i z q => g.n i z q
theorem Good.on {s : Bs} {t0 t : Int → Str} {h0 h : Int} (g : Good s t0 h0 t h) : s.eff.on t0 h0 = t := by
  funext j
  have w := g.w (j - h0)
  rw [show h0 + (j - h0) = j by omega] at w
  show (s.left (j - h0)).getD (t0 j) = t j
  rw [w]
  unfold Bs.left
  cases e : s.W (j - h0) with
  | none => rfl
  | some z =>
    show (if s.N (j - h0) = some z then none else some z).getD (t0 j) = z
    by_cases q : s.N (j - h0) = some z
    · rw [if_pos q]
      have := g.n _ _ q
      rw [show h0 + (j - h0) = j by omega] at this
      exact this
    · rw [if_neg q]
      rfl
theorem Good.mv {s : Bs} {t0 t : Int → Str} {h0 h : Int} (g : Good s t0 h0 t h) : h0 + s.eff.mv = h := g.off
/-! ### steps -/
/-- a step on a tape -/
def stepT (st : Stp) (t : Int → Str) (h : Int) : Option ((Int → Str) × Int) := match st with
  | .l => some (t, h + (-1))
  | .r => some (t, h + 1)
  | .wr z => some (setT t h z, h)
  | .ex z => if t h = z then some (t, h) else none
def goT : List Stp → (Int → Str) → Int → Option ((Int → Str) × Int)
  | [], t, h => some (t, h)
  | st :: r, t, h => match stepT st t h with
    | some (t', h') => goT r t' h'
    | none => none
theorem Good.step {s : Bs} {t0 t t' : Int → Str} {h0 h h' : Int} (g : Good s t0 h0 t h) {st : Stp} (e : stepT st t h = some (t', h')) : Good (s.step st) t0 h0 t' h' := by
  cases st with
  | l =>
    cases e
    exact g.go (-1)
  | r =>
    cases e
    exact g.go 1
  | wr z =>
    cases e
    have := g.wr s.off z
    rw [g.off] at this
    exact this
  | ex z =>
    by_cases q : t h = z
    · have e' : (if t h = z then some (t, h) else none) = some (t', h') := e
      rw [if_pos q] at e'
      cases e'
      exact g.ex (by rw [g.off]; exact q)
    · have e' : (if t h = z then some (t, h) else none) = some (t', h') := e
      rw [if_neg q] at e'
      cases e'
theorem Good.steps {t0 t' : Int → Str} {h0 h' : Int} : ∀ {ss : List Stp} {s : Bs} {t : Int → Str} {h : Int}, Good s t0 h0 t h → goT ss t h = some (t', h') → Good (s.steps ss) t0 h0 t' h'
  | [], s, t, h, g, e => by
    cases e
    exact g
  | st :: r, s, t, h, g, e => by
    have e1 : (match stepT st t h with
      | some (t', h') => goT r t' h'
      | none => none) = some (t', h') := e
    cases q : stepT st t h with
    | none =>
      rw [q] at e1
      cases e1
    | some p =>
      obtain ⟨t1, h1⟩ := p
      rw [q] at e1
      exact Good.steps (ss := r) (g.step q) e1
/-! ### effects -/
theorem Good.exs {t0 t : Int → Str} {h0 h c : Int} : ∀ {m : M} {s : Bs}, Good s t0 h0 t h → (∀ p ∈ m, t (h0 + (c + p.1)) = p.2) → Good (s.exs c m) t0 h0 t h
  | [], s, g, _ => g
  | p :: r, s, g, hm => Good.exs (m := r) (g.ex (hm p List.mem_cons_self)) fun q hq => hm q (List.mem_cons_of_mem _ hq)
theorem Good.wrs {t0 : Int → Str} {h0 h c : Int} : ∀ {m : M} {s : Bs} {t : Int → Str}, Good s t0 h0 t h → Good (s.wrs c m) t0 h0 (m.foldl (fun t p => setT t (h0 + (c + p.1)) p.2) t) h
  | [], s, t, g => g
  | p :: r, s, t, g => Good.wrs (m := r) (g.wr (c + p.1) p.2)
theorem fold_set {c : Int} : ∀ {m : M} {t : Int → Str}, (keys m).Nodup → ∀ j, (m.foldl (fun t p => setT t (c + p.1) p.2) t) j = (look m (j - c)).getD (t j)
  | [], t, _, j => rfl
  | p :: r, t, hn, j => by
    obtain ⟨h1, h2⟩ := List.nodup_cons.mp (show (p.1 :: keys r).Nodup from hn)
    obtain ⟨k, z⟩ := p
    show (r.foldl (fun t p => setT t (c + p.1) p.2) (setT t (c + k) z)) j = _
    rw [fold_set h2 j]
    by_cases e : k = j - c
    · have e2 : look r (j - c) = none := by
        cases q : look r (j - c) with
        | none => rfl
        | some y => exact absurd (mem_keys.mpr (by rw [e, q]; simp)) h1
      rw [e2]
      show setT t (c + k) z j = _
      simp only [look, if_pos e]
      show (if c + k = j then z else t j) = z
      rw [if_pos (by omega)]
    · simp only [look, if_neg e]
      congr 1
      show (if c + k = j then z else t j) = t j
      rw [if_neg (by omega)]
/-- an effect added -/
def Bs.addM (s : Bs) (mn mp : M) (k : Int) : Bs := ((s.exs s.off mn).wrs s.off mp).go k
theorem Bs.exs_off (s : Bs) (c : Int) : ∀ (m : M), (s.exs c m).off = s.off := fun m => by
  induction m generalizing s with
  | nil => rfl
  | cons p r ih =>
    show ((s.ex (c + p.1) p.2).exs c r).off = _
    rw [ih]
    cases h : s.K (c + p.1) with
    | none => rw [Bs.ex_new h]
    | some y =>
      rw [Bs.ex_old h]
      by_cases q : y = p.2
      · rw [if_pos q]
      · rw [if_neg q]
theorem Bs.wrs_off (s : Bs) (c : Int) : ∀ (m : M), (s.wrs c m).off = s.off := fun m => by
  induction m generalizing s with
  | nil => rfl
  | cons p r ih =>
    show ((s.wr (c + p.1) p.2).wrs c r).off = _
    rw [ih]
    rfl
theorem Good.addM {s : Bs} {t0 t : Int → Str} {h0 h : Int} (g : Good s t0 h0 t h) {e : Eff} {mn mp : M} (dn : Dct mn e.N) (dp : Dct mp e.P) (f : Fits e t h) : Good (s.addM mn mp e.mv) t0 h0 (e.on t h) (h + e.mv) := by
  have g1 : Good (s.exs s.off mn) t0 h0 t h := g.exs fun p hp => by
    have := f p.1 p.2 ((dn.lk _).symm.trans (mem_look dn.nd hp))
    rw [← this]
    congr 1
    have := g.off
    omega
  have g2 := (g1.wrs (c := s.off) (m := mp)).go e.mv
  refine Eq.mp (congrArg (fun z => Good (s.addM mn mp e.mv) t0 h0 z (h + e.mv)) (funext fun j => ?_)) g2
  have e1 : (fun (t : Int → Str) (p : Int × Str) => setT t (h0 + (s.off + p.1)) p.2) = fun t p => setT t (h + p.1) p.2 := by
    funext t p
    have := g.off
    rw [show h0 + (s.off + p.1) = h + p.1 by omega]
  rw [e1, fold_set dp.nd, dp.lk]
  rfl
/-! ### an effect added, in closed form -/
def Bs.Dom (s : Bs) : Prop := ∀ j, s.K j = none ↔ s.W j = none ∧ s.N j = none
/-- what s knows does not speak against e -/
def Bs.Fk (s : Bs) (e : Eff) : Prop := ∀ i z y, e.N i = some z → s.K (s.off + i) = some y → y = z
def Bs.add (s : Bs) (e : Eff) : Bs := ⟨fun j => if s.K j = none then e.N (j - s.off) else s.N j, fun j => (e.P (j - s.off)).or ((s.K j).or (e.N (j - s.off))), fun j => (e.P (j - s.off)).or (s.W j), s.off + e.mv, s.bad⟩
theorem Bs.exs_eq {c : Int} : ∀ {m : M} {s : Bs}, (keys m).Nodup → (∀ j, s.K j = none → s.N j = none) → (∀ p ∈ m, ∀ y, s.K (c + p.1) = some y → y = p.2) →
    s.exs c m = ⟨fun j => if s.K j = none then look m (j - c) else s.N j, fun j => (s.K j).or (look m (j - c)), s.W, s.off, s.bad⟩
  | [], s, _, hd, _ => by
    show s = _
    have e1 : (fun j => if s.K j = none then (none : Option Str) else s.N j) = s.N := funext fun j => by
      by_cases h : s.K j = none
      · rw [if_pos h, hd j h]
      · rw [if_neg h]
    have e2 : (fun j => (s.K j).or none) = s.K := funext fun j => by cases s.K j <;> rfl
    show s = ⟨fun j => if s.K j = none then (none : Option Str) else s.N j, fun j => (s.K j).or none, s.W, s.off, s.bad⟩
    rw [e1, e2]
  | p :: r, s, hn, hd, hf => by
    obtain ⟨h1, h2⟩ := List.nodup_cons.mp (show (p.1 :: keys r).Nodup from hn)
    obtain ⟨k, z⟩ := p
    have look_r : look r k = none := by
      cases q : look r k with
      | none => rfl
      | some y => exact absurd (mem_keys.mpr (by rw [q]; simp)) h1
    show (s.ex (c + k) z).exs c r = _
    cases q : s.K (c + k) with
    | none =>
      rw [Bs.ex_new q, Bs.exs_eq h2 (fun j hj => ?_) (fun p hp y hy => ?_)]
      · congr 1
        · funext j
          show (if setF s.K (c + k) z j = none then look r (j - c) else setF s.N (c + k) z j) = if s.K j = none then (if k = j - c then some z else look r (j - c)) else s.N j
          by_cases ij : c + k = j
          · subst ij
            rw [setF_same, if_neg (by simp), setF_same, if_pos q, if_pos (by omega)]
          · rw [setF_ne ij, setF_ne ij, if_neg (show ¬ k = j - c by omega)]
        · funext j
          show (setF s.K (c + k) z j).or (look r (j - c)) = (s.K j).or (if k = j - c then some z else look r (j - c))
          by_cases ij : c + k = j
          · subst ij
            rw [setF_same, q, if_pos (by omega)]
            rfl
          · rw [setF_ne ij, if_neg (show ¬ k = j - c by omega)]
      · have hj : setF s.K (c + k) z j = none := hj
        show setF s.N (c + k) z j = none
        by_cases ij : c + k = j
        · subst ij
          rw [setF_same] at hj
          cases hj
        · rw [setF_ne ij] at hj ⊢
          exact hd j hj
      · have hy : setF s.K (c + k) z (c + p.1) = some y := hy
        by_cases ij : c + k = c + p.1
        · have : k = p.1 := by omega
          exact absurd (show k ∈ keys r by rw [this]; exact List.mem_map_of_mem hp) h1
        · rw [setF_ne ij] at hy
          exact hf p (List.mem_cons_of_mem _ hp) y hy
    | some y =>
      have e : y = z := hf (k, z) List.mem_cons_self y q
      rw [Bs.ex_old q, if_pos e, Bs.exs_eq h2 hd fun p hp => hf p (List.mem_cons_of_mem _ hp)]
      congr 1
      · funext j
        show (if s.K j = none then look r (j - c) else s.N j) = if s.K j = none then (if k = j - c then some z else look r (j - c)) else s.N j
        by_cases ij : c + k = j
        · subst ij
          rw [if_neg (by rw [q]; simp), if_neg (by rw [q]; simp)]
        · rw [if_neg (show ¬ k = j - c by omega)]
      · funext j
        show (s.K j).or (look r (j - c)) = (s.K j).or (if k = j - c then some z else look r (j - c))
        by_cases ij : c + k = j
        · subst ij
          rw [q]
          rfl
        · rw [if_neg (show ¬ k = j - c by omega)]
theorem Bs.wrs_eq {c : Int} : ∀ {m : M} {s : Bs}, (keys m).Nodup → s.wrs c m = ⟨s.N, fun j => (look m (j - c)).or (s.K j), fun j => (look m (j - c)).or (s.W j), s.off, s.bad⟩
  | [], s, _ => rfl
  | p :: r, s, hn => by
    obtain ⟨h1, h2⟩ := List.nodup_cons.mp (show (p.1 :: keys r).Nodup from hn)
    obtain ⟨k, z⟩ := p
    have look_r : look r k = none := by
      cases q : look r k with
      | none => rfl
      | some y => exact absurd (mem_keys.mpr (by rw [q]; simp)) h1
    show (s.wr (c + k) z).wrs c r = _
    rw [Bs.wrs_eq h2]
    have key : ∀ (f : PF) (j : Int), (look r (j - c)).or (setF f (c + k) z j) = (if k = j - c then some z else look r (j - c)).or (f j) := fun f j => by
      by_cases ij : c + k = j
      · subst ij
        rw [setF_same, if_pos (by omega), show c + k - c = k by omega, look_r]
        rfl
      · rw [setF_ne ij, if_neg (show ¬ k = j - c by omega)]
    congr 1
    · funext j
      exact key s.K j
    · funext j
      exact key s.W j
theorem Bs.addM_eq {s : Bs} {e : Eff} {mn mp : M} (dn : Dct mn e.N) (dp : Dct mp e.P) (hd : s.Dom) (hf : s.Fk e) : s.addM mn mp e.mv = s.add e := by
  unfold Bs.addM
  rw [Bs.exs_eq dn.nd (fun j h => ((hd j).mp h).2) (fun p hp y hy => hf p.1 p.2 y ((dn.lk _).symm.trans (mem_look dn.nd hp)) hy), Bs.wrs_eq dp.nd]
  unfold Bs.go Bs.add
  congr 1
  · funext j
    show (if s.K j = none then look mn (j - s.off) else s.N j) = _
    rw [dn.lk]
  · funext j
    show (look mp (j - s.off)).or ((s.K j).or (look mn (j - s.off))) = _
    rw [dn.lk, dp.lk]
  · funext j
    show (look mp (j - s.off)).or (s.W j) = _
    rw [dp.lk]
theorem Bs.add_dom {s : Bs} (hd : s.Dom) (e : Eff) : (s.add e).Dom := fun j => by
  show (e.P (j - s.off)).or ((s.K j).or (e.N (j - s.off))) = none ↔ (e.P (j - s.off)).or (s.W j) = none ∧ (if s.K j = none then e.N (j - s.off) else s.N j) = none
  cases e.P (j - s.off) with
  | some z => simp
  | none =>
    cases q : s.K j with
    | none =>
      obtain ⟨a, b⟩ := (hd j).mp q
      simp [a]
    | some z =>
      have := hd j
      rw [q] at this
      simp at this ⊢
      exact this
theorem Bs.zero_dom : Bs.zero.Dom := fun j => ⟨fun _ => ⟨rfl, rfl⟩, fun _ => rfl⟩
def build (es : List Eff) : Bs := es.foldl Bs.add Bs.zero
theorem build_snoc (es : List Eff) (e : Eff) : build (es ++ [e]) = (build es).add e := by
  unfold build
  rw [List.foldl_append]
  rfl
theorem build_dom (es : List Eff) : (build es).Dom := by
  unfold build
  have : ∀ (es : List Eff) (s : Bs), s.Dom → (es.foldl Bs.add s).Dom := fun es => by
    induction es with
    | nil => exact fun s h => h
    | cons e r ih => exact fun s h => ih _ (Bs.add_dom h e)
  exact this es _ Bs.zero_dom
theorem build_bad (es : List Eff) : (build es).bad = false := by
  unfold build
  have : ∀ (es : List Eff) (s : Bs), s.bad = false → (es.foldl Bs.add s).bad = false := fun es => by
    induction es with
    | nil => exact fun s h => h
    | cons e r ih => exact fun s h => ih _ h
  exact this es _ rfl
theorem Good.dom {s : Bs} {t0 t : Int → Str} {h0 h : Int} (g : Good s t0 h0 t h) : s.Dom := g.d
theorem Good.fk {s : Bs} {t0 t : Int → Str} {h0 h : Int} (g : Good s t0 h0 t h) {e : Eff} (f : Fits e t h) : s.Fk e := fun i z y hz hy => by
  have h1 := g.k _ _ hy
  have h2 := f i z hz
  rw [← h1, ← h2]
  have := g.off
  rw [show h0 + (s.off + i) = h + i by omega]
theorem Good.add {s : Bs} {t0 t : Int → Str} {h0 h : Int} (g : Good s t0 h0 t h) {e : Eff} {mn mp : M} (dn : Dct mn e.N) (dp : Dct mp e.P) (f : Fits e t h) : Good (s.add e) t0 h0 (e.on t h) (h + e.mv) := by
  rw [← Bs.addM_eq dn dp g.dom (g.fk f)]
  exact g.addM dn dp f
/-- each effect fits behind those before it -/
def Okb (es : List Eff) : Prop := ∀ i e, es[i]? = some e → (build (es.take i)).Fk e
theorem Okb.one (e : Eff) : Okb [e] := fun i x h => by
  cases i with
  | zero =>
    intro a z y _ hy
    cases hy
  | succ n => simp at h
/-- a normal effect built alone is itself -/
theorem build_one {e : Eff} (hn : ∀ i z, e.P i = some z → e.N i ≠ some z) : (build [e]).eff = e := by
  obtain ⟨N, P, k⟩ := e
  show (Eff.mk (fun j => if (none : Option Str) = none then N (j - 0) else none) _ (0 + k)) = _
  have e1 : (fun j : Int => if (none : Option Str) = none then N (j - 0) else none) = N := funext fun j => by rw [if_pos rfl, Int.sub_zero]
  have e2 : (build [⟨N, P, k⟩]).left = P := funext fun j => by
    show ((P (j - 0)).or none).bind (fun z => if (if (none : Option Str) = none then N (j - 0) else none) = some z then none else some z) = P j
    rw [Int.sub_zero, if_pos rfl]
    cases q : P j with
    | none => rfl
    | some z =>
      show (if N j = some z then none else some z) = some z
      rw [if_neg (hn j z q)]
  rw [e1, e2, Int.zero_add]
end Tp
/-! part K4 -/
set_option Elab.async false
set_option linter.all false
set_option maxRecDepth 100000
set_option maxHeartbeats 4000000
/-! the defs, part 4: the builder -/
namespace Tp
open PySem PySem.Spec PyProof.Rows L2
def bF (dn dk dw : Addr) (off : Int) (bad : Bool) : List (Str × V) := [("needs", .ref dn), ("known", .ref dk), ("written", .ref dw), ("offset", .int off), ("failed", .bl bad)]
section
variable (dn dk dw : Addr) (off k : Int) (bad : Bool)
theorem bF_1 : (bF dn dk dw off bad).lookup ("needs" : Str) = some (.ref dn) := by rfl
theorem bF_2 : (bF dn dk dw off bad).lookup ("known" : Str) = some (.ref dk) := by rfl
theorem bF_3 : (bF dn dk dw off bad).lookup ("written" : Str) = some (.ref dw) := by rfl
theorem bF_4 : (bF dn dk dw off bad).lookup ("offset" : Str) = some (.int off) := by rfl
theorem bF_5 : (bF dn dk dw off bad).lookup ("failed" : Str) = some (.bl bad) := by rfl
theorem bF_e : (bF dn dk dw off bad).lookup ("expect" : Str) = none := by rfl
theorem bF_w : (bF dn dk dw off bad).lookup ("write" : Str) = none := by rfl
theorem bF_s : (bF dn dk dw off bad).lookup ("add_step" : Str) = none := by rfl
theorem bF_a : (bF dn dk dw off bad).lookup ("add_effect" : Str) = none := by rfl
theorem bF_r : (bF dn dk dw off bad).lookup ("result" : Str) = none := by rfl
theorem bF_p4 : putF "offset" (.int k) (bF dn dk dw off bad) = bF dn dk dw k bad := by rfl
theorem bF_p5 : putF "failed" (.bl true) (bF dn dk dw off bad) = bF dn dk dw off true := by rfl
end
/-- the builder at a, its three dicts -/
structure BAt (K : PySem.W.Frag) (H : Hp) (a dn dk dw : Addr) (s : Bs) (n : Nat) : Prop where
  at_ : ∃ dx, H a = some (.ins (He.ga K "Builder") dx (bF dn dk dw s.off s.bad))
  dN : DAt H dn s.N n
  dK : DAt H dk s.K n
  dW : DAt H dw s.W n
  nk : dn ≠ dk
  nw : dn ≠ dw
  kw : dk ≠ dw
theorem BAt.ext {K : PySem.W.Frag} {H H' : Hp} {a dn dk dw : Addr} {s : Bs} {n : Nat} (b : BAt K H a dn dk dw s n) (e : Ext H H') : BAt K H' a dn dk dw s n :=
  ⟨let ⟨dx, h⟩ := b.at_; ⟨dx, e _ _ h⟩, b.dN.ext e, b.dK.ext e, b.dW.ext e, b.nk, b.nw, b.kw⟩
theorem BAt.le {K : PySem.W.Frag} {H : Hp} {a dn dk dw : Addr} {s : Bs} {n m : Nat} (b : BAt K H a dn dk dw s n) (e : n ≤ m) : BAt K H a dn dk dw s m :=
  ⟨b.at_, b.dN.le e, b.dK.le e, b.dW.le e, b.nk, b.nw, b.kw⟩
/-- none of the builder's objects stands in H0 -/
def BNew (H0 : Hp) (a dn dk dw : Addr) : Prop := H0 a = none ∧ H0 dn = none ∧ H0 dk = none ∧ H0 dw = none
theorem dput_of {H : Hp} {d : Addr} {f : PF} {n : Nat} (h : DAt H d f n) (hn : n < BIG) {i : Int} {z : Str} (hz : Let z) : ∃ m, DPut H d (.int i) (.str z) (upd H d (.dK m)) ∧ DAt (upd H d (.dK m)) d (setF f i z) (n + 1) := by
  obtain ⟨m, h1, h2, h3⟩ := h
  refine ⟨tk (putM m i z), .inl ⟨tk m, Sum.inl i, h1, rfl, ?_, ?_⟩, putM m i z, upd_same, h2.put hz, ?_⟩
  · rw [tk_length]
    exact big_line (by omega)
  · exact congrArg (fun q => upd H d (HO.dK q)) (putK_tk h2.nd i z).symm
  · have := (length_put m i z).1
    omega
theorem DAt.other {H : Hp} {d c : Addr} {f : PF} {n : Nat} {o : HO} (h : DAt H d f n) (ne : d ≠ c) : DAt (upd H c o) d f n := let ⟨m, h1, h2⟩ := h; ⟨m, by rw [upd_ne ne]; exact h1, h2⟩
theorem DAt.get {H : Hp} {d : Addr} {f : PF} {n : Nat} (h : DAt H d f n) (i : Int) : DGet H d (.int i) ((f i).map V.str) := let ⟨m, h1, h2, _⟩ := h; dget_of (.inl h1) h2 i
theorem DAt.ne_ins {H : Hp} {d a C dx : Addr} {f : PF} {n : Nat} {fs : List (Str × V)} (h : DAt H d f n) (ha : H a = some (.ins C dx fs)) : a ≠ d := let ⟨m, h1, _⟩ := h; ne_of ha h1 (by intro z; cases z)
theorem _root_.L2.Ext.both {H H' : Hp} {p : Addr} {o : HO} (e : Ext H H') : Ext (upd H p o) (upd H' p o) := fun a u h => by
  by_cases z : a = p
  · subst z
    rw [upd_same] at h ⊢
    exact h
  · rw [upd_ne z] at h ⊢
    exact e a u h
theorem _root_.L2.Ext.drop {H Hc : Hp} {p : Addr} {o : HO} (e : Ext (upd H p o) Hc) (h : H p = none) : Ext H Hc := fun a u z => e a u (by rw [upd_ne (ne_of_none z h)]; exact z)
theorem BNew.put {H0 : Hp} {a dn dk dw p : Addr} {o : HO} (b : BNew H0 a dn dk dw) (h1 : a ≠ p) (h2 : dn ≠ p) (h3 : dk ≠ p) (h4 : dw ≠ p) : BNew (upd H0 p o) a dn dk dw :=
  ⟨by rw [upd_ne h1]; exact b.1, by rw [upd_ne h2]; exact b.2.1, by rw [upd_ne h3]; exact b.2.2.1, by rw [upd_ne h4]; exact b.2.2.2⟩
theorem DAt.ne_none {H : Hp} {d p : Addr} {f : PF} {n : Nat} (h : DAt H d f n) (e : H p = none) : d ≠ p := let ⟨m, h1, _⟩ := h; ne_of_none h1 e
theorem BAt.ne_none {K : PySem.W.Frag} {H : Hp} {a dn dk dw p : Addr} {s : Bs} {n : Nat} (b : BAt K H a dn dk dw s n) (e : H p = none) : a ≠ p ∧ dn ≠ p ∧ dk ≠ p ∧ dw ≠ p :=
  ⟨let ⟨_, h⟩ := b.at_; ne_of_none h e, b.dN.ne_none e, b.dK.ne_none e, b.dW.ne_none e⟩
theorem BAt.new {K : PySem.W.Frag} {H : Hp} {a dn dk dw p : Addr} {s : Bs} {n : Nat} {o : HO} (b : BAt K H a dn dk dw s n) (e : H p = none) : BAt K (upd H p o) a dn dk dw s n := b.ext (Ext.upd e)
theorem exs_snoc (s : Bs) (c : Int) (m : M) (p : Int × Str) : s.exs c (m ++ [p]) = (s.exs c m).ex (c + p.1) p.2 := by
  unfold Bs.exs
  rw [List.foldl_append]
  rfl
theorem wrs_snoc (s : Bs) (c : Int) (m : M) (p : Int × Str) : s.wrs c (m ++ [p]) = (s.wrs c m).wr (c + p.1) p.2 := by
  unfold Bs.wrs
  rw [List.foldl_append]
  rfl
section
variable {P : Program} {w : World} {K : PySem.W.Frag} {mg : Str → Option Value} {base : Heap}
def sp_Builder_init (K : PySem.W.Frag) : Sp := fun vs H Q _ => ∃ (x dx : Addr), vs = [.ref x] ∧ H x = some (.ins (He.ga K "Builder") dx []) ∧
  ∀ H' dn dk dw, ExtBut x H H' → H dn = none → H dk = none → H dw = none → BAt K H' x dn dk dw Bs.zero 0 → Q .non H'
theorem sc_Builder_init : FnScope ["self"] ["self"] (defScope s_Builder_init) := ⟨rfl, rfl, rfl, by decide +kernel, rfl, by decide +kernel, by decide +kernel⟩
theorem k_Builder_init (T : Txt K mg) : FnR P w K mg base CX0 1 (He.ma K (He.ga K "Builder") "__init__") (sp_Builder_init K) := by
  obtain ⟨fd, F⟩ := T.f_Builder_init
  refine (fun (G : FnOk P w K mg base CX0 1 _ fd _ (sp_Builder_init K)) => ?_) (F.ok sc_Builder_init (fun vs H Q E h => by obtain ⟨_, _, rfl, _⟩ := h; rfl) (fun cdv A outer s H vs Q E hr h => ?_))
  · exact (G.raw (F.bindsN fun _ _ _ _ _ _ us hl => match us, hl with | [_], _ => rfl) .nil).imp fun vs H Q E h => by rw [List.append_nil]; exact h
  · have hu := hu_of hr
    have hu0 : (A.deeper (envOfC _ _ s.heap.objs.size _ cdv)).units < cLine := Nat.lt_of_succ_lt hu
    refine ⟨_, PSs.nox (pss_cons (ps_fld (pv 0) pe_dnewK rfl)
  (pss_cons (ps_fld (pv 0) pe_dnewK rfl)
  (pss_cons (ps_fld (pv 0) pe_dnewK rfl)
  (pss_cons (ps_fld (pv 0) pe_int rfl)
  (pss_one (ps_fld (pv 0) pe_bl rfl)))))), ?_⟩
    obtain ⟨x, dx, rfl, hx, q⟩ := h
    intro dn hn
    have n1 : dn ≠ x := fun z => by rw [z, hx] at hn; cases hn
    refine ⟨_, rfl, x, _, dx, _, rfl, (Ext.upd hn _ _ hx), T.c_Builder, T.a_Builder_needs, (by show 0 < 1000; decide), ?_⟩
    intro dk hk
    have n2 : dk ≠ x := fun z => by rw [z, upd_same] at hk; cases hk
    rw [upd_ne n2] at hk
    have k1 : dk ≠ dn := fun z => by rw [z, upd_same] at hk; cases hk
    rw [upd_ne k1] at hk
    refine ⟨_, rfl, x, _, dx, _, rfl, (by rw [upd_ne (Ne.symm n2)]; exact upd_same), T.c_Builder, T.a_Builder_known, (by show 1 < 1000; decide), ?_⟩
    intro dw hw
    have n3 : dw ≠ x := fun z => by rw [z, upd_same] at hw; cases hw
    rw [upd_ne n3] at hw
    have k2 : dw ≠ dk := fun z => by rw [z, upd_same] at hw; cases hw
    rw [upd_ne k2, upd_ne n3] at hw
    have k3 : dw ≠ dn := fun z => by rw [z, upd_same] at hw; cases hw
    rw [upd_ne k3] at hw
    refine ⟨_, rfl, x, _, dx, _, rfl, (by rw [upd_ne (Ne.symm n3)]; exact upd_same), T.c_Builder, T.a_Builder_written, (by show 2 < 1000; decide), ?_⟩
    refine ⟨_, rfl, x, _, dx, _, rfl, upd_same, T.c_Builder, T.a_Builder_offset, (by show 3 < 1000; decide), ?_⟩
    refine ⟨_, rfl, x, _, dx, _, rfl, upd_same, T.c_Builder, T.a_Builder_failed, (by show 4 < 1000; decide), ?_⟩
    rw [upd_upd, upd_upd]
    refine q _ dn dk dw ?_ hn hk hw ⟨⟨dx, upd_same⟩, ⟨[], ?_, Dct.nil, Nat.le_refl _⟩, ⟨[], ?_, Dct.nil, Nat.le_refl _⟩, ⟨[], ?_, Dct.nil, Nat.le_refl _⟩, Ne.symm k1, Ne.symm k3, Ne.symm k2⟩
    · exact ((((((ExtBut.refl.at_ hn).put).at_ hk).put).at_ hw).put)
    · rw [upd_ne n1, upd_ne (Ne.symm k3), upd_ne n1, upd_ne (Ne.symm k1), upd_ne n1, upd_same]
      rfl
    · rw [upd_ne n2, upd_ne (Ne.symm k2), upd_ne n2, upd_same]
      rfl
    · rw [upd_ne n3, upd_same]
      rfl
def sp_Builder_expect (K : PySem.W.Frag) : Sp := fun vs H Q _ => ∃ (a dn dk dw : Addr) (s : Bs) (n : Nat) (H0 : Hp) (i : Int) (z : Str), vs = [.ref a, .int i, .str z] ∧ BAt K H a dn dk dw s n ∧ n < BIG ∧ Let z ∧ Ext H0 H ∧ BNew H0 a dn dk dw ∧
  ∀ H', Ext H0 H' → BAt K H' a dn dk dw (s.ex i z) (n + 1) → Q .non H'
theorem sc_Builder_expect : FnScope ["self", "offset", "letter"] ["self", "offset", "letter"] (defScope s_Builder_expect) := ⟨rfl, rfl, rfl, by decide +kernel, rfl, by decide +kernel, by decide +kernel⟩
theorem k_Builder_expect (T : Txt K mg) : FnR P w K mg base CX0 1 (He.ma K (He.ga K "Builder") "expect") (sp_Builder_expect K) := by
  obtain ⟨fd, F⟩ := T.f_Builder_expect
  refine (fun (G : FnOk P w K mg base CX0 1 _ fd _ (sp_Builder_expect K)) => ?_) (F.ok sc_Builder_expect (fun vs H Q E h => by obtain ⟨_, _, _, _, _, _, _, _, _, rfl, _⟩ := h; rfl) (fun cdv A outer s H vs Q E hr h => ?_))
  · exact (G.raw (F.bindsN fun _ _ _ _ _ _ us hl => match us, hl with | [_, _, _], _ => rfl) .nil).imp fun vs H Q E h => by rw [List.append_nil]; exact h
  · have hu := hu_of hr
    have hu0 : (A.deeper (envOfC _ _ s.heap.objs.size _ cdv)).units < cLine := Nat.lt_of_succ_lt hu
    refine ⟨_, PSs.nox (pss_one (ps_if (pt_cmp (pc_dnotin hu (pv 1) (pe_fld (pv 0) rfl))) (pss_cons (ps_dput hu (pe_fld (pv 0) rfl) (pv 1) (pv 2) rfl)
  (pss_one (ps_dput hu (pe_fld (pv 0) rfl) (pv 1) (pv 2) rfl))) (pss_one (ps_if (pt_cmpR op_ne (pe_dget hu (pe_fld (pv 0) rfl) (pv 1) (fun _ _ => rfl)) (pv 2) (nomark _)) (pss_one (ps_fld (pv 0) pe_bl rfl)) pss_nil)))), ?_⟩
    obtain ⟨a, dn, dk, dw, s0, n, H0, i, z, rfl, b, hn, hz, e0, ⟨z1, z2, z3, z4⟩, q⟩ := h
    obtain ⟨dx, ha⟩ := b.at_
    have na1 := b.dN.ne_ins ha
    have na2 := b.dK.ne_ins ha
    refine ⟨_, rfl, _, rfl, a, _, dx, _, _, rfl, ha, T.c_Builder, T.a_Builder_known, bF_2 _ _ _ _ _, dk, _, rfl, b.dK.get i, _, rfl, ?_⟩
    cases hK : s0.K i with
    | none =>
      obtain ⟨m1, p1, d1⟩ := dput_of b.dN hn (i := i) hz
      refine ⟨_, rfl, _, rfl, a, _, dx, _, _, rfl, ha, T.c_Builder, T.a_Builder_needs, bF_1 _ _ _ _ _, _, rfl, dn, _, rfl, p1, ?_⟩
      have ha1 : (upd H dn (.dK m1)) a = some (.ins (He.ga K "Builder") dx (bF dn dk dw s0.off s0.bad)) := by rw [upd_ne na1]; exact ha
      have k1 := b.dK.other (o := .dK m1) (Ne.symm b.nk)
      obtain ⟨m2, p2, d2⟩ := dput_of k1 hn (i := i) hz
      refine ⟨_, rfl, _, rfl, a, _, dx, _, _, rfl, ha1, T.c_Builder, T.a_Builder_known, bF_2 _ _ _ _ _, _, rfl, dk, _, rfl, p2, ?_⟩
      refine q _ ((e0.put z2).put z3) ?_
      rw [Bs.ex_new hK]
      exact ⟨⟨dx, by rw [upd_ne na2]; exact ha1⟩, d1.other b.nk, d2, ((b.dW.other (Ne.symm b.nw)).other (Ne.symm b.kw)).le (Nat.le_succ _), b.nk, b.nw, b.kw⟩
    | some y =>
      have g := b.dK.get i
      rw [hK] at g
      refine ⟨_, rfl, a, _, dx, _, _, rfl, ha, T.c_Builder, T.a_Builder_known, bF_2 _ _ _ _ _, _, rfl, dk, _, rfl, g, _, rfl, rfl, _, rfl, ?_⟩
      refine ifND (fun ne => ?_) fun eq => ?_
      · have ne' : ¬ y = z := fun x => ne (by rw [x])
        refine ⟨_, rfl, a, _, dx, _, rfl, ha, T.c_Builder, T.a_Builder_failed, (by show 5 < 1000; decide), ?_⟩
        refine q _ (e0.put z1) ?_
        rw [Bs.ex_old hK, if_neg ne']
        exact ⟨⟨dx, upd_same⟩, (b.dN.put ha).le (Nat.le_succ _), (b.dK.put ha).le (Nat.le_succ _), (b.dW.put ha).le (Nat.le_succ _), b.nk, b.nw, b.kw⟩
      · have eq' : y = z := by injection eq
        refine q _ e0 ?_
        rw [Bs.ex_old hK, if_pos eq']
        exact b.le (Nat.le_succ _)
def sp_Builder_write (K : PySem.W.Frag) : Sp := fun vs H Q _ => ∃ (a dn dk dw : Addr) (s : Bs) (n : Nat) (H0 : Hp) (i : Int) (z : Str), vs = [.ref a, .int i, .str z] ∧ BAt K H a dn dk dw s n ∧ n < BIG ∧ Let z ∧ Ext H0 H ∧ BNew H0 a dn dk dw ∧
  ∀ H', Ext H0 H' → BAt K H' a dn dk dw (s.wr i z) (n + 1) → Q .non H'
theorem sc_Builder_write : FnScope ["self", "offset", "letter"] ["self", "offset", "letter"] (defScope s_Builder_write) := ⟨rfl, rfl, rfl, by decide +kernel, rfl, by decide +kernel, by decide +kernel⟩
theorem k_Builder_write (T : Txt K mg) : FnR P w K mg base CX0 1 (He.ma K (He.ga K "Builder") "write") (sp_Builder_write K) := by
  obtain ⟨fd, F⟩ := T.f_Builder_write
  refine (fun (G : FnOk P w K mg base CX0 1 _ fd _ (sp_Builder_write K)) => ?_) (F.ok sc_Builder_write (fun vs H Q E h => by obtain ⟨_, _, _, _, _, _, _, _, _, rfl, _⟩ := h; rfl) (fun cdv A outer s H vs Q E hr h => ?_))
  · exact (G.raw (F.bindsN fun _ _ _ _ _ _ us hl => match us, hl with | [_, _, _], _ => rfl) .nil).imp fun vs H Q E h => by rw [List.append_nil]; exact h
  · have hu := hu_of hr
    have hu0 : (A.deeper (envOfC _ _ s.heap.objs.size _ cdv)).units < cLine := Nat.lt_of_succ_lt hu
    refine ⟨_, PSs.nox (pss_cons (ps_dput hu (pe_fld (pv 0) rfl) (pv 1) (pv 2) rfl)
  (pss_one (ps_dput hu (pe_fld (pv 0) rfl) (pv 1) (pv 2) rfl))), ?_⟩
    obtain ⟨a, dn, dk, dw, s0, n, H0, i, z, rfl, b, hn, hz, e0, ⟨z1, z2, z3, z4⟩, q⟩ := h
    obtain ⟨dx, ha⟩ := b.at_
    have na1 := b.dN.ne_ins ha
    have na2 := b.dK.ne_ins ha
    have na3 := b.dW.ne_ins ha
    obtain ⟨m1, p1, d1⟩ := dput_of b.dK hn (i := i) hz
    refine ⟨_, rfl, _, rfl, a, _, dx, _, _, rfl, ha, T.c_Builder, T.a_Builder_known, bF_2 _ _ _ _ _, _, rfl, dk, _, rfl, p1, ?_⟩
    have ha1 : (upd H dk (.dK m1)) a = some (.ins (He.ga K "Builder") dx (bF dn dk dw s0.off s0.bad)) := by rw [upd_ne na2]; exact ha
    have k1 := b.dW.other (o := .dK m1) (Ne.symm b.kw)
    obtain ⟨m2, p2, d2⟩ := dput_of k1 hn (i := i) hz
    refine ⟨_, rfl, _, rfl, a, _, dx, _, _, rfl, ha1, T.c_Builder, T.a_Builder_written, bF_3 _ _ _ _ _, _, rfl, dw, _, rfl, p2, ?_⟩
    refine q _ ((e0.put z3).put z4) ?_
    exact ⟨⟨dx, by rw [upd_ne na3]; exact ha1⟩, ((b.dN.other b.nk).other b.nw).le (Nat.le_succ _), d1.other b.kw, d2, b.nk, b.nw, b.kw⟩
def sp_Builder_add_step (K : PySem.W.Frag) : Sp := fun vs H Q _ => ∃ (a dn dk dw : Addr) (s : Bs) (n : Nat) (H0 : Hp) (v : V) (st : Stp), vs = [.ref a, v] ∧ BAt K H a dn dk dw s n ∧ n < BIG ∧ StepAt H v st ∧ Ext H0 H ∧ BNew H0 a dn dk dw ∧
  ∀ H', Ext H0 H' → BAt K H' a dn dk dw (s.step st) (n + 1) → Q .non H'
theorem sc_Builder_add_step : FnScope ["self", "step"] ["self", "step"] (defScope s_Builder_add_step) := ⟨rfl, rfl, rfl, by decide +kernel, rfl, by decide +kernel, by decide +kernel⟩
theorem k_Builder_add_step (T : Txt K mg) : FnR P w K mg base CX0 2 (He.ma K (He.ga K "Builder") "add_step") (sp_Builder_add_step K) := by
  obtain ⟨fd, F⟩ := T.f_Builder_add_step
  refine (fun (G : FnOk P w K mg base CX0 2 _ fd _ (sp_Builder_add_step K)) => ?_) (F.ok sc_Builder_add_step (fun vs H Q E h => by obtain ⟨_, _, _, _, _, _, _, _, _, rfl, _⟩ := h; rfl) (fun cdv A outer s H vs Q E hr h => ?_))
  · exact (G.raw (F.bindsN fun _ _ _ _ _ _ us hl => match us, hl with | [_, _], _ => rfl) .nil).imp fun vs H Q E h => by rw [List.append_nil]; exact h
  · have hu := hu_of hr
    have hu0 : (A.deeper (envOfC _ _ s.heap.objs.size _ cdv)).units < cLine := Nat.lt_of_succ_lt hu
    refine ⟨_, PSs.nox (pss_one (ps_match (pe_ix ix_tup (pv 1) pe_int (fun _ _ => rfl)) (pm_str (pss_one (ps_expr (pe_methR (pv 0) T.c_Builder T.m_Builder_expect (k_Builder_expect T) (hr.mono (by decide)) pass0 (pa_cons (pe_fld (pv 0) rfl) (pa_cons (pe_ix ix_tup (pv 1) pe_int (fun _ _ => rfl)) pa_nil))))) (pm_str (pss_one (ps_expr (pe_methR (pv 0) T.c_Builder T.m_Builder_write (k_Builder_write T) (hr.mono (by decide)) pass0 (pa_cons (pe_fld (pv 0) rfl) (pa_cons (pe_ix ix_tup (pv 1) pe_int (fun _ _ => rfl)) pa_nil))))) (pm_any (pss_one (ps_fldaug (pv 0) (pe_cR (k_move_of T) (hr.mono (by decide)) (by rfl) T.g_move_of T.kp_move_of pass0 (pa_cons (pv 1) pa_nil)) in_add))))))), ?_⟩
    obtain ⟨a, dn, dk, dw, s0, n, H0, v, st, rfl, b, hn, ⟨t, rfl, ht, hs⟩, e0, z0, q⟩ := h
    obtain ⟨dx, ha⟩ := b.at_
    cases st with
    | l =>
      refine ⟨_, rfl, t, _, _, _, rfl, rfl, SqT.of ht, rfl, _, rfl, ifF ⟨_, rfl, ifF ?_⟩⟩
      refine ⟨_, rfl, a, _, dx, _, _, rfl, ha, T.c_Builder, T.a_Builder_offset, bF_4 _ _ _ _ _, _, rfl, _, Stp.l, rfl, ⟨t, rfl, ht, hs⟩, _, _, rfl, rfl, _, _, ha, (by show 5 < 1000; decide), ?_⟩
      rw [bF_p4]
      exact q _ (e0.put z0.1) ⟨⟨dx, upd_same⟩, (b.dN.put ha).le (Nat.le_succ _), (b.dK.put ha).le (Nat.le_succ _), (b.dW.put ha).le (Nat.le_succ _), b.nk, b.nw, b.kw⟩
    | r =>
      refine ⟨_, rfl, t, _, _, _, rfl, rfl, SqT.of ht, rfl, _, rfl, ifF ⟨_, rfl, ifF ?_⟩⟩
      refine ⟨_, rfl, a, _, dx, _, _, rfl, ha, T.c_Builder, T.a_Builder_offset, bF_4 _ _ _ _ _, _, rfl, _, Stp.r, rfl, ⟨t, rfl, ht, hs⟩, _, _, rfl, rfl, _, _, ha, (by show 5 < 1000; decide), ?_⟩
      rw [bF_p4]
      exact q _ (e0.put z0.1) ⟨⟨dx, upd_same⟩, (b.dN.put ha).le (Nat.le_succ _), (b.dK.put ha).le (Nat.le_succ _), (b.dW.put ha).le (Nat.le_succ _), b.nk, b.nw, b.kw⟩
    | wr z =>
      refine ⟨_, rfl, t, _, _, _, rfl, rfl, SqT.of ht, rfl, _, rfl, ifF ⟨_, rfl, ifT ?_⟩⟩
      refine ⟨_, rfl, a, dx, _, rfl, ha, bF_w _ _ _ _ _, _, rfl, a, _, dx, _, _, rfl, ha, T.c_Builder, T.a_Builder_offset, bF_4 _ _ _ _ _, _, rfl, t, _, _, _, rfl, rfl, SqT.of ht, rfl, ?_⟩
      exact ⟨a, dn, dk, dw, s0, n, H0, s0.off, z, rfl, b, hn, hs, e0, z0, q⟩
    | ex z =>
      refine ⟨_, rfl, t, _, _, _, rfl, rfl, SqT.of ht, rfl, _, rfl, ifT ?_⟩
      refine ⟨_, rfl, a, dx, _, rfl, ha, bF_e _ _ _ _ _, _, rfl, a, _, dx, _, _, rfl, ha, T.c_Builder, T.a_Builder_offset, bF_4 _ _ _ _ _, _, rfl, t, _, _, _, rfl, rfl, SqT.of ht, rfl, ?_⟩
      exact ⟨a, dn, dk, dw, s0, n, H0, s0.off, z, rfl, b, hn, hs, e0, z0, q⟩
def sp_Builder_add_effect (K : PySem.W.Frag) : Sp := fun vs H Q _ => ∃ (a dn dk dw c : Addr) (s : Bs) (n k : Nat) (H0 : Hp) (e : Eff), vs = [.ref a, .ref c] ∧ BAt K H a dn dk dw s n ∧ n + k + k < BIG ∧ EffAt K H0 c e k ∧ Ext H0 H ∧ BNew H0 a dn dk dw ∧ s.Dom ∧ s.Fk e ∧
  ∀ H', Ext H0 H' → BAt K H' a dn dk dw (s.add e) (n + k + k) → Q .non H'
theorem sc_Builder_add_effect : FnScope ["self", "effect", "offset", "letter"] ["self", "effect"] (defScope s_Builder_add_effect) := ⟨rfl, rfl, rfl, by decide +kernel, rfl, by decide +kernel, by decide +kernel⟩
theorem k_Builder_add_effect (T : Txt K mg) : FnR P w K mg base CX0 3 (He.ma K (He.ga K "Builder") "add_effect") (sp_Builder_add_effect K) := by
  obtain ⟨fd, F⟩ := T.f_Builder_add_effect
  refine (fun (G : FnOk P w K mg base CX0 3 _ fd _ (sp_Builder_add_effect K)) => ?_) (F.ok sc_Builder_add_effect (fun vs H Q E h => by obtain ⟨_, _, _, _, _, _, _, _, _, _, rfl, _⟩ := h; rfl) (fun cdv A outer s H vs Q E hr h => ?_))
  · exact (G.raw (F.bindsN fun _ _ _ _ _ _ us hl => match us, hl with | [_, _], _ => rfl) .nil).imp fun vs H Q E h => by rw [List.append_nil]; exact h
  · have hu := hu_of hr
    have hu0 : (A.deeper (envOfC _ _ s.heap.objs.size _ cdv)).units < cLine := Nat.lt_of_succ_lt hu
    refine ⟨_, PSs.nox (pss_cons (ps_for PassesOwn.never rfl (pi_itemsL (pe_propR (pv 1) T.c_Effect T.p_Effect_expected (k_Effect_expected T) (hr.mono (by decide)) pass0)) (pg_tup rfl (pgs_cons (pg_name (i := 2) sc_Builder_add_effect.nd rfl (Or.inl rfl)) (pgs_cons (pg_name (i := 3) sc_Builder_add_effect.nd rfl (Or.inl rfl)) pgs_nil))) (pss_one (ps_expr (pe_methR (pv 0) T.c_Builder T.m_Builder_expect (k_Builder_expect T) (hr.mono (by decide)) pass0 (pa_cons (pe_op op_add (pe_fld (pv 0) rfl) (pv 2)) (pa_cons (pv 3) pa_nil))))))
  (pss_cons (ps_for PassesOwn.never rfl (pi_itemsL (pe_propR (pv 1) T.c_Effect T.p_Effect_changed (k_Effect_changed T) (hr.mono (by decide)) pass0)) (pg_tup rfl (pgs_cons (pg_name (i := 2) sc_Builder_add_effect.nd rfl (Or.inl rfl)) (pgs_cons (pg_name (i := 3) sc_Builder_add_effect.nd rfl (Or.inl rfl)) pgs_nil))) (pss_one (ps_expr (pe_methR (pv 0) T.c_Builder T.m_Builder_write (k_Builder_write T) (hr.mono (by decide)) pass0 (pa_cons (pe_op op_add (pe_fld (pv 0) rfl) (pv 2)) (pa_cons (pv 3) pa_nil))))))
  (pss_one (ps_fldaug (pv 0) (pe_propR (pv 1) T.c_Effect T.p_Effect_shift (k_Effect_shift T) (hr.mono (by decide)) pass0) in_add)))), ?_⟩
    obtain ⟨a, dn, dk, dw, c, s0, n, k, H0, e, rfl, b, hn, he, e0, z0, hd, hf, q⟩ := h
    have heH := he.ext e0
    obtain ⟨dxe, _, _, _, _, hc, _⟩ := id heH
    refine ⟨_, rfl, c, dxe, _, rfl, hc, c, e, k, rfl, heH, fun p m dm lm np => ⟨p, tk m, rfl, upd_same, fun o => ?_⟩⟩
    rw [upd_upd]
    refine ⟨p, o, tk m, rfl, upd_same, ?_⟩
    have np0 : H0 p = none := e0.none np
    obtain ⟨p1, p2, p3, p4⟩ := b.ne_none np
    have zb : BNew (upd H0 p (.frz o (.dK (tk m)))) a dn dk dw := z0.put p1 p2 p3 p4
    refine for_it walk_items (fun i σ Hc => ∃ v1 v2, σ = [some (.ref a), some (.ref c), v1, v2] ∧ Ext (upd H0 p (.frz o (.dK (tk m)))) Hc ∧ BAt K Hc a dn dk dw (s0.exs s0.off (m.take i)) (n + i)) ⟨_, _, rfl, e0.both, b.new np⟩ (fun i σ Hc _ ⟨_, _, _, x, _⟩ => x _ _ upd_same) ?_ ?_
    · rintro i x σ Hc H1 hi ⟨v1, v2, rfl, ec, bc⟩ ⟨tt, x1, y1, rfl, htt, rfl, g1, g2⟩
      obtain ⟨pp, hp, e1⟩ := Option.map_eq_some_iff.mp g1
      obtain ⟨pp2, hp2, e2⟩ := Option.map_eq_some_iff.mp g2
      obtain ⟨qq, hq, rfl⟩ := tk_get hp
      rw [hp] at hp2
      cases hp2
      subst e1 e2
      obtain ⟨dxb, hb0⟩ := bc.at_
      have hb := fun o => (Ext.upd (o := o) htt) _ _ hb0
      have bc2 := fun o => bc.new (o := o) htt
      rw [tk_length] at hi
      refine ⟨tt, _, rfl, SqT.of upd_same, rfl, _, _, rfl, _, _, rfl, rfl, ?_⟩
      refine ⟨_, rfl, a, dxb, _, rfl, hb _, bF_e _ _ _ _ _, _, rfl, a, _, dxb, _, _, rfl, hb _, T.c_Builder, T.a_Builder_offset, bF_4 _ _ _ _ _, _, rfl, _, _, rfl, rfl, _, rfl, ?_⟩
      refine ⟨a, dn, dk, dw, _, n + i, _, _, qq.2, rfl, bc2 _, by omega, dm.lt _ (List.mem_of_getElem? hq), ec.trans (Ext.upd htt), zb, fun H2 e2 b2 => ?_⟩
      refine ⟨_, _, rfl, e2, ?_⟩
      rw [take_succ' hq, exs_snoc]
      rw [Bs.exs_off] at b2
      exact b2
    · rintro σ Hc ⟨v1, v2, rfl, ec, bc⟩
      rw [tk_length, List.take_length] at bc
      have ec0 := ec.drop np0
      have heC := he.ext ec0
      obtain ⟨dxe2, _, _, _, _, hc2, _⟩ := id heC
      refine ⟨_, rfl, c, dxe2, _, rfl, hc2, c, e, k, rfl, heC, fun r mp dp lp nr => ⟨r, tk mp, rfl, upd_same, fun o2 => ?_⟩⟩
      rw [upd_upd]
      refine ⟨r, o2, tk mp, rfl, upd_same, ?_⟩
      have nr0 : H0 r = none := ec0.none nr
      obtain ⟨r1, r2, r3, r4⟩ := bc.ne_none nr
      have zr : BNew (upd H0 r (.frz o2 (.dK (tk mp)))) a dn dk dw := z0.put r1 r2 r3 r4
      refine for_it walk_items (fun i σ Hc => ∃ v1 v2, σ = [some (.ref a), some (.ref c), v1, v2] ∧ Ext (upd H0 r (.frz o2 (.dK (tk mp)))) Hc ∧ BAt K Hc a dn dk dw ((s0.exs s0.off m).wrs s0.off (mp.take i)) (n + m.length + i)) ⟨_, _, rfl, ec0.both, bc.new nr⟩ (fun i σ Hc _ ⟨_, _, _, x, _⟩ => x _ _ upd_same) ?_ ?_
      · rintro i x σ Hd H1 hi ⟨v3, v4, rfl, ed, bd⟩ ⟨tt, x1, y1, rfl, htt, rfl, g1, g2⟩
        obtain ⟨pp, hp, e1⟩ := Option.map_eq_some_iff.mp g1
        obtain ⟨pp2, hp2, e2⟩ := Option.map_eq_some_iff.mp g2
        obtain ⟨qq, hq, rfl⟩ := tk_get hp
        rw [hp] at hp2
        cases hp2
        subst e1 e2
        obtain ⟨dxb, hb0⟩ := bd.at_
        have hb := fun o => (Ext.upd (o := o) htt) _ _ hb0
        have bc2 := fun o => bd.new (o := o) htt
        rw [tk_length] at hi
        refine ⟨tt, _, rfl, SqT.of upd_same, rfl, _, _, rfl, _, _, rfl, rfl, ?_⟩
        refine ⟨_, rfl, a, dxb, _, rfl, hb _, bF_w _ _ _ _ _, _, rfl, a, _, dxb, _, _, rfl, hb _, T.c_Builder, T.a_Builder_offset, bF_4 _ _ _ _ _, _, rfl, _, _, rfl, rfl, _, rfl, ?_⟩
        refine ⟨a, dn, dk, dw, _, n + m.length + i, _, _, qq.2, rfl, bc2 _, by omega, dp.lt _ (List.mem_of_getElem? hq), ed.trans (Ext.upd htt), zr, fun H2 e2 b2 => ?_⟩
        refine ⟨_, _, rfl, e2, ?_⟩
        rw [take_succ' hq, wrs_snoc]
        rw [Bs.wrs_off, Bs.exs_off] at b2
        exact b2
      · rintro σ Hd ⟨v3, v4, rfl, ed, bd⟩
        rw [tk_length, List.take_length] at bd
        have ed0 := ed.drop nr0
        have heD := he.ext ed0
        obtain ⟨dxe3, _, _, _, _, hc3, _⟩ := id heD
        obtain ⟨dxb, hb⟩ := bd.at_
        refine ⟨_, rfl, a, _, dxb, _, _, rfl, hb, T.c_Builder, T.a_Builder_offset, bF_4 _ _ _ _ _, _, rfl, c, dxe3, _, rfl, hc3, c, e, k, rfl, heD, _, _, rfl, rfl, _, _, hb, (by show 5 < 1000; decide), ?_⟩
        rw [bF_p4]
        have key := Bs.addM_eq dm dp hd hf
        refine q _ (ed0.put z0.1) ?_
        rw [← key]
        refine BAt.le ⟨⟨dxb, ?_⟩, bd.dN.put hb, bd.dK.put hb, bd.dW.put hb, bd.nk, bd.nw, bd.kw⟩ (m := n + k + k) (by omega)
        rw [upd_same]
        rfl
def sp_Builder_result (K : PySem.W.Frag) : Sp := fun vs H Q _ => ∃ (a dn dk dw : Addr) (s : Bs) (n : Nat), vs = [.ref a] ∧ BAt K H a dn dk dw s n ∧ n ≤ BIG ∧ (s.bad = true → Q .non H) ∧ (s.bad = false → ∀ p H', Ext H H' → EffAt K H' p s.eff n → H p = none → Q (.ref p) H')
theorem sc_Builder_result : FnScope ["self", "changed", "offset", "letter"] ["self"] (defScope s_Builder_result) := ⟨rfl, rfl, rfl, by decide +kernel, rfl, by decide +kernel, by decide +kernel⟩
theorem k_Builder_result (T : Txt K mg) : FnR P w K mg base CX0 6 (He.ma K (He.ga K "Builder") "result") (sp_Builder_result K) := by
  obtain ⟨fd, F⟩ := T.f_Builder_result
  refine (fun (G : FnOk P w K mg base CX0 6 _ fd _ (sp_Builder_result K)) => ?_) (F.ok sc_Builder_result (fun vs H Q E h => by obtain ⟨_, _, _, _, _, _, rfl, _⟩ := h; rfl) (fun cdv A outer s H vs Q E hr h => ?_))
  · exact (G.raw (F.bindsN fun _ _ _ _ _ _ us hl => match us, hl with | [_], _ => rfl) .nil).imp fun vs H Q E h => by rw [List.append_nil]; exact h
  · have hu := hu_of hr
    have hu0 : (A.deeper (envOfC _ _ s.heap.objs.size _ cdv)).units < cLine := Nat.lt_of_succ_lt hu
    refine ⟨_, PSs.nox (pss_cons (ps_if (pt_val (pe_fld (pv 0) rfl)) (pss_one (ps_ret pe_non)) pss_nil)
  (pss_cons (ps_lock (ps_setDc (i := 1) (own := [("offset", 2), ("letter", 3)]) (g := (gTup K 2 (gCons (gName 2) (gCons (gName 3) gNil)))) rfl sc_Builder_result.nd rfl rfl (sw_trueD rfl rfl rfl (by decide +kernel)) (pi_items (pe_fld (pv 0) rfl)) (blkOk_by (own := [("offset", 2), ("letter", 3)]) (N := ["self", "changed", "offset", "letter"]) (sc := defScope s_Builder_result) (by decide +kernel)) (fun _ _ _ _ _ => (pg_tup rfl (pgs_cons (pg_name (i := 2) sc_Builder_result.nd rfl (Or.inl rfl)) (pgs_cons (pg_name (i := 3) sc_Builder_result.nd rfl (Or.inl rfl)) pgs_nil)))) (fun _ _ _ _ _ => (pts_one (pt_cmpR op_ne (pe_dget1 hu (pe_fldK (K := K) (pv 0)) (pv 2) ⟨rfl, rfl, rfl, rfl⟩) (pv 3) (nomark _)))) (fun _ _ _ _ _ => (pv 2)) (fun _ _ _ _ _ => (pv 3))))
  (pss_one (ps_ret (StX.pe_makeR T.k_Effect (k_Effect_init T) (hr.mono (by decide)) (by rfl) T.g_Effect pass0 (pa_cons (pe_fld (pv 0) rfl) (pa_cons (pv 1) (pa_cons (pe_fld (pv 0) rfl) pa_nil)))))))), ?_⟩
    obtain ⟨a, dn, dk, dw, s0, n, rfl, b, hn, q1, q2⟩ := h
    obtain ⟨dx, ha⟩ := b.at_
    refine ⟨_, rfl, a, _, dx, _, _, rfl, ha, T.c_Builder, T.a_Builder_failed, bF_5 _ _ _ _ _, _, rfl, ?_⟩
    cases hb : s0.bad with
    | true => exact q1 hb
    | false =>
      obtain ⟨mw, hw, dW, lW⟩ := b.dW
      obtain ⟨mn, hN, dN, lN⟩ := b.dN
      refine ⟨dw, _, hw, trivial, fun od => ?_⟩
      have hne : a ≠ dw := ne_of ha hw (by intro z; cases z)
      have l0 : Lk H dw od (.dK (tk mw)) (upd H dw (.frz od (.dK (tk mw)))) := Lk.start hw
      refine ⟨_, rfl, a, _, dx, _, _, rfl, l0.keep a _ hne ha, T.c_Builder, T.a_Builder_written, bF_3 _ _ _ _ _, dw, od, tk mw, rfl, upd_same, fun D hD => ?_⟩
      have hD0 : H D = none := l0.fresh hD
      have hB : BIG = 1000000 := rfl
      refine dc_it walk_items (fun i Hc => Lk H dw od (.dK (tk mw)) Hc ∧ ∃ mi, Hc D = some (.dK (tk mi)) ∧ Dct mi (fun j => (look (mw.take i) j).bind fun z => if s0.N j = some z then none else some z) ∧ mi.length ≤ i) ⟨l0.new hD, [], upd_same, Dct.nil.congr fun j => by simp [look], Nat.le_refl _⟩ (fun i Hc _ z => z.1.at_) ?_ ?_
      · rintro i x Hc H2 hi ⟨l, mi, hM, dM, lM⟩ ⟨tt, x1, y1, rfl, htt, rfl, r1, r2⟩
        have l3 : Lk H dw od (.dK (tk mw)) (upd Hc tt (.tup [x1, y1])) := l.new htt
        obtain ⟨p, hp, e1⟩ := Option.map_eq_some_iff.mp r1
        obtain ⟨p2, hp2, e2⟩ := Option.map_eq_some_iff.mp r2
        obtain ⟨qq, hq, rfl⟩ := tk_get hp
        rw [hp] at hp2
        cases hp2
        subst e1 e2
        have nd := nodup_take_snoc dW.nd hq
        have hM2 : ∀ o, (upd Hc tt o) D = some (.dK (tk mi)) := fun o => by rw [upd_ne (ne_of_none hM htt)]; exact hM
        have lkn : look (mw.take i) qq.1 = none := by
          cases hh : look (mw.take i) qq.1 with
          | none => rfl
          | some y =>
            unfold keys at nd
            rw [List.map_append] at nd
            have h1 := (List.nodup_append.mp nd).2.2 qq.1 (List.mem_map.mpr ⟨(qq.1, y), look_mem hh, rfl⟩) qq.1 (by simp)
            exact absurd rfl h1
        refine ⟨tt, _, rfl, SqT.of upd_same, rfl, _, _, rfl, _, _, rfl, rfl, rfl, ?_⟩
        refine ⟨_, rfl, a, _, dx, _, _, rfl, l3.keep a _ hne ha, T.c_Builder, T.a_Builder_needs, bF_1 _ _ _ _ _, dn, rfl, isd_of (l3.rd hN), _, rfl, _, dget_of (l3.rd hN) dN _, _, rfl, ?_⟩
        rw [ov_get]
        refine ⟨scal_ov _ _, _, rfl, ?_⟩
        refine ifND (fun ne => ?_) fun eq => ?_
        · have ne' : s0.N qq.1 ≠ some qq.2 := fun z => ne (ov_str.mpr z)
          refine ⟨_, rfl, _, rfl, tk mi, Sum.inl qq.1, rfl, hM2 _, ?_, l3.put hD0, putM mi qq.1 qq.2, ?_, ?_, ?_⟩
          · rw [tk_length]
            rw [tk_length] at hi
            exact big_line (by omega)
          · rw [upd_same]
            exact congrArg (fun z => some (HO.dK z)) (putK_tk dM.nd _ _)
          · refine (dM.put (dW.lt _ (List.mem_of_getElem? hq))).congr fun j => ?_
            rw [take_succ' hq, look_snoc nd]
            by_cases ej : qq.1 = j
            · subst ej
              rw [if_pos rfl, if_pos rfl]
              show some qq.2 = if s0.N qq.1 = some qq.2 then none else some qq.2
              rw [if_neg ne']
            · rw [if_neg ej, if_neg ej]
          · exact Nat.le_trans (length_put mi _ _).1 (Nat.succ_le_succ lM)
        · have eq' : s0.N qq.1 = some qq.2 := ov_str.mp eq
          refine ⟨l3, mi, hM2 _, dM.congr fun j => ?_, Nat.le_succ_of_le lM⟩
          rw [take_succ' hq, look_snoc nd]
          by_cases ej : qq.1 = j
          · subst ej
            rw [if_pos rfl, lkn]
            show none = if s0.N qq.1 = some qq.2 then none else some qq.2
            rw [if_pos eq']
          · rw [if_neg ej]
      · rintro Hc ⟨l, mi, hM, dM, lM⟩
        rw [tk_length, List.take_length] at dM
        rw [tk_length] at lM
        have dD : D ≠ dw := l.ne hD0
        have eL : Ext H (upd Hc dw (.dK (tk mw))) := l.back
        refine ⟨l.at_, ?_⟩
        have ha3 := eL _ _ ha
        refine ⟨_, rfl, a, _, dx, _, _, rfl, ha3, T.c_Builder, T.a_Builder_needs, bF_1 _ _ _ _ _, _, rfl, _, rfl, a, _, dx, _, _, rfl, ha3, T.c_Builder, T.a_Builder_offset, bF_4 _ _ _ _ _, fun x dxx nx ndx ne => ?_⟩
        have em := made_ext (C := He.ga K "Effect") nx ndx ExtBut.refl
        have d1 : DAt (upd Hc dw (.dK (tk mw))) dn s0.N n := ⟨mn, eL _ _ hN, dN, lN⟩
        have d2 : DAt (upd Hc dw (.dK (tk mw))) D s0.left n := ⟨mi, by rw [upd_ne dD]; exact hM, dM.congr fun j => by rw [dW.lk]; rfl, by omega⟩
        refine ⟨x, dxx, dn, D, s0.N, s0.left, s0.off, n, rfl, upd_same, d1.ext em, d2.ext em, hn, s0.left_normal, fun H' eb hE => ⟨rfl, ?_⟩⟩
        have e3 := made_ext nx ndx eb
        exact q2 hb x H' (eL.trans e3) hE (eL.none nx)
end
end Tp
/-! part K5 -/
set_option Elab.async false
set_option linter.all false
set_option maxRecDepth 100000
set_option maxHeartbeats 4000000
/-! the defs, part 5: effect_of, compose, a run -/
namespace Tp
open PySem PySem.Spec PyProof.Rows L2
theorem BNew.of_made {H : Hp} {x dx C dn dk dw : Addr} (nx : H x = none) (nd : H dx = none) (h1 : (upd (upd H dx (.own x)) x (.ins C dx [])) dn = none) (h2 : (upd (upd H dx (.own x)) x (.ins C dx [])) dk = none) (h3 : (upd (upd H dx (.own x)) x (.ins C dx [])) dw = none) : BNew H x dn dk dw :=
  have e := made_ext (C := C) nx nd ExtBut.refl
  ⟨nx, e.none h1, e.none h2, e.none h3⟩
theorem steps_snoc (s : Bs) (ss : List Stp) (st : Stp) : s.steps (ss ++ [st]) = (s.steps ss).step st := by
  unfold Bs.steps
  rw [List.foldl_append]
  rfl
/-! ### a run -/
def rF (c dw : Addr) (p : Int) : List (Str × V) := [("own_tape", .ref c), ("position", .int p), ("written", .ref dw)]
section
variable (c dw : Addr) (p k : Int)
theorem rF_1 : (rF c dw p).lookup ("own_tape" : Str) = some (.ref c) := by rfl
theorem rF_2 : (rF c dw p).lookup ("position" : Str) = some (.int p) := by rfl
theorem rF_3 : (rF c dw p).lookup ("written" : Str) = some (.ref dw) := by rfl
theorem rF_l : (rF c dw p).lookup ("letter" : Str) = none := by rfl
theorem rF_p : (rF c dw p).lookup ("perform" : Str) = none := by rfl
theorem rF_a : (rF c dw p).lookup ("perform_all" : Str) = none := by rfl
theorem rF_q : (rF c dw p).lookup ("place" : Str) = none := by rfl
theorem rF_p2 : putF "position" (.int k) (rF c dw p) = rF c dw k := by rfl
end
/-- the run at a: it began on the tape c; t and p, as they are now -/
structure RunAt (K : PySem.W.Frag) (H : Hp) (a dw c : Addr) (b : Str) (t0 : Int → Str) (n : Nat) (t : Int → Str) (p : Int) (k : Nat) : Prop where
  at_ : ∃ dx, H a = some (.ins (He.ga K "Run") dx (rF c dw p))
  tp : TapeAt K H c b t0 n
  wr : ∃ W, DAt H dw W k ∧ t = fun j => (W j).getD (t0 j)
theorem RunAt.ext {K : PySem.W.Frag} {H H' : Hp} {a dw c : Addr} {b : Str} {t0 t : Int → Str} {n k : Nat} {p : Int} (r : RunAt K H a dw c b t0 n t p k) (e : Ext H H') : RunAt K H' a dw c b t0 n t p k :=
  ⟨let ⟨dx, h⟩ := r.at_; ⟨dx, e _ _ h⟩, r.tp.ext e, let ⟨W, h1, h2⟩ := r.wr; ⟨W, h1.ext e, h2⟩⟩
theorem TapeAt.put {K : PySem.W.Frag} {H0 H : Hp} {c x : Addr} {b : Str} {t : Int → Str} {n : Nat} {o : HO} (h : TapeAt K H0 c b t n) (e : Ext H0 H) (hx : H0 x = none) : TapeAt K (upd H x o) c b t n := h.ext (e.put hx)
section
variable {P : Program} {w : World} {K : PySem.W.Frag} {mg : Str → Option Value} {base : Heap}
def sp_effect_of (K : PySem.W.Frag) : Sp := fun vs H Q _ => ∃ (l : Addr) (ss : List Stp), vs = [.ref l] ∧ StepsAt H l ss ∧ ss.length ≤ 1000 ∧ ((Bs.zero.steps ss).bad = true → ∀ H', Ext H H' → Q .non H') ∧
  ((Bs.zero.steps ss).bad = false → ∀ p H', Ext H H' → EffAt K H' p (Bs.zero.steps ss).eff ss.length → H p = none → Q (.ref p) H')
theorem sc_effect_of : FnScope ["steps", "builder", "step"] ["steps"] (defScope s_effect_of) := ⟨rfl, rfl, rfl, by decide +kernel, rfl, by decide +kernel, by decide +kernel⟩
theorem k_effect_of (T : Txt K mg) : FnR P w K mg base CX0 7 (He.ga K "effect_of") (sp_effect_of K) := by
  obtain ⟨fd, F⟩ := T.f_effect_of
  refine (fun (G : FnOk P w K mg base CX0 7 _ fd _ (sp_effect_of K)) => ?_) (F.ok sc_effect_of (fun vs H Q E h => by obtain ⟨_, _, rfl, _⟩ := h; rfl) (fun cdv A outer s H vs Q E hr h => ?_))
  · exact (G.raw (F.bindsN fun _ _ _ _ _ _ us hl => match us, hl with | [_], _ => rfl) .nil).imp fun vs H Q E h => by rw [List.append_nil]; exact h
  · have hu := hu_of hr
    have hu0 : (A.deeper (envOfC _ _ s.heap.objs.size _ cdv)).units < cLine := Nat.lt_of_succ_lt hu
    refine ⟨_, PSs.nox (pss_cons (ps_expr (pe_cR (k_check_steps T) (hr.mono (by decide)) (by rfl) T.g_check_steps T.kp_check_steps pass0 (pa_cons (pv 0) pa_nil)))
  (pss_cons (ps_set (i := 1) sc_effect_of.nd rfl (Or.inl rfl) (pe_kR0 T.k_Builder (k_Builder_init T) (hr.mono (by decide)) (by rfl) T.g_Builder pass0))
  (pss_cons (ps_for PassesOwn.never rfl (pi_list (pv 0)) (pg_name (i := 2) sc_effect_of.nd rfl (Or.inl rfl)) (pss_one (ps_expr (pe_methR (pv 1) T.c_Builder T.m_Builder_add_step (k_Builder_add_step T) (hr.mono (by decide)) pass0 (pa_cons (pv 2) pa_nil)))))
  (pss_one (ps_ret (pe_mR0 (pv 1) T.c_Builder T.m_Builder_result (k_Builder_result T) (hr.mono (by decide)) pass0)))))), ?_⟩
    obtain ⟨l, ss, rfl, hs, hn, q1, q2⟩ := h
    refine ⟨_, rfl, l, ss, rfl, hs, fun H1 e1 => ?_⟩
    intro x dx nx ndx ne
    refine ⟨x, dx, rfl, upd_same, fun H2 dn dk dw eb h1 h2 h3 b => ⟨rfl, ?_⟩⟩
    have e12 : Ext H1 H2 := made_ext nx ndx eb
    have zb : BNew H1 x dn dk dw := BNew.of_made nx ndx h1 h2 h3
    obtain ⟨xs, hl, hss⟩ := hs.ext e1
    have hB : BIG = 1000000 := rfl
    refine ⟨_, rfl, l, rfl, ⟨xs, SqL.of (e12 _ _ hl)⟩, for_it (walk_list (xs := xs)) (fun i σ Hc => ∃ v1, σ = [some (.ref l), some (.ref x), v1] ∧ Ext H1 Hc ∧ BAt K Hc x dn dk dw (Bs.zero.steps (ss.take i)) i) ⟨_, rfl, e12, b⟩ (fun i σ Hc _ ⟨_, _, e, _⟩ => SqL.of (e _ _ hl)) ?_ ?_⟩
    · rintro i y σ Hc H3 hi ⟨v1, rfl, ec, bc⟩ ⟨rfl, hy⟩
      obtain ⟨st, hst, hs1⟩ := hss.get hy
      obtain ⟨dxb, hb⟩ := bc.at_
      have hl2 : i < ss.length := by rw [← hss.1]; exact hi
      refine ⟨_, rfl, x, dxb, _, rfl, hb, bF_s _ _ _ _ _, _, rfl, x, dn, dk, dw, _, i, H1, y, st, rfl, bc, by omega, hs1.ext ec, ec, zb, fun H4 e4 b4 => ?_⟩
      refine ⟨_, rfl, e4, ?_⟩
      rw [take_succ' hst, steps_snoc]
      exact b4
    · rintro σ Hc ⟨v1, rfl, ec, bc⟩
      rw [hss.1, List.take_length] at bc
      obtain ⟨dxb, hb⟩ := bc.at_
      refine ⟨_, rfl, x, dxb, _, rfl, hb, bF_r _ _ _ _ _, x, dn, dk, dw, _, _, rfl, bc, by omega, fun hbad => q1 hbad _ (e1.trans ec), fun hbad p H4 e4 hE np => q2 hbad p H4 ((e1.trans ec).trans e4) hE ((e1.trans ec).none np)⟩
def EffsAt (K : PySem.W.Frag) (H : Hp) (vs : List V) (es : List Eff) (k : Nat) : Prop := All2 (fun v e => ∃ a, v = V.ref a ∧ EffAt K H a e k) vs es
theorem EffsAt.ext {H H' : Hp} {vs : List V} {es : List Eff} {k : Nat} (h : EffsAt K H vs es k) (e : Ext H H') : EffsAt K H' vs es k := h.mono fun _ _ ⟨a, b, c⟩ => ⟨a, b, c.ext e⟩
def sp_compose0 (K : PySem.W.Frag) : Sp := fun vs H Q _ => ∃ (t : Addr) (xs : List V) (es : List Eff) (k : Nat), vs = [.ref t] ∧ H t = some (.tup xs) ∧ EffsAt K H xs es k ∧ Okb es ∧ es.length * (k + k) < BIG ∧
  ∀ p H', Ext H H' → EffAt K H' p (build es).eff (es.length * (k + k)) → H p = none → Q (.ref p) H'
def sp_compose (K : PySem.W.Frag) : Sp := fun vs H Q _ => ∃ (es : List Eff) (k : Nat), EffsAt K H vs es k ∧ vs.length ≤ BIG ∧ Okb es ∧ es.length * (k + k) < BIG ∧ ∀ p H', Ext H H' → EffAt K H' p (build es).eff (es.length * (k + k)) → H p = none → Q (.ref p) H'
theorem bind_star0 {B : List Value → Sem (List (Str × Value))} {pv : Str} (h0 : B [] = (newTuple [] >>= fun t => pure [(pv, t)])) (h1 : ∀ r rs, B (r :: rs) = (newTuple (r :: rs) >>= fun t => pure [(pv, t)])) :
    ∀ us rest : List Value, us.length = ([] : List Str).length → B (us ++ rest) = (newTuple rest >>= fun t => pure (([] : List Str).zip us ++ [(pv, t)]))
  | [], [], _ => h0
  | [], r :: rs, _ => h1 r rs
theorem sc_compose : FnScope ["effects", "builder", "effect"] ["effects"] (defScope s_compose) := ⟨rfl, rfl, rfl, by decide +kernel, rfl, by decide +kernel, by decide +kernel⟩
theorem k_compose (T : Txt K mg) : FnR P w K mg base CX0 7 (He.ga K "compose") (sp_compose K) := by
  obtain ⟨fd, F⟩ := T.f_compose
  obtain ⟨oc, od, dV, kV, doc, pm, an, cdv, ct, osl, rfl, lk, hcd, hD, hK⟩ := F.ex
  rcases hD with ⟨_, rfl⟩ | ⟨e, _⟩
  · refine FnR.imp (StX.fn_star (ps := []) (pv := "effects") (sp := sp_compose0 K) (k := 6) lk hcd sc_compose StX.cxUp_none (bind_star0 (B := fun l => bindArgs (PySem.W.fnOf "compose" "compose" (defArgs s_compose) (defBody s_compose) (defScope s_compose) .none kV doc pm an cdv ct) ⟨l, []⟩) rfl fun r rs => rfl) fun A outer s H vs Q E hr h => ?_) fun vs H Q E h => ?_
    · refine ⟨_, PSs.nox (pss_cons (ps_set (i := 1) sc_compose.nd rfl (Or.inl rfl) (pe_kR0 T.k_Builder (k_Builder_init T) (hr.mono (by decide)) (by rfl) T.g_Builder pass0))
  (pss_cons (ps_for PassesOwn.never rfl (pi_tup (pv 0)) (pg_name (i := 2) sc_compose.nd rfl (Or.inl rfl)) (pss_cons (ps_if (pt_cmpR op_isN (pv 2) pe_non (nomark _)) (pss_one (ps_ret pe_non)) pss_nil)
  (pss_one (ps_expr (pe_methR (pv 1) T.c_Builder T.m_Builder_add_effect (k_Builder_add_effect T) (hr.mono (by decide)) pass0 (pa_cons (pv 2) pa_nil))))))
  (pss_one (ps_ret (pe_mR0 (pv 1) T.c_Builder T.m_Builder_result (k_Builder_result T) (hr.mono (by decide)) pass0))))), ?_⟩
      obtain ⟨t, xs, es, k, rfl, ht, hes, ok, hsz, q⟩ := h
      intro x dx nx ndx ne
      refine ⟨x, dx, rfl, upd_same, fun H2 dn dk dw eb h1 h2 h3 b => ⟨rfl, ?_⟩⟩
      have e12 : Ext H H2 := made_ext nx ndx eb
      have zb : BNew H x dn dk dw := BNew.of_made nx ndx h1 h2 h3
      refine ⟨_, rfl, t, rfl, ⟨xs, SqT.of (e12 _ _ ht)⟩, for_it (walk_tup (xs := xs)) (fun i σ Hc => ∃ v1, σ = [some (.ref t), some (.ref x), v1] ∧ Ext H Hc ∧ BAt K Hc x dn dk dw (build (es.take i)) (i * (k + k))) ⟨_, rfl, e12, b.le (Nat.zero_le _)⟩ (fun i σ Hc _ ⟨_, _, e, _⟩ => SqT.of (e _ _ ht)) ?_ ?_⟩
      · rintro i y σ Hc H3 hi ⟨v1, rfl, ec, bc⟩ ⟨rfl, hy⟩
        obtain ⟨e, he, c, rfl, hc⟩ := hes.get hy
        obtain ⟨dxb, hb⟩ := bc.at_
        have hl2 : i < es.length := by rw [← hes.1]; exact hi
        have hm : (i + 1) * (k + k) ≤ es.length * (k + k) := Nat.mul_le_mul_right _ hl2
        rw [Nat.add_mul, Nat.one_mul] at hm
        refine ⟨_, rfl, rfl, _, rfl, ?_⟩
        refine ifF ?_
        refine ⟨_, rfl, x, dxb, _, rfl, hb, bF_a _ _ _ _ _, _, rfl, x, dn, dk, dw, c, _, i * (k + k), k, H, e, rfl, bc, by omega, hc, ec, zb, build_dom _, ok i e he, fun H4 e4 b4 => ?_⟩
        refine ⟨_, rfl, e4, ?_⟩
        rw [take_succ' he, build_snoc]
        exact b4.le (by rw [Nat.add_mul, Nat.one_mul]; omega)
      · rintro σ Hc ⟨v1, rfl, ec, bc⟩
        rw [hes.1, List.take_length] at bc
        obtain ⟨dxb, hb⟩ := bc.at_
        refine ⟨_, rfl, x, dxb, _, rfl, hb, bF_r _ _ _ _ _, x, dn, dk, dw, _, _, rfl, bc, Nat.le_of_lt hsz, fun hbad => ?_, fun hbad p H4 e4 hE np => q p H4 (ec.trans e4) hE (ec.none np)⟩
        rw [build_bad] at hbad
        cases hbad
    · obtain ⟨es, k, hes, hl, ok, hsz, q⟩ := h
      refine ⟨[], vs, rfl, rfl, Nat.le_trans hl (by decide), fun p np => ?_⟩
      have e1 : Ext H (upd H p (.tup vs)) := Ext.upd np
      exact ⟨p, vs, es, k, rfl, upd_same, hes.ext e1, ok, hsz, fun r H4 e4 hE nr => q r H4 (e1.trans e4) hE (e1.none nr)⟩
  · exact absurd rfl e
def sp_Run_init (K : PySem.W.Frag) : Sp := fun vs H Q _ => ∃ (x dx c : Addr) (b : Str) (t : Int → Str) (n : Nat) (p : Int), vs = [.ref x, .ref c, .int p] ∧ H x = some (.ins (He.ga K "Run") dx []) ∧ TapeAt K H c b t n ∧
  ∀ H' dw, ExtBut x H H' → H dw = none → RunAt K H' x dw c b t n t p 0 → Q .non H'
theorem sc_Run_init : FnScope ["self", "tape", "position"] ["self", "tape", "position"] (defScope s_Run_init) := ⟨rfl, rfl, rfl, by decide +kernel, rfl, by decide +kernel, by decide +kernel⟩
theorem k_Run_init (T : Txt K mg) : FnR P w K mg base CX0 1 (He.ma K (He.ga K "Run") "__init__") (sp_Run_init K) := by
  obtain ⟨fd, F⟩ := T.f_Run_init
  refine (fun (G : FnOk P w K mg base CX0 1 _ fd _ (sp_Run_init K)) => ?_) (F.ok sc_Run_init (fun vs H Q E h => by obtain ⟨_, _, _, _, _, _, _, rfl, _⟩ := h; rfl) (fun cdv A outer s H vs Q E hr h => ?_))
  · exact (G.raw (F.bindsN fun _ _ _ _ _ _ us hl => match us, hl with | [_, _, _], _ => rfl) .nil).imp fun vs H Q E h => by rw [List.append_nil]; exact h
  · have hu := hu_of hr
    have hu0 : (A.deeper (envOfC _ _ s.heap.objs.size _ cdv)).units < cLine := Nat.lt_of_succ_lt hu
    refine ⟨_, PSs.nox (pss_cons (ps_fld (pv 0) (pv 1) rfl)
  (pss_cons (ps_fld (pv 0) (pv 2) rfl)
  (pss_one (ps_fld (pv 0) pe_dnewK rfl)))), ?_⟩
    obtain ⟨x, dx, c, b, t, n, p, rfl, hx, ht, q⟩ := h
    refine ⟨_, rfl, _, rfl, x, _, dx, _, rfl, hx, T.c_Run, T.a_Run_own_tape, (by show 0 < 1000; decide), ?_⟩
    refine ⟨_, rfl, _, rfl, x, _, dx, _, rfl, upd_same, T.c_Run, T.a_Run_position, (by show 1 < 1000; decide), ?_⟩
    rw [upd_upd]
    intro dw hw
    have n1 : dw ≠ x := fun z => by rw [z, upd_same] at hw; cases hw
    rw [upd_ne n1] at hw
    refine ⟨_, rfl, x, _, dx, _, rfl, (by rw [upd_ne (Ne.symm n1)]; exact upd_same), T.c_Run, T.a_Run_written, (by show 2 < 1000; decide), ?_⟩
    refine q _ dw ((ExtBut.refl.put.at_ hw).put) hw ⟨⟨dx, upd_same⟩, ?_, fun _ => none, ⟨[], (by rw [upd_ne n1]; exact upd_same), Dct.nil, Nat.le_refl _⟩, rfl⟩
    obtain ⟨dxt, d, m, h1, h2, h3⟩ := ht
    have e1 : c ≠ x := fun z => by
      rw [z, hx] at h1
      injection h1 with h1
      injection h1 with _ _ h1
      cases h1
    have e2 : d ≠ x := ne_of h2 hx (by intro z; cases z)
    refine ⟨dxt, d, m, ?_, ?_, h3⟩
    · rw [upd_ne e1, upd_ne (ne_of_none h1 hw), upd_ne e1]
      exact h1
    · rw [upd_ne e2, upd_ne (ne_of_none h2 hw), upd_ne e2]
      exact h2
def sp_Run_letter (K : PySem.W.Frag) : Sp := fun vs H Q _ => ∃ (a dw c : Addr) (b : Str) (t0 t : Int → Str) (n k : Nat) (p : Int), vs = [.ref a] ∧ RunAt K H a dw c b t0 n t p k ∧ Q (.str (t p)) H
theorem sc_Run_letter : FnScope ["self"] ["self"] (defScope s_Run_letter) := ⟨rfl, rfl, rfl, by decide +kernel, rfl, by decide +kernel, by decide +kernel⟩
theorem k_Run_letter (T : Txt K mg) : FnR P w K mg base CX0 3 (He.ma K (He.ga K "Run") "letter") (sp_Run_letter K) := by
  obtain ⟨fd, F⟩ := T.f_Run_letter
  refine (fun (G : FnOk P w K mg base CX0 3 _ fd _ (sp_Run_letter K)) => ?_) (F.ok sc_Run_letter (fun vs H Q E h => by obtain ⟨_, _, _, _, _, _, _, _, _, rfl, _⟩ := h; rfl) (fun cdv A outer s H vs Q E hr h => ?_))
  · exact (G.raw (F.bindsN fun _ _ _ _ _ _ us hl => match us, hl with | [_], _ => rfl) .nil).imp fun vs H Q E h => by rw [List.append_nil]; exact h
  · have hu := hu_of hr
    have hu0 : (A.deeper (envOfC _ _ s.heap.objs.size _ cdv)).units < cLine := Nat.lt_of_succ_lt hu
    refine ⟨_, PSs.nox (pss_cons (ps_if (pt_cmp (pc_din hu (pe_fld (pv 0) rfl) (pe_fld (pv 0) rfl))) (pss_one (ps_ret (pe_dget hu (pe_fld (pv 0) rfl) (pe_fld (pv 0) rfl) (fun _ _ => rfl)))) pss_nil)
  (pss_one (ps_ret (pe_methR (pe_fld (pv 0) rfl) T.c_Tape T.m_Tape_letter (k_Tape_letter T) (hr.mono (by decide)) pass0 (pa_cons (pe_fld (pv 0) rfl) pa_nil))))), ?_⟩
    obtain ⟨a, dw, c, b, t0, t, n, k, p, rfl, ⟨⟨dx, ha⟩, ht, W, hW, rfl⟩, q⟩ := h
    refine ⟨_, rfl, a, _, dx, _, _, rfl, ha, T.c_Run, T.a_Run_position, rF_2 _ _ _, _, rfl, a, _, dx, _, _, rfl, ha, T.c_Run, T.a_Run_written, rF_3 _ _ _, dw, _, rfl, hW.get p, _, rfl, ?_⟩
    cases hp : W p with
    | some z =>
      have g := hW.get p
      rw [hp] at g
      refine ⟨_, rfl, a, _, dx, _, _, rfl, ha, T.c_Run, T.a_Run_written, rF_3 _ _ _, _, rfl, a, _, dx, _, _, rfl, ha, T.c_Run, T.a_Run_position, rF_2 _ _ _, dw, _, rfl, g, ?_⟩
      have : (fun j => (W j).getD (t0 j)) p = z := by show (W p).getD (t0 p) = z; rw [hp]; rfl
      rw [this] at q
      exact q
    | none =>
      obtain ⟨dxt, d, m, h1, h2, h3, _⟩ := ht
      refine ⟨_, rfl, a, _, dx, _, _, rfl, ha, T.c_Run, T.a_Run_own_tape, rF_1 _ _ _, c, dxt, _, rfl, h1, tF_3 _ _, _, rfl, a, _, dx, _, _, rfl, ha, T.c_Run, T.a_Run_position, rF_2 _ _ _, c, p, b, t0, rfl, ⟨dxt, d, m, h1, .inl h2, h3⟩, ?_⟩
      have : (fun j => (W j).getD (t0 j)) p = t0 p := by show (W p).getD (t0 p) = t0 p; rw [hp]; rfl
      rw [this] at q
      exact q
def sp_Run_perform (K : PySem.W.Frag) : Sp := fun vs H Q _ => ∃ (a dw c : Addr) (b : Str) (t0 t : Int → Str) (n k : Nat) (p : Int) (v : V) (st : Stp) (H0 : Hp), vs = [.ref a, v] ∧ RunAt K H a dw c b t0 n t p k ∧ k < BIG ∧ StepAt H v st ∧ Ext H0 H ∧ H0 a = none ∧ H0 dw = none ∧ TapeAt K H0 c b t0 n ∧
  (∀ t' p' H', stepT st t p = some (t', p') → Ext H0 H' → RunAt K H' a dw c b t0 n t' p' (k + 1) → Q (.bl true) H') ∧ (stepT st t p = none → Q (.bl false) H)
theorem sc_Run_perform : FnScope ["self", "step"] ["self", "step"] (defScope s_Run_perform) := ⟨rfl, rfl, rfl, by decide +kernel, rfl, by decide +kernel, by decide +kernel⟩
theorem k_Run_perform (T : Txt K mg) : FnR P w K mg base CX0 4 (He.ma K (He.ga K "Run") "perform") (sp_Run_perform K) := by
  obtain ⟨fd, F⟩ := T.f_Run_perform
  refine (fun (G : FnOk P w K mg base CX0 4 _ fd _ (sp_Run_perform K)) => ?_) (F.ok sc_Run_perform (fun vs H Q E h => by obtain ⟨_, _, _, _, _, _, _, _, _, _, _, _, rfl, _⟩ := h; rfl) (fun cdv A outer s H vs Q E hr h => ?_))
  · exact (G.raw (F.bindsN fun _ _ _ _ _ _ us hl => match us, hl with | [_, _], _ => rfl) .nil).imp fun vs H Q E h => by rw [List.append_nil]; exact h
  · have hu := hu_of hr
    have hu0 : (A.deeper (envOfC _ _ s.heap.objs.size _ cdv)).units < cLine := Nat.lt_of_succ_lt hu
    refine ⟨_, PSs.nox (pss_cons (ps_match (pe_ix ix_tup (pv 1) pe_int (fun _ _ => rfl)) (pm_str (pss_one (ps_dput hu (pe_fld (pv 0) rfl) (pe_fld (pv 0) rfl) (pe_ix ix_tup (pv 1) pe_int (fun _ _ => rfl)) rfl)) (pm_str (pss_one (ps_ret (pe_cmpR op_eq (pe_mR0 (pv 0) T.c_Run T.m_Run_letter (k_Run_letter T) (hr.mono (by decide)) pass0) (pe_ix ix_tup (pv 1) pe_int (fun _ _ => rfl)) (nomark _)))) (pm_any (pss_one (ps_fldaug (pv 0) (pe_cR (k_move_of T) (hr.mono (by decide)) (by rfl) T.g_move_of T.kp_move_of pass0 (pa_cons (pv 1) pa_nil)) in_add))))))
  (pss_one (ps_ret pe_bl))), ?_⟩
    obtain ⟨a, dw, c, b, t0, t, n, k, p, v, st, H0, rfl, r, hk, ⟨u, rfl, hu0, hs⟩, e0, z1, z2, ht, q1, q2⟩ := h
    obtain ⟨dx, ha⟩ := r.at_
    have le_run : ∀ {t' p'}, RunAt K H a dw c b t0 n t' p' k → RunAt K H a dw c b t0 n t' p' (k + 1) := fun x => ⟨x.at_, x.tp, let ⟨W, h1, h2⟩ := x.wr; ⟨W, h1.le (Nat.le_succ _), h2⟩⟩
    cases st with
    | l =>
      refine ⟨_, rfl, u, _, _, _, rfl, rfl, SqT.of hu0, rfl, _, rfl, ifF ⟨_, rfl, ifF ?_⟩⟩
      refine ⟨_, rfl, a, _, dx, _, _, rfl, ha, T.c_Run, T.a_Run_position, rF_2 _ _ _, _, rfl, _, Stp.l, rfl, ⟨u, rfl, hu0, hs⟩, _, _, rfl, rfl, _, _, ha, (by show 3 < 1000; decide), ?_⟩
      rw [rF_p2]
      obtain ⟨W, h1, h2⟩ := r.wr
      exact q1 t (p + -1) _ rfl (e0.put z1) ⟨⟨dx, upd_same⟩, ht.put e0 z1, W, (h1.put ha).le (Nat.le_succ _), h2⟩
    | r =>
      refine ⟨_, rfl, u, _, _, _, rfl, rfl, SqT.of hu0, rfl, _, rfl, ifF ⟨_, rfl, ifF ?_⟩⟩
      refine ⟨_, rfl, a, _, dx, _, _, rfl, ha, T.c_Run, T.a_Run_position, rF_2 _ _ _, _, rfl, _, Stp.r, rfl, ⟨u, rfl, hu0, hs⟩, _, _, rfl, rfl, _, _, ha, (by show 3 < 1000; decide), ?_⟩
      rw [rF_p2]
      obtain ⟨W, h1, h2⟩ := r.wr
      exact q1 t (p + 1) _ rfl (e0.put z1) ⟨⟨dx, upd_same⟩, ht.put e0 z1, W, (h1.put ha).le (Nat.le_succ _), h2⟩
    | wr z =>
      refine ⟨_, rfl, u, _, _, _, rfl, rfl, SqT.of hu0, rfl, _, rfl, ifT ?_⟩
      obtain ⟨W, h1, h2⟩ := r.wr
      obtain ⟨m1, p1, d1⟩ := dput_of h1 hk (i := p) (z := z) hs
      refine ⟨_, rfl, u, _, _, _, rfl, rfl, SqT.of hu0, rfl, _, rfl, a, _, dx, _, _, rfl, ha, T.c_Run, T.a_Run_written, rF_3 _ _ _, _, rfl, a, _, dx, _, _, rfl, ha, T.c_Run, T.a_Run_position, rF_2 _ _ _, dw, _, rfl, p1, ?_⟩
      refine q1 (setT t p z) p _ rfl (e0.put z2) ⟨⟨dx, (by rw [upd_ne (h1.ne_ins ha)]; exact ha)⟩, ht.put e0 z2, setF W p z, d1, ?_⟩
      funext j
      rw [h2]
      show (if p = j then z else (W j).getD (t0 j)) = (if p = j then some z else W j).getD (t0 j)
      by_cases e : p = j
      · rw [if_pos e, if_pos e]
        rfl
      · rw [if_neg e, if_neg e]
    | ex z =>
      refine ⟨_, rfl, u, _, _, _, rfl, rfl, SqT.of hu0, rfl, _, rfl, ifF ⟨_, rfl, ifT ?_⟩⟩
      refine ⟨_, rfl, a, dx, _, rfl, ha, rF_l _ _ _, a, dw, c, b, t0, t, n, k, p, rfl, r, ?_⟩
      refine ⟨_, rfl, u, _, _, _, rfl, rfl, SqT.of hu0, rfl, rfl, ?_⟩
      by_cases e : t p = z
      · rw [decide_eq_true (by rw [e])]
        exact q1 t p _ (if_pos e) e0 (le_run r)
      · rw [decide_eq_false (fun x => e (by injection x))]
        exact q2 (if_neg e)
theorem goT_snoc : ∀ (ss : List Stp) (st : Stp) (t : Int → Str) (p : Int), goT (ss ++ [st]) t p = (goT ss t p).bind fun q => stepT st q.1 q.2
  | [], st, t, p => by
    show (match stepT st t p with
      | some (t', h') => goT [] t' h'
      | none => none) = stepT st t p
    cases stepT st t p <;> rfl
  | x :: r, st, t, p => by
    show (match stepT x t p with
      | some (t', h') => goT (r ++ [st]) t' h'
      | none => none) = ((match stepT x t p with
      | some (t', h') => goT r t' h'
      | none => none).bind fun q => stepT st q.1 q.2)
    cases stepT x t p with
    | none => rfl
    | some q => exact goT_snoc r st q.1 q.2
theorem goT_none {ss : List Stp} {i : Nat} {t : Int → Str} {p : Int} (h : goT (ss.take i) t p = none) : goT ss t p = none := by
  have key : ∀ (a b : List Stp) (t : Int → Str) (p : Int), goT a t p = none → goT (a ++ b) t p = none := fun a => by
    induction a with
    | nil => intro b t p h; cases h
    | cons x r ih =>
      intro b t p h
      have h' : (match stepT x t p with
        | some (t', h') => goT r t' h'
        | none => none) = none := h
      show (match stepT x t p with
        | some (t', h') => goT (r ++ b) t' h'
        | none => none) = none
      cases q : stepT x t p with
      | none => rfl
      | some q2 =>
        rw [q] at h'
        exact ih b q2.1 q2.2 h'
  have := key (ss.take i) (ss.drop i) t p h
  rw [List.take_append_drop] at this
  exact this
def sp_Run_perform_all (K : PySem.W.Frag) : Sp := fun vs H Q _ => ∃ (a dw c l : Addr) (b : Str) (t0 t : Int → Str) (n k : Nat) (p : Int) (ss : List Stp) (H0 : Hp), vs = [.ref a, .ref l] ∧ RunAt K H a dw c b t0 n t p k ∧ k + ss.length < BIG ∧ StepsAt H0 l ss ∧ Ext H0 H ∧ H0 a = none ∧ H0 dw = none ∧ TapeAt K H0 c b t0 n ∧
  (∀ t' p' H', goT ss t p = some (t', p') → Ext H0 H' → RunAt K H' a dw c b t0 n t' p' (k + ss.length) → Q .non H') ∧ (∀ (i : Int) H', goT ss t p = none → Ext H0 H' → Q (.int i) H')
theorem sc_Run_perform_all : FnScope ["self", "steps", "index", "step"] ["self", "steps"] (defScope s_Run_perform_all) := ⟨rfl, rfl, rfl, by decide +kernel, rfl, by decide +kernel, by decide +kernel⟩
theorem k_Run_perform_all (T : Txt K mg) : FnR P w K mg base CX0 5 (He.ma K (He.ga K "Run") "perform_all") (sp_Run_perform_all K) := by
  obtain ⟨fd, F⟩ := T.f_Run_perform_all
  refine (fun (G : FnOk P w K mg base CX0 5 _ fd _ (sp_Run_perform_all K)) => ?_) (F.ok sc_Run_perform_all (fun vs H Q E h => by obtain ⟨_, _, _, _, _, _, _, _, _, _, _, _, rfl, _⟩ := h; rfl) (fun cdv A outer s H vs Q E hr h => ?_))
  · exact (G.raw (F.bindsN fun _ _ _ _ _ _ us hl => match us, hl with | [_, _], _ => rfl) .nil).imp fun vs H Q E h => by rw [List.append_nil]; exact h
  · have hu := hu_of hr
    have hu0 : (A.deeper (envOfC _ _ s.heap.objs.size _ cdv)).units < cLine := Nat.lt_of_succ_lt hu
    refine ⟨_, PSs.nox (pss_cons (ps_for PassesOwn.never rfl (pi_enum (by rfl) T.n_enumerate (pa_cons (pv 1) pa_nil)) (pg_tup rfl (pgs_cons (pg_name (i := 2) sc_Run_perform_all.nd rfl (Or.inl rfl)) (pgs_cons (pg_name (i := 3) sc_Run_perform_all.nd rfl (Or.inl rfl)) pgs_nil))) (pss_one (ps_if (pt_not (pt_val (pe_methR (pv 0) T.c_Run T.m_Run_perform (k_Run_perform T) (hr.mono (by decide)) pass0 (pa_cons (pv 3) pa_nil)))) (pss_one (ps_ret (pv 2))) pss_nil)))
  (pss_one (ps_ret pe_non))), ?_⟩
    obtain ⟨a, dw, c, l, b, t0, t, n, k, p, ss, H0, rfl, r, hk, ⟨xs, hl, hss⟩, e0, z1, z2, ht, q1, q2⟩ := h
    refine ⟨_, rfl, l, xs, rfl, SqL.of (e0 _ _ hl), ?_⟩
    refine for_it (walk_enum (xs := xs)) (fun i σ Hc => ∃ v1 v2 t' p', σ = [some (.ref a), some (.ref l), v1, v2] ∧ Ext H0 Hc ∧ goT (ss.take i) t p = some (t', p') ∧ RunAt K Hc a dw c b t0 n t' p' (k + i)) ⟨_, _, t, p, rfl, e0, rfl, r⟩ (fun i σ Hc _ ⟨_, _, _, _, _, e, _⟩ => SqL.of (e _ _ hl)) ?_ ?_
    · rintro i x σ Hc H1 hi ⟨v1, v2, t', p', rfl, ec, hg, rc⟩ ⟨tt, x1, y1, rfl, htt, rfl, h1, h2⟩
      have e2 := ec.trans (Ext.upd (o := .tup [x1, y1]) htt)
      refine ⟨tt, _, rfl, SqT.of upd_same, rfl, _, _, rfl, _, _, rfl, rfl, ?_⟩
      obtain ⟨st, hst, hs⟩ := hss.get h2
      obtain ⟨dx, ha⟩ := rc.at_
      have hi2 : i < ss.length := by rw [← hss.1]; exact hi
      have gs := goT_snoc (ss.take i) st t p
      rw [← take_succ' hst, hg] at gs
      refine ⟨_, rfl, a, dx, _, rfl, Ext.upd htt _ _ ha, rF_p _ _ _, _, rfl, a, dw, c, b, t0, t', n, k + i, p', y1, st, H0, rfl, rc.ext (Ext.upd htt), by omega, hs.ext e2, e2, z1, z2, ht, fun t2 p2 H3 hst2 e3 r3 => ?_, fun hst2 => ?_⟩
      · refine ⟨true, rfl, ifF ⟨_, _, t2, p2, rfl, e3, ?_, r3⟩⟩
        rw [gs]
        exact hst2
      · refine ⟨false, rfl, ifT ?_⟩
        cases h1
        refine ⟨_, rfl, q2 _ _ (goT_none (i := i + 1) ?_) e2⟩
        rw [gs]
        exact hst2
    · rintro σ Hc ⟨v1, v2, t', p', rfl, ec, hg, rc⟩
      rw [hss.1, List.take_length] at hg
      rw [hss.1] at rc
      exact q1 t' p' _ hg ec rc
def sp_Run_place (K : PySem.W.Frag) : Sp := fun vs H Q _ => ∃ (a dw c : Addr) (b : Str) (t0 t : Int → Str) (n k : Nat) (p : Int), vs = [.ref a] ∧ RunAt K H a dw c b t0 n t p k ∧ n + k ≤ BIG ∧
  ∀ r H', Ext H H' → PlaceAt K H' r b t p (n + k) → H r = none → Q (.ref r) H'
theorem sc_Run_place : FnScope ["self"] ["self"] (defScope s_Run_place) := ⟨rfl, rfl, rfl, by decide +kernel, rfl, by decide +kernel, by decide +kernel⟩
theorem k_Run_place (T : Txt K mg) : FnR P w K mg base CX0 6 (He.ma K (He.ga K "Run") "place") (sp_Run_place K) := by
  obtain ⟨fd, F⟩ := T.f_Run_place
  refine (fun (G : FnOk P w K mg base CX0 6 _ fd _ (sp_Run_place K)) => ?_) (F.ok sc_Run_place (fun vs H Q E h => by obtain ⟨_, _, _, _, _, _, _, _, _, rfl, _⟩ := h; rfl) (fun cdv A outer s H vs Q E hr h => ?_))
  · exact (G.raw (F.bindsN fun _ _ _ _ _ _ us hl => match us, hl with | [_], _ => rfl) .nil).imp fun vs H Q E h => by rw [List.append_nil]; exact h
  · have hu := hu_of hr
    have hu0 : (A.deeper (envOfC _ _ s.heap.objs.size _ cdv)).units < cLine := Nat.lt_of_succ_lt hu
    refine ⟨_, PSs.nox (pss_one (ps_ret (pe_tup (pa_cons (pe_methR (pe_fld (pv 0) rfl) T.c_Tape T.m_Tape_with_letters (k_Tape_with_letters T) (hr.mono (by decide)) pass0 (pa_cons (pe_fld (pv 0) rfl) pa_nil)) (pa_cons (pe_fld (pv 0) rfl) pa_nil))))), ?_⟩
    obtain ⟨a, dw, c, b, t0, t, n, k, p, rfl, ⟨⟨dx, ha⟩, ht, W, hW, rfl⟩, hnk, q⟩ := h
    obtain ⟨dxt, d, m, h1, h2, h3⟩ := id ht
    refine ⟨_, rfl, a, _, dx, _, _, rfl, ha, T.c_Run, T.a_Run_own_tape, rF_1 _ _ _, c, dxt, _, rfl, h1, tF_4 _ _, _, rfl, a, _, dx, _, _, rfl, ha, T.c_Run, T.a_Run_written, rF_3 _ _ _, ?_⟩
    refine ⟨c, dw, b, t0, W, n, k, rfl, ht, hW, hnk, fun pt H3 e3 hT _ => ?_⟩
    refine ⟨_, rfl, a, _, dx, _, _, rfl, e3 _ _ ha, T.c_Run, T.a_Run_position, rF_2 _ _ _, (by show 2 ≤ sizeLine; decide), fun pp hpp => ?_⟩
    exact q pp _ (e3.trans (Ext.upd hpp)) ⟨pt, upd_same, hT.ext (Ext.upd hpp)⟩ (e3.none hpp)
end
end Tp
/-! part K6 -/
set_option Elab.async false
set_option linter.all false
set_option maxRecDepth 100000
set_option maxHeartbeats 4000000
/-! the defs, part 6: run -/
namespace Tp
open PySem PySem.Spec PyProof.Rows L2
section
variable {P : Program} [PrgOk P] {w : World} {K : PySem.W.Frag} {mg : Str → Option Value} {base : Heap}
def sp_run (K : PySem.W.Frag) : Sp := fun vs H Q E => ∃ (l c : Addr) (h : Int) (ss : List Stp) (b : Str) (t : Int → Str) (n : Nat), vs = [.ref l, .ref c, .int h] ∧ StepsAt H l ss ∧ TapeAt K H c b t n ∧ n + ss.length < BIG ∧
  (∀ t' p' r H', goT ss t h = some (t', p') → Ext H H' → PlaceAt K H' r b t' p' (n + ss.length) → H r = none → Q (.ref r) H') ∧ (goT ss t h = none → ∀ d H', Ext H H' → E (.ref (He.ga K "StepFailed")) (some d) H')
theorem sc_run : FnScope ["steps", "tape", "head", "current", "index"] ["steps", "tape", "head"] (defScope s_run) := ⟨rfl, rfl, rfl, by decide +kernel, rfl, by decide +kernel, by decide +kernel⟩
theorem k_run (T : Txt K mg) : FnN P w K mg base (L2.CX P w) 7 (He.ga K "run") 2 ["head"] (sp_run K) := by
  obtain ⟨fd, F⟩ := T.f_run
  refine (fun (G : FnOk P w K mg base (L2.CX P w) 7 _ fd _ (sp_run K)) => ?_) (F.ok sc_run (fun vs H Q E h => by obtain ⟨_, _, _, _, _, _, _, rfl, _⟩ := h; rfl) (fun cdv A outer s H vs Q E hr h => ?_))
  · exact fnN_of G (kbn_no F fun _ _ _ _ _ _ us ws l1 l2 => match us, l1, ws, l2 with | [_, _], _, [_], _ => rfl) (fun _ _ _ _ => rfl)
  · have hu := hu_of hr
    have hu0 : (A.deeper (envOfC _ _ s.heap.objs.size _ cdv)).units < cLine := Nat.lt_of_succ_lt hu
    refine ⟨_, ((pss_cons (ps_expr (pe_cR (k_check_steps T) (hr.mono (by decide)) (by rfl) T.g_check_steps T.kp_check_steps pass0 (pa_cons (pv 0) pa_nil)))
  (pss_cons (ps_expr (pe_cR (k_check_integer T) (hr.mono (by decide)) (by rfl) T.g_check_integer T.kp_check_integer pass0 (pa_cons (pv 2) pa_nil)))
  (pss_cons (ps_set (i := 3) sc_run.nd rfl (Or.inl rfl) (StX.pe_makeR T.k_Run (k_Run_init T) (hr.mono (by decide)) (by rfl) T.g_Run pass0 (pa_cons (pv 1) (pa_cons (pv 2) pa_nil))))
  (pss_cons (ps_set (i := 4) sc_run.nd rfl (Or.inl rfl) (pe_methR (pv 3) T.c_Run T.m_Run_perform_all (k_Run_perform_all T) (hr.mono (by decide)) pass0 (pa_cons (pv 0) pa_nil)))
  (pss_cons (ps_if (pt_cmpR op_notN (pv 4) pe_non (nomark _)) (pss_one (ps_raise rfl (takes_of rfl rfl rfl rfl) (pmk_StepFailed (inferInstance : PrgOk P) T (hr.mono (by decide)) (by rfl) (pa_cons (pv 4) pa_nil)))) pss_nil)
  (pss_one (ps_ret (pe_mR0 (pv 3) T.c_Run T.m_Run_place (k_Run_place T) (hr.mono (by decide)) pass0))))))))), ?_⟩
    obtain ⟨l, c, hh, ss, b, t, n, rfl, hs, ht, hn, q1, q2⟩ := h
    refine ⟨_, rfl, l, ss, rfl, hs, fun H1 e1 => ?_⟩
    refine ⟨_, rfl, hh, rfl, ?_⟩
    refine ⟨_, rfl, _, rfl, fun x dx nx ndx ne => ?_⟩
    refine ⟨x, dx, c, b, t, n, hh, rfl, upd_same, (ht.ext e1).ext (made_ext nx ndx ExtBut.refl), fun H2 dw eb hw r => ⟨rfl, ?_⟩⟩
    have e2 : Ext H1 H2 := made_ext nx ndx eb
    have e12 := e1.trans e2
    have nw : H1 dw = none := (made_ext (C := He.ga K "Run") nx ndx ExtBut.refl).none hw
    obtain ⟨dxr, ha⟩ := r.at_
    refine ⟨_, rfl, x, dxr, _, rfl, ha, rF_a _ _ _, _, rfl, x, dw, c, l, b, t, t, n, 0, hh, ss, H1, rfl, r, by omega, hs.ext e1, e2, nx, nw, ht.ext e1, fun t' p' H3 hg e3 r3 => ?_, fun i H3 hg e3 => ?_⟩
    · obtain ⟨dx3, ha3⟩ := r3.at_
      refine ⟨_, rfl, rfl, _, rfl, ifF ?_⟩
      refine ⟨_, rfl, x, dx3, _, rfl, ha3, rF_q _ _ _, x, dw, c, b, t, t', n, 0 + ss.length, p', rfl, r3, by omega, fun rr H4 e4 hp hn4 => ?_⟩
      rw [Nat.zero_add] at hp
      exact q1 t' p' rr H4 hg ((e1.trans e3).trans e4) hp ((e1.trans e3).none hn4)
    · refine ⟨_, rfl, rfl, _, rfl, ifT ?_⟩
      exact ⟨_, rfl, rfl, fun d => q2 hg d H3 (e1.trans e3)⟩
end
end Tp
/-! part XP -/
set_option Elab.async false
set_option linter.all false
set_option maxRecDepth 100000
set_option maxHeartbeats 2000000
/-! mathematics of powers: chains, gaps, segments -/
namespace Tp
open PySem PySem.Spec PyProof.Rows L2
def Eff.Tou (e : Eff) (o : Int) : Prop := e.N o ≠ none ∨ e.P o ≠ none
def Eff.left (e : Eff) (o : Int) : Option Str := match e.P o with
  | some z => some z
  | none => e.N o
theorem Eff.left_some {e : Eff} {o : Int} (h : e.Tou o) : ∃ z, e.left o = some z := by
  unfold Eff.left
  cases q : e.P o with
  | some z => exact ⟨z, rfl⟩
  | none =>
    cases q2 : e.N o with
    | some z => exact ⟨z, rfl⟩
    | none =>
      rcases h with h | h
      · exact absurd q2 h
      · exact absurd q h
abbrev Ch := List (Int × Int)
structure Chn (e : Eff) (r : Int) (c : Ch) : Prop where
  srt : c.Pairwise (fun a b => a.1 < b.1)
  mem : ∀ p, p ∈ c ↔ e.Tou p.2 ∧ p.2.fmod e.mv = r ∧ p.2.fdiv e.mv = p.1
structure Chs (e : Eff) (cs : List (Int × Ch)) : Prop where
  nd : (cs.map (·.1)).Nodup
  all : ∀ p ∈ cs, Chn e p.1 p.2
  every : ∀ o, e.Tou o → ∃ p ∈ cs, p.1 = o.fmod e.mv
def total (cs : List (Int × Ch)) : Nat := (cs.map fun p => p.2.length).sum
def gapF (e : Eff) (p : (Int × Int) × (Int × Int)) : Option Int := match e.N p.1.2 with
  | some z => if some z = e.left p.2.2 then none else some (p.2.1 - p.1.1)
  | none => none
def gapsOf (e : Eff) (c : Ch) : List Int := (c.zip c.tail).filterMap (gapF e)
def Gap (e : Eff) (g : Int) : Prop := ∃ x y : Int × Int, e.Tou x.2 ∧ e.Tou y.2 ∧ x.2.fmod e.mv = y.2.fmod e.mv ∧ x.2.fdiv e.mv = x.1 ∧ y.2.fdiv e.mv = y.1 ∧ x.1 < y.1 ∧
  (∀ o, e.Tou o → o.fmod e.mv = x.2.fmod e.mv → ¬ (x.1 < o.fdiv e.mv ∧ o.fdiv e.mv < y.1)) ∧ gapF e (x, y) = some g
theorem adj_mem {x y : Int × Int} : ∀ {c : Ch}, c.Pairwise (fun a b => a.1 < b.1) → ((x, y) ∈ c.zip c.tail ↔ x ∈ c ∧ y ∈ c ∧ x.1 < y.1 ∧ ∀ z ∈ c, ¬ (x.1 < z.1 ∧ z.1 < y.1))
  | [], _ => by simp
  | [a], _ => by
    simp only [List.tail_cons, List.zip_nil_right, List.not_mem_nil, List.mem_singleton, false_iff]
    rintro ⟨rfl, rfl, h, _⟩
    omega
  | a :: b :: r, h => by
    have h1 := List.pairwise_cons.mp h
    have ih := adj_mem (x := x) (y := y) (c := b :: r) h1.2
    have hb := List.pairwise_cons.mp h1.2
    have hab := h1.1 b List.mem_cons_self
    show (x, y) ∈ (a, b) :: ((b :: r).zip (b :: r).tail) ↔ _
    rw [List.mem_cons, ih]
    constructor
    · rintro (e | ⟨hx, hy, hl, hz⟩)
      · cases e
        refine ⟨List.mem_cons_self, List.mem_cons_of_mem _ List.mem_cons_self, hab, fun z hz => ?_⟩
        rcases List.mem_cons.mp hz with rfl | hz
        · omega
        · rcases List.mem_cons.mp hz with rfl | hz
          · omega
          · have := hb.1 z hz
            omega
      · refine ⟨List.mem_cons_of_mem _ hx, List.mem_cons_of_mem _ hy, hl, fun z hz' => ?_⟩
        rcases List.mem_cons.mp hz' with rfl | hz'
        · have := h1.1 x hx
          omega
        · exact hz z hz'
    · rintro ⟨hx, hy, hl, hz⟩
      rcases List.mem_cons.mp hx with ea | hx'
      · subst ea
        rcases List.mem_cons.mp hy with eb | hy'
        · rw [eb] at hl
          omega
        · rcases List.mem_cons.mp hy' with eb | hy''
          · exact .inl (by rw [eb])
          · have := hb.1 y hy''
            exact absurd ⟨hab, this⟩ (hz b (List.mem_cons_of_mem _ List.mem_cons_self))
      · rcases List.mem_cons.mp hy with eb | hy'
        · have := h1.1 x hx'
          rw [eb] at hl
          omega
        · exact .inr ⟨hx', hy', hl, fun z hz' => hz z (List.mem_cons_of_mem _ hz')⟩
theorem mem_gaps {e : Eff} {cs : List (Int × Ch)} (h : Chs e cs) (g : Int) : g ∈ cs.flatMap (fun p => gapsOf e p.2) ↔ Gap e g := by
  rw [List.mem_flatMap]
  constructor
  · rintro ⟨p, hp, hg⟩
    obtain ⟨⟨x, y⟩, hxy, hg⟩ := List.mem_filterMap.mp hg
    have C := h.all p hp
    obtain ⟨hx, hy, hl, hz⟩ := (adj_mem C.srt).mp hxy
    obtain ⟨x1, x2, x3⟩ := (C.mem x).mp hx
    obtain ⟨y1, y2, y3⟩ := (C.mem y).mp hy
    refine ⟨x, y, x1, y1, by rw [x2, y2], x3, y3, hl, fun o ho hf hb => ?_, hg⟩
    exact hz (o.fdiv e.mv, o) ((C.mem _).mpr ⟨ho, by rw [hf, x2], rfl⟩) hb
  · rintro ⟨x, y, x1, y1, hf, x3, y3, hl, hz, hg⟩
    obtain ⟨p, hp, hr⟩ := h.every x.2 x1
    have C := h.all p hp
    refine ⟨p, hp, List.mem_filterMap.mpr ⟨(x, y), (adj_mem C.srt).mpr ⟨(C.mem x).mpr ⟨x1, hr.symm, x3⟩, (C.mem y).mpr ⟨y1, by rw [← hf, hr], y3⟩, hl, fun z hzc hb => ?_⟩, hg⟩⟩
    obtain ⟨z1, z2, z3⟩ := (C.mem z).mp hzc
    exact hz z.2 z1 (by rw [z2, hr]) (by rw [z3]; exact hb)
/-- the power with this exponent is None -/
def Eff.Fl (e : Eff) (k : Int) : Prop := (e.mv = 0 ∧ (∃ o, e.P o ≠ none ∧ e.N o ≠ none) ∧ 2 ≤ k) ∨ (e.mv ≠ 0 ∧ ∃ g, Gap e g ∧ g + 1 ≤ k)
/-! ### building the chains -/
def addCh (cs : List (Int × Ch)) (r : Int) (x : Int × Int) : List (Int × Ch) := if r ∈ cs.map (·.1) then cs.map (fun p => if p.1 = r then (p.1, p.2 ++ [x]) else p) else cs ++ [(r, [x])]
theorem addCh_old {cs : List (Int × Ch)} {r : Int} {x : Int × Int} (h : r ∈ cs.map (·.1)) : addCh cs r x = cs.map (fun p => if p.1 = r then (p.1, p.2 ++ [x]) else p) := if_pos h
theorem addCh_new {cs : List (Int × Ch)} {r : Int} {x : Int × Int} (h : r ∉ cs.map (·.1)) : addCh cs r x = cs ++ [(r, [x])] := if_neg h
theorem addCh_keys_old {cs : List (Int × Ch)} {r : Int} {x : Int × Int} (h : r ∈ cs.map (·.1)) : (addCh cs r x).map (·.1) = cs.map (·.1) := by
  rw [addCh_old h, List.map_map]
  apply List.map_congr_left
  intro p _
  show (if p.1 = r then (p.1, p.2 ++ [x]) else p).1 = p.1
  split <;> rfl
theorem total_append (a b : List (Int × Ch)) : total (a ++ b) = total a + total b := by
  unfold total
  rw [List.map_append, List.sum_append]
theorem total_cons (a : Int × Ch) (b : List (Int × Ch)) : total (a :: b) = a.2.length + total b := by
  unfold total
  rw [List.map_cons, List.sum_cons]
theorem total_upd_no {cs : List (Int × Ch)} {r : Int} {x : Int × Int} (h : r ∉ cs.map (·.1)) : cs.map (fun p => if p.1 = r then (p.1, p.2 ++ [x]) else p) = cs := by
  induction cs with
  | nil => rfl
  | cons p cs ih =>
    have h' : r ≠ p.1 ∧ r ∉ cs.map (·.1) := by
      constructor
      · intro z
        exact h (by rw [z]; exact List.mem_cons_self)
      · intro z
        exact h (List.mem_cons_of_mem _ z)
    rw [List.map_cons, ih h'.2, if_neg (Ne.symm h'.1)]
theorem total_addCh {cs : List (Int × Ch)} {r : Int} {x : Int × Int} (hn : (cs.map (·.1)).Nodup) : total (addCh cs r x) = total cs + 1 := by
  by_cases h : r ∈ cs.map (·.1)
  · rw [addCh_old h]
    induction cs with
    | nil => cases h
    | cons p cs ih =>
      have hn' := List.nodup_cons.mp hn
      rw [List.map_cons, total_cons, total_cons]
      by_cases e : p.1 = r
      · rw [if_pos e, total_upd_no (by rw [← e]; exact hn'.1)]
        show (p.2 ++ [x]).length + _ = _
        rw [List.length_append]
        show p.2.length + 1 + _ = _
        omega
      · rw [if_neg e]
        have : r ∈ cs.map (·.1) := by
          rcases List.mem_cons.mp h with z | z
          · exact absurd z.symm e
          · exact z
        have := ih hn'.2 this
        omega
  · rw [addCh_new h, total_append]
    rfl
theorem addCh_nd {cs : List (Int × Ch)} {r : Int} {x : Int × Int} (hn : (cs.map (·.1)).Nodup) : ((addCh cs r x).map (·.1)).Nodup := by
  by_cases h : r ∈ cs.map (·.1)
  · rw [addCh_keys_old h]
    exact hn
  · rw [addCh_new h, List.map_append]
    exact List.nodup_append.mpr ⟨hn, by simp, by
      rintro a ha b hb
      have : b = r := by simpa using hb
      subst this
      exact fun z => h (z ▸ ha)⟩
/-- what the chains hold of the offsets seen -/
structure Grp (s : Int) (os : List Int) (cs : List (Int × Ch)) : Prop where
  nd : (cs.map (·.1)).Nodup
  mem : ∀ p ∈ cs, ∀ x, x ∈ p.2 ↔ x.2 ∈ os ∧ x.2.fmod s = p.1 ∧ x.2.fdiv s = x.1
  ndc : ∀ p ∈ cs, p.2.Nodup
  every : ∀ o ∈ os, ∃ p ∈ cs, p.1 = o.fmod s
  tot : total cs = os.length
theorem Grp.nil {s : Int} : Grp s [] [] := ⟨by simp, fun p hp => (by cases hp), fun p hp => (by cases hp), fun p hp => (by cases hp), rfl⟩
theorem Grp.snoc {s : Int} {os : List Int} {cs : List (Int × Ch)} {o : Int} (h : Grp s os cs) (ho : o ∉ os) : Grp s (os ++ [o]) (addCh cs (o.fmod s) (o.fdiv s, o)) := by
  refine ⟨addCh_nd h.nd, ?_, ?_, ?_, by rw [total_addCh h.nd, h.tot, List.length_append]; rfl⟩
  · intro p hp x
    by_cases k : o.fmod s ∈ cs.map (·.1)
    · rw [addCh_old k] at hp
      obtain ⟨p0, hp0, rfl⟩ := List.mem_map.mp hp
      by_cases e : p0.1 = o.fmod s
      · rw [if_pos e]
        show x ∈ p0.2 ++ [_] ↔ _ ∧ _ = p0.1 ∧ _
        rw [List.mem_append, h.mem p0 hp0 x, List.mem_append]
        constructor
        · rintro (⟨a, b, c⟩ | z)
          · exact ⟨.inl a, b, c⟩
          · rw [List.mem_singleton.mp z]
            exact ⟨.inr List.mem_cons_self, e.symm, rfl⟩
        · rintro ⟨a | a, b, c⟩
          · exact .inl ⟨a, b, c⟩
          · refine .inr ?_
            have : x.2 = o := List.mem_singleton.mp a
            rw [List.mem_singleton]
            exact Prod.ext (by rw [← c, this]) this
      · rw [if_neg e]
        show x ∈ p0.2 ↔ _ ∧ _ = p0.1 ∧ _
        rw [h.mem p0 hp0 x, List.mem_append]
        constructor
        · rintro ⟨a, b, c⟩
          exact ⟨.inl a, b, c⟩
        · rintro ⟨a | a, b, c⟩
          · exact ⟨a, b, c⟩
          · have : x.2 = o := List.mem_singleton.mp a
            exact absurd (by rw [← b, this]) e
    · rw [addCh_new k] at hp
      rcases List.mem_append.mp hp with hp | hp
      · rw [h.mem p hp x, List.mem_append]
        constructor
        · rintro ⟨a, b, c⟩
          exact ⟨.inl a, b, c⟩
        · rintro ⟨a | a, b, c⟩
          · exact ⟨a, b, c⟩
          · have : x.2 = o := List.mem_singleton.mp a
            exact absurd (List.mem_map.mpr ⟨p, hp, by rw [← b, this]⟩) k
      · rw [List.mem_singleton.mp hp]
        show x ∈ [_] ↔ _ ∧ _ = o.fmod s ∧ _
        rw [List.mem_singleton, List.mem_append]
        constructor
        · rintro rfl
          exact ⟨.inr List.mem_cons_self, rfl, rfl⟩
        · rintro ⟨a | a, b, c⟩
          · obtain ⟨p, hp, hr⟩ := h.every _ a
            exact absurd (List.mem_map.mpr ⟨p, hp, by rw [hr, b]⟩) k
          · have : x.2 = o := List.mem_singleton.mp a
            exact Prod.ext (by rw [← c, this]) this
  · intro p hp
    by_cases k : o.fmod s ∈ cs.map (·.1)
    · rw [addCh_old k] at hp
      obtain ⟨p0, hp0, rfl⟩ := List.mem_map.mp hp
      by_cases e : p0.1 = o.fmod s
      · rw [if_pos e]
        refine List.nodup_append.mpr ⟨h.ndc p0 hp0, by simp, ?_⟩
        rintro a ha b hb rfl
        rw [List.mem_singleton.mp hb] at ha
        exact ho ((h.mem p0 hp0 _).mp ha).1
      · rw [if_neg e]
        exact h.ndc p0 hp0
    · rw [addCh_new k] at hp
      rcases List.mem_append.mp hp with hp | hp
      · exact h.ndc p hp
      · rw [List.mem_singleton.mp hp]
        simp
  · have keyin : ∀ r, r ∈ (cs.map (·.1)) → r ∈ (addCh cs (o.fmod s) (o.fdiv s, o)).map (·.1) := fun r hr => by
      by_cases k : o.fmod s ∈ cs.map (·.1)
      · rw [addCh_keys_old k]
        exact hr
      · rw [addCh_new k, List.map_append]
        exact List.mem_append_left _ hr
    have keyo : o.fmod s ∈ (addCh cs (o.fmod s) (o.fdiv s, o)).map (·.1) := by
      by_cases k : o.fmod s ∈ cs.map (·.1)
      · exact keyin _ k
      · rw [addCh_new k, List.map_append]
        exact List.mem_append_right _ (by simp)
    intro o' ho'
    rcases List.mem_append.mp ho' with ho' | ho'
    · obtain ⟨p, hp, hr⟩ := h.every o' ho'
      obtain ⟨p', hp', hr'⟩ := List.mem_map.mp (keyin _ (List.mem_map.mpr ⟨p, hp, rfl⟩))
      exact ⟨p', hp', by rw [hr', hr]⟩
    · rw [List.mem_singleton.mp ho']
      obtain ⟨p', hp', hr'⟩ := List.mem_map.mp keyo
      exact ⟨p', hp', hr'⟩
/-- the chains sorted -/
theorem Grp.chs {e : Eff} {ts : List Int} {cs ds : List (Int × Ch)} (g : Grp e.mv ts cs) (ht : Tch e ts) (hk : ds.map (·.1) = cs.map (·.1)) (hd : ∀ d ∈ ds, ∃ c ∈ cs, c.1 = d.1 ∧ d.2.Perm c.2 ∧ d.2.Pairwise (fun a b => a.1 ≤ b.1)) : Chs e ds := by
  refine ⟨by rw [hk]; exact g.nd, fun d hd' => ?_, fun o ho => ?_⟩
  · obtain ⟨c, hc, e1, hp, hs⟩ := hd d hd'
    have mem : ∀ p, p ∈ d.2 ↔ e.Tou p.2 ∧ p.2.fmod e.mv = d.1 ∧ p.2.fdiv e.mv = p.1 := fun p => by
      rw [hp.mem_iff, g.mem c hc p, e1, ht.2.2 p.2]
      rfl
    have nd : d.2.Nodup := hp.nodup_iff.mpr (g.ndc c hc)
    refine ⟨?_, mem⟩
    have both := hs.and nd
    refine both.imp_of_mem ?_
    rintro a b ha hb ⟨hle, hne⟩
    have a1 := (mem a).mp ha
    have b1 := (mem b).mp hb
    rcases Int.lt_or_eq_of_le hle with l | l
    · exact l
    · exfalso
      apply hne
      refine Prod.ext l ?_
      have ea := Int.fmod_add_mul_fdiv a.2 e.mv
      have eb := Int.fmod_add_mul_fdiv b.2 e.mv
      rw [a1.2.1, a1.2.2] at ea
      rw [b1.2.1, b1.2.2] at eb
      rw [← ea, ← eb, l]
  · obtain ⟨p, hp, hr⟩ := g.every o ((ht.2.2 o).mpr ho)
    have : p.1 ∈ ds.map (·.1) := by
      rw [hk]
      exact List.mem_map.mpr ⟨p, hp, rfl⟩
    obtain ⟨d, hd1, hd2⟩ := List.mem_map.mp this
    exact ⟨d, hd1, by rw [hd2, hr]⟩
theorem total_perm {cs ds : List (Int × Ch)} (h : All2 (fun d c : Int × Ch => d.2.length = c.2.length) ds cs) : total ds = total cs := by
  unfold total
  congr 1
  apply List.ext_getElem?
  intro i
  rw [List.getElem?_map, List.getElem?_map]
  cases q : ds[i]? with
  | none =>
    have : cs[i]? = none := by
      rw [List.getElem?_eq_none_iff] at q ⊢
      rw [← h.1]
      exact q
    rw [this]
  | some d =>
    obtain ⟨c, hc, e⟩ := h.get q
    rw [hc]
    exact congrArg some e
/-! ### segments -/
structure Sg where
  r : Int
  a : Int
  b : Int
  nd : Option Str
  lf : Str
structure SgOk (mv k : Int) (g : Sg) : Prop where
  can : g.r.fmod mv = g.r
  lt : g.a < g.b
  le : g.b - g.a ≤ k
  lf : Let g.lf
  nd : ∀ z, g.nd = some z → Let z
  ba : g.a.natAbs ≤ 2000
  bb : g.b.natAbs ≤ 2000
def Apart (g h : Sg) : Prop := g.r ≠ h.r ∨ g.b ≤ h.a
def Sg.cov (mv : Int) (g : Sg) (o : Int) : Prop := ∃ q, g.a ≤ q ∧ q < g.b ∧ o = g.r + q * mv
theorem Sg.inj {mv r1 r2 q1 q2 : Int} (hm : mv ≠ 0) (c1 : r1.fmod mv = r1) (c2 : r2.fmod mv = r2) (e : r1 + q1 * mv = r2 + q2 * mv) : r1 = r2 ∧ q1 = q2 := by
  have f1 := Int.add_mul_fmod_self_right r1 q1 mv
  have f2 := Int.add_mul_fmod_self_right r2 q2 mv
  rw [e, f2, c1, c2] at f1
  refine ⟨f1.symm, ?_⟩
  have : q1 * mv = q2 * mv := by
    rw [f1] at e
    omega
  exact Int.eq_of_mul_eq_mul_right hm this
theorem Sg.not_cov {mv k : Int} {g h : Sg} (hm : mv ≠ 0) (g1 : SgOk mv k g) (h1 : SgOk mv k h) (a : Apart g h) {q : Int} (hq : h.a ≤ q) : ¬ g.cov mv (h.r + q * mv) := by
  rintro ⟨q', l1, l2, e⟩
  obtain ⟨e1, e2⟩ := Sg.inj hm h1.can g1.can e
  rcases a with a | a
  · exact a e1.symm
  · omega
/-- neighbours among ascending marks -/
theorem marks_next {ms : List Int} (h : ms.Pairwise (· < ·)) {j : Nat} {a b : Int} (ha : ms[j]? = some a) (hb : ms[j + 1]? = some b) : a < b ∧ ∀ m ∈ ms, a < m → b ≤ m := by
  obtain ⟨ja, ea⟩ := List.getElem?_eq_some_iff.mp ha
  obtain ⟨jb, eb⟩ := List.getElem?_eq_some_iff.mp hb
  have hp := List.pairwise_iff_getElem.mp h
  refine ⟨by have := hp j (j + 1) ja jb (Nat.lt_succ_self _); omega, fun m hm hlt => ?_⟩
  obtain ⟨i, hi, e⟩ := List.mem_iff_getElem.mp hm
  by_cases c : i ≤ j
  · rcases Nat.lt_or_eq_of_le c with c | c
    · have := hp i j hi ja c
      omega
    · subst c
      omega
  · rcases Nat.lt_or_eq_of_le (Nat.succ_le_of_lt (Nat.lt_of_not_le c)) with c | c
    · have := hp (j + 1) i jb hi c
      omega
    · subst c
      have : m = b := e.symm.trans eb
      omega
end Tp
/-! part K7 -/
set_option Elab.async false
set_option linter.all false
set_option maxRecDepth 100000
set_option maxHeartbeats 4000000
/-! the defs, part 7: chains, letter_left, first_failing_power, fails -/
namespace Tp
open PySem PySem.Spec PyProof.Rows L2
/-! ### chains in the heap -/
def PrAt (H : Hp) (v : V) (p : Int × Int) : Prop := ∃ t, v = .ref t ∧ H t = some (.tup [.int p.1, .int p.2])
def ChAt (H : Hp) (l : Addr) (c : Ch) : Prop := ∃ vs, H l = some (.lst vs) ∧ All2 (PrAt H) vs c
theorem PrAt.ext {H H' : Hp} {v : V} {p : Int × Int} (h : PrAt H v p) (e : Ext H H') : PrAt H' v p := let ⟨t, a, b⟩ := h; ⟨t, a, e _ _ b⟩
theorem ChAt.ext {H H' : Hp} {l : Addr} {c : Ch} (h : ChAt H l c) (e : Ext H H') : ChAt H' l c := let ⟨vs, a, b⟩ := h; ⟨vs, e _ _ a, b.mono fun _ _ q => q.ext e⟩
def kvC (cs : List (Int × Ch)) (lm : Int → Addr) : List (Key × V) := cs.map fun p => (Sum.inl p.1, V.ref (lm p.1))
theorem kvC_length (cs : List (Int × Ch)) (lm : Int → Addr) : (kvC cs lm).length = cs.length := List.length_map _
theorem kvC_val {cs : List (Int × Ch)} {lm : Int → Addr} {r : Int} (h : r ∈ cs.map (·.1)) : valV (kvC cs lm) (Sum.inl r : Key) = some (.ref (lm r)) := by
  induction cs with
  | nil => cases h
  | cons p cs ih =>
    by_cases e : p.1 = r
    · subst e
      exact valV_pos rfl
    · have h' : r ∈ cs.map (·.1) := by
        rcases List.mem_cons.mp h with z | z
        · exact absurd z.symm e
        · exact z
      exact (valV_neg (p := (Sum.inl p.1, V.ref (lm p.1))) (fun z => e (Sum.inl.inj z))).trans (ih h')
theorem kvC_no {cs : List (Int × Ch)} {lm : Int → Addr} {r : Int} (h : r ∉ cs.map (·.1)) : valV (kvC cs lm) (Sum.inl r : Key) = none := by
  induction cs with
  | nil => rfl
  | cons p cs ih =>
    have h' : r ≠ p.1 ∧ r ∉ cs.map (·.1) := ⟨fun z => h (by rw [z]; exact List.mem_cons_self), fun z => h (List.mem_cons_of_mem _ z)⟩
    exact (valV_neg (p := (Sum.inl p.1, V.ref (lm p.1))) (fun z => h'.1 (Sum.inl.inj z).symm)).trans (ih h'.2)
theorem kvC_congr {cs : List (Int × Ch)} {lm lm' : Int → Addr} (h : ∀ r ∈ cs.map (·.1), lm r = lm' r) : kvC cs lm = kvC cs lm' := by
  unfold kvC
  apply List.map_congr_left
  intro p hp
  rw [h p.1 (List.mem_map.mpr ⟨p, hp, rfl⟩)]
theorem kvC_keys {cs ds : List (Int × Ch)} {lm : Int → Addr} (h : cs.map (·.1) = ds.map (·.1)) : kvC cs lm = kvC ds lm := by
  have e : ∀ l : List (Int × Ch), kvC l lm = (l.map (·.1)).map fun r => (Sum.inl r, V.ref (lm r)) := fun l => by
    unfold kvC
    rw [List.map_map]
    rfl
  rw [e, e, h]
def ChsAt (H0 H : Hp) (d : Addr) (cs : List (Int × Ch)) : Prop := ∃ lm, H d = some (.dK (kvC cs lm)) ∧ ∀ p ∈ cs, ChAt H (lm p.1) p.2 ∧ H0 (lm p.1) = none
/-- the dict of chains as it grows -/
structure FoAt (H0 H : Hp) (d : Addr) (cs : List (Int × Ch)) (lm : Int → Addr) : Prop where
  at_ : H d = some (.dK (kvC cs lm))
  ch : ∀ p ∈ cs, ChAt H (lm p.1) p.2
  inj : ∀ p ∈ cs, ∀ q ∈ cs, lm p.1 = lm q.1 → p.1 = q.1
  fr : ∀ p ∈ cs, H0 (lm p.1) = none
  ne : ∀ p ∈ cs, lm p.1 ≠ d
theorem FoAt.ext {H0 H H' : Hp} {d : Addr} {cs : List (Int × Ch)} {lm : Int → Addr} (f : FoAt H0 H d cs lm) (e : Ext H H') : FoAt H0 H' d cs lm := ⟨e _ _ f.at_, fun p hp => (f.ch p hp).ext e, f.inj, f.fr, f.ne⟩
theorem ChAt.put {H : Hp} {l a : Addr} {c : Ch} {o : HO} (h : ChAt H l c) (n1 : l ≠ a) (n2 : ∀ xs, H a ≠ some (.tup xs)) : ChAt (upd H a o) l c := by
  obtain ⟨vs, h1, h2⟩ := h
  refine ⟨vs, by rw [upd_ne n1]; exact h1, h2.mono ?_⟩
  rintro v p ⟨t, rfl, ht⟩
  exact ⟨t, rfl, by rw [upd_ne (fun z => n2 _ (z ▸ ht))]; exact ht⟩
/-- one appended to a chain that is there -/
theorem FoAt.old {H0 H : Hp} {d : Addr} {cs : List (Int × Ch)} {lm : Int → Addr} {r : Int} {x : Int × Int} {T : Addr} {vs : List V} (f : FoAt H0 H d cs lm) (hr : r ∈ cs.map (·.1)) (hT : H T = some (.tup [.int x.1, .int x.2])) (hl : H (lm r) = some (.lst vs)) :
    FoAt H0 (upd H (lm r) (.lst (vs ++ [.ref T]))) d (addCh cs r x) lm := by
  have hk := addCh_keys_old (x := x) hr
  obtain ⟨pr, hpr, er⟩ := List.mem_map.mp hr
  have nd : d ≠ lm r := by
    rw [← er]
    exact Ne.symm (f.ne pr hpr)
  have notup : ∀ xs, H (lm r) ≠ some (.tup xs) := fun xs z => by rw [hl] at z; cases z
  have mem : ∀ p ∈ addCh cs r x, ∃ q ∈ cs, q.1 = p.1 := fun p hp => by
    have : p.1 ∈ cs.map (·.1) := by
      rw [← hk]
      exact List.mem_map.mpr ⟨p, hp, rfl⟩
    exact List.mem_map.mp this
  refine ⟨?_, ?_, ?_, ?_, ?_⟩
  · rw [upd_ne nd, f.at_, kvC_keys hk]
  · intro p hp
    rw [addCh_old hr] at hp
    obtain ⟨q, hq, rfl⟩ := List.mem_map.mp hp
    by_cases e : q.1 = r
    · rw [if_pos e]
      obtain ⟨vs', h1, h2⟩ := f.ch q hq
      show ChAt _ (lm q.1) (q.2 ++ [x])
      rw [e] at h1 ⊢
      rw [hl] at h1
      cases h1
      refine ⟨vs ++ [.ref T], upd_same, ?_⟩
      have keep : ∀ v p, PrAt H v p → PrAt (upd H (lm r) (.lst (vs ++ [.ref T]))) v p := by
        rintro v p ⟨t, rfl, ht⟩
        exact ⟨t, rfl, by rw [upd_ne (fun z => notup _ (z ▸ ht))]; exact ht⟩
      exact (h2.mono keep).snoc (keep _ _ ⟨T, rfl, hT⟩)
    · rw [if_neg e]
      exact (f.ch q hq).put (fun z => e ((f.inj q hq pr hpr (by rw [z, er])).trans er)) notup
  · intro p hp q hq e
    obtain ⟨p', hp', e1⟩ := mem p hp
    obtain ⟨q', hq', e2⟩ := mem q hq
    rw [← e1, ← e2] at e ⊢
    exact f.inj p' hp' q' hq' e
  · intro p hp
    obtain ⟨p', hp', e1⟩ := mem p hp
    rw [← e1]
    exact f.fr p' hp'
  · intro p hp
    obtain ⟨p', hp', e1⟩ := mem p hp
    rw [← e1]
    exact f.ne p' hp'
/-- a new chain -/
theorem FoAt.new {H0 H : Hp} {d : Addr} {cs : List (Int × Ch)} {lm : Int → Addr} {r : Int} {l : Addr} (f : FoAt H0 H d cs lm) (hr : r ∉ cs.map (·.1)) (hl : H l = some (.lst [])) (l0 : H0 l = none) (ln : ∀ p ∈ cs, lm p.1 ≠ l) :
    FoAt H0 (upd H d (.dK (putK (kvC cs lm) (Sum.inl r : Key) (.ref l)))) d (cs ++ [(r, [])]) (fun j => if j = r then l else lm j) := by
  have ld : l ≠ d := fun z => by rw [z, f.at_] at hl; cases hl
  have cg : ∀ p ∈ cs, (if p.1 = r then l else lm p.1) = lm p.1 := fun p hp => if_neg fun z => hr (by rw [← z]; exact List.mem_map.mpr ⟨p, hp, rfl⟩)
  have nt1 : ∀ xs, H d ≠ some (.tup xs) := fun xs z => by rw [f.at_] at z; cases z
  refine ⟨?_, ?_, ?_, ?_, ?_⟩
  · rw [upd_same, putK_new _ (kvC_no hr)]
    unfold kvC
    rw [List.map_append]
    have : cs.map (fun p => ((Sum.inl p.1 : Key), V.ref (lm p.1))) = cs.map fun p => ((Sum.inl p.1 : Key), V.ref (if p.1 = r then l else lm p.1)) := List.map_congr_left fun p hp => by rw [cg p hp]
    rw [this]
    show some (HO.dK _) = some (HO.dK (_ ++ [(Sum.inl r, V.ref (if r = r then l else lm r))]))
    rw [if_pos rfl]
  · intro p hp
    rcases List.mem_append.mp hp with hp | hp
    · rw [cg p hp]
      exact (f.ch p hp).put (f.ne p hp) nt1
    · rw [List.mem_singleton.mp hp]
      show ChAt _ (if r = r then l else lm r) []
      rw [if_pos rfl]
      exact ⟨[], by rw [upd_ne ld]; exact hl, All2.nil⟩
  · intro p hp q hq e
    rcases List.mem_append.mp hp with hp | hp <;> rcases List.mem_append.mp hq with hq | hq
    · rw [cg p hp, cg q hq] at e
      exact f.inj p hp q hq e
    · rw [List.mem_singleton.mp hq] at e
      rw [cg p hp] at e
      exact absurd (e.trans (if_pos rfl)) (ln p hp)
    · rw [List.mem_singleton.mp hp] at e
      rw [cg q hq] at e
      exact absurd (e.symm.trans (if_pos rfl)) (ln q hq)
    · rw [List.mem_singleton.mp hp, List.mem_singleton.mp hq]
  · intro p hp
    rcases List.mem_append.mp hp with hp | hp
    · rw [cg p hp]
      exact f.fr p hp
    · rw [List.mem_singleton.mp hp]
      show H0 (if r = r then l else lm r) = none
      rw [if_pos rfl]
      exact l0
  · intro p hp
    rcases List.mem_append.mp hp with hp | hp
    · rw [cg p hp]
      exact f.ne p hp
    · rw [List.mem_singleton.mp hp]
      show (if r = r then l else lm r) ≠ d
      rw [if_pos rfl]
      exact ld
theorem addCh_two {cs : List (Int × Ch)} {r : Int} {x : Int × Int} (h : r ∉ cs.map (·.1)) : addCh (cs ++ [(r, [])]) r x = addCh cs r x := by
  have h2 : r ∈ (cs ++ [(r, ([] : Ch))]).map (·.1) := by
    rw [List.map_append]
    exact List.mem_append_right _ (by simp)
  rw [addCh_old h2, addCh_new h, List.map_append, total_upd_no h]
  show cs ++ [if r = r then (r, [] ++ [x]) else (r, [])] = _
  rw [if_pos rfl]
  rfl
theorem total_mem {cs : List (Int × Ch)} {p : Int × Ch} (h : p ∈ cs) : p.2.length ≤ total cs := by
  induction cs with
  | nil => cases h
  | cons q cs ih =>
    rw [total_cons]
    rcases List.mem_cons.mp h with rfl | h
    · omega
    · have := ih h
      omega
/-- each chain of the offsets seen has one: no more chains than offsets -/
theorem Grp.len {s : Int} {os : List Int} {cs : List (Int × Ch)} (g : Grp s os cs) (ne : ∀ p ∈ cs, p.2 ≠ []) : cs.length ≤ os.length := by
  rw [← g.tot]
  clear g
  induction cs with
  | nil => exact Nat.zero_le _
  | cons p cs ih =>
    rw [total_cons, List.length_cons]
    have h1 := ih fun q hq => ne q (List.mem_cons_of_mem _ hq)
    have h2 : 0 < p.2.length := List.length_pos_iff.mpr (ne p List.mem_cons_self)
    omega
theorem addCh_ne {cs : List (Int × Ch)} {r : Int} {x : Int × Int} (h : ∀ p ∈ cs, p.2 ≠ []) : ∀ p ∈ addCh cs r x, p.2 ≠ [] := by
  intro p hp
  by_cases k : r ∈ cs.map (·.1)
  · rw [addCh_old k] at hp
    obtain ⟨q, hq, rfl⟩ := List.mem_map.mp hp
    by_cases e : q.1 = r
    · rw [if_pos e]
      simp
    · rw [if_neg e]
      exact h q hq
  · rw [addCh_new k] at hp
    rcases List.mem_append.mp hp with hp | hp
    · exact h p hp
    · rw [List.mem_singleton.mp hp]
      simp
theorem take_notin {l : List Int} (h : l.Nodup) {i : Nat} {o : Int} (ho : l[i]? = some o) : o ∉ l.take i := fun z => by
  obtain ⟨j, hj, e⟩ := List.mem_iff_getElem.mp z
  obtain ⟨hi, e2⟩ := List.getElem?_eq_some_iff.mp ho
  rw [List.length_take] at hj
  rw [List.getElem_take] at e
  have := (List.getElem_inj h).mp (e.trans e2.symm)
  omega
/-- the pair at a reference -/
def kOf (H : Hp) : V → Int × Int
  | .ref t => match H t with
    | some (.tup [.int q, .int o]) => (q, o)
    | _ => (0, 0)
  | _ => (0, 0)
theorem PrAt.kOf {H : Hp} {v : V} {p : Int × Int} (h : PrAt H v p) : kOf H v = p := by
  obtain ⟨t, rfl, ht⟩ := h
  show (match H t with
    | some (.tup [.int q, .int o]) => (q, o)
    | _ => (0, 0)) = p
  rw [ht]
theorem All2.kmap {H : Hp} {vs : List V} {c : Ch} (h : All2 (PrAt H) vs c) : vs.map (Tp.kOf H) = c := by
  apply List.ext_getElem?
  intro i
  rw [List.getElem?_map]
  cases q : vs[i]? with
  | none =>
    have : c[i]? = none := by
      rw [List.getElem?_eq_none_iff] at q ⊢
      rw [← h.1]
      exact q
    rw [this]
    rfl
  | some v =>
    obtain ⟨p, hp, e⟩ := h.get q
    rw [hp]
    exact congrArg some e.kOf
theorem All2.of_kOf {H : Hp} {vs : List V} (h : ∀ v ∈ vs, ∃ p, PrAt H v p) : All2 (PrAt H) vs (vs.map (Tp.kOf H)) := by
  refine ⟨(List.length_map _).symm, fun i v p hv hp => ?_⟩
  rw [List.getElem?_map, hv] at hp
  obtain ⟨p', hp'⟩ := h v (List.mem_of_getElem? hv)
  have : kOf H v = p := Option.some.inj hp
  rw [← this, hp'.kOf]
  exact hp'
section
variable {P : Program} {w : World} {K : PySem.W.Frag} {mg : Str → Option Value} {base : Heap}
def sp_chains (K : PySem.W.Frag) : Sp := fun vs H Q _ => ∃ (a : Addr) (e : Eff) (n : Nat), vs = [.ref a] ∧ EffAt K H a e n ∧ n + n ≤ BIG ∧ CDivN 0 e.mv ∧
  ∀ p cs H', Ext H H' → ChsAt H H' p cs → Chs e cs → total cs ≤ n + n → H p = none → Q (.ref p) H'
theorem sc_chains : FnScope ["effect", "found", "offset", "quotient", "remainder", "chain"] ["effect"] (defScope s_chains) := ⟨rfl, rfl, rfl, by decide +kernel, rfl, by decide +kernel, by decide +kernel⟩
theorem k_chains (T : Txt K mg) : FnR P w K mg base CX0 3 (He.ga K "chains") (sp_chains K) := by
  obtain ⟨fd, F⟩ := T.f_chains
  refine (fun (G : FnOk P w K mg base CX0 3 _ fd _ (sp_chains K)) => ?_) (F.ok sc_chains (fun vs H Q E h => by obtain ⟨_, _, _, rfl, _⟩ := h; rfl) (fun cdv A outer s H vs Q E hr h => ?_))
  · exact (G.raw (F.bindsN fun _ _ _ _ _ _ us hl => match us, hl with | [_], _ => rfl) .nil).imp fun vs H Q E h => by rw [List.append_nil]; exact h
  · have hu := hu_of hr
    have hu0 : (A.deeper (envOfC _ _ s.heap.objs.size _ cdv)).units < cLine := Nat.lt_of_succ_lt hu
    refine ⟨_, PSs.nox (pss_cons (ps_set (i := 1) sc_chains.nd rfl (Or.inl rfl) pe_dnewK)
  (pss_cons (ps_for PassesOwn.never rfl (pi_list (pe_mR0 (pv 0) T.c_Effect T.m_Effect_touched (k_Effect_touched T) (hr.mono (by decide)) pass0)) (pg_name (i := 2) sc_chains.nd rfl (Or.inl rfl)) (pss_cons (ps_asg (pe_callB cr_divmod (by rfl) T.n_divmod (by decide +kernel) (pa_cons (pv 2) (pa_cons (pe_propR (pv 0) T.c_Effect T.p_Effect_shift (k_Effect_shift T) (hr.mono (by decide)) pass0) pa_nil))) (pg_tup rfl (pgs_cons (pg_name (i := 3) sc_chains.nd rfl (Or.inl rfl)) (pgs_cons (pg_name (i := 4) sc_chains.nd rfl (Or.inl rfl)) pgs_nil))))
  (pss_one (ps_expr (pe_bm PySem.F.plainAttrs_list PySem.F.slot_list_append PySem.F.type_list_append mt_append (pe_dsetd (pv 1) (pv 4) (pe_lst pa_nil) ⟨rfl, rfl, rfl, rfl⟩) (pa_cons (pe_tup (pa_cons (pv 3) (pa_cons (pv 2) pa_nil))) pa_nil))))))
  (pss_one (ps_ret (pe_lock (pe_dc (own := [("remainder", 4), ("chain", 5)]) (g := (gTup K 2 (gCons (gName 4) (gCons (gName 5) gNil)))) rfl sc_chains.nd (pi_items (pv 1)) (blkOk_by (own := [("remainder", 4), ("chain", 5)]) (N := ["effect", "found", "offset", "quotient", "remainder", "chain"]) (sc := defScope s_chains) (by decide +kernel)) (fun _ _ _ _ _ => (pg_tup rfl (pgs_cons (pg_name (i := 4) sc_chains.nd rfl (Or.inl rfl)) (pgs_cons (pg_name (i := 5) sc_chains.nd rfl (Or.inl rfl)) pgs_nil)))) (fun _ _ _ _ _ => pts_nil) (fun _ _ _ _ _ => (pv 4)) (fun _ _ _ _ _ => (pe_callB (cr_sortedPOK K) (by rfl) T.n_sorted (by decide +kernel) (pa_cons (pv 5) pa_nil))))))))), ?_⟩
    obtain ⟨a, e, n, rfl, he, hn, hd, q⟩ := h
    have hB : BIG = 1000000 := rfl
    obtain ⟨dx, dn, dp, mn, mp, ha, _⟩ := id he
    intro D hD
    have eD : Ext H (upd H D (.dK [])) := Ext.upd hD
    refine ⟨_, rfl, a, dx, _, rfl, eD _ _ ha, eF_4 _ _ _, a, e, n, rfl, he.ext eD, hn, fun l ts H1 e1 ht hlen hl nl => ?_⟩
    have hD1 : H1 D = some (.dK []) := e1 _ _ upd_same
    have eH1 := eD.trans e1
    have nl0 : H l = none := eD.none nl
    have lD : l ≠ D := fun z => by rw [z, hD1] at hl; cases hl
    refine ⟨l, rfl, ⟨_, SqL.of hl⟩, for_it (walk_list (xs := ts.map V.int)) (fun i σ Hc => ∃ v1 v2 v3 cs lm, σ = [some (.ref a), some (.ref D), v1, v2, v3, none] ∧ Ext H Hc ∧ Hc l = some (.lst (ts.map V.int)) ∧ FoAt (upd H l (.lst [])) Hc D cs lm ∧ Grp e.mv (ts.take i) cs ∧ ∀ p ∈ cs, p.2 ≠ []) ⟨none, none, none, [], fun _ => 0, rfl, eH1, hl, ⟨hD1, fun p hp => (by cases hp), fun p hp => (by cases hp), fun p hp => (by cases hp), fun p hp => (by cases hp)⟩, Grp.nil, fun p hp => (by cases hp)⟩ (fun i σ Hc _ ⟨_, _, _, _, _, _, _, eb, _⟩ => SqL.of eb) ?_ ?_⟩
    · rintro i x σ Hc H2 hi ⟨v1, v2, v3, cs, lm, rfl, eb, hlc, f, g, ne⟩ ⟨rfl, hx⟩
      rw [List.getElem?_map] at hx
      obtain ⟨o, ho, rfl⟩ := Option.map_eq_some_iff.mp hx
      rw [List.length_map] at hi
      have hcs : cs.length ≤ ts.length := Nat.le_trans (g.len ne) (by rw [List.length_take]; omega)
      have gs := g.snoc (take_notin ht.2.1 ho)
      have nes := addCh_ne (r := o.fmod e.mv) (x := (o.fdiv e.mv, o)) ne
      rw [← take_succ' ho] at gs
      refine ⟨_, rfl, _, rfl, a, dx, _, rfl, eb _ _ ha, a, e, n, rfl, he.ext eb, _, _, rfl, hd, fun T hT => ?_⟩
      have f1 := f.ext (Ext.upd (o := .tup [.int (o.fdiv e.mv), .int (o.fmod e.mv)]) hT)
      refine ⟨T, _, rfl, SqT.of upd_same, rfl, _, _, rfl, _, _, rfl, rfl, ?_⟩
      refine ⟨_, rfl, D, rfl, .inl ⟨_, .inl f1.at_⟩, _, rfl, (by show 0 ≤ sizeLine; decide), fun p hp => ?_⟩
      have f2 := f1.ext (Ext.upd (o := .lst []) hp)
      have e2 : Ext H2 (upd (upd H2 T (.tup [.int (o.fdiv e.mv), .int (o.fmod e.mv)])) p (.lst [])) := (Ext.upd hT).trans (Ext.upd hp)
      refine ⟨kvC cs lm, Sum.inl (o.fmod e.mv), f2.at_, rfl, (by rw [kvC_length]; exact big_line (by omega)), fun v hv => ?_, fun hv => ?_⟩
      · have hr : o.fmod e.mv ∈ cs.map (·.1) := by
          by_cases c : o.fmod e.mv ∈ cs.map (·.1)
          · exact c
          · rw [kvC_no c] at hv
            cases hv
        rw [kvC_val hr] at hv
        cases hv
        obtain ⟨pr, hpr, er⟩ := List.mem_map.mp hr
        obtain ⟨vs, hvs, ha2⟩ := f2.ch pr hpr
        rw [er] at hvs
        refine ⟨.inl ⟨rfl, _, SqL.of hvs⟩, _, rfl, _, rfl, (by show 2 ≤ sizeLine; decide), fun T2 hT2 => ?_⟩
        have f3 := f2.ext (Ext.upd (o := .tup [.int (o.fdiv e.mv), .int o]) hT2)
        have hl3 := Ext.upd (o := .tup [.int (o.fdiv e.mv), .int o]) hT2 _ _ hvs
        have e3 := e2.trans (Ext.upd (o := .tup [.int (o.fdiv e.mv), .int o]) hT2)
        have fr1 : (upd H l (.lst [])) (lm (o.fmod e.mv)) = none := by rw [← er]; exact f.fr pr hpr
        refine ⟨_, vs, _, rfl, rfl, hl3, ?_, ?_⟩
        · rw [ha2.1]
          have h1 := total_mem hpr
          rw [g.tot, List.length_take] at h1
          exact big_line (by omega)
        · refine ⟨_, _, _, _, lm, rfl, (eb.trans e3).put ((Ext.upd nl0).none fr1), ?_, f3.old (x := (o.fdiv e.mv, o)) hr upd_same hl3, gs, nes⟩
          rw [upd_ne (ne_of_none upd_same fr1)]
          exact e3 _ _ hlc
      · have hr : o.fmod e.mv ∉ cs.map (·.1) := fun c => by
          rw [kvC_val c] at hv
          cases hv
        have pD : p ≠ D := fun z => by rw [z] at hp; rw [f1.at_] at hp; cases hp
        have p0 : H2 p = none := (Ext.upd (o := .tup [.int (o.fdiv e.mv), .int (o.fmod e.mv)]) hT).none hp
        have pH : H p = none := eb.none p0
        have pl : l ≠ p := ne_of_none hlc p0
        have f3 := f2.new hr upd_same (by rw [upd_ne (Ne.symm pl)]; exact pH) (fun q hq => let ⟨_, h, _⟩ := f.ch q hq; ne_of_none h p0)
        refine ⟨.inl ⟨rfl, _, SqL.of (by rw [upd_ne pD]; exact upd_same)⟩, _, rfl, _, rfl, (by show 2 ≤ sizeLine; decide), fun T2 hT2 => ?_⟩
        have f4 := f3.ext (Ext.upd (o := .tup [.int (o.fdiv e.mv), .int o]) hT2)
        have hl4 : (upd (upd (upd (upd H2 T (.tup [.int (o.fdiv e.mv), .int (o.fmod e.mv)])) p (.lst [])) D (.dK (putK (kvC cs lm) (Sum.inl (o.fmod e.mv)) (.ref p)))) T2 (.tup [.int (o.fdiv e.mv), .int o])) p = some (.lst []) := by
          rw [upd_ne (ne_of_none (by rw [upd_ne pD]; exact upd_same) hT2), upd_ne pD, upd_same]
        refine ⟨_, [], _, rfl, rfl, hl4, (by show 0 < sizeLine; decide), ?_⟩
        have f5 := f4.old (r := o.fmod e.mv) (x := (o.fdiv e.mv, o)) (T := T2) (vs := []) (by rw [List.map_append]; exact List.mem_append_right _ (by simp)) upd_same (by rw [if_pos rfl]; exact hl4)
        rw [addCh_two hr, if_pos rfl] at f5
        refine ⟨_, _, _, _, _, rfl, ?_, ?_, f5, gs, nes⟩
        · refine Ext.put (Ext.trans (Ext.put (eb.trans e2) hD) (Ext.upd hT2)) pH
        · rw [upd_ne pl]
          refine Ext.upd hT2 _ _ ?_
          rw [upd_ne lD]
          exact e2 _ _ hlc
    · rintro σ Hc ⟨v1, v2, v3, cs, lm, rfl, eb, hlc, f, g, ne⟩
      rw [List.length_map, List.take_length] at g
      refine ⟨D, _, f.at_, trivial, fun od => ?_⟩
      have hcs : cs.length ≤ ts.length := g.len ne
      have hlock := Lk.start (od := od) f.at_
      refine ⟨_, rfl, D, od, kvC cs lm, rfl, upd_same, fun E hE => ?_⟩
      have hE0 : Hc E = none := hlock.fresh hE
      refine dc_it walk_items (fun i Hd => Lk Hc D od (.dK (kvC cs lm)) Hd ∧ ∃ ds lm2, Hd E = some (.dK (kvC ds lm2)) ∧ All2 (fun d c : Int × Ch => c.1 = d.1 ∧ d.2.Perm c.2 ∧ d.2.Pairwise (fun a b => a.1 ≤ b.1)) ds (cs.take i) ∧ ∀ d ∈ ds, ChAt Hd (lm2 d.1) d.2 ∧ H (lm2 d.1) = none) ⟨hlock.new hE, [], fun _ => 0, upd_same, All2.nil, fun d hd => (by cases hd)⟩ (fun i Hd _ z => z.1.at_) ?_ ?_
      · rintro i x Hd H2 hi ⟨lk, ds, lm2, hE2, hA, hds⟩ ⟨tt, x1, y1, rfl, htt, rfl, g1, g2⟩
        have lk3 : Lk Hc D od (.dK (kvC cs lm)) (upd Hd tt (.tup [x1, y1])) := lk.new htt
        obtain ⟨pp, hp, q1⟩ := Option.map_eq_some_iff.mp g1
        obtain ⟨pp2, hp2, q2⟩ := Option.map_eq_some_iff.mp g2
        rw [hp] at hp2
        cases hp2
        unfold kvC at hp
        rw [List.getElem?_map] at hp
        obtain ⟨c, hc, rfl⟩ := Option.map_eq_some_iff.mp hp
        subst q1 q2
        have hcm : c ∈ cs := List.mem_of_getElem? hc
        obtain ⟨vs, hvs, hal⟩ := f.ch c hcm
        have hvs3 := lk3.keep _ _ (f.ne c hcm) hvs
        have hal3 : All2 (PrAt (upd Hd tt (.tup [.int c.1, .ref (lm c.1)]))) vs c.2 := hal.mono (by
          rintro v p ⟨t, rfl, ht⟩
          exact ⟨t, rfl, lk3.keep _ _ (fun z => by rw [z, f.at_] at ht; cases ht) ht⟩)
        refine ⟨tt, _, rfl, SqT.of upd_same, rfl, _, _, rfl, _, _, rfl, rfl, rfl, ?_⟩
        refine ⟨_, rfl, _, rfl, _, vs, kOf (upd Hd tt (.tup [.int c.1, .ref (lm c.1)])), rfl, SqL.of hvs3, fun v hv => ?_, fun ys p so st hp => ?_⟩
        · obtain ⟨j, hj⟩ := List.getElem?_of_mem hv
          obtain ⟨p, _, hpa⟩ := hal3.get hj
          rw [hpa.kOf]
          exact hpa
        · have hcin : ∀ d ∈ ds, d.1 ≠ c.1 := fun d hd z => by
            obtain ⟨j, hj⟩ := List.getElem?_of_mem hd
            obtain ⟨c2, hc2, e1, _⟩ := hA.get hj
            have hjl : j < i := by
              have := List.getElem?_eq_some_iff.mp hc2
              obtain ⟨w, _⟩ := this
              rw [List.length_take] at w
              omega
            rw [List.getElem?_take, if_pos hjl] at hc2
            have n1 : (cs.map (·.1))[j]? = some c.1 := by
              rw [List.getElem?_map, hc2]
              exact congrArg some (e1.trans z)
            have n2 : (cs.map (·.1))[i]? = some c.1 := by
              rw [List.getElem?_map, hc]
              rfl
            obtain ⟨w1, v1⟩ := List.getElem?_eq_some_iff.mp n1
            obtain ⟨w2, v2⟩ := List.getElem?_eq_some_iff.mp n2
            have := (List.getElem_inj g.nd).mp (v1.trans v2.symm)
            omega
          have hno : c.1 ∉ ds.map (·.1) := fun z => by
            obtain ⟨d, hd, e⟩ := List.mem_map.mp z
            exact hcin d hd e
          have hE3 : (upd (upd Hd tt (.tup [.int c.1, .ref (lm c.1)])) p (.lst ys)) E = some (.dK (kvC ds lm2)) := (Ext.upd hp) _ _ ((Ext.upd htt) _ _ hE2)
          have hys : ∀ v ∈ ys, ∃ pr, PrAt (upd Hd tt (.tup [.int c.1, .ref (lm c.1)])) v pr := fun v hv => by
            obtain ⟨j, hj⟩ := List.getElem?_of_mem (st.perm.mem_iff.mp hv)
            obtain ⟨pr, _, hpa⟩ := hal3.get hj
            exact ⟨pr, hpa⟩
          have hya := All2.of_kOf hys
          have hcl : ds.length ≤ cs.length := by
            rw [hA.1, List.length_take]
            omega
          refine ⟨kvC ds lm2, Sum.inl c.1, rfl, hE3, (by rw [kvC_length]; exact big_line (by omega)), ?_, ds ++ [(c.1, ys.map (kOf (upd Hd tt (.tup [.int c.1, .ref (lm c.1)]))))], fun j => if j = c.1 then p else lm2 j, ?_, ?_, ?_⟩
          · exact Lk.put (lk3.new hp) hE0
          · rw [upd_same, putK_new _ (kvC_no hno)]
            unfold kvC
            rw [List.map_append]
            have : ds.map (fun d => ((Sum.inl d.1 : Key), V.ref (lm2 d.1))) = ds.map fun d => ((Sum.inl d.1 : Key), V.ref (if d.1 = c.1 then p else lm2 d.1)) := List.map_congr_left fun d hd => by rw [if_neg (hcin d hd)]
            rw [this]
            show some (HO.dK _) = some (HO.dK (_ ++ [(Sum.inl c.1, V.ref (if c.1 = c.1 then p else lm2 c.1))]))
            rw [if_pos rfl]
          · rw [take_succ' hc]
            refine hA.snoc ⟨rfl, ?_, ?_⟩
            · have := st.perm.map (kOf (upd Hd tt (.tup [.int c.1, .ref (lm c.1)])))
              rw [hal3.kmap] at this
              exact this
            · refine List.pairwise_map.mpr (so.imp ?_)
              intro a b hab
              have := SrtO.lexB_no.mp hab
              omega
          · have nE : ∀ xs, (upd (upd Hd tt (.tup [.int c.1, .ref (lm c.1)])) p (.lst ys)) E ≠ some (.tup xs) := fun xs z => by rw [hE3] at z; cases z
            intro d hd
            rcases List.mem_append.mp hd with hd | hd
            · show ChAt _ (if d.1 = c.1 then p else lm2 d.1) d.2 ∧ H (if d.1 = c.1 then p else lm2 d.1) = none
              rw [if_neg (hcin d hd)]
              have h5 := ((hds d hd).1.ext (Ext.upd (o := .tup [.int c.1, .ref (lm c.1)]) htt)).ext (Ext.upd (o := .lst ys) hp)
              refine ⟨h5.put (fun z => ?_) nE, ?_⟩
              rotate_left
              · exact (hds d hd).2
              obtain ⟨_, h6, _⟩ := h5
              rw [z, hE3] at h6
              cases h6
            · rw [List.mem_singleton.mp hd]
              show ChAt _ (if c.1 = c.1 then p else lm2 c.1) _ ∧ H (if c.1 = c.1 then p else lm2 c.1) = none
              rw [if_pos rfl]
              have h5 : ChAt (upd (upd Hd tt (.tup [.int c.1, .ref (lm c.1)])) p (.lst ys)) p _ := ⟨ys, upd_same, hya.mono fun _ _ z => z.ext (Ext.upd hp)⟩
              exact ⟨h5.put (fun z => by rw [z] at hp; rw [(Ext.upd htt) _ _ hE2] at hp; cases hp) nE, eb.none (lk3.fresh hp)⟩
      · rintro Hd ⟨lk, ds, lm2, hE2, hA, hds⟩
        rw [kvC_length, List.take_length] at hA
        refine ⟨lk.at_, ?_⟩
        have hk : ds.map (·.1) = cs.map (·.1) := by
          apply List.ext_getElem?
          intro j
          rw [List.getElem?_map, List.getElem?_map]
          cases z : ds[j]? with
          | none =>
            have : cs[j]? = none := by
              rw [List.getElem?_eq_none_iff] at z ⊢
              rw [← hA.1]
              exact z
            rw [this]
          | some d =>
            obtain ⟨c, hc, e, _⟩ := hA.get z
            rw [hc]
            exact congrArg some e.symm
        have hch : Chs e ds := g.chs ht hk fun d hd => by
          obtain ⟨j, hj⟩ := List.getElem?_of_mem hd
          obtain ⟨c, hc, e1, e2, e3⟩ := hA.get hj
          exact ⟨c, List.mem_of_getElem? hc, e1, e2, e3⟩
        have ht2 : total ds ≤ n + n := by
          rw [total_perm (hA.mono fun d c z => z.2.1.length_eq), g.tot]
          exact hlen
        refine q E ds _ (eb.trans lk.back) ⟨lm2, by rw [upd_ne (lk.ne hE0)]; exact hE2, fun d hd => ?_⟩ hch ht2 (eb.none hE0)
        have h5 := (hds d hd).1
        refine ⟨h5.put (fun z => ?_) (fun xs z => by rw [lk.at_] at z; cases z), (hds d hd).2⟩
        obtain ⟨_, h6, _⟩ := h5
        rw [z, lk.at_] at h6
        cases h6
end
end Tp
/-! part K8 -/
set_option Elab.async false
set_option linter.all false
set_option maxRecDepth 100000
set_option maxHeartbeats 4000000
/-! the defs, part 8: letter_left, first_failing_power, fails -/
namespace Tp
open PySem PySem.Spec PyProof.Rows L2
theorem dget_dct {H : Hp} {d : Addr} {m : M} {f : PF} (h : H d = some (.dK (tk m))) (hm : Dct m f) (i : Int) : DGet H d (.int i) ((f i).map V.str) := dget_of (.inl h) hm i
theorem cutV_tail (xs : List V) : cutV xs (some 1) none = xs.tail := by
  unfold cutV
  have h1 : HT.sIx xs.length 0 (some (1 : Int)) = min 1 xs.length := HT.sIx_nat xs.length 0 1
  rw [h1]
  show (xs.drop (min 1 xs.length)).take (xs.length - min 1 xs.length) = _
  cases xs with
  | nil => rfl
  | cons x r =>
    have : min 1 (x :: r).length = 1 := by
      rw [List.length_cons]
      omega
    rw [this]
    show r.take ((x :: r).length - 1) = r
    exact List.take_of_length_le (by rw [List.length_cons]; omega)
theorem ExtBut.old {p : Addr} {H H1 H2 : Hp} (e : Ext H H1) (b : ExtBut p H1 H2) (n : H p = none) : Ext H H2 := fun c o h => b c o (ne_of_none h n) (e c o h)
theorem zip_tail_get {α : Type} {c : List α} {j : Nat} {x y : α} (h1 : c[j]? = some x) (h2 : c.tail[j]? = some y) : (c.zip c.tail)[j]? = some (x, y) := by
  rw [List.getElem?_zip_eq_some]
  exact ⟨h1, h2⟩
theorem filterMap_snoc {α β : Type} (f : α → Option β) (l : List α) (x : α) : (l ++ [x]).filterMap f = l.filterMap f ++ (match f x with
    | some y => [y]
    | none => []) := by
  rw [List.filterMap_append]
  congr 1
  simp only [List.filterMap]
  cases f x <;> rfl
theorem gapF_none {e : Eff} {x y : Int × Int} (h : e.N x.2 = none) : gapF e (x, y) = none := by
  show (match e.N x.2 with
    | some z => if some z = e.left y.2 then none else some (y.1 - x.1)
    | none => none) = none
  rw [h]
theorem gapF_some {e : Eff} {x y : Int × Int} {z : Str} (h : e.N x.2 = some z) : gapF e (x, y) = if some z = e.left y.2 then none else some (y.1 - x.1) := by
  show (match e.N x.2 with
    | some z => if some z = e.left y.2 then none else some (y.1 - x.1)
    | none => none) = _
  rw [h]
theorem gapsOf_len (e : Eff) (c : Ch) : (gapsOf e c).length ≤ c.length := by
  unfold gapsOf
  refine Nat.le_trans (List.length_filterMap_le _ _) ?_
  rw [List.length_zip]
  omega
theorem gaps_len (e : Eff) (cs : List (Int × Ch)) : (cs.flatMap fun p => gapsOf e p.2).length ≤ total cs := by
  induction cs with
  | nil => exact Nat.zero_le _
  | cons p cs ih =>
    rw [List.flatMap_cons, List.length_append, total_cons]
    have := gapsOf_len e p.2
    omega
theorem total_take (cs : List (Int × Ch)) (i : Nat) : total (cs.take i) ≤ total cs := by
  have := total_append (cs.take i) (cs.drop i)
  rw [List.take_append_drop] at this
  omega
section
variable {P : Program} {w : World} {K : PySem.W.Frag} {mg : Str → Option Value} {base : Heap}
def sp_letter_left (K : PySem.W.Frag) : Sp := fun vs H Q _ => ∃ (a : Addr) (o : Int) (e : Eff) (n : Nat), vs = [.ref a, .int o] ∧ EffAt K H a e n ∧ e.Tou o ∧
  ∀ z H', Ext H H' → e.left o = some z → Let z → Q (.str z) H'
theorem sc_letter_left : FnScope ["effect", "offset"] ["effect", "offset"] (defScope s_letter_left) := ⟨rfl, rfl, rfl, by decide +kernel, rfl, by decide +kernel, by decide +kernel⟩
theorem k_letter_left (T : Txt K mg) : FnR P w K mg base CX0 3 (He.ga K "letter_left") (sp_letter_left K) := by
  obtain ⟨fd, F⟩ := T.f_letter_left
  refine (fun (G : FnOk P w K mg base CX0 3 _ fd _ (sp_letter_left K)) => ?_) (F.ok sc_letter_left (fun vs H Q E h => by obtain ⟨_, _, _, _, rfl, _⟩ := h; rfl) (fun cdv A outer s H vs Q E hr h => ?_))
  · exact (G.raw (F.bindsN fun _ _ _ _ _ _ us hl => match us, hl with | [_, _], _ => rfl) .nil).imp fun vs H Q E h => by rw [List.append_nil]; exact h
  · have hu := hu_of hr
    have hu0 : (A.deeper (envOfC _ _ s.heap.objs.size _ cdv)).units < cLine := Nat.lt_of_succ_lt hu
    refine ⟨_, PSs.nox (pss_one (ps_ret (pe_ifExp (pt_cmp (pc_din hu (pv 1) (pe_propR (pv 0) T.c_Effect T.p_Effect_changed (k_Effect_changed T) (hr.mono (by decide)) pass0))) (pe_dget hu (pe_propR (pv 0) T.c_Effect T.p_Effect_changed (k_Effect_changed T) (hr.mono (by decide)) pass0) (pv 1) (fun _ _ => rfl)) (pe_dget hu (pe_propR (pv 0) T.c_Effect T.p_Effect_expected (k_Effect_expected T) (hr.mono (by decide)) pass0) (pv 1) (fun _ _ => rfl))))), ?_⟩
    obtain ⟨a, o, e, n, rfl, he, ht, q⟩ := h
    obtain ⟨dx, dn, dp, mn, mp, ha, h2, h3, h4, h5, _⟩ := id he
    refine ⟨_, rfl, _, rfl, a, dx, _, rfl, ha, a, e, n, rfl, he, fun p m dm lm np => ⟨p, _, rfl, dget_dct upd_same dm o, _, rfl, ?_⟩⟩
    have e1 : Ext H (upd H p (.dK (tk m))) := Ext.upd np
    cases hP : e.P o with
    | some z =>
      have hL : e.left o = some z := by unfold Eff.left; rw [hP]
      refine ⟨_, rfl, a, dx, _, rfl, e1 _ _ ha, a, e, n, rfl, he.ext e1, fun p2 m2 dm2 lm2 np2 => ⟨_, rfl, p2, .str z, rfl, ?_, ?_⟩⟩
      · have := dget_dct upd_same dm2 o (H := upd (upd H p (.dK (tk m))) p2 (.dK (tk m2))) (d := p2)
        rw [hP] at this
        exact this
      · exact q z _ (e1.trans (Ext.upd np2)) hL (dm.lt _ (look_mem ((dm.lk o).trans hP)))
    | none =>
      obtain ⟨z, hz⟩ : ∃ z, e.N o = some z := by
        cases c : e.N o with
        | some z => exact ⟨z, rfl⟩
        | none =>
          rcases ht with t | t
          · exact absurd c t
          · exact absurd hP t
      have hL : e.left o = some z := by unfold Eff.left; rw [hP]; exact hz
      refine ⟨_, rfl, a, dx, _, rfl, e1 _ _ ha, a, e, n, rfl, he.ext e1, fun p2 m2 dm2 lm2 np2 => ⟨_, rfl, p2, .str z, rfl, ?_, ?_⟩⟩
      · have := dget_dct upd_same dm2 o (H := upd (upd H p (.dK (tk m))) p2 (.dK (tk m2))) (d := p2)
        rw [hz] at this
        exact this
      · exact q z _ (e1.trans (Ext.upd np2)) hL (dm2.lt _ (look_mem ((dm2.lk o).trans hz)))
def sp_first_failing_power (K : PySem.W.Frag) : Sp := fun vs H Q _ => ∃ (a : Addr) (e : Eff) (n : Nat), vs = [.ref a] ∧ EffAt K H a e n ∧ n + n ≤ BIG ∧ e.mv.natAbs < 1073741824 ∧
  (∀ H', Ext H H' → (∀ k, ¬ e.Fl k) → Q .non H') ∧ (∀ m H', Ext H H' → (∀ k, e.Fl k ↔ m ≤ k) → Q (.int m) H')
theorem sc_first_failing_power : FnScope ["effect", "is_failing", "gaps", "chain", "low", "later", "high", "earlier", "letter", "offset"] ["effect"] (defScope s_first_failing_power) := ⟨rfl, rfl, rfl, by decide +kernel, rfl, by decide +kernel, by decide +kernel⟩
theorem k_first_failing_power (T : Txt K mg) : FnR P w K mg base CX0 4 (He.ga K "first_failing_power") (sp_first_failing_power K) := by
  obtain ⟨fd, F⟩ := T.f_first_failing_power
  refine (fun (G : FnOk P w K mg base CX0 4 _ fd _ (sp_first_failing_power K)) => ?_) (F.ok sc_first_failing_power (fun vs H Q E h => by obtain ⟨_, _, _, rfl, _⟩ := h; rfl) (fun cdv A outer s H vs Q E hr h => ?_))
  · exact (G.raw (F.bindsN fun _ _ _ _ _ _ us hl => match us, hl with | [_], _ => rfl) .nil).imp fun vs H Q E h => by rw [List.append_nil]; exact h
  · have hu := hu_of hr
    have hu0 : (A.deeper (envOfC _ _ s.heap.objs.size _ cdv)).units < cLine := Nat.lt_of_succ_lt hu
    refine ⟨_, PSs.nox (pss_cons (ps_if (pt_cmpR op_eq (pe_propR (pv 0) T.c_Effect T.p_Effect_shift (k_Effect_shift T) (hr.mono (by decide)) pass0) pe_int (nomark _)) (pss_cons (ps_set (i := 1) sc_first_failing_power.nd rfl (Or.inl rfl) (pe_callB (cr_any (by rfl)) (by rfl) T.n_any (by decide +kernel) (pa_cons (pe_lc (own := [("offset", 9)]) (g := (gName 9)) rfl sc_first_failing_power.nd (pi_keys (pe_lk (pe_propR (pv 0) T.c_Effect T.p_Effect_changed (k_Effect_changed T) (hr.mono (by decide)) pass0))) (blkOk_by (own := [("offset", 9)]) (N := ["effect", "is_failing", "gaps", "chain", "low", "later", "high", "earlier", "letter", "offset"]) (sc := defScope s_first_failing_power) (by decide +kernel)) (fun _ _ _ _ _ => (pg_name (i := 9) sc_first_failing_power.nd rfl (Or.inl rfl))) (fun _ _ _ _ _ => pts_nil) (fun _ _ _ _ _ => (pe_cmp (pc_din hu (pv 9) (pe_propR (pv 0) T.c_Effect T.p_Effect_expected (k_Effect_expected T) (hr.mono (by decide)) pass0))))) pa_nil)))
  (pss_one (ps_ret (pe_ifExp (pt_val (pv 1)) pe_int pe_non)))) pss_nil)
  (pss_cons (ps_set (i := 2) sc_first_failing_power.nd rfl (Or.inl rfl) (pe_lst pa_nil))
  (pss_cons (ps_for PassesOwn.never rfl (pi_valuesL (pe_cR (k_chains T) (hr.mono (by decide)) (by rfl) T.g_chains T.kp_chains pass0 (pa_cons (pv 0) pa_nil))) (pg_name (i := 3) sc_first_failing_power.nd rfl (Or.inl rfl)) (pss_one (ps_for PassesOwn.never rfl (pi_zipS (by rfl) T.n_zip (pa_cons (pv 3) (pa_cons (pe_slice sl_list (pv 3) (po_some pe_int) po_none) pa_nil))) (pg_tup rfl (pgs_cons (pg_tup rfl (pgs_cons (pg_name (i := 4) sc_first_failing_power.nd rfl (Or.inl rfl)) (pgs_cons (pg_name (i := 5) sc_first_failing_power.nd rfl (Or.inl rfl)) pgs_nil))) (pgs_cons (pg_tup rfl (pgs_cons (pg_name (i := 6) sc_first_failing_power.nd rfl (Or.inl rfl)) (pgs_cons (pg_name (i := 7) sc_first_failing_power.nd rfl (Or.inl rfl)) pgs_nil))) pgs_nil))) (pss_cons (ps_set (i := 8) sc_first_failing_power.nd rfl (Or.inl rfl) (pe_dget1 hu (pe_propR (pv 0) T.c_Effect T.p_Effect_expected (k_Effect_expected T) (hr.mono (by decide)) pass0) (pv 5) ⟨rfl, rfl, rfl, rfl⟩))
  (pss_one (ps_if (PW.pt (pw_and (pt_cmpR op_notN (pv 8) pe_non (nomark _)) (pw_and1 (pt_cmpR op_ne (pv 8) (pe_cR (k_letter_left T) (hr.mono (by decide)) (by rfl) T.g_letter_left T.kp_letter_left pass0 (pa_cons (pv 0) (pa_cons (pv 7) pa_nil))) (nomark _))))) (pss_one (ps_expr (pe_bm PySem.F.plainAttrs_list PySem.F.slot_list_append PySem.F.type_list_append mt_append (pv 2) (pa_cons (pe_op op_sub (pv 6) (pv 4)) pa_nil)))) pss_nil))))))
  (pss_one (ps_ret (pe_ifExp (pt_cmpR (op_neNil hu0) (pv 2) (pe_lst pa_nil) (nomark _)) (pe_op op_add (pe_callB (cr_min (by rfl)) (by rfl) T.n_min (by decide +kernel) (pa_cons (pv 2) pa_nil)) pe_int) pe_non)))))), ?_⟩
    obtain ⟨a, e, n, rfl, he, hn, hd, q1, q2⟩ := h
    have hB : BIG = 1000000 := rfl
    obtain ⟨dx, dn, dp, mn, mp, ha, h2, h3, h4, h5, h6⟩ := id he
    refine ⟨_, rfl, a, dx, _, rfl, ha, a, e, n, rfl, he, rfl, _, rfl, ?_⟩
    refine ifD (fun h0 => ?_) fun h0 => ?_
    · have hz : e.mv = 0 := by injection h0
      refine ⟨_, rfl, a, dx, _, rfl, ha, a, e, n, rfl, he, fun p m dm lm np => ⟨p, tk m, rfl, upd_same, fun od => ?_⟩⟩
      rw [upd_upd]
      refine ⟨p, od, rfl, .inl ⟨tk m, upd_same, fun D hD => ?_⟩⟩
      have hl : Ext H (upd H p (.frz od (.dK (tk m)))) := Ext.upd np
      have hD0 : H D = none := hl.none hD
      refine lc_it walk_keys (fun i Hc => ExtBut D (upd H p (.frz od (.dK (tk m)))) Hc ∧ Hc D = some (.lst (((m.take i).map fun q => (e.N q.1).isSome).map V.bl))) ⟨ExtBut.refl.put, upd_same⟩ (fun i Hc _ z => z.1 _ _ (ne_of_none upd_same hD) upd_same) ?_ ?_
      · rintro i x Hc H2 hi ⟨eb, hDc⟩ ⟨rfl, k, v, hk, rfl⟩
        obtain ⟨qq, hq, ek⟩ := tk_get hk
        cases ek
        have eH : Ext H H2 := ExtBut.old hl eb hD0
        refine ⟨rfl, ?_⟩
        refine ⟨_, rfl, _, rfl, a, dx, _, rfl, eH _ _ ha, a, e, n, rfl, he.ext eH, fun p2 m2 dm2 lm2 np2 => ⟨p2, _, rfl, dget_dct upd_same dm2 qq.1, ?_⟩⟩
        have hD3 := Ext.upd (o := .dK (tk m2)) np2 _ _ hDc
        rw [tk_length] at hi
        refine ⟨_, hD3, ?_, (eb.ext (Ext.upd np2)).put, ?_⟩
        · rw [List.length_map, List.length_map, List.length_take]
          exact big_line (by omega)
        · rw [upd_same, take_succ' hq, List.map_append, List.map_append]
          have : (Option.map V.str (e.N qq.1)).isSome = (e.N qq.1).isSome := by cases e.N qq.1 <;> rfl
          rw [this]
          rfl
      · rintro Hc ⟨eb, hDc⟩
        have eH : Ext H Hc := ExtBut.old hl eb hD0
        rw [tk_length, List.take_length] at hDc
        refine ⟨D, _, rfl, SqL.of hDc, ?_⟩
        have key : ((m.map fun q => (e.N q.1).isSome).any id) = true ↔ ∃ o, e.P o ≠ none ∧ e.N o ≠ none := by
          rw [List.any_eq_true]
          constructor
          · rintro ⟨b, hb, hb2⟩
            obtain ⟨q, hq, rfl⟩ := List.mem_map.mp hb
            refine ⟨q.1, ?_, ?_⟩
            · rw [← dm.lk, mem_look dm.nd hq]
              simp
            · intro z
              have hb3 : (e.N q.1).isSome = true := hb2
              rw [z] at hb3
              cases hb3
          · rintro ⟨o, h1, h2⟩
            obtain ⟨z, hz1⟩ := Option.ne_none_iff_exists'.mp h1
            obtain ⟨y, hy1⟩ := Option.ne_none_iff_exists'.mp h2
            have hm := look_mem ((dm.lk o).trans hz1)
            exact ⟨true, List.mem_map.mpr ⟨(o, z), hm, by show (e.N o).isSome = true; rw [hy1]; rfl⟩, rfl⟩
        cases hb : ((m.map fun q => (e.N q.1).isSome).any id) with
        | true =>
          refine ⟨_, rfl, true, rfl, ifT ?_⟩
          refine q2 2 _ eH fun k => ⟨fun z => ?_, fun z => .inl ⟨hz, key.mp hb, z⟩⟩
          rcases z with ⟨_, _, z⟩ | ⟨z, _⟩
          · exact z
          · exact absurd hz z
        | false =>
          refine ⟨_, rfl, false, rfl, ifF ?_⟩
          refine q1 _ eH fun k z => ?_
          rcases z with ⟨_, z, _⟩ | ⟨z, _⟩
          · rw [key.mpr z] at hb
            cases hb
          · exact absurd hz z
    · have hz : e.mv ≠ 0 := fun z => h0 (by rw [z])
      refine ⟨(by show 0 ≤ sizeLine; decide), fun G hG => ?_⟩
      have e1 : Ext H (upd H G (.lst [])) := Ext.upd hG
      refine ⟨_, rfl, a, e, n, rfl, he.ext e1, hn, ⟨hz, hd⟩, fun p cs H1 ex ⟨lm, hp, hcs⟩ hC ht np => ?_⟩
      refine ⟨p, _, rfl, hp, fun od => ⟨p, od, _, rfl, upd_same, ?_⟩⟩
      have pG : p ≠ G := fun z => by rw [z, upd_same] at np; cases np
      have np0 : H p = none := e1.none np
      have hl : Ext H (upd H1 p (.frz od (.dK (kvC cs lm)))) := Ext.put (e1.trans ex) np0
      have hchs : ∀ c ∈ cs, ChAt (upd H1 p (.frz od (.dK (kvC cs lm)))) (lm c.1) c.2 ∧ lm c.1 ≠ G := fun c hc => by
        obtain ⟨h1, h2⟩ := hcs c hc
        refine ⟨h1.put (fun z => ?_) (fun xs z => by rw [hp] at z; cases z), fun z => by rw [z, upd_same] at h2; cases h2⟩
        obtain ⟨_, h3, _⟩ := h1
        rw [z, hp] at h3
        cases h3
      refine for_it walk_values (fun i σ Hc => ∃ v3 v4 v5 v6 v7 v8, σ = [some (.ref a), none, some (.ref G), v3, v4, v5, v6, v7, v8, none] ∧ ExtBut G (upd H1 p (.frz od (.dK (kvC cs lm)))) Hc ∧ Hc G = some (.lst (((cs.take i).flatMap fun p => gapsOf e p.2).map V.int)))
        ⟨none, none, none, none, none, none, rfl, ExtBut.refl, by rw [upd_ne (Ne.symm pG)]; exact ex _ _ upd_same⟩ (fun i σ Hc _ ⟨_, _, _, _, _, _, _, eb, _⟩ => eb _ _ pG upd_same) ?_ ?_
      · rintro i x σ Hc H2 hi ⟨v3, v4, v5, v6, v7, v8, rfl, eb, hgs⟩ ⟨rfl, k, hk⟩
        unfold kvC at hk
        rw [List.getElem?_map] at hk
        obtain ⟨c, hc, ec⟩ := Option.map_eq_some_iff.mp hk
        cases ec
        have hcm : c ∈ cs := List.mem_of_getElem? hc
        obtain ⟨⟨vs, hvs, hal⟩, nlG⟩ := hchs c hcm
        have hvs2 := eb _ _ nlG hvs
        refine ⟨_, rfl, _, rfl, _, rfl, _, vs, rfl, SqL.of hvs2, fun S hS => ?_⟩
        rw [cutV_tail]
        have GS : G ≠ S := ne_of_none hgs hS
        have eb3 : ExtBut G (upd H1 p (.frz od (.dK (kvC cs lm)))) (upd H2 S (.lst vs.tail)) := eb.ext (Ext.upd hS)
        have hvs3 : (upd H2 S (.lst vs.tail)) (lm c.1) = some (.lst vs) := Ext.upd hS _ _ hvs2
        have hG0 : (upd H1 p (.frz od (.dK (kvC cs lm)))) G = some (.lst []) := by rw [upd_ne (Ne.symm pG)]; exact ex _ _ upd_same
        have htl : total (cs.take i) ≤ n + n := Nat.le_trans (total_take cs i) ht
        have hgl := gaps_len e (cs.take i)
        have hcl := total_mem hcm
        refine ⟨_, _, vs, vs.tail, rfl, SqL.of hvs3, SqL.of upd_same, ?_⟩
        refine for_it (walk_zip (n := vs.tail.length) (by rw [List.length_tail]; omega)) (fun j σ Hd => ∃ v4 v5 v6 v7 v8, σ = [some (.ref a), none, some (.ref G), some (.ref (lm c.1)), v4, v5, v6, v7, v8, none] ∧ ExtBut G (upd H2 S (.lst vs.tail)) Hd ∧ Hd G = some (.lst ((((cs.take i).flatMap fun p => gapsOf e p.2) ++ ((c.2.zip c.2.tail).take j).filterMap (gapF e)).map V.int)))
          ⟨_, _, _, _, _, rfl, ExtBut.refl, by rw [upd_ne GS, List.take_zero, List.filterMap_nil, List.append_nil]; exact hgs⟩ (fun j σ Hd _ ⟨_, _, _, _, _, _, ebd, _⟩ => ⟨SqL.of (ebd _ _ nlG hvs3), SqL.of (ebd _ _ (Ne.symm GS) upd_same)⟩) ?_ ?_
        · rintro j x σ Hd H4 hj ⟨v4, v5, v6, v7, v8, rfl, ebd, hgd⟩ ⟨T, x1, y1, rfl, hT, rfl, g1, g2⟩
          obtain ⟨p1, hp1, hx1⟩ := hal.get g1
          have g2' : vs[j + 1]? = some y1 := by rw [← List.getElem?_tail]; exact g2
          obtain ⟨p2, hp2, hy1⟩ := hal.get g2'
          have hp2' : c.2.tail[j]? = some p2 := by rw [List.getElem?_tail]; exact hp2
          have hz2 := zip_tail_get hp1 hp2'
          obtain ⟨t1, rfl, ht1⟩ := hx1
          obtain ⟨t2, rfl, ht2⟩ := hy1
          have eb5 : ExtBut G (upd H1 p (.frz od (.dK (kvC cs lm)))) (upd Hd T (.tup [.ref t1, .ref t2])) := fun b o nb hb => Ext.upd hT _ _ (ebd _ _ nb (eb3 _ _ nb hb))
          have k1 := eb5 _ _ (ne_of ht1 hG0 (by intro z; cases z)) ht1
          have k2 := eb5 _ _ (ne_of ht2 hG0 (by intro z; cases z)) ht2
          have e5 : Ext H (upd Hd T (.tup [.ref t1, .ref t2])) := ExtBut.old hl eb5 hG
          have C := hC.all c hcm
          have m1 := (C.mem p1).mp (List.mem_of_getElem? hp1)
          have m2 := (C.mem p2).mp (List.mem_of_getElem? hp2)
          have hg5 : (upd Hd T (.tup [.ref t1, .ref t2])) G = _ := Ext.upd hT _ _ hgd
          refine ⟨T, _, rfl, SqT.of upd_same, rfl, _, _, rfl, ⟨t1, _, rfl, SqT.of k1, rfl, _, _, rfl, _, _, rfl, rfl, ?_⟩⟩
          refine ⟨_, _, rfl, ⟨t2, _, rfl, SqT.of k2, rfl, _, _, rfl, _, _, rfl, rfl, ?_⟩⟩
          refine ⟨rfl, ?_⟩
          refine ⟨_, rfl, a, dx, _, rfl, e5 _ _ ha, a, e, n, rfl, he.ext e5, fun p5 m5 dm5 lm5 np5 => ⟨p5, rfl, .inl ⟨_, .inl upd_same⟩, _, rfl, _, dget_dct upd_same dm5 p1.2, ?_⟩⟩
          have e6 := e5.trans (Ext.upd (o := .dK (tk m5)) np5)
          have hg6 := Ext.upd (o := .dK (tk m5)) np5 _ _ hg5
          have eb6 : ExtBut G (upd H2 S (.lst vs.tail)) (upd (upd Hd T (.tup [.ref t1, .ref t2])) p5 (.dK (tk m5))) := fun b o nb hb => Ext.upd np5 _ _ (Ext.upd hT _ _ (ebd _ _ nb hb))
          have noGap : gapF e (p1, p2) = none → (((c.2.zip c.2.tail).take (j + 1)).filterMap (gapF e)) = ((c.2.zip c.2.tail).take j).filterMap (gapF e) := fun hz => by
            rw [take_succ' hz2, filterMap_snoc, hz, List.append_nil]
          cases hN : e.N p1.2 with
          | none =>
            refine ⟨_, rfl, rfl, _, rfl, ifF (ifF ?_)⟩
            have hgz : gapF e (p1, p2) = none := gapF_none hN
            refine ⟨_, _, _, _, _, rfl, eb6, ?_⟩
            rw [noGap hgz]
            exact hg6
          | some z =>
            refine ⟨_, rfl, rfl, _, rfl, ifT ?_⟩
            refine ⟨_, rfl, _, rfl, _, rfl, a, p2.2, e, n, rfl, he.ext e6, m2.1, fun z' H7 e7 hl7 hz7 => ⟨rfl, _, rfl, ?_⟩⟩
            refine ifND (fun ne => ?_) fun eq => ?_
            · have hne : z ≠ z' := fun q => ne (by rw [q]; rfl)
              have hgz : gapF e (p1, p2) = some (p2.1 - p1.1) := by
                rw [gapF_some hN, hl7]
                exact if_neg fun q => hne (Option.some.inj q)
              refine ⟨_, rfl, .inl ⟨rfl, _, SqL.of (e7 _ _ hg6)⟩, _, rfl, _, rfl, _, _, rfl, rfl, _, _, _, rfl, rfl, e7 _ _ hg6, ?_, ?_⟩
              · rw [List.length_map, List.length_append]
                refine big_line ?_
                have h1 : (((c.2.zip c.2.tail).take j).filterMap (gapF e)).length ≤ c.2.length := by
                  refine Nat.le_trans (List.length_filterMap_le _ _) ?_
                  rw [List.length_take, List.length_zip]
                  omega
                have h2 : total (cs.take i) + c.2.length ≤ total cs := by
                  have h3 := total_append (cs.take (i + 1)) (cs.drop (i + 1))
                  rw [List.take_append_drop, take_succ' hc, total_append, total_cons] at h3
                  omega
                omega
              · refine ⟨_, _, _, _, _, rfl, (eb6.ext e7).put, ?_⟩
                rw [upd_same, take_succ' hz2, filterMap_snoc, hgz]
                simp only [List.map_append, List.append_assoc]
                rfl
            · have heq : z = z' := by injection eq
              have hgz : gapF e (p1, p2) = none := by
                unfold gapF
                rw [hN, hl7, heq]
                exact if_pos rfl
              refine ⟨_, _, _, _, _, rfl, eb6.ext e7, ?_⟩
              rw [noGap hgz]
              exact e7 _ _ hg6
        · rintro σ Hd ⟨v4, v5, v6, v7, v8, rfl, ebd, hgd⟩
          have hlen : vs.tail.length = (c.2.zip c.2.tail).length := by
            rw [List.length_zip, List.length_tail, List.length_tail, hal.1]
            omega
          rw [hlen, List.take_length] at hgd
          refine ⟨_, _, _, _, _, _, rfl, fun b o nb hb => ebd _ _ nb (eb3 _ _ nb hb), ?_⟩
          rw [take_succ' hc, List.flatMap_append, hgd]
          show some (HO.lst ((_ ++ gapsOf e c.2).map V.int)) = some (HO.lst ((_ ++ (gapsOf e c.2 ++ [])).map V.int))
          rw [List.append_nil]
      · rintro σ Hc ⟨v3, v4, v5, v6, v7, v8, rfl, eb, hgs⟩
        rw [kvC_length, List.take_length] at hgs
        have eH : Ext H Hc := ExtBut.old hl eb hG
        have mem := mem_gaps hC
        have fl : ∀ k, e.Fl k ↔ ∃ g, Gap e g ∧ g + 1 ≤ k := fun k => ⟨fun z => by
          rcases z with ⟨z, _⟩ | ⟨_, z⟩
          · exact absurd z hz
          · exact z, fun z => .inr ⟨hz, z⟩⟩
        refine ⟨_, rfl, (by show 0 ≤ sizeLine; decide), fun N hN => ?_⟩
        have hgs2 := Ext.upd (o := .lst []) hN _ _ hgs
        refine ⟨_, _, _, rfl, rfl, hgs2, upd_same, _, rfl, ?_⟩
        refine ifND (fun ne => ?_) fun eq => ?_
        · refine ⟨_, rfl, _, _, rfl, SqL.of hgs2, ?_, fun m hm hmin => ⟨_, _, rfl, rfl, ?_⟩⟩
          · rw [← List.length_map (f := V.int)]
            exact List.length_pos_iff.mpr ne
          · refine q2 (m + 1) _ (eH.trans (Ext.upd hN)) fun k => (fl k).trans ⟨?_, fun h => ⟨m, (mem m).mp hm, h⟩⟩
            rintro ⟨g, hg, hk⟩
            have := hmin g ((mem g).mpr hg)
            omega
        · refine q1 _ (eH.trans (Ext.upd hN)) fun k z => ?_
          obtain ⟨g, hg, _⟩ := (fl k).mp z
          have := (mem g).mpr hg
          rw [List.map_eq_nil_iff] at eq
          rw [eq] at this
          cases this
/-- whether a power is None -/
noncomputable def Eff.flB (e : Eff) (k : Int) : Bool := @decide (e.Fl k) (Classical.propDecidable _)
theorem Eff.flB_true {e : Eff} {k : Int} (h : e.Fl k) : e.flB k = true := by
  unfold Eff.flB
  exact @decide_eq_true _ (Classical.propDecidable _) h
theorem Eff.flB_false {e : Eff} {k : Int} (h : ¬ e.Fl k) : e.flB k = false := by
  unfold Eff.flB
  exact @decide_eq_false _ (Classical.propDecidable _) h
def sp_fails (K : PySem.W.Frag) : Sp := fun vs H Q _ => ∃ (a : Addr) (k : Int) (e : Eff) (n : Nat), vs = [.ref a, .int k] ∧ EffAt K H a e n ∧ n + n ≤ BIG ∧ e.mv.natAbs < 1073741824 ∧ ∀ H', Ext H H' → Q (.bl (e.flB k)) H'
theorem sc_fails : FnScope ["effect", "exponent", "least"] ["effect", "exponent"] (defScope s_fails) := ⟨rfl, rfl, rfl, by decide +kernel, rfl, by decide +kernel, by decide +kernel⟩
theorem k_fails (T : Txt K mg) : FnR P w K mg base CX0 5 (He.ga K "fails") (sp_fails K) := by
  obtain ⟨fd, F⟩ := T.f_fails
  refine (fun (G : FnOk P w K mg base CX0 5 _ fd _ (sp_fails K)) => ?_) (F.ok sc_fails (fun vs H Q E h => by obtain ⟨_, _, _, _, rfl, _⟩ := h; rfl) (fun cdv A outer s H vs Q E hr h => ?_))
  · exact (G.raw (F.bindsN fun _ _ _ _ _ _ us hl => match us, hl with | [_, _], _ => rfl) .nil).imp fun vs H Q E h => by rw [List.append_nil]; exact h
  · have hu := hu_of hr
    have hu0 : (A.deeper (envOfC _ _ s.heap.objs.size _ cdv)).units < cLine := Nat.lt_of_succ_lt hu
    refine ⟨_, PSs.nox (pss_cons (ps_set (i := 2) sc_fails.nd rfl (Or.inl rfl) (pe_cR (k_first_failing_power T) (hr.mono (by decide)) (by rfl) T.g_first_failing_power T.kp_first_failing_power pass0 (pa_cons (pv 0) pa_nil)))
  (pss_one (ps_ret (pe_and (pe_cmpR op_notN (pv 2) pe_non (nomark _)) (pe_one (pe_cmpR op_ge (pv 1) (pv 2) (nomark _))))))), ?_⟩
    obtain ⟨a, k, e, n, rfl, he, hn, hd, q⟩ := h
    refine ⟨_, rfl, a, e, n, rfl, he, hn, hd, fun H' e' hf => ?_, fun m H' e' hf => ?_⟩
    · refine ⟨_, rfl, rfl, _, rfl, ifF ?_⟩
      have := q H' e'
      rw [Eff.flB_false (hf k)] at this
      exact this
    · refine ⟨_, rfl, rfl, _, rfl, ifT ?_⟩
      refine ⟨_, rfl, _, rfl, _, _, rfl, rfl, ?_⟩
      have := q H' e'
      by_cases c : m ≤ k
      · rw [Eff.flB_true ((hf k).mpr c)] at this
        show Q (.bl (decide (m ≤ k))) H'
        rw [decide_eq_true c]
        exact this
      · rw [Eff.flB_false (fun z => c ((hf k).mp z))] at this
        show Q (.bl (decide (m ≤ k))) H'
        rw [decide_eq_false c]
        exact this
end
end Tp
/-! part K9 -/
set_option Elab.async false
set_option linter.all false
set_option maxRecDepth 100000
set_option maxHeartbeats 4000000
/-! the defs, part 9: segments -/
namespace Tp
open PySem PySem.Spec PyProof.Rows L2
def sF (mv r : Int) (tb : Addr) (nd lf : V) : List (Str × V) := [("divisor", .int mv), ("remainder", .int r), ("bounds", .ref tb), ("needed", nd), ("left", lf)]
theorem sF_1 (mv r : Int) (tb : Addr) (nd lf : V) : (sF mv r tb nd lf).lookup ("divisor" : Str) = some (.int mv) := by rfl
theorem sF_2 (mv r : Int) (tb : Addr) (nd lf : V) : (sF mv r tb nd lf).lookup ("remainder" : Str) = some (.int r) := by rfl
theorem sF_3 (mv r : Int) (tb : Addr) (nd lf : V) : (sF mv r tb nd lf).lookup ("bounds" : Str) = some (.ref tb) := by rfl
theorem sF_4 (mv r : Int) (tb : Addr) (nd lf : V) : (sF mv r tb nd lf).lookup ("needed" : Str) = some nd := by rfl
theorem sF_5 (mv r : Int) (tb : Addr) (nd lf : V) : (sF mv r tb nd lf).lookup ("left" : Str) = some lf := by rfl
theorem sF_s (mv r : Int) (tb : Addr) (nd lf : V) : (sF mv r tb nd lf).lookup ("size" : Str) = none := by rfl
theorem sF_o (mv r : Int) (tb : Addr) (nd lf : V) : (sF mv r tb nd lf).lookup ("offsets" : Str) = none := by rfl
def ndV (x : Option Str) : V := (x.map V.str).getD .non
def SegAt (K : PySem.W.Frag) (H : Hp) (x : Addr) (mv : Int) (g : Sg) : Prop := ∃ dx tb, H x = some (.ins (He.ga K "Segment") dx (sF mv g.r tb (ndV g.nd) (.str g.lf))) ∧ H tb = some (.tup [.int g.a, .int g.b])
theorem SegAt.ext {K : PySem.W.Frag} {H H' : Hp} {x : Addr} {mv : Int} {g : Sg} (h : SegAt K H x mv g) (e : Ext H H') : SegAt K H' x mv g := let ⟨dx, tb, a, b⟩ := h; ⟨dx, tb, e _ _ a, e _ _ b⟩
theorem ins_ne {H : Hp} {a x C C' dx dx' : Addr} {fs : List (Str × V)} (h : H a = some (.ins C dx fs)) (hx : H x = some (.ins C' dx' [])) (ne : fs ≠ []) : a ≠ x := fun z => by
  rw [z, hx] at h
  injection h with h
  injection h with _ _ h
  exact ne h.symm
theorem EffAt.but {K : PySem.W.Frag} {H H' : Hp} {x a C dx : Addr} {e : Eff} {n : Nat} (h : EffAt K H a e n) (b : ExtBut x H H') (hx : H x = some (.ins C dx [])) : EffAt K H' a e n := by
  obtain ⟨dx', dn', dp', mn', mp', h1, h2, h3, h4⟩ := h
  refine ⟨dx', dn', dp', mn', mp', b _ _ (ins_ne h1 hx (by intro z; cases z)) h1, b _ _ (fun z => by rw [z, hx] at h2; cases h2) h2, b _ _ (fun z => by rw [z, hx] at h3; cases h3) h3, h4⟩
theorem ChAt.but {H H' : Hp} {x l C dx : Addr} {c : Ch} {fs : List (Str × V)} (h : ChAt H l c) (b : ExtBut x H H') (hx : H x = some (.ins C dx fs)) : ChAt H' l c := by
  obtain ⟨vs, h1, h2⟩ := h
  refine ⟨vs, b _ _ (fun z => by rw [z, hx] at h1; cases h1) h1, h2.mono ?_⟩
  rintro v p ⟨t, rfl, ht⟩
  exact ⟨t, rfl, b _ _ (fun z => by rw [z, hx] at ht; cases ht) ht⟩
/-- any loop over what is walked -/
theorem it_core {J : It} {n : Nat} {G : Hp → Prop} {Y : Nat → Hp → V → Hp → Prop} (w : Walk J n G Y) {B : V → Hp → (Hp → Prop) → Prop} {H0 : Hp} {Qd : Hp → Prop} (Pv : Nat → Hp → Prop) (h0 : Pv 0 H0) (hG : ∀ i H, i ≤ n → Pv i H → G H)
    (hs : ∀ i x H H', i < n → Pv i H → Y i H x H' → B x H' (Pv (i + 1))) (hd : ∀ H, Pv n H → Qd H) :
    ∃ W : Nat → Nat → Hp → Prop, (∃ m, W 0 m H0) ∧ ∀ i m H, W i m H → (J.stop i H ∧ Qd H) ∨ (J.go i H ∧ ∃ Nx : Hp → Prop, (∀ H', Nx H' → ∃ m', m' < m ∧ W (i + 1) m' H') ∧ ∀ x H', J.yld i H x H' → B x H' Nx) := by
  refine ⟨fun i m H => m = n - i ∧ i ≤ n ∧ Pv i H, ⟨n, by simp, Nat.zero_le _, h0⟩, ?_⟩
  rintro i m H ⟨rfl, hi, p⟩
  rcases Nat.lt_or_ge i n with hlt | hge
  · exact .inr ⟨w.goes i H hlt (hG i H hi p), Pv (i + 1), fun H' p' => ⟨n - (i + 1), by omega, rfl, hlt, p'⟩, fun x H' y => hs i x H H' hlt p (w.yields i H x H' hlt (hG i H hi p) y)⟩
  · have e : i = n := by omega
    subst e
    exact .inl ⟨w.stops H (hG i H hi p), hd H p⟩
theorem ch_last {H : Hp} {l : Addr} {c : Ch} {vs : List V} (hl : H l = some (.lst vs)) (h : All2 (PrAt H) vs c) (hne : c ≠ []) : ∃ v p, atI vs (-1) = some v ∧ PrAt H v p ∧ p ∈ c := by
  have hv : vs ≠ [] := fun z => by
    have := h.1
    rw [z] at this
    exact hne (List.length_eq_zero_iff.mp this.symm)
  obtain ⟨p, hp, hpa⟩ := h.get (i := vs.length - 1) (x := vs.getLast hv) (by rw [List.getLast_eq_getElem]; exact List.getElem?_eq_getElem _)
  have e := List.dropLast_concat_getLast hv
  refine ⟨vs.getLast hv, p, ?_, hpa, List.mem_of_getElem? hp⟩
  have := atI_last vs.dropLast (vs.getLast hv)
  rw [e] at this
  exact this
theorem ch_head {H : Hp} {l : Addr} {c : Ch} {vs : List V} (hl : H l = some (.lst vs)) (h : All2 (PrAt H) vs c) (hne : c ≠ []) : ∃ v p, atI vs 0 = some v ∧ PrAt H v p ∧ p ∈ c := by
  cases c with
  | nil => exact absurd rfl hne
  | cons p c =>
    obtain ⟨v, hv, hpa⟩ := h.get' (i := 0) (y := p) rfl
    exact ⟨v, p, atI_nat (j := 0) hv, hpa, List.mem_cons_self⟩
def offs (mv : Int) (g : Sg) : List Int := (List.range (g.b - g.a).toNat).map fun (i : Nat) => g.r + (g.a + (i : Int)) * mv
section
variable {P : Program} {w : World} {K : PySem.W.Frag} {mg : Str → Option Value} {base : Heap}
def sp_Segment_init (K : PySem.W.Frag) : Sp := fun vs H Q _ => ∃ (x dx a tb ca : Addr) (r st en : Int) (e : Eff) (n : Nat) (c : Ch), vs = [.ref x, .ref a, .int r, .ref tb, .ref ca] ∧ H x = some (.ins (He.ga K "Segment") dx []) ∧ EffAt K H a e n ∧ H tb = some (.tup [.int st, .int en]) ∧ ChAt H ca c ∧ c ≠ [] ∧ (∀ p ∈ c, e.Tou p.2) ∧
  ∀ H' g, ExtBut x H H' → SegAt K H' x e.mv g → g.r = r → g.a = st → g.b = en → Let g.lf → (∀ z, g.nd = some z → Let z) → Q .non H'
theorem sc_Segment_init : FnScope ["self", "effect", "remainder", "bounds", "chain"] ["self", "effect", "remainder", "bounds", "chain"] (defScope s_Segment_init) := ⟨rfl, rfl, rfl, by decide +kernel, rfl, by decide +kernel, by decide +kernel⟩
theorem k_Segment_init (T : Txt K mg) : FnR P w K mg base CX0 4 (He.ma K (He.ga K "Segment") "__init__") (sp_Segment_init K) := by
  obtain ⟨fd, F⟩ := T.f_Segment_init
  refine (fun (G : FnOk P w K mg base CX0 4 _ fd _ (sp_Segment_init K)) => ?_) (F.ok sc_Segment_init (fun vs H Q E h => by obtain ⟨_, _, _, _, _, _, _, _, _, _, _, rfl, _⟩ := h; rfl) (fun cdv A outer s H vs Q E hr h => ?_))
  · exact (G.raw (F.bindsN fun _ _ _ _ _ _ us hl => match us, hl with | [_, _, _, _, _], _ => rfl) .nil).imp fun vs H Q E h => by rw [List.append_nil]; exact h
  · have hu := hu_of hr
    have hu0 : (A.deeper (envOfC _ _ s.heap.objs.size _ cdv)).units < cLine := Nat.lt_of_succ_lt hu
    refine ⟨_, PSs.nox (pss_cons (ps_fld (pv 0) (pe_propR (pv 1) T.c_Effect T.p_Effect_shift (k_Effect_shift T) (hr.mono (by decide)) pass0) rfl)
  (pss_cons (ps_fld (pv 0) (pv 2) rfl)
  (pss_cons (ps_fld (pv 0) (pv 3) rfl)
  (pss_cons (ps_fld (pv 0) (pe_dget1 hu (pe_propR (pv 1) T.c_Effect T.p_Effect_expected (k_Effect_expected T) (hr.mono (by decide)) pass0) (pe_ix ix_tup (pe_ix ix_list (pv 4) (pe_un un_neg pe_int) (fun _ _ => rfl)) pe_int (fun _ _ => rfl)) ⟨rfl, rfl, rfl, rfl⟩) rfl)
  (pss_one (ps_fld (pv 0) (pe_cR (k_letter_left T) (hr.mono (by decide)) (by rfl) T.g_letter_left T.kp_letter_left pass0 (pa_cons (pv 1) (pa_cons (pe_ix ix_tup (pe_ix ix_list (pv 4) pe_int (fun _ _ => rfl)) pe_int (fun _ _ => rfl)) pa_nil))) rfl)))))), ?_⟩
    obtain ⟨x, dx, a, tb, ca, r, st, en, e, n, c, rfl, hx, he, htb, hc, hne, htou, q⟩ := h
    obtain ⟨dxe, dn, dp, mn, mp, ha, _⟩ := id he
    have xa : a ≠ x := ins_ne ha hx (by intro z; cases z)
    have xt : tb ≠ x := fun z => by rw [z, hx] at htb; cases htb
    refine ⟨_, rfl, a, dxe, _, rfl, ha, a, e, n, rfl, he, _, rfl, x, _, dx, _, rfl, hx, T.c_Segment, T.a_Segment_divisor, (by show 0 < 1000; decide), ?_⟩
    refine ⟨_, rfl, _, rfl, x, _, dx, _, rfl, upd_same, T.c_Segment, T.a_Segment_remainder, (by show 1 < 1000; decide), ?_⟩
    refine ⟨_, rfl, _, rfl, x, _, dx, _, rfl, upd_same, T.c_Segment, T.a_Segment_bounds, (by show 2 < 1000; decide), ?_⟩
    rw [upd_upd, upd_upd]
    have b1 : ExtBut x H (upd H x (.ins (He.ga K "Segment") dx (putF "bounds" (.ref tb) (putF "remainder" (.int r) (putF "divisor" (.int e.mv) []))))) := ExtBut.refl.put
    obtain ⟨vs, hvs, hal⟩ := hc.but b1 hx
    obtain ⟨v1, p1, hv1, hp1, hm1⟩ := ch_last hvs hal hne
    obtain ⟨t1, rfl, ht1⟩ := hp1
    refine ⟨_, rfl, a, dxe, _, rfl, b1 _ _ xa ha, a, e, n, rfl, he.but b1 hx, fun p m dm lm np => ?_⟩
    have e2 : Ext (upd H x (.ins (He.ga K "Segment") dx (putF "bounds" (.ref tb) (putF "remainder" (.int r) (putF "divisor" (.int e.mv) []))))) _ := Ext.upd (o := .dK (tk m)) np
    refine ⟨p, rfl, .inl ⟨_, .inl upd_same⟩, _, rfl, _, rfl, _, vs, _, _, rfl, rfl, SqL.of (e2 _ _ hvs), hv1, _, _, _, _, rfl, rfl, SqT.of (e2 _ _ ht1), rfl, _, dget_dct upd_same dm p1.2, ?_⟩
    have hx2 := e2 _ _ upd_same
    refine ⟨_, rfl, x, _, dx, _, rfl, hx2, T.c_Segment, T.a_Segment_needed, (by show 3 < 1000; decide), ?_⟩
    have b3 : ExtBut x H _ := (b1.ext e2).put (o := .ins (He.ga K "Segment") dx (putF "needed" (ndV (e.N p1.2)) (putF "bounds" (.ref tb) (putF "remainder" (.int r) (putF "divisor" (.int e.mv) [])))))
    obtain ⟨vs3, hvs3, hal3⟩ := hc.but b3 hx
    obtain ⟨v2, p2, hv2, hp2, hm2⟩ := ch_head hvs3 hal3 hne
    obtain ⟨t2, rfl, ht2⟩ := hp2
    refine ⟨_, rfl, _, rfl, _, vs3, _, _, rfl, rfl, SqL.of hvs3, hv2, _, _, _, _, rfl, rfl, SqT.of ht2, rfl, a, p2.2, e, n, rfl, he.but b3 hx, htou _ hm2, fun z H4 e4 hl hz => ?_⟩
    have hx4 := e4 _ _ upd_same
    refine ⟨_, rfl, x, _, dx, _, rfl, hx4, T.c_Segment, T.a_Segment_left, (by show 4 < 1000; decide), ?_⟩
    have htb4 := (b3.ext e4) _ _ xt htb
    refine q _ ⟨r, st, en, e.N p1.2, z⟩ ((b3.ext e4).put) ⟨dx, tb, upd_same, by rw [upd_ne xt]; exact htb4⟩ rfl rfl rfl hz fun y hy => ?_
    exact dm.lt _ (look_mem ((dm.lk p1.2).trans hy))
def sp_Segment_size (K : PySem.W.Frag) : Sp := fun vs H Q _ => ∃ (x : Addr) (mv : Int) (g : Sg), vs = [.ref x] ∧ SegAt K H x mv g ∧ Q (.int (g.b - g.a)) H
theorem sc_Segment_size : FnScope ["self"] ["self"] (defScope s_Segment_size) := ⟨rfl, rfl, rfl, by decide +kernel, rfl, by decide +kernel, by decide +kernel⟩
theorem k_Segment_size (T : Txt K mg) : FnR P w K mg base CX0 1 (He.ma K (He.ga K "Segment") "size") (sp_Segment_size K) := by
  obtain ⟨fd, F⟩ := T.f_Segment_size
  refine (fun (G : FnOk P w K mg base CX0 1 _ fd _ (sp_Segment_size K)) => ?_) (F.ok sc_Segment_size (fun vs H Q E h => by obtain ⟨_, _, _, rfl, _⟩ := h; rfl) (fun cdv A outer s H vs Q E hr h => ?_))
  · exact (G.raw (F.bindsN fun _ _ _ _ _ _ us hl => match us, hl with | [_], _ => rfl) .nil).imp fun vs H Q E h => by rw [List.append_nil]; exact h
  · have hu := hu_of hr
    have hu0 : (A.deeper (envOfC _ _ s.heap.objs.size _ cdv)).units < cLine := Nat.lt_of_succ_lt hu
    refine ⟨_, PSs.nox (pss_one (ps_ret (pe_op op_sub (pe_ix ix_tup (pe_fld (pv 0) rfl) pe_int (fun _ _ => rfl)) (pe_ix ix_tup (pe_fld (pv 0) rfl) pe_int (fun _ _ => rfl))))), ?_⟩
    obtain ⟨x, mv, g, rfl, ⟨dx, tb, hx, htb⟩, q⟩ := h
    refine ⟨_, rfl, x, _, dx, _, _, rfl, hx, T.c_Segment, T.a_Segment_bounds, sF_3 _ _ _ _ _, _, _, _, _, rfl, rfl, SqT.of htb, rfl, ?_⟩
    refine ⟨_, rfl, x, _, dx, _, _, rfl, hx, T.c_Segment, T.a_Segment_bounds, sF_3 _ _ _ _ _, _, _, _, _, rfl, rfl, SqT.of htb, rfl, ?_⟩
    exact ⟨_, _, rfl, rfl, q⟩
def sp_Segment_offsets (K : PySem.W.Frag) : Sp := fun vs H Q _ => ∃ (x : Addr) (mv k : Int) (g : Sg), vs = [.ref x] ∧ SegAt K H x mv g ∧ SgOk mv k g ∧ ∀ p H', Ext H H' → H' p = some (.lst ((offs mv g).map V.int)) → H p = none → Q (.ref p) H'
theorem sc_Segment_offsets : FnScope ["self", "quotient"] ["self"] (defScope s_Segment_offsets) := ⟨rfl, rfl, rfl, by decide +kernel, rfl, by decide +kernel, by decide +kernel⟩
theorem k_Segment_offsets (T : Txt K mg) : FnR P w K mg base CX0 1 (He.ma K (He.ga K "Segment") "offsets") (sp_Segment_offsets K) := by
  obtain ⟨fd, F⟩ := T.f_Segment_offsets
  refine (fun (G : FnOk P w K mg base CX0 1 _ fd _ (sp_Segment_offsets K)) => ?_) (F.ok sc_Segment_offsets (fun vs H Q E h => by obtain ⟨_, _, _, _, rfl, _⟩ := h; rfl) (fun cdv A outer s H vs Q E hr h => ?_))
  · exact (G.raw (F.bindsN fun _ _ _ _ _ _ us hl => match us, hl with | [_], _ => rfl) .nil).imp fun vs H Q E h => by rw [List.append_nil]; exact h
  · have hu := hu_of hr
    have hu0 : (A.deeper (envOfC _ _ s.heap.objs.size _ cdv)).units < cLine := Nat.lt_of_succ_lt hu
    refine ⟨_, PSs.nox (pss_one (ps_ret (pe_lc (own := [("quotient", 1)]) (g := (gName 1)) rfl sc_Segment_offsets.nd (pi_range2 (by rfl) T.n_range (pa_cons (pe_ix ix_tup (pe_fld (pv 0) rfl) pe_int (fun _ _ => rfl)) (pa_cons (pe_ix ix_tup (pe_fld (pv 0) rfl) pe_int (fun _ _ => rfl)) pa_nil))) (blkOk_by (own := [("quotient", 1)]) (N := ["self", "quotient"]) (sc := defScope s_Segment_offsets) (by decide +kernel)) (fun _ _ _ _ _ => (pg_name (i := 1) sc_Segment_offsets.nd rfl (Or.inl rfl))) (fun _ _ _ _ _ => pts_nil) (fun _ _ _ _ _ => (pe_op op_add (pe_fldK (K := K) (pv 0)) (pe_op op_mul (pv 1) (pe_fldK (K := K) (pv 0)))))))), ?_⟩
    obtain ⟨x, mv, k, g, rfl, ⟨dx, tb, hx, htb⟩, ok, q⟩ := h
    have ba := ok.ba
    have bb := ok.bb
    refine ⟨_, rfl, x, _, dx, _, _, rfl, hx, T.c_Segment, T.a_Segment_bounds, sF_3 _ _ _ _ _, _, _, _, _, rfl, rfl, SqT.of htb, rfl, ?_⟩
    refine ⟨_, rfl, x, _, dx, _, _, rfl, hx, T.c_Segment, T.a_Segment_bounds, sF_3 _ _ _ _ _, _, _, _, _, rfl, rfl, SqT.of htb, rfl, ?_⟩
    refine ⟨_, _, rfl, ⟨by omega, by omega, by omega, by omega⟩, fun D hD => ?_⟩
    refine lc_it (walk_range (lo := g.a) (n := (g.b - g.a).toNat)) (fun i Hc => Ext H Hc ∧ Hc D = some (.lst (((offs mv g).take i).map V.int))) ⟨Ext.upd hD, upd_same⟩ (fun i Hc _ z => trivial) ?_ ?_
    · rintro i y Hc H2 hi ⟨eb, hDc⟩ ⟨rfl, rfl⟩
      refine ⟨rfl, ?_⟩
      refine ⟨_, rfl, x, _, dx, _, _, rfl, eb _ _ hx, T.c_Segment, T.a_Segment_remainder, sF_2 _ _ _ _ _, _, rfl, _, rfl, x, _, dx, _, _, rfl, eb _ _ hx, T.c_Segment, T.a_Segment_divisor, sF_1 _ _ _ _ _, ?_⟩
      have ho : (offs mv g)[i]? = some (g.r + (g.a + (i : Int)) * mv) := by
        unfold offs
        rw [List.getElem?_map, List.getElem?_range hi]
        rfl
      refine ⟨_, _, rfl, rfl, .inl ⟨by omega, by omega⟩, _, _, rfl, rfl, _, hDc, ?_, eb.put hD, ?_⟩
      · rw [List.length_map, List.length_take]
        exact big_line (by have : BIG = 1000000 := rfl; omega)
      · rw [upd_same, take_succ' ho, List.map_append]
        rfl
    · rintro Hc ⟨eb, hDc⟩
      have : (offs mv g).take (g.b - g.a).toNat = offs mv g := List.take_of_length_le (by unfold offs; rw [List.length_map, List.length_range]; exact Nat.le_refl _)
      rw [this] at hDc
      exact q D Hc eb hDc hD
end
end Tp
/-! part K10 -/
set_option Elab.async false
set_option linter.all false
set_option maxRecDepth 100000
set_option maxHeartbeats 4000000
/-! the defs, part 10: segments -/
namespace Tp
open PySem PySem.Spec PyProof.Rows L2
def Eff.Bd (e : Eff) (m : Nat) : Prop := (∀ o, e.Tou o → o.natAbs ≤ m) ∧ e.mv.natAbs ≤ m
theorem fdiv_bd (o s : Int) : (o.fdiv s).natAbs ≤ o.natAbs := by
  have pos : ∀ a b : Int, 0 ≤ b → (a.fdiv b).natAbs ≤ a.natAbs := fun a b hb => by
    rw [Int.fdiv_eq_ediv_of_nonneg a hb]
    exact Int.natAbs_ediv_le_natAbs a b
  by_cases h : 0 ≤ s
  · exact pos o s h
  · have e := Int.neg_fdiv_neg o s
    rw [← e]
    have := pos (-o) (-s) (by omega)
    rw [Int.natAbs_neg] at this
    exact this
/-! ### marks -/
def mkK (ks : List Int) : List (Key × V) := ks.map fun k => (Sum.inl k, V.bl true)
def addk (ks : List Int) (m : Int) : List Int := if m ∈ ks then ks else ks ++ [m]
theorem addk_mem {ks : List Int} {m x : Int} : x ∈ addk ks m ↔ x ∈ ks ∨ x = m := by
  unfold addk
  by_cases h : m ∈ ks
  · rw [if_pos h]
    constructor
    · exact .inl
    · rintro (z | rfl)
      · exact z
      · exact h
  · rw [if_neg h, List.mem_append, List.mem_singleton]
theorem addk_nd {ks : List Int} {m : Int} (h : ks.Nodup) : (addk ks m).Nodup := by
  unfold addk
  by_cases c : m ∈ ks
  · rw [if_pos c]
    exact h
  · rw [if_neg c]
    exact List.nodup_append.mpr ⟨h, by simp, by
      rintro a ha b hb rfl
      rw [List.mem_singleton.mp hb] at ha
      exact c ha⟩
theorem addk_len {ks : List Int} {m : Int} : (addk ks m).length ≤ ks.length + 1 := by
  unfold addk
  by_cases c : m ∈ ks
  · rw [if_pos c]
    omega
  · rw [if_neg c, List.length_append]
    exact Nat.le_refl _
theorem mkK_put (ks : List Int) (m : Int) : putK (mkK ks) (Sum.inl m : Key) (.bl true) = mkK (addk ks m) := by
  unfold putK addk
  by_cases c : m ∈ ks
  · have h : ((mkK ks).any fun kv => decide (kv.1 = (Sum.inl m : Key))) = true := List.any_eq_true.mpr ⟨(Sum.inl m, .bl true), List.mem_map.mpr ⟨m, c, rfl⟩, decide_eq_true rfl⟩
    rw [if_pos h, if_pos c]
    unfold mkK
    rw [List.map_map]
    apply List.map_congr_left
    intro k _
    show (if (Sum.inl k : Key) = Sum.inl m then ((Sum.inl k : Key), V.bl true) else (Sum.inl k, V.bl true)) = _
    split <;> rfl
  · have h : ¬ ((mkK ks).any fun kv => decide (kv.1 = (Sum.inl m : Key))) = true := fun z => by
      obtain ⟨p, hp, e⟩ := List.any_eq_true.mp z
      obtain ⟨k, hk, rfl⟩ := List.mem_map.mp hp
      have : k = m := Sum.inl.inj (of_decide_eq_true e)
      exact c (this ▸ hk)
    rw [if_neg h, if_neg c]
    unfold mkK
    rw [List.map_append]
    rfl
def SegV (K : PySem.W.Frag) (H : Hp) (mv : Int) (v : V) (g : Sg) : Prop := ∃ x, v = .ref x ∧ SegAt K H x mv g
theorem SegAt.but {K : PySem.W.Frag} {H H' : Hp} {x G : Addr} {mv : Int} {g : Sg} {xs : List V} (h : SegAt K H x mv g) (b : ExtBut G H H') (hG : H G = some (.lst xs)) : SegAt K H' x mv g :=
  let ⟨dx, tb, h1, h2⟩ := h
  ⟨dx, tb, b _ _ (ne_of h1 hG (by intro z; cases z)) h1, b _ _ (ne_of h2 hG (by intro z; cases z)) h2⟩
/-- the segments found -/
structure Fnd (K : PySem.W.Frag) (H : Hp) (G : Addr) (mv k : Int) (vs : List V) (ss : List Sg) : Prop where
  at_ : H G = some (.lst vs)
  al : All2 (SegV K H mv) vs ss
  ok : ∀ g ∈ ss, SgOk mv k g
  ap : ss.Pairwise Apart
theorem Fnd.ext {K : PySem.W.Frag} {H H' : Hp} {G : Addr} {mv k : Int} {vs : List V} {ss : List Sg} (f : Fnd K H G mv k vs ss) (e : Ext H H') : Fnd K H' G mv k vs ss :=
  ⟨e _ _ f.at_, f.al.mono fun _ _ ⟨x, h1, h2⟩ => ⟨x, h1, h2.ext e⟩, f.ok, f.ap⟩
theorem Fnd.add {K : PySem.W.Frag} {H : Hp} {G x : Addr} {mv k : Int} {vs : List V} {ss : List Sg} {g : Sg} (f : Fnd K H G mv k vs ss) (hx : SegAt K H x mv g) (ok : SgOk mv k g) (ap : ∀ h ∈ ss, Apart h g) : Fnd K (upd H G (.lst (vs ++ [.ref x]))) G mv k (vs ++ [.ref x]) (ss ++ [g]) := by
  have b : ExtBut G H (upd H G (.lst (vs ++ [.ref x]))) := ExtBut.refl.put
  refine ⟨upd_same, (f.al.mono fun _ _ ⟨x, h1, h2⟩ => ⟨x, h1, h2.but b f.at_⟩).snoc ⟨x, rfl, hx.but b f.at_⟩, fun h hh => ?_, List.pairwise_append.mpr ⟨f.ap, List.pairwise_singleton _ _, fun h hh h' hh' => ?_⟩⟩
  · rcases List.mem_append.mp hh with hh | hh
    · exact f.ok h hh
    · rw [List.mem_singleton.mp hh]
      exact ok
  · rw [List.mem_singleton.mp hh']
    exact ap h hh
section
variable {P : Program} {w : World} {K : PySem.W.Frag} {mg : Str → Option Value} {base : Heap}
def sp_segments (K : PySem.W.Frag) : Sp := fun vs H Q _ => ∃ (a : Addr) (k : Int) (e : Eff) (n : Nat), vs = [.ref a, .int k] ∧ EffAt K H a e n ∧ n + n ≤ 1000 ∧ e.mv ≠ 0 ∧ e.Bd 1000 ∧ 0 ≤ k ∧ k ≤ 3 ∧
  ∀ p vs ss H', Ext H H' → Fnd K H' p e.mv k vs ss → ss.length ≤ 2 * (n + n) → H p = none → Q (.ref p) H'
theorem sc_segments : FnScope ["effect", "exponent", "found", "remainder", "chain", "marks", "start", "end", "active", "low", "offset", "mark", "part"] ["effect", "exponent"] (defScope s_segments) := ⟨rfl, rfl, rfl, by decide +kernel, rfl, by decide +kernel, by decide +kernel⟩
theorem k_segments (T : Txt K mg) : FnR P w K mg base CX0 6 (He.ga K "segments") (sp_segments K) := by
  obtain ⟨fd, F⟩ := T.f_segments
  refine (fun (G : FnOk P w K mg base CX0 6 _ fd _ (sp_segments K)) => ?_) (F.ok sc_segments (fun vs H Q E h => by obtain ⟨_, _, _, _, rfl, _⟩ := h; rfl) (fun cdv A outer s H vs Q E hr h => ?_))
  · exact (G.raw (F.bindsN fun _ _ _ _ _ _ us hl => match us, hl with | [_, _], _ => rfl) .nil).imp fun vs H Q E h => by rw [List.append_nil]; exact h
  · have hu := hu_of hr
    have hu0 : (A.deeper (envOfC _ _ s.heap.objs.size _ cdv)).units < cLine := Nat.lt_of_succ_lt hu
    refine ⟨_, PSs.nox (pss_cons (ps_set (i := 2) sc_segments.nd rfl (Or.inl rfl) (pe_lst pa_nil))
  (pss_cons (ps_for PassesOwn.never rfl (pi_itemsL (pe_cR (k_chains T) (hr.mono (by decide)) (by rfl) T.g_chains T.kp_chains pass0 (pa_cons (pv 0) pa_nil))) (pg_tup rfl (pgs_cons (pg_name (i := 3) sc_segments.nd rfl (Or.inl rfl)) (pgs_cons (pg_name (i := 4) sc_segments.nd rfl (Or.inl rfl)) pgs_nil))) (pss_cons (ps_set (i := 5) sc_segments.nd rfl (Or.inl rfl) (pe_callB (cr_sortedDI (by rfl)) (by rfl) T.n_sorted (by decide +kernel) (pa_cons (pe_dc2 (own := [("low", 9), ("offset", 10), ("mark", 11)]) (g := (gTup K 2 (gCons (gName 9) (gCons (gName 10) gNil)))) (vs1 := [11]) (g1 := (gName 11)) rfl sc_segments.nd (pi_list (pv 4)) (blkOk_by (own := [("low", 9), ("offset", 10), ("mark", 11)]) (N := ["effect", "exponent", "found", "remainder", "chain", "marks", "start", "end", "active", "low", "offset", "mark", "part"]) (sc := defScope s_segments) (by decide +kernel)) (by decide) (fun _ _ _ _ _ => (pg_tup rfl (pgs_cons (pg_name (i := 9) sc_segments.nd rfl (Or.inl rfl)) (pgs_cons (pg_name (i := 10) sc_segments.nd rfl (Or.inl rfl)) pgs_nil)))) (fun _ _ _ _ _ => pts_nil) (fun _ _ _ _ _ => (pi_tupK (K := K) (pe_tup (pa_cons (pv 9) (pa_cons (pe_op op_add (pv 9) (pv 1)) pa_nil))))) (fun _ _ _ _ _ => (pg_name (i := 11) sc_segments.nd rfl (Or.inl rfl))) (fun _ _ _ _ _ => pts_nil) (fun _ _ _ _ _ => (pv 11)) (fun _ _ _ _ _ => pe_bl)) pa_nil)))
  (pss_one (ps_for PassesOwn.never rfl (pi_zipS (by rfl) T.n_zip (pa_cons (pv 5) (pa_cons (pe_slice sl_list (pv 5) (po_some pe_int) po_none) pa_nil))) (pg_tup rfl (pgs_cons (pg_name (i := 6) sc_segments.nd rfl (Or.inr rfl)) (pgs_cons (pg_name (i := 7) sc_segments.nd rfl (Or.inl rfl)) pgs_nil))) (pss_cons (ps_setLc (i := 8) (own := [("part", 12)]) (g := (gName 12)) rfl sc_segments.nd rfl rfl (sw_true rfl rfl rfl (by decide +kernel)) (pi_list (pv 4)) (blkOk_by (own := [("part", 12)]) (N := ["effect", "exponent", "found", "remainder", "chain", "marks", "start", "end", "active", "low", "offset", "mark", "part"]) (sc := defScope s_segments) (by decide +kernel)) (fun _ _ _ _ _ => (pg_name (i := 12) sc_segments.nd rfl (Or.inl rfl))) (fun _ _ _ _ _ => (pts_one (pt_chain op_le op_lt (pe_ix (ix_tupK K) (pv 12) pe_int (fun _ _ => rfl)) (pv 6) (pe_op op_add (pe_ix (ix_tupK K) (pv 12) pe_int (fun _ _ => rfl)) (pv 1))))) (fun _ _ _ _ _ => (pv 12)))
  (pss_one (ps_if (pt_cmpR (op_neNil hu0) (pv 8) (pe_lst pa_nil) (nomark _)) (pss_one (ps_expr (pe_bm PySem.F.plainAttrs_list PySem.F.slot_list_append PySem.F.type_list_append mt_append (pv 2) (pa_cons (StX.pe_makeR T.k_Segment (k_Segment_init T) (hr.mono (by decide)) (by rfl) T.g_Segment pass0 (pa_cons (pv 0) (pa_cons (pv 3) (pa_cons (pe_tup (pa_cons (pv 6) (pa_cons (pv 7) pa_nil))) (pa_cons (pv 8) pa_nil))))) pa_nil)))) pss_nil)))))))
  (pss_one (ps_ret (pv 2))))), ?_⟩
    obtain ⟨a, k, e, n, rfl, he, hn, hz, hbd, hk0, hk3, q⟩ := h
    have hB : BIG = 1000000 := rfl
    have hmb := hbd.2
    refine ⟨(by show 0 ≤ sizeLine; decide), fun G hG => ?_⟩
    have e1 : Ext H (upd H G (.lst [])) := Ext.upd hG
    refine ⟨_, rfl, a, e, n, rfl, he.ext e1, by omega, ⟨hz, by omega⟩, fun p cs H1 ex ⟨lm, hp, hcs⟩ hC ht np => ?_⟩
    refine ⟨p, _, rfl, hp, fun od => ⟨p, od, _, rfl, upd_same, ?_⟩⟩
    have pG : p ≠ G := fun z => by rw [z, upd_same] at np; cases np
    have np0 : H p = none := e1.none np
    have hl : Ext H (upd H1 p (.frz od (.dK (kvC cs lm)))) := Ext.put (e1.trans ex) np0
    have hchs : ∀ c ∈ cs, ChAt (upd H1 p (.frz od (.dK (kvC cs lm)))) (lm c.1) c.2 ∧ lm c.1 ≠ G := fun c hc => by
      obtain ⟨h1, h2⟩ := hcs c hc
      refine ⟨h1.put (fun z => ?_) (fun xs z => by rw [hp] at z; cases z), fun z => by rw [z, upd_same] at h2; cases h2⟩
      obtain ⟨_, h3, _⟩ := h1
      rw [z, hp] at h3
      cases h3
    have hG0 : (upd H1 p (.frz od (.dK (kvC cs lm)))) G = some (.lst []) := by rw [upd_ne (Ne.symm pG)]; exact ex _ _ upd_same
    refine for_it walk_items (fun i σ Hc => ∃ v3 v4 v5 v6 v7 v8 v9 v10 v11 v12 vs ss, σ = [some (.ref a), some (.int k), some (.ref G), v3, v4, v5, v6, v7, v8, v9, v10, v11, v12] ∧ ExtBut G (upd H1 p (.frz od (.dK (kvC cs lm)))) Hc ∧ Fnd K Hc G e.mv k vs ss ∧ ss.length ≤ 2 * total (cs.take i) ∧ ∀ g ∈ ss, g.r ∈ (cs.take i).map (·.1))
      ⟨none, none, none, none, none, none, none, none, none, none, [], [], rfl, ExtBut.refl, ⟨hG0, All2.nil, fun g hg => (by cases hg), List.Pairwise.nil⟩, Nat.zero_le _, fun g hg => (by cases hg)⟩ (fun i σ Hc _ ⟨_, _, _, _, _, _, _, _, _, _, _, _, _, eb, _⟩ => eb _ _ pG upd_same) ?_ ?_
    · rintro i x σ Hc H2 hi ⟨v3, v4, v5, v6, v7, v8, v9, v10, v11, v12, vs, ss, rfl, eb, f, hsl, hsr⟩ ⟨tt, x1, y1, rfl, htt, rfl, g1, g2⟩
      obtain ⟨pp, hpp, q1⟩ := Option.map_eq_some_iff.mp g1
      obtain ⟨pp2, hpp2, q2⟩ := Option.map_eq_some_iff.mp g2
      rw [hpp] at hpp2
      cases hpp2
      unfold kvC at hpp
      rw [List.getElem?_map] at hpp
      obtain ⟨c, hc, rfl⟩ := Option.map_eq_some_iff.mp hpp
      subst q1 q2
      have hcm : c ∈ cs := List.mem_of_getElem? hc
      have C := hC.all c hcm
      obtain ⟨⟨cv, hcv, hal⟩, nlG⟩ := hchs c hcm
      refine ⟨tt, _, rfl, SqT.of upd_same, rfl, _, _, rfl, _, _, rfl, rfl, ?_⟩
      -- the heap from here on, but G
      have eb2 : ExtBut G (upd H1 p (.frz od (.dK (kvC cs lm)))) (upd Hc tt (.tup [kV (Sum.inl c.1 : Key), .ref (lm c.1)])) := eb.ext (Ext.upd htt)
      have f2 := f.ext (Ext.upd (o := .tup [kV (Sum.inl c.1 : Key), .ref (lm c.1)]) htt)
      have hcv2 := eb2 _ _ nlG hcv
      refine ⟨_, rfl, _, rfl, ⟨_, SqL.of hcv2⟩, fun D hD => ?_⟩
      refine it_core (walk_list (xs := cv)) (fun i Hd => ExtBut D (upd Hc tt (.tup [kV (Sum.inl c.1 : Key), .ref (lm c.1)])) Hd ∧ ∃ ks, Hd D = some (.dK (mkK ks)) ∧ ks.Nodup ∧ ks.length ≤ 2 * i ∧ ∀ m, m ∈ ks ↔ ∃ p ∈ c.2.take i, m = p.1 ∨ m = p.1 + k) ⟨ExtBut.refl.put, [], upd_same, List.nodup_nil, Nat.le_refl _, fun m => by simp⟩ (fun i Hd _ z => SqL.of (z.1 _ _ (ne_of_none hcv2 hD) hcv2)) ?_ ?_
      · rintro j x Hd H3 hj ⟨ebd, ks, hDk, nd, ln, mem⟩ ⟨rfl, hx⟩
        obtain ⟨p1, hp1, t1, rfl, ht1⟩ := hal.get hx
        have k0 := eb2 _ _ (ne_of ht1 hG0 (by intro z; cases z)) ht1
        have k1 := ebd _ _ (ne_of_none k0 hD) k0
        refine ⟨t1, _, rfl, SqT.of k1, rfl, _, _, rfl, _, _, rfl, rfl, rfl, ?_⟩
        refine ⟨_, rfl, _, rfl, _, rfl, _, _, rfl, rfl, (by show 2 ≤ sizeLine; decide), fun T2 hT2 => ⟨T2, rfl, ⟨_, SqT.of upd_same⟩, ?_⟩⟩
        have hDk2 := Ext.upd (o := .tup [V.int p1.1, V.int (p1.1 + k)]) hT2 _ _ hDk
        have TD : T2 ≠ D := fun z => by rw [z] at hT2; rw [hDk] at hT2; cases hT2
        refine it_core (walk_tup (xs := [V.int p1.1, V.int (p1.1 + k)])) (fun m Hq => ExtBut D (upd H3 T2 (.tup [V.int p1.1, V.int (p1.1 + k)])) Hq ∧ ∃ ks2, Hq D = some (.dK (mkK ks2)) ∧ ks2.Nodup ∧ ks2.length ≤ 2 * j + m ∧ ∀ x, x ∈ ks2 ↔ x ∈ ks ∨ x ∈ [p1.1, p1.1 + k].take m) ⟨ExtBut.refl, ks, hDk2, nd, ln, fun x => by simp⟩ (fun m Hq _ z => SqT.of (z.1 _ _ TD upd_same)) ?_ ?_
        · rintro m y Hq H5 hm ⟨ebe, ks2, hDe, nd2, ln2, mem2⟩ ⟨rfl, hy⟩
          obtain ⟨z, hz', rfl⟩ : ∃ z, [p1.1, p1.1 + k][m]? = some z ∧ y = .int z := by
            have : ([p1.1, p1.1 + k].map V.int)[m]? = some y := hy
            rw [List.getElem?_map] at this
            obtain ⟨z, h1, h2⟩ := Option.map_eq_some_iff.mp this
            exact ⟨z, h1, h2.symm⟩
          refine ⟨rfl, ?_⟩
          have hm2 : m < 2 := hm
          refine ⟨_, rfl, mkK ks2, Sum.inl z, rfl, hDe, ?_, ?_⟩
          · unfold mkK
            rw [List.length_map]
            have h1 : j < cv.length := hj
            rw [hal.1] at h1
            have h2 := total_mem hcm
            exact big_line (by omega)
          · rw [mkK_put]
            refine ⟨ebe.put, addk ks2 z, upd_same, addk_nd nd2, by have := addk_len (ks := ks2) (m := z); omega, fun x => ?_⟩
            rw [addk_mem, mem2, take_succ' hz', List.mem_append, List.mem_singleton, or_assoc]
        · rintro Hq ⟨ebe, ks2, hDe, nd2, ln2, mem2⟩
          refine ⟨fun b o nb hb => ebe _ _ nb (Ext.upd hT2 _ _ (ebd _ _ nb hb)), ks2, hDe, nd2, by simp at ln2; omega, fun x => ?_⟩
          rw [mem2, mem, take_succ' hp1]
          constructor
          · rintro (⟨p, hp, h⟩ | h)
            · exact ⟨p, List.mem_append_left _ hp, h⟩
            · refine ⟨p1, List.mem_append_right _ List.mem_cons_self, ?_⟩
              simpa using h
          · rintro ⟨p, hp, h⟩
            rcases List.mem_append.mp hp with hp | hp
            · exact .inl ⟨p, hp, h⟩
            · rw [List.mem_singleton.mp hp] at h
              exact .inr (by simpa using h)
      · rintro Hd ⟨ebd, ks, hDk, nd, ln, mem⟩
        rw [hal.1, List.take_length] at mem
        rw [hal.1] at ln
        refine ⟨D, mkK ks, ks, rfl, .inl hDk, by unfold mkK; rw [List.map_map]; rfl, fun ms M hperm hso hM => ?_⟩
        have msn : ms.Nodup := hperm.nodup_iff.mpr nd
        have mss : ms.Pairwise (· < ·) := (hso.and msn).imp fun ⟨h1, h2⟩ => by omega
        have msm : ∀ m, m ∈ ms ↔ ∃ p ∈ c.2, m = p.1 ∨ m = p.1 + k := fun m => (hperm.mem_iff).trans (mem m)
        have msl : ms.length ≤ 2 * c.2.length := by rw [hperm.length_eq]; exact ln
        -- the heap from here on
        have nG2 : (upd Hc tt (.tup [kV (Sum.inl c.1 : Key), .ref (lm c.1)])) G ≠ none := by rw [f2.at_]; simp
        have GD : G ≠ D := ne_of_none f2.at_ hD
        have eE : Ext (upd Hc tt (.tup [kV (Sum.inl c.1 : Key), .ref (lm c.1)])) Hd := ExtBut.old (fun _ _ h => h) ebd hD
        have eM : Ext (upd Hc tt (.tup [kV (Sum.inl c.1 : Key), .ref (lm c.1)])) (upd Hd M (.lst (ms.map V.int))) := eE.trans (Ext.upd hM)
        have eb4 := eb2.ext eM
        have f4 := f2.ext eM
        have hcv4 := eM _ _ hcv2
        refine ⟨_, rfl, _, rfl, _, rfl, _, _, rfl, SqL.of upd_same, fun S hS => ?_⟩
        rw [cutV_tail]
        have MS : M ≠ S := ne_of_none upd_same hS
        have eS : Ext (upd Hd M (.lst (ms.map V.int))) (upd (upd Hd M (.lst (ms.map V.int))) S (.lst (ms.map V.int).tail)) := Ext.upd hS
        have f5 := f4.ext eS
        have eb5 := eb4.ext eS
        have hcv5 := eS _ _ hcv4
        have hM5 := eS _ _ upd_same
        have MG : M ≠ G := fun z => by rw [z] at hM; rw [eE _ _ f2.at_] at hM; cases hM
        have SG : S ≠ G := fun z => by rw [z] at hS; rw [f4.at_] at hS; cases hS
        refine ⟨_, _, ms.map V.int, (ms.map V.int).tail, rfl, SqL.of hM5, SqL.of upd_same, ?_⟩
        refine for_it (walk_zip (n := (ms.map V.int).tail.length) (by rw [List.length_tail]; omega)) (fun j σ Hq => ∃ v6 v7 v8 v9 v10 v11 v12 vs2 new, σ = [some (.ref a), some (.int k), some (.ref G), some (.int c.1), some (.ref (lm c.1)), some (.ref M), v6, v7, v8, v9, v10, v11, v12] ∧ ExtBut G (upd (upd Hd M (.lst (ms.map V.int))) S (.lst (ms.map V.int).tail)) Hq ∧ Fnd K Hq G e.mv k vs2 (ss ++ new) ∧ new.length ≤ j ∧ ∀ g ∈ new, g.r = c.1 ∧ ∀ m, ms[j]? = some m → g.b ≤ m)
          ⟨_, _, _, _, _, _, _, vs, [], rfl, ExtBut.refl, by rw [List.append_nil]; exact f5, Nat.le_refl _, fun g hg => (by cases hg)⟩ (fun j σ Hq _ ⟨_, _, _, _, _, _, _, _, _, _, ebe, _⟩ => ⟨SqL.of (ebe _ _ MG hM5), SqL.of (ebe _ _ SG upd_same)⟩) ?_ ?_
        · rintro j x σ Hq H6 hj ⟨v6, v7, v8, v9, v10, v11, v12, vs2, new, rfl, ebe, fe, hnl, hnr⟩ ⟨T, x1, y1, rfl, hT, rfl, q1, q2⟩
          have r1 : (ms.map V.int)[j]? = some x1 := q1
          have r2 : (ms.map V.int).tail[j]? = some y1 := q2
          rw [List.getElem?_tail, List.getElem?_map] at r2
          rw [List.getElem?_map] at r1
          obtain ⟨st, hst, rfl⟩ := Option.map_eq_some_iff.mp r1
          obtain ⟨en, hen, rfl⟩ := Option.map_eq_some_iff.mp r2
          obtain ⟨hlt, hnext⟩ := marks_next mss hst hen
          refine ⟨T, _, rfl, SqT.of upd_same, rfl, _, _, rfl, _, _, rfl, rfl, ?_⟩
          have ebT := ebe.ext (Ext.upd (o := .tup [V.int st, V.int en]) hT)
          have ebL : ExtBut G (upd H1 p (.frz od (.dK (kvC cs lm)))) (upd Hq T (.tup [V.int st, V.int en])) := fun b o nb hb => ebT _ _ nb (eb5 _ _ nb hb)
          have fT := fe.ext (Ext.upd (o := .tup [V.int st, V.int en]) hT)
          have hcvT := ebL _ _ nlG hcv
          refine ⟨_, rfl, _, rfl, ⟨_, SqL.of hcvT⟩, fun A2 hA2 => ?_⟩
          refine lc_it (walk_list (xs := cv)) (fun i Hf => ExtBut A2 (upd Hq T (.tup [V.int st, V.int en])) Hf ∧ ∃ av, Hf A2 = some (.lst av) ∧ All2 (PrAt (upd Hq T (.tup [V.int st, V.int en]))) av ((c.2.take i).filter fun p => decide (p.1 ≤ st) && decide (st < p.1 + k))) ⟨ExtBut.refl.put, [], upd_same, All2.nil⟩ (fun i Hf _ z => SqL.of (z.1 _ _ (ne_of_none hcvT hA2) hcvT)) ?_ ?_
          · rintro i2 x Hf H7 hi2 ⟨ebf, av, hav, haa⟩ ⟨rfl, hx⟩
            obtain ⟨p1, hp1, t1, rfl, ht1⟩ := hal.get hx
            have k0 := ebL _ _ (ne_of ht1 hG0 (by intro z; cases z)) ht1
            have k1 := ebf _ _ (ne_of_none k0 hA2) k0
            have no : (decide (p1.1 ≤ st) && decide (st < p1.1 + k)) = false → (c.2.take (i2 + 1)).filter (fun p => decide (p.1 ≤ st) && decide (st < p.1 + k)) = (c.2.take i2).filter (fun p => decide (p.1 ≤ st) && decide (st < p.1 + k)) := fun z => by
              rw [take_succ' hp1, List.filter_append]
              simp only [List.filter_cons, z, List.filter_nil]
              simp
            refine ⟨rfl, ?_⟩
            refine ⟨_, rfl, _, _, _, _, rfl, rfl, SqT.of k1, rfl, _, rfl, _, _, rfl, rfl, _, rfl, ?_⟩
            refine ifD (fun h1 => ?_) fun h1 => ?_
            · refine ⟨_, rfl, _, _, _, _, rfl, rfl, SqT.of k1, rfl, _, rfl, _, _, rfl, rfl, _, _, rfl, rfl, _, rfl, ?_⟩
              refine ifD (fun h2 => ?_) fun h2 => ?_
              · refine ⟨_, rfl, av, hav, ?_, ebf.put, _, upd_same, ?_⟩
                · rw [haa.1]
                  have h3 := List.length_filter_le (fun p : Int × Int => decide (p.1 ≤ st) && decide (st < p.1 + k)) (c.2.take i2)
                  rw [List.length_take] at h3
                  have h4 := total_mem hcm
                  exact big_line (by omega)
                · rw [take_succ' hp1, List.filter_append]
                  have : [p1].filter (fun p => decide (p.1 ≤ st) && decide (st < p.1 + k)) = [p1] := by
                    simp [List.filter_cons, show p1.1 ≤ st from h1, show st < p1.1 + k from h2]
                  rw [this]
                  exact haa.snoc ⟨t1, rfl, k0⟩
              · refine ⟨ebf, av, hav, ?_⟩
                rw [no (by rw [decide_eq_false (show ¬ st < p1.1 + k from h2), Bool.and_false])]
                exact haa
            · refine ⟨_, rfl, ifF ⟨ebf, av, hav, ?_⟩⟩
              rw [no (by rw [decide_eq_false (show ¬ p1.1 ≤ st from h1), Bool.false_and])]
              exact haa
          · rintro Hf ⟨ebf, av, hav, haa⟩
            rw [hal.1, List.take_length] at haa
            have GA : G ≠ A2 := ne_of_none fT.at_ hA2
            have eF : Ext (upd Hq T (.tup [V.int st, V.int en])) Hf := ExtBut.old (fun _ _ h => h) ebf hA2
            have eH : Ext H Hf := fun b o hb => eF _ _ (ExtBut.old hl ebL hG b o hb)
            have ebF : ExtBut G (upd (upd Hd M (.lst (ms.map V.int))) S (.lst (ms.map V.int).tail)) Hf := ebT.ext eF
            have fF := fT.ext eF
            have hst2 := (msm st).mp (List.mem_of_getElem? hst)
            have hen2 := (msm en).mp (List.mem_of_getElem? hen)
            have bdd : ∀ m, (∃ p ∈ c.2, m = p.1 ∨ m = p.1 + k) → m.natAbs ≤ 2000 := fun m ⟨p, hp, h⟩ => by
              obtain ⟨m1, m2, m3⟩ := (C.mem p).mp hp
              have b1 := hbd.1 p.2 m1
              have b2 := fdiv_bd p.2 e.mv
              rw [m3] at b2
              rcases h with h | h <;> omega
            -- the heap behind the comparison
            have stepNo : ∀ Hg, Ext Hf Hg → ∃ vs2 new', ExtBut G (upd (upd Hd M (.lst (ms.map V.int))) S (.lst (ms.map V.int).tail)) Hg ∧ Fnd K Hg G e.mv k vs2 (ss ++ new') ∧ new'.length ≤ j + 1 ∧ ∀ g ∈ new', g.r = c.1 ∧ ∀ m, ms[j + 1]? = some m → g.b ≤ m := fun Hg eg =>
              ⟨vs2, new, ebF.ext eg, fF.ext eg, by omega, fun g hg => ⟨(hnr g hg).1, fun m hm => by
                have h1 := (hnr g hg).2 st hst
                rw [hen] at hm
                cases hm
                omega⟩⟩
            refine ⟨_, rfl, (by show 0 ≤ sizeLine; decide), fun N hN => ⟨_, _, _, rfl, rfl, Ext.upd hN _ _ hav, upd_same, _, rfl, ?_⟩⟩
            refine ifND (fun ne => ?_) fun eq => ?_
            · have hne : c.2.filter (fun p => decide (p.1 ≤ st) && decide (st < p.1 + k)) ≠ [] := fun z => by
                have h1 := haa.1
                rw [z] at h1
                exact ne (List.length_eq_zero_iff.mp h1)
              have eN : Ext Hf (upd Hf N (.lst [])) := Ext.upd hN
              have fN := fF.ext eN
              refine ⟨_, rfl, .inl ⟨rfl, _, SqL.of fN.at_⟩, _, rfl, _, rfl, _, rfl, _, rfl, (by show 2 ≤ sizeLine; decide), fun B hB2 => ?_⟩
              have eB := eN.trans (Ext.upd (o := .tup [V.int st, V.int en]) hB2)
              refine ⟨_, rfl, fun y dy ny ndy nye => ?_⟩
              have em := made_ext (C := _root_.He.ga K "Segment") ny ndy ExtBut.refl
              have eY := eB.trans em
              refine ⟨y, dy, a, B, A2, c.1, st, en, e, n, _, rfl, upd_same, (he.ext eH).ext eY, em _ _ upd_same, ⟨av, eY _ _ hav, haa.mono fun _ _ z => (z.ext eF).ext eY⟩, hne, fun p hp => ((C.mem p).mp (List.mem_filter.mp hp).1).1, fun H9 g ebg sg gr ga gb gl gn => ⟨rfl, ?_⟩⟩
              have e9 := eB.trans (made_ext ny ndy ebg)
              have f9 := fF.ext e9
              obtain ⟨pm, hpm⟩ := List.exists_mem_of_ne_nil _ hne
              obtain ⟨pm1, pm2⟩ := List.mem_filter.mp hpm
              have pm3 : pm.1 ≤ st ∧ st < pm.1 + k := by simpa using pm2
              have hle := hnext (pm.1 + k) ((msm _).mpr ⟨pm, pm1, .inr rfl⟩) pm3.2
              have okg : SgOk e.mv k g := by
                refine ⟨?_, by omega, by omega, gl, gn, by rw [ga]; exact bdd st hst2, by rw [gb]; exact bdd en hen2⟩
                rw [gr]
                have := ((C.mem pm).mp pm1).2.1
                rw [← this, Int.fmod_fmod]
              have apg : ∀ h ∈ ss ++ new, Apart h g := fun h hh => by
                rcases List.mem_append.mp hh with hh | hh
                · refine .inl fun z => ?_
                  have h1 := hsr h hh
                  rw [z, gr] at h1
                  obtain ⟨d, hd, ed⟩ := List.mem_map.mp h1
                  obtain ⟨i2, hi2⟩ := List.getElem?_of_mem hd
                  have hi3 : i2 < i := by
                    obtain ⟨w1, _⟩ := List.getElem?_eq_some_iff.mp hi2
                    rw [List.length_take] at w1
                    omega
                  rw [List.getElem?_take, if_pos hi3] at hi2
                  have n1 : (cs.map (·.1))[i2]? = some c.1 := by
                    rw [List.getElem?_map, hi2]
                    exact congrArg some ed
                  have n2 : (cs.map (·.1))[i]? = some c.1 := by
                    rw [List.getElem?_map, hc]
                    rfl
                  obtain ⟨w1, v1⟩ := List.getElem?_eq_some_iff.mp n1
                  obtain ⟨w2, v2⟩ := List.getElem?_eq_some_iff.mp n2
                  have := (List.getElem_inj hC.nd).mp (v1.trans v2.symm)
                  omega
                · refine .inr ?_
                  rw [ga]
                  exact (hnr h hh).2 st hst
              have f10 := f9.add sg okg apg
              refine ⟨G, vs2, _, rfl, rfl, f9.at_, ?_, _, _, _, _, _, _, _, vs2 ++ [.ref y], new ++ [g], rfl, (ebF.ext e9).put, by rw [← List.append_assoc]; exact f10, ?_, ?_⟩
              · rw [f9.al.1, List.length_append]
                have h1 := total_take cs i
                have h2 : (ms.map V.int).tail.length ≤ ms.length := by rw [List.length_tail, List.length_map]; omega
                have h3 := total_mem hcm
                exact big_line (by omega)
              · rw [List.length_append]
                show new.length + 1 ≤ j + 1
                omega
              · intro g' hg'
                rcases List.mem_append.mp hg' with hg' | hg'
                · refine ⟨(hnr g' hg').1, fun m hm => ?_⟩
                  have h1 := (hnr g' hg').2 st hst
                  rw [hen] at hm
                  cases hm
                  omega
                · rw [List.mem_singleton.mp hg']
                  refine ⟨gr, fun m hm => ?_⟩
                  rw [hen] at hm
                  cases hm
                  omega
            · obtain ⟨vs3, new3, h1, h2, h3, h4⟩ := stepNo _ (Ext.upd hN)
              exact ⟨_, _, _, _, _, _, _, vs3, new3, rfl, h1, h2, h3, h4⟩
        · rintro σ Hq ⟨v6, v7, v8, v9, v10, v11, v12, vs2, new, rfl, ebe, fe, hnl, hnr⟩
          refine ⟨_, _, _, _, _, _, _, _, _, _, vs2, ss ++ new, rfl, fun b o nb hb => ebe _ _ nb (eb5 _ _ nb hb), fe, ?_, ?_⟩
          · rw [List.length_append, take_succ' hc, total_append, total_cons]
            have h1 : (ms.map V.int).tail.length ≤ ms.length := by rw [List.length_tail, List.length_map]; omega
            show ss.length + new.length ≤ 2 * (total (cs.take i) + (c.2.length + 0))
            omega
          · intro g hg
            rw [take_succ' hc, List.map_append]
            rcases List.mem_append.mp hg with hg | hg
            · exact List.mem_append_left _ (hsr g hg)
            · rw [(hnr g hg).1]
              exact List.mem_append_right _ (by simp)
    · rintro σ Hc ⟨v3, v4, v5, v6, v7, v8, v9, v10, v11, v12, vs, ss, rfl, eb, f, hsl, hsr⟩
      rw [kvC_length, List.take_length] at hsl
      exact ⟨_, rfl, q G vs ss Hc (ExtBut.old hl eb hG) f (by omega) hG⟩
end
end Tp
/-! part K11 -/
set_option Elab.async false
set_option linter.all false
set_option maxRecDepth 100000
set_option maxHeartbeats 4000000
/-! the defs, part 11: powers -/
namespace Tp
open PySem PySem.Spec PyProof.Rows L2
def pF (b : Addr) (k : Int) : List (Str × V) := [("base", .ref b), ("times", .int k)]
theorem pF_1 (b : Addr) (k : Int) : (pF b k).lookup ("base" : Str) = some (.ref b) := by rfl
theorem pF_2 (b : Addr) (k : Int) : (pF b k).lookup ("times" : Str) = some (.int k) := by rfl
theorem pF_3 (b : Addr) (k : Int) : (pF b k).lookup ("letters_at" : Str) = none := by rfl
theorem pF_4 (b : Addr) (k : Int) : (pF b k).lookup ("groups" : Str) = none := by rfl
theorem pF_5 (b : Addr) (k : Int) : (pF b k).lookup ("touched_count" : Str) = none := by rfl
/-- a power's object: its base an effect, how often -/
def BpAt (K : PySem.W.Frag) (H : Hp) (x b : Addr) (k : Int) (e : Eff) (n : Nat) : Prop := (∃ dx, H x = some (.ins (He.ga K "BigPower") dx (pF b k))) ∧ EffAt K H b e n
theorem BpAt.ext {K : PySem.W.Frag} {H H' : Hp} {x b : Addr} {k : Int} {e : Eff} {n : Nat} (h : BpAt K H x b k e n) (x' : Ext H H') : BpAt K H' x b k e n := ⟨let ⟨dx, a⟩ := h.1; ⟨dx, x' _ _ a⟩, h.2.ext x'⟩
def GrV (H : Hp) (v : V) (c : Int) : Prop := ∃ t v2 v3, v = .ref t ∧ H t = some (.tup [.int c, v2, v3])
theorem GrV.ext {H H' : Hp} {v : V} {c : Int} (h : GrV H v c) (e : Ext H H') : GrV H' v c := let ⟨t, a, b, x, y⟩ := h; ⟨t, a, b, x, e _ _ y⟩
theorem sum_le {l : List Int} {m : Int} (h : ∀ x ∈ l, x ≤ m) : l.sum ≤ l.length * m := by
  induction l with
  | nil => simp
  | cons x r ih =>
    rw [List.sum_cons, List.length_cons]
    have h1 := h x List.mem_cons_self
    have h2 := ih fun y hy => h y (List.mem_cons_of_mem _ hy)
    have : ((r.length + 1 : Nat) : Int) * m = r.length * m + m := by
      rw [Int.natCast_add, Int.add_mul]
      simp
    omega
/-- all but what stands at d1 and d2 -/
def Ext2 (d1 d2 : Addr) (H H' : Hp) : Prop := ∀ b o, b ≠ d1 → b ≠ d2 → H b = some o → H' b = some o
theorem Ext2.refl {d1 d2 : Addr} {H : Hp} : Ext2 d1 d2 H H := fun _ _ _ _ h => h
theorem Ext2.ext {d1 d2 : Addr} {H H1 H2 : Hp} (a : Ext2 d1 d2 H H1) (b : Ext H1 H2) : Ext2 d1 d2 H H2 := fun c o n1 n2 h => b c o (a c o n1 n2 h)
theorem Ext2.put1 {d1 d2 : Addr} {H H1 : Hp} {o : HO} (a : Ext2 d1 d2 H H1) : Ext2 d1 d2 H (upd H1 d1 o) := fun c o' n1 n2 h => by rw [upd_ne n1]; exact a c o' n1 n2 h
theorem Ext2.put2 {d1 d2 : Addr} {H H1 : Hp} {o : HO} (a : Ext2 d1 d2 H H1) : Ext2 d1 d2 H (upd H1 d2 o) := fun c o' n1 n2 h => by rw [upd_ne n2]; exact a c o' n1 n2 h
theorem Ext2.old {d1 d2 : Addr} {H H1 H2 : Hp} (e : Ext H H1) (b : Ext2 d1 d2 H1 H2) (n1 : H d1 = none) (n2 : H d2 = none) : Ext H H2 := fun c o h => b c o (ne_of_none h n1) (ne_of_none h n2) (e c o h)
/-- the two dicts of a power as they grow -/
structure Two (H : Hp) (d1 d2 : Addr) (E C : PF) (m : Nat) : Prop where
  dE : DAt H d1 E m
  dC : DAt H d2 C m
  nm : ∀ i z, C i = some z → E i ≠ some z
theorem Two.le {H : Hp} {d1 d2 : Addr} {E C : PF} {m m' : Nat} (t : Two H d1 d2 E C m) (h : m ≤ m') : Two H d1 d2 E C m' := ⟨t.dE.le h, t.dC.le h, t.nm⟩
theorem setF_at {f : PF} {i : Int} {z : Str} : setF f i z i = some z := if_pos rfl
theorem nm_step {E C E' C' : PF} {o : Int} (nm : ∀ i z, C i = some z → E i ≠ some z) (hE : ∀ j, j ≠ o → E' j = E j) (hC : ∀ j, j ≠ o → C' j = C j) (h : ∀ y, C' o = some y → E' o ≠ some y) : ∀ i z, C' i = some z → E' i ≠ some z := fun i z hz => by
  by_cases e : i = o
  · subst e
    exact h z hz
  · rw [hE i e]
    rw [hC i e] at hz
    exact nm i z hz
theorem Two.ext {H H' : Hp} {d1 d2 : Addr} {E C : PF} {m : Nat} (t : Two H d1 d2 E C m) (e : Ext H H') : Two H' d1 d2 E C m := ⟨t.dE.ext e, t.dC.ext e, t.nm⟩
section
variable {P : Program} {w : World} {K : PySem.W.Frag} {mg : Str → Option Value} {base : Heap}
def sp_BigPower_init (K : PySem.W.Frag) : Sp := fun vs H Q _ => ∃ (x dx a : Addr) (k : Int) (e : Eff) (n : Nat), vs = [.ref x, .ref a, .int k] ∧ H x = some (.ins (He.ga K "BigPower") dx []) ∧ EffAt K H a e n ∧ n + n ≤ 1000 ∧ e.mv.natAbs ≤ 1000 ∧ 0 ≤ k ∧ e.flB k = false ∧ (k = 0 → e = Eff.one) ∧
  ∀ H' b, ExtBut x H H' → BpAt K H' x b k e n → Q .non H'
theorem sc_BigPower_init : FnScope ["self", "effect", "exponent"] ["self", "effect", "exponent"] (defScope s_BigPower_init) := ⟨rfl, rfl, rfl, by decide +kernel, rfl, by decide +kernel, by decide +kernel⟩
theorem k_BigPower_init (T : Txt K mg) : FnR P w K mg base CX0 7 (He.ma K (He.ga K "BigPower") "__init__") (sp_BigPower_init K) := by
  obtain ⟨fd, F⟩ := T.f_BigPower_init
  refine (fun (G : FnOk P w K mg base CX0 7 _ fd _ (sp_BigPower_init K)) => ?_) (F.ok sc_BigPower_init (fun vs H Q E h => by obtain ⟨_, _, _, _, _, _, rfl, _⟩ := h; rfl) (fun cdv A outer s H vs Q E hr h => ?_))
  · exact (G.raw (F.bindsN fun _ _ _ _ _ _ us hl => match us, hl with | [_, _, _], _ => rfl) .nil).imp fun vs H Q E h => by rw [List.append_nil]; exact h
  · have hu := hu_of hr
    have hu0 : (A.deeper (envOfC _ _ s.heap.objs.size _ cdv)).units < cLine := Nat.lt_of_succ_lt hu
    refine ⟨_, PSs.nox (pss_cons (ps_expr (pe_cR (k_check_count T) (hr.mono (by decide)) (by rfl) T.g_check_count T.kp_check_count pass0 (pa_cons (pv 2) pa_nil)))
  (pss_cons (ps_if (pt_val (pe_cR (k_fails T) (hr.mono (by decide)) (by rfl) T.g_fails T.kp_fails pass0 (pa_cons (pv 1) (pa_cons (pv 2) pa_nil)))) pss_never pss_nil)
  (pss_cons (ps_fld (pv 0) (pe_ifExp (pt_cmpR op_gt (pv 2) pe_int (nomark _)) (pv 1) (pe_cmeth0 (pe_glob (v := .ref (He.ga _ "Effect")) (by rfl) T.g_Effect rfl) T.rd_Effect T.cm_Effect (k_Effect_identity T) (hr.mono (by decide)) pass0)) rfl)
  (pss_one (ps_fld (pv 0) (pv 2) rfl))))), ?_⟩
    obtain ⟨x, dx, a, k, e, n, rfl, hx, he, hn, hm, hk, hf, h0, q⟩ := h
    have hB : BIG = 1000000 := rfl
    obtain ⟨dxe, dn, dp, mn, mp, ha, _⟩ := id he
    have xa : a ≠ x := ins_ne ha hx (by intro z; cases z)
    refine ⟨_, rfl, k, rfl, hk, ?_⟩
    refine ⟨_, rfl, _, rfl, a, k, e, n, rfl, he, by omega, by omega, fun H1 e1 => ?_⟩
    rw [hf]
    refine ⟨false, rfl, ifF ?_⟩
    refine ⟨_, rfl, _, _, rfl, rfl, _, rfl, ?_⟩
    refine ifD (fun c => ?_) fun c => ?_
    · have hx1 := e1 _ _ hx
      refine ⟨_, rfl, _, rfl, x, _, dx, _, rfl, hx1, T.c_BigPower, T.a_BigPower_base, (by show 0 < 1000; decide), ?_⟩
      refine ⟨_, rfl, _, rfl, x, _, dx, _, rfl, upd_same, T.c_BigPower, T.a_BigPower_times, (by show 1 < 1000; decide), ?_⟩
      rw [upd_upd]
      have b1 : ExtBut x H H1 := ExtBut.refl.ext e1
      refine q _ a b1.put ⟨⟨dx, upd_same⟩, ?_⟩
      exact he.but b1.put hx
    · have hk0 : k = 0 := by omega
      refine ⟨rfl, rfl, fun p H2 e2 hp np => ?_⟩
      have hx2 := e2 _ _ (e1 _ _ hx)
      refine ⟨_, rfl, x, _, dx, _, rfl, hx2, T.c_BigPower, T.a_BigPower_base, (by show 0 < 1000; decide), ?_⟩
      refine ⟨_, rfl, _, rfl, x, _, dx, _, rfl, upd_same, T.c_BigPower, T.a_BigPower_times, (by show 1 < 1000; decide), ?_⟩
      rw [upd_upd]
      have b1 : ExtBut x H H2 := (ExtBut.refl.ext e1).ext e2
      refine q _ p b1.put ⟨⟨dx, upd_same⟩, ?_⟩
      rw [h0 hk0]
      exact (hp.but ExtBut.refl.put hx2).le (Nat.zero_le _)
def sp_BigPower_shift (K : PySem.W.Frag) : Sp := fun vs H Q _ => ∃ (x b : Addr) (k : Int) (e : Eff) (n : Nat), vs = [.ref x] ∧ BpAt K H x b k e n ∧ e.mv.natAbs ≤ 1000 ∧ Q (.int (e.mv * k)) H
theorem sc_BigPower_shift : FnScope ["self"] ["self"] (defScope s_BigPower_shift) := ⟨rfl, rfl, rfl, by decide +kernel, rfl, by decide +kernel, by decide +kernel⟩
theorem k_BigPower_shift (T : Txt K mg) : FnR P w K mg base CX0 3 (gFn K "BigPower" "shift") (sp_BigPower_shift K) := by
  obtain ⟨fd, F⟩ := T.f_BigPower_shift
  refine (fun (G : FnOk P w K mg base CX0 3 _ fd _ (sp_BigPower_shift K)) => ?_) (F.ok sc_BigPower_shift (fun vs H Q E h => by obtain ⟨_, _, _, _, _, rfl, _⟩ := h; rfl) (fun cdv A outer s H vs Q E hr h => ?_))
  · exact (G.raw (F.bindsN fun _ _ _ _ _ _ us hl => match us, hl with | [_], _ => rfl) .nil).imp fun vs H Q E h => by rw [List.append_nil]; exact h
  · have hu := hu_of hr
    have hu0 : (A.deeper (envOfC _ _ s.heap.objs.size _ cdv)).units < cLine := Nat.lt_of_succ_lt hu
    refine ⟨_, PSs.nox (pss_one (ps_ret (pe_op op_mul (pe_propR (pe_fld (pv 0) rfl) T.c_Effect T.p_Effect_shift (k_Effect_shift T) (hr.mono (by decide)) pass0) (pe_fld (pv 0) rfl)))), ?_⟩
    obtain ⟨x, b, k, e, n, rfl, ⟨⟨dx, hx⟩, he⟩, hm, q⟩ := h
    obtain ⟨dxe, dn, dp, mn, mp, ha, _⟩ := id he
    refine ⟨_, rfl, x, _, dx, _, _, rfl, hx, T.c_BigPower, T.a_BigPower_base, pF_1 _ _, b, dxe, _, rfl, ha, b, e, n, rfl, he, ?_⟩
    refine ⟨_, rfl, x, _, dx, _, _, rfl, hx, T.c_BigPower, T.a_BigPower_times, pF_2 _ _, ?_⟩
    exact ⟨_, _, rfl, rfl, .inl ⟨by omega, by omega⟩, q⟩
def sp_BigPower_letters_at (K : PySem.W.Frag) : Sp := fun vs H Q _ => ∃ (x b : Addr) (k o : Int) (e : Eff) (n : Nat), vs = [.ref x, .int o] ∧ BpAt K H x b k e n ∧ e.mv = 0 ∧
  ∀ p v1 v2 H', Ext H H' → H' p = some (.tup [v1, v2]) → H p = none → Q (.ref p) H'
theorem sc_BigPower_letters_at : FnScope ["self", "offset", "needed", "quotient", "remainder", "chain", "active", "part"] ["self", "offset"] (defScope s_BigPower_letters_at) := ⟨rfl, rfl, rfl, by decide +kernel, rfl, by decide +kernel, by decide +kernel⟩
theorem k_BigPower_letters_at (T : Txt K mg) : FnR P w K mg base CX0 4 (He.ma K (He.ga K "BigPower") "letters_at") (sp_BigPower_letters_at K) := by
  obtain ⟨fd, F⟩ := T.f_BigPower_letters_at
  refine (fun (G : FnOk P w K mg base CX0 4 _ fd _ (sp_BigPower_letters_at K)) => ?_) (F.ok sc_BigPower_letters_at (fun vs H Q E h => by obtain ⟨_, _, _, _, _, _, rfl, _⟩ := h; rfl) (fun cdv A outer s H vs Q E hr h => ?_))
  · exact (G.raw (F.bindsN fun _ _ _ _ _ _ us hl => match us, hl with | [_, _], _ => rfl) .nil).imp fun vs H Q E h => by rw [List.append_nil]; exact h
  · have hu := hu_of hr
    have hu0 : (A.deeper (envOfC _ _ s.heap.objs.size _ cdv)).units < cLine := Nat.lt_of_succ_lt hu
    refine ⟨_, PSs.nox (pss_cons (ps_expr (pe_cR (k_check_integer T) (hr.mono (by decide)) (by rfl) T.g_check_integer T.kp_check_integer pass0 (pa_cons (pv 1) pa_nil)))
  (pss_cons (ps_if (pt_cmpR op_eq (pe_propR (pe_fld (pv 0) rfl) T.c_Effect T.p_Effect_shift (k_Effect_shift T) (hr.mono (by decide)) pass0) pe_int (nomark _)) (pss_cons (ps_set (i := 2) sc_BigPower_letters_at.nd rfl (Or.inl rfl) (pe_dget1 hu (pe_propR (pe_fld (pv 0) rfl) T.c_Effect T.p_Effect_expected (k_Effect_expected T) (hr.mono (by decide)) pass0) (pv 1) ⟨rfl, rfl, rfl, rfl⟩))
  (pss_one (ps_ret (pe_tup (pa_cons (pv 2) (pa_cons (pe_dget2 hu (pe_propR (pe_fld (pv 0) rfl) T.c_Effect T.p_Effect_changed (k_Effect_changed T) (hr.mono (by decide)) pass0) (pv 1) (pv 2) ⟨rfl, rfl, rfl, rfl⟩) pa_nil)))))) pss_nil)
  pss_never)), ?_⟩
    obtain ⟨x, b, k, o, e, n, rfl, ⟨⟨dx, hx⟩, he⟩, hm, q⟩ := h
    obtain ⟨dxe, dn, dp, mn, mp, ha, _⟩ := id he
    refine ⟨_, rfl, o, rfl, ?_⟩
    refine ⟨_, rfl, x, _, dx, _, _, rfl, hx, T.c_BigPower, T.a_BigPower_base, pF_1 _ _, b, dxe, _, rfl, ha, b, e, n, rfl, he, rfl, _, rfl, ?_⟩
    refine ifD (fun _ => ?_) fun c => absurd (by rw [hm]) c
    refine ⟨_, rfl, x, _, dx, _, _, rfl, hx, T.c_BigPower, T.a_BigPower_base, pF_1 _ _, b, dxe, _, rfl, ha, b, e, n, rfl, he, fun p1 m1 dm1 lm1 np1 => ?_⟩
    have e1 : Ext H (upd H p1 (.dK (tk m1))) := Ext.upd np1
    refine ⟨p1, rfl, .inl ⟨_, .inl upd_same⟩, _, rfl, _, dget_dct upd_same dm1 o, ?_⟩
    refine ⟨_, rfl, _, rfl, x, _, dx, _, _, rfl, e1 _ _ hx, T.c_BigPower, T.a_BigPower_base, pF_1 _ _, b, dxe, _, rfl, e1 _ _ ha, b, e, n, rfl, he.ext e1, fun p2 m2 dm2 lm2 np2 => ?_⟩
    have e2 := e1.trans (Ext.upd (o := .dK (tk m2)) np2)
    refine ⟨p2, rfl, .inl ⟨_, .inl upd_same⟩, _, rfl, _, rfl, _, dget_dct upd_same dm2 o, (by show 2 ≤ sizeLine; decide), fun p3 np3 => ?_⟩
    exact q p3 _ _ _ (e2.trans (Ext.upd np3)) upd_same (e2.none np3)
def sp_BigPower_groups (K : PySem.W.Frag) : Sp := fun vs H Q _ => ∃ (x b : Addr) (k : Int) (e : Eff) (n : Nat), vs = [.ref x] ∧ BpAt K H x b k e n ∧ n + n ≤ 1000 ∧ e.Bd 1000 ∧ 0 ≤ k ∧ k ≤ 3 ∧
  ∀ p vs gs H', Ext H H' → H' p = some (.lst vs) → All2 (GrV H') vs gs → (∀ c ∈ gs, c ≤ 3) → gs.length ≤ 2 * (n + n) → H p = none → Q (.ref p) H'
theorem sc_BigPower_groups : FnScope ["self", "offset", "segment"] ["self"] (defScope s_BigPower_groups) := ⟨rfl, rfl, rfl, by decide +kernel, rfl, by decide +kernel, by decide +kernel⟩
theorem k_BigPower_groups (T : Txt K mg) : FnR P w K mg base CX0 7 (He.ma K (He.ga K "BigPower") "groups") (sp_BigPower_groups K) := by
  obtain ⟨fd, F⟩ := T.f_BigPower_groups
  refine (fun (G : FnOk P w K mg base CX0 7 _ fd _ (sp_BigPower_groups K)) => ?_) (F.ok sc_BigPower_groups (fun vs H Q E h => by obtain ⟨_, _, _, _, _, rfl, _⟩ := h; rfl) (fun cdv A outer s H vs Q E hr h => ?_))
  · exact (G.raw (F.bindsN fun _ _ _ _ _ _ us hl => match us, hl with | [_], _ => rfl) .nil).imp fun vs H Q E h => by rw [List.append_nil]; exact h
  · have hu := hu_of hr
    have hu0 : (A.deeper (envOfC _ _ s.heap.objs.size _ cdv)).units < cLine := Nat.lt_of_succ_lt hu
    refine ⟨_, PSs.nox (pss_cons (ps_if (pt_cmpR op_eq (pe_propR (pe_fld (pv 0) rfl) T.c_Effect T.p_Effect_shift (k_Effect_shift T) (hr.mono (by decide)) pass0) pe_int (nomark _)) (pss_one (ps_ret (pe_lc (own := [("offset", 1)]) (g := (gName 1)) rfl sc_BigPower_groups.nd (pi_list (pe_mR0 (pe_fld (pv 0) rfl) T.c_Effect T.m_Effect_touched (k_Effect_touched T) (hr.mono (by decide)) pass0)) (blkOk_by (own := [("offset", 1)]) (N := ["self", "offset", "segment"]) (sc := defScope s_BigPower_groups) (by decide +kernel)) (fun _ _ _ _ _ => (pg_name (i := 1) sc_BigPower_groups.nd rfl (Or.inl rfl))) (fun _ _ _ _ _ => pts_nil) (fun _ _ _ _ _ => (pe_tup (pa_cons pe_int (pa_starK (K := K) (pe_methR (pv 0) T.c_BigPower T.m_BigPower_letters_at (k_BigPower_letters_at T) (hr.mono (by decide)) pass0 (pa_cons (pv 1) pa_nil)) pa_nil))))))) pss_nil)
  (pss_one (ps_ret (pe_lc (own := [("segment", 2)]) (g := (gName 2)) rfl sc_BigPower_groups.nd (pi_list (pe_cR (k_segments T) (hr.mono (by decide)) (by rfl) T.g_segments T.kp_segments pass0 (pa_cons (pe_fld (pv 0) rfl) (pa_cons (pe_fld (pv 0) rfl) pa_nil)))) (blkOk_by (own := [("segment", 2)]) (N := ["self", "offset", "segment"]) (sc := defScope s_BigPower_groups) (by decide +kernel)) (fun _ _ _ _ _ => (pg_name (i := 2) sc_BigPower_groups.nd rfl (Or.inl rfl))) (fun _ _ _ _ _ => pts_nil) (fun _ _ _ _ _ => (pe_tup (pa_cons (pe_mR0 (pv 2) T.c_Segment T.m_Segment_size (k_Segment_size T) (hr.mono (by decide)) pass0) (pa_cons (pe_fldK (K := K) (pv 2)) (pa_cons (pe_fldK (K := K) (pv 2)) pa_nil))))))))), ?_⟩
    obtain ⟨x, b, k, e, n, rfl, hx0, hn, hbd, hk0, hk3, q⟩ := h
    have hB : BIG = 1000000 := rfl
    obtain ⟨⟨dx, hx⟩, he⟩ := id hx0
    obtain ⟨dxe, dn, dp, mn, mp, ha, _⟩ := id he
    refine ⟨_, rfl, x, _, dx, _, _, rfl, hx, T.c_BigPower, T.a_BigPower_base, pF_1 _ _, b, dxe, _, rfl, ha, b, e, n, rfl, he, rfl, _, rfl, ?_⟩
    refine ifD (fun c => ?_) fun c => ?_
    · have hz : e.mv = 0 := by injection c
      refine ⟨_, rfl, x, _, dx, _, _, rfl, hx, T.c_BigPower, T.a_BigPower_base, pF_1 _ _, b, dxe, _, rfl, ha, eF_4 _ _ _, b, e, n, rfl, he, by omega, fun l ts H1 e1 ht hlen hl nl => ?_⟩
      refine ⟨l, rfl, ⟨_, SqL.of hl⟩, fun D hD => ?_⟩
      refine lc_it (walk_list (xs := ts.map V.int)) (fun i Hc => ExtBut D H1 Hc ∧ ∃ vs, Hc D = some (.lst vs) ∧ All2 (GrV Hc) vs (List.replicate i 1)) ⟨ExtBut.refl.put, [], upd_same, All2.nil⟩ (fun i Hc _ z => SqL.of (z.1 _ _ (ne_of_none hl hD) hl)) ?_ ?_
      · rintro i y Hc H2 hi ⟨eb, vs, hDv, hal⟩ ⟨rfl, hy⟩
        rw [List.getElem?_map] at hy
        obtain ⟨o, ho, rfl⟩ := Option.map_eq_some_iff.mp hy
        have eH : Ext H H2 := ExtBut.old e1 eb (e1.none hD)
        refine ⟨rfl, ?_⟩
        refine ⟨_, rfl, x, dx, _, rfl, eH _ _ hx, pF_3 _ _, _, rfl, x, b, k, o, e, n, rfl, hx0.ext eH, hz, fun p v1 v2 H3 e3 hp np => ?_⟩
        refine ⟨p, [v1, v2], rfl, .inl (SqT.of hp), (by show 3 ≤ sizeLine; decide), fun T2 hT2 => ?_⟩
        have e4 := e3.trans (Ext.upd (o := .tup [.int 1, v1, v2]) hT2)
        have hD4 := e4 _ _ hDv
        refine ⟨vs, hD4, ?_, (eb.ext e4).put, vs ++ [.ref T2], upd_same, ?_⟩
        · rw [hal.1, List.length_replicate]
          rw [List.length_map] at hi
          exact big_line (by omega)
        · rw [List.replicate_succ']
          have keep : ∀ v c, GrV (upd H3 T2 (.tup [.int 1, v1, v2])) v c → GrV (upd (upd H3 T2 (.tup [.int 1, v1, v2])) D (.lst (vs ++ [.ref T2]))) v c := by
            rintro v c ⟨t, a1, a2, rfl, h1⟩
            exact ⟨t, a1, a2, rfl, by rw [upd_ne (ne_of h1 hD4 (by intro z; cases z))]; exact h1⟩
          exact (hal.mono fun _ _ z => keep _ _ (z.ext e4)).snoc (keep _ _ ⟨T2, v1, v2, rfl, upd_same⟩)
      · rintro Hc ⟨eb, vs, hDv, hal⟩
        rw [List.length_map] at hal
        refine q D vs _ Hc (ExtBut.old e1 eb (e1.none hD)) hDv hal (fun c hc => ?_) ?_ (e1.none hD)
        · rw [(List.mem_replicate.mp hc).2]
          decide
        · rw [List.length_replicate]
          omega
    · have hz : e.mv ≠ 0 := fun z => c (by rw [z])
      refine ⟨_, rfl, x, _, dx, _, _, rfl, hx, T.c_BigPower, T.a_BigPower_base, pF_1 _ _, _, rfl, x, _, dx, _, _, rfl, hx, T.c_BigPower, T.a_BigPower_times, pF_2 _ _, b, k, e, n, rfl, he, hn, hz, hbd, hk0, hk3, fun l sv ss H1 e1 f hlen nl => ?_⟩
      refine ⟨l, rfl, ⟨_, SqL.of f.at_⟩, fun D hD => ?_⟩
      have hl := f.at_
      refine lc_it (walk_list (xs := sv)) (fun i Hc => ExtBut D H1 Hc ∧ ∃ vs, Hc D = some (.lst vs) ∧ All2 (GrV Hc) vs ((ss.take i).map fun g => g.b - g.a)) ⟨ExtBut.refl.put, [], upd_same, All2.nil⟩ (fun i Hc _ z => SqL.of (z.1 _ _ (ne_of_none hl hD) hl)) ?_ ?_
      · rintro i y Hc H2 hi ⟨eb, vs, hDv, hal⟩ ⟨rfl, hy⟩
        obtain ⟨g, hg, s1, rfl, hs1⟩ := f.al.get hy
        obtain ⟨dxs, tb, hs2, hs3⟩ := id hs1
        have k2 := eb _ _ (ne_of_none hs2 hD) hs2
        have k3 := eb _ _ (ne_of_none hs3 hD) hs3
        refine ⟨rfl, ?_⟩
        refine ⟨_, rfl, s1, dxs, _, rfl, k2, sF_s _ _ _ _ _, s1, e.mv, g, rfl, ⟨dxs, tb, k2, k3⟩, _, rfl, s1, _, dxs, _, _, rfl, k2, T.c_Segment, T.a_Segment_needed, sF_4 _ _ _ _ _, _, rfl, s1, _, dxs, _, _, rfl, k2, T.c_Segment, T.a_Segment_left, sF_5 _ _ _ _ _, (by show 3 ≤ sizeLine; decide), fun T2 hT2 => ?_⟩
        have e4 : Ext H2 (upd H2 T2 (.tup [.int (g.b - g.a), ndV g.nd, .str g.lf])) := Ext.upd hT2
        have hD4 := e4 _ _ hDv
        refine ⟨vs, hD4, ?_, (eb.ext e4).put, vs ++ [.ref T2], upd_same, ?_⟩
        · rw [hal.1, List.length_map, List.length_take]
          exact big_line (by omega)
        · rw [take_succ' hg, List.map_append]
          have keep : ∀ v c, GrV (upd H2 T2 (.tup [.int (g.b - g.a), ndV g.nd, .str g.lf])) v c → GrV (upd (upd H2 T2 (.tup [.int (g.b - g.a), ndV g.nd, .str g.lf])) D (.lst (vs ++ [.ref T2]))) v c := by
            rintro v c ⟨t, a1, a2, rfl, h1⟩
            exact ⟨t, a1, a2, rfl, by rw [upd_ne (ne_of h1 hD4 (by intro z; cases z))]; exact h1⟩
          exact (hal.mono fun _ _ z => keep _ _ (z.ext e4)).snoc (keep _ _ ⟨T2, _, _, rfl, upd_same⟩)
      · rintro Hc ⟨eb, vs, hDv, hal⟩
        rw [f.al.1, List.take_length] at hal
        refine q D vs _ Hc (ExtBut.old e1 eb (e1.none hD)) hDv hal (fun c hc => ?_) ?_ (e1.none hD)
        · obtain ⟨g, hg, rfl⟩ := List.mem_map.mp hc
          have := (f.ok g hg).le
          omega
        · rw [List.length_map]
          exact hlen
def sp_BigPower_touched_count (K : PySem.W.Frag) : Sp := fun vs H Q _ => ∃ (x b : Addr) (k : Int) (e : Eff) (n : Nat), vs = [.ref x] ∧ BpAt K H x b k e n ∧ n + n ≤ 100 ∧ e.Bd 1000 ∧ 0 ≤ k ∧ k ≤ 3 ∧
  ∀ c H', Ext H H' → c ≤ 2000 → Q (.int c) H'
theorem sc_BigPower_touched_count : FnScope ["self", "count", "needed", "left"] ["self"] (defScope s_BigPower_touched_count) := ⟨rfl, rfl, rfl, by decide +kernel, rfl, by decide +kernel, by decide +kernel⟩
theorem k_BigPower_touched_count (T : Txt K mg) : FnR P w K mg base CX0 8 (He.ma K (He.ga K "BigPower") "touched_count") (sp_BigPower_touched_count K) := by
  obtain ⟨fd, F⟩ := T.f_BigPower_touched_count
  refine (fun (G : FnOk P w K mg base CX0 8 _ fd _ (sp_BigPower_touched_count K)) => ?_) (F.ok sc_BigPower_touched_count (fun vs H Q E h => by obtain ⟨_, _, _, _, _, rfl, _⟩ := h; rfl) (fun cdv A outer s H vs Q E hr h => ?_))
  · exact (G.raw (F.bindsN fun _ _ _ _ _ _ us hl => match us, hl with | [_], _ => rfl) .nil).imp fun vs H Q E h => by rw [List.append_nil]; exact h
  · have hu := hu_of hr
    have hu0 : (A.deeper (envOfC _ _ s.heap.objs.size _ cdv)).units < cLine := Nat.lt_of_succ_lt hu
    refine ⟨_, PSs.nox (pss_one (ps_ret (pe_callB (cr_sum (by rfl)) (by rfl) T.n_sum (by decide +kernel) (pa_cons (pe_lc (own := [("count", 1), ("needed", 2), ("left", 3)]) (g := (gTup K 3 (gCons (gName 1) (gCons (gName 2) (gCons (gName 3) gNil))))) rfl sc_BigPower_touched_count.nd (pi_list (pe_mR0 (pv 0) T.c_BigPower T.m_BigPower_groups (k_BigPower_groups T) (hr.mono (by decide)) pass0)) (blkOk_by (own := [("count", 1), ("needed", 2), ("left", 3)]) (N := ["self", "count", "needed", "left"]) (sc := defScope s_BigPower_touched_count) (by decide +kernel)) (fun _ _ _ _ _ => (pg_tup rfl (pgs_cons (pg_name (i := 1) sc_BigPower_touched_count.nd rfl (Or.inl rfl)) (pgs_cons (pg_name (i := 2) sc_BigPower_touched_count.nd rfl (Or.inl rfl)) (pgs_cons (pg_name (i := 3) sc_BigPower_touched_count.nd rfl (Or.inl rfl)) pgs_nil))))) (fun _ _ _ _ _ => pts_nil) (fun _ _ _ _ _ => (pv 1))) pa_nil)))), ?_⟩
    obtain ⟨x, b, k, e, n, rfl, hx0, hn, hbd, hk0, hk3, q⟩ := h
    have hB : BIG = 1000000 := rfl
    obtain ⟨⟨dx, hx⟩, he⟩ := id hx0
    refine ⟨_, rfl, x, dx, _, rfl, hx, pF_4 _ _, x, b, k, e, n, rfl, hx0, by omega, hbd, hk0, hk3, fun p vs gs H1 e1 hp hal h3 hlen np => ?_⟩
    refine ⟨p, rfl, ⟨_, SqL.of hp⟩, fun D hD => ?_⟩
    refine lc_it (walk_list (xs := vs)) (fun i Hc => ExtBut D H1 Hc ∧ Hc D = some (.lst ((gs.take i).map V.int))) ⟨ExtBut.refl.put, upd_same⟩ (fun i Hc _ z => SqL.of (z.1 _ _ (ne_of_none hp hD) hp)) ?_ ?_
    · rintro i y Hc H2 hi ⟨eb, hDv⟩ ⟨rfl, hy⟩
      obtain ⟨c, hc, t, v2, v3, rfl, ht⟩ := hal.get hy
      refine ⟨t, _, rfl, SqT.of (eb _ _ (ne_of_none ht hD) ht), rfl, _, _, rfl, _, _, rfl, _, _, rfl, rfl, rfl, ?_⟩
      refine ⟨_, rfl, _, hDv, ?_, eb.put, ?_⟩
      · rw [List.length_map, List.length_take]
        rw [hal.1] at hi
        exact big_line (by omega)
      · rw [upd_same, take_succ' hc, List.map_append]
        rfl
    · rintro Hc ⟨eb, hDv⟩
      rw [hal.1, List.take_length] at hDv
      refine ⟨D, gs, rfl, SqL.of hDv, ?_⟩
      refine q _ Hc (ExtBut.old e1 eb (e1.none hD)) ?_
      have := sum_le h3
      omega
def sp_power (K : PySem.W.Frag) : Sp := fun vs H Q _ => ∃ (a : Addr) (k : Int) (e : Eff) (n : Nat), vs = [.ref a, .int k] ∧ EffAt K H a e n ∧ n + n ≤ 100 ∧ e.Bd 1000 ∧ 0 ≤ k ∧ k ≤ 3 ∧ (k = 0 → e = Eff.one) ∧
  (∀ H', Ext H H' → Q .non H') ∧ (∀ p e' H', Ext H H' → EffAt K H' p e' 1000 → Q (.ref p) H')
theorem sc_power : FnScope ["effect", "exponent", "big", "expected", "changed", "segment", "offset"] ["effect", "exponent"] (defScope s_power) := ⟨rfl, rfl, rfl, by decide +kernel, rfl, by decide +kernel, by decide +kernel⟩
theorem k_power (T : Txt K mg) : FnR P w K mg base CX0 9 (He.ga K "power") (sp_power K) := by
  obtain ⟨fd, F⟩ := T.f_power
  obtain ⟨tMAX_TOUCHED, gMAX_TOUCHED⟩ := T.x_MAX_TOUCHED
  refine (fun (G : FnOk P w K mg base CX0 9 _ fd _ (sp_power K)) => ?_) (F.ok sc_power (fun vs H Q E h => by obtain ⟨_, _, _, _, rfl, _⟩ := h; rfl) (fun cdv A outer s H vs Q E hr h => ?_))
  · exact (G.raw (F.bindsN fun _ _ _ _ _ _ us hl => match us, hl with | [_, _], _ => rfl) .nil).imp fun vs H Q E h => by rw [List.append_nil]; exact h
  · have hu := hu_of hr
    have hu0 : (A.deeper (envOfC _ _ s.heap.objs.size _ cdv)).units < cLine := Nat.lt_of_succ_lt hu
    refine ⟨_, PSs.nox (pss_cons (ps_expr (pe_cR (k_check_count T) (hr.mono (by decide)) (by rfl) T.g_check_count T.kp_check_count pass0 (pa_cons (pv 1) pa_nil)))
  (pss_cons (ps_if (pt_val (pe_cR (k_fails T) (hr.mono (by decide)) (by rfl) T.g_fails T.kp_fails pass0 (pa_cons (pv 0) (pa_cons (pv 1) pa_nil)))) (pss_one (ps_ret pe_non)) pss_nil)
  (pss_cons (ps_set (i := 2) sc_power.nd rfl (Or.inl rfl) (StX.pe_makeR T.k_BigPower (k_BigPower_init T) (hr.mono (by decide)) (by rfl) T.g_BigPower pass0 (pa_cons (pv 0) (pa_cons (pv 1) pa_nil))))
  (pss_cons (ps_if (pt_cmpR op_gt (pe_mR0 (pv 2) T.c_BigPower T.m_BigPower_touched_count (k_BigPower_touched_count T) (hr.mono (by decide)) pass0) (pe_glob (v := .int 2000) (by rfl) gMAX_TOUCHED ⟨_, rfl⟩) (nomark _)) pss_never pss_nil)
  (pss_cons (ps_if (pt_cmpR op_eq (pe_propR (pv 0) T.c_Effect T.p_Effect_shift (k_Effect_shift T) (hr.mono (by decide)) pass0) pe_int (nomark _)) (pss_one (ps_ret (pe_fld (pv 2) rfl))) pss_nil)
  (pss_cons (ps_par (i := 3) (j := 4) rfl sc_power.nd rfl rfl (by decide) rfl rfl (pa_cons pe_dnewK (pa_cons pe_dnewK pa_nil)) rfl)
  (pss_cons (ps_for PassesOwn.never rfl (pi_list (pe_cR (k_segments T) (hr.mono (by decide)) (by rfl) T.g_segments T.kp_segments pass0 (pa_cons (pv 0) (pa_cons (pv 1) pa_nil)))) (pg_name (i := 5) sc_power.nd rfl (Or.inl rfl)) (pss_one (ps_for PassesOwn.never rfl (pi_list (pe_mR0 (pv 5) T.c_Segment T.m_Segment_offsets (k_Segment_offsets T) (hr.mono (by decide)) pass0)) (pg_name (i := 6) sc_power.nd rfl (Or.inl rfl)) (pss_cons (ps_if (pt_cmpR op_notN (pe_fld (pv 5) rfl) pe_non (nomark _)) (pss_one (ps_dput hu (pv 3) (pv 6) (pe_fld (pv 5) rfl) rfl)) pss_nil)
  (pss_one (ps_if (pt_cmpR op_ne (pe_fld (pv 5) rfl) (pe_fld (pv 5) rfl) (nomark _)) (pss_one (ps_dput hu (pv 4) (pv 6) (pe_fld (pv 5) rfl) rfl)) pss_nil))))))
  (pss_one (ps_ret (StX.pe_makeR T.k_Effect (k_Effect_init T) (hr.mono (by decide)) (by rfl) T.g_Effect pass0 (pa_cons (pv 3) (pa_cons (pv 4) (pa_cons (pe_propR (pv 2) T.c_BigPower T.p_BigPower_shift (k_BigPower_shift T) (hr.mono (by decide)) pass0) pa_nil))))))))))))), ?_⟩
    obtain ⟨a, k, e, n, rfl, he, hn, hbd, hk0, hk3, hk, q1, q2⟩ := h
    have hB : BIG = 1000000 := rfl
    have hmb := hbd.2
    obtain ⟨dxe, dn, dp, mn, mp, ha, _⟩ := id he
    refine ⟨_, rfl, _, rfl, hk0, ?_⟩
    refine ⟨_, rfl, _, rfl, a, k, e, n, rfl, he, by omega, by omega, fun H1 e1 => ?_⟩
    cases hf : e.flB k with
    | true => exact ⟨true, rfl, ifT (q1 H1 e1)⟩
    | false =>
      refine ⟨false, rfl, ifF ?_⟩
      refine ⟨_, rfl, _, rfl, fun x dx nx ndx ne => ?_⟩
      refine ⟨x, dx, a, k, e, n, rfl, upd_same, (he.ext e1).ext (made_ext nx ndx ExtBut.refl), by omega, by omega, hk0, hf, hk, fun H2 b eb hb => ⟨rfl, ?_⟩⟩
      have e2 : Ext H H2 := e1.trans (made_ext nx ndx eb)
      obtain ⟨dxb, hxb⟩ := hb.1
      refine ⟨_, rfl, x, dxb, _, rfl, hxb, pF_5 _ _, x, b, k, e, n, rfl, hb, hn, hbd, hk0, hk3, fun cc H3 e3 hc => ?_⟩
      have e23 := e2.trans e3
      refine ⟨_, _, rfl, rfl, _, rfl, ?_⟩
      refine ifD (fun z => absurd hc (by omega)) fun _ => ?_
      refine ⟨_, rfl, a, dxe, _, rfl, e23 _ _ ha, a, e, n, rfl, he.ext e23, rfl, _, rfl, ?_⟩
      refine ifD (fun c => ?_) fun c => ?_
      · refine ⟨_, rfl, x, _, dxb, _, _, rfl, e3 _ _ hxb, T.c_BigPower, T.a_BigPower_base, pF_1 _ _, ?_⟩
        exact q2 b e H3 e23 ((hb.2.ext e3).le (by omega))
      · have hz : e.mv ≠ 0 := fun z => c (by rw [z])
        refine fun d1 nd1 d2 nd2 => ?_
        have d12 : d2 ≠ d1 := fun z => by rw [z, upd_same] at nd2; cases nd2
        have e4 : Ext H3 (upd (upd H3 d1 (.dK [])) d2 (.dK [])) := (Ext.upd nd1).trans (Ext.upd nd2)
        have e24 := e23.trans e4
        refine ⟨_, _, rfl, ?_⟩
        refine ⟨_, rfl, _, rfl, a, k, e, n, rfl, he.ext e24, by omega, hz, hbd, hk0, hk3, fun l sv ss H5 e5 f hlen nl => ?_⟩
        have hl := f.at_
        have h51 : H5 d1 = some (.dK []) := e5 _ _ (by rw [upd_ne (Ne.symm d12), upd_same])
        have h52 : H5 d2 = some (.dK []) := e5 _ _ upd_same
        have ld1 : l ≠ d1 := fun z => by rw [z, h51] at hl; cases hl
        have ld2 : l ≠ d2 := fun z => by rw [z, h52] at hl; cases hl
        have e25 := e24.trans e5
        have nH1 : H d1 = none := e23.none nd1
        have nH2 : H d2 = none := (e23.trans (Ext.upd nd1)).none nd2
        refine ⟨l, rfl, ⟨_, SqL.of hl⟩, ?_⟩
        refine for_it (walk_list (xs := sv)) (fun i σ Hc => ∃ v5 v6 E C, σ = [some (.ref a), some (.int k), some (.ref x), some (.ref d1), some (.ref d2), v5, v6] ∧ Ext2 d1 d2 H5 Hc ∧ Two Hc d1 d2 E C (3 * i) ∧ ∀ o, (E o ≠ none ∨ C o ≠ none) → ∃ g ∈ ss.take i, g.cov e.mv o)
          ⟨none, none, fun _ => none, fun _ => none, rfl, Ext2.refl, ⟨⟨[], h51, Dct.nil, Nat.le_refl _⟩, ⟨[], h52, Dct.nil, Nat.le_refl _⟩, fun i z h => (by cases h)⟩, fun o h => (by rcases h with h | h <;> exact absurd rfl h)⟩ (fun i σ Hc _ ⟨_, _, _, _, _, eb, _⟩ => SqL.of (eb _ _ ld1 ld2 hl)) ?_ ?_
        · rintro i y σ Hc H6 hi ⟨v5, v6, E, C, rfl, eb, tw, cov⟩ ⟨rfl, hy⟩
          obtain ⟨g, hg, s1, rfl, hs1⟩ := f.al.get hy
          obtain ⟨dxs, tb, hs2, hs3⟩ := id hs1
          have okg := f.ok g (List.mem_of_getElem? hg)
          have nS1 : s1 ≠ d1 := ne_of hs2 h51 (by intro z; cases z)
          have nS2 : s1 ≠ d2 := ne_of hs2 h52 (by intro z; cases z)
          have nT1 : tb ≠ d1 := ne_of hs3 h51 (by intro z; cases z)
          have nT2 : tb ≠ d2 := ne_of hs3 h52 (by intro z; cases z)
          have hsl : ss.length ≤ 200 := by omega
          have hi2 : i < ss.length := by rw [← f.al.1]; exact hi
          refine ⟨_, rfl, s1, dxs, _, rfl, eb _ _ nS1 nS2 hs2, sF_o _ _ _ _ _, s1, e.mv, k, g, rfl, ⟨dxs, tb, eb _ _ nS1 nS2 hs2, eb _ _ nT1 nT2 hs3⟩, okg, fun ol H7 e7 hol nol => ?_⟩
          have eb7 := eb.ext e7
          have tw7 := tw.ext e7
          have hs7 := eb7 _ _ nS1 nS2 hs2
          have old1 : ol ≠ d1 := fun z => by
            obtain ⟨m, h1, _⟩ := tw7.dE
            rw [z, h1] at hol
            cases hol
          have old2 : ol ≠ d2 := fun z => by
            obtain ⟨m, h1, _⟩ := tw7.dC
            rw [z, h1] at hol
            cases hol
          have hoff : (offs e.mv g).length = (g.b - g.a).toNat := by unfold offs; rw [List.length_map, List.length_range]
          have hle3 : (g.b - g.a).toNat ≤ 3 := by
            have h1 := okg.le
            omega
          refine ⟨ol, rfl, ⟨_, SqL.of hol⟩, ?_⟩
          refine for_it (walk_list (xs := (offs e.mv g).map V.int)) (fun j σ Hd => ∃ v6 E C, σ = [some (.ref a), some (.int k), some (.ref x), some (.ref d1), some (.ref d2), some (.ref s1), v6] ∧ Ext2 d1 d2 H7 Hd ∧ Two Hd d1 d2 E C (3 * i + j) ∧ ∀ o, (E o ≠ none ∨ C o ≠ none) → (∃ g' ∈ ss.take i, g'.cov e.mv o) ∨ ∃ q, g.a ≤ q ∧ q < g.a + j ∧ o = g.r + q * e.mv)
            ⟨_, E, C, rfl, Ext2.refl, tw7, fun o h => .inl (cov o h)⟩ (fun j σ Hd _ ⟨_, _, _, _, ebd, _⟩ => SqL.of (ebd _ _ old1 old2 hol)) ?_ ?_
          · rintro j y σ Hd H8 hj ⟨v6, E, C, rfl, ebd, twd, covd⟩ ⟨rfl, hy⟩
            rw [List.length_map, hoff] at hj
            rw [List.getElem?_map] at hy
            obtain ⟨o, ho, rfl⟩ := Option.map_eq_some_iff.mp hy
            have ho2 : o = g.r + (g.a + (j : Int)) * e.mv := by
              unfold offs at ho
              rw [List.getElem?_map, List.getElem?_range hj] at ho
              exact (Option.some.inj ho).symm
            have hqb : g.a + (j : Int) < g.b := by omega
            have fresh : E o = none ∧ C o = none := by
              have key : ¬ (E o ≠ none ∨ C o ≠ none) := fun z => by
                rcases covd o z with ⟨g', hg', c'⟩ | ⟨q, h1, h2, h3⟩
                · obtain ⟨i2, hi3⟩ := List.getElem?_of_mem hg'
                  have hi4 : i2 < i := by
                    obtain ⟨w1, _⟩ := List.getElem?_eq_some_iff.mp hi3
                    rw [List.length_take] at w1
                    omega
                  rw [List.getElem?_take, if_pos hi4] at hi3
                  obtain ⟨w1, e1'⟩ := List.getElem?_eq_some_iff.mp hi3
                  obtain ⟨w2, e2'⟩ := List.getElem?_eq_some_iff.mp hg
                  have hap := List.pairwise_iff_getElem.mp f.ap i2 i w1 w2 hi4
                  rw [e1', e2'] at hap
                  rw [ho2] at c'
                  exact Sg.not_cov hz (f.ok g' (List.mem_of_getElem? hi3)) okg hap (q := g.a + (j : Int)) (by omega) c'
                · rw [ho2] at h3
                  have := (Sg.inj hz okg.can okg.can h3).2
                  omega
              constructor
              · cases c : E o with
                | none => rfl
                | some z => exact absurd (.inl (by rw [c]; simp)) key
              · cases c : C o with
                | none => rfl
                | some z => exact absurd (.inr (by rw [c]; simp)) key
            have covn : ∀ E' C' : PF, (∀ j', j' ≠ o → E' j' = E j') → (∀ j', j' ≠ o → C' j' = C j') → ∀ o', (E' o' ≠ none ∨ C' o' ≠ none) → (∃ g' ∈ ss.take i, g'.cov e.mv o') ∨ ∃ q, g.a ≤ q ∧ q < g.a + (j + 1 : Nat) ∧ o' = g.r + q * e.mv := fun E' C' h1 h2 o' h3 => by
              by_cases c : o' = o
              · exact .inr ⟨g.a + (j : Int), by omega, by omega, by rw [c, ho2]⟩
              · rw [h1 o' c, h2 o' c] at h3
                rcases covd o' h3 with h | ⟨q, q1, q2, q3⟩
                · exact .inl h
                · exact .inr ⟨q, q1, by omega, q3⟩
            have hsd := ebd _ _ nS1 nS2 hs7
            have hm : 3 * i + j < BIG := by omega
            obtain ⟨hEo, hCo⟩ := fresh
            cases hnd : g.nd with
            | none =>
              rw [hnd] at hsd
              refine ⟨_, rfl, s1, _, dxs, _, _, rfl, hsd, T.c_Segment, T.a_Segment_needed, sF_4 _ _ _ _ _, rfl, _, rfl, ifF ?_⟩
              refine ⟨_, rfl, s1, _, dxs, _, _, rfl, hsd, T.c_Segment, T.a_Segment_left, sF_5 _ _ _ _ _, _, rfl, s1, _, dxs, _, _, rfl, hsd, T.c_Segment, T.a_Segment_needed, sF_4 _ _ _ _ _, rfl, _, rfl, ?_⟩
              refine ifND (fun _ => ?_) fun z => by cases z
              obtain ⟨m2, p2, D2⟩ := dput_of twd.dC hm (i := o) okg.lf
              refine ⟨_, rfl, s1, _, dxs, _, _, rfl, hsd, T.c_Segment, T.a_Segment_left, sF_5 _ _ _ _ _, _, rfl, _, rfl, d2, _, rfl, p2, ?_⟩
              refine ⟨_, E, setF C o g.lf, rfl, ebd.put2, ⟨(twd.dE.other (Ne.symm d12)).le (by omega), D2, nm_step (o := o) twd.nm (fun _ _ => rfl) (fun j' h => setF_ne (Ne.symm h)) fun y _ => ?_⟩, covn _ _ (fun _ _ => rfl) fun j' h => setF_ne (Ne.symm h)⟩
              rw [hEo]
              simp
            | some z =>
              rw [hnd] at hsd
              have hlz := okg.nd z hnd
              refine ⟨_, rfl, s1, _, dxs, _, _, rfl, hsd, T.c_Segment, T.a_Segment_needed, sF_4 _ _ _ _ _, rfl, _, rfl, ifT ?_⟩
              obtain ⟨m1, p1, D1⟩ := dput_of twd.dE hm (i := o) hlz
              refine ⟨_, rfl, s1, _, dxs, _, _, rfl, hsd, T.c_Segment, T.a_Segment_needed, sF_4 _ _ _ _ _, _, rfl, _, rfl, d1, _, rfl, p1, ?_⟩
              have hsd2 : (upd H8 d1 (.dK m1)) s1 = _ := (upd_ne nS1).trans hsd
              have twC := twd.dC.other (o := .dK m1) d12
              refine ⟨_, rfl, s1, _, dxs, _, _, rfl, hsd2, T.c_Segment, T.a_Segment_left, sF_5 _ _ _ _ _, _, rfl, s1, _, dxs, _, _, rfl, hsd2, T.c_Segment, T.a_Segment_needed, sF_4 _ _ _ _ _, rfl, _, rfl, ?_⟩
              refine ifND (fun ne => ?_) fun eq => ?_
              · have hne : g.lf ≠ z := fun q => ne (by rw [q]; rfl)
                obtain ⟨m2, p2, D2⟩ := dput_of twC hm (i := o) okg.lf
                refine ⟨_, rfl, s1, _, dxs, _, _, rfl, hsd2, T.c_Segment, T.a_Segment_left, sF_5 _ _ _ _ _, _, rfl, _, rfl, d2, _, rfl, p2, ?_⟩
                refine ⟨_, setF E o z, setF C o g.lf, rfl, ebd.put1.put2, ⟨D1.other (Ne.symm d12), D2, nm_step (o := o) twd.nm (fun j' h => setF_ne (Ne.symm h)) (fun j' h => setF_ne (Ne.symm h)) fun y hy => ?_⟩, covn _ _ (fun j' h => setF_ne (Ne.symm h)) fun j' h => setF_ne (Ne.symm h)⟩
                rw [setF_at] at hy ⊢
                cases hy
                exact fun q => hne (Option.some.inj q).symm
              · refine ⟨_, setF E o z, C, rfl, ebd.put1, ⟨D1, twC.le (by omega), nm_step (o := o) twd.nm (fun j' h => setF_ne (Ne.symm h)) (fun _ _ => rfl) fun y hy => ?_⟩, covn _ _ (fun j' h => setF_ne (Ne.symm h)) fun _ _ => rfl⟩
                rw [hCo] at hy
                cases hy
          · rintro σ Hd ⟨v6, E, C, rfl, ebd, twd, covd⟩
            rw [List.length_map, hoff] at twd covd
            refine ⟨_, _, E, C, rfl, fun b o n1 n2 h => ebd _ _ n1 n2 (eb7 _ _ n1 n2 h), twd.le (by omega), fun o ho => ?_⟩
            rw [take_succ' hg]
            rcases covd o ho with ⟨g', h1, h2⟩ | ⟨q, h1, h2, h3⟩
            · exact ⟨g', List.mem_append_left _ h1, h2⟩
            · exact ⟨g, List.mem_append_right _ List.mem_cons_self, q, h1, by have := okg.lt; omega, h3⟩
        · rintro σ Hc ⟨v5, v6, E, C, rfl, eb, tw, cov⟩
          rw [f.al.1] at tw
          have eH := Ext2.old e25 eb nH1 nH2
          have hx5 := (e4.trans e5) _ _ (e3 _ _ hxb)
          have hxd1 : x ≠ d1 := ne_of hx5 h51 (by intro z; cases z)
          have hxd2 : x ≠ d2 := ne_of hx5 h52 (by intro z; cases z)
          have hb5 : BpAt K Hc x b k e n := by
            refine ⟨⟨dxb, eb _ _ hxd1 hxd2 hx5⟩, ?_⟩
            obtain ⟨dx', dn', dp', mn', mp', h1, h2, h3, h4⟩ := hb.2.ext e3
            have up : ∀ {u o}, H3 u = some o → Hc u = some o := fun {u o} h => eb _ _ (ne_of_none h nd1) (ne_of_none ((Ext.upd nd1) _ _ h) nd2) ((e4.trans e5) _ _ h)
            exact ⟨dx', dn', dp', mn', mp', up h1, up h2, up h3, h4⟩
          refine ⟨_, rfl, _, rfl, _, rfl, x, dxb, _, rfl, eb _ _ hxd1 hxd2 hx5, x, b, k, e, n, rfl, hb5, by omega, fun y dy ny ndy nye => ?_⟩
          have em := made_ext (C := He.ga K "Effect") ny ndy ExtBut.refl
          refine ⟨y, dy, d1, d2, E, C, _, 1000, rfl, upd_same, (tw.dE.ext em).le (by omega), (tw.dC.ext em).le (by omega), by omega, tw.nm, fun H9 eb9 hE9 => ⟨rfl, ?_⟩⟩
          exact q2 y _ H9 (eH.trans (made_ext ny ndy eb9)) hE9
end
end Tp
/-! part XS -/
set_option Elab.async false
set_option linter.all false
set_option maxRecDepth 100000
set_option maxHeartbeats 2000000
/-! mathematics of sessions -/
namespace Tp
open PySem PySem.Spec PyProof.Rows L2
abbrev Pl := (Int → Str) × Int
def ap (e : Eff) (p : Pl) : Pl := (e.on p.1 p.2, p.2 + e.mv)
def runE (es : List Eff) (p : Pl) : Pl := es.foldl (fun p e => ap e p) p
def OkE : List Eff → Pl → Prop
  | [], _ => True
  | e :: r, p => Fits e p.1 p.2 ∧ OkE r (ap e p)
/-- the places before each -/
def plL : List Eff → Pl → List Pl
  | [], _ => []
  | e :: r, p => p :: plL r (ap e p)
/-- each with the place behind it -/
def unL : List Eff → Pl → List (Eff × Pl)
  | [], _ => []
  | e :: r, p => (e, ap e p) :: unL r (ap e p)
theorem runE_append (a b : List Eff) (p : Pl) : runE (a ++ b) p = runE b (runE a p) := List.foldl_append
theorem runE_snoc (a : List Eff) (e : Eff) (p : Pl) : runE (a ++ [e]) p = ap e (runE a p) := runE_append a [e] p
theorem okE_append : ∀ (a b : List Eff) (p : Pl), OkE (a ++ b) p ↔ OkE a p ∧ OkE b (runE a p)
  | [], b, p => ⟨fun h => ⟨trivial, h⟩, fun h => h.2⟩
  | e :: a, b, p => by
    have ih := okE_append a b (ap e p)
    constructor
    · rintro ⟨h1, h2⟩
      exact ⟨⟨h1, (ih.mp h2).1⟩, (ih.mp h2).2⟩
    · rintro ⟨⟨h1, h2⟩, h3⟩
      exact ⟨h1, ih.mpr ⟨h2, h3⟩⟩
theorem plL_snoc : ∀ (es : List Eff) (e : Eff) (p : Pl), plL (es ++ [e]) p = plL es p ++ [runE es p]
  | [], e, p => rfl
  | x :: r, e, p => congrArg (p :: ·) (plL_snoc r e (ap x p))
theorem plL_len : ∀ (es : List Eff) (p : Pl), (plL es p).length = es.length
  | [], _ => rfl
  | x :: r, p => congrArg Nat.succ (plL_len r (ap x p))
theorem unL_len : ∀ (es : List Eff) (p : Pl), (unL es p).length = es.length
  | [], _ => rfl
  | x :: r, p => congrArg Nat.succ (unL_len r (ap x p))
/-- effects that dicts can hold -/
def Re (e : Eff) : Prop := (∃ mn mp, Dct mn e.N ∧ Dct mp e.P) ∧ ∀ i z, e.P i = some z → e.N i ≠ some z
theorem good_build {p : Pl} : ∀ {es : List Eff}, OkE es p → (∀ e ∈ es, Re e) → Good (build es) p.1 p.2 (runE es p).1 (runE es p).2 := fun {es} => by
  suffices key : ∀ (n : Nat) (es : List Eff), es.length = n → OkE es p → (∀ e ∈ es, Re e) → Good (build es) p.1 p.2 (runE es p).1 (runE es p).2 from key es.length es rfl
  intro n
  induction n with
  | zero =>
    intro es hl _ _
    rw [List.length_eq_zero_iff.mp hl]
    exact Good.zero _ _
  | succ n ih =>
    intro es hl ho hr
    have hne : es ≠ [] := fun z => by rw [z] at hl; cases hl
    have hd := List.dropLast_concat_getLast hne
    rw [← hd] at ho hr ⊢
    have h1 := (okE_append _ _ p).mp ho
    have g := ih es.dropLast (by rw [List.length_dropLast]; omega) h1.1 fun e he => hr e (List.mem_append_left _ he)
    obtain ⟨⟨mn, mp, dn, dp⟩, _⟩ := hr (es.getLast hne) (List.mem_append_right _ List.mem_cons_self)
    rw [build_snoc, runE_snoc]
    exact g.add dn dp h1.2.1
theorem okb_of {p : Pl} {es : List Eff} (ho : OkE es p) (hr : ∀ e ∈ es, Re e) : Okb es := fun i e he => by
  have h0 : es = es.take i ++ es.drop i := (List.take_append_drop i es).symm
  have h1 : es.drop i = e :: es.drop (i + 1) := by
    obtain ⟨w, v⟩ := List.getElem?_eq_some_iff.mp he
    rw [← v]
    exact List.drop_eq_getElem_cons w
  rw [h0, h1] at ho
  have h2 := (okE_append _ _ p).mp ho
  exact (good_build h2.1 fun x hx => hr x (List.mem_of_mem_take hx)).fk h2.2.1
theorem whole_fits {p : Pl} {es : List Eff} (ho : OkE es p) (hr : ∀ e ∈ es, Re e) : Fits (build es).eff p.1 p.2 := (good_build ho hr).fits
theorem whole_ap {p : Pl} {es : List Eff} (ho : OkE es p) (hr : ∀ e ∈ es, Re e) : ap (build es).eff p = runE es p := Prod.ext (good_build ho hr).on (good_build ho hr).mv
/-! ### bounds of an item's effect -/
structure Bnb (s : Bs) (m : Nat) : Prop where
  off : s.off.natAbs ≤ m
  n : ∀ i, s.N i ≠ none → i.natAbs ≤ m
  w : ∀ i, s.W i ≠ none → i.natAbs ≤ m
theorem Bnb.le {s : Bs} {m k : Nat} (b : Bnb s m) (h : m ≤ k) : Bnb s k := ⟨Nat.le_trans b.off h, fun i z => Nat.le_trans (b.n i z) h, fun i z => Nat.le_trans (b.w i z) h⟩
theorem Bnb.step {s : Bs} {m : Nat} (b : Bnb s m) (st : Stp) : Bnb (s.step st) (m + 1) := by
  have ho := b.off
  cases st with
  | l => exact ⟨by show (s.off + -1).natAbs ≤ m + 1; omega, fun i z => Nat.le_succ_of_le (b.n i z), fun i z => Nat.le_succ_of_le (b.w i z)⟩
  | r => exact ⟨by show (s.off + 1).natAbs ≤ m + 1; omega, fun i z => Nat.le_succ_of_le (b.n i z), fun i z => Nat.le_succ_of_le (b.w i z)⟩
  | wr z =>
    refine ⟨Nat.le_succ_of_le ho, fun i h => Nat.le_succ_of_le (b.n i h), fun i h => ?_⟩
    by_cases c : s.off = i
    · omega
    · exact Nat.le_succ_of_le (b.w i (by have h' : setF s.W s.off z i ≠ none := h; rw [setF_ne c] at h'; exact h'))
  | ex z =>
    show Bnb (s.ex s.off z) (m + 1)
    cases hk : s.K s.off with
    | none =>
      rw [Bs.ex_new hk]
      refine ⟨Nat.le_succ_of_le ho, fun i h => ?_, fun i h => Nat.le_succ_of_le (b.w i h)⟩
      by_cases c : s.off = i
      · omega
      · exact Nat.le_succ_of_le (b.n i (by have h' : setF s.N s.off z i ≠ none := h; rw [setF_ne c] at h'; exact h'))
    | some y =>
      rw [Bs.ex_old hk]
      by_cases c : y = z
      · rw [if_pos c]
        exact b.le (Nat.le_succ _)
      · rw [if_neg c]
        exact ⟨Nat.le_succ_of_le ho, fun i h => Nat.le_succ_of_le (b.n i h), fun i h => Nat.le_succ_of_le (b.w i h)⟩
theorem Bnb.steps : ∀ (ss : List Stp) {s : Bs} {m : Nat}, Bnb s m → Bnb (s.steps ss) (m + ss.length)
  | [], s, m, b => b
  | st :: r, s, m, b => by
    have := Bnb.steps r (b.step st)
    rw [List.length_cons]
    exact this.le (by omega)
theorem steps_bd (ss : List Stp) (h : ss.length ≤ 1000) : (Bs.zero.steps ss).eff.Bd 1000 := by
  have b := Bnb.steps ss (s := Bs.zero) (m := 0) ⟨Nat.le_refl _, fun i z => absurd rfl z, fun i z => absurd rfl z⟩
  have b2 := b.le (k := 1000) (by omega)
  refine ⟨fun o ho => ?_, b2.off⟩
  rcases ho with ho | ho
  · exact b2.n o ho
  · refine b2.w o fun z => ho ?_
    show ((Bs.zero.steps ss).W o).bind _ = none
    rw [z]
    rfl
end Tp
/-! part K12 -/
set_option Elab.async false
set_option linter.all false
set_option maxRecDepth 100000
set_option maxHeartbeats 4000000
/-! the defs, part 12: sessions -/
namespace Tp
open PySem PySem.Spec PyProof.Rows L2
def seF (c : Addr) (h : Int) (kd ld lp lu le : Addr) : List (Str × V) := [("own_tape", .ref c), ("own_head", .int h), ("known", .ref kd), ("effects_done", .ref ld), ("places_before", .ref lp), ("undone", .ref lu), ("events", .ref le)]
section
variable (c : Addr) (h : Int) (kd ld lp lu le x : Addr) (k : Int)
theorem seF_1 : (seF c h kd ld lp lu le).lookup ("own_tape" : Str) = some (.ref c) := by rfl
theorem seF_2 : (seF c h kd ld lp lu le).lookup ("own_head" : Str) = some (.int h) := by rfl
theorem seF_3 : (seF c h kd ld lp lu le).lookup ("known" : Str) = some (.ref kd) := by rfl
theorem seF_4 : (seF c h kd ld lp lu le).lookup ("effects_done" : Str) = some (.ref ld) := by rfl
theorem seF_5 : (seF c h kd ld lp lu le).lookup ("places_before" : Str) = some (.ref lp) := by rfl
theorem seF_6 : (seF c h kd ld lp lu le).lookup ("undone" : Str) = some (.ref lu) := by rfl
theorem seF_7 : (seF c h kd ld lp lu le).lookup ("events" : Str) = some (.ref le) := by rfl
theorem seF_expand : (seF c h kd ld lp lu le).lookup ("expand" : Str) = none := by rfl
theorem seF_act : (seF c h kd ld lp lu le).lookup ("act" : Str) = none := by rfl
theorem seF_do : (seF c h kd ld lp lu le).lookup ("do" : Str) = none := by rfl
theorem seF_repeat : (seF c h kd ld lp lu le).lookup ("repeat" : Str) = none := by rfl
theorem seF_perform : (seF c h kd ld lp lu le).lookup ("perform" : Str) = none := by rfl
theorem seF_take : (seF c h kd ld lp lu le).lookup ("take_over" : Str) = none := by rfl
theorem seF_history : (seF c h kd ld lp lu le).lookup ("history" : Str) = none := by rfl
theorem seF_total : (seF c h kd ld lp lu le).lookup ("total_effect" : Str) = none := by rfl
theorem seF_undo : (seF c h kd ld lp lu le).lookup ("undo" : Str) = none := by rfl
theorem seF_redo : (seF c h kd ld lp lu le).lookup ("redo" : Str) = none := by rfl
theorem seF_clone : (seF c h kd ld lp lu le).lookup ("clone" : Str) = none := by rfl
theorem seF_p1 : putF "own_tape" (.ref x) (seF c h kd ld lp lu le) = seF x h kd ld lp lu le := by rfl
theorem seF_p2 : putF "own_head" (.int k) (seF c h kd ld lp lu le) = seF c k kd ld lp lu le := by rfl
theorem seF_p3 : putF "known" (.ref x) (seF c h kd ld lp lu le) = seF c h x ld lp lu le := by rfl
theorem seF_p4 : putF "effects_done" (.ref x) (seF c h kd ld lp lu le) = seF c h kd x lp lu le := by rfl
theorem seF_p5 : putF "places_before" (.ref x) (seF c h kd ld lp lu le) = seF c h kd ld x lu le := by rfl
theorem seF_p6 : putF "undone" (.ref x) (seF c h kd ld lp lu le) = seF c h kd ld lp x le := by rfl
end
structure Sa where
  c : Addr
  kd : Addr
  ld : Addr
  lp : Addr
  lu : Addr
  le : Addr
def Sa.own (s : Sa) (a : Addr) : List Addr := [a, s.ld, s.lp, s.lu, s.le]
structure Sn where
  b : Str
  p0 : Pl
  hist : List Eff
  und : List Eff
def Sn.cur (s : Sn) : Pl := runE s.hist s.p0
/-- without what stands at these -/
def cut (l : List Addr) (H : Hp) : Hp := fun b => if b ∈ l then none else H b
theorem cut_in {l : List Addr} {H : Hp} {b : Addr} (h : b ∈ l) : cut l H b = none := if_pos h
theorem cut_out {l : List Addr} {H : Hp} {b : Addr} (h : b ∉ l) : cut l H b = H b := if_neg h
theorem cut_sub {l : List Addr} {H : Hp} : Ext (cut l H) H := fun b o h => by
  by_cases c : b ∈ l
  · rw [cut_in c] at h
    cases h
  · rw [cut_out c] at h
    exact h
def FrL (H0 : Hp) (l : List Addr) : Prop := ∀ b ∈ l, H0 b = none
theorem FrL.cut {l : List Addr} {H : Hp} : FrL (cut l H) l := fun b hb => cut_in hb
theorem _root_.L2.Ext.cut {X H : Hp} {l : List Addr} (e : Ext X H) (f : FrL X l) : Ext X (Tp.cut l H) := fun b o h => by
  by_cases c : b ∈ l
  · rw [f b c] at h
    cases h
  · rw [cut_out c]
    exact e b o h
theorem TapeAt.le {K : PySem.W.Frag} {H : Hp} {c : Addr} {b : Str} {t : Int → Str} {n m : Nat} (h : TapeAt K H c b t n) (e : n ≤ m) : TapeAt K H c b t m := let ⟨dx, d, m', h1, h2, h3, h4, h5⟩ := h; ⟨dx, d, m', h1, h2, h3, Nat.le_trans h4 e, h5⟩
def PlV (K : PySem.W.Frag) (X : Hp) (b : Str) (nT : Nat) (v : V) (p : Pl) : Prop := ∃ r, v = .ref r ∧ PlaceAt K X r b p.1 p.2 nT
def UnV (K : PySem.W.Frag) (X : Hp) (b : Str) (nT : Nat) (v : V) (q : Eff × Pl) : Prop := ∃ t ea r, v = .ref t ∧ X t = some (.tup [.ref ea, .ref r]) ∧ EffAt K X ea q.1 1000 ∧ PlaceAt K X r b q.2.1 q.2.2 nT
theorem PlaceAt.le {K : PySem.W.Frag} {H : Hp} {p : Addr} {b : Str} {t : Int → Str} {h : Int} {n m : Nat} (x : PlaceAt K H p b t h n) (e : n ≤ m) : PlaceAt K H p b t h m := let ⟨c, h1, h2⟩ := x; ⟨c, h1, h2.le e⟩
structure SesC (K : PySem.W.Frag) (X : Hp) (s : Sa) (st : Sn) (evs pvs uvs : List V) (nT : Nat) : Prop where
  tp : TapeAt K X s.c st.b st.cur.1 nT
  kn : ∃ dx dq, X s.kd = some (.ins (He.ga K "Definitions") dx [("sequences", .ref dq)]) ∧ X dq = some (.dK [])
  ev : EffsAt K X evs st.hist 1000
  pv : All2 (PlV K X st.b nT) pvs (plL st.hist st.p0)
  uv : All2 (UnV K X st.b nT) uvs.reverse (unL st.und st.cur)
  ok : OkE (st.hist ++ st.und) st.p0
theorem PlV.ext {K : PySem.W.Frag} {X X' : Hp} {b : Str} {nT : Nat} {v : V} {p : Pl} (h : PlV K X b nT v p) (e : Ext X X') : PlV K X' b nT v p := let ⟨r, x, y⟩ := h; ⟨r, x, y.ext e⟩
theorem PlV.le {K : PySem.W.Frag} {X : Hp} {b : Str} {nT m : Nat} {v : V} {p : Pl} (h : PlV K X b nT v p) (e : nT ≤ m) : PlV K X b m v p := let ⟨r, x, y⟩ := h; ⟨r, x, y.le e⟩
theorem UnV.ext {K : PySem.W.Frag} {X X' : Hp} {b : Str} {nT : Nat} {v : V} {q : Eff × Pl} (h : UnV K X b nT v q) (e : Ext X X') : UnV K X' b nT v q := let ⟨t, ea, r, x, y, z, w⟩ := h; ⟨t, ea, r, x, e _ _ y, z.ext e, w.ext e⟩
theorem UnV.le {K : PySem.W.Frag} {X : Hp} {b : Str} {nT m : Nat} {v : V} {q : Eff × Pl} (h : UnV K X b nT v q) (e : nT ≤ m) : UnV K X b m v q := let ⟨t, ea, r, x, y, z, w⟩ := h; ⟨t, ea, r, x, y, z, w.le e⟩
theorem SesC.ext {K : PySem.W.Frag} {X X' : Hp} {s : Sa} {st : Sn} {evs pvs uvs : List V} {nT : Nat} (c : SesC K X s st evs pvs uvs nT) (e : Ext X X') : SesC K X' s st evs pvs uvs nT :=
  ⟨c.tp.ext e, let ⟨dx, dq, h1, h2⟩ := c.kn; ⟨dx, dq, e _ _ h1, e _ _ h2⟩, c.ev.ext e, c.pv.mono fun _ _ h => h.ext e, c.uv.mono fun _ _ h => h.ext e, c.ok⟩
theorem SesC.le {K : PySem.W.Frag} {X : Hp} {s : Sa} {st : Sn} {evs pvs uvs : List V} {nT m : Nat} (c : SesC K X s st evs pvs uvs nT) (e : nT ≤ m) : SesC K X s st evs pvs uvs m :=
  ⟨c.tp.le e, c.kn, c.ev, c.pv.mono fun _ _ h => h.le e, c.uv.mono fun _ _ h => h.le e, c.ok⟩
structure SessAt (K : PySem.W.Frag) (H : Hp) (a : Addr) (s : Sa) (st : Sn) (nT ne : Nat) : Prop where
  at_ : ∃ dx, H a = some (.ins (He.ga K "Session") dx (seF s.c st.cur.2 s.kd s.ld s.lp s.lu s.le))
  ls : ∃ evs pvs uvs xs, H s.ld = some (.lst evs) ∧ H s.lp = some (.lst pvs) ∧ H s.lu = some (.lst uvs) ∧ H s.le = some (.lst xs) ∧ xs.length ≤ ne ∧ SesC K (cut (s.own a) H) s st evs pvs uvs nT
  ne : s.ld ≠ s.lp ∧ s.ld ≠ s.lu ∧ s.ld ≠ s.le ∧ s.lp ≠ s.lu ∧ s.lp ≠ s.le ∧ s.lu ≠ s.le
theorem SessAt.le {K : PySem.W.Frag} {H : Hp} {a : Addr} {s : Sa} {st : Sn} {nT ne m k : Nat} (x : SessAt K H a s st nT ne) (h1 : nT ≤ m) (h2 : ne ≤ k) : SessAt K H a s st m k :=
  ⟨x.at_, let ⟨evs, pvs, uvs, xs, a1, a2, a3, a4, a5, a6⟩ := x.ls; ⟨evs, pvs, uvs, xs, a1, a2, a3, a4, Nat.le_trans a5 h2, a6.le h1⟩, x.ne⟩
theorem SessAt.own_some {K : PySem.W.Frag} {H : Hp} {a : Addr} {s : Sa} {st : Sn} {nT ne : Nat} (x : SessAt K H a s st nT ne) : ∀ b ∈ s.own a, ∃ o, H b = some o := by
  obtain ⟨dx, h1⟩ := x.at_
  obtain ⟨evs, pvs, uvs, xs, a1, a2, a3, a4, _⟩ := x.ls
  intro b hb
  simp only [Sa.own, List.mem_cons, List.not_mem_nil, or_false] at hb
  rcases hb with rfl | rfl | rfl | rfl | rfl
  · exact ⟨_, h1⟩
  · exact ⟨_, a1⟩
  · exact ⟨_, a2⟩
  · exact ⟨_, a3⟩
  · exact ⟨_, a4⟩
theorem cut_ext {l : List Addr} {H H' : Hp} (e : Ext H H') : Ext (cut l H) (cut l H') := L2.Ext.cut (H := H') (fun b o h => e b o (cut_sub b o h)) FrL.cut
theorem SessAt.ext {K : PySem.W.Frag} {H H' : Hp} {a : Addr} {s : Sa} {st : Sn} {nT ne : Nat} (x : SessAt K H a s st nT ne) (e : Ext H H') : SessAt K H' a s st nT ne :=
  ⟨let ⟨dx, h⟩ := x.at_; ⟨dx, e _ _ h⟩, let ⟨evs, pvs, uvs, xs, a1, a2, a3, a4, a5, a6⟩ := x.ls; ⟨evs, pvs, uvs, xs, e _ _ a1, e _ _ a2, e _ _ a3, e _ _ a4, a5, a6.ext (cut_ext e)⟩, x.ne⟩
section
variable {P : Program} {w : World} {K : PySem.W.Frag} {mg : Str → Option Value} {base : Heap}
def sp_Definitions_init (K : PySem.W.Frag) : Sp := fun vs H Q _ => ∃ (x dx d : Addr), vs = [.ref x, .ref d] ∧ H x = some (.ins (He.ga K "Definitions") dx []) ∧ H d = some (.dK []) ∧
  ∀ H' q, ExtBut x H H' → H' x = some (.ins (He.ga K "Definitions") dx [("sequences", .ref q)]) → H' q = some (.dK []) → Q .non H'
theorem sc_Definitions_init : FnScope ["self", "sequences"] ["self", "sequences"] (defScope s_Definitions_init) := ⟨rfl, rfl, rfl, by decide +kernel, rfl, by decide +kernel, by decide +kernel⟩
theorem k_Definitions_init (T : Txt K mg) : FnR P w K mg base CX0 1 (He.ma K (He.ga K "Definitions") "__init__") (sp_Definitions_init K) := by
  obtain ⟨fd, F⟩ := T.f_Definitions_init
  refine (fun (G : FnOk P w K mg base CX0 1 _ fd _ (sp_Definitions_init K)) => ?_) (F.ok sc_Definitions_init (fun vs H Q E h => by obtain ⟨_, _, _, rfl, _⟩ := h; rfl) (fun cdv A outer s H vs Q E hr h => ?_))
  · exact (G.raw (F.bindsN fun _ _ _ _ _ _ us hl => match us, hl with | [_, _], _ => rfl) .nil).imp fun vs H Q E h => by rw [List.append_nil]; exact h
  · have hu := hu_of hr
    have hu0 : (A.deeper (envOfC _ _ s.heap.objs.size _ cdv)).units < cLine := Nat.lt_of_succ_lt hu
    refine ⟨_, PSs.nox (pss_one (ps_fld (pv 0) (pe_callTy call_dictD (by rfl) T.n_dict (by decide +kernel) (pa_cons (pv 1) pa_nil)) rfl)), ?_⟩
    obtain ⟨x, dx, d, rfl, hx, hd, q⟩ := h
    refine ⟨_, rfl, d, _, rfl, .inl hd, fun p hp => ?_⟩
    have hx1 := Ext.upd (o := .dK []) hp _ _ hx
    refine ⟨_, rfl, x, _, dx, _, rfl, hx1, T.c_Definitions, T.a_Definitions_sequences, (by show 0 < 1000; decide), ?_⟩
    refine q _ p ((ExtBut.refl.ext (Ext.upd hp)).put) upd_same ?_
    rw [upd_ne (Ne.symm (ne_of_none hx hp))]
    exact upd_same
def sp_Definitions_expand (K : PySem.W.Frag) : Sp := fun vs H Q _ => ∃ (kd l dx dq : Addr) (ss : List Stp), vs = [.ref kd, .ref l] ∧ H kd = some (.ins (He.ga K "Definitions") dx [("sequences", .ref dq)]) ∧ StepsAt H l ss ∧ ss.length ≤ 1000 ∧
  ∀ p H', Ext H H' → StepsAt H' p ss → H p = none → Q (.ref p) H'
theorem sc_Definitions_expand : FnScope ["self", "steps", "step", "result"] ["self", "steps"] (defScope s_Definitions_expand) := ⟨rfl, rfl, rfl, by decide +kernel, rfl, by decide +kernel, by decide +kernel⟩
theorem k_Definitions_expand (T : Txt K mg) : FnR P w K mg base CX0 4 (He.ma K (He.ga K "Definitions") "expand") (sp_Definitions_expand K) := by
  obtain ⟨fd, F⟩ := T.f_Definitions_expand
  obtain ⟨tMAX_STEPS, gMAX_STEPS⟩ := T.x_MAX_STEPS
  refine (fun (G : FnOk P w K mg base CX0 4 _ fd _ (sp_Definitions_expand K)) => ?_) (F.ok sc_Definitions_expand (fun vs H Q E h => by obtain ⟨_, _, _, _, _, rfl, _⟩ := h; rfl) (fun cdv A outer s H vs Q E hr h => ?_))
  · exact (G.raw (F.bindsN fun _ _ _ _ _ _ us hl => match us, hl with | [_, _], _ => rfl) .nil).imp fun vs H Q E h => by rw [List.append_nil]; exact h
  · have hu := hu_of hr
    have hu0 : (A.deeper (envOfC _ _ s.heap.objs.size _ cdv)).units < cLine := Nat.lt_of_succ_lt hu
    refine ⟨_, PSs.nox (pss_cons (ps_expr (pe_cR (k_check_with_calls T) (hr.mono (by decide)) (by rfl) T.g_check_with_calls T.kp_check_with_calls pass0 (pa_cons (pv 1) pa_nil)))
  (pss_cons (ps_for PassesOwn.never rfl (pi_list (pv 1)) (pg_name (i := 2) sc_Definitions_expand.nd rfl (Or.inl rfl)) (pss_one (ps_if (PW.pt (pw_and (pt_cmpR op_eq (pe_ix ix_tup (pv 2) pe_int (fun _ _ => rfl)) pe_str (nomark _)) (pw_and1 (pt_cmp (pc_dnotin hu (pe_ix ix_tup (pv 2) pe_int (fun _ _ => rfl)) (pe_fld (pv 0) rfl)))))) pss_never pss_nil)))
  (pss_cons (ps_set (i := 3) sc_Definitions_expand.nd rfl (Or.inl rfl) (pe_lst pa_nil))
  (pss_cons (ps_for PassesOwn.never rfl (pi_list (pv 1)) (pg_name (i := 2) sc_Definitions_expand.nd rfl (Or.inl rfl)) (pss_cons (ps_expr (pe_bm PySem.F.plainAttrs_list PySem.F.slot_list_extend PySem.F.type_list_extend mt_extend (pv 3) (pa_cons (pe_ifExp (pt_cmpR op_eq (pe_ix ix_tup (pv 2) pe_int (fun _ _ => rfl)) pe_str (nomark _)) (pe_dget hu (pe_fld (pv 0) rfl) (pe_ix ix_tup (pv 2) pe_int (fun _ _ => rfl)) (fun _ _ => rfl)) (pe_lst (pa_cons (pv 2) pa_nil))) pa_nil)))
  (pss_one (ps_if (pt_cmpR op_gt (pe_callB call_len_seq (by rfl) T.n_len (by decide +kernel) (pa_cons (pv 3) pa_nil)) (pe_glob (v := .int 2000) (by rfl) gMAX_STEPS ⟨_, rfl⟩) (nomark _)) pss_never pss_nil))))
  (pss_one (ps_ret (pv 3))))))), ?_⟩
    obtain ⟨kd, l, dx, dq, ss, rfl, hk, hs, hn, q⟩ := h
    have hB : BIG = 1000000 := rfl
    refine ⟨_, rfl, l, ss, rfl, hs, fun H1 e1 => ?_⟩
    obtain ⟨xs, hl, hss⟩ := hs.ext e1
    have step0 : ∀ (Hx : Hp) (v : V) (st : Stp), StepAt Hx v st → ∃ t z r, v = .ref t ∧ Hx t = some (.tup (.str z :: r)) ∧ z ≠ ("call" : Str) := fun Hx v st ⟨t, e, ht, _⟩ => by
      cases st with
      | l => exact ⟨t, _, _, e, ht, by decide⟩
      | r => exact ⟨t, _, _, e, ht, by decide⟩
      | wr z => exact ⟨t, _, _, e, ht, by decide⟩
      | ex z => exact ⟨t, _, _, e, ht, by decide⟩
    have neD : ∀ z : Str, z ≠ ("call" : Str) → decide (V.str z = V.str "call") = false := fun z h => decide_eq_false fun e => h (by injection e)
    refine ⟨_, rfl, l, rfl, ⟨xs, SqL.of hl⟩, for_it (walk_list (xs := xs)) (fun i σ Hc => ∃ v, σ = [some (.ref kd), some (.ref l), v, none] ∧ Hc = H1) ⟨none, rfl, rfl⟩ (fun i σ Hc _ ⟨_, _, e⟩ => SqL.of (e ▸ hl)) ?_ ?_⟩
    · rintro i x σ Hc H2 hi ⟨v, rfl, rfl⟩ ⟨rfl, hx⟩
      obtain ⟨st, hst, hs1⟩ := hss.get hx
      obtain ⟨t, z, r, rfl, ht, hz⟩ := step0 _ _ _ hs1
      refine ⟨_, rfl, _, _, _, _, rfl, rfl, SqT.of ht, atI_nat (j := 0) rfl, rfl, _, rfl, ?_⟩
      rw [neD z hz]
      exact ifF (ifF ⟨_, rfl, rfl⟩)
    · rintro σ Hc ⟨v, rfl, rfl⟩
      refine ⟨(by show 0 ≤ sizeLine; decide), fun D hD => ?_⟩
      have hl2 := Ext.upd (o := .lst []) hD _ _ hl
      have lD : l ≠ D := ne_of_none hl hD
      refine ⟨_, rfl, l, rfl, ⟨xs, SqL.of hl2⟩, for_it (walk_list (xs := xs)) (fun i σ Hd => ∃ v, σ = [some (.ref kd), some (.ref l), v, some (.ref D)] ∧ ExtBut D Hc Hd ∧ Hd D = some (.lst (xs.take i))) ⟨_, rfl, ExtBut.refl.put, upd_same⟩ (fun i σ Hd _ ⟨_, _, e, _⟩ => SqL.of (e _ _ lD hl)) ?_ ?_⟩
      · rintro i x σ Hd H2 hi ⟨v, rfl, eb, hDl⟩ ⟨rfl, hx⟩
        obtain ⟨st, hst, hs1⟩ := hss.get hx
        obtain ⟨t, z, r, rfl, ht, hz⟩ := step0 _ _ _ hs1
        have ht2 := eb _ _ (ne_of_none ht hD) ht
        have hi2 : i < ss.length := by rw [← hss.1]; exact hi
        refine ⟨_, rfl, .inl ⟨rfl, _, SqL.of hDl⟩, _, rfl, _, _, _, _, rfl, rfl, SqT.of ht2, atI_nat (j := 0) rfl, rfl, _, rfl, ?_⟩
        rw [neD z hz]
        refine ifF ⟨_, rfl, (by show 1 ≤ sizeLine; decide), fun L hL => ?_⟩
        have hDl3 := Ext.upd (o := .lst [V.ref t]) hL _ _ hDl
        have LD : L ≠ D := fun e => by rw [e] at hL; rw [hDl] at hL; cases hL
        refine ⟨_, L, _, _, rfl, rfl, hDl3, upd_same, ?_, ?_⟩
        · rw [List.length_take]
          have : xs.length = ss.length := hss.1
          refine Nat.le_of_lt (big_line (n := _) ?_)
          show min i xs.length + 1 ≤ BIG
          omega
        · refine ⟨_, rfl, _, _, rfl, .inl (SqL.of upd_same), _, _, rfl, rfl, _, rfl, ?_⟩
          refine ifD (fun z => ?_) fun _ => ?_
          · exfalso
            have h1 : (xs.take i ++ [V.ref t]).length ≤ 1000 := by
              rw [List.length_append, List.length_take]
              have : xs.length = ss.length := hss.1
              show min i xs.length + 1 ≤ 1000
              omega
            omega
          · refine ⟨_, rfl, (eb.ext (Ext.upd hL)).put, ?_⟩
            rw [upd_same, take_succ' hx]
      · rintro σ Hd ⟨v, rfl, eb, hDl⟩
        rw [List.take_length] at hDl
        have eH : Ext H Hd := ExtBut.old e1 eb (e1.none hD)
        exact ⟨_, rfl, q D Hd eH ⟨xs, hDl, hss.mono fun _ _ h => h.ext (ExtBut.old (fun _ _ h => h) eb hD)⟩ (e1.none hD)⟩
def sp_Session_init (K : PySem.W.Frag) : Sp := fun vs H Q _ => ∃ (x dx c : Addr) (h : Int) (b : Str) (t : Int → Str) (n : Nat), vs = [.ref x, .ref c, .int h] ∧ H x = some (.ins (He.ga K "Session") dx []) ∧ TapeAt K H c b t n ∧
  ∀ H' s, ExtBut x H H' → SessAt K H' x s ⟨b, (t, h), [], []⟩ n 0 → H s.ld = none → H s.lp = none → H s.lu = none → H s.le = none → Q .non H'
theorem sc_Session_init : FnScope ["self", "tape", "head"] ["self", "tape", "head"] (defScope s_Session_init) := ⟨rfl, rfl, rfl, by decide +kernel, rfl, by decide +kernel, by decide +kernel⟩
theorem k_Session_init (T : Txt K mg) : FnN P w K mg base CX0 4 (He.ma K (He.ga K "Session") "__init__") 2 ["head"] (sp_Session_init K) := by
  obtain ⟨fd, F⟩ := T.f_Session_init
  refine (fun (G : FnOk P w K mg base CX0 4 _ fd _ (sp_Session_init K)) => ?_) (F.ok sc_Session_init (fun vs H Q E h => by obtain ⟨_, _, _, _, _, _, _, rfl, _⟩ := h; rfl) (fun cdv A outer s H vs Q E hr h => ?_))
  · exact fnN_of G (kbn_dv F (by simp) fun _ _ _ _ _ _ _ us its ws l1 l2 l3 => match us, l1, its, l2, ws, l3 with | [_, _], _, [_], _, [_], _ => ⟨_, rfl, rfl⟩) (fun _ _ _ _ => rfl)
  · have hu := hu_of hr
    have hu0 : (A.deeper (envOfC _ _ s.heap.objs.size _ cdv)).units < cLine := Nat.lt_of_succ_lt hu
    refine ⟨_, PSs.nox (pss_cons (ps_if (PW.pt (pw_and (pt_cmpR op_notN (pv 1) pe_non (nomark _)) (pw_and1 (pt_not (pt_val (pe_callB call_isi (by rfl) T.n_isinstance (by decide +kernel) (pa_cons (pv 1) (pa_cons (pe_glob (v := .ref (He.ga _ "Tape")) (by rfl) T.g_Tape rfl) pa_nil)))))))) pss_never pss_nil)
  (pss_cons (ps_expr (pe_cR (k_check_integer T) (hr.mono (by decide)) (by rfl) T.g_check_integer T.kp_check_integer pass0 (pa_cons (pv 2) pa_nil)))
  (pss_cons (ps_fld (pv 0) (pe_ifExp (pt_cmpR op_isN (pv 1) pe_non (nomark _)) pe_no (pv 1)) rfl)
  (pss_cons (ps_fld (pv 0) (pv 2) rfl)
  (pss_cons (ps_fld (pv 0) (StX.pe_makeR T.k_Definitions (k_Definitions_init T) (hr.mono (by decide)) (by rfl) T.g_Definitions pass0 (pa_cons pe_dnewK pa_nil)) rfl)
  (pss_cons (ps_fld (pv 0) (pe_lst pa_nil) rfl)
  (pss_cons (ps_fld (pv 0) (pe_lst pa_nil) rfl)
  (pss_cons (ps_fld (pv 0) (pe_lst pa_nil) rfl)
  (pss_one (ps_fld (pv 0) (pe_lst pa_nil) rfl)))))))))), ?_⟩
    obtain ⟨x, dx, c, h, b, t, n, rfl, hx, ht, q⟩ := h
    obtain ⟨dxt, dd, mt, g1, g2, g3⟩ := id ht
    refine ⟨_, rfl, rfl, _, rfl, ifT ?_⟩
    refine ⟨_, rfl, _, _, _, _, true, rfl, .own _, T.isi_Tape g1, kit_self _, true, rfl, ifF ?_⟩
    refine ⟨_, rfl, h, rfl, ?_⟩
    refine ⟨_, rfl, rfl, _, rfl, ifF ?_⟩
    refine ⟨_, rfl, _, rfl, x, _, dx, _, rfl, hx, T.c_Session, T.a_Session_own_tape, (by show 0 < 1000; decide), ?_⟩
    refine ⟨_, rfl, _, rfl, x, _, dx, _, rfl, upd_same, T.c_Session, T.a_Session_own_head, (by show 1 < 1000; decide), ?_⟩
    rw [upd_upd]
    have b0 : ExtBut x H (upd H x (.ins (He.ga K "Session") dx (putF "own_head" (.int h) (putF "own_tape" (.ref c) [])))) := ExtBut.refl.put
    intro d hd
    intro kd kdx nk nkx nek
    have e1 : Ext (upd H x (.ins (He.ga K "Session") dx (putF "own_head" (.int h) (putF "own_tape" (.ref c) [])))) _ := Ext.upd (o := .dK []) hd
    have em := made_ext (C := He.ga K "Definitions") nk nkx ExtBut.refl
    refine ⟨kd, kdx, d, rfl, upd_same, em _ _ upd_same, fun H2 dq eb2 hk2 hq2 => ⟨rfl, ?_⟩⟩
    have e2 := e1.trans (made_ext nk nkx eb2)
    have hx2 := e2 _ _ upd_same
    have b2 : ExtBut x H H2 := b0.ext e2
    refine ⟨_, rfl, x, _, dx, _, rfl, hx2, T.c_Session, T.a_Session_known, (by show 2 < 1000; decide), ?_⟩
    have xkd : kd ≠ x := fun z => by
      rw [z] at nk
      rw [e1 _ _ upd_same] at nk
      cases nk
    have xdq : dq ≠ x := ne_of hq2 hx2 (by intro z; cases z)
    refine ⟨(by show 0 ≤ sizeLine; decide), fun l1 n1 => ⟨_, rfl, x, _, dx, _, rfl, Ext.upd n1 _ _ upd_same, T.c_Session, T.a_Session_effects_done, (by show 3 < 1000; decide), ?_⟩⟩
    have l1x : l1 ≠ x := fun z => by rw [z, upd_same] at n1; cases n1
    refine ⟨(by show 0 ≤ sizeLine; decide), fun l2 n2 => ⟨_, rfl, x, _, dx, _, rfl, Ext.upd n2 _ _ upd_same, T.c_Session, T.a_Session_places_before, (by show 4 < 1000; decide), ?_⟩⟩
    have l2x : l2 ≠ x := fun z => by rw [z, upd_same] at n2; cases n2
    refine ⟨(by show 0 ≤ sizeLine; decide), fun l3 n3 => ⟨_, rfl, x, _, dx, _, rfl, Ext.upd n3 _ _ upd_same, T.c_Session, T.a_Session_undone, (by show 5 < 1000; decide), ?_⟩⟩
    have l3x : l3 ≠ x := fun z => by rw [z, upd_same] at n3; cases n3
    refine ⟨(by show 0 ≤ sizeLine; decide), fun l4 n4 => ⟨_, rfl, x, _, dx, _, rfl, Ext.upd n4 _ _ upd_same, T.c_Session, T.a_Session_events, (by show 6 < 1000; decide), ?_⟩⟩
    have l4x : l4 ≠ x := fun z => by rw [z, upd_same] at n4; cases n4
    rw [upd_ne l1x] at n1
    rw [upd_ne l2x] at n2
    have l21 : l2 ≠ l1 := fun z => by rw [z, upd_same] at n2; cases n2
    rw [upd_ne l21, upd_ne l2x] at n2
    rw [upd_ne l3x] at n3
    have l32 : l3 ≠ l2 := fun z => by rw [z, upd_same] at n3; cases n3
    rw [upd_ne l32, upd_ne l3x] at n3
    have l31 : l3 ≠ l1 := fun z => by rw [z, upd_same] at n3; cases n3
    rw [upd_ne l31, upd_ne l3x] at n3
    rw [upd_ne l4x] at n4
    have l43 : l4 ≠ l3 := fun z => by rw [z, upd_same] at n4; cases n4
    rw [upd_ne l43, upd_ne l4x] at n4
    have l42 : l4 ≠ l2 := fun z => by rw [z, upd_same] at n4; cases n4
    rw [upd_ne l42, upd_ne l4x] at n4
    have l41 : l4 ≠ l1 := fun z => by rw [z, upd_same] at n4; cases n4
    rw [upd_ne l41, upd_ne l4x] at n4
    have hF : ∀ {l : Addr}, l ≠ x → H2 l = none → H l = none := fun {l} hlx hl => by
      cases z : H l with
      | none => rfl
      | some o =>
        rw [b2 _ _ hlx z] at hl
        cases hl
    refine q _ ⟨c, kd, l1, l2, l3, l4⟩ ?_ ⟨⟨dx, upd_same⟩, ⟨[], [], [], [], ?_, ?_, ?_, ?_, Nat.le_refl _, ?_⟩, Ne.symm l21, Ne.symm l31, Ne.symm l41, Ne.symm l32, Ne.symm l42, Ne.symm l43⟩ (hF l1x n1) (hF l2x n2) (hF l3x n3) (hF l4x n4)
    · intro u o hu h1
      have h2 := b2 _ _ hu h1
      have k1 := ne_of_none h2 n1
      have k2 := ne_of_none h2 n2
      have k3 := ne_of_none h2 n3
      have k4 := ne_of_none h2 n4
      rw [upd_ne hu, upd_ne k4, upd_ne hu, upd_ne k3, upd_ne hu, upd_ne k2, upd_ne hu, upd_ne k1, upd_ne hu]
      exact h2
    · show upd _ _ _ l1 = _
      rw [upd_ne l1x, upd_ne (Ne.symm l41), upd_ne l1x, upd_ne (Ne.symm l31), upd_ne l1x, upd_ne (Ne.symm l21), upd_ne l1x, upd_same]
    · show upd _ _ _ l2 = _
      rw [upd_ne l2x, upd_ne (Ne.symm l42), upd_ne l2x, upd_ne (Ne.symm l32), upd_ne l2x, upd_same]
    · show upd _ _ _ l3 = _
      rw [upd_ne l3x, upd_ne (Ne.symm l43), upd_ne l3x, upd_same]
    · show upd _ _ _ l4 = _
      rw [upd_ne l4x, upd_same]
    · have up : ∀ {u : Addr} {o : HO}, u ≠ x → H2 u = some o → cut [x] H2 u = some o := fun {u o} hu h1 => by rw [cut_out (by simpa using hu)]; exact h1
      refine SesC.ext (X := cut [x] H2) ⟨⟨dxt, dd, mt, up (ins_ne g1 hx (by intro z; cases z)) (b2 _ _ (ins_ne g1 hx (by intro z; cases z)) g1), up (ne_of g2 hx (by intro z; cases z)) (b2 _ _ (ne_of g2 hx (by intro z; cases z)) g2), g3⟩, ⟨kdx, dq, up xkd hk2, up xdq hq2⟩, All2.nil, All2.nil, All2.nil, trivial⟩ (fun u o hu => ?_)
      have hux : u ≠ x := fun z => by rw [z, cut_in (by simp)] at hu; cases hu
      rw [cut_out (by simpa using hux)] at hu
      have k1 := ne_of_none hu n1
      have k2 := ne_of_none hu n2
      have k3 := ne_of_none hu n3
      have k4 := ne_of_none hu n4
      rw [cut_out (by simp [Sa.own, hux, k1, k2, k3, k4]), upd_ne hux, upd_ne k4, upd_ne hux, upd_ne k3, upd_ne hux, upd_ne k2, upd_ne hux, upd_ne k1, upd_ne hux]
      exact hu
def sp_Session_len (K : PySem.W.Frag) : Sp := fun vs H Q _ => ∃ (a : Addr) (s : Sa) (st : Sn) (nT ne : Nat), vs = [.ref a] ∧ SessAt K H a s st nT ne ∧ Q (.int st.hist.length) H
theorem sc_Session_len : FnScope ["self"] ["self"] (defScope s_Session_len) := ⟨rfl, rfl, rfl, by decide +kernel, rfl, by decide +kernel, by decide +kernel⟩
theorem k_Session_len (T : Txt K mg) : FnR P w K mg base CX0 1 (He.ma K (He.ga K "Session") "__len__") (sp_Session_len K) := by
  obtain ⟨fd, F⟩ := T.f_Session_len
  refine (fun (G : FnOk P w K mg base CX0 1 _ fd _ (sp_Session_len K)) => ?_) (F.ok sc_Session_len (fun vs H Q E h => by obtain ⟨_, _, _, _, _, rfl, _⟩ := h; rfl) (fun cdv A outer s H vs Q E hr h => ?_))
  · exact (G.raw (F.bindsN fun _ _ _ _ _ _ us hl => match us, hl with | [_], _ => rfl) .nil).imp fun vs H Q E h => by rw [List.append_nil]; exact h
  · have hu := hu_of hr
    have hu0 : (A.deeper (envOfC _ _ s.heap.objs.size _ cdv)).units < cLine := Nat.lt_of_succ_lt hu
    refine ⟨_, PSs.nox (pss_one (ps_ret (pe_callB call_len_seq (by rfl) T.n_len (by decide +kernel) (pa_cons (pe_fld (pv 0) rfl) pa_nil)))), ?_⟩
    obtain ⟨a, s0, st, nT, ne, rfl, ⟨⟨dx, ha⟩, ⟨evs, pvs, uvs, xs, h1, h2, h3, h4, h5, C⟩, _⟩, q⟩ := h
    refine ⟨_, rfl, a, _, dx, _, _, rfl, ha, T.c_Session, T.a_Session_effects_done, seF_4 _ _ _ _ _ _ _, _, _, rfl, .inl (SqL.of h1), ?_⟩
    rw [C.ev.1]
    exact q
def sp_Session_tape (K : PySem.W.Frag) : Sp := fun vs H Q _ => ∃ (a : Addr) (s : Sa) (st : Sn) (nT ne : Nat), vs = [.ref a] ∧ SessAt K H a s st nT ne ∧ Q (.ref s.c) H
theorem sc_Session_tape : FnScope ["self"] ["self"] (defScope s_Session_tape) := ⟨rfl, rfl, rfl, by decide +kernel, rfl, by decide +kernel, by decide +kernel⟩
theorem k_Session_tape (T : Txt K mg) : FnR P w K mg base CX0 1 (gFn K "Session" "tape") (sp_Session_tape K) := by
  obtain ⟨fd, F⟩ := T.f_Session_tape
  refine (fun (G : FnOk P w K mg base CX0 1 _ fd _ (sp_Session_tape K)) => ?_) (F.ok sc_Session_tape (fun vs H Q E h => by obtain ⟨_, _, _, _, _, rfl, _⟩ := h; rfl) (fun cdv A outer s H vs Q E hr h => ?_))
  · exact (G.raw (F.bindsN fun _ _ _ _ _ _ us hl => match us, hl with | [_], _ => rfl) .nil).imp fun vs H Q E h => by rw [List.append_nil]; exact h
  · have hu := hu_of hr
    have hu0 : (A.deeper (envOfC _ _ s.heap.objs.size _ cdv)).units < cLine := Nat.lt_of_succ_lt hu
    refine ⟨_, PSs.nox (pss_one (ps_ret (pe_fld (pv 0) rfl))), ?_⟩
    obtain ⟨a, s0, st, nT, ne, rfl, ⟨⟨dx, ha⟩, _, _⟩, q⟩ := h
    exact ⟨_, rfl, a, _, dx, _, _, rfl, ha, T.c_Session, T.a_Session_own_tape, seF_1 _ _ _ _ _ _ _, q⟩
def sp_Session_head (K : PySem.W.Frag) : Sp := fun vs H Q _ => ∃ (a : Addr) (s : Sa) (st : Sn) (nT ne : Nat), vs = [.ref a] ∧ SessAt K H a s st nT ne ∧ Q (.int st.cur.2) H
theorem sc_Session_head : FnScope ["self"] ["self"] (defScope s_Session_head) := ⟨rfl, rfl, rfl, by decide +kernel, rfl, by decide +kernel, by decide +kernel⟩
theorem k_Session_head (T : Txt K mg) : FnR P w K mg base CX0 1 (gFn K "Session" "head") (sp_Session_head K) := by
  obtain ⟨fd, F⟩ := T.f_Session_head
  refine (fun (G : FnOk P w K mg base CX0 1 _ fd _ (sp_Session_head K)) => ?_) (F.ok sc_Session_head (fun vs H Q E h => by obtain ⟨_, _, _, _, _, rfl, _⟩ := h; rfl) (fun cdv A outer s H vs Q E hr h => ?_))
  · exact (G.raw (F.bindsN fun _ _ _ _ _ _ us hl => match us, hl with | [_], _ => rfl) .nil).imp fun vs H Q E h => by rw [List.append_nil]; exact h
  · have hu := hu_of hr
    have hu0 : (A.deeper (envOfC _ _ s.heap.objs.size _ cdv)).units < cLine := Nat.lt_of_succ_lt hu
    refine ⟨_, PSs.nox (pss_one (ps_ret (pe_fld (pv 0) rfl))), ?_⟩
    obtain ⟨a, s0, st, nT, ne, rfl, ⟨⟨dx, ha⟩, _, _⟩, q⟩ := h
    exact ⟨_, rfl, a, _, dx, _, _, rfl, ha, T.c_Session, T.a_Session_own_head, seF_2 _ _ _ _ _ _ _, q⟩
/-- a new list of the history's effects -/
def sp_Session_history (K : PySem.W.Frag) : Sp := fun vs H Q _ => ∃ (a : Addr) (s : Sa) (st : Sn) (nT ne : Nat), vs = [.ref a] ∧ SessAt K H a s st nT ne ∧ ∀ p evs, H s.ld = some (.lst evs) → EffsAt K (cut (s.own a) H) evs st.hist 1000 → H p = none → Q (.ref p) (upd H p (.lst evs))
theorem sc_Session_history : FnScope ["self"] ["self"] (defScope s_Session_history) := ⟨rfl, rfl, rfl, by decide +kernel, rfl, by decide +kernel, by decide +kernel⟩
theorem k_Session_history (T : Txt K mg) : FnR P w K mg base CX0 1 (He.ma K (He.ga K "Session") "history") (sp_Session_history K) := by
  obtain ⟨fd, F⟩ := T.f_Session_history
  refine (fun (G : FnOk P w K mg base CX0 1 _ fd _ (sp_Session_history K)) => ?_) (F.ok sc_Session_history (fun vs H Q E h => by obtain ⟨_, _, _, _, _, rfl, _⟩ := h; rfl) (fun cdv A outer s H vs Q E hr h => ?_))
  · exact (G.raw (F.bindsN fun _ _ _ _ _ _ us hl => match us, hl with | [_], _ => rfl) .nil).imp fun vs H Q E h => by rw [List.append_nil]; exact h
  · have hu := hu_of hr
    have hu0 : (A.deeper (envOfC _ _ s.heap.objs.size _ cdv)).units < cLine := Nat.lt_of_succ_lt hu
    refine ⟨_, PSs.nox (pss_one (ps_ret (pe_callTy call_list_of (by rfl) T.n_list (by decide +kernel) (pa_cons (pe_fld (pv 0) rfl) pa_nil)))), ?_⟩
    obtain ⟨a, s0, st, nT, ne, rfl, ⟨⟨dx, ha⟩, ⟨evs, pvs, uvs, xs, h1, h2, h3, h4, h5, C⟩, _⟩, q⟩ := h
    exact ⟨_, rfl, a, _, dx, _, _, rfl, ha, T.c_Session, T.a_Session_effects_done, seF_4 _ _ _ _ _ _ _, _, _, rfl, .inl (SqL.of h1), fun p hp => q p evs h1 C.ev hp⟩
theorem EffAt.re {K : PySem.W.Frag} {H : Hp} {a : Addr} {e : Eff} {n : Nat} (h : EffAt K H a e n) : Re e := let ⟨dx, dn, dp, mn, mp, h1, h2, h3, h4, h5, h6, h7, h8⟩ := h; ⟨⟨mn, mp, h4, h5⟩, h8⟩
theorem EffsAt.re {K : PySem.W.Frag} {H : Hp} {vs : List V} {es : List Eff} {n : Nat} (h : EffsAt K H vs es n) : ∀ e ∈ es, Re e := fun e he => by
  obtain ⟨i, hi⟩ := List.getElem?_of_mem he
  obtain ⟨v, _, a, _, h2⟩ := h.get' hi
  exact h2.re
def sp_Session_total_effect (K : PySem.W.Frag) : Sp := fun vs H Q _ => ∃ (a : Addr) (s : Sa) (st : Sn) (nT ne : Nat), vs = [.ref a] ∧ SessAt K H a s st nT ne ∧ st.hist.length ≤ 200 ∧ ∀ p H', Ext H H' → EffAt K H' p (build st.hist).eff 400000 → H p = none → Q (.ref p) H'
theorem sc_Session_total_effect : FnScope ["self"] ["self"] (defScope s_Session_total_effect) := ⟨rfl, rfl, rfl, by decide +kernel, rfl, by decide +kernel, by decide +kernel⟩
theorem k_Session_total_effect (T : Txt K mg) : FnR P w K mg base CX0 8 (He.ma K (He.ga K "Session") "total_effect") (sp_Session_total_effect K) := by
  obtain ⟨fd, F⟩ := T.f_Session_total_effect
  refine (fun (G : FnOk P w K mg base CX0 8 _ fd _ (sp_Session_total_effect K)) => ?_) (F.ok sc_Session_total_effect (fun vs H Q E h => by obtain ⟨_, _, _, _, _, rfl, _⟩ := h; rfl) (fun cdv A outer s H vs Q E hr h => ?_))
  · exact (G.raw (F.bindsN fun _ _ _ _ _ _ us hl => match us, hl with | [_], _ => rfl) .nil).imp fun vs H Q E h => by rw [List.append_nil]; exact h
  · have hu := hu_of hr
    have hu0 : (A.deeper (envOfC _ _ s.heap.objs.size _ cdv)).units < cLine := Nat.lt_of_succ_lt hu
    refine ⟨_, PSs.nox (pss_one (ps_ret (StX.pe_callS1 (k_compose T) (hr.mono (by decide)) T.kp_compose (by rfl) T.g_compose pass0 (pe_fld (pv 0) rfl)))), ?_⟩
    obtain ⟨a, s0, st, nT, ne, rfl, ⟨⟨dx, ha⟩, ⟨evs, pvs, uvs, xs, h1, h2, h3, h4, h5, C⟩, _⟩, hn, q⟩ := h
    have hB : BIG = 1000000 := rfl
    have ho := ((okE_append st.hist st.und st.p0).mp C.ok).1
    refine ⟨_, rfl, a, _, dx, _, _, rfl, ha, T.c_Session, T.a_Session_effects_done, seF_4 _ _ _ _ _ _ _, ?_⟩
    refine ⟨_, _, rfl, .inr (SqL.of h1), ?_⟩
    refine ⟨st.hist, 1000, C.ev.ext cut_sub, by rw [C.ev.1]; omega, okb_of ho C.ev.re, by omega, fun p H' e' he np => ?_⟩
    exact q p H' e' (he.le (by omega)) np
def sp_Session_expand (K : PySem.W.Frag) : Sp := fun vs H Q _ => ∃ (a l : Addr) (s : Sa) (st : Sn) (nT ne : Nat) (ss : List Stp), vs = [.ref a, .ref l] ∧ SessAt K H a s st nT ne ∧ StepsAt H l ss ∧ ss.length ≤ 1000 ∧ ∀ p H', Ext H H' → StepsAt H' p ss → H p = none → Q (.ref p) H'
theorem sc_Session_expand : FnScope ["self", "item"] ["self", "item"] (defScope s_Session_expand) := ⟨rfl, rfl, rfl, by decide +kernel, rfl, by decide +kernel, by decide +kernel⟩
theorem k_Session_expand (T : Txt K mg) : FnR P w K mg base CX0 5 (He.ma K (He.ga K "Session") "expand") (sp_Session_expand K) := by
  obtain ⟨fd, F⟩ := T.f_Session_expand
  refine (fun (G : FnOk P w K mg base CX0 5 _ fd _ (sp_Session_expand K)) => ?_) (F.ok sc_Session_expand (fun vs H Q E h => by obtain ⟨_, _, _, _, _, _, _, rfl, _⟩ := h; rfl) (fun cdv A outer s H vs Q E hr h => ?_))
  · exact (G.raw (F.bindsN fun _ _ _ _ _ _ us hl => match us, hl with | [_, _], _ => rfl) .nil).imp fun vs H Q E h => by rw [List.append_nil]; exact h
  · have hu := hu_of hr
    have hu0 : (A.deeper (envOfC _ _ s.heap.objs.size _ cdv)).units < cLine := Nat.lt_of_succ_lt hu
    refine ⟨_, PSs.nox (pss_one (ps_ret (pe_ifExp (pt_val (pe_callB call_isi (by rfl) T.n_isinstance (by decide +kernel) (pa_cons (pv 1) (pa_cons (pe_bltn (v := .ty "str") (by rfl) T.n_str (by decide +kernel) rfl) pa_nil)))) pe_no (pe_methR (pe_fld (pv 0) rfl) T.c_Definitions T.m_Definitions_expand (k_Definitions_expand T) (hr.mono (by decide)) pass0 (pa_cons (pv 1) pa_nil))))), ?_⟩
    obtain ⟨a, l, s0, st, nT, ne, ss, rfl, ⟨⟨dx, ha⟩, ⟨evs, pvs, uvs, xs, h1, h2, h3, h4, h5, C⟩, _⟩, hs, hn, q⟩ := h
    obtain ⟨vl, hl, hss⟩ := id hs
    obtain ⟨kdx, dq, k1, k2⟩ := C.kn
    refine ⟨_, rfl, _, _, _, _, false, rfl, .ty _, .base (.lst hl), kit_ty (by decide +kernel), false, rfl, ifF ?_⟩
    refine ⟨_, rfl, a, _, dx, _, _, rfl, ha, T.c_Session, T.a_Session_known, seF_3 _ _ _ _ _ _ _, s0.kd, kdx, _, rfl, cut_sub _ _ k1, rfl, _, rfl, ?_⟩
    exact ⟨s0.kd, l, kdx, dq, ss, rfl, cut_sub _ _ k1, hs, hn, q⟩
end
end Tp
/-! part K13 -/
set_option Elab.async false
set_option linter.all false
set_option maxRecDepth 100000
set_option maxHeartbeats 4000000
/-! the defs, part 13: act, do, repeat -/
namespace Tp
open PySem PySem.Spec PyProof.Rows L2
theorem own_mem {s : Sa} {a b : Addr} : b ∈ s.own a ↔ b = a ∨ b = s.ld ∨ b = s.lp ∨ b = s.lu ∨ b = s.le := by simp [Sa.own]
theorem SessAt.a_ne {K : PySem.W.Frag} {H : Hp} {a : Addr} {s : Sa} {st : Sn} {nT ne : Nat} (x : SessAt K H a s st nT ne) : a ≠ s.ld ∧ a ≠ s.lp ∧ a ≠ s.lu ∧ a ≠ s.le := by
  obtain ⟨dx, h⟩ := x.at_
  obtain ⟨evs, pvs, uvs, xs, h1, h2, h3, h4, _⟩ := x.ls
  exact ⟨ne_of h h1 (by intro z; cases z), ne_of h h2 (by intro z; cases z), ne_of h h3 (by intro z; cases z), ne_of h h4 (by intro z; cases z)⟩
theorem SessAt.acted {K : PySem.W.Frag} {H H' : Hp} {a ea c' pt pn dx : Addr} {s : Sa} {st : Sn} {nT ne m : Nat} {evs pvs : List V} {e : Eff} (x : SessAt K H a s st nT ne) (h1 : H s.ld = some (.lst evs)) (h2 : H s.lp = some (.lst pvs))
    (he : EffAt K (cut (s.own a) H) ea e 1000) (ht : TapeAt K (cut (s.own a) H) c' st.b (ap e st.cur).1 m) (hm : nT ≤ m) (hf : Fits e st.cur.1 st.cur.2)
    (keep : ∀ b o, b ≠ a → b ≠ s.ld → b ≠ s.lp → H b = some o → H' b = some o) (npt : H pt = none) (npn : H pn = none) (hpt : H' pt = some (.tup [.ref s.c, .int st.cur.2])) (hpn : H' pn = some (.lst []))
    (ha : H' a = some (.ins (He.ga K "Session") dx (seF c' (ap e st.cur).2 s.kd s.ld s.lp pn s.le))) (hld : H' s.ld = some (.lst (evs ++ [.ref ea]))) (hlp : H' s.lp = some (.lst (pvs ++ [.ref pt]))) :
    SessAt K H' a ⟨c', s.kd, s.ld, s.lp, pn, s.le⟩ ⟨st.b, st.p0, st.hist ++ [e], []⟩ m ne := by
  obtain ⟨n1, n2, n3, n4⟩ := x.a_ne
  obtain ⟨k1, k2, k3, k4, k5, k6⟩ := x.ne
  obtain ⟨evs', pvs', uvs, xs, a1, a2, a3, a4, a5, C⟩ := x.ls
  rw [h1] at a1
  rw [h2] at a2
  cases a1
  cases a2
  have hcur : (Sn.mk st.b st.p0 (st.hist ++ [e]) []).cur = ap e st.cur := runE_snoc _ _ _
  have pnne : ∀ {b : Addr} {o : HO}, H b = some o → b ≠ pn := fun h z => by rw [z, npn] at h; cases h
  have ptne : ∀ {b : Addr} {o : HO}, H b = some o → pt ≠ b := fun h z => by rw [← z, npt] at h; cases h
  obtain ⟨dx0, ha0⟩ := x.at_
  have eX : Ext (cut (s.own a) H) H' := fun b o h => by
    by_cases c : b ∈ s.own a
    · rw [cut_in c] at h
      cases h
    · have c' := fun z => c (own_mem.mpr z)
      exact keep b o (fun z => c' (.inl z)) (fun z => c' (.inr (.inl z))) (fun z => c' (.inr (.inr (.inl z)))) (by rw [cut_out c] at h; exact h)
  have eX2 : Ext (cut (s.own a) H) (cut ((Sa.mk c' s.kd s.ld s.lp pn s.le).own a) H') := eX.cut fun b hb => by
    rcases own_mem.mp hb with h | h | h | h | h
    · exact cut_in (own_mem.mpr (.inl h))
    · exact cut_in (own_mem.mpr (.inr (.inl h)))
    · exact cut_in (own_mem.mpr (.inr (.inr (.inl h))))
    · have h' : b = pn := h
      rw [h']
      by_cases c : pn ∈ s.own a
      · exact cut_in c
      · exact (cut_out c).trans npn
    · exact cut_in (own_mem.mpr (.inr (.inr (.inr (.inr h)))))
  have hle : H' s.le = some (.lst xs) := keep _ _ (Ne.symm n4) (Ne.symm k3) (Ne.symm k5) a4
  have ptn : pt ∉ (Sa.mk c' s.kd s.ld s.lp pn s.le).own a := fun z => by
    rcases own_mem.mp z with z | z | z | z | z
    · exact ptne ha0 z
    · exact ptne h1 z
    · exact ptne h2 z
    · have z' : pt = pn := z
      rw [z', hpn] at hpt
      cases hpt
    · exact ptne a4 z
  refine ⟨⟨dx, by rw [hcur]; exact ha⟩, ⟨evs ++ [.ref ea], pvs ++ [.ref pt], [], xs, hld, hlp, hpn, hle, a5, ⟨?_, ?_, ?_, ?_, All2.nil, ?_⟩⟩, k1, pnne h1, k3, pnne h2, k5, Ne.symm (pnne a4)⟩
  · rw [hcur]
    exact ht.ext eX2
  · obtain ⟨dk, dq, q1, q2⟩ := C.kn
    exact ⟨dk, dq, eX2 _ _ q1, eX2 _ _ q2⟩
  · exact (C.ev.ext eX2).snoc ⟨ea, rfl, he.ext eX2⟩
  · show All2 _ _ (plL (st.hist ++ [e]) st.p0)
    rw [plL_snoc]
    exact (C.pv.mono fun _ _ h => (h.ext eX2).le hm).snoc ⟨pt, rfl, s.c, by rw [cut_out ptn]; exact hpt, (C.tp.ext eX2).le hm⟩
  · show OkE ((st.hist ++ [e]) ++ []) st.p0
    rw [List.append_nil]
    exact (okE_append _ _ _).mpr ⟨((okE_append _ _ _).mp C.ok).1, hf, trivial⟩
theorem FrL.new {H0 : Hp} {s : Sa} {a c' pn : Addr} (f : FrL H0 (s.own a)) (n : H0 pn = none) : FrL H0 ((Sa.mk c' s.kd s.ld s.lp pn s.le).own a) := fun b hb => by
  rcases own_mem.mp hb with h | h | h | h | h
  · exact f b (own_mem.mpr (.inl h))
  · exact f b (own_mem.mpr (.inr (.inl h)))
  · exact f b (own_mem.mpr (.inr (.inr (.inl h))))
  · have h' : b = pn := h
    rw [h']
    exact n
  · exact f b (own_mem.mpr (.inr (.inr (.inr (.inr h)))))
section
variable {P : Program} {w : World} {K : PySem.W.Frag} {mg : Str → Option Value} {base : Heap}
def sp_Session_act (K : PySem.W.Frag) : Sp := fun vs H Q _ => ∃ (a dx c c' ea r ld lp lu le kd : Addr) (h h' : Int) (evs pvs : List V), vs = [.ref a, .ref ea, .ref r] ∧ H a = some (.ins (He.ga K "Session") dx (seF c h kd ld lp lu le)) ∧ H ld = some (.lst evs) ∧ H lp = some (.lst pvs) ∧ ld ≠ lp ∧
  evs.length < BIG ∧ pvs.length < BIG ∧ H r = some (.tup [.ref c', .int h']) ∧
  ∀ H' pt pn, (∀ b o, b ≠ a → b ≠ ld → b ≠ lp → H b = some o → H' b = some o) → H pt = none → H pn = none → H' pt = some (.tup [.ref c, .int h]) → H' pn = some (.lst []) → H' a = some (.ins (He.ga K "Session") dx (seF c' h' kd ld lp pn le)) →
    H' ld = some (.lst (evs ++ [.ref ea])) → H' lp = some (.lst (pvs ++ [.ref pt])) → Q (.int h') H'
theorem sc_Session_act : FnScope ["self", "effect", "place"] ["self", "effect", "place"] (defScope s_Session_act) := ⟨rfl, rfl, rfl, by decide +kernel, rfl, by decide +kernel, by decide +kernel⟩
theorem k_Session_act (T : Txt K mg) : FnR P w K mg base CX0 1 (He.ma K (He.ga K "Session") "act") (sp_Session_act K) := by
  obtain ⟨fd, F⟩ := T.f_Session_act
  refine (fun (G : FnOk P w K mg base CX0 1 _ fd _ (sp_Session_act K)) => ?_) (F.ok sc_Session_act (fun vs H Q E h => by obtain ⟨_, _, _, _, _, _, _, _, _, _, _, _, _, _, _, rfl, _⟩ := h; rfl) (fun cdv A outer s H vs Q E hr h => ?_))
  · exact (G.raw (F.bindsN fun _ _ _ _ _ _ us hl => match us, hl with | [_, _, _], _ => rfl) .nil).imp fun vs H Q E h => by rw [List.append_nil]; exact h
  · have hu := hu_of hr
    have hu0 : (A.deeper (envOfC _ _ s.heap.objs.size _ cdv)).units < cLine := Nat.lt_of_succ_lt hu
    refine ⟨_, PSs.nox (pss_cons (ps_expr (pe_bm PySem.F.plainAttrs_list PySem.F.slot_list_append PySem.F.type_list_append mt_append (pe_fld (pv 0) rfl) (pa_cons (pv 1) pa_nil)))
  (pss_cons (ps_expr (pe_bm PySem.F.plainAttrs_list PySem.F.slot_list_append PySem.F.type_list_append mt_append (pe_fld (pv 0) rfl) (pa_cons (pe_tup (pa_cons (pe_fld (pv 0) rfl) (pa_cons (pe_fld (pv 0) rfl) pa_nil))) pa_nil)))
  (pss_cons (ps_fld (pv 0) (pe_lst pa_nil) rfl)
  (pss_cons (ps_asg (pv 2) (pg_tup rfl (pgs_cons (pg_fld (pv 0)) (pgs_cons (pg_fld (pv 0)) pgs_nil))))
  (pss_one (ps_ret (pe_fld (pv 0) rfl))))))), ?_⟩
    obtain ⟨a, dx, c, c', ea, r, ld, lp, lu, le, kd, h, h', evs, pvs, rfl, ha, h1, h2, nlp, hl1, hl2, hr0, q⟩ := h
    have na1 : a ≠ ld := ne_of ha h1 (by intro z; cases z)
    have na2 : a ≠ lp := ne_of ha h2 (by intro z; cases z)
    have nr1 : r ≠ a := ne_of hr0 ha (by intro z; cases z)
    have nr2 : r ≠ ld := ne_of hr0 h1 (by intro z; cases z)
    have nr3 : r ≠ lp := ne_of hr0 h2 (by intro z; cases z)
    refine ⟨_, rfl, a, _, dx, _, _, rfl, ha, T.c_Session, T.a_Session_effects_done, seF_4 _ _ _ _ _ _ _, .inl ⟨rfl, _, SqL.of h1⟩, _, rfl, ld, evs, _, rfl, rfl, h1, big_line (Nat.le_of_lt hl1), ?_⟩
    have ha1 : (upd H ld (.lst (evs ++ [V.ref ea]))) a = some (.ins (He.ga K "Session") dx (seF c h kd ld lp lu le)) := by rw [upd_ne na1]; exact ha
    have h21 : (upd H ld (.lst (evs ++ [V.ref ea]))) lp = some (.lst pvs) := by rw [upd_ne (Ne.symm nlp)]; exact h2
    refine ⟨_, rfl, a, _, dx, _, _, rfl, ha1, T.c_Session, T.a_Session_places_before, seF_5 _ _ _ _ _ _ _, .inl ⟨rfl, _, SqL.of h21⟩, ?_⟩
    refine ⟨_, rfl, a, _, dx, _, _, rfl, ha1, T.c_Session, T.a_Session_own_tape, seF_1 _ _ _ _ _ _ _, _, rfl, a, _, dx, _, _, rfl, ha1, T.c_Session, T.a_Session_own_head, seF_2 _ _ _ _ _ _ _, (by show 2 ≤ sizeLine; decide), fun pt hpt => ?_⟩
    have e1 : Ext (upd H ld (.lst (evs ++ [V.ref ea]))) (upd (upd H ld (.lst (evs ++ [V.ref ea]))) pt (.tup [V.ref c, V.int h])) := Ext.upd hpt
    refine ⟨lp, pvs, _, rfl, rfl, e1 _ _ h21, big_line (Nat.le_of_lt hl2), ?_⟩
    refine ⟨(by show 0 ≤ sizeLine; decide), fun pn hpn => ?_⟩
    have npl : pt ≠ lp := ne_of (upd_same (H := upd H ld (.lst (evs ++ [V.ref ea]))) (a := pt) (o := .tup [V.ref c, V.int h])) (e1 _ _ h21) (by intro z; cases z)
    have ha2 : (upd (upd (upd H ld (.lst (evs ++ [V.ref ea]))) pt (.tup [V.ref c, V.int h])) lp (.lst (pvs ++ [V.ref pt]))) a = some (.ins (He.ga K "Session") dx (seF c h kd ld lp lu le)) := by rw [upd_ne na2]; exact e1 _ _ ha1
    refine ⟨_, rfl, a, _, dx, _, rfl, Ext.upd hpn _ _ ha2, T.c_Session, T.a_Session_undone, (by show 7 < 1000; decide), ?_⟩
    rw [seF_p6]
    have npa : pn ≠ a := fun z => by rw [z, ha2] at hpn; cases hpn
    have npt0 : H pt = none := by
      by_cases z : pt = ld
      · rw [z, upd_same] at hpt
        cases hpt
      · rw [upd_ne z] at hpt
        exact hpt
    have nptl : pt ≠ ld := fun z => by rw [z, h1] at npt0; cases npt0
    have npta : pt ≠ a := fun z => by rw [z, ha] at npt0; cases npt0
    have npnlp : pn ≠ lp := fun z => by rw [z, upd_same] at hpn; cases hpn
    have npnpt : pn ≠ pt := fun z => by rw [z, upd_ne npl, upd_same] at hpn; cases hpn
    have npnld : pn ≠ ld := fun z => by rw [z, upd_ne nlp, upd_ne (Ne.symm nptl), upd_same] at hpn; cases hpn
    have npn0 : H pn = none := by rw [upd_ne npnlp, upd_ne npnpt, upd_ne npnld] at hpn; exact hpn
    have nrpt : r ≠ pt := fun z => by rw [z, npt0] at hr0; cases hr0
    have nrpn : r ≠ pn := fun z => by rw [z, npn0] at hr0; cases hr0
    refine ⟨_, rfl, r, _, rfl, SqT.of (xs := [.ref c', .int h']) (by rw [upd_ne nr1, upd_ne nrpn, upd_ne nr3, upd_ne nrpt, upd_ne nr2]; exact hr0), rfl, _, _, rfl, ?_⟩
    refine ⟨_, rfl, a, _, dx, _, rfl, upd_same, T.c_Session, T.a_Session_own_tape, (by show 7 < 1000; decide), ?_⟩
    rw [seF_p1, upd_upd]
    refine ⟨_, _, rfl, _, rfl, a, _, dx, _, rfl, upd_same, T.c_Session, T.a_Session_own_head, (by show 7 < 1000; decide), rfl, ?_⟩
    rw [seF_p2, upd_upd]
    refine ⟨_, rfl, a, _, dx, _, _, rfl, upd_same, T.c_Session, T.a_Session_own_head, seF_2 _ _ _ _ _ _ _, ?_⟩
    refine q _ pt pn (fun b o b1 b2 b3 hb => ?_) npt0 npn0 ?_ ?_ upd_same ?_ ?_
    · rw [upd_ne b1, upd_ne (fun z => by rw [z, npn0] at hb; cases hb), upd_ne b3, upd_ne (fun z => by rw [z, npt0] at hb; cases hb), upd_ne b2]
      exact hb
    · rw [upd_ne npta, upd_ne (Ne.symm npnpt), upd_ne npl, upd_same]
    · rw [upd_ne npa, upd_same]
    · rw [upd_ne (Ne.symm na1), upd_ne (Ne.symm npnld), upd_ne nlp, upd_ne (Ne.symm nptl), upd_same]
    · rw [upd_ne (Ne.symm na2), upd_ne (Ne.symm npnlp), upd_same]
end
theorem SessAt.out {K : PySem.W.Frag} {H : Hp} {a b : Addr} {s : Sa} {st : Sn} {nT ne : Nat} {o : HO} (x : SessAt K H a s st nT ne) (hb : H b = some o) (h1 : ∀ xs, o ≠ .lst xs) (h2 : ∀ C dx fs, o = .ins C dx fs → fs.length ≠ 7) : cut (s.own a) H b = some o := by
  rw [cut_out]
  · exact hb
  · intro z
    obtain ⟨dx, ha⟩ := x.at_
    obtain ⟨evs, pvs, uvs, xs, a1, a2, a3, a4, _⟩ := x.ls
    rcases own_mem.mp z with z | z | z | z | z <;> subst z
    · rw [ha] at hb
      exact h2 _ _ _ (Option.some.inj hb).symm rfl
    · rw [a1] at hb
      exact h1 _ (Option.some.inj hb).symm
    · rw [a2] at hb
      exact h1 _ (Option.some.inj hb).symm
    · rw [a3] at hb
      exact h1 _ (Option.some.inj hb).symm
    · rw [a4] at hb
      exact h1 _ (Option.some.inj hb).symm
theorem SessAt.tape_out {K : PySem.W.Frag} {H : Hp} {a c : Addr} {s : Sa} {st : Sn} {nT ne n : Nat} {b : Str} {t : Int → Str} (x : SessAt K H a s st nT ne) (h : TapeAt K H c b t n) : TapeAt K (cut (s.own a) H) c b t n :=
  let ⟨dx, d, m, h1, h2, h3⟩ := h
  ⟨dx, d, m, x.out h1 (fun _ z => by cases z) (fun _ _ _ z => by injection z with _ _ z; rw [← z]; simp [tF]), x.out h2 (fun _ z => by cases z) (fun _ _ _ z => by cases z), h3⟩
theorem SessAt.eff_out {K : PySem.W.Frag} {H : Hp} {a c : Addr} {s : Sa} {st : Sn} {nT ne n : Nat} {e : Eff} (x : SessAt K H a s st nT ne) (h : EffAt K H c e n) : EffAt K (cut (s.own a) H) c e n :=
  let ⟨dx, dn, dp, mn, mp, h1, h2, h3, h4⟩ := h
  ⟨dx, dn, dp, mn, mp, x.out h1 (fun _ z => by cases z) (fun _ _ _ z => by injection z with _ _ z; rw [← z]; simp [eF]), x.out h2 (fun _ z => by cases z) (fun _ _ _ z => by cases z), x.out h3 (fun _ z => by cases z) (fun _ _ _ z => by cases z), h4⟩
section
variable {P : Program} [PrgOk P] {w : World} {K : PySem.W.Frag} {mg : Str → Option Value} {base : Heap}
/-- what an action that may be refused asks and leaves: cls, how it refuses -/
def sp_Session_do (K : PySem.W.Frag) : Sp := fun vs H Q E => ∃ (a l : Addr) (s : Sa) (st : Sn) (nT ne : Nat) (ss : List Stp) (H0 : Hp), vs = [.ref a, .ref l] ∧ SessAt K H a s st nT ne ∧ StepsAt H l ss ∧ ss.length ≤ 1000 ∧ nT + 1000 < BIG ∧ st.hist.length < BIG ∧ Ext H0 H ∧ FrL H0 (s.own a) ∧
  (∀ H' s' e, Ext H0 H' → FrL H0 (s'.own a) → SessAt K H' a s' ⟨st.b, st.p0, st.hist ++ [e], []⟩ (nT + 1000) ne → Q (.int (ap e st.cur).2) H') ∧ (∀ d H', Ext H H' → E (.ref (He.ga K "StepFailed")) (some d) H')
theorem sc_Session_do : FnScope ["self", "item", "steps", "place"] ["self", "item"] (defScope s_Session_do) := ⟨rfl, rfl, rfl, by decide +kernel, rfl, by decide +kernel, by decide +kernel⟩
theorem k_Session_do (T : Txt K mg) : FnR P w K mg base (L2.CX P w) 8 (He.ma K (He.ga K "Session") "do") (sp_Session_do K) := by
  obtain ⟨fd, F⟩ := T.f_Session_do
  refine (fun (G : FnOk P w K mg base (L2.CX P w) 8 _ fd _ (sp_Session_do K)) => ?_) (F.ok sc_Session_do (fun vs H Q E h => by obtain ⟨_, _, _, _, _, _, _, _, rfl, _⟩ := h; rfl) (fun cdv A outer s H vs Q E hr h => ?_))
  · exact (G.raw (F.bindsN fun _ _ _ _ _ _ us hl => match us, hl with | [_, _], _ => rfl) .nil).imp fun vs H Q E h => by rw [List.append_nil]; exact h
  · have hu := hu_of hr
    have hu0 : (A.deeper (envOfC _ _ s.heap.objs.size _ cdv)).units < cLine := Nat.lt_of_succ_lt hu
    refine ⟨_, ((pss_cons (ps_set (i := 2) sc_Session_do.nd rfl (Or.inl rfl) (pe_methR (pv 0) T.c_Session T.m_Session_expand (k_Session_expand T) (hr.mono (by decide)) pass0 (pa_cons (pv 1) pa_nil)))
  (pss_cons (ps_set (i := 3) sc_Session_do.nd rfl (Or.inl rfl) (pe_cM (k_run (P := P) T) (hr.mono (by decide)) (by rfl) T.g_run T.kp_run (passes_call (takes_of rfl rfl rfl rfl) fun _ _ _ _ h => h) (pa_cons (pv 2) (pa_cons (pe_fld (pv 0) rfl) pa_nil)) (pk_cons (pe_fld (pv 0) rfl) pk_nil)))
  (pss_one (ps_ret (pe_methR (pv 0) T.c_Session T.m_Session_act (k_Session_act T) (hr.mono (by decide)) pass0 (pa_cons (pe_cR (k_effect_of T) (hr.mono (by decide)) (by rfl) T.g_effect_of T.kp_effect_of pass0 (pa_cons (pv 2) pa_nil)) (pa_cons (pv 3) pa_nil)))))))), ?_⟩
    obtain ⟨a, l, s0, st, nT, ne, ss, H0, rfl, x, hs, hn, hnT, hh, e0, f0, q1, q2⟩ := h
    obtain ⟨dx, ha⟩ := x.at_
    refine ⟨_, rfl, a, dx, _, rfl, ha, seF_expand _ _ _ _ _ _ _, _, rfl, a, l, s0, st, nT, ne, ss, rfl, x, hs, hn, fun p H1 e1 hs1 np => ?_⟩
    have x1 := x.ext e1
    have ha1 := e1 _ _ ha
    obtain ⟨evs, pvs, uvs, xs, a1, a2, a3, a4, a5, C⟩ := x1.ls
    refine ⟨_, rfl, _, rfl, a, _, dx, _, _, rfl, ha1, T.c_Session, T.a_Session_own_tape, seF_1 _ _ _ _ _ _ _, ?_⟩
    refine ⟨_, rfl, a, _, dx, _, _, rfl, ha1, T.c_Session, T.a_Session_own_head, seF_2 _ _ _ _ _ _ _, rfl, rfl, ?_⟩
    refine ⟨p, s0.c, st.cur.2, ss, st.b, st.cur.1, nT, rfl, hs1, C.tp.ext cut_sub, by omega, fun t' p' r H2 hg e2 hpl nr => ?_, fun hg d H2 e2 => q2 d H2 (e1.trans e2)⟩
    have x2 := x1.ext e2
    have g := Good.steps (Good.zero st.cur.1 st.cur.2) hg
    refine ⟨_, rfl, a, dx, _, rfl, e2 _ _ ha1, seF_act _ _ _ _ _ _ _, _, rfl, p, ss, rfl, hs1.ext e2, hn, fun hbad => ?_, fun _ ep H3 e3 hE nep => ?_⟩
    · rw [g.bad] at hbad
      cases hbad
    have x3 := x2.ext e3
    have e13 := e2.trans e3
    obtain ⟨c', hr0, htp⟩ := hpl.ext e3
    have happ : ap (Bs.zero.steps ss).eff st.cur = (t', p') := Prod.ext g.on g.mv
    obtain ⟨evs3, pvs3, uvs3, xs3, b1, b2, b3, b4, b5, C3⟩ := x3.ls
    refine ⟨_, rfl, a, dx, s0.c, c', ep, r, s0.ld, s0.lp, s0.lu, s0.le, s0.kd, st.cur.2, p', evs3, pvs3, rfl, e13 _ _ ha1, b1, b2, x.ne.1, ?_, ?_, hr0, fun H4 pt pn keep npt npn hpt hpn ha4 hld hlp => ?_⟩
    · rw [C3.ev.1]
      exact hh
    · rw [C3.pv.1, plL_len]
      exact hh
    have y := x3.acted (m := nT + 1000) (e := (Bs.zero.steps ss).eff) b1 b2 (x3.eff_out (hE.le hn)) (by rw [happ]; exact (x3.tape_out htp).le (by omega)) (by omega) g.fits keep npt npn hpt hpn (by rw [happ]; exact ha4) hld hlp
    have e03 := (e0.trans e1).trans e13
    have := q1 H4 _ _ (fun b o hb => keep b o (fun z => by rw [z, f0 _ (own_mem.mpr (.inl rfl))] at hb; cases hb) (fun z => by rw [z, f0 _ (own_mem.mpr (.inr (.inl rfl)))] at hb; cases hb) (fun z => by rw [z, f0 _ (own_mem.mpr (.inr (.inr (.inl rfl))))] at hb; cases hb) (e03 b o hb)) (f0.new (e03.none npn)) y
    rw [happ] at this
    exact this
end
end Tp
/-! part K14 -/
set_option Elab.async false
set_option linter.all false
set_option maxRecDepth 100000
set_option maxHeartbeats 4000000
/-! the defs, part 14: repeat -/
namespace Tp
open PySem PySem.Spec PyProof.Rows L2
theorem one_bd : Eff.one.Bd 1000 := ⟨fun o h => (by rcases h with h | h <;> exact absurd rfl h), Nat.zero_le _⟩
section
variable {P : Program} [PrgOk P] {w : World} {K : PySem.W.Frag} {mg : Str → Option Value} {base : Heap}
def sp_Session_repeat (K : PySem.W.Frag) : Sp := fun vs H Q E => ∃ (a l : Addr) (k : Int) (s : Sa) (st : Sn) (nT ne : Nat) (ss : List Stp) (H0 : Hp), vs = [.ref a, .ref l, .int k] ∧ SessAt K H a s st nT ne ∧ StepsAt H l ss ∧ ss.length ≤ 50 ∧ 0 ≤ k ∧ k ≤ 3 ∧ nT + 1000 < BIG ∧ st.hist.length < BIG ∧ Ext H0 H ∧ FrL H0 (s.own a) ∧
  (∀ H' s' e, Ext H0 H' → FrL H0 (s'.own a) → SessAt K H' a s' ⟨st.b, st.p0, st.hist ++ [e], []⟩ (nT + 1000) ne → Q (.int (ap e st.cur).2) H') ∧ (∀ d H', Ext H H' → E (.ref (He.ga K "NotApplicable")) (some d) H')
theorem sc_Session_repeat : FnScope ["self", "item", "times", "effect", "whole"] ["self", "item", "times"] (defScope s_Session_repeat) := ⟨rfl, rfl, rfl, by decide +kernel, rfl, by decide +kernel, by decide +kernel⟩
theorem k_Session_repeat (T : Txt K mg) : FnR P w K mg base (L2.CX P w) 10 (He.ma K (He.ga K "Session") "repeat") (sp_Session_repeat K) := by
  obtain ⟨fd, F⟩ := T.f_Session_repeat
  refine (fun (G : FnOk P w K mg base (L2.CX P w) 10 _ fd _ (sp_Session_repeat K)) => ?_) (F.ok sc_Session_repeat (fun vs H Q E h => by obtain ⟨_, _, _, _, _, _, _, _, _, rfl, _⟩ := h; rfl) (fun cdv A outer s H vs Q E hr h => ?_))
  · exact (G.raw (F.bindsN fun _ _ _ _ _ _ us hl => match us, hl with | [_, _, _], _ => rfl) .nil).imp fun vs H Q E h => by rw [List.append_nil]; exact h
  · have hu := hu_of hr
    have hu0 : (A.deeper (envOfC _ _ s.heap.objs.size _ cdv)).units < cLine := Nat.lt_of_succ_lt hu
    refine ⟨_, ((pss_cons (ps_set (i := 3) sc_Session_repeat.nd rfl (Or.inl rfl) (pe_cR (k_effect_of T) (hr.mono (by decide)) (by rfl) T.g_effect_of T.kp_effect_of pass0 (pa_cons (pe_methR (pv 0) T.c_Session T.m_Session_expand (k_Session_expand T) (hr.mono (by decide)) pass0 (pa_cons (pv 1) pa_nil)) pa_nil)))
  (pss_cons (ps_expr (pe_cR (k_check_count T) (hr.mono (by decide)) (by rfl) T.g_check_count T.kp_check_count pass0 (pa_cons (pv 2) pa_nil)))
  (pss_cons (ps_if (pt_cmpR op_eq (pv 2) pe_int (nomark _)) (pss_one (ps_set (i := 3) sc_Session_repeat.nd rfl (Or.inl rfl) (pe_cmeth0 (pe_glob (v := .ref (He.ga _ "Effect")) (by rfl) T.g_Effect rfl) T.rd_Effect T.cm_Effect (k_Effect_identity T) (hr.mono (by decide)) pass0))) pss_nil)
  (pss_cons (ps_set (i := 4) sc_Session_repeat.nd rfl (Or.inl rfl) (pe_ifExp (pt_cmpR op_isN (pv 3) pe_non (nomark _)) pe_non (pe_cR (k_power T) (hr.mono (by decide)) (by rfl) T.g_power T.kp_power pass0 (pa_cons (pv 3) (pa_cons (pv 2) pa_nil)))))
  (pss_cons (ps_if (PW.pt (pw_or (pt_cmpR op_isN (pv 4) pe_non (nomark _)) (pw_or1 (pt_not (pt_val (pe_mM (pv 4) T.c_Effect T.m_Effect_applies (k_Effect_applies T) (hr.mono (by decide)) pass0 (pa_cons (pe_fld (pv 0) rfl) pa_nil) (pk_cons (pe_fld (pv 0) rfl) pk_nil))))))) (pss_one (ps_raise rfl (takes_of rfl rfl rfl rfl) (pmk_NotApplicable (inferInstance : PrgOk P) T (hr.mono (by decide)) (by rfl) (pa_cons pe_non pa_nil)))) pss_nil)
  (pss_one (ps_ret (pe_methR (pv 0) T.c_Session T.m_Session_act (k_Session_act T) (hr.mono (by decide)) pass0 (pa_cons (pv 4) (pa_cons (pe_mM (pv 4) T.c_Effect T.m_Effect_apply (k_Effect_apply T) (hr.mono (by decide)) pass0 (pa_cons (pe_fld (pv 0) rfl) pa_nil) (pk_cons (pe_fld (pv 0) rfl) pk_nil)) pa_nil))))))))))), ?_⟩
    obtain ⟨a, l, k, s0, st, nT, ne, ss, H0, rfl, x, hs, hn, hk0, hk3, hnT, hh, e0, f0, q1, q2⟩ := h
    obtain ⟨dx, ha⟩ := x.at_
    refine ⟨_, rfl, a, dx, _, rfl, ha, seF_expand _ _ _ _ _ _ _, _, rfl, a, l, s0, st, nT, ne, ss, rfl, x, hs, by omega, fun p H1 e1 hs1 np => ⟨p, ss, rfl, hs1, by omega, fun hbad H2 e2 => ⟨_, rfl, k, rfl, hk0, ?_⟩, fun hbad ep H2 e2 hE nep => ⟨_, rfl, k, rfl, hk0, ?_⟩⟩⟩
    · have e12 := e1.trans e2
      refine ⟨_, rfl, rfl, _, rfl, ?_⟩
      refine ifD (fun c => ?_) fun c => ?_
      · have hk : k = 0 := by injection c
        refine ⟨rfl, rfl, fun pe H3 e3 hI ni => ?_⟩
        refine ⟨_, rfl, rfl, _, rfl, ifF ⟨_, rfl, _, rfl, ?_⟩⟩
        refine ⟨pe, k, Eff.one, 0, rfl, hI, by omega, one_bd, hk0, hk3, fun _ => rfl, fun H4 e4 => ?_, fun pw e' H4 e4 hw => ?_⟩
        · exact ⟨_, rfl, rfl, _, rfl, ifT (ifT ⟨rfl, fun d => q2 d H4 ((e12.trans e3).trans e4)⟩)⟩
        · have eN := (e12.trans e3).trans e4
          obtain ⟨dw, w1, w2, w3, w4, hpw, hw2⟩ := id hw
          have x4 := x.ext eN
          have ha4 := eN _ _ ha
          obtain ⟨evs, pvs, uvs, xs, a1, a2, a3, a4, a5, C⟩ := x4.ls
          refine ⟨_, rfl, rfl, _, rfl, ifF ?_⟩
          refine ⟨_, rfl, pw, dw, _, rfl, hpw, eF_7 _ _ _, _, rfl, a, _, dx, _, _, rfl, ha4, T.c_Session, T.a_Session_own_tape, seF_1 _ _ _ _ _ _ _, _, rfl, a, _, dx, _, _, rfl, ha4, T.c_Session, T.a_Session_own_head, seF_2 _ _ _ _ _ _ _, rfl, rfl, ?_⟩
          refine ⟨pw, s0.c, st.cur.2, e', 1000, st.b, st.cur.1, nT, rfl, hw, C.tp.ext cut_sub, fun hF H5 e5 => ?_, fun nF H5 e5 => ?_⟩
          · refine ⟨true, rfl, ifF ?_⟩
            have eN5 := eN.trans e5
            have x5 := x4.ext e5
            have ha5 := e5 _ _ ha4
            have hpw5 := e5 _ _ hpw
            obtain ⟨evs5, pvs5, uvs5, xs5, b1, b2, b3, b4, b5, C5⟩ := x5.ls
            refine ⟨_, rfl, a, dx, _, rfl, ha5, seF_act _ _ _ _ _ _ _, _, rfl, _, rfl, pw, dw, _, rfl, hpw5, eF_6 _ _ _, _, rfl, a, _, dx, _, _, rfl, ha5, T.c_Session, T.a_Session_own_tape, seF_1 _ _ _ _ _ _ _, _, rfl, a, _, dx, _, _, rfl, ha5, T.c_Session, T.a_Session_own_head, seF_2 _ _ _ _ _ _ _, rfl, rfl, ?_⟩
            refine ⟨pw, s0.c, st.cur.2, e', 1000, st.b, st.cur.1, nT, rfl, hw.ext e5, C5.tp.ext cut_sub, hF, by omega, fun r H6 e6 hpl nr => ?_⟩
            have x6 := x5.ext e6
            obtain ⟨c', hr0, htp⟩ := id hpl
            obtain ⟨evs6, pvs6, uvs6, xs6, d1, d2, d3, d4, d5, C6⟩ := x6.ls
            refine ⟨a, dx, s0.c, c', pw, r, s0.ld, s0.lp, s0.lu, s0.le, s0.kd, st.cur.2, _, evs6, pvs6, rfl, e6 _ _ ha5, d1, d2, x.ne.1, ?_, ?_, hr0, fun H7 pt pn keep npt npn hpt hpn ha7 hld hlp => ?_⟩
            · rw [C6.ev.1]
              exact hh
            · rw [C6.pv.1, plL_len]
              exact hh
            have y := x6.acted (m := nT + 1000) (e := e') d1 d2 (x6.eff_out (hw.ext (e5.trans e6))) (x6.tape_out htp) (by omega) hF keep npt npn hpt hpn ha7 hld hlp
            have e06 := (e0.trans eN5).trans e6
            exact q1 H7 _ _ (fun b o hb => keep b o (fun z => by rw [z, f0 _ (own_mem.mpr (.inl rfl))] at hb; cases hb) (fun z => by rw [z, f0 _ (own_mem.mpr (.inr (.inl rfl)))] at hb; cases hb) (fun z => by rw [z, f0 _ (own_mem.mpr (.inr (.inr (.inl rfl))))] at hb; cases hb) (e06 b o hb)) (f0.new (e06.none npn)) y
          · refine ⟨false, rfl, ifT ?_⟩
            exact ⟨rfl, fun d => q2 d H5 (eN.trans e5)⟩
      · refine ⟨_, rfl, rfl, _, rfl, ifT ?_⟩
        exact ⟨_, rfl, rfl, _, rfl, ifT (ifT ⟨rfl, fun d => q2 d H2 e12⟩)⟩
    · have e12 := e1.trans e2
      refine ⟨_, rfl, rfl, _, rfl, ?_⟩
      refine ifD (fun c => ?_) fun c => ?_
      · have hk : k = 0 := by injection c
        refine ⟨rfl, rfl, fun pe H3 e3 hI ni => ?_⟩
        refine ⟨_, rfl, rfl, _, rfl, ifF ⟨_, rfl, _, rfl, ?_⟩⟩
        refine ⟨pe, k, Eff.one, 0, rfl, hI, by omega, one_bd, hk0, hk3, fun _ => rfl, fun H4 e4 => ?_, fun pw e' H4 e4 hw => ?_⟩
        · exact ⟨_, rfl, rfl, _, rfl, ifT (ifT ⟨rfl, fun d => q2 d H4 ((e12.trans e3).trans e4)⟩)⟩
        · have eN := (e12.trans e3).trans e4
          obtain ⟨dw, w1, w2, w3, w4, hpw, hw2⟩ := id hw
          have x4 := x.ext eN
          have ha4 := eN _ _ ha
          obtain ⟨evs, pvs, uvs, xs, a1, a2, a3, a4, a5, C⟩ := x4.ls
          refine ⟨_, rfl, rfl, _, rfl, ifF ?_⟩
          refine ⟨_, rfl, pw, dw, _, rfl, hpw, eF_7 _ _ _, _, rfl, a, _, dx, _, _, rfl, ha4, T.c_Session, T.a_Session_own_tape, seF_1 _ _ _ _ _ _ _, _, rfl, a, _, dx, _, _, rfl, ha4, T.c_Session, T.a_Session_own_head, seF_2 _ _ _ _ _ _ _, rfl, rfl, ?_⟩
          refine ⟨pw, s0.c, st.cur.2, e', 1000, st.b, st.cur.1, nT, rfl, hw, C.tp.ext cut_sub, fun hF H5 e5 => ?_, fun nF H5 e5 => ?_⟩
          · refine ⟨true, rfl, ifF ?_⟩
            have eN5 := eN.trans e5
            have x5 := x4.ext e5
            have ha5 := e5 _ _ ha4
            have hpw5 := e5 _ _ hpw
            obtain ⟨evs5, pvs5, uvs5, xs5, b1, b2, b3, b4, b5, C5⟩ := x5.ls
            refine ⟨_, rfl, a, dx, _, rfl, ha5, seF_act _ _ _ _ _ _ _, _, rfl, _, rfl, pw, dw, _, rfl, hpw5, eF_6 _ _ _, _, rfl, a, _, dx, _, _, rfl, ha5, T.c_Session, T.a_Session_own_tape, seF_1 _ _ _ _ _ _ _, _, rfl, a, _, dx, _, _, rfl, ha5, T.c_Session, T.a_Session_own_head, seF_2 _ _ _ _ _ _ _, rfl, rfl, ?_⟩
            refine ⟨pw, s0.c, st.cur.2, e', 1000, st.b, st.cur.1, nT, rfl, hw.ext e5, C5.tp.ext cut_sub, hF, by omega, fun r H6 e6 hpl nr => ?_⟩
            have x6 := x5.ext e6
            obtain ⟨c', hr0, htp⟩ := id hpl
            obtain ⟨evs6, pvs6, uvs6, xs6, d1, d2, d3, d4, d5, C6⟩ := x6.ls
            refine ⟨a, dx, s0.c, c', pw, r, s0.ld, s0.lp, s0.lu, s0.le, s0.kd, st.cur.2, _, evs6, pvs6, rfl, e6 _ _ ha5, d1, d2, x.ne.1, ?_, ?_, hr0, fun H7 pt pn keep npt npn hpt hpn ha7 hld hlp => ?_⟩
            · rw [C6.ev.1]
              exact hh
            · rw [C6.pv.1, plL_len]
              exact hh
            have y := x6.acted (m := nT + 1000) (e := e') d1 d2 (x6.eff_out (hw.ext (e5.trans e6))) (x6.tape_out htp) (by omega) hF keep npt npn hpt hpn ha7 hld hlp
            have e06 := (e0.trans eN5).trans e6
            exact q1 H7 _ _ (fun b o hb => keep b o (fun z => by rw [z, f0 _ (own_mem.mpr (.inl rfl))] at hb; cases hb) (fun z => by rw [z, f0 _ (own_mem.mpr (.inr (.inl rfl)))] at hb; cases hb) (fun z => by rw [z, f0 _ (own_mem.mpr (.inr (.inr (.inl rfl))))] at hb; cases hb) (e06 b o hb)) (f0.new (e06.none npn)) y
          · refine ⟨false, rfl, ifT ?_⟩
            exact ⟨rfl, fun d => q2 d H5 (eN.trans e5)⟩
      · refine ⟨_, rfl, rfl, _, rfl, ifF ⟨_, rfl, _, rfl, ?_⟩⟩
        refine ⟨ep, k, _, ss.length, rfl, hE, by omega, steps_bd ss (by omega), hk0, hk3, fun z => absurd (by rw [z]) c, fun H4 e4 => ?_, fun pw e' H4 e4 hw => ?_⟩
        · exact ⟨_, rfl, rfl, _, rfl, ifT (ifT ⟨rfl, fun d => q2 d H4 (e12.trans e4)⟩)⟩
        · have eN := e12.trans e4
          obtain ⟨dw, w1, w2, w3, w4, hpw, hw2⟩ := id hw
          have x4 := x.ext eN
          have ha4 := eN _ _ ha
          obtain ⟨evs, pvs, uvs, xs, a1, a2, a3, a4, a5, C⟩ := x4.ls
          refine ⟨_, rfl, rfl, _, rfl, ifF ?_⟩
          refine ⟨_, rfl, pw, dw, _, rfl, hpw, eF_7 _ _ _, _, rfl, a, _, dx, _, _, rfl, ha4, T.c_Session, T.a_Session_own_tape, seF_1 _ _ _ _ _ _ _, _, rfl, a, _, dx, _, _, rfl, ha4, T.c_Session, T.a_Session_own_head, seF_2 _ _ _ _ _ _ _, rfl, rfl, ?_⟩
          refine ⟨pw, s0.c, st.cur.2, e', 1000, st.b, st.cur.1, nT, rfl, hw, C.tp.ext cut_sub, fun hF H5 e5 => ?_, fun nF H5 e5 => ?_⟩
          · refine ⟨true, rfl, ifF ?_⟩
            have eN5 := eN.trans e5
            have x5 := x4.ext e5
            have ha5 := e5 _ _ ha4
            have hpw5 := e5 _ _ hpw
            obtain ⟨evs5, pvs5, uvs5, xs5, b1, b2, b3, b4, b5, C5⟩ := x5.ls
            refine ⟨_, rfl, a, dx, _, rfl, ha5, seF_act _ _ _ _ _ _ _, _, rfl, _, rfl, pw, dw, _, rfl, hpw5, eF_6 _ _ _, _, rfl, a, _, dx, _, _, rfl, ha5, T.c_Session, T.a_Session_own_tape, seF_1 _ _ _ _ _ _ _, _, rfl, a, _, dx, _, _, rfl, ha5, T.c_Session, T.a_Session_own_head, seF_2 _ _ _ _ _ _ _, rfl, rfl, ?_⟩
            refine ⟨pw, s0.c, st.cur.2, e', 1000, st.b, st.cur.1, nT, rfl, hw.ext e5, C5.tp.ext cut_sub, hF, by omega, fun r H6 e6 hpl nr => ?_⟩
            have x6 := x5.ext e6
            obtain ⟨c', hr0, htp⟩ := id hpl
            obtain ⟨evs6, pvs6, uvs6, xs6, d1, d2, d3, d4, d5, C6⟩ := x6.ls
            refine ⟨a, dx, s0.c, c', pw, r, s0.ld, s0.lp, s0.lu, s0.le, s0.kd, st.cur.2, _, evs6, pvs6, rfl, e6 _ _ ha5, d1, d2, x.ne.1, ?_, ?_, hr0, fun H7 pt pn keep npt npn hpt hpn ha7 hld hlp => ?_⟩
            · rw [C6.ev.1]
              exact hh
            · rw [C6.pv.1, plL_len]
              exact hh
            have y := x6.acted (m := nT + 1000) (e := e') d1 d2 (x6.eff_out (hw.ext (e5.trans e6))) (x6.tape_out htp) (by omega) hF keep npt npn hpt hpn ha7 hld hlp
            have e06 := (e0.trans eN5).trans e6
            exact q1 H7 _ _ (fun b o hb => keep b o (fun z => by rw [z, f0 _ (own_mem.mpr (.inl rfl))] at hb; cases hb) (fun z => by rw [z, f0 _ (own_mem.mpr (.inr (.inl rfl)))] at hb; cases hb) (fun z => by rw [z, f0 _ (own_mem.mpr (.inr (.inr (.inl rfl))))] at hb; cases hb) (e06 b o hb)) (f0.new (e06.none npn)) y
          · refine ⟨false, rfl, ifT ?_⟩
            exact ⟨rfl, fun d => q2 d H5 (eN.trans e5)⟩
end
end Tp
/-! part K15 -/
set_option Elab.async false
set_option linter.all false
set_option maxRecDepth 100000
set_option maxHeartbeats 4000000
/-! the defs, part 15: take_over, clone, undo, redo -/
namespace Tp
open PySem PySem.Spec PyProof.Rows L2
/-- neither a list nor a session -/
def NK (o : HO) : Prop := (∀ xs, o ≠ .lst xs) ∧ (∀ C dx fs, o = .ins C dx fs → fs.length ≠ 7) ∧ ∀ ps, o ≠ .tbl ps
def ExtK (X X' : Hp) : Prop := ∀ b o, X b = some o → NK o → X' b = some o
theorem nk_dK (m : List (Key × V)) : NK (.dK m) := ⟨fun _ z => (by cases z), fun _ _ _ z => (by cases z), fun _ z => (by cases z)⟩
theorem nk_tup (m : List V) : NK (.tup m) := ⟨fun _ z => (by cases z), fun _ _ _ z => (by cases z), fun _ z => (by cases z)⟩
theorem nk_ins {C dx : Addr} {fs : List (Str × V)} (h : fs.length ≠ 7) : NK (.ins C dx fs) := ⟨fun _ z => (by cases z), fun _ _ _ z => (by injection z with _ _ z; rw [← z]; exact h), fun _ z => (by cases z)⟩
theorem TapeAt.extK {K : PySem.W.Frag} {X X' : Hp} {c : Addr} {b : Str} {t : Int → Str} {n : Nat} (h : TapeAt K X c b t n) (e : ExtK X X') : TapeAt K X' c b t n :=
  let ⟨dx, d, m, h1, h2, h3⟩ := h
  ⟨dx, d, m, e _ _ h1 (nk_ins (by simp [tF])), e _ _ h2 (nk_dK _), h3⟩
theorem EffAt.extK {K : PySem.W.Frag} {X X' : Hp} {c : Addr} {f : Eff} {n : Nat} (h : EffAt K X c f n) (e : ExtK X X') : EffAt K X' c f n :=
  let ⟨dx, dn, dp, mn, mp, h1, h2, h3, h4⟩ := h
  ⟨dx, dn, dp, mn, mp, e _ _ h1 (nk_ins (by simp [eF])), e _ _ h2 (nk_dK _), e _ _ h3 (nk_dK _), h4⟩
theorem PlaceAt.extK {K : PySem.W.Frag} {X X' : Hp} {p : Addr} {b : Str} {t : Int → Str} {h : Int} {n : Nat} (x : PlaceAt K X p b t h n) (e : ExtK X X') : PlaceAt K X' p b t h n := let ⟨c, h1, h2⟩ := x; ⟨c, e _ _ h1 (nk_tup _), h2.extK e⟩
theorem PlV.extK {K : PySem.W.Frag} {X X' : Hp} {b : Str} {nT : Nat} {v : V} {p : Pl} (h : PlV K X b nT v p) (e : ExtK X X') : PlV K X' b nT v p := let ⟨r, x, y⟩ := h; ⟨r, x, y.extK e⟩
theorem UnV.extK {K : PySem.W.Frag} {X X' : Hp} {b : Str} {nT : Nat} {v : V} {q : Eff × Pl} (h : UnV K X b nT v q) (e : ExtK X X') : UnV K X' b nT v q := let ⟨t, ea, r, x, y, z, w⟩ := h; ⟨t, ea, r, x, e _ _ y (nk_tup _), z.extK e, w.extK e⟩
theorem EffsAt.extK {K : PySem.W.Frag} {X X' : Hp} {vs : List V} {es : List Eff} {k : Nat} (h : EffsAt K X vs es k) (e : ExtK X X') : EffsAt K X' vs es k := h.mono fun _ _ ⟨a, b, c⟩ => ⟨a, b, c.extK e⟩
/-- what is known of the definitions' object -/
def KnAt (K : PySem.W.Frag) (X : Hp) (kd : Addr) : Prop := ∃ dx dq, X kd = some (.ins (He.ga K "Definitions") dx [("sequences", .ref dq)]) ∧ X dq = some (.dK [])
theorem KnAt.extK {K : PySem.W.Frag} {X X' : Hp} {kd : Addr} (h : KnAt K X kd) (e : ExtK X X') : KnAt K X' kd := let ⟨dx, dq, h1, h2⟩ := h; ⟨dx, dq, e _ _ h1 (nk_ins (by simp)), e _ _ h2 (nk_dK _)⟩
theorem SesC.extK {K : PySem.W.Frag} {X X' : Hp} {s s' : Sa} {st : Sn} {evs pvs uvs : List V} {nT : Nat} (c : SesC K X s st evs pvs uvs nT) (hc : s'.c = s.c) (hk : KnAt K X' s'.kd) (e : ExtK X X') : SesC K X' s' st evs pvs uvs nT :=
  ⟨by rw [hc]; exact c.tp.extK e, hk, c.ev.extK e, c.pv.mono fun _ _ h => h.extK e, c.uv.mono fun _ _ h => h.extK e, c.ok⟩
theorem ExtK.cut {X H : Hp} {l : List Addr} (e : ExtK X H) (f : ∀ b ∈ l, ∀ o, H b = some o → ¬ NK o) : ExtK X (Tp.cut l H) := fun b o h n => by
  rw [cut_out (fun c => f b c o (e b o h n) n)]
  exact e b o h n
theorem nk_lst {xs : List V} : ¬ NK (.lst xs) := fun h => h.1 xs rfl
theorem nk_ses {C dx c kd ld lp lu le : Addr} {h : Int} : ¬ NK (.ins C dx (seF c h kd ld lp lu le)) := fun n => n.2.1 _ _ _ rfl rfl
theorem ExtK.of {X X' : Hp} (e : Ext X X') : ExtK X X' := fun b o h _ => e b o h
theorem ExtK.trans {X Y Z : Hp} (a : ExtK X Y) (b : ExtK Y Z) : ExtK X Z := fun c o h n => b c o (a c o h n) n
section
variable {P : Program} {w : World} {K : PySem.W.Frag} {mg : Str → Option Value} {base : Heap}
def sp_Session_take_over (K : PySem.W.Frag) : Sp := fun vs H Q _ => ∃ (a dx o c kd ld lp lu le : Addr) (h : Int) (s : Sa) (st : Sn) (nT ne k : Nat) (xs : List V), vs = [.ref a, .ref o] ∧ H a = some (.ins (He.ga K "Session") dx (seF c h kd ld lp lu le)) ∧ SessAt K H o s st nT ne ∧ a ≠ o ∧ KnAt K H kd ∧ H le = some (.lst xs) ∧ xs.length ≤ k ∧ le ≠ s.ld ∧ le ≠ s.lp ∧ le ≠ s.lu ∧
  ∀ H' p1 p2 p3, ExtBut a H H' → SessAt K H' a ⟨s.c, kd, p1, p2, p3, le⟩ st nT k → H p1 = none → H p2 = none → H p3 = none → Q .non H'
theorem sc_Session_take_over : FnScope ["self", "other"] ["self", "other"] (defScope s_Session_take_over) := ⟨rfl, rfl, rfl, by decide +kernel, rfl, by decide +kernel, by decide +kernel⟩
theorem k_Session_take_over (T : Txt K mg) : FnR P w K mg base CX0 1 (He.ma K (He.ga K "Session") "take_over") (sp_Session_take_over K) := by
  obtain ⟨fd, F⟩ := T.f_Session_take_over
  refine (fun (G : FnOk P w K mg base CX0 1 _ fd _ (sp_Session_take_over K)) => ?_) (F.ok sc_Session_take_over (fun vs H Q E h => by obtain ⟨_, _, _, _, _, _, _, _, _, _, _, _, _, _, _, _, rfl, _⟩ := h; rfl) (fun cdv A outer s H vs Q E hr h => ?_))
  · exact (G.raw (F.bindsN fun _ _ _ _ _ _ us hl => match us, hl with | [_, _], _ => rfl) .nil).imp fun vs H Q E h => by rw [List.append_nil]; exact h
  · have hu := hu_of hr
    have hu0 : (A.deeper (envOfC _ _ s.heap.objs.size _ cdv)).units < cLine := Nat.lt_of_succ_lt hu
    refine ⟨_, PSs.nox (pss_cons (ps_asg (pe_tup (pa_cons (pe_fld (pv 1) rfl) (pa_cons (pe_fld (pv 1) rfl) pa_nil))) (pg_tup rfl (pgs_cons (pg_fld (pv 0)) (pgs_cons (pg_fld (pv 0)) pgs_nil))))
  (pss_cons (ps_fld (pv 0) (pe_callTy call_list_of (by rfl) T.n_list (by decide +kernel) (pa_cons (pe_fld (pv 1) rfl) pa_nil)) rfl)
  (pss_cons (ps_fld (pv 0) (pe_callTy call_list_of (by rfl) T.n_list (by decide +kernel) (pa_cons (pe_fld (pv 1) rfl) pa_nil)) rfl)
  (pss_one (ps_fld (pv 0) (pe_callTy call_list_of (by rfl) T.n_list (by decide +kernel) (pa_cons (pe_fld (pv 1) rfl) pa_nil)) rfl))))), ?_⟩
    obtain ⟨a, dx, o, c, kd, ld, lp, lu, le, hh, s0, st, nT, ne, k, xs, rfl, ha, x, nao, hk, hle, hxs, nl1, nl2, nl3, q⟩ := h
    obtain ⟨dxo, ho⟩ := x.at_
    obtain ⟨evs, pvs, uvs, ys, a1, a2, a3, a4, a5, C⟩ := x.ls
    have na1 : a ≠ s0.ld := ne_of ha a1 (by intro z; cases z)
    have na2 : a ≠ s0.lp := ne_of ha a2 (by intro z; cases z)
    have na3 : a ≠ s0.lu := ne_of ha a3 (by intro z; cases z)
    have nae : a ≠ le := ne_of ha hle (by intro z; cases z)
    refine ⟨_, rfl, o, _, dxo, _, _, rfl, ho, T.c_Session, T.a_Session_own_tape, seF_1 _ _ _ _ _ _ _, _, rfl, o, _, dxo, _, _, rfl, ho, T.c_Session, T.a_Session_own_head, seF_2 _ _ _ _ _ _ _, (by show 2 ≤ sizeLine; decide), fun pt npt => ?_⟩
    refine ⟨pt, _, rfl, SqT.of upd_same, rfl, _, _, rfl, ?_⟩
    refine ⟨_, rfl, a, _, dx, _, rfl, Ext.upd npt _ _ ha, T.c_Session, T.a_Session_own_tape, (by show 7 < 1000; decide), ?_⟩
    rw [seF_p1]
    refine ⟨_, _, rfl, _, rfl, a, _, dx, _, rfl, upd_same, T.c_Session, T.a_Session_own_head, (by show 7 < 1000; decide), rfl, ?_⟩
    rw [seF_p2, upd_upd]
    have apt : pt ≠ a := fun z => by rw [z, ha] at npt; cases npt
    have b0 : ExtBut a H (upd (upd H pt (.tup [V.ref s0.c, V.int st.cur.2])) a (.ins (He.ga K "Session") dx (seF s0.c st.cur.2 kd ld lp lu le))) := (ExtBut.refl.ext (Ext.upd npt)).put
    refine ⟨_, rfl, o, _, dxo, _, _, rfl, b0 _ _ (Ne.symm nao) ho, T.c_Session, T.a_Session_effects_done, seF_4 _ _ _ _ _ _ _, _, _, rfl, .inl (SqL.of (b0 _ _ (Ne.symm na1) a1)), fun p1 n1 => ?_⟩
    refine ⟨_, rfl, a, _, dx, _, rfl, Ext.upd n1 _ _ upd_same, T.c_Session, T.a_Session_effects_done, (by show 7 < 1000; decide), ?_⟩
    rw [seF_p4]
    have b1 := (b0.ext (Ext.upd (o := .lst evs) n1)).put (o := .ins (He.ga K "Session") dx (seF s0.c st.cur.2 kd p1 lp lu le))
    have p1a : p1 ≠ a := fun z => by rw [z, upd_same] at n1; cases n1
    refine ⟨_, rfl, o, _, dxo, _, _, rfl, b1 _ _ (Ne.symm nao) ho, T.c_Session, T.a_Session_places_before, seF_5 _ _ _ _ _ _ _, _, _, rfl, .inl (SqL.of (b1 _ _ (Ne.symm na2) a2)), fun p2 n2 => ?_⟩
    refine ⟨_, rfl, a, _, dx, _, rfl, Ext.upd n2 _ _ upd_same, T.c_Session, T.a_Session_places_before, (by show 7 < 1000; decide), ?_⟩
    rw [seF_p5]
    have b2 := (b1.ext (Ext.upd (o := .lst pvs) n2)).put (o := .ins (He.ga K "Session") dx (seF s0.c st.cur.2 kd p1 p2 lu le))
    have p2a : p2 ≠ a := fun z => by rw [z, upd_same] at n2; cases n2
    have p21 : p2 ≠ p1 := fun z => by rw [z, upd_ne p1a, upd_same] at n2; cases n2
    refine ⟨_, rfl, o, _, dxo, _, _, rfl, b2 _ _ (Ne.symm nao) ho, T.c_Session, T.a_Session_undone, seF_6 _ _ _ _ _ _ _, _, _, rfl, .inl (SqL.of (b2 _ _ (Ne.symm na3) a3)), fun p3 n3 => ?_⟩
    refine ⟨_, rfl, a, _, dx, _, rfl, Ext.upd n3 _ _ upd_same, T.c_Session, T.a_Session_undone, (by show 7 < 1000; decide), ?_⟩
    rw [seF_p6]
    have b3 := (b2.ext (Ext.upd (o := .lst uvs) n3)).put (o := .ins (He.ga K "Session") dx (seF s0.c st.cur.2 kd p1 p2 p3 le))
    have p3a : p3 ≠ a := fun z => by rw [z, upd_same] at n3; cases n3
    have p32 : p3 ≠ p2 := fun z => by rw [z, upd_ne p2a, upd_same] at n3; cases n3
    have p31 : p3 ≠ p1 := fun z => by rw [z, upd_ne p1a, upd_ne (Ne.symm p21), upd_ne p1a, upd_same] at n3; cases n3
    have hF : ∀ {Y : Hp} {p : Addr}, ExtBut a H Y → p ≠ a → Y p = none → H p = none := fun {Y p} b hp hn => by
      cases z : H p with
      | none => rfl
      | some o =>
        rw [b _ _ hp z] at hn
        cases hn
    have f1 := hF b0 p1a n1
    have f2 := hF b1 p2a n2
    have f3 := hF b2 p3a n3
    refine q _ p1 p2 p3 b3 ⟨⟨dx, upd_same⟩, ⟨evs, pvs, uvs, xs, ?_, ?_, ?_, b3 _ _ (Ne.symm nae) hle, hxs, ?_⟩, Ne.symm p21, Ne.symm p31, fun z => ?_, Ne.symm p32, fun z => ?_, fun z => ?_⟩ f1 f2 f3
    · show upd _ _ _ p1 = _
      rw [upd_ne p1a, upd_ne (Ne.symm p31), upd_ne p1a, upd_ne (Ne.symm p21), upd_ne p1a, upd_same]
    · show upd _ _ _ p2 = _
      rw [upd_ne p2a, upd_ne (Ne.symm p32), upd_ne p2a, upd_same]
    · show upd _ _ _ p3 = _
      rw [upd_ne p3a, upd_same]
    · have eK : ExtK H _ := fun b o hb n => b3 b o (fun z => by rw [z, ha] at hb; cases hb; exact nk_ses n) hb
      have eKc := eK.cut (l := (Sa.mk s0.c kd p1 p2 p3 le).own a) fun b hb o h1 => by
        rcases own_mem.mp hb with z | z | z | z | z
        · rw [z, upd_same] at h1
          cases h1
          exact nk_ses
        · have z' : b = p1 := z
          rw [z', upd_ne p1a, upd_ne (Ne.symm p31), upd_ne p1a, upd_ne (Ne.symm p21), upd_ne p1a, upd_same] at h1
          cases h1
          exact nk_lst
        · have z' : b = p2 := z
          rw [z', upd_ne p2a, upd_ne (Ne.symm p32), upd_ne p2a, upd_same] at h1
          cases h1
          exact nk_lst
        · have z' : b = p3 := z
          rw [z', upd_ne p3a, upd_same] at h1
          cases h1
          exact nk_lst
        · have z' : b = le := z
          rw [z', b3 _ _ (Ne.symm nae) hle] at h1
          cases h1
          exact nk_lst
      exact C.extK rfl (hk.extK eKc) ((ExtK.of cut_sub).trans eKc)
    · have z' : p1 = le := z
      rw [z', hle] at f1
      cases f1
    · have z' : p2 = le := z
      rw [z', hle] at f2
      cases f2
    · have z' : p3 = le := z
      rw [z', hle] at f3
      cases f3
def sp_Session_clone (K : PySem.W.Frag) : Sp := fun vs H Q _ => ∃ (a : Addr) (s : Sa) (st : Sn) (nT ne : Nat), vs = [.ref a] ∧ SessAt K H a s st nT ne ∧
  ∀ p s' H', Ext H H' → SessAt K H' p s' st nT 0 → H p = none → FrL H (s'.own p) → Q (.ref p) H'
theorem sc_Session_clone : FnScope ["self", "other"] ["self"] (defScope s_Session_clone) := ⟨rfl, rfl, rfl, by decide +kernel, rfl, by decide +kernel, by decide +kernel⟩
theorem k_Session_clone (T : Txt K mg) : FnR P w K mg base CX0 6 (He.ma K (He.ga K "Session") "clone") (sp_Session_clone K) := by
  obtain ⟨fd, F⟩ := T.f_Session_clone
  refine (fun (G : FnOk P w K mg base CX0 6 _ fd _ (sp_Session_clone K)) => ?_) (F.ok sc_Session_clone (fun vs H Q E h => by obtain ⟨_, _, _, _, _, rfl, _⟩ := h; rfl) (fun cdv A outer s H vs Q E hr h => ?_))
  · exact (G.raw (F.bindsN fun _ _ _ _ _ _ us hl => match us, hl with | [_], _ => rfl) .nil).imp fun vs H Q E h => by rw [List.append_nil]; exact h
  · have hu := hu_of hr
    have hu0 : (A.deeper (envOfC _ _ s.heap.objs.size _ cdv)).units < cLine := Nat.lt_of_succ_lt hu
    refine ⟨_, PSs.nox (pss_cons (ps_set (i := 1) sc_Session_clone.nd rfl (Or.inl rfl) (pe_kM T.k_Session (k_Session_init T) (hr.mono (by decide)) (by rfl) T.g_Session pass0 (pa_cons (pe_fld (pv 0) rfl) pa_nil) (pk_cons (pe_fld (pv 0) rfl) pk_nil)))
  (pss_cons (ps_fld (pv 1) (pe_fld (pv 0) rfl) rfl)
  (pss_cons (ps_expr (pe_methR (pv 1) T.c_Session T.m_Session_take_over (k_Session_take_over T) (hr.mono (by decide)) pass0 (pa_cons (pv 0) pa_nil)))
  (pss_one (ps_ret (pv 1)))))), ?_⟩
    obtain ⟨a, s0, st, nT, ne, rfl, x, q⟩ := h
    obtain ⟨dx, ha⟩ := x.at_
    obtain ⟨evs, pvs, uvs, ys, a1, a2, a3, a4, a5, C⟩ := x.ls
    refine ⟨_, rfl, a, _, dx, _, _, rfl, ha, T.c_Session, T.a_Session_own_tape, seF_1 _ _ _ _ _ _ _, _, rfl, a, _, dx, _, _, rfl, ha, T.c_Session, T.a_Session_own_head, seF_2 _ _ _ _ _ _ _, rfl, rfl, fun y dy ny ndy nye => ?_⟩
    have em := made_ext (C := He.ga K "Session") ny ndy ExtBut.refl
    refine ⟨y, dy, s0.c, st.cur.2, st.b, st.cur.1, nT, rfl, upd_same, (C.tp.ext cut_sub).ext em, fun H1 s1 eb1 y1 m1 m2 m3 m4 => ⟨rfl, ?_⟩⟩
    have e1 := made_ext ny ndy eb1
    obtain ⟨dy1, hy⟩ := y1.at_
    obtain ⟨evs1, pvs1, uvs1, xs1, c1, c2, c3, c4, c5, C1⟩ := y1.ls
    have x1 := x.ext e1
    have ya : y ≠ a := fun z => by rw [z, ha] at ny; cases ny
    refine ⟨_, rfl, a, _, dx, _, _, rfl, e1 _ _ ha, T.c_Session, T.a_Session_known, seF_3 _ _ _ _ _ _ _, _, rfl, y, _, dy1, _, rfl, hy, T.c_Session, T.a_Session_known, (by show 7 < 1000; decide), ?_⟩
    rw [seF_p3]
    have b2 : ExtBut y H1 (upd H1 y (.ins (He.ga K "Session") dy1 (seF s1.c st.cur.2 s0.kd s1.ld s1.lp s1.lu s1.le))) := ExtBut.refl.put
    have ynl : ∀ {b : Addr} {o : HO}, H b = some o → b ≠ y := fun h z => by rw [z, ny] at h; cases h
    have e2 : Ext H (upd H1 y (.ins (He.ga K "Session") dy1 (seF s1.c st.cur.2 s0.kd s1.ld s1.lp s1.lu s1.le))) := fun b o h => b2 b o (ynl h) (e1 b o h)
    have x2 := x.ext e2
    have nfr : ∀ {b : Addr}, (upd (upd H dy (.own y)) y (.ins (He.ga K "Session") dy [])) b = none → H b = none := fun h => em.none h
    refine ⟨_, rfl, y, dy1, _, rfl, upd_same, seF_take _ _ _ _ _ _ _, _, rfl, ?_⟩
    have yle : s1.le ≠ y := fun z => y1.a_ne.2.2.2 z.symm
    obtain ⟨kdx, dq, k1, k2⟩ := C.kn
    refine ⟨y, dy1, a, s1.c, s0.kd, s1.ld, s1.lp, s1.lu, s1.le, st.cur.2, s0, st, nT, ne, 0, xs1, rfl, upd_same, x2, ya, ⟨kdx, dq, e2 _ _ (cut_sub _ _ k1), e2 _ _ (cut_sub _ _ k2)⟩, b2 _ _ yle c4, c5, ?_, ?_, ?_, fun H3 p1 p2 p3 eb3 y3 n1 n2 n3 => ?_⟩
    · exact fun z => by have h := nfr m4; rw [z, a1] at h; cases h
    · exact fun z => by have h := nfr m4; rw [z, a2] at h; cases h
    · exact fun z => by have h := nfr m4; rw [z, a3] at h; cases h
    refine ⟨_, rfl, q y _ H3 (fun b o h => eb3 b o (ynl h) (e2 b o h)) y3 ny fun b hb => ?_⟩
    rcases own_mem.mp hb with z | z | z | z | z
    · rw [z]
      exact ny
    · have z' : b = p1 := z
      rw [z']
      exact e2.none n1
    · have z' : b = p2 := z
      rw [z']
      exact e2.none n2
    · have z' : b = p3 := z
      rw [z']
      exact e2.none n3
    · have z' : b = s1.le := z
      rw [z']
      exact nfr m4
end
end Tp
/-! part K16 -/
set_option Elab.async false
set_option linter.all false
set_option maxRecDepth 100000
set_option maxHeartbeats 4000000
/-! the defs, part 16: undo, redo -/
namespace Tp
open PySem PySem.Spec PyProof.Rows L2
section
variable {P : Program} [PrgOk P] {w : World} {K : PySem.W.Frag} {mg : Str → Option Value} {base : Heap}
def sp_Session_undo (K : PySem.W.Frag) : Sp := fun vs H Q E => ∃ (a : Addr) (s : Sa) (st : Sn) (nT ne : Nat) (H0 : Hp), vs = [.ref a] ∧ SessAt K H a s st nT ne ∧ st.und.length < BIG ∧ Ext H0 H ∧ FrL H0 (s.own a) ∧
  (st.hist = [] → ∀ H', Ext H H' → E (.ref (He.ga K "NothingToUndo")) none H') ∧
  (∀ es e H' s', st.hist = es ++ [e] → Ext H0 H' → FrL H0 (s'.own a) → SessAt K H' a s' ⟨st.b, st.p0, es, e :: st.und⟩ nT ne → Q (.int (runE es st.p0).2) H')
theorem sc_Session_undo : FnScope ["self"] ["self"] (defScope s_Session_undo) := ⟨rfl, rfl, rfl, by decide +kernel, rfl, by decide +kernel, by decide +kernel⟩
theorem k_Session_undo (T : Txt K mg) : FnR P w K mg base (L2.CX P w) 1 (He.ma K (He.ga K "Session") "undo") (sp_Session_undo K) := by
  obtain ⟨fd, F⟩ := T.f_Session_undo
  refine (fun (G : FnOk P w K mg base (L2.CX P w) 1 _ fd _ (sp_Session_undo K)) => ?_) (F.ok sc_Session_undo (fun vs H Q E h => by obtain ⟨_, _, _, _, _, _, rfl, _⟩ := h; rfl) (fun cdv A outer s H vs Q E hr h => ?_))
  · exact (G.raw (F.bindsN fun _ _ _ _ _ _ us hl => match us, hl with | [_], _ => rfl) .nil).imp fun vs H Q E h => by rw [List.append_nil]; exact h
  · have hu := hu_of hr
    have hu0 : (A.deeper (envOfC _ _ s.heap.objs.size _ cdv)).units < cLine := Nat.lt_of_succ_lt hu
    refine ⟨_, ((pss_cons (ps_if (pt_cmpR (op_eqNil hu0) (pe_fld (pv 0) rfl) (pe_lst pa_nil) (nomark _)) (pss_one (ps_raise rfl (takes_of rfl rfl rfl rfl) (pmk_NothingToUndo T (by rfl)))) pss_nil)
  (pss_cons (ps_expr (pe_bm PySem.F.plainAttrs_list PySem.F.slot_list_append PySem.F.type_list_append mt_append (pe_fld (pv 0) rfl) (pa_cons (pe_tup (pa_cons (pe_bm0 PySem.F.plainAttrs_list PySem.F.slot_list_pop PySem.F.type_list_pop mt_pop (pe_fld (pv 0) rfl)) (pa_cons (pe_tup (pa_cons (pe_fld (pv 0) rfl) (pa_cons (pe_fld (pv 0) rfl) pa_nil))) pa_nil))) pa_nil)))
  (pss_cons (ps_asg (pe_bm0 PySem.F.plainAttrs_list PySem.F.slot_list_pop PySem.F.type_list_pop mt_pop (pe_fld (pv 0) rfl)) (pg_tup rfl (pgs_cons (pg_fld (pv 0)) (pgs_cons (pg_fld (pv 0)) pgs_nil))))
  (pss_one (ps_ret (pe_fld (pv 0) rfl))))))), ?_⟩
    obtain ⟨a, s0, st, nT, ne, H0, rfl, x, hun, e0, f0, q1, q2⟩ := h
    obtain ⟨dx, ha⟩ := x.at_
    obtain ⟨evs, pvs, uvs, xs, h1, h2, h3, h4, h5, C⟩ := x.ls
    obtain ⟨na1, na2, na3, na4⟩ := x.a_ne
    obtain ⟨k1, k2, k3, k4, k5, k6⟩ := x.ne
    refine ⟨_, rfl, a, _, dx, _, _, rfl, ha, T.c_Session, T.a_Session_effects_done, seF_4 _ _ _ _ _ _ _, (by show 0 ≤ sizeLine; decide), fun N hN => ?_⟩
    have eN : Ext H (upd H N (.lst [])) := Ext.upd hN
    refine ⟨_, _, _, rfl, rfl, eN _ _ h1, upd_same, _, rfl, ?_⟩
    refine ifD (fun c => ?_) fun c => ?_
    · refine q1 ?_ _ eN
      have := C.ev.1
      rw [c] at this
      exact List.length_eq_zero_iff.mp this.symm
    · have hne : st.hist ≠ [] := fun z => by
        have := C.ev.1
        rw [z] at this
        exact c (List.length_eq_zero_iff.mp this)
      obtain ⟨es, e, hes⟩ : ∃ es e, st.hist = es ++ [e] := ⟨st.hist.dropLast, st.hist.getLast hne, (List.dropLast_concat_getLast hne).symm⟩
      have Cev := C.ev
      have Cpv := C.pv
      rw [hes] at Cev Cpv
      rw [plL_snoc] at Cpv
      obtain ⟨v, hv, ea, rfl, hea⟩ := Cev.last (y := e) (by simp)
      obtain ⟨v2, hv2, r, rfl, c', hr0, htp⟩ := Cpv.last (y := runE es st.p0) (by simp)
      have ev' := Cev.dropLast
      have pv' := Cpv.dropLast
      rw [List.dropLast_concat] at ev' pv'
      have a1 := eN _ _ ha
      have b1 := eN _ _ h1
      have b2 := eN _ _ h2
      have b3 := eN _ _ h3
      refine ⟨_, rfl, a, _, dx, _, _, rfl, a1, T.c_Session, T.a_Session_undone, seF_6 _ _ _ _ _ _ _, .inl ⟨rfl, _, SqL.of b3⟩, ?_⟩
      refine ⟨_, rfl, a, _, dx, _, _, rfl, a1, T.c_Session, T.a_Session_effects_done, seF_4 _ _ _ _ _ _ _, .inl ⟨rfl, _, SqL.of b1⟩, s0.ld, evs, _, rfl, rfl, b1, hv, ?_⟩
      have a2 : (upd (upd H N (.lst [])) s0.ld (.lst evs.dropLast)) a = _ := (upd_ne na1).trans a1
      refine ⟨_, rfl, a, _, dx, _, _, rfl, a2, T.c_Session, T.a_Session_own_tape, seF_1 _ _ _ _ _ _ _, _, rfl, a, _, dx, _, _, rfl, a2, T.c_Session, T.a_Session_own_head, seF_2 _ _ _ _ _ _ _, (by show 2 ≤ sizeLine; decide), fun pt hpt => ?_⟩
      refine ⟨(by show 2 ≤ sizeLine; decide), fun po hpo => ?_⟩
      have npt : H pt = none := by
        by_cases z : pt = s0.ld
        · rw [z, upd_same] at hpt
          cases hpt
        · rw [upd_ne z] at hpt
          exact eN.none hpt
      have hnd : ∀ {b : Addr} {o : HO}, H b = some o → b ≠ pt := fun h z => by rw [z, npt] at h; cases h
      have npo : H po = none := by
        have hpo2 := (Ext.upd hpt).none hpo
        by_cases z : po = s0.ld
        · rw [z, upd_same] at hpo2
          cases hpo2
        · rw [upd_ne z] at hpo2
          exact eN.none hpo2
      have hno : ∀ {b : Addr} {o : HO}, H b = some o → b ≠ po := fun h z => by rw [z, npo] at h; cases h
      have hnN : ∀ {b : Addr} {o : HO}, H b = some o → b ≠ N := fun h z => by rw [z, hN] at h; cases h
      have pto : pt ≠ po := ne_of_none upd_same hpo
      -- all but ld
      have up3 : ∀ {b : Addr} {o : HO}, b ≠ s0.ld → H b = some o → (upd (upd (upd (upd H N (.lst [])) s0.ld (.lst evs.dropLast)) pt (.tup [V.ref s0.c, V.int st.cur.2])) po (.tup [V.ref ea, V.ref pt])) b = some o := fun hb h => by
        rw [upd_ne (hno h), upd_ne (hnd h), upd_ne hb, upd_ne (hnN h)]
        exact h
      refine ⟨s0.lu, uvs, _, rfl, rfl, up3 (Ne.symm k2) h3, ?_, ?_⟩
      · have hl := C.uv.1
        rw [List.length_reverse, unL_len] at hl
        rw [hl]
        exact big_line (Nat.le_of_lt hun)
      have up4 : ∀ {b : Addr} {o : HO}, b ≠ s0.ld → b ≠ s0.lu → H b = some o → (upd (upd (upd (upd (upd H N (.lst [])) s0.ld (.lst evs.dropLast)) pt (.tup [V.ref s0.c, V.int st.cur.2])) po (.tup [V.ref ea, V.ref pt])) s0.lu (.lst (uvs ++ [V.ref po]))) b = some o := fun hb hb2 h => by
        rw [upd_ne hb2]
        exact up3 hb h
      have b24 := up4 (Ne.symm k1) k4 h2
      refine ⟨_, rfl, a, _, dx, _, _, rfl, up4 na1 na3 ha, T.c_Session, T.a_Session_places_before, seF_5 _ _ _ _ _ _ _, .inl ⟨rfl, _, SqL.of b24⟩, s0.lp, pvs, _, rfl, rfl, b24, hv2, ?_⟩
      have hr1 : H r = _ := cut_sub _ _ hr0
      have rld : r ≠ s0.ld := ne_of hr1 h1 (by intro z; cases z)
      have rlp : r ≠ s0.lp := ne_of hr1 h2 (by intro z; cases z)
      have rlu : r ≠ s0.lu := ne_of hr1 h3 (by intro z; cases z)
      refine ⟨r, _, rfl, SqT.of (xs := [.ref c', .int (runE es st.p0).2]) (by rw [upd_ne rlp]; exact up4 rld rlu hr1), rfl, _, _, rfl, ?_⟩
      refine ⟨_, rfl, a, _, dx, _, rfl, (by rw [upd_ne na2]; exact up4 na1 na3 ha), T.c_Session, T.a_Session_own_tape, (by show 7 < 1000; decide), ?_⟩
      rw [seF_p1]
      refine ⟨_, _, rfl, _, rfl, a, _, dx, _, rfl, upd_same, T.c_Session, T.a_Session_own_head, (by show 7 < 1000; decide), rfl, ?_⟩
      rw [seF_p2, upd_upd]
      refine ⟨_, rfl, a, _, dx, _, _, rfl, upd_same, T.c_Session, T.a_Session_own_head, seF_2 _ _ _ _ _ _ _, ?_⟩
      have up5 : ∀ {b : Addr} {o : HO}, b ≠ a → b ≠ s0.ld → b ≠ s0.lu → b ≠ s0.lp → H b = some o → (upd (upd (upd (upd (upd (upd (upd H N (.lst [])) s0.ld (.lst evs.dropLast)) pt (.tup [V.ref s0.c, V.int st.cur.2])) po (.tup [V.ref ea, V.ref pt])) s0.lu (.lst (uvs ++ [V.ref po]))) s0.lp (.lst pvs.dropLast)) a (.ins (He.ga K "Session") dx (seF c' (runE es st.p0).2 s0.kd s0.ld s0.lp s0.lu s0.le))) b = some o := fun h1' h2' h3' h4' h => by
        rw [upd_ne h1', upd_ne h4']
        exact up4 h2' h3' h
      have no : ∀ {b : Addr}, b ∉ s0.own a → b ≠ a ∧ b ≠ s0.ld ∧ b ≠ s0.lp ∧ b ≠ s0.lu ∧ b ≠ s0.le := fun h => ⟨fun z => h (own_mem.mpr (.inl z)), fun z => h (own_mem.mpr (.inr (.inl z))), fun z => h (own_mem.mpr (.inr (.inr (.inl z)))), fun z => h (own_mem.mpr (.inr (.inr (.inr (.inl z))))), fun z => h (own_mem.mpr (.inr (.inr (.inr (.inr z)))))⟩
      have eX : Ext (cut (s0.own a) H) (upd (upd (upd (upd (upd (upd (upd H N (.lst [])) s0.ld (.lst evs.dropLast)) pt (.tup [V.ref s0.c, V.int st.cur.2])) po (.tup [V.ref ea, V.ref pt])) s0.lu (.lst (uvs ++ [V.ref po]))) s0.lp (.lst pvs.dropLast)) a (.ins (He.ga K "Session") dx (seF c' (runE es st.p0).2 s0.kd s0.ld s0.lp s0.lu s0.le))) := fun b o h => by
        by_cases z : b ∈ s0.own a
        · rw [cut_in z] at h
          cases h
        · obtain ⟨z1, z2, z3, z4, z5⟩ := no z
          rw [cut_out z] at h
          exact up5 z1 z2 z4 z3 h
      have eX2 := eX.cut (l := s0.own a) FrL.cut
      have pta : pt ≠ a := fun z => hnd ha z.symm
      have poa : po ≠ a := fun z => hno ha z.symm
      have ptld : pt ≠ s0.ld := fun z => hnd h1 z.symm
      have ptlp : pt ≠ s0.lp := fun z => hnd h2 z.symm
      have ptlu : pt ≠ s0.lu := fun z => hnd h3 z.symm
      have ptle : pt ≠ s0.le := fun z => hnd h4 z.symm
      have pold : po ≠ s0.ld := fun z => hno h1 z.symm
      have polp : po ≠ s0.lp := fun z => hno h2 z.symm
      have polu : po ≠ s0.lu := fun z => hno h3 z.symm
      have pole : po ≠ s0.le := fun z => hno h4 z.symm
      have ptn : pt ∉ s0.own a := fun z => (own_mem.mp z).elim pta fun z => z.elim ptld fun z => z.elim ptlp fun z => z.elim ptlu ptle
      have pon : po ∉ s0.own a := fun z => (own_mem.mp z).elim poa fun z => z.elim pold fun z => z.elim polp fun z => z.elim polu pole
      have hcur : st.cur = ap e (runE es st.p0) := by
        unfold Sn.cur
        rw [hes, runE_snoc]
      refine q2 es e _ ⟨c', s0.kd, s0.ld, s0.lp, s0.lu, s0.le⟩ hes (fun b o hb => ?_) f0 ⟨⟨dx, upd_same⟩, ⟨evs.dropLast, pvs.dropLast, uvs ++ [.ref po], xs, ?_, ?_, ?_, ?_, h5, ⟨htp.ext eX2, ?_, EffsAt.ext ev' eX2, pv'.mono fun _ _ h => h.ext eX2, ?_, ?_⟩⟩, x.ne⟩
      · have ho := e0 b o hb
        exact up5 (fun z => by rw [z, f0 _ (own_mem.mpr (.inl rfl))] at hb; cases hb) (fun z => by rw [z, f0 _ (own_mem.mpr (.inr (.inl rfl)))] at hb; cases hb) (fun z => by rw [z, f0 _ (own_mem.mpr (.inr (.inr (.inr (.inl rfl)))))] at hb; cases hb) (fun z => by rw [z, f0 _ (own_mem.mpr (.inr (.inr (.inl rfl))))] at hb; cases hb) ho
      · show upd _ _ _ s0.ld = _
        rw [upd_ne (Ne.symm na1), upd_ne k1, upd_ne k2, upd_ne (Ne.symm pold), upd_ne (Ne.symm ptld), upd_same]
      · show upd _ _ _ s0.lp = _
        rw [upd_ne (Ne.symm na2), upd_same]
      · show upd _ _ _ s0.lu = _
        rw [upd_ne (Ne.symm na3), upd_ne (Ne.symm k4), upd_same]
      · exact up5 (Ne.symm na4) (Ne.symm k3) (Ne.symm k6) (Ne.symm k5) h4
      · obtain ⟨dk, dq, q1', q2'⟩ := C.kn
        exact ⟨dk, dq, eX2 _ _ q1', eX2 _ _ q2'⟩
      · rw [List.reverse_append]
        refine All2.cons ⟨po, ea, pt, rfl, ?_, hea.ext eX2, s0.c, ?_, ?_⟩ ?_
        · show cut (s0.own a) _ po = _
          rw [cut_out pon, upd_ne poa, upd_ne polp, upd_ne polu, upd_same]
        · show cut (s0.own a) _ pt = some (.tup [.ref s0.c, .int (ap e (runE es st.p0)).2])
          rw [← hcur, cut_out ptn, upd_ne pta, upd_ne ptlp, upd_ne ptlu, upd_ne pto, upd_same]
        · show TapeAt K _ s0.c st.b (ap e (runE es st.p0)).1 nT
          rw [← hcur]
          exact C.tp.ext eX2
        · show All2 _ _ (unL st.und (ap e (runE es st.p0)))
          rw [← hcur]
          exact C.uv.mono fun _ _ h => h.ext eX2
      · show OkE (es ++ e :: st.und) st.p0
        have := C.ok
        rw [hes, List.append_assoc] at this
        exact this
def sp_Session_redo (K : PySem.W.Frag) : Sp := fun vs H Q E => ∃ (a : Addr) (s : Sa) (st : Sn) (nT ne : Nat) (H0 : Hp), vs = [.ref a] ∧ SessAt K H a s st nT ne ∧ st.hist.length < BIG ∧ Ext H0 H ∧ FrL H0 (s.own a) ∧
  (st.und = [] → ∀ H', Ext H H' → E (.ref (He.ga K "NothingToUndo")) none H') ∧
  (∀ e es H' s', st.und = e :: es → Ext H0 H' → FrL H0 (s'.own a) → SessAt K H' a s' ⟨st.b, st.p0, st.hist ++ [e], es⟩ nT ne → Q (.int (runE (st.hist ++ [e]) st.p0).2) H')
theorem sc_Session_redo : FnScope ["self", "effect", "place", "left"] ["self"] (defScope s_Session_redo) := ⟨rfl, rfl, rfl, by decide +kernel, rfl, by decide +kernel, by decide +kernel⟩
theorem k_Session_redo (T : Txt K mg) : FnR P w K mg base (L2.CX P w) 2 (He.ma K (He.ga K "Session") "redo") (sp_Session_redo K) := by
  obtain ⟨fd, F⟩ := T.f_Session_redo
  refine (fun (G : FnOk P w K mg base (L2.CX P w) 2 _ fd _ (sp_Session_redo K)) => ?_) (F.ok sc_Session_redo (fun vs H Q E h => by obtain ⟨_, _, _, _, _, _, rfl, _⟩ := h; rfl) (fun cdv A outer s H vs Q E hr h => ?_))
  · exact (G.raw (F.bindsN fun _ _ _ _ _ _ us hl => match us, hl with | [_], _ => rfl) .nil).imp fun vs H Q E h => by rw [List.append_nil]; exact h
  · have hu := hu_of hr
    have hu0 : (A.deeper (envOfC _ _ s.heap.objs.size _ cdv)).units < cLine := Nat.lt_of_succ_lt hu
    refine ⟨_, ((pss_cons (ps_if (pt_cmpR (op_eqNil hu0) (pe_fld (pv 0) rfl) (pe_lst pa_nil) (nomark _)) (pss_one (ps_raise rfl (takes_of rfl rfl rfl rfl) (pmk_NothingToUndo T (by rfl)))) pss_nil)
  (pss_cons (ps_asg (pe_bm0 PySem.F.plainAttrs_list PySem.F.slot_list_pop PySem.F.type_list_pop mt_pop (pe_fld (pv 0) rfl)) (pg_tup rfl (pgs_cons (pg_name (i := 1) sc_Session_redo.nd rfl (Or.inl rfl)) (pgs_cons (pg_name (i := 2) sc_Session_redo.nd rfl (Or.inl rfl)) pgs_nil))))
  (pss_cons (ps_set (i := 3) sc_Session_redo.nd rfl (Or.inl rfl) (pe_fld (pv 0) rfl))
  (pss_cons (ps_expr (pe_methR (pv 0) T.c_Session T.m_Session_act (k_Session_act T) (hr.mono (by decide)) pass0 (pa_cons (pv 1) (pa_cons (pv 2) pa_nil))))
  (pss_cons (ps_fld (pv 0) (pv 3) rfl)
  (pss_one (ps_ret (pe_fld (pv 0) rfl))))))))), ?_⟩
    obtain ⟨a, s0, st, nT, ne, H0, rfl, x, hhi, e0, f0, q1, q2⟩ := h
    obtain ⟨dx, ha⟩ := x.at_
    obtain ⟨evs, pvs, uvs, xs, h1, h2, h3, h4, h5, C⟩ := x.ls
    obtain ⟨na1, na2, na3, na4⟩ := x.a_ne
    obtain ⟨k1, k2, k3, k4, k5, k6⟩ := x.ne
    refine ⟨_, rfl, a, _, dx, _, _, rfl, ha, T.c_Session, T.a_Session_undone, seF_6 _ _ _ _ _ _ _, (by show 0 ≤ sizeLine; decide), fun N hN => ?_⟩
    have eN : Ext H (upd H N (.lst [])) := Ext.upd hN
    refine ⟨_, _, _, rfl, rfl, eN _ _ h3, upd_same, _, rfl, ?_⟩
    refine ifD (fun c => ?_) fun c => ?_
    · refine q1 ?_ _ eN
      have := C.uv.1
      rw [c, unL_len] at this
      exact List.length_eq_zero_iff.mp this.symm
    · obtain ⟨e, es, hes⟩ : ∃ e es, st.und = e :: es := by
        cases hu : st.und with
        | nil =>
          have := C.uv.1
          rw [hu] at this
          exact absurd (List.length_eq_zero_iff.mp (by rw [← List.length_reverse]; exact this)) c
        | cons e es => exact ⟨e, es, rfl⟩
      obtain ⟨us, v, huv⟩ : ∃ us v, uvs = us ++ [v] := ⟨uvs.dropLast, uvs.getLast c, (List.dropLast_concat_getLast c).symm⟩
      subst huv
      have Cuv := C.uv
      rw [hes, List.reverse_append] at Cuv
      have hcons : All2 (UnV K (cut (s0.own a) H) st.b nT) (v :: us.reverse) ((e, ap e st.cur) :: unL es (ap e st.cur)) := Cuv
      obtain ⟨t, ea, rr, rfl, ht0, hea, c', hr0, htp⟩ := hcons.2 0 v (e, ap e st.cur) rfl rfl
      have hrest : All2 (UnV K (cut (s0.own a) H) st.b nT) us.reverse (unL es (ap e st.cur)) := ⟨Nat.succ.inj hcons.1, fun i x y hx hy => hcons.2 (i + 1) x y hx hy⟩
      have ht1 : H t = _ := cut_sub _ _ ht0
      have hr1 : H rr = _ := cut_sub _ _ hr0
      have tlu : t ≠ s0.lu := ne_of ht1 h3 (by intro z; cases z)
      have rlu : rr ≠ s0.lu := ne_of hr1 h3 (by intro z; cases z)
      have b3 := eN _ _ h3
      -- all but lu
      have up1 : ∀ {b : Addr} {o : HO}, b ≠ s0.lu → H b = some o → (upd (upd H N (.lst [])) s0.lu (.lst us)) b = some o := fun hb h => by
        rw [upd_ne hb]
        exact eN _ _ h
      refine ⟨_, rfl, a, _, dx, _, _, rfl, eN _ _ ha, T.c_Session, T.a_Session_undone, seF_6 _ _ _ _ _ _ _, .inl ⟨rfl, _, SqL.of b3⟩, s0.lu, us ++ [V.ref t], V.ref t, rfl, rfl, b3, (by simp), ?_⟩
      rw [List.dropLast_concat]
      refine ⟨t, _, rfl, SqT.of (up1 tlu ht1), rfl, _, _, rfl, _, _, rfl, rfl, ?_⟩
      have a1 := up1 na3 ha
      refine ⟨_, rfl, a, _, dx, _, _, rfl, a1, T.c_Session, T.a_Session_undone, seF_6 _ _ _ _ _ _ _, ?_⟩
      refine ⟨_, rfl, a, dx, _, rfl, a1, seF_act _ _ _ _ _ _ _, _, rfl, _, rfl, a, dx, s0.c, c', ea, rr, s0.ld, s0.lp, s0.lu, s0.le, s0.kd, st.cur.2, (ap e st.cur).2, evs, pvs, rfl, a1, up1 k2 h1, up1 k4 h2, k1, ?_, ?_, up1 rlu hr1, fun H' pt pn keep npt npn hpt hpn ha' hld hlp => ?_⟩
      · rw [C.ev.1]
        exact hhi
      · rw [C.pv.1, plL_len]
        exact hhi
      refine ⟨_, rfl, _, rfl, a, _, dx, _, rfl, ha', T.c_Session, T.a_Session_undone, (by show 7 < 1000; decide), ?_⟩
      rw [seF_p6]
      refine ⟨_, rfl, a, _, dx, _, _, rfl, upd_same, T.c_Session, T.a_Session_own_head, seF_2 _ _ _ _ _ _ _, ?_⟩
      have ptlu : pt ≠ s0.lu := fun z => by rw [z, upd_same] at npt; cases npt
      have npt0 : H pt = none := by
        rw [upd_ne ptlu] at npt
        exact eN.none npt
      have hnd : ∀ {b : Addr} {o : HO}, H b = some o → pt ≠ b := fun h z => by rw [z, h] at npt0; cases npt0
      have no : ∀ {b : Addr}, b ∉ s0.own a → b ≠ a ∧ b ≠ s0.ld ∧ b ≠ s0.lp ∧ b ≠ s0.lu ∧ b ≠ s0.le := fun h => ⟨fun z => h (own_mem.mpr (.inl z)), fun z => h (own_mem.mpr (.inr (.inl z))), fun z => h (own_mem.mpr (.inr (.inr (.inl z)))), fun z => h (own_mem.mpr (.inr (.inr (.inr (.inl z))))), fun z => h (own_mem.mpr (.inr (.inr (.inr (.inr z)))))⟩
      have up2 : ∀ {b : Addr} {o : HO}, b ≠ a → b ≠ s0.ld → b ≠ s0.lp → b ≠ s0.lu → H b = some o → (upd H' a (.ins (He.ga K "Session") dx (seF c' (ap e st.cur).2 s0.kd s0.ld s0.lp s0.lu s0.le))) b = some o := fun z1 z2 z3 z4 h => by
        rw [upd_ne z1]
        exact keep _ _ z1 z2 z3 (up1 z4 h)
      have eX : Ext (cut (s0.own a) H) (upd H' a (.ins (He.ga K "Session") dx (seF c' (ap e st.cur).2 s0.kd s0.ld s0.lp s0.lu s0.le))) := fun b o h => by
        by_cases z : b ∈ s0.own a
        · rw [cut_in z] at h
          cases h
        · obtain ⟨z1, z2, z3, z4, z5⟩ := no z
          rw [cut_out z] at h
          exact up2 z1 z2 z3 z4 h
      have eX2 := eX.cut (l := s0.own a) FrL.cut
      have ptn : pt ∉ s0.own a := fun z => (own_mem.mp z).elim (hnd ha) fun z => z.elim (hnd h1) fun z => z.elim (hnd h2) fun z => z.elim (hnd h3) (hnd h4)
      have hcur : (Sn.mk st.b st.p0 (st.hist ++ [e]) es).cur = ap e st.cur := runE_snoc _ _ _
      have hq := q2 e es (upd H' a (.ins (He.ga K "Session") dx (seF c' (ap e st.cur).2 s0.kd s0.ld s0.lp s0.lu s0.le))) ⟨c', s0.kd, s0.ld, s0.lp, s0.lu, s0.le⟩ hes (fun b o hb => ?_) f0 ⟨⟨dx, by rw [hcur]; exact upd_same⟩, ⟨evs ++ [.ref ea], pvs ++ [.ref pt], us, xs, ?_, ?_, ?_, ?_, h5, ⟨?_, ?_, ?_, ?_, ?_, ?_⟩⟩, x.ne⟩
      · rw [runE_snoc] at hq
        exact hq
      · exact up2 (fun z => by rw [z, f0 _ (own_mem.mpr (.inl rfl))] at hb; cases hb) (fun z => by rw [z, f0 _ (own_mem.mpr (.inr (.inl rfl)))] at hb; cases hb) (fun z => by rw [z, f0 _ (own_mem.mpr (.inr (.inr (.inl rfl))))] at hb; cases hb) (fun z => by rw [z, f0 _ (own_mem.mpr (.inr (.inr (.inr (.inl rfl)))))] at hb; cases hb) (e0 b o hb)
      · show upd _ _ _ s0.ld = _
        rw [upd_ne (Ne.symm na1)]
        exact hld
      · show upd _ _ _ s0.lp = _
        rw [upd_ne (Ne.symm na2)]
        exact hlp
      · show upd _ _ _ s0.lu = _
        rw [upd_ne (Ne.symm na3)]
        exact keep _ _ (Ne.symm na3) (Ne.symm k2) (Ne.symm k4) upd_same
      · exact up2 (Ne.symm na4) (Ne.symm k3) (Ne.symm k5) (Ne.symm k6) h4
      · rw [hcur]
        exact htp.ext eX2
      · obtain ⟨dk, dq, q1', q2'⟩ := C.kn
        exact ⟨dk, dq, eX2 _ _ q1', eX2 _ _ q2'⟩
      · exact (C.ev.ext eX2).snoc ⟨ea, rfl, hea.ext eX2⟩
      · show All2 _ _ (plL (st.hist ++ [e]) st.p0)
        rw [plL_snoc]
        refine (C.pv.mono fun _ _ h => h.ext eX2).snoc ⟨pt, rfl, s0.c, ?_, C.tp.ext eX2⟩
        show cut (s0.own a) _ pt = _
        rw [cut_out ptn, upd_ne (hnd ha)]
        exact hpt
      · show All2 _ _ (unL es (Sn.mk st.b st.p0 (st.hist ++ [e]) es).cur)
        rw [hcur]
        exact hrest.mono fun _ _ h => h.ext eX2
      · show OkE ((st.hist ++ [e]) ++ es) st.p0
        have := C.ok
        rw [hes] at this
        rw [List.append_assoc]
        exact this
end
end Tp
/-! part K17 -/
set_option Elab.async false
set_option linter.all false
set_option maxRecDepth 100000
set_option maxHeartbeats 4000000
/-! the defs, part 17: perform -/
namespace Tp
open PySem PySem.Spec PyProof.Rows L2
/-- a try's suite but its last row -/
def tryB : Stmt → List Stmt
  | .Try b _ _ _ _ => b.dropLast
  | _ => []
theorem cut_upd {l : List Addr} {H : Hp} {b : Addr} {o : HO} (h : b ∈ l) : cut l (upd H b o) = cut l H := by
  funext c
  by_cases z : c ∈ l
  · rw [cut_in z, cut_in z]
  · rw [cut_out z, cut_out z, upd_ne (fun e => z (by rw [e]; exact h))]
/-- another log -/
theorem SessAt.log {K : PySem.W.Frag} {H : Hp} {a : Addr} {s : Sa} {st : Sn} {nT ne m : Nat} {ys : List V} (x : SessAt K H a s st nT ne) (hy : ys.length ≤ m) : SessAt K (upd H s.le (.lst ys)) a s st nT m := by
  obtain ⟨n1, n2, n3, n4⟩ := x.a_ne
  obtain ⟨k1, k2, k3, k4, k5, k6⟩ := x.ne
  obtain ⟨dx, h⟩ := x.at_
  obtain ⟨evs, pvs, uvs, xs, a1, a2, a3, a4, a5, C⟩ := x.ls
  exact ⟨⟨dx, by rw [upd_ne n4]; exact h⟩, ⟨evs, pvs, uvs, ys, by rw [upd_ne k3]; exact a1, by rw [upd_ne k5]; exact a2, by rw [upd_ne k6]; exact a3, upd_same, hy, by rw [cut_upd (own_mem.mpr (.inr (.inr (.inr (.inr rfl)))))]; exact C⟩, x.ne⟩
section
variable {P : Program} [PrgOk P] {w : World} {K : PySem.W.Frag} {mg : Str → Option Value} {base : Heap}
/-- the suite of perform's try -/
def t_perf (K : PySem.W.Frag) : WX → TS := fun W =>
  tSeq (tIfS (tNot (tB (tCB (rIsi K) (tCons (tVar 1) (tCons (tC (.ty "list")) tNil))))) tNever tNext)
  (tSeq (tAsg (tMethR (He.ga K "Session") "clone" (sp_Session_clone K) E0 (tVar 0) tNil) (gName 2))
  (tSeq (tFor (iList K (tVar 1)) (gName 3) (tDrop (tMethRS (He.ga K "Session") "do" (sp_Session_do K) (WE W) (tVar 2) (tCons (tVar 3) tNil))))
  (tDrop (tMethR (He.ga K "Session") "take_over" (sp_Session_take_over K) E0 (tVar 0) (tCons (tVar 2) tNil)))))
def t_perfE (K : PySem.W.Frag) : TS := tDrop (tBM K "list" rAppend (tFld K (tVar 0) "events") (tCons (tC (.str "end")) tNil))
/-- items: lists of steps -/
def ItsAt (H : Hp) (l : Addr) (iss : List (List Stp)) : Prop := ∃ vs, H l = some (.lst vs) ∧ All2 (fun v ss => ∃ i, v = V.ref i ∧ StepsAt H i ss) vs iss
def sp_Session_perform (K : PySem.W.Frag) : Sp := fun vs H Q E => ∃ (a l : Addr) (s : Sa) (st : Sn) (nT ne : Nat) (iss : List (List Stp)) (H0 : Hp), vs = [.ref a, .ref l] ∧ SessAt K H a s st nT ne ∧ ItsAt H0 l iss ∧ iss.length ≤ 3 ∧ 0 < iss.length ∧ (∀ ss ∈ iss, ss.length ≤ 1000) ∧ nT + 3000 < BIG ∧ st.hist.length + 3 < BIG ∧ ne + 2 < BIG ∧ Ext H0 H ∧ FrL H0 (s.own a) ∧
  (∀ H' s' es h, Ext H0 H' → FrL H0 (s'.own a) → SessAt K H' a s' ⟨st.b, st.p0, st.hist ++ es, []⟩ (nT + 3000) (ne + 2) → es.length ≤ 3 → Q (.int h) H') ∧
  (∀ d H', Ext H0 H' → SessAt K H' a s st nT (ne + 2) → E (.ref (He.ga K "StepFailed")) (some d) H')
theorem sc_Session_perform : FnScope ["self", "items", "later", "item"] ["self", "items"] (defScope s_Session_perform) := ⟨rfl, rfl, rfl, by decide +kernel, rfl, by decide +kernel, by decide +kernel⟩
theorem k_Session_perform (T : Txt K mg) : FnR P w K mg base (L2.CX P w) 9 (He.ma K (He.ga K "Session") "perform") (sp_Session_perform K) := by
  obtain ⟨fd, F⟩ := T.f_Session_perform
  refine (fun (G : FnOk P w K mg base (L2.CX P w) 9 _ fd _ (sp_Session_perform K)) => ?_) (F.ok sc_Session_perform (fun vs H Q E h => by obtain ⟨_, _, _, _, _, _, _, _, rfl, _⟩ := h; rfl) (fun cdv A outer s H vs Q E hr h => ?_))
  · exact (G.raw (F.bindsN fun _ _ _ _ _ _ us hl => match us, hl with | [_, _], _ => rfl) .nil).imp fun vs H Q E h => by rw [List.append_nil]; exact h
  · have hu := hu_of hr
    have hu0 : (A.deeper (envOfC _ _ s.heap.objs.size _ cdv)).units < cLine := Nat.lt_of_succ_lt hu
    refine ⟨_, ((pss_cons (ps_expr (pe_bm PySem.F.plainAttrs_list PySem.F.slot_list_append PySem.F.type_list_append mt_append (pe_fld (pv 0) rfl) (pa_cons pe_str pa_nil)))
  (pss_one (ps_finR4 (tb := t_perf K) (te := fun _ => tFld K (tVar 0) "own_head") (tf := t_perfE K) (tfs := t_perfE K) rfl rfl rfl (takes_of rfl rfl rfl rfl) (fun W pn xe tk pw => (pss_cons (ps_if (pt_not (pt_val (pe_callB call_isi (by rfl) T.n_isinstance (by decide +kernel) (pa_cons (pv 1) (pa_cons (pe_bltn (v := .ty "list") (by rfl) T.n_list (by decide +kernel) rfl) pa_nil))))) pss_never pss_nil)
  (pss_cons (ps_set (i := 2) sc_Session_perform.nd rfl (Or.inl rfl) (pe_mR0 (pv 0) T.c_Session T.m_Session_clone (k_Session_clone T) (hr.mono (by decide)) pass0))
  (pss_cons (ps_for pw rfl (pi_list (pv 1)) (pg_name (i := 3) sc_Session_perform.nd rfl (Or.inl rfl)) (pss_one (ps_expr (pe_methRS (pv 2) T.c_Session T.m_Session_do (k_Session_do (P := P) (K := K) T) (hr.mono (by decide)) (fun σ => passAt tk σ) (pa_cons (pv 3) pa_nil)))))
  (pss_one (ps_expr (pe_methR (pv 0) T.c_Session T.m_Session_take_over (k_Session_take_over T) (hr.mono (by decide)) pass0 (pa_cons (pv 2) pa_nil)))))))) (fun W pn xe tk pw => (pe_fldK (K := K) (pv 0))) (pss_one (ps_expr (pe_bm PySem.F.plainAttrs_list PySem.F.slot_list_append PySem.F.type_list_append mt_append (pe_fldK (K := K) (pv 0)) (pa_cons pe_str pa_nil)))) (fun a pn => (pss_one (ps_expr (pe_bm PySem.F.plainAttrs_list PySem.F.slot_list_append PySem.F.type_list_append mt_append (pe_fldK (K := K) (pv 0)) (pa_cons pe_str pa_nil))))))))), ?_⟩
    obtain ⟨a, l, s0, st, nT, ne, iss, H0, rfl, x, ⟨vs, hl0, hvs⟩, hi3, hi0, hin, hnT, hh, hne, e0, f0, q1, q2⟩ := h
    obtain ⟨dx, ha⟩ := x.at_
    obtain ⟨evs, pvs, uvs, xs, h1, h2, h3, h4, h5, C⟩ := x.ls
    obtain ⟨na1, na2, na3, na4⟩ := x.a_ne
    refine ⟨_, rfl, a, _, dx, _, _, rfl, ha, T.c_Session, T.a_Session_events, seF_7 _ _ _ _ _ _ _, .inl ⟨rfl, _, SqL.of h4⟩, s0.le, xs, _, rfl, rfl, h4, big_line (by omega), ?_⟩
    have hlx : (xs ++ [V.str "begin"]).length ≤ ne + 1 := by rw [List.length_append]; show xs.length + 1 ≤ ne + 1; omega
    have x1 := x.log hlx
    have e1 : Ext H0 (upd H s0.le (.lst (xs ++ [V.str "begin"]))) := e0.put (f0 _ (own_mem.mpr (.inr (.inr (.inr (.inr rfl))))))
    have ha1 : (upd H s0.le (.lst (xs ++ [V.str "begin"]))) a = _ := (upd_ne na4).trans ha
    have hle1 : (upd H s0.le (.lst (xs ++ [V.str "begin"]))) s0.le = _ := upd_same
    generalize upd H s0.le (.lst (xs ++ [V.str "begin"])) = H1 at x1 e1 ha1 hle1 ⊢
    have hl1 := e1 _ _ hl0
    refine ⟨_, rfl, _, _, _, _, true, rfl, .ty _, .base (.lst hl1), kit_ty (by decide +kernel), true, rfl, ifF ?_⟩
    refine ⟨_, rfl, a, dx, _, rfl, ha1, seF_clone _ _ _ _ _ _ _, a, s0, st, nT, ne + 1, rfl, x1, fun p sp H2 e2 y np fr => ?_⟩
    have e1X : Ext H1 (cut (sp.own p) H2) := e2.cut fr
    have npa : p ≠ a := fun z => by rw [z, ha1] at np; cases np
    refine ⟨_, rfl, l, rfl, ⟨_, SqL.of (e2 _ _ hl1)⟩, ?_⟩
    refine for_it (walk_list (xs := vs)) (fun i σ Hc => ∃ v3 sb es un, σ = [some (.ref a), some (.ref l), some (.ref p), v3] ∧ Ext (cut (sp.own p) H2) Hc ∧ FrL (cut (sp.own p) H2) (sb.own p) ∧ SessAt K Hc p sb ⟨st.b, st.p0, st.hist ++ es, un⟩ (nT + 1000 * i) 0 ∧ es.length = i ∧ (0 < i → un = []))
      ⟨none, sp, [], st.und, rfl, cut_sub, FrL.cut, by rw [List.append_nil]; exact y, rfl, fun z => absurd z (Nat.lt_irrefl _)⟩ (fun i σ Hc _ ⟨_, _, _, _, _, ec, _⟩ => SqL.of (ec _ _ (e1X _ _ hl1))) ?_ ?_
    · rintro i v σ Hc H3 hi ⟨v3, sb, es, un, rfl, ec, fc, yc, hel, hun⟩ ⟨rfl, hv⟩
      obtain ⟨ss, hss, ia, rfl, hst⟩ := hvs.get hv
      obtain ⟨dxp, hp⟩ := yc.at_
      have eHc : Ext H1 H3 := e1X.trans ec
      have hi2 : i < iss.length := by rw [← hvs.1]; exact hi
      refine ⟨_, rfl, p, dxp, _, rfl, hp, seF_do _ _ _ _ _ _ _, _, rfl, p, ia, sb, _, nT + 1000 * i, 0, ss, cut (sp.own p) H2, rfl, yc, hst.ext (e1.trans eHc), hin ss (List.mem_of_getElem? hss), by omega, ?_, ec, fc, fun H4 sc e e4 f4 y4 => ?_, fun d H4 e4 => ?_⟩
      · show (st.hist ++ es).length < BIG
        rw [List.length_append]
        omega
      · refine ⟨_, sc, es ++ [e], [], rfl, e4, f4, ?_, by rw [List.length_append, hel]; rfl, fun _ => rfl⟩
        have : nT + 1000 * (i + 1) = nT + 1000 * i + 1000 := by omega
        rw [this, ← List.append_assoc]
        exact y4
      · have e14 := eHc.trans e4
        have hle4 := e14 _ _ hle1
        refine ⟨_, rfl, a, _, dx, _, _, rfl, e14 _ _ ha1, T.c_Session, T.a_Session_events, seF_7 _ _ _ _ _ _ _, .inl ⟨rfl, _, SqL.of hle4⟩, s0.le, _, _, rfl, rfl, hle4, big_line (by omega), ?_⟩
        refine q2 d _ ((e1.trans e14).put (f0 _ (own_mem.mpr (.inr (.inr (.inr (.inr rfl))))))) ((x1.ext e14).log ?_)
        rw [List.length_append]
        show _ + 1 ≤ ne + 2
        omega
    · rintro σ Hc ⟨v3, sb, es, un, rfl, ec, fc, yc, hel, hun⟩
      rw [hvs.1] at hel hun yc
      have hunil := hun hi0
      subst hunil
      have eHc : Ext H1 Hc := e1X.trans ec
      have hle3 := eHc _ _ hle1
      obtain ⟨evs1, pvs1, uvs1, xs1, c1, c2, c3, c4, c5, C1⟩ := x1.ls
      obtain ⟨dk, dq, k1, k2⟩ := C1.kn
      have dif : ∀ {b : Addr}, b ∈ sb.own p → s0.le ≠ b := fun hb z => by
        have := fc _ hb
        rw [← z, e1X _ _ hle1] at this
        cases this
      refine ⟨_, rfl, a, dx, _, rfl, eHc _ _ ha1, seF_take _ _ _ _ _ _ _, _, rfl, ?_⟩
      refine ⟨a, dx, p, s0.c, s0.kd, s0.ld, s0.lp, s0.lu, s0.le, st.cur.2, sb, _, _, 0, ne + 1, _, rfl, eHc _ _ ha1, yc, Ne.symm npa, ⟨dk, dq, eHc _ _ (cut_sub _ _ k1), eHc _ _ (cut_sub _ _ k2)⟩, hle3, hlx, dif (own_mem.mpr (.inr (.inl rfl))), dif (own_mem.mpr (.inr (.inr (.inl rfl)))), dif (own_mem.mpr (.inr (.inr (.inr (.inl rfl))))), fun H' p1 p2 p3 eb y' m1 m2 m3 => ?_⟩
      obtain ⟨dx', ha'⟩ := y'.at_
      refine ⟨_, rfl, a, _, dx', _, _, rfl, ha', T.c_Session, T.a_Session_own_head, seF_2 _ _ _ _ _ _ _, ?_⟩
      have hle' : H' s0.le = some (.lst (xs ++ [V.str "begin"])) := eb _ _ (Ne.symm na4) hle3
      refine ⟨_, rfl, a, _, dx', _, _, rfl, ha', T.c_Session, T.a_Session_events, seF_7 _ _ _ _ _ _ _, .inl ⟨rfl, _, SqL.of hle'⟩, s0.le, _, _, rfl, rfl, hle', big_line (by omega), ?_⟩
      have e03 := e1.trans eHc
      have fa : H0 a = none := f0 _ (own_mem.mpr (.inl rfl))
      have fle : H0 s0.le = none := f0 _ (own_mem.mpr (.inr (.inr (.inr (.inr rfl)))))
      have y2 := (y'.log (m := ne + 2) (ys := (xs ++ [V.str "begin"]) ++ [V.str "end"]) (by rw [List.length_append]; show _ + 1 ≤ ne + 2; omega)).le (m := nT + 3000) (k := ne + 2) (by omega) (Nat.le_refl _)
      refine q1 _ ⟨sb.c, s0.kd, p1, p2, p3, s0.le⟩ es _ (Ext.put (ExtBut.old e03 eb fa) fle) (fun b hb => ?_) y2 (by omega)
      rcases own_mem.mp hb with z | z | z | z | z
      · rw [z]
        exact fa
      · have z' : b = p1 := z
        rw [z']
        exact e03.none m1
      · have z' : b = p2 := z
        rw [z']
        exact e03.none m2
      · have z' : b = p3 := z
        rw [z']
        exact e03.none m3
      · have z' : b = s0.le := z
        rw [z']
        exact fle
end
end Tp
/-! part K18 -/
set_option Elab.async false
set_option linter.all false
set_option maxRecDepth 100000
set_option maxHeartbeats 4000000
/-! the law's defs, part 1: the draws -/
namespace Tp
open PySem PySem.Spec PyProof.Rows L2
theorem bit_bd (b : Bool) : -(2 ^ 64 : Int) < (if b = true then (1 : Int) else 0) ∧ (if b = true then (1 : Int) else 0) < 2 ^ 64 := by cases b <;> decide
section
variable {P : Program} {w : World} {K : PySem.W.Frag} {mg : Str → Option Value} {base : Heap}
def sp_law_stream (K : PySem.W.Frag) : Sp := fun vs H Q _ => ∃ (a : Addr) (ns : List Int) (k : Nat), vs = [.ref a, .int k] ∧ SqL K H a (ns.map V.int) ∧ k ≤ 100 ∧ ∀ p x y, H p = none → Q (.ref p) (upd H p (.lst [.int x, .int y]))
theorem sc_law_stream : FnScope ["_law_script", "_law_k", "_law_cell", "_law_size", "_law_mixed"] ["_law_script", "_law_k"] (defScope s_law_stream) := ⟨rfl, rfl, rfl, by decide +kernel, rfl, by decide +kernel, by decide +kernel⟩
theorem k_law_stream (T : Txt K mg) : FnR P w K mg base CX0 1 (He.ga K "_law_stream") (sp_law_stream K) := by
  obtain ⟨fd, F⟩ := T.f_law_stream
  refine (fun (G : FnOk P w K mg base CX0 1 _ fd _ (sp_law_stream K)) => ?_) (F.ok sc_law_stream (fun vs H Q E h => by obtain ⟨_, _, _, rfl, _⟩ := h; rfl) (fun cdv A outer s H vs Q E hr h => ?_))
  · exact (G.raw (F.bindsN fun _ _ _ _ _ _ us hl => match us, hl with | [_, _], _ => rfl) .nil).imp fun vs H Q E h => by rw [List.append_nil]; exact h
  · have hu := hu_of hr
    have hu0 : (A.deeper (envOfC _ _ s.heap.objs.size _ cdv)).units < cLine := Nat.lt_of_succ_lt hu
    refine ⟨_, PSs.nox (pss_cons (ps_set (i := 2) sc_law_stream.nd rfl (Or.inl rfl) pe_int)
  (pss_cons (ps_if (pt_cmpR op_lt (pv 1) (pe_callB call_len_seq (by rfl) T.n_len (by decide +kernel) (pa_cons (pv 0) pa_nil)) (nomark _)) (pss_one (ps_set (i := 2) sc_law_stream.nd rfl (Or.inl rfl) (pe_ix ix_list (pv 0) (pv 1) (fun _ _ => rfl)))) pss_nil)
  (pss_cons (ps_set (i := 3) sc_law_stream.nd rfl (Or.inl rfl) (pe_callB (call_max2 (by rfl)) (by rfl) T.n_max (by decide +kernel) (pa_cons (pv 2) (pa_cons (pe_op op_sub (pe_un un_neg pe_int) (pv 2)) pa_nil))))
  (pss_cons (ps_set (i := 4) sc_law_stream.nd rfl (Or.inl rfl) (pe_op op_mod (pe_op op_mul (pe_op op_add (pe_op op_add (pe_op op_add (pe_op op_mod (pv 3) pe_int) (pe_op op_mul (pe_op op_mul pe_int (pv 1)) (pv 1))) (pe_op op_mul pe_int (pv 1))) pe_int) pe_int) pe_int))
  (pss_one (ps_ret (pe_lst (pa_cons (pe_op op_mul (pv 3) (pe_callTy call_int1 (by rfl) T.n_int (by decide +kernel) (pa_cons (pe_cmpR op_ge (pv 3) (pe_op op_pow pe_int pe_int) (nomark _)) pa_nil))) (pa_cons (pv 4) pa_nil))))))))), ?_⟩
    obtain ⟨a, ns, k, rfl, ha, hk, q⟩ := h
    refine ⟨_, rfl, _, rfl, _, _, rfl, .inl ha, _, _, rfl, rfl, _, rfl, ?_⟩
    rw [List.length_map]
    have m1 : ∀ i : Int, 0 ≤ i % 2147483629 ∧ i % 2147483629 < 2147483629 := fun i => ⟨Int.emod_nonneg _ (by decide), Int.emod_lt_of_pos _ (by decide)⟩
    refine ifD (fun c => ?_) fun c => ?_
    · have hk2 : k < ns.length := by omega
      have hg : (ns.map V.int)[k]? = some (V.int ns[k]) := by rw [List.getElem?_map, List.getElem?_eq_getElem hk2]; rfl
      refine ⟨_, rfl, _, rfl, _, _, _, _, rfl, rfl, ha, atI_nat hg, ?_⟩
      refine ⟨_, rfl, _, rfl, _, rfl, _, _, rfl, rfl, _, _, rfl, ?_⟩
      refine ⟨_, rfl, _, _, rfl, rfl, (show (0 : Int) < 2147483629 by decide), _, rfl, _, _, rfl, rfl, .inl ⟨by decide, by decide⟩, _, rfl, _, _, rfl, rfl, .inr ⟨by omega, by omega⟩, _, _, rfl, rfl, ?_⟩
      refine ⟨_, rfl, _, _, rfl, rfl, .inl ⟨by decide, by decide⟩, _, _, rfl, rfl, _, _, rfl, rfl, _, _, rfl, rfl, .inr ⟨by decide, by decide⟩, _, _, rfl, rfl, (show (0 : Int) < 2147483647 by decide), ?_⟩
      refine ⟨_, rfl, _, rfl, _, _, rfl, rfl, ⟨by decide, by decide, by decide⟩, _, _, rfl, rfl, .inr ⟨_, rfl, ?_⟩⟩
      refine ⟨_, _, rfl, rfl, .inr (bit_bd _), _, rfl, (by show 2 ≤ sizeLine; decide), fun p hp => ?_⟩
      exact q p _ _ hp
    · refine ⟨_, rfl, _, rfl, _, rfl, _, _, rfl, rfl, _, _, rfl, ?_⟩
      refine ⟨_, rfl, _, _, rfl, rfl, (show (0 : Int) < 2147483629 by decide), _, rfl, _, _, rfl, rfl, .inl ⟨by decide, by decide⟩, _, rfl, _, _, rfl, rfl, .inr ⟨by omega, by omega⟩, _, _, rfl, rfl, ?_⟩
      refine ⟨_, rfl, _, _, rfl, rfl, .inl ⟨by decide, by decide⟩, _, _, rfl, rfl, _, _, rfl, rfl, _, _, rfl, rfl, .inr ⟨by decide, by decide⟩, _, _, rfl, rfl, (show (0 : Int) < 2147483647 by decide), ?_⟩
      refine ⟨_, rfl, _, rfl, _, _, rfl, rfl, ⟨by decide, by decide, by decide⟩, _, _, rfl, rfl, .inr ⟨_, rfl, ?_⟩⟩
      refine ⟨_, _, rfl, rfl, .inr (bit_bd _), _, rfl, (by show 2 ≤ sizeLine; decide), fun p hp => ?_⟩
      exact q p _ _ hp
def sp_law_draw (K : PySem.W.Frag) : Sp := fun vs H Q _ => ∃ (a : Addr) (x y c : Int), vs = [.ref a, .int c] ∧ H a = some (.lst [.int x, .int y]) ∧ 0 < c ∧ c < 1000000 ∧ ∀ r x' y' : Int, 0 ≤ r → r < c → Q (.int r) (upd H a (.lst [.int x', .int y']))
theorem sc_law_draw : FnScope ["_law_stream_here", "_law_count", "_law_result"] ["_law_stream_here", "_law_count"] (defScope s_law_draw) := ⟨rfl, rfl, rfl, by decide +kernel, rfl, by decide +kernel, by decide +kernel⟩
theorem k_law_draw (T : Txt K mg) : FnR P w K mg base CX0 1 (He.ga K "_law_draw") (sp_law_draw K) := by
  obtain ⟨fd, F⟩ := T.f_law_draw
  refine (fun (G : FnOk P w K mg base CX0 1 _ fd _ (sp_law_draw K)) => ?_) (F.ok sc_law_draw (fun vs H Q E h => by obtain ⟨_, _, _, _, rfl, _⟩ := h; rfl) (fun cdv A outer s H vs Q E hr h => ?_))
  · exact (G.raw (F.bindsN fun _ _ _ _ _ _ us hl => match us, hl with | [_, _], _ => rfl) .nil).imp fun vs H Q E h => by rw [List.append_nil]; exact h
  · have hu := hu_of hr
    have hu0 : (A.deeper (envOfC _ _ s.heap.objs.size _ cdv)).units < cLine := Nat.lt_of_succ_lt hu
    refine ⟨_, PSs.nox (pss_cons (ps_if (pt_cmpR op_gt (pe_ix ix_list (pv 0) pe_int (fun _ _ => rfl)) pe_int (nomark _)) (pss_cons (ps_set (i := 2) sc_law_draw.nd rfl (Or.inl rfl) (pe_op op_mod (pe_ix ix_list (pv 0) pe_int (fun _ _ => rfl)) (pv 1)))
  (pss_cons (ps_asg (pe_op op_fdiv (pe_ix ix_list (pv 0) pe_int (fun _ _ => rfl)) (pv 1)) (pg_sub (pv 0) pe_int set_list))
  (pss_one (ps_ret (pv 2))))) pss_nil)
  (pss_cons (ps_asg (pe_op op_mod (pe_op op_add (pe_op op_mul (pe_ix ix_list (pv 0) pe_int (fun _ _ => rfl)) pe_int) pe_int) pe_int) (pg_sub (pv 0) pe_int set_list))
  (pss_one (ps_ret (pe_op op_mod (pe_op op_fdiv (pe_op op_mod (pe_op op_mul (pe_ix ix_list (pv 0) pe_int (fun _ _ => rfl)) (pe_ix ix_list (pv 0) pe_int (fun _ _ => rfl))) pe_int) pe_int) (pv 1)))))), ?_⟩
    obtain ⟨a, x, y, c, rfl, ha, hc0, hc1, q⟩ := h
    refine ⟨_, rfl, _, _, _, _, rfl, rfl, SqL.of ha, rfl, _, _, rfl, rfl, _, rfl, ?_⟩
    refine ifD (fun _ => ?_) fun _ => ?_
    · refine ⟨_, rfl, _, _, _, _, rfl, rfl, SqL.of ha, rfl, _, rfl, _, _, rfl, rfl, hc0, ?_⟩
      refine ⟨_, rfl, _, _, _, _, rfl, rfl, SqL.of ha, rfl, _, rfl, _, _, rfl, rfl, ⟨hc0, by omega⟩, ?_⟩
      refine ⟨_, rfl, _, _, _, _, rfl, rfl, ha, rfl, ?_⟩
      exact ⟨_, rfl, q _ _ y (Int.emod_nonneg _ (by omega)) (Int.emod_lt_of_pos _ hc0)⟩
    · refine ⟨_, rfl, _, _, _, _, rfl, rfl, SqL.of ha, rfl, _, _, rfl, rfl, .inr ⟨by decide, by decide⟩, _, _, rfl, rfl, _, _, rfl, rfl, (show (0 : Int) < 2147483647 by decide), ?_⟩
      have b0 := Int.emod_nonneg (y * 69621 + 7) (show (2147483647 : Int) ≠ 0 by decide)
      have b1 := Int.emod_lt_of_pos (y * 69621 + 7) (show (0 : Int) < 2147483647 by decide)
      refine ⟨_, rfl, _, _, _, _, rfl, rfl, ha, rfl, ?_⟩
      refine ⟨_, rfl, _, _, _, _, rfl, rfl, SqL.of upd_same, rfl, _, rfl, _, _, _, _, rfl, rfl, SqL.of upd_same, rfl, _, _, rfl, rfl, .inl ⟨by omega, by omega⟩, _, _, rfl, rfl, (show (0 : Int) < 2147483629 by decide), _, _, rfl, rfl, ⟨by decide, by decide⟩, _, rfl, _, _, rfl, rfl, hc0, ?_⟩
      exact q _ x _ (Int.emod_nonneg _ (by omega)) (Int.emod_lt_of_pos _ hc0)
def AlAt (H : Hp) (p : Addr) (al : List Str) : Prop := H p = some (.lst (al.map V.str)) ∧ (∀ z ∈ al, Let z) ∧ 0 < al.length ∧ al.length ≤ 10
theorem atI_rng {α : Type} {xs : List α} {r : Int} (h0 : 0 ≤ r) (h1 : r < xs.length) : ∃ v, v ∈ xs ∧ atI xs r = some v := by
  have hk : r.toNat < xs.length := by omega
  refine ⟨xs[r.toNat], List.getElem_mem hk, ?_⟩
  have := atI_nat (List.getElem?_eq_getElem hk)
  rw [Int.toNat_of_nonneg h0] at this
  exact this
def sp_law_alphabet (K : PySem.W.Frag) : Sp := fun vs H Q _ => ∃ (a : Addr) (x y : Int), vs = [.ref a] ∧ H a = some (.lst [.int x, .int y]) ∧ ∀ p al H' x' y', ExtBut a H H' → H' a = some (.lst [.int x', .int y']) → AlAt H' p al → H p = none → Q (.ref p) H'
theorem sc_law_alphabet : FnScope ["_law_stream_here", "_law_every", "_law_first", "_law_far", "_law_number"] ["_law_stream_here"] (defScope s_law_alphabet) := ⟨rfl, rfl, rfl, by decide +kernel, rfl, by decide +kernel, by decide +kernel⟩
theorem k_law_alphabet (T : Txt K mg) : FnR P w K mg base CX0 2 (He.ga K "_law_alphabet") (sp_law_alphabet K) := by
  obtain ⟨fd, F⟩ := T.f_law_alphabet
  refine (fun (G : FnOk P w K mg base CX0 2 _ fd _ (sp_law_alphabet K)) => ?_) (F.ok sc_law_alphabet (fun vs H Q E h => by obtain ⟨_, _, _, rfl, _⟩ := h; rfl) (fun cdv A outer s H vs Q E hr h => ?_))
  · exact (G.raw (F.bindsN fun _ _ _ _ _ _ us hl => match us, hl with | [_], _ => rfl) .nil).imp fun vs H Q E h => by rw [List.append_nil]; exact h
  · have hu := hu_of hr
    have hu0 : (A.deeper (envOfC _ _ s.heap.objs.size _ cdv)).units < cLine := Nat.lt_of_succ_lt hu
    refine ⟨_, PSs.nox (pss_cons (ps_set (i := 1) sc_law_alphabet.nd rfl (Or.inr rfl) pe_str)
  (pss_cons (ps_asg (pe_tup (pa_cons (pe_cR (k_law_draw T) (hr.mono (by decide)) (by rfl) T.g_law_draw T.kp_law_draw pass0 (pa_cons (pv 0) (pa_cons pe_int pa_nil))) (pa_cons (pe_ix ix_list (pe_lst (pa_cons pe_int (pa_cons pe_int (pa_cons pe_int (pa_cons pe_int (pa_cons pe_int pa_nil)))))) (pe_cR (k_law_draw T) (hr.mono (by decide)) (by rfl) T.g_law_draw T.kp_law_draw pass0 (pa_cons (pv 0) (pa_cons pe_int pa_nil))) (fun _ _ => rfl)) pa_nil))) (pg_tup rfl (pgs_cons (pg_name (i := 2) sc_law_alphabet.nd rfl (Or.inr rfl)) (pgs_cons (pg_name (i := 3) sc_law_alphabet.nd rfl (Or.inr rfl)) pgs_nil))))
  (pss_one (ps_ret (pe_lc (own := [("_law_number", 4)]) (g := (gName 4)) rfl sc_law_alphabet.nd (pi_range1 (by rfl) T.n_range (pa_cons (pe_op op_add pe_int (pe_cR (k_law_draw T) (hr.mono (by decide)) (by rfl) T.g_law_draw T.kp_law_draw pass0 (pa_cons (pv 0) (pa_cons pe_int pa_nil)))) pa_nil)) (blkOk_by (own := [("_law_number", 4)]) (N := ["_law_stream_here", "_law_every", "_law_first", "_law_far", "_law_number"]) (sc := defScope s_law_alphabet) (by decide +kernel)) (fun _ _ _ _ _ => (pg_name (i := 4) sc_law_alphabet.nd rfl (Or.inl rfl))) (fun _ _ _ _ _ => pts_nil) (fun _ _ _ _ _ => (pe_item_str (pv 1) (pe_op op_mod (pe_op op_add (pv 2) (pe_op op_mul (pv 3) (pv 4))) pe_int) (fun _ _ => rfl)))))))), ?_⟩
    obtain ⟨a, x, y, rfl, ha, q⟩ := h
    refine ⟨_, rfl, a, x, y, 26, rfl, ha, by decide, by decide, fun r1 x1 y1 f0 f1 => ?_⟩
    refine ⟨(by show 5 ≤ sizeLine; decide), fun L hL => ?_⟩
    have ha1 := Ext.upd (o := .lst [V.int 1, V.int 3, V.int 5, V.int 7, V.int 11]) hL _ _ (upd_same (H := H) (a := a) (o := .lst [V.int x1, V.int y1]))
    refine ⟨_, rfl, a, x1, y1, 5, rfl, ha1, by decide, by decide, fun r2 x2 y2 g0 g1 => ?_⟩
    have La : L ≠ a := fun z => by rw [z, upd_same] at hL; cases hL
    obtain ⟨v, hv, hav⟩ := atI_rng (xs := [V.int 1, V.int 3, V.int 5, V.int 7, V.int 11]) g0 g1
    obtain ⟨vi, rfl⟩ : ∃ i : Int, v = .int i := by
      simp only [List.mem_cons, List.not_mem_nil, or_false] at hv
      rcases hv with h | h | h | h | h <;> exact ⟨_, h⟩
    refine ⟨_, _, _, _, rfl, rfl, SqL.of (by rw [upd_ne La]; exact upd_same), hav, (by show 2 ≤ sizeLine; decide), fun pt hpt => ?_⟩
    refine ⟨pt, _, rfl, SqT.of upd_same, rfl, _, _, rfl, _, _, rfl, rfl, ?_⟩
    have ha2 := Ext.upd (o := .tup [V.int r1, V.int vi]) hpt _ _ upd_same
    refine ⟨_, rfl, a, x2, y2, 3, rfl, ha2, by decide, by decide, fun r3 x3 y3 k0 k1 => ?_⟩
    have b1 : ExtBut a H _ := ((((ExtBut.refl.put (o := .lst [V.int x1, V.int y1])).ext (Ext.upd hL)).put (o := .lst [V.int x2, V.int y2])).ext (Ext.upd (o := .tup [V.int r1, V.int vi]) hpt)).put (o := .lst [V.int x3, V.int y3])
    refine ⟨_, _, rfl, rfl, _, rfl, by omega, by omega, fun D hD => ?_⟩
    have Da : a ≠ D := fun z => by rw [← z, upd_same] at hD; cases hD
    refine lc_it (walk_range (lo := 0) (n := (2 + r3).toNat)) (fun i Hc => ExtBut D _ Hc ∧ ∃ al, Hc D = some (.lst (al.map V.str)) ∧ (∀ z ∈ al, Let z) ∧ al.length = i) ⟨ExtBut.refl.put, [], upd_same, (fun z h => (by cases h)), rfl⟩ (fun i Hc _ z => trivial) ?_ ?_
    · rintro i w Hc H2 hi ⟨eb, al, hDl, hal, hln⟩ ⟨rfl, rfl⟩
      refine ⟨rfl, ?_⟩
      refine ⟨_, rfl, _, rfl, _, rfl, _, rfl, _, _, rfl, rfl, .inr ⟨by omega, by omega⟩, _, _, rfl, rfl, _, _, rfl, rfl, (show (0 : Int) < 26 by decide), ?_⟩
      have m0 := Int.emod_nonneg (r1 + vi * (0 + (i : Int))) (show (26 : Int) ≠ 0 by decide)
      have m1 := Int.emod_lt_of_pos (r1 + vi * (0 + (i : Int))) (show (0 : Int) < 26 by decide)
      have hlen : LET.cps.size = 26 := by decide +kernel
      have hlt : ((r1 + vi * (0 + (i : Int))) % 26).toNat < LET.cps.size := by omega
      refine ⟨LET, _, LET.cps[((r1 + vi * (0 + (i : Int))) % 26).toNat], rfl, rfl, m0, by omega, ?_, ?_, ?_⟩
      · show _ < ((LET.cps.size : Nat) : Int)
        omega
      · exact Array.getElem?_eq_getElem hlt
      · refine ⟨_, hDl, ?_, eb.put, al ++ [⟨#[LET.cps[((r1 + vi * (0 + (i : Int))) % 26).toNat]]⟩], ?_, ?_, by rw [List.length_append, hln]; rfl⟩
        · rw [List.length_map, hln]
          exact big_line (by have : BIG = 1000000 := rfl; omega)
        · rw [upd_same, List.map_append]
          rfl
        · intro z hz
          rcases List.mem_append.mp hz with hz | hz
          · exact hal z hz
          · rw [List.mem_singleton.mp hz]
            exact ⟨_, rfl, Array.mem_toList_iff.mpr (Array.getElem_mem hlt)⟩
    · rintro Hc ⟨eb, al, hDl, hal, hln⟩
      have e2 : ExtBut a H Hc := fun b o nb h => eb b o (fun z => by
        have := b1 b o nb h
        rw [z] at this
        rw [this] at hD
        cases hD) (b1 b o nb h)
      refine q D al Hc x3 y3 e2 (eb _ _ Da upd_same) ⟨hDl, hal, by omega, by omega⟩ ?_
      cases z : H D with
      | none => rfl
      | some o =>
        rw [b1 _ _ (Ne.symm Da) z] at hD
        cases hD
/-- all but what stands at these -/
def ExtL (l : List Addr) (H H' : Hp) : Prop := ∀ b o, b ∉ l → H b = some o → H' b = some o
theorem ExtL.refl {l : List Addr} {H : Hp} : ExtL l H H := fun _ _ _ h => h
theorem ExtL.ext {l : List Addr} {H H1 H2 : Hp} (a : ExtL l H H1) (b : Ext H1 H2) : ExtL l H H2 := fun c o n h => b c o (a c o n h)
theorem ExtL.put {l : List Addr} {H H1 : Hp} {d : Addr} {o : HO} (a : ExtL l H H1) (m : d ∈ l) : ExtL l H (upd H1 d o) := fun c o' n h => by rw [upd_ne (fun z => n (by rw [z]; exact m))]; exact a c o' n h
def sp_law_spots (K : PySem.W.Frag) : Sp := fun vs H Q _ => ∃ (a p : Addr) (z : Str) (x y : Int) (al : List Str), vs = [.ref a, .ref p, .str z] ∧ H a = some (.lst [.int x, .int y]) ∧ AlAt H p al ∧ a ≠ p ∧ ∀ d f H' x' y', ExtBut a H H' → H' a = some (.lst [.int x', .int y']) → DAt H' d f 7 → H d = none → Q (.ref d) H'
theorem sc_law_spots : FnScope ["_law_stream_here", "_law_alphabet_here", "_law_empty", "_law_result", "_law_place", "_law_sign"] ["_law_stream_here", "_law_alphabet_here", "_law_empty"] (defScope s_law_spots) := ⟨rfl, rfl, rfl, by decide +kernel, rfl, by decide +kernel, by decide +kernel⟩
theorem k_law_spots (T : Txt K mg) : FnR P w K mg base CX0 2 (He.ga K "_law_spots") (sp_law_spots K) := by
  obtain ⟨fd, F⟩ := T.f_law_spots
  refine (fun (G : FnOk P w K mg base CX0 2 _ fd _ (sp_law_spots K)) => ?_) (F.ok sc_law_spots (fun vs H Q E h => by obtain ⟨_, _, _, _, _, _, rfl, _⟩ := h; rfl) (fun cdv A outer s H vs Q E hr h => ?_))
  · exact (G.raw (F.bindsN fun _ _ _ _ _ _ us hl => match us, hl with | [_, _, _], _ => rfl) .nil).imp fun vs H Q E h => by rw [List.append_nil]; exact h
  · have hu := hu_of hr
    have hu0 : (A.deeper (envOfC _ _ s.heap.objs.size _ cdv)).units < cLine := Nat.lt_of_succ_lt hu
    refine ⟨_, PSs.nox (pss_cons (ps_set (i := 3) sc_law_spots.nd rfl (Or.inl rfl) pe_dnewK)
  (pss_cons (ps_for PassesOwn.never rfl (pi_range2 (by rfl) T.n_range (pa_cons (pe_un un_neg pe_int) (pa_cons pe_int pa_nil))) (pg_name (i := 4) sc_law_spots.nd rfl (Or.inl rfl)) (pss_cons (ps_set (i := 5) sc_law_spots.nd rfl (Or.inl rfl) (pe_ix ix_list (pv 1) (pe_cR (k_law_draw T) (hr.mono (by decide)) (by rfl) T.g_law_draw T.kp_law_draw pass0 (pa_cons (pv 0) (pa_cons (pe_callB call_len_seq (by rfl) T.n_len (by decide +kernel) (pa_cons (pv 1) pa_nil)) pa_nil))) (fun _ _ => rfl)))
  (pss_one (ps_if (PW.pt (pw_and (pt_cmpR op_gt (pe_cR (k_law_draw T) (hr.mono (by decide)) (by rfl) T.g_law_draw T.kp_law_draw pass0 (pa_cons (pv 0) (pa_cons pe_int pa_nil))) pe_int (nomark _)) (pw_and1 (pt_cmpR op_ne (pv 5) (pv 2) (nomark _))))) (pss_one (ps_dput hu (pv 3) (pv 4) (pv 5) rfl)) pss_nil))))
  (pss_one (ps_ret (pv 3))))), ?_⟩
    obtain ⟨a, p, z, x, y, al, rfl, ha, ⟨hp, hal, hl0, hl1⟩, nap, q⟩ := h
    have hB : BIG = 1000000 := rfl
    intro D hD
    have aD : a ≠ D := ne_of_none ha hD
    have pD : p ≠ D := ne_of_none hp hD
    have e1 : Ext H (upd H D (.dK [])) := Ext.upd hD
    refine ⟨_, rfl, _, _, rfl, ⟨by decide, by decide, by decide, by decide⟩, ?_⟩
    refine for_it (walk_range (lo := -3) (n := 7)) (fun i σ Hc => ∃ v4 v5 f x y, σ = [some (.ref a), some (.ref p), some (.str z), some (.ref D), v4, v5] ∧ ExtL [a, D] (upd H D (.dK [])) Hc ∧ Hc a = some (.lst [.int x, .int y]) ∧ DAt Hc D f i) ⟨none, none, fun _ => none, x, y, rfl, ExtL.refl, e1 _ _ ha, [], upd_same, Dct.nil, Nat.le_refl _⟩ (fun i σ Hc _ _ => trivial) ?_ ?_
    · rintro i w σ Hc H2 hi ⟨v4, v5, f, x, y, rfl, eb, hac, hd⟩ ⟨rfl, rfl⟩
      have hpc : H2 p = _ := eb p _ (by simp [Ne.symm nap, pD]) (e1 _ _ hp)
      refine ⟨_, rfl, _, rfl, _, rfl, _, _, rfl, .inl (SqL.of hpc), ?_⟩
      refine ⟨a, x, y, _, rfl, hac, by rw [List.length_map]; omega, by rw [List.length_map]; omega, fun r1 x1 y1 f0 f1 => ?_⟩
      obtain ⟨v, hv, hav⟩ := atI_rng f0 f1
      obtain ⟨zz, hzz, rfl⟩ := List.mem_map.mp hv
      have hlz := hal zz hzz
      have hpc1 : (upd H2 a (.lst [V.int x1, V.int y1])) p = _ := (upd_ne (Ne.symm nap)).trans hpc
      refine ⟨_, _, _, _, rfl, rfl, SqL.of hpc1, hav, ?_⟩
      refine ⟨_, rfl, a, x1, y1, 3, rfl, upd_same, by decide, by decide, fun r2 x2 y2 g0 g1 => ?_⟩
      have eb2 := (eb.put (o := .lst [V.int x1, V.int y1]) (d := a) (by simp)).put (o := .lst [V.int x2, V.int y2]) (d := a) (by simp)
      have hd2 : DAt (upd (upd H2 a (.lst [V.int x1, V.int y1])) a (.lst [V.int x2, V.int y2])) D f i := (hd.other (Ne.symm aD)).other (Ne.symm aD)
      refine ⟨_, _, rfl, rfl, _, rfl, ?_⟩
      refine ifD (fun c => ?_) fun c => ?_
      · refine ⟨_, rfl, _, rfl, rfl, _, rfl, ?_⟩
        refine ifND (fun ne => ?_) fun eq => ?_
        · obtain ⟨m1, p1, D1⟩ := dput_of hd2 (by omega) (i := -3 + (i : Int)) hlz
          refine ⟨_, rfl, _, rfl, _, rfl, D, _, rfl, p1, ?_⟩
          exact ⟨_, _, _, x2, y2, rfl, eb2.put (by simp), by rw [upd_ne aD]; exact upd_same, D1⟩
        · exact ⟨_, _, f, x2, y2, rfl, eb2, upd_same, hd2.le (Nat.le_succ _)⟩
      · exact ifF ⟨_, _, f, x2, y2, rfl, eb2, upd_same, hd2.le (Nat.le_succ _)⟩
    · rintro σ Hc ⟨v4, v5, f, x, y, rfl, eb, hac, hd⟩
      exact ⟨_, rfl, q D f Hc x y (fun b o nb h => eb b o (by simp [nb, ne_of_none h hD]) (e1 _ _ h)) hac hd hD⟩
end
end Tp
/-! part K19 -/
set_option Elab.async false
set_option linter.all false
set_option maxRecDepth 100000
set_option maxHeartbeats 4000000
/-! the law's defs, part 2: steps -/
namespace Tp
open PySem PySem.Spec PyProof.Rows L2
theorem StepAt.put {H : Hp} {d : Addr} {o o' : HO} {v : V} {st : Stp} (h : StepAt H v st) (hd : H d = some o) (n : ∀ xs, o ≠ .tup xs) : StepAt (upd H d o') v st :=
  let ⟨t, e, ht, k⟩ := h
  ⟨t, e, by rw [upd_ne (fun z => by rw [z, hd] at ht; exact n _ (Option.some.inj ht))]; exact ht, k⟩
theorem get_let {f : PF} {n : Nat} {H : Hp} {d : Addr} (h : DAt H d f n) (i : Int) {z : Str} (hz : Let z) : ∃ s, ((f i).map V.str).getD (.str z) = .str s ∧ Let s := by
  obtain ⟨m, _, hm, _⟩ := h
  cases c : f i with
  | none => exact ⟨z, rfl, hz⟩
  | some s => exact ⟨s, rfl, hm.lt _ (look_mem ((hm.lk i).trans c))⟩
theorem DAt.isD {f : PF} {n : Nat} {H : Hp} {d : Addr} (h : DAt H d f n) : IsD H d := let ⟨m, h1, _⟩ := h; .inl ⟨_, .inl h1⟩
section
variable {P : Program} {w : World} {K : PySem.W.Frag} {mg : Str → Option Value} {base : Heap}
def sp_law_steps (K : PySem.W.Frag) : Sp := fun vs H Q _ => ∃ (a p : Addr) (m x y : Int) (al : List Str), vs = [.ref a, .ref p, .int m] ∧ H a = some (.lst [.int x, .int y]) ∧ AlAt H p al ∧ a ≠ p ∧ 0 ≤ m ∧ m ≤ 40 ∧
  ∀ l ss H' x' y', ExtBut a H H' → H' a = some (.lst [.int x', .int y']) → StepsAt H' l ss → (ss.length : Int) ≤ m → H l = none → Q (.ref l) H'
theorem sc_law_steps : FnScope ["_law_stream_here", "_law_alphabet_here", "_law_most", "_law_known", "_law_place", "_law_result", "_law_turn", "_law_way", "_law_sign"] ["_law_stream_here", "_law_alphabet_here", "_law_most"] (defScope s_law_steps) := ⟨rfl, rfl, rfl, by decide +kernel, rfl, by decide +kernel, by decide +kernel⟩
theorem k_law_steps (T : Txt K mg) : FnR P w K mg base CX0 2 (He.ga K "_law_steps") (sp_law_steps K) := by
  obtain ⟨fd, F⟩ := T.f_law_steps
  refine (fun (G : FnOk P w K mg base CX0 2 _ fd _ (sp_law_steps K)) => ?_) (F.ok sc_law_steps (fun vs H Q E h => by obtain ⟨_, _, _, _, _, _, rfl, _⟩ := h; rfl) (fun cdv A outer s H vs Q E hr h => ?_))
  · exact (G.raw (F.bindsN fun _ _ _ _ _ _ us hl => match us, hl with | [_, _, _], _ => rfl) .nil).imp fun vs H Q E h => by rw [List.append_nil]; exact h
  · have hu := hu_of hr
    have hu0 : (A.deeper (envOfC _ _ s.heap.objs.size _ cdv)).units < cLine := Nat.lt_of_succ_lt hu
    refine ⟨_, PSs.nox (pss_cons (ps_par3 (i := 3) (j := 4) (l := 5) rfl sc_law_steps.nd rfl rfl rfl (by decide) (by decide) (by decide) rfl rfl rfl (pa_cons pe_dnewK (pa_cons pe_int (pa_cons (pe_lst pa_nil) pa_nil))) rfl)
  (pss_cons (ps_for PassesOwn.never rfl (pi_range1 (by rfl) T.n_range (pa_cons (pe_cR (k_law_draw T) (hr.mono (by decide)) (by rfl) T.g_law_draw T.kp_law_draw pass0 (pa_cons (pv 0) (pa_cons (pe_op op_add (pv 2) pe_int) pa_nil))) pa_nil)) (pg_name (i := 6) sc_law_steps.nd rfl (Or.inl rfl)) (pss_cons (ps_set (i := 7) sc_law_steps.nd rfl (Or.inl rfl) (pe_cR (k_law_draw T) (hr.mono (by decide)) (by rfl) T.g_law_draw T.kp_law_draw pass0 (pa_cons (pv 0) (pa_cons pe_int pa_nil))))
  (pss_cons (ps_set (i := 8) sc_law_steps.nd rfl (Or.inl rfl) (pe_ix ix_list (pv 1) (pe_cR (k_law_draw T) (hr.mono (by decide)) (by rfl) T.g_law_draw T.kp_law_draw pass0 (pa_cons (pv 0) (pa_cons (pe_callB call_len_seq (by rfl) T.n_len (by decide +kernel) (pa_cons (pv 1) pa_nil)) pa_nil))) (fun _ _ => rfl)))
  (pss_one (ps_if (pt_cmpR op_lt (pv 7) pe_int (nomark _)) (pss_cons (ps_set (i := 4) sc_law_steps.nd rfl (Or.inl rfl) (pe_op op_add (pv 4) (pe_ix ix_list (pe_lst (pa_cons (pe_un un_neg pe_int) (pa_cons pe_int pa_nil))) (pe_op op_fdiv (pv 7) pe_int) (fun _ _ => rfl))))
  (pss_one (ps_expr (pe_bm PySem.F.plainAttrs_list PySem.F.slot_list_append PySem.F.type_list_append mt_append (pv 5) (pa_cons (pe_ix ix_list (pe_lst (pa_cons (pe_tup (pa_cons pe_str pa_nil)) (pa_cons (pe_tup (pa_cons pe_str pa_nil)) pa_nil))) (pe_op op_fdiv (pv 7) pe_int) (fun _ _ => rfl)) pa_nil))))) (pss_one (ps_if (pt_cmpR op_lt (pv 7) pe_int (nomark _)) (pss_cons (ps_dput hu (pv 3) (pv 4) (pv 8) rfl)
  (pss_one (ps_expr (pe_bm PySem.F.plainAttrs_list PySem.F.slot_list_append PySem.F.type_list_append mt_append (pv 5) (pa_cons (pe_tup (pa_cons pe_str (pa_cons (pv 8) pa_nil))) pa_nil))))) (pss_cons (ps_if (pt_cmpR op_gt (pe_cR (k_law_draw T) (hr.mono (by decide)) (by rfl) T.g_law_draw T.kp_law_draw pass0 (pa_cons (pv 0) (pa_cons pe_int pa_nil))) pe_int (nomark _)) (pss_one (ps_set (i := 8) sc_law_steps.nd rfl (Or.inl rfl) (pe_dget2 hu (pv 3) (pv 4) (pv 8) ⟨rfl, rfl, rfl, rfl⟩))) pss_nil)
  (pss_cons (ps_dput hu (pv 3) (pv 4) (pe_dget2 hu (pv 3) (pv 4) (pv 8) ⟨rfl, rfl, rfl, rfl⟩) rfl)
  (pss_one (ps_expr (pe_bm PySem.F.plainAttrs_list PySem.F.slot_list_append PySem.F.type_list_append mt_append (pv 5) (pa_cons (pe_tup (pa_cons pe_str (pa_cons (pv 8) pa_nil))) pa_nil)))))))))))))
  (pss_one (ps_ret (pv 5))))), ?_⟩
    obtain ⟨a, p, m, x, y, al, rfl, ha, ⟨hp, hal, hl0, hl1⟩, nap, hm0, hm1, q⟩ := h
    have hB : BIG = 1000000 := rfl
    intro D hD
    have aD : a ≠ D := ne_of_none ha hD
    have pD : p ≠ D := ne_of_none hp hD
    have e1 : Ext H (upd H D (.dK [])) := Ext.upd hD
    refine ⟨(by show 0 ≤ sizeLine; decide), fun R hR => ?_⟩
    have aR : a ≠ R := ne_of_none (e1 _ _ ha) hR
    have pR : p ≠ R := ne_of_none (e1 _ _ hp) hR
    have DR : D ≠ R := ne_of_none upd_same hR
    have e2 : Ext H (upd (upd H D (.dK [])) R (.lst [])) := e1.trans (Ext.upd hR)
    refine ⟨_, _, _, rfl, ?_⟩
    refine ⟨_, rfl, _, rfl, _, _, rfl, rfl, a, x, y, _, rfl, e2 _ _ ha, by omega, by omega, fun r x1 y1 f0 f1 => ?_⟩
    have b1 : ExtL [a, D, R] (upd (upd H D (.dK [])) R (.lst [])) (upd (upd (upd H D (.dK [])) R (.lst [])) a (.lst [.int x1, .int y1])) := ExtL.refl.put (by simp)
    refine ⟨_, rfl, by omega, by omega, ?_⟩
    refine for_it (walk_range (lo := 0) (n := r.toNat)) (fun i σ Hc => ∃ v6 v7 v8 f pl x y rs ss, σ = [some (.ref a), some (.ref p), some (.int m), some (.ref D), some (.int pl), some (.ref R), v6, v7, v8] ∧ ExtL [a, D, R] (upd (upd H D (.dK [])) R (.lst [])) Hc ∧ Hc a = some (.lst [.int x, .int y]) ∧ DAt Hc D f i ∧ Hc R = some (.lst rs) ∧ All2 (StepAt Hc) rs ss ∧ ss.length = i)
      ⟨none, none, none, fun _ => none, 0, x1, y1, [], [], rfl, b1, upd_same, ⟨[], by rw [upd_ne (Ne.symm aD), upd_ne DR]; exact upd_same, Dct.nil, Nat.le_refl _⟩, by rw [upd_ne (Ne.symm aR)]; exact upd_same, All2.nil, rfl⟩ (fun i σ Hc _ _ => trivial) ?_ ?_
    · rintro i w σ Hc H2 hi ⟨v6, v7, v8, f, pl, x, y, rs, ss, rfl, eb, hac, hd, hRc, hss, hln⟩ ⟨rfl, rfl⟩
      have hi40 : (i : Int) < 41 := by omega
      refine ⟨_, rfl, a, x, y, 8, rfl, hac, by decide, by decide, fun wy x1 y1 w0 w1 => ?_⟩
      have hpc : H2 p = _ := eb p _ (by simp [Ne.symm nap, pD, pR]) (e2 _ _ hp)
      have hpc1 : (upd H2 a (.lst [V.int x1, V.int y1])) p = _ := (upd_ne (Ne.symm nap)).trans hpc
      refine ⟨_, rfl, _, rfl, _, rfl, _, _, rfl, .inl (SqL.of hpc1), ?_⟩
      refine ⟨a, x1, y1, _, rfl, upd_same, by rw [List.length_map]; omega, by rw [List.length_map]; omega, fun r1 x2 y2 g0 g1 => ?_⟩
      obtain ⟨v, hv, hav⟩ := atI_rng g0 g1
      obtain ⟨zz, hzz, rfl⟩ := List.mem_map.mp hv
      have hlz := hal zz hzz
      rw [upd_upd]
      have hpc2 : (upd H2 a (.lst [V.int x2, V.int y2])) p = _ := (upd_ne (Ne.symm nap)).trans hpc
      refine ⟨_, _, _, _, rfl, rfl, SqL.of hpc2, hav, ?_⟩
      have eb2 := eb.put (o := .lst [V.int x2, V.int y2]) (d := a) (by simp)
      have hd2 : DAt (upd H2 a (.lst [V.int x2, V.int y2])) D f i := hd.other (Ne.symm aD)
      have hR2 : (upd H2 a (.lst [V.int x2, V.int y2])) R = _ := (upd_ne (Ne.symm aR)).trans hRc
      have hss2 : All2 (StepAt (upd H2 a (.lst [V.int x2, V.int y2]))) rs ss := hss.mono fun _ _ h => h.put hac (fun _ z => by cases z)
      have hac2 : (upd H2 a (.lst [V.int x2, V.int y2])) a = _ := upd_same
      generalize upd H2 a (.lst [V.int x2, V.int y2]) = A2 at eb2 hd2 hR2 hss2 hac2 ⊢
      have hrl : rs.length < sizeLine := by rw [hss2.1, hln]; exact big_line (by omega)
      refine ⟨_, rfl, _, _, rfl, rfl, _, rfl, ?_⟩
      refine ifD (fun c => ?_) fun c => ?_
      · have wh0 : 0 ≤ wy / 2 := by omega
        have wh1 : wy / 2 < 2 := by omega
        obtain ⟨u, hu, hau⟩ := atI_rng (xs := [V.int (-1), V.int 1]) wh0 wh1
        obtain ⟨ui, rfl⟩ : ∃ i : Int, u = .int i := by
          simp only [List.mem_cons, List.not_mem_nil, or_false] at hu
          rcases hu with h | h <;> exact ⟨_, h⟩
        refine ⟨_, rfl, _, rfl, (by show 2 ≤ sizeLine; decide), fun L hL => ?_⟩
        have eL : Ext A2 (upd A2 L (.lst [V.int (-1), V.int 1])) := Ext.upd hL
        refine ⟨_, rfl, _, _, rfl, rfl, ⟨by decide, by decide⟩, _, _, _, _, rfl, rfl, SqL.of upd_same, hau, _, _, rfl, rfl, ?_⟩
        refine ⟨_, rfl, .inl ⟨rfl, _, SqL.of (eL _ _ hR2)⟩, (by show 1 ≤ sizeLine; decide), fun t1 ht1 => ⟨(by show 1 ≤ sizeLine; decide), fun t2 ht2 => ⟨(by show 2 ≤ sizeLine; decide), fun L2 hL2 => ?_⟩⟩⟩
        have e1' : Ext A2 (upd (upd A2 L (.lst [V.int (-1), V.int 1])) t1 (.tup [V.str "left"])) := eL.trans (Ext.upd ht1)
        have e2' := e1'.trans (Ext.upd (o := .tup [V.str "right"]) ht2)
        have e3' := e2'.trans (Ext.upd (o := .lst [V.ref t1, V.ref t2]) hL2)
        have k1 := Ext.upd (o := .lst [V.ref t1, V.ref t2]) hL2 _ _ (Ext.upd (o := .tup [V.str "right"]) ht2 _ _ (upd_same (H := upd A2 L (.lst [V.int (-1), V.int 1])) (a := t1) (o := .tup [V.str "left"])))
        have k2 := Ext.upd (o := .lst [V.ref t1, V.ref t2]) hL2 _ _ (upd_same (H := upd (upd A2 L (.lst [V.int (-1), V.int 1])) t1 (.tup [V.str "left"])) (a := t2) (o := .tup [V.str "right"]))
        obtain ⟨tv, htv, hat⟩ := atI_rng (xs := [V.ref t1, V.ref t2]) wh0 wh1
        obtain ⟨st, hst⟩ : ∃ st, StepAt (upd (upd (upd (upd A2 L (.lst [V.int (-1), V.int 1])) t1 (.tup [V.str "left"])) t2 (.tup [V.str "right"])) L2 (.lst [V.ref t1, V.ref t2])) tv st := by
          simp only [List.mem_cons, List.not_mem_nil, or_false] at htv
          rcases htv with h | h
          · exact ⟨.l, t1, h, k1, trivial⟩
          · exact ⟨.r, t2, h, k2, trivial⟩
        refine ⟨_, rfl, _, _, rfl, rfl, ⟨by decide, by decide⟩, _, _, _, _, rfl, rfl, SqL.of upd_same, hat, R, rs, _, rfl, rfl, e3' _ _ hR2, hrl, ?_⟩
        refine ⟨_, _, _, f, _, x2, y2, rs ++ [tv], ss ++ [st], rfl, (eb2.ext e3').put (by simp), by rw [upd_ne aR]; exact e3' _ _ hac2, ((hd2.ext e3').other DR).le (Nat.le_succ _), upd_same, (hss2.mono fun _ _ h => (h.ext e3').put (e3' _ _ hR2) (fun _ z => by cases z)).snoc (hst.put (e3' _ _ hR2) (fun _ z => by cases z)), by rw [List.length_append, hln]; rfl⟩
      · refine ⟨_, rfl, _, _, rfl, rfl, _, rfl, ?_⟩
        refine ifD (fun c2 => ?_) fun c2 => ?_
        · obtain ⟨m1, p1, D1⟩ := dput_of hd2 (by omega) (i := pl) hlz
          refine ⟨_, rfl, _, rfl, _, rfl, D, _, rfl, p1, ?_⟩
          have hR3 : (upd A2 D (.dK m1)) R = _ := (upd_ne (Ne.symm DR)).trans hR2
          obtain ⟨md, hmd, _⟩ := hd2
          have hss3 : All2 (StepAt (upd A2 D (.dK m1))) rs ss := hss2.mono fun _ _ h => h.put hmd (fun _ z => by cases z)
          refine ⟨_, rfl, .inl ⟨rfl, _, SqL.of hR3⟩, _, rfl, (by show 2 ≤ sizeLine; decide), fun t1 ht1 => ?_⟩
          have eT := Ext.upd (o := .tup [V.str "write", V.str zz]) ht1
          have hst : StepAt (upd (upd A2 D (.dK m1)) t1 (.tup [V.str "write", V.str zz])) (.ref t1) (.wr zz) := ⟨t1, rfl, upd_same, hlz⟩
          refine ⟨R, rs, _, rfl, rfl, eT _ _ hR3, hrl, ?_⟩
          refine ⟨_, _, _, _, _, x2, y2, rs ++ [.ref t1], ss ++ [.wr zz], rfl, ((eb2.put (d := D) (by simp)).ext eT).put (by simp), by rw [upd_ne aR]; exact eT _ _ ((upd_ne aD).trans hac2), (D1.ext eT).other DR, upd_same, (hss3.mono fun _ _ h => (h.ext eT).put (eT _ _ hR3) (fun _ z => by cases z)).snoc (hst.put (eT _ _ hR3) (fun _ z => by cases z)), by rw [List.length_append, hln]; rfl⟩
        · refine ⟨_, rfl, a, x2, y2, 8, rfl, hac2, by decide, by decide, fun r3 x3 y3 k0 k1 => ?_⟩
          have eb3 := eb2.put (o := .lst [V.int x3, V.int y3]) (d := a) (by simp)
          have hd3 : DAt (upd A2 a (.lst [V.int x3, V.int y3])) D f i := hd2.other (Ne.symm aD)
          have hR3 : (upd A2 a (.lst [V.int x3, V.int y3])) R = _ := (upd_ne (Ne.symm aR)).trans hR2
          have hss3 : All2 (StepAt (upd A2 a (.lst [V.int x3, V.int y3]))) rs ss := hss2.mono fun _ _ h => h.put hac2 (fun _ z => by cases z)
          have hac3 : (upd A2 a (.lst [V.int x3, V.int y3])) a = _ := upd_same
          generalize upd A2 a (.lst [V.int x3, V.int y3]) = A3 at eb3 hd3 hR3 hss3 hac3 ⊢
          refine ⟨_, _, rfl, rfl, _, rfl, ?_⟩
          refine ifD (fun c3 => ?_) fun c3 => ?_
          · obtain ⟨s1, hs1, hl1'⟩ := get_let hd3 pl hlz
            refine ⟨_, rfl, D, rfl, hd3.isD, _, rfl, _, rfl, _, hd3.get pl, ?_⟩
            rw [hs1]
            obtain ⟨s2, hs2, hl2⟩ := get_let hd3 pl hl1'
            obtain ⟨m1, p1, D1⟩ := dput_of hd3 (by omega) (i := pl) hl2
            refine ⟨_, rfl, D, rfl, hd3.isD, _, rfl, _, rfl, _, hd3.get pl, ?_⟩
            rw [hs2]
            refine ⟨_, rfl, _, rfl, D, _, rfl, p1, ?_⟩
            have hR4 : (upd A3 D (.dK m1)) R = _ := (upd_ne (Ne.symm DR)).trans hR3
            obtain ⟨md, hmd, _⟩ := hd3
            have hss4 : All2 (StepAt (upd A3 D (.dK m1))) rs ss := hss3.mono fun _ _ h => h.put hmd (fun _ z => by cases z)
            refine ⟨_, rfl, .inl ⟨rfl, _, SqL.of hR4⟩, _, rfl, (by show 2 ≤ sizeLine; decide), fun t1 ht1 => ?_⟩
            have eT := Ext.upd (o := .tup [V.str "expect", V.str s1]) ht1
            have hst : StepAt (upd (upd A3 D (.dK m1)) t1 (.tup [V.str "expect", V.str s1])) (.ref t1) (.ex s1) := ⟨t1, rfl, upd_same, hl1'⟩
            refine ⟨R, rs, _, rfl, rfl, eT _ _ hR4, hrl, ?_⟩
            exact ⟨_, _, _, _, _, x3, y3, rs ++ [.ref t1], ss ++ [.ex s1], rfl, ((eb3.put (d := D) (by simp)).ext eT).put (by simp), by rw [upd_ne aR]; exact eT _ _ ((upd_ne aD).trans hac3), (D1.ext eT).other DR, upd_same, (hss4.mono fun _ _ h => (h.ext eT).put (eT _ _ hR4) (fun _ z => by cases z)).snoc (hst.put (eT _ _ hR4) (fun _ z => by cases z)), by rw [List.length_append, hln]; rfl⟩
          · obtain ⟨s1, rfl⟩ : ∃ s1, s1 = zz := ⟨zz, rfl⟩
            have hl1' := hlz
            obtain ⟨s2, hs2, hl2⟩ := get_let hd3 pl hl1'
            obtain ⟨m1, p1, D1⟩ := dput_of hd3 (by omega) (i := pl) hl2
            refine ⟨_, rfl, D, rfl, hd3.isD, _, rfl, _, rfl, _, hd3.get pl, ?_⟩
            rw [hs2]
            refine ⟨_, rfl, _, rfl, D, _, rfl, p1, ?_⟩
            have hR4 : (upd A3 D (.dK m1)) R = _ := (upd_ne (Ne.symm DR)).trans hR3
            obtain ⟨md, hmd, _⟩ := hd3
            have hss4 : All2 (StepAt (upd A3 D (.dK m1))) rs ss := hss3.mono fun _ _ h => h.put hmd (fun _ z => by cases z)
            refine ⟨_, rfl, .inl ⟨rfl, _, SqL.of hR4⟩, _, rfl, (by show 2 ≤ sizeLine; decide), fun t1 ht1 => ?_⟩
            have eT := Ext.upd (o := .tup [V.str "expect", V.str s1]) ht1
            have hst : StepAt (upd (upd A3 D (.dK m1)) t1 (.tup [V.str "expect", V.str s1])) (.ref t1) (.ex s1) := ⟨t1, rfl, upd_same, hl1'⟩
            refine ⟨R, rs, _, rfl, rfl, eT _ _ hR4, hrl, ?_⟩
            exact ⟨_, _, _, _, _, x3, y3, rs ++ [.ref t1], ss ++ [.ex s1], rfl, ((eb3.put (d := D) (by simp)).ext eT).put (by simp), by rw [upd_ne aR]; exact eT _ _ ((upd_ne aD).trans hac3), (D1.ext eT).other DR, upd_same, (hss4.mono fun _ _ h => (h.ext eT).put (eT _ _ hR4) (fun _ z => by cases z)).snoc (hst.put (eT _ _ hR4) (fun _ z => by cases z)), by rw [List.length_append, hln]; rfl⟩
    · rintro σ Hc ⟨v6, v7, v8, f, pl, x, y, rs, ss, rfl, eb, hac, hd, hRc, hss, hln⟩
      have hR0 : H R = none := e1.none hR
      exact ⟨_, rfl, q R ss Hc x y (fun b o nb h => eb b o (by simp [nb, ne_of_none h hD, ne_of_none h hR0]) (e2 _ _ h)) hac ⟨rs, hRc, hss⟩ (by omega) hR0⟩
end
end Tp
/-! part K20 -/
set_option Elab.async false
set_option linter.all false
set_option maxRecDepth 100000
set_option maxHeartbeats 4000000
/-! the law's defs, part 3: frames, _law_tried, _law_done -/
namespace Tp
open PySem PySem.Spec PyProof.Rows L2 LamX
/-! ### frames with tables -/
theorem ExtN.extK {H H' : Hp} (e : ExtN H H') : ExtK H H' := fun b o h n => e b o h n.2.2
theorem SessAt.extN {K : PySem.W.Frag} {H H' : Hp} {a : Addr} {s : Sa} {st : Sn} {nT ne : Nat} (x : SessAt K H a s st nT ne) (e : ExtN H H') : SessAt K H' a s st nT ne := by
  obtain ⟨dx, h⟩ := x.at_
  obtain ⟨evs, pvs, uvs, xs, a1, a2, a3, a4, a5, C⟩ := x.ls
  have h' := e _ _ h (fun _ z => by cases z)
  have b1 := e _ _ a1 (fun _ z => by cases z)
  have b2 := e _ _ a2 (fun _ z => by cases z)
  have b3 := e _ _ a3 (fun _ z => by cases z)
  have b4 := e _ _ a4 (fun _ z => by cases z)
  have eK : ExtK (cut (s.own a) H) (cut (s.own a) H') := fun b o hb n => by
    by_cases z : b ∈ s.own a
    · rw [cut_in z] at hb
      cases hb
    · rw [cut_out z] at hb ⊢
      exact e b o hb n.2.2
  exact ⟨⟨dx, h'⟩, ⟨evs, pvs, uvs, xs, b1, b2, b3, b4, a5, C.extK rfl (KnAt.extK C.kn eK) eK⟩, x.ne⟩
/-- a list that is not the session's own written -/
theorem SessAt.other {K : PySem.W.Frag} {H : Hp} {a d : Addr} {s : Sa} {st : Sn} {nT ne : Nat} {xs ys : List V} (x : SessAt K H a s st nT ne) (hd : H d = some (.lst xs)) (n : d ∉ s.own a) : SessAt K (upd H d (.lst ys)) a s st nT ne := by
  obtain ⟨dx, h⟩ := x.at_
  obtain ⟨evs, pvs, uvs, zs, a1, a2, a3, a4, a5, C⟩ := x.ls
  have no : ∀ {b : Addr}, b ∈ s.own a → b ≠ d := fun hb z => n (z ▸ hb)
  have eK : ExtK (cut (s.own a) H) (cut (s.own a) (upd H d (.lst ys))) := fun b o hb nk => by
    by_cases z : b ∈ s.own a
    · rw [cut_in z] at hb
      cases hb
    · rw [cut_out z] at hb ⊢
      have bd : b ≠ d := fun e => by
        rw [e, hd] at hb
        cases hb
        exact nk_lst nk
      rw [upd_ne bd]
      exact hb
  exact ⟨⟨dx, by rw [upd_ne (no (own_mem.mpr (.inl rfl)))]; exact h⟩, ⟨evs, pvs, uvs, zs, by rw [upd_ne (no (own_mem.mpr (.inr (.inl rfl))))]; exact a1, by rw [upd_ne (no (own_mem.mpr (.inr (.inr (.inl rfl)))))]; exact a2, by rw [upd_ne (no (own_mem.mpr (.inr (.inr (.inr (.inl rfl))))))]; exact a3, by rw [upd_ne (no (own_mem.mpr (.inr (.inr (.inr (.inr rfl))))))]; exact a4, a5, C.extK rfl (KnAt.extK C.kn eK) eK⟩, x.ne⟩
/-- the tables stand outside of what the session owns -/
theorem SessAt.tabs {K : PySem.W.Frag} {H H' : Hp} {a : Addr} {s : Sa} {st : Sn} {nT ne : Nat} {T : List (Addr × Str)} (x : SessAt K H a s st nT ne) (t : Tabs T H) (e : Ext (cut (s.own a) H) H') : Tabs T H' := fun p hp => by
  obtain ⟨ps, h1, h2, h3⟩ := t p hp
  refine ⟨ps, e _ _ (x.out h1 (fun _ z => by cases z) (fun _ _ _ z => by cases z)), h2, fun pos cv hc => ?_⟩
  obtain ⟨c, e1, e2⟩ := h3 pos cv hc
  exact ⟨c, e1, e _ _ (x.out e2 (fun _ z => by unfold CodeO at z; cases z) (fun _ _ _ z => by unfold CodeO at z; cases z))⟩
/-- .. and a list written -/
theorem Tabs.list {H : Hp} {d : Addr} {xs : List V} {o : HO} {T : List (Addr × Str)} (t : Tabs T H) (hd : H d = some (.lst xs)) : Tabs T (upd H d o) := fun p hp => by
  obtain ⟨ps, h1, h2, h3⟩ := t p hp
  refine ⟨ps, by rw [upd_ne (fun z => by rw [z, hd] at h1; cases h1)]; exact h1, h2, fun pos cv hc => ?_⟩
  obtain ⟨c, e1, e2⟩ := h3 pos cv hc
  refine ⟨c, e1, ?_⟩
  rw [upd_ne (fun z => by rw [z, hd] at e2; unfold CodeO at e2; cases e2)]
  exact e2
theorem Tabs.ext' {H H' : Hp} {T : List (Addr × Str)} (t : Tabs T H) (e : Ext H H') : Tabs T H' := t.ext e
section
variable {P : Program} [PrgOk P] {w : World} {K : PySem.W.Frag} {mg : Str → Option Value} {base : Heap}
/-- what _law_tried makes of a lambda's reading -/
def TTtried (K : PySem.W.Frag) : (XK → Hp → VK → Prop) → Hp → VK → Prop := fun tl H Q =>
  tl (fun cls _ H' => (cls = .ref (He.ga K "StepFailed") ∨ cls = .ref (He.ga K "NotApplicable") ∨ cls = .ref (He.ga K "NothingToUndo")) ∧ Q (.bl false) H') H fun _ H' => Q (.bl true) H'
theorem tried_gives {X : Cx} {Ng : List Str} {x a q : Str} {sg : Scope} {g : Addr} {cdg : Value} {j1 j2 j3 j4 : Nat} {p1 p2 p3 p4 p5 p6 p8 q1 q2 q3 q4 r1 r2 r3 r4 s1 s2 s3 : Pos} (T : Txt X.K X.mg) (g1 : sg.names.lookup ("StepFailed" : Str) = some .globalImplicit) (g2 : sg.names.lookup ("NotApplicable" : Str) = some .globalImplicit) (g3 : sg.names.lookup ("NothingToUndo" : Str) = some .globalImplicit)
    (h0 : ∀ f : Addr, (L2.start Ng [V.ref f])[0]? = some (some (V.ref f))) :
    GivesTo X Ng x sg g cdg [.Try [.Expr (.Call (.Name a p1) [] [] p2) p3] [.ExceptHandler (some (.Name "StepFailed" p4)) none [.Return (some (.Constant (.bool false) j1 q1)) r1] s1, .ExceptHandler (some (.Name "NotApplicable" p5)) none [.Return (some (.Constant (.bool false) j2 q2)) r2] s2,
      .ExceptHandler (some (.Name "NothingToUndo" p6)) none [.Return (some (.Constant (.bool false) j3 q3)) r3] s3] [] [] p8, .Return (some (.Constant (.bool true) j4 q4)) r4] a q (TTtried X.K) := by
  intro f c' s H Q tl act hc h
  have e1 : Gl (cxOf C8.CX0 X.prog X.w X.K X.mg X.base Ng x sg g cdg X.A X.stack s H C8.E0).nox "StepFailed" := g1
  have e2 : Gl (cxOf C8.CX0 X.prog X.w X.K X.mg X.base Ng x sg g cdg X.A X.stack s H C8.E0).nox "NotApplicable" := g2
  have e3 : Gl (cxOf C8.CX0 X.prog X.w X.K X.mg X.base Ng x sg g cdg X.A X.stack s H C8.E0).nox "NothingToUndo" := g3
  refine ⟨_, pss_cons (ps_try_many (X := (cxOf C8.CX0 X.prog X.w X.K X.mg X.base Ng x sg g cdg X.A X.stack s H C8.E0).nox)
      (l := [(.ref (He.ga X.K "StepFailed"), fun _ _ _ => tRet (tC (.bl false))), (.ref (He.ga X.K "NotApplicable"), fun _ _ _ => tRet (tC (.bl false))), (.ref (He.ga X.K "NothingToUndo"), fun _ _ _ => tRet (tC (.bl false)))])
      (tb := fun W D σ H => ∃ Ech : XK, (∀ cls d σ' H', Ech cls d H' → W cls d σ' H') ∧ σ[0]? = some (some (.ref f)) ∧ H c' = some (CodeO c' q) ∧ tl Ech H (fun _ H' => D.nx σ H'))
      rfl rfl LamX.takes0 (fun W pn xe tk _ => ?_) (.cons ⟨e1, by decide, .inl T.g_StepFailed⟩ (fun _ _ _ _ _ _ _ => pss_one (ps_ret pe_bl)) (.cons ⟨e2, by decide, .inl T.g_NotApplicable⟩ (fun _ _ _ _ _ _ _ => pss_one (ps_ret pe_bl)) (.cons ⟨e3, by decide, .inl T.g_NothingToUndo⟩ (fun _ _ _ _ _ _ _ => pss_one (ps_ret pe_bl)) .nil)))) (pss_one (ps_ret pe_bl)), ?_⟩
  · refine ⟨fun pins s' σ H' D I h' => ?_⟩
    obtain ⟨Ech, hW, h1, h2, h3⟩ := h'
    have hp := act W pn xe Ech p1 p2 tk hW
    have hq := pss_one (ps_expr (pos := p3) hp)
    exact hq.run pins s' σ H' D I ⟨h1, h2, h3⟩
  · refine ⟨fun cls _ H' => (cls = .ref (He.ga X.K "StepFailed") ∨ cls = .ref (He.ga X.K "NotApplicable") ∨ cls = .ref (He.ga X.K "NothingToUndo")) ∧ Q (.bl false) H', fun cls d σ' H' ⟨h1, h2⟩ => ?_, h0 f, hc, h⟩
    rcases h1 with rfl | rfl | rfl
    · exact ⟨true, T.e_StepFailed_StepFailed, fun _ _ _ => h2, fun z => (by cases z)⟩
    · exact ⟨false, T.e_NotApplicable_StepFailed, fun z => (by cases z), fun _ => ⟨true, T.e_NotApplicable_NotApplicable, fun _ _ _ => h2, fun z => (by cases z)⟩⟩
    · exact ⟨false, T.e_NothingToUndo_StepFailed, fun z => (by cases z), fun _ => ⟨false, T.e_NothingToUndo_NotApplicable, fun z => (by cases z), fun _ => ⟨true, T.e_NothingToUndo_NothingToUndo, fun _ _ _ => h2, fun z => (by cases z)⟩⟩⟩
end
end Tp
/-! part K21 -/
set_option Elab.async false
set_option linter.all false
set_option maxRecDepth 100000
set_option maxHeartbeats 4000000
/-! the law's defs, part 4: _law_done -/
namespace Tp
open PySem PySem.Spec PyProof.Rows L2 LamX
/-- the table of the def that makes lambdas -/
def tbP (K : PySem.W.Frag) : Addr × Addr := He.cT K ("_law_done", none)
def tabL (K : PySem.W.Frag) : List (Addr × Str) := [((tbP K).2, "_law_done.<locals>.<lambda>")]
/-- no tables -/
def NoT (H : Hp) : Prop := ∀ b ps, H b ≠ some (.tbl ps)
theorem ExtN.old {H0 H H' : Hp} (e : ExtN H H') (e0 : Ext H0 H) (n : NoT H0) : Ext H0 H' := fun b o h => e b o (e0 b o h) fun ps z => n b ps (by rw [h, z])
theorem ExtBut.to {a : Addr} {o : HO} {H H' : Hp} (e : ExtBut a H H') (h : H' a = some o) : Ext (upd H a o) H' := fun b u hb => by
  by_cases z : b = a
  · rw [z, upd_same] at hb
    rw [z, h]
    exact hb
  · rw [upd_ne z] at hb
    exact e b u z hb
theorem FrL.sub {X H0 : Hp} {l : List Addr} (f : FrL X l) (e : Ext H0 X) : FrL H0 l := fun b hb => e.none (f b hb)
theorem StepsAt.extN {H H' : Hp} {l : Addr} {ss : List Stp} (h : StepsAt H l ss) (e : ExtN H H') : StepsAt H' l ss :=
  let ⟨vs, h1, h2⟩ := h
  ⟨vs, e _ _ h1 (fun _ z => by cases z), h2.mono fun _ _ ⟨t, h3, h4, h5⟩ => ⟨t, h3, e _ _ h4 (fun _ z => by cases z), h5⟩⟩
theorem All2.reverse {α β : Type} {R : α → β → Prop} {xs : List α} {ys : List β} (a : All2 R xs ys) : All2 R xs.reverse ys.reverse := by
  refine ⟨by rw [List.length_reverse, List.length_reverse, a.1], fun i x y h1 h2 => ?_⟩
  have hl : i < xs.length := by
    have := (List.getElem?_eq_some_iff.mp h1).1
    rw [List.length_reverse] at this
    exact this
  rw [List.getElem?_reverse hl] at h1
  rw [List.getElem?_reverse (a.1 ▸ hl), ← a.1] at h2
  exact a.2 _ x y h1 h2
theorem SessAt.fresh {K : PySem.W.Frag} {H : Hp} {a b : Addr} {s : Sa} {st : Sn} {nT ne : Nat} (x : SessAt K H a s st nT ne) (h : H b = none) : b ∉ s.own a := fun z => by
  obtain ⟨o, ho⟩ := x.own_some b z
  rw [h] at ho
  cases ho
theorem SessAt.steps_out {K : PySem.W.Frag} {H : Hp} {a l : Addr} {s : Sa} {st : Sn} {nT ne : Nat} {ss : List Stp} (x : SessAt K H a s st nT ne) (h : StepsAt H l ss) (n : l ∉ s.own a) : StepsAt (cut (s.own a) H) l ss :=
  let ⟨vs, h1, h2⟩ := h
  ⟨vs, (cut_out n).trans h1, h2.mono fun _ _ ⟨t, e, ht, k⟩ => ⟨t, e, x.out ht (fun _ z => by cases z) (fun _ _ _ z => by cases z), k⟩⟩
/-- a list of steps is not the session's own if it is newer -/
structure LD (K : PySem.W.Frag) (H0 H : Hp) (a sa l : Addr) (s : Sa) (st : Sn) (nT ne : Nat) (ss : List Stp) (x y : Int) : Prop where
  ha : H a = some (.lst [.int x, .int y])
  se : SessAt K H sa s st nT ne
  na : a ∉ s.own sa
  nl : l ∉ s.own sa
  al : a ≠ l
  ls : StepsAt H l ss
  tb : Tabs (tabL K) H
  e0 : Ext H0 H
  nt : NoT H0
  n0 : H0 a = none
  f0 : FrL H0 (s.own sa)
section
variable {K : PySem.W.Frag} {H0 H H' : Hp} {a sa l : Addr} {s s' : Sa} {st : Sn} {nT ne : Nat} {ss : List Stp} {x y : Int}
theorem LD.lam (d : LD K H0 H a sa l s st nT ne ss x y) (e : ExtN H H') (t : Tabs (tabL K) H') : LD K H0 H' a sa l s st nT ne ss x y :=
  ⟨e _ _ d.ha (fun _ z => by cases z), d.se.extN e, d.na, d.nl, d.al, d.ls.extN e, t, ExtN.old e d.e0 d.nt, d.nt, d.n0, d.f0⟩
theorem LD.ext (d : LD K H0 H a sa l s st nT ne ss x y) (e : Ext H H') : LD K H0 H' a sa l s st nT ne ss x y :=
  ⟨e _ _ d.ha, d.se.ext e, d.na, d.nl, d.al, d.ls.ext e, LamX.Tabs.ext d.tb e, d.e0.trans e, d.nt, d.n0, d.f0⟩
theorem LD.put (d : LD K H0 H a sa l s st nT ne ss x y) (i j : Int) : LD K H0 (upd H a (.lst [.int i, .int j])) a sa l s st nT ne ss i j :=
  ⟨upd_same, d.se.other d.ha d.na, d.na, d.nl, d.al, (let ⟨vs, h1, h2⟩ := d.ls; ⟨vs, by rw [upd_ne (Ne.symm d.al)]; exact h1, h2.mono fun _ _ h => h.put d.ha (fun _ z => by cases z)⟩), Tabs.list d.tb d.ha, d.e0.put d.n0, d.nt, d.n0, d.f0⟩
theorem cut_ExtNT (d : LD K H0 H a sa l s st nT ne ss x y) : Ext H0 (cut (s.own sa) H) := d.e0.cut d.f0
/-- behind an action: all but the session's own stays -/
theorem LD.fin (d : LD K H0 H a sa l s st nT ne ss x y) (e : Ext (cut (s.own sa) H) H') (f : FrL (cut (s.own sa) H) (s'.own sa)) :
    Ext H0 H' ∧ FrL H0 (s'.own sa) ∧ H' a = some (.lst [.int x, .int y]) ∧ a ∉ s'.own sa ∧ Tabs (tabL K) H' :=
  ⟨(cut_ExtNT d).trans e, f.sub (cut_ExtNT d), e _ _ (by rw [cut_out d.na]; exact d.ha), (fun z => by
    have h := f a z
    rw [cut_out d.na, d.ha] at h
    cases h), d.se.tabs d.tb e⟩
end
/-- xs[::-1], the written part named -/
theorem pe_revLK {X : Cx} {K : PySem.W.Frag} {e : Expr} {te : TE} {k : Nat} {p1 p2 p3 pos : Pos} (hK : X.K = K) (he : PE X e te) : PE X (.Subscript e (.Slice none none (some (.UnaryOp .USub (.Constant (.int 1) k p1) p2)) p3) pos) (tRevL K te) := by
  subst hK
  exact pe_revL he
section
variable {P : Program} [PrgOk P] {w : World} {K : PySem.W.Frag} {mg : Str → Option Value} {base : Heap}
theorem sc_law_tried : FnScope ["_law_call"] ["_law_call"] (defScope s_law_tried) := ⟨rfl, rfl, rfl, by decide +kernel, rfl, by decide +kernel, by decide +kernel⟩
theorem sc_law_done : FnScope ["_law_stream_here", "_law_session", "_law_alphabet_here", "_law_way", "_law_item"] ["_law_stream_here", "_law_session", "_law_alphabet_here"] (defScope s_law_done) := ⟨rfl, rfl, rfl, by decide +kernel, rfl, by decide +kernel, by decide +kernel⟩
def sp_law_done (K : PySem.W.Frag) : Sp := fun vs H Q _ => ∃ (a sa p : Addr) (x y : Int) (al : List Str) (s : Sa) (st : Sn) (nT ne : Nat) (H0 : Hp), vs = [.ref a, .ref sa, .ref p] ∧ H a = some (.lst [.int x, .int y]) ∧ AlAt H0 p al ∧ SessAt K H sa s st nT ne ∧ a ∉ s.own sa ∧ Tabs (tabL K) H ∧
  nT + 3000 < BIG ∧ st.hist.length + st.und.length + 3 < BIG ∧ ne + 2 < BIG ∧ Ext H0 H ∧ NoT H0 ∧ H0 a = none ∧ FrL H0 (s.own sa) ∧
  ∀ (b : Bool) (H' : Hp) (s' : Sa) (st' : Sn) (x' y' : Int), Ext H0 H' → FrL H0 (s'.own sa) → H' a = some (.lst [.int x', .int y']) → a ∉ s'.own sa → SessAt K H' sa s' st' (nT + 3000) (ne + 2) → Tabs (tabL K) H' → st'.b = st.b → st'.p0 = st.p0 →
    st'.hist.length + st'.und.length ≤ st.hist.length + st.und.length + 3 → (b = false → st' = st) → Q (.bl b) H'
theorem k_law_done (T : Txt K mg) (TB : TabB base mg (tbP K).1 (tbP K).2) : FnR P w K mg base CX0 13 (He.ga K "_law_done") (sp_law_done K) := by
  obtain ⟨fdt, Ft⟩ := T.f_law_tried
  obtain ⟨oct, odt, dVt, kVt, doct, pmt, ant, cdvt, ctt, oslt, rfl, lkt, hct, _, _⟩ := id Ft.ex
  have bt := Ft.bindsN (ps := ["_law_call"]) fun _ _ _ _ _ _ us hl => match us, hl with | [_], _ => rfl
  obtain ⟨fd, F⟩ := T.f_law_done
  obtain ⟨oc, od, dV, kV, doc, pm, an, cdv, ct, osl, rfl, lk, hcd, _, _⟩ := id F.ex
  obtain ⟨c, rfl⟩ := He.codeIn_ref hcd
  have ec : (tbP K).1 = c := He.codeOf_eq (p := ("_law_done", none)) lk rfl
  rw [ec] at TB
  have hmT : ((tbP K).2, ("_law_done.<locals>.<lambda>" : Str)) ∈ tabL K := List.mem_singleton.mpr rfl
  have huT : ∀ p ∈ tabL K, p.1 = (tbP K).2 → p.2 = ("_law_done.<locals>.<lambda>" : Str) := fun p hp _ => by rw [List.mem_singleton.mp hp]
  refine (fun (G : FnOk P w K mg base CX0 13 (He.ga K "_law_done") _ ["_law_stream_here", "_law_session", "_law_alphabet_here"] (sp_law_done K)) => ?_) (fn_of lk hcd sc_law_done (fun vs H Q E h => by obtain ⟨_, _, _, _, _, _, _, _, _, _, _, rfl, _⟩ := h; rfl) fun A outer s H vs Q E hr h => ?_)
  · exact (G.raw (F.bindsN fun _ _ _ _ _ _ us hl => match us, hl with | [_, _, _], _ => rfl) .nil).imp fun vs H Q E h => by rw [List.append_nil]; exact h
  · refine ⟨_, PSs.nox (pss_cons (ps_asg (pe_tup (pa_cons (pe_cR (k_law_draw T) (hr.mono (by decide)) (by rfl) T.g_law_draw T.kp_law_draw pass0 (pa_cons (pv 0) (pa_cons pe_int pa_nil))) (pa_cons (pe_cR (k_law_steps T) (hr.mono (by decide)) (by rfl) T.g_law_steps T.kp_law_steps pass0 (pa_cons (pv 0) (pa_cons (pv 2) (pa_cons pe_int pa_nil)))) pa_nil))) (pg_tup rfl (pgs_cons (pg_name (i := 3) sc_law_done.nd rfl (Or.inl rfl)) (pgs_cons (pg_name (i := 4) sc_law_done.nd rfl (Or.inr rfl)) pgs_nil))))
  (pss_cons (ps_if (pt_cmpR op_lt (pv 3) pe_int (nomark _)) (pss_one (ps_ret (pe_lamcall (T := tabL K) (TT := TTtried K) (k := 10) (by rfl) T.g_law_tried T.kp_law_tried lkt hct bt sc_law_tried rfl (Or.inl rfl) (tried_gives T rfl rfl rfl (fun _ => rfl)) TB rfl hmT huT hr (lamS_by (sc := defScope s_law_done) (by decide +kernel)) rfl (fun _ _ _ _ _ => rfl) (fun A outer s H E f c2 hr => (pe_methR (pv 1) T.c_Session T.m_Session_do (k_Session_do (P := P) T) (hr.mono (by decide)) (passes_call (takes_of rfl rfl rfl rfl) fun _ _ _ _ h => h) (pa_cons (pv 4) pa_nil)))))) pss_nil)
  (pss_cons (ps_if (pt_cmpR op_eq (pv 3) pe_int (nomark _)) (pss_one (ps_ret (pe_lamcall (T := tabL K) (TT := TTtried K) (k := 10) (by rfl) T.g_law_tried T.kp_law_tried lkt hct bt sc_law_tried rfl (Or.inl rfl) (tried_gives T rfl rfl rfl (fun _ => rfl)) TB rfl hmT huT hr (lamS_by (sc := defScope s_law_done) (by decide +kernel)) rfl (fun _ _ _ _ _ => rfl) (fun A outer s H E f c2 hr => (pe_methR (pv 1) T.c_Session T.m_Session_repeat (k_Session_repeat (P := P) T) (hr.mono (by decide)) (passes_call (takes_of rfl rfl rfl rfl) fun _ _ _ _ h => h) (pa_cons (pv 4) (pa_cons (pe_cR (k_law_draw T) (hr.mono (by decide)) (by rfl) T.g_law_draw T.kp_law_draw pass0 (pa_cons (pv 0) (pa_cons pe_int pa_nil))) pa_nil))))))) pss_nil)
  (pss_cons (ps_if (pt_cmpR op_eq (pv 3) pe_int (nomark _)) (pss_one (ps_ret (pe_lamcall (T := tabL K) (TT := TTtried K) (k := 10) (by rfl) T.g_law_tried T.kp_law_tried lkt hct bt sc_law_tried rfl (Or.inl rfl) (tried_gives T rfl rfl rfl (fun _ => rfl)) TB rfl hmT huT hr (lamS_by (sc := defScope s_law_done) (by decide +kernel)) rfl (fun _ _ _ _ _ => rfl) (fun A outer s H E f c2 hr => (pe_methR (pv 1) T.c_Session T.m_Session_perform (k_Session_perform (P := P) T) (hr.mono (by decide)) (passes_call (takes_of rfl rfl rfl rfl) fun _ _ _ _ h => h) (pa_cons (pe_lst (pa_cons (pv 4) (pa_cons (pe_revLK (K := K) rfl (pv 4)) (pa_cons (pe_lst (pa_cons (pe_tup (pa_cons pe_str pa_nil)) pa_nil)) pa_nil)))) pa_nil)))))) pss_nil)
  (pss_cons (ps_if (pt_cmpR op_lt (pv 3) pe_int (nomark _)) (pss_one (ps_ret (pe_lamcall (T := tabL K) (TT := TTtried K) (k := 10) (by rfl) T.g_law_tried T.kp_law_tried lkt hct bt sc_law_tried rfl (Or.inl rfl) (tried_gives T rfl rfl rfl (fun _ => rfl)) TB rfl hmT huT hr (lamS_by (sc := defScope s_law_done) (by decide +kernel)) rfl (fun _ _ _ _ _ => rfl) (fun A outer s H E f c2 hr => (pe_mR0 (pv 1) T.c_Session T.m_Session_undo (k_Session_undo (P := P) T) (hr.mono (by decide)) (passes_call (takes_of rfl rfl rfl rfl) fun _ _ _ _ h => h)))))) pss_nil)
  (pss_one (ps_ret (pe_lamcall (T := tabL K) (TT := TTtried K) (k := 10) (by rfl) T.g_law_tried T.kp_law_tried lkt hct bt sc_law_tried rfl (Or.inl rfl) (tried_gives T rfl rfl rfl (fun _ => rfl)) TB rfl hmT huT hr (lamS_by (sc := defScope s_law_done) (by decide +kernel)) rfl (fun _ _ _ _ _ => rfl) (fun A outer s H E f c2 hr => (pe_mR0 (pv 1) T.c_Session T.m_Session_redo (k_Session_redo (P := P) T) (hr.mono (by decide)) (passes_call (takes_of rfl rfl rfl rfl) fun _ _ _ _ h => h))))))))))), ?_⟩
    obtain ⟨a, sa, p, x, y, al, s0, st, nT, ne, H0, rfl, ha, hal, hse, hna, htb, hnT, hln, hne, e0, nt, n0, f0, q⟩ := h
    have hB : BIG = 1000000 := rfl
    have nap : a ≠ p := fun z => by
      have := hal.1
      rw [← z, n0] at this
      cases this
    refine ⟨_, rfl, a, x, y, 9, rfl, ha, by decide, by decide, fun r x1 y1 r0 r1 => ?_⟩
    have e1 : Ext H0 (upd H a (.lst [.int x1, .int y1])) := e0.put n0
    have x1s : SessAt K (upd H a (.lst [.int x1, .int y1])) sa s0 st nT ne := hse.other ha hna
    have t1 : Tabs (tabL K) (upd H a (.lst [.int x1, .int y1])) := Tabs.list htb ha
    have ha1 : (upd H a (.lst [.int x1, .int y1])) a = some (.lst [.int x1, .int y1]) := upd_same
    generalize upd H a (.lst [.int x1, .int y1]) = H1 at e1 x1s t1 ha1 ⊢
    have hal1 : AlAt H1 p al := ⟨e1 _ _ hal.1, hal.2⟩
    refine ⟨_, rfl, _, rfl, a, p, 6, x1, y1, al, rfl, ha1, hal1, nap, by decide, by decide, fun l ss H2 x2 y2 eb ha2 hss hsl nl => ?_⟩
    have e12 := ExtBut.to eb ha2
    have dl : LD K H0 H2 a sa l s0 st nT ne ss x2 y2 := ⟨ha2, (x1s.other ha1 hna).ext e12, hna, (fun z => by
      obtain ⟨o, ho⟩ := x1s.own_some l z
      rw [nl] at ho
      cases ho), (fun z => by rw [z, nl] at ha1; cases ha1), hss, LamX.Tabs.ext (Tabs.list t1 ha1) e12, (e1.put n0).trans e12, nt, n0, f0⟩
    refine ⟨(by show 2 ≤ sizeLine; decide), fun pt hpt => ?_⟩
    have d3 := dl.ext (Ext.upd (o := .tup [V.int r, V.ref l]) hpt)
    refine ⟨pt, _, rfl, SqT.of upd_same, rfl, _, _, rfl, _, _, rfl, rfl, ?_⟩
    generalize upd H2 pt (.tup [V.int r, V.ref l]) = H3 at d3 ⊢
    have hn : ss.length ≤ 6 := by omega
    have fin : ∀ {H4 H5 : Hp} {s5 : Sa} {st5 : Sn} {b : Bool} {x5 y5 : Int} (d : LD K H0 H4 a sa l s0 st nT ne ss x5 y5), Ext (cut (s0.own sa) H4) H5 → FrL (cut (s0.own sa) H4) (s5.own sa) → SessAt K H5 sa s5 st5 (nT + 3000) (ne + 2) → st5.b = st.b → st5.p0 = st.p0 → st5.hist.length + st5.und.length ≤ st.hist.length + st.und.length + 3 → (b = false → st5 = st) → Q (.bl b) H5 := fun d e f x h1 h2 h3 h4 => by
      obtain ⟨k1, k2, k3, k4, k5⟩ := d.fin e f
      exact q _ _ _ _ _ _ k1 k2 k3 k4 x k5 h1 h2 h3 h4
    have same : ∀ {H4 H5 : Hp} {x5 y5 : Int} (d : LD K H0 H4 a sa l s0 st nT ne ss x5 y5), Ext H4 H5 → Q (.bl false) H5 := fun d e => by
      have d5 := d.ext e
      exact fin d5 cut_sub FrL.cut (d5.se.le (by omega) (by omega)) rfl rfl (by omega) fun _ => rfl
    refine ⟨_, rfl, _, _, rfl, rfl, _, rfl, ?_⟩
    refine ifD (fun c1 => ?_) fun c1 => ?_
    · refine ⟨d3.tb, fun H4 eN T4 => ?_⟩
      have d4 := d3.lam eN T4
      obtain ⟨dx, hsa⟩ := d4.se.at_
      refine ⟨_, rfl, sa, dx, _, rfl, hsa, seF_do _ _ _ _ _ _ _, _, rfl, sa, l, s0, st, nT, ne, ss, cut (s0.own sa) H4, rfl, d4.se, d4.ls, by omega, by omega, by omega, cut_sub, FrL.cut, fun H5 s5 e e5 f5 x5 => ?_, fun d H5 e5 => ⟨.inl rfl, same d4 e5⟩⟩
      refine fin d4 e5 f5 (x5.le (by omega) (by omega)) rfl rfl ?_ (fun z => by cases z)
      show (st.hist ++ [e]).length + 0 ≤ _
      rw [List.length_append]
      show st.hist.length + 1 + 0 ≤ _
      omega
    refine ⟨_, rfl, rfl, _, rfl, ?_⟩
    refine ifD (fun c2 => ?_) fun c2 => ?_
    · refine ⟨d3.tb, fun H4 eN T4 => ?_⟩
      have d4 := d3.lam eN T4
      obtain ⟨dx, hsa⟩ := d4.se.at_
      refine ⟨_, rfl, sa, dx, _, rfl, hsa, seF_repeat _ _ _ _ _ _ _, _, rfl, _, rfl, a, x2, y2, 4, rfl, d4.ha, by decide, by decide, fun k x5 y5 k0 k1 => ?_⟩
      have d5 := d4.put x5 y5
      refine ⟨sa, l, k, s0, st, nT, ne, ss, cut (s0.own sa) _, rfl, d5.se, d5.ls, by omega, k0, by omega, by omega, by omega, cut_sub, FrL.cut, fun H5 s5 e e5 f5 x5 => ?_, fun d H5 e5 => ⟨.inr (.inl rfl), same d5 e5⟩⟩
      refine fin d5 e5 f5 (x5.le (by omega) (by omega)) rfl rfl ?_ (fun z => by cases z)
      show (st.hist ++ [e]).length + 0 ≤ _
      rw [List.length_append]
      show st.hist.length + 1 + 0 ≤ _
      omega
    refine ⟨_, rfl, rfl, _, rfl, ?_⟩
    refine ifD (fun c3 => ?_) fun c3 => ?_
    · refine ⟨d3.tb, fun H4 eN T4 => ?_⟩
      have d4 := d3.lam eN T4
      obtain ⟨vl, hvl, hvs⟩ := d4.ls
      obtain ⟨dx, hsa⟩ := d4.se.at_
      refine ⟨_, rfl, sa, dx, _, rfl, hsa, seF_perform _ _ _ _ _ _ _, _, rfl, _, rfl, l, vl, rfl, SqL.of hvl, fun l2 h2 => ?_⟩
      have d5 := d4.ext (Ext.upd (o := .lst vl.reverse) h2)
      have hl2 : (upd H4 l2 (.lst vl.reverse)) l2 = some (.lst vl.reverse) := upd_same
      have n2 : l2 ∉ s0.own sa := d4.se.fresh h2
      have hv5 : All2 (StepAt (upd H4 l2 (.lst vl.reverse))) vl ss := hvs.mono fun _ _ h => h.ext (Ext.upd h2)
      generalize upd H4 l2 (.lst vl.reverse) = H5 at d5 hl2 hv5 ⊢
      refine ⟨(by show 1 ≤ sizeLine; decide), fun t3 h3 => ⟨(by show 1 ≤ sizeLine; decide), fun l3 h4 => ⟨(by show 3 ≤ sizeLine; decide), fun li h5 => ?_⟩⟩⟩
      have e6 : Ext H5 (upd H5 t3 (.tup [V.str "left"])) := Ext.upd h3
      have e7 : Ext (upd H5 t3 (.tup [V.str "left"])) (upd (upd H5 t3 (.tup [V.str "left"])) l3 (.lst [V.ref t3])) := Ext.upd h4
      have e8 := Ext.upd (o := .lst [V.ref l, V.ref l2, V.ref l3]) h5
      have d6 := d5.ext e6
      have d7 := d6.ext e7
      have d8 := d7.ext e8
      have n3 : l3 ∉ s0.own sa := d6.se.fresh h4
      have ni : li ∉ s0.own sa := d7.se.fresh h5
      have k3 : StepsAt _ l3 [Stp.l] := ⟨[V.ref t3], e8 _ _ upd_same, All2.one ⟨t3, rfl, e8 _ _ (e7 _ _ upd_same), trivial⟩⟩
      have k2 : StepsAt _ l2 ss.reverse := ⟨vl.reverse, e8 _ _ (e7 _ _ (e6 _ _ hl2)), (hv5.mono fun _ _ h => ((h.ext e6).ext e7).ext e8).reverse⟩
      refine ⟨sa, li, s0, st, nT, ne, [ss, ss.reverse, [Stp.l]], cut (s0.own sa) _, rfl, d8.se, ⟨_, (cut_out ni).trans upd_same, All2.cons ⟨l, rfl, d8.se.steps_out d8.ls d8.nl⟩ (All2.cons ⟨l2, rfl, d8.se.steps_out k2 n2⟩ (All2.one ⟨l3, rfl, d8.se.steps_out k3 n3⟩))⟩, (by simp), (by simp), (fun z hz => ?_), hnT, by omega, hne, cut_sub, FrL.cut, fun H9 s9 es h9 e9 f9 x9 l9 => ?_, fun d H9 e9 x9 => ⟨.inl rfl, ?_⟩⟩
      · simp only [List.mem_cons, List.not_mem_nil, or_false] at hz
        rcases hz with rfl | rfl | rfl
        · omega
        · rw [List.length_reverse]
          omega
        · decide
      · refine fin d8 e9 f9 x9 rfl rfl ?_ (fun z => by cases z)
        show (st.hist ++ es).length + 0 ≤ _
        rw [List.length_append]
        omega
      · exact fin d8 e9 FrL.cut (x9.le (by omega) (Nat.le_refl _)) rfl rfl (by omega) fun _ => rfl
    refine ⟨_, rfl, _, _, rfl, rfl, _, rfl, ?_⟩
    refine ifD (fun c4 => ?_) fun c4 => ?_
    · refine ⟨d3.tb, fun H4 eN T4 => ?_⟩
      have d4 := d3.lam eN T4
      obtain ⟨dx, hsa⟩ := d4.se.at_
      refine ⟨_, rfl, sa, dx, _, rfl, hsa, seF_undo _ _ _ _ _ _ _, sa, s0, st, nT, ne, cut (s0.own sa) H4, rfl, d4.se, by omega, cut_sub, FrL.cut, fun _ H5 e5 => ⟨.inr (.inr rfl), same d4 e5⟩, fun es e H5 s5 he e5 f5 x5 => ?_⟩
      refine fin d4 e5 f5 (x5.le (by omega) (by omega)) rfl rfl ?_ (fun z => by cases z)
      show es.length + (st.und.length + 1) ≤ _
      rw [he, List.length_append]
      show _ ≤ es.length + 1 + _ + 3
      omega
    · refine ⟨d3.tb, fun H4 eN T4 => ?_⟩
      have d4 := d3.lam eN T4
      obtain ⟨dx, hsa⟩ := d4.se.at_
      refine ⟨_, rfl, sa, dx, _, rfl, hsa, seF_redo _ _ _ _ _ _ _, sa, s0, st, nT, ne, cut (s0.own sa) H4, rfl, d4.se, by omega, cut_sub, FrL.cut, fun _ H5 e5 => ⟨.inr (.inr rfl), same d4 e5⟩, fun e es H5 s5 he e5 f5 x5 => ?_⟩
      refine fin d4 e5 f5 (x5.le (by omega) (by omega)) rfl rfl ?_ (fun z => by cases z)
      show (st.hist ++ [e]).length + es.length ≤ _
      rw [he, List.length_append]
      show st.hist.length + 1 + _ ≤ _ + (es.length + 1) + 3
      omega
end
end Tp
/-! part K22 -/
set_option Elab.async false
set_option linter.all false
set_option maxRecDepth 100000
set_option maxHeartbeats 4000000
/-! the law's defs, part 5: _law_joined -/
namespace Tp
open PySem PySem.Spec PyProof.Rows L2
/-! ### mathematics -/
def joinK (N1 P1 : PF) : PF := fun j => match P1 j with
  | some z => some z
  | none => N1 j
def joinN (N1 P1 N2 : PF) (k : Int) : PF := fun j => match joinK N1 P1 j with
  | some _ => N1 j
  | none => N2 (j - k)
def joinW (P1 P2 : PF) (k : Int) : PF := fun j => (P2 (j - k)).or (P1 j)
def joinP (N1 P1 N2 P2 : PF) (k : Int) : PF := fun j => (joinW P1 P2 k j).bind fun z => if joinN N1 P1 N2 k j = some z then none else some z
theorem joinK_none {N1 P1 : PF} {j : Int} : joinK N1 P1 j = none ↔ P1 j = none ∧ N1 j = none := by
  unfold joinK
  cases h : P1 j with
  | none => exact ⟨fun h => ⟨rfl, h⟩, fun h => h.2⟩
  | some z => exact ⟨fun h => (by cases h), fun h => (by cases h.1)⟩
/-- .. the first i keys of the second -/
def joinNi (N1 P1 : PF) (m : M) (k : Int) (i : Nat) : PF := fun j => match joinK N1 P1 j with
  | some _ => N1 j
  | none => look (m.take i) (j - k)
theorem joinNi_0 {N1 P1 : PF} {m : M} {k : Int} (j : Int) : joinNi N1 P1 m k 0 j = N1 j := by
  unfold joinNi
  cases h : joinK N1 P1 j with
  | some z => rfl
  | none => exact (joinK_none.mp h).2.symm
theorem look_shift {m : M} {i : Nat} {q : Int × Str} (nd : (keys m).Nodup) (hq : m[i]? = some q) (k j : Int) : look (m.take (i + 1)) (j - k) = if q.1 + k = j then some q.2 else look (m.take i) (j - k) := by
  rw [take_succ' hq, look_snoc (nodup_take_snoc nd hq)]
  by_cases c : q.1 + k = j
  · rw [if_pos c, if_pos (by omega)]
  · rw [if_neg c, if_neg (by omega)]
theorem joinNi_new {N1 P1 : PF} {m : M} {k : Int} {i : Nat} {q : Int × Str} (nd : (keys m).Nodup) (hq : m[i]? = some q) (hn : joinK N1 P1 (q.1 + k) = none) (j : Int) : setF (joinNi N1 P1 m k i) (q.1 + k) q.2 j = joinNi N1 P1 m k (i + 1) j := by
  show (if q.1 + k = j then some q.2 else joinNi N1 P1 m k i j) = _
  unfold joinNi
  rw [look_shift nd hq]
  by_cases c : q.1 + k = j
  · rw [if_pos c, if_pos c, ← c, hn]
  · rw [if_neg c, if_neg c]
theorem joinNi_old {N1 P1 : PF} {m : M} {k : Int} {i : Nat} {q : Int × Str} {y : Str} (nd : (keys m).Nodup) (hq : m[i]? = some q) (hn : joinK N1 P1 (q.1 + k) = some y) (j : Int) : joinNi N1 P1 m k i j = joinNi N1 P1 m k (i + 1) j := by
  unfold joinNi
  rw [look_shift nd hq]
  by_cases c : q.1 + k = j
  · rw [if_pos c, ← c, hn]
  · rw [if_neg c]
def joinWi (P1 : PF) (m : M) (k : Int) (i : Nat) : PF := fun j => (look (m.take i) (j - k)).or (P1 j)
theorem joinWi_0 {P1 : PF} {m : M} {k : Int} (j : Int) : joinWi P1 m k 0 j = P1 j := by simp [joinWi, look]
theorem joinWi_put {P1 : PF} {m : M} {k : Int} {i : Nat} {q : Int × Str} (nd : (keys m).Nodup) (hq : m[i]? = some q) (j : Int) : setF (joinWi P1 m k i) (q.1 + k) q.2 j = joinWi P1 m k (i + 1) j := by
  show (if q.1 + k = j then some q.2 else joinWi P1 m k i j) = _
  unfold joinWi
  rw [look_shift nd hq]
  by_cases c : q.1 + k = j
  · rw [if_pos c, if_pos c]
    rfl
  · rw [if_neg c, if_neg c]
theorem scal_str (a b : Str) : scal (.str a) (.str b) = true := rfl
theorem let_ne {z : Str} (h : Let z) : ("" : Str) ≠ z := fun e => by
  obtain ⟨c, rfl, _⟩ := h
  have : (0 : Nat) = 1 := congrArg (fun s : Str => s.cps.size) e
  cases this
theorem dget_key {H : Hp} {d : Addr} {m : M} {f : PF} {i : Nat} {q : Int × Str} (h : Rd H d (.dK (tk m))) (c : Dct m f) (hq : m[i]? = some q) : DGet H d (.int q.1) (some (.str q.2)) := by
  have := dget_of h c q.1
  rw [← c.lk, mem_look c.nd (List.mem_of_getElem? hq)] at this
  exact this
theorem getD_str (o : Option Str) : (o.map V.str).getD (.str "") = .str (o.getD "") := by cases o <;> rfl
section
variable {P : Program} {w : World} {K : PySem.W.Frag} {mg : Str → Option Value} {base : Heap}
def sp_law_joined (K : PySem.W.Frag) : Sp := fun vs H Q _ => ∃ (o1 o2 d1 d2 d3 d4 : Addr) (N1 P1 N2 P2 : PF) (k1 k2 : Int) (n m : Nat), vs = [.ref o1, .ref o2] ∧ H o1 = some (.lst [.ref d1, .ref d2, .int k1]) ∧ H o2 = some (.lst [.ref d3, .ref d4, .int k2]) ∧
  DAt H d1 N1 n ∧ DAt H d2 P1 n ∧ DAt H d3 N2 m ∧ DAt H d4 P2 m ∧ n + n + m + m < BIG ∧
  ∀ p q1 q2 H', Ext H H' → H' p = some (.lst [.ref q1, .ref q2, .int (k1 + k2)]) → DAt H' q1 (joinN N1 P1 N2 k1) (n + m) → DAt H' q2 (joinP N1 P1 N2 P2 k1) (n + m) → H p = none → Q (.ref p) H'
theorem sc_law_joined : FnScope ["_law_one", "_law_other", "_law_needed", "_law_known", "_law_put", "_law_spot", "_law_left"] ["_law_one", "_law_other"] (defScope s_law_joined) := ⟨rfl, rfl, rfl, by decide +kernel, rfl, by decide +kernel, by decide +kernel⟩
theorem k_law_joined (T : Txt K mg) : FnR P w K mg base CX0 1 (He.ga K "_law_joined") (sp_law_joined K) := by
  obtain ⟨fd, F⟩ := T.f_law_joined
  refine (fun (G : FnOk P w K mg base CX0 1 _ fd _ (sp_law_joined K)) => ?_) (F.ok sc_law_joined (fun vs H Q E h => by obtain ⟨_, _, _, _, _, _, _, _, _, _, _, _, _, _, rfl, _⟩ := h; rfl) (fun cdv A outer s H vs Q E hr h => ?_))
  · exact (G.raw (F.bindsN fun _ _ _ _ _ _ us hl => match us, hl with | [_, _], _ => rfl) .nil).imp fun vs H Q E h => by rw [List.append_nil]; exact h
  · have hu := hu_of hr
    have hu0 : (A.deeper (envOfC _ _ s.heap.objs.size _ cdv)).units < cLine := Nat.lt_of_succ_lt hu
    refine ⟨_, PSs.nox (pss_cons (ps_asg (pe_tup (pa_cons (pe_callTy call_dictD (by rfl) T.n_dict (by decide +kernel) (pa_cons (pe_ix ix_list (pv 0) pe_int (fun _ _ => rfl)) pa_nil)) (pa_cons (pe_callTy call_dictD (by rfl) T.n_dict (by decide +kernel) (pa_cons (pe_ix ix_list (pv 0) pe_int (fun _ _ => rfl)) pa_nil)) (pa_cons (pe_callTy call_dictD (by rfl) T.n_dict (by decide +kernel) (pa_cons (pe_ix ix_list (pv 0) pe_int (fun _ _ => rfl)) pa_nil)) pa_nil)))) (pg_tup rfl (pgs_cons (pg_name (i := 2) sc_law_joined.nd rfl (Or.inr rfl)) (pgs_cons (pg_name (i := 3) sc_law_joined.nd rfl (Or.inl rfl)) (pgs_cons (pg_name (i := 4) sc_law_joined.nd rfl (Or.inr rfl)) pgs_nil)))))
  (pss_cons (ps_expr (pe_bm PySem.F.plainAttrs_dict PySem.F.slot_dict_update PySem.F.type_dict_update mt_dupd (pv 3) (pa_cons (pe_ix ix_list (pv 0) pe_int (fun _ _ => rfl)) pa_nil)))
  (pss_cons (ps_lock (ps_for PassesOwn.never rfl (pi_keys (pe_ix ix_list (pv 1) pe_int (fun _ _ => rfl))) (pg_name (i := 5) sc_law_joined.nd rfl (Or.inl rfl)) (pss_one (ps_if (pt_cmp (pc_dnotin hu (pe_op op_add (pv 5) (pe_ix ix_list (pv 0) pe_int (fun _ _ => rfl))) (pv 3))) (pss_one (ps_dput hu (pv 2) (pe_op op_add (pv 5) (pe_ix ix_list (pv 0) pe_int (fun _ _ => rfl))) (pe_dget hu (pe_ix ix_list (pv 1) pe_int (fun _ _ => rfl)) (pv 5) (fun _ _ => rfl)) rfl)) pss_nil))))
  (pss_cons (ps_lock (ps_for PassesOwn.never rfl (pi_keys (pe_ix ix_list (pv 1) pe_int (fun _ _ => rfl))) (pg_name (i := 5) sc_law_joined.nd rfl (Or.inl rfl)) (pss_one (ps_dput hu (pv 4) (pe_op op_add (pv 5) (pe_ix ix_list (pv 0) pe_int (fun _ _ => rfl))) (pe_dget hu (pe_ix ix_list (pv 1) pe_int (fun _ _ => rfl)) (pv 5) (fun _ _ => rfl)) rfl))))
  (pss_cons (ps_set (i := 6) sc_law_joined.nd rfl (Or.inl rfl) (pe_callTy (call_dictP (by rfl)) (by rfl) T.n_dict (by decide +kernel) (pa_cons (pe_lock (pe_lc (own := [("_law_spot", 5)]) (g := (gName 5)) rfl sc_law_joined.nd (pi_keys (pv 4)) (blkOk_by (own := [("_law_spot", 5)]) (N := ["_law_one", "_law_other", "_law_needed", "_law_known", "_law_put", "_law_spot", "_law_left"]) (sc := defScope s_law_joined) (by decide +kernel)) (fun _ _ _ _ _ => (pg_name (i := 5) sc_law_joined.nd rfl (Or.inl rfl))) (fun _ _ _ _ _ => (pts_one (pt_cmpR op_ne (pe_dget2 hu (pv 2) (pv 5) pe_str ⟨rfl, rfl, rfl, rfl⟩) (pe_dget hu (pv 4) (pv 5) (fun _ _ => rfl)) (nomark _)))) (fun _ _ _ _ _ => (pe_tup (pa_cons (pv 5) (pa_cons (pe_dget hu (pv 4) (pv 5) (fun _ _ => rfl)) pa_nil)))))) pa_nil)))
  (pss_one (ps_ret (pe_lst (pa_cons (pv 2) (pa_cons (pv 6) (pa_cons (pe_op op_add (pe_ix ix_list (pv 0) pe_int (fun _ _ => rfl)) (pe_ix ix_list (pv 1) pe_int (fun _ _ => rfl))) pa_nil))))))))))), ?_⟩
    obtain ⟨o1, o2, d1, d2, d3, d4, N1, P1, N2, P2, k1, k2, n, m, rfl, h1, h2, ⟨m1, a1, D1, l1⟩, ⟨m2, a2, D2, l2⟩, ⟨m3, a3, D3, l3⟩, ⟨m4, a4, D4, l4⟩, hn, q⟩ := h
    have hB : BIG = 1000000 := rfl
    refine ⟨_, rfl, o1, _, _, _, rfl, rfl, SqL.of h1, atI_nat (j := 0) rfl, d1, _, rfl, .inl a1, fun p1 n1 => ?_⟩
    have e1 : Ext H (upd H p1 (.dK (tk m1))) := Ext.upd n1
    refine ⟨_, rfl, o1, _, _, _, rfl, rfl, SqL.of (e1 _ _ h1), atI_nat (j := 0) rfl, d1, _, rfl, .inl (e1 _ _ a1), fun p2 n2 => ?_⟩
    have e2 : Ext _ (upd (upd H p1 (.dK (tk m1))) p2 (.dK (tk m1))) := Ext.upd n2
    refine ⟨_, rfl, o1, _, _, _, rfl, rfl, SqL.of (e2 _ _ (e1 _ _ h1)), atI_nat (j := 1) rfl, d2, _, rfl, .inl (e2 _ _ (e1 _ _ a2)), fun p3 n3 => ?_⟩
    have e3 : Ext _ (upd (upd (upd H p1 (.dK (tk m1))) p2 (.dK (tk m1))) p3 (.dK (tk m2))) := Ext.upd n3
    refine ⟨(by show 3 ≤ sizeLine; decide), fun t ht => ?_⟩
    have e4 := Ext.upd (o := .tup [V.ref p1, V.ref p2, V.ref p3]) ht
    refine ⟨t, _, rfl, SqT.of upd_same, rfl, _, _, rfl, _, _, rfl, _, _, rfl, rfl, ?_⟩
    have E := ((e1.trans e2).trans e3).trans e4
    have g1 := e4 _ _ (e3 _ _ (e2 _ _ (upd_same (H := H) (a := p1) (o := .dK (tk m1)))))
    have g2 := e4 _ _ (e3 _ _ (upd_same (H := upd H p1 (.dK (tk m1))) (a := p2) (o := .dK (tk m1))))
    have g3 := e4 _ _ (upd_same (H := upd (upd H p1 (.dK (tk m1))) p2 (.dK (tk m1))) (a := p3) (o := .dK (tk m2)))
    have p12 : p1 ≠ p2 := ne_of_none upd_same n2
    have p23 : p2 ≠ p3 := ne_of_none upd_same n3
    have p13 : p1 ≠ p3 := ne_of_none (e2 _ _ upd_same) n3
    have n2' : H p2 = none := e1.none n2
    have n3' : H p3 = none := (e1.trans e2).none n3
    generalize upd (upd (upd (upd H p1 (.dK (tk m1))) p2 (.dK (tk m1))) p3 (.dK (tk m2))) t (.tup [V.ref p1, V.ref p2, V.ref p3]) = H5 at E g1 g2 g3 ⊢
    have hlen1 : (tk m1).length + (tk m2).length ≤ sizeLine := by
      rw [tk_length, tk_length]
      exact Nat.le_of_lt (big_line (by omega))
    refine ⟨_, rfl, .inr (.inr (.inl ⟨rfl, .inl ⟨_, g2⟩⟩)), _, rfl, o1, _, _, _, rfl, rfl, SqL.of (E _ _ h1), atI_nat (j := 1) rfl, p2, d2, _, _, rfl, rfl, (fun z => by
      rw [z] at n2'
      rw [a2] at n2'
      cases n2'), g2, .inl (E _ _ a2), hlen1, ?_⟩
    rw [merge_tk D1.nd]
    have Dk : Dct (mergeM m1 m2) (joinK N1 P1) := D1.merge D2
    have lk := length_merge m1 m2
    have E6 : Ext H (upd H5 p2 (.dK (tk (mergeM m1 m2)))) := E.put n2'
    have f1 : (upd H5 p2 (.dK (tk (mergeM m1 m2)))) p1 = _ := (upd_ne p12).trans g1
    have f2 : (upd H5 p2 (.dK (tk (mergeM m1 m2)))) p2 = _ := upd_same
    have f3 : (upd H5 p2 (.dK (tk (mergeM m1 m2)))) p3 = _ := (upd_ne (Ne.symm p23)).trans g3
    generalize upd H5 p2 (.dK (tk (mergeM m1 m2))) = H6 at E6 f1 f2 f3 ⊢
    -- the first walk
    refine ⟨d3, _, E6 _ _ a3, trivial, fun od => ?_⟩
    have n1' : H p1 = none := n1
    have q31 : d3 ≠ p1 := fun z => by rw [z, n1'] at a3; cases a3
    have q32 : d3 ≠ p2 := fun z => by rw [z, n2'] at a3; cases a3
    have q33 : d3 ≠ p3 := fun z => by rw [z, n3'] at a3; cases a3
    have q3o : ∀ {b : Addr} {xs : List V}, H b = some (.lst xs) → b ≠ d3 := fun h z => by rw [z, a3] at h; cases h
    have qo1 : ∀ {b : Addr} {o : HO}, H b = some o → b ≠ p1 := fun h z => by rw [z, n1'] at h; cases h
    refine ⟨_, rfl, o2, _, _, _, rfl, rfl, SqL.of ((upd_ne (q3o h2)).trans (E6 _ _ h2)), atI_nat (j := 0) rfl, d3, od, rfl, .inl ⟨tk m3, upd_same, ?_⟩⟩
    refine for_it walk_keys (fun i σ Hc => ∃ v5 mi, σ = [some (.ref o1), some (.ref o2), some (.ref p1), some (.ref p2), some (.ref p3), v5, none] ∧ (∀ b, b ≠ p1 → Hc b = (upd H6 d3 (.frz od (.dK (tk m3)))) b) ∧ Hc p1 = some (.dK (tk mi)) ∧ Dct mi (joinNi N1 P1 m3 k1 i) ∧ mi.length ≤ n + i)
      ⟨none, m1, rfl, fun _ _ => rfl, (upd_ne (Ne.symm q31)).trans f1, D1.congr fun j => (joinNi_0 j).symm, l1⟩ (fun i σ Hc _ ⟨_, _, _, z, _⟩ => (z _ q31).trans upd_same) ?_ ?_
    · rintro i x σ Hc H7 hi ⟨v5, mi, rfl, off, hp, dm, lm⟩ ⟨rfl, kk, v, hk, rfl⟩
      obtain ⟨qq, hq, ek⟩ := tk_get hk
      cases ek
      rw [tk_length] at hi
      have at1 : H7 o1 = some (.lst [.ref d1, .ref d2, .int k1]) := (off _ (qo1 h1)).trans ((upd_ne (q3o h1)).trans (E6 _ _ h1))
      have at2 : H7 o2 = some (.lst [.ref d3, .ref d4, .int k2]) := (off _ (qo1 h2)).trans ((upd_ne (q3o h2)).trans (E6 _ _ h2))
      have atk : H7 p2 = some (.dK (tk (mergeM m1 m2))) := (off _ (Ne.symm p12)).trans ((upd_ne (Ne.symm q32)).trans f2)
      have gk := dget_dct atk Dk (qq.1 + k1)
      have gd : DGet H7 d3 (.int qq.1) (some (.str qq.2)) := dget_key (.inr ⟨od, (off _ q31).trans upd_same⟩) D3 hq
      refine ⟨_, rfl, _, rfl, o1, _, _, _, rfl, rfl, SqL.of at1, atI_nat (j := 2) rfl, _, _, rfl, rfl, _, rfl, p2, _, rfl, gk, _, rfl, ?_⟩
      cases hK : joinK N1 P1 (qq.1 + k1) with
      | none =>
        obtain ⟨mj, pj, mw, wj, dw, lw⟩ := dput_of (H := H7) ⟨mi, hp, dm, lm⟩ (by omega) (i := qq.1 + k1) (D3.lt _ (List.mem_of_getElem? hq))
        refine ⟨_, rfl, o2, _, _, _, rfl, rfl, SqL.of at2, atI_nat (j := 0) rfl, _, rfl, d3, _, rfl, gd, _, rfl, _, rfl, _, rfl, o1, _, _, _, rfl, rfl, SqL.of at1, atI_nat (j := 2) rfl, _, _, rfl, rfl, p1, _, rfl, pj, ?_⟩
        refine ⟨_, mw, rfl, fun b hb => (upd_ne hb).trans (off b hb), wj, dw.congr fun j => joinNi_new D3.nd hq hK j, lw⟩
      | some y => exact ⟨_, mi, rfl, off, hp, dm.congr fun j => joinNi_old D3.nd hq hK j, by omega⟩
    · rintro σ Hc ⟨v5, mi, rfl, off, hp, dm, lm⟩
      rw [tk_length] at lm dm
      refine ⟨(off _ q31).trans upd_same, ?_⟩
      have off2 : ∀ b, b ≠ p1 → (upd Hc d3 (.dK (tk m3))) b = H6 b := fun b hb => by
        by_cases z : b = d3
        · rw [z, upd_same]
          exact (E6 _ _ a3).symm
        · rw [upd_ne z, off b hb, upd_ne z]
      have r1 : (upd Hc d3 (.dK (tk m3))) p1 = some (.dK (tk mi)) := (upd_ne (Ne.symm q31)).trans hp
      have E7 : Ext H (upd Hc d3 (.dK (tk m3))) := fun b o h => (off2 b (qo1 h)).trans (E6 b o h)
      have r3 := (off2 _ (Ne.symm p13)).trans f3
      generalize upd Hc d3 (.dK (tk m3)) = H8 at E7 r1 r3 ⊢
      clear off2 off hp
      have DN : Dct mi (joinN N1 P1 N2 k1) := dm.congr fun j => by
        unfold joinNi joinN
        rw [List.take_length]
        cases joinK N1 P1 j with
        | none => exact D3.lk _
        | some y => rfl
      -- the second walk
      have q41 : d4 ≠ p1 := fun z => by rw [z, n1'] at a4; cases a4
      have q43 : d4 ≠ p3 := fun z => by rw [z, n3'] at a4; cases a4
      have q4o : ∀ {b : Addr} {xs : List V}, H b = some (.lst xs) → b ≠ d4 := fun h z => by rw [z, a4] at h; cases h
      have qo3 : ∀ {b : Addr} {o : HO}, H b = some o → b ≠ p3 := fun h z => by rw [z, n3'] at h; cases h
      refine ⟨d4, _, E7 _ _ a4, trivial, fun od2 => ?_⟩
      refine ⟨_, rfl, o2, _, _, _, rfl, rfl, SqL.of ((upd_ne (q4o h2)).trans (E7 _ _ h2)), atI_nat (j := 1) rfl, d4, od2, rfl, .inl ⟨tk m4, upd_same, ?_⟩⟩
      refine for_it walk_keys (fun i σ Hc => ∃ v5 mp, σ = [some (.ref o1), some (.ref o2), some (.ref p1), some (.ref p2), some (.ref p3), v5, none] ∧ (∀ b, b ≠ p3 → Hc b = (upd H8 d4 (.frz od2 (.dK (tk m4)))) b) ∧ Hc p3 = some (.dK (tk mp)) ∧ Dct mp (joinWi P1 m4 k1 i) ∧ mp.length ≤ n + i)
        ⟨v5, m2, rfl, fun _ _ => rfl, (upd_ne (Ne.symm q43)).trans r3, D2.congr fun j => (joinWi_0 j).symm, l2⟩ (fun i σ Hc _ ⟨_, _, _, z, _⟩ => (z _ q43).trans upd_same) ?_ ?_
      · rintro i x σ Hc H7 hi ⟨v5, mp, rfl, off, hp, dp, lp⟩ ⟨rfl, kk, v, hk, rfl⟩
        obtain ⟨qq, hq, ek⟩ := tk_get hk
        cases ek
        rw [tk_length] at hi
        have at1 : H7 o1 = some (.lst [.ref d1, .ref d2, .int k1]) := (off _ (qo3 h1)).trans ((upd_ne (q4o h1)).trans (E7 _ _ h1))
        have at2 : H7 o2 = some (.lst [.ref d3, .ref d4, .int k2]) := (off _ (qo3 h2)).trans ((upd_ne (q4o h2)).trans (E7 _ _ h2))
        have gd : DGet H7 d4 (.int qq.1) (some (.str qq.2)) := dget_key (.inr ⟨od2, (off _ q43).trans upd_same⟩) D4 hq
        obtain ⟨mj, pj, mw, wj, dw, lw⟩ := dput_of (H := H7) ⟨mp, hp, dp, lp⟩ (by omega) (i := qq.1 + k1) (D4.lt _ (List.mem_of_getElem? hq))
        refine ⟨_, rfl, o2, _, _, _, rfl, rfl, SqL.of at2, atI_nat (j := 1) rfl, _, rfl, d4, _, rfl, gd, _, rfl, _, rfl, _, rfl, o1, _, _, _, rfl, rfl, SqL.of at1, atI_nat (j := 2) rfl, _, _, rfl, rfl, p3, _, rfl, pj, ?_⟩
        exact ⟨_, mw, rfl, fun b hb => (upd_ne hb).trans (off b hb), wj, dw.congr fun j => joinWi_put D4.nd hq j, lw⟩
      · rintro σ Hc ⟨v5, mp, rfl, off, hp, dp, lp⟩
        rw [tk_length] at lp dp
        refine ⟨(off _ q43).trans upd_same, ?_⟩
        have off2 : ∀ b, b ≠ p3 → (upd Hc d4 (.dK (tk m4))) b = H8 b := fun b hb => by
          by_cases z : b = d4
          · rw [z, upd_same]
            exact (E7 _ _ a4).symm
          · rw [upd_ne z, off b hb, upd_ne z]
        have s3 : (upd Hc d4 (.dK (tk m4))) p3 = some (.dK (tk mp)) := (upd_ne (Ne.symm q43)).trans hp
        have s1 := (off2 _ p13).trans r1
        have E8 : Ext H (upd Hc d4 (.dK (tk m4))) := fun b o h => (off2 b (qo3 h)).trans (E7 b o h)
        generalize upd Hc d4 (.dK (tk m4)) = H9 at E8 s1 s3 ⊢
        clear off2 off hp
        have DW : Dct mp (joinW P1 P2 k1) := dp.congr fun j => by
          unfold joinWi joinW
          rw [List.take_length, D4.lk]
        -- the comprehension
        refine ⟨p3, _, s3, trivial, fun od3 => ?_⟩
        have l0 : Lk H9 p3 od3 (.dK (tk mp)) (upd H9 p3 (.frz od3 (.dK (tk mp)))) := Lk.start s3
        refine ⟨_, rfl, p3, od3, rfl, .inl ⟨tk mp, upd_same, fun D hD => ?_⟩⟩
        have hD0 : H9 D = none := l0.fresh hD
        refine lc_it walk_keys (fun i Hc => Lk H9 p3 od3 (.dK (tk mp)) Hc ∧ ∃ ps mi2, Hc D = some (.lst (ps.map V.ref)) ∧ Paired (fun p (kv : Key × V) => Hc p = some (.tup [kV kv.1, kv.2])) ps (tk mi2) ∧ Dct mi2 (fun j => (look (mp.take i) j).bind fun z => if joinN N1 P1 N2 k1 j = some z then none else some z) ∧ mi2.length ≤ i)
          ⟨l0.new hD, [], [], upd_same, .nil, Dct.nil.congr fun j => by simp [look], Nat.le_refl _⟩ (fun i Hc _ z => z.1.at_) ?_ ?_
        · rintro i x Hc H2 hi ⟨l, ps, mi2, hDl, hps, dM, lM⟩ ⟨rfl, kk, v, hk, rfl⟩
          obtain ⟨qq, hq, ek⟩ := tk_get hk
          cases ek
          rw [tk_length] at hi
          have nd := nodup_take_snoc DW.nd hq
          have lkn : look (mp.take i) qq.1 = none := by
            cases hh : look (mp.take i) qq.1 with
            | none => rfl
            | some y =>
              unfold keys at nd
              rw [List.map_append] at nd
              have h1 := (List.nodup_append.mp nd).2.2 qq.1 (List.mem_map.mpr ⟨(qq.1, y), look_mem hh, rfl⟩) qq.1 (by simp)
              exact absurd rfl h1
          have gd : DGet H2 p3 (.int qq.1) (some (.str qq.2)) := dget_key (l.rd s3) DW hq
          have lz := DW.lt _ (List.mem_of_getElem? hq)
          have stepF : ∀ j, (look (mp.take (i + 1)) j).bind (fun z => if joinN N1 P1 N2 k1 j = some z then none else some z) = if qq.1 = j then (if joinN N1 P1 N2 k1 j = some qq.2 then none else some qq.2) else (look (mp.take i) j).bind (fun z => if joinN N1 P1 N2 k1 j = some z then none else some z) := fun j => by
            rw [take_succ' hq, look_snoc nd]
            by_cases ej : qq.1 = j
            · rw [if_pos ej, if_pos ej]
              rfl
            · rw [if_neg ej, if_neg ej]
          refine ⟨rfl, ?_⟩
          refine ⟨_, rfl, p1, rfl, isd_of (l.rd s1), _, rfl, _, dget_of (l.rd s1) DN qq.1, ?_⟩
          rw [getD_str]
          refine ⟨_, rfl, _, rfl, p3, _, rfl, gd, scal_str _ _, _, rfl, ?_⟩
          refine ifND (fun ne => ?_) fun eq => ?_
          · have ne' : joinN N1 P1 N2 k1 qq.1 ≠ some qq.2 := fun z => ne (by rw [z]; rfl)
            refine ⟨_, rfl, _, rfl, _, rfl, p3, _, rfl, gd, (by show 2 ≤ sizeLine; decide), fun tt htt => ?_⟩
            have hM2 : ∀ o, (upd H2 tt o) D = some (.lst (ps.map V.ref)) := fun o => by rw [upd_ne (ne_of_none hDl htt)]; exact hDl
            have tD : tt ≠ D := fun z => by rw [z, hDl] at htt; cases htt
            refine ⟨_, hM2 _, ?_, (l.new htt).put hD0, ps ++ [tt], mi2 ++ [qq], ?_, ?_, ?_, ?_⟩
            · rw [List.length_map, hps.length, tk_length]
              exact big_line (by omega)
            · rw [upd_same, List.map_append]
              rfl
            · unfold tk
              rw [List.map_append]
              refine Paired.snoc (L2.Paired.mapP hps fun a b h => ?_) ?_
              · rw [upd_ne (fun z => by rw [z, hDl] at h; cases h), upd_ne (ne_of_none h htt)]
                exact h
              · rw [upd_ne tD]
                exact upd_same
            · have hnk : qq.1 ∉ keys mi2 := fun z => by
                rw [mem_keys, dM.lk, lkn] at z
                exact z rfl
              have := (dM.put (i := qq.1) lz)
              rw [putM_new hnk] at this
              refine this.congr fun j => ?_
              rw [stepF]
              by_cases ej : qq.1 = j
              · subst ej
                rw [if_pos rfl, if_pos rfl, if_neg ne']
              · rw [if_neg ej, if_neg ej]
            · rw [List.length_append]
              show _ + 1 ≤ _
              omega
          · have eq' : joinN N1 P1 N2 k1 qq.1 = some qq.2 := by
              injection eq with eq
              cases hj : joinN N1 P1 N2 k1 qq.1 with
              | none =>
                rw [hj] at eq
                exact absurd eq (let_ne lz)
              | some y =>
                rw [hj] at eq
                exact congrArg some eq
            refine ⟨l, ps, mi2, hDl, hps, dM.congr fun j => ?_, Nat.le_succ_of_le lM⟩
            rw [stepF]
            by_cases ej : qq.1 = j
            · subst ej
              rw [if_pos rfl, if_pos eq', lkn]
              rfl
            · rw [if_neg ej]
        · rintro Hc ⟨l, ps, mi2, hDl, hps, dM, lM⟩
          rw [tk_length, List.take_length] at dM
          rw [tk_length] at lM
          refine ⟨l.at_, ?_⟩
          have eL : Ext H9 (upd Hc p3 (.dK (tk mp))) := l.back
          have D3p : D ≠ p3 := l.ne hD0
          have hDl2 : (upd Hc p3 (.dK (tk mp))) D = some (.lst (ps.map V.ref)) := (upd_ne D3p).trans hDl
          refine ⟨D, ps, tk mi2, rfl, SqL.of hDl2, L2.Paired.mapP hps (fun a b h => SqT.of ((upd_ne (fun z => by rw [z, l.at_] at h; cases h)).trans h)), fun q2 hq2 => ?_⟩
          have eQ := Ext.upd (o := .dK (mergeK [] (tk mi2))) hq2
          have E9 := (E8.trans eL).trans eQ
          refine ⟨_, rfl, _, rfl, _, rfl, o1, _, _, _, rfl, rfl, SqL.of (E9 _ _ h1), atI_nat (j := 2) rfl, _, rfl, o2, _, _, _, rfl, rfl, SqL.of (E9 _ _ h2), atI_nat (j := 2) rfl, _, _, rfl, rfl, (by show 3 ≤ sizeLine; decide), fun r hr2 => ?_⟩
          have eR := Ext.upd (o := .lst [V.ref p1, V.ref q2, V.int (k1 + k2)]) hr2
          have hm : mergeK [] (tk mi2) = tk (mergeM [] mi2) := merge_tk (a := []) (by simp [keys]) mi2
          refine q r p1 q2 _ (E9.trans eR) upd_same ⟨mi, eR _ _ (eQ _ _ (eL _ _ s1)), DN, by omega⟩ ⟨mergeM [] mi2, ?_, ?_, ?_⟩ (E9.none hr2)
          · rw [← hm]
            exact eR _ _ upd_same
          · refine (Dct.nil.merge dM).congr fun j => ?_
            unfold joinP
            rw [DW.lk]
            cases (joinW P1 P2 k1 j).bind fun z => if joinN N1 P1 N2 k1 j = some z then none else some z <;> rfl
          · have := length_merge [] mi2
            show (mergeM [] mi2).length ≤ _
            have h0 : ([] : M).length = 0 := rfl
            omega
end
end Tp
/-! part K23 -/
set_option Elab.async false
set_option linter.all false
set_option maxRecDepth 100000
set_option maxHeartbeats 4000000
/-! the law's defs, part 6: _law_whole_right, _law_follows -/
namespace Tp
open PySem PySem.Spec PyProof.Rows L2
/-! ### mathematics -/
theorem left_none {s : Bs} {j : Int} : s.left j = none ↔ s.W j = none ∨ ∃ z, s.W j = some z ∧ s.N j = some z := by
  unfold Bs.left
  cases h : s.W j with
  | none => exact ⟨fun _ => .inl rfl, fun _ => rfl⟩
  | some z =>
    show (if s.N j = some z then none else some z) = none ↔ _
    by_cases c : s.N j = some z
    · rw [if_pos c]
      exact ⟨fun _ => .inr ⟨z, rfl, c⟩, fun _ => rfl⟩
    · rw [if_neg c]
      exact ⟨fun e => (by cases e), fun e => by
        rcases e with e | ⟨y, e1, e2⟩
        · cases e
        · cases e1
          exact absurd e2 c⟩
theorem joinK_build {s : Bs} (d : s.Dom) (j : Int) : joinK s.N s.left j = none ↔ s.K j = none := by
  rw [joinK_none, d j, left_none]
  constructor
  · rintro ⟨h1 | ⟨z, h1, h2⟩, h3⟩
    · exact ⟨h1, h3⟩
    · rw [h2] at h3
      cases h3
  · rintro ⟨h1, h2⟩
    exact ⟨.inl h1, h2⟩
theorem joinN_build {s : Bs} (d : s.Dom) (e : Eff) (j : Int) : joinN s.N s.left e.N s.off j = (s.add e).N j := by
  show joinN s.N s.left e.N s.off j = if s.K j = none then e.N (j - s.off) else s.N j
  unfold joinN
  cases h : joinK s.N s.left j with
  | none => rw [if_pos ((joinK_build d j).mp h)]
  | some z => rw [if_neg (fun c => by rw [(joinK_build d j).mpr c] at h; cases h)]
theorem joinP_build {s : Bs} (d : s.Dom) (e : Eff) (j : Int) : joinP s.N s.left e.N e.P s.off j = (s.add e).left j := by
  unfold joinP
  rw [joinN_build d e j]
  show _ = ((e.P (j - s.off)).or (s.W j)).bind fun z => if (s.add e).N j = some z then none else some z
  unfold joinW
  cases hp : e.P (j - s.off) with
  | some y => rfl
  | none =>
    show (s.left j).bind _ = (s.W j).bind _
    cases hw : s.W j with
    | none =>
      have : s.left j = none := left_none.mpr (.inl hw)
      rw [this]
    | some z =>
      by_cases c : s.N j = some z
      · have : s.left j = none := left_none.mpr (.inr ⟨z, hw, c⟩)
        rw [this]
        have hk : s.K j ≠ none := fun k => by
          have := (d j).mp k
          rw [c] at this
          cases this.2
        show none = if (if s.K j = none then e.N (j - s.off) else s.N j) = some z then none else some z
        rw [if_neg hk, if_pos c]
      · have : s.left j = some z := by
          unfold Bs.left
          rw [hw]
          exact if_neg c
        rw [this]
/-! ### what is seen to be equal -/
theorem tapeEq_mon {K : PySem.W.Frag} (a b : Addr) (H H' : Hp) (e : Ext H H') (h : TapeEq K a b H) : TapeEq K a b H' := let ⟨z, t, n, m, h1, h2⟩ := h; ⟨z, t, n, m, h1.ext e, h2.ext e⟩
theorem effEq_mon {K : PySem.W.Frag} (a b : Addr) (H H' : Hp) (e : Ext H H') (h : EffEq K a b H) : EffEq K a b H' := let ⟨z, n, m, h1, h2⟩ := h; ⟨z, n, m, h1.ext e, h2.ext e⟩
def DTp (K : PySem.W.Frag) : Eqv := DIns (He.ga K "Tape") (TapeEq K)
def DEf (K : PySem.W.Frag) : Eqv := DIns (He.ga K "Effect") (EffEq K)
def DTI (K : PySem.W.Frag) : Eqv := fun x y H => DTp K x y H ∨ DFlat x y H
def D3 (K : PySem.W.Frag) : Eqv := fun x y H => DTI K x y H ∨ DList (DEf K) x y H
def DDI : Eqv := fun x y H => DDict x y H ∨ DFlat x y H
theorem mon_DTp {K : PySem.W.Frag} : Mon (DTp K) := mon_ins tapeEq_mon
theorem mon_DEf {K : PySem.W.Frag} : Mon (DEf K) := mon_ins effEq_mon
theorem mon_DTI {K : PySem.W.Frag} : Mon (DTI K) := mon_DTp.or mon_flat
theorem mon_D3 {K : PySem.W.Frag} : Mon (D3 K) := mon_DTI.or (mon_list mon_DEf)
theorem mon_DDI : Mon DDI := mon_dict.or mon_flat
section
variable {X : Cx}
theorem rcG_ef (T : Txt X.K X.mg) : RcG X 1 (DEf X.K) := rcG_insR (E := E0) (k_Effect_eq T) T.m_Effect_eq.at_ T.m_Effect_eq.fn pass0
theorem eqG_ef (T : Txt X.K X.mg) : EqG X 1 (DEf X.K) := eqG_insR (E := E0) (k_Effect_eq T) T.m_Effect_eq.at_ T.m_Effect_eq.fn pass0
theorem eqG_tp (T : Txt X.K X.mg) : EqG X 1 (DTp X.K) := eqG_insR (E := E0) (k_Tape_eq T) T.m_Tape_eq.at_ T.m_Tape_eq.fn pass0
theorem eqG_ti (T : Txt X.K X.mg) : EqG X 1 (DTI X.K) := (eqG_tp T).or (eqG_flat.mono (Nat.zero_le _))
theorem eqG_3 (T : Txt X.K X.mg) : EqG X 2 (D3 X.K) := ((eqG_ti T).mono (by decide)).or (eqG_list mon_DEf (eqG_ef T))
theorem eqG_di : EqG X 0 DDI := eqG_dict.or eqG_flat
theorem rcG_til (T : Txt X.K X.mg) : RcG X 2 (DList (DTI X.K)) := rcG_list mon_DTI (eqG_ti T)
theorem rcG_efl (T : Txt X.K X.mg) : RcG X 2 (DList (DEf X.K)) := rcG_list mon_DEf (eqG_ef T)
theorem rcG_dil : RcG X 1 (DList DDI) := rcG_list mon_DDI eqG_di
theorem ncG_3l (T : Txt X.K X.mg) : NcG X 3 (DList (D3 X.K)) := ncG_list mon_D3 (eqG_3 T)
theorem ncG_til (T : Txt X.K X.mg) : NcG X 2 (DList (DTI X.K)) := ncG_list mon_DTI (eqG_ti T)
theorem ncG_tit (T : Txt X.K X.mg) : NcG X 2 (DTup X.K (DTI X.K)) := ncG_tup mon_DTI (eqG_ti T)
end
theorem dtp_of {K : PySem.W.Frag} {H : Hp} {a b : Addr} {z : Str} {t : Int → Str} {n m : Nat} (h1 : TapeAt K H a z t n) (h2 : TapeAt K H b z t m) : DTp K (.ref a) (.ref b) H :=
  let ⟨dx, _, _, g1, _⟩ := id h1
  let ⟨dy, _, _, k1, _⟩ := id h2
  ⟨a, b, dx, dy, _, _, rfl, rfl, g1, k1, z, t, n, m, h1, h2⟩
theorem def_of {K : PySem.W.Frag} {H : Hp} {a b : Addr} {e : Eff} {n m : Nat} (h1 : EffAt K H a e n) (h2 : EffAt K H b e m) : DEf K (.ref a) (.ref b) H :=
  let ⟨dx, _, _, _, _, g1, _⟩ := id h1
  let ⟨dy, _, _, _, _, k1, _⟩ := id h2
  ⟨a, b, dx, dy, _, _, rfl, rfl, g1, k1, e, n, m, h1, h2⟩
theorem dint (K : PySem.W.Frag) (H : Hp) (i : Int) : DTI K (.int i) (.int i) H := .inr ⟨rfl, rfl, by show (i == i) = true; simp⟩
theorem effs_prs {K : PySem.W.Frag} {H : Hp} {vs ws : List V} {es : List Eff} {n m : Nat} (h1 : EffsAt K H vs es n) (h2 : EffsAt K H ws es m) : Prs (DEf K) vs ws H := ⟨h1.1.trans h2.1.symm, fun i x y hx hy => by
  obtain ⟨e, he, a, rfl, ha⟩ := h1.get hx
  obtain ⟨b, rfl, hb⟩ := h2.2 i y e hy he
  exact def_of ha hb⟩
section
variable {P : Program} {w : World} {K : PySem.W.Frag} {mg : Str → Option Value} {base : Heap}
def sp_law_whole_right (K : PySem.W.Frag) : Sp := fun vs H Q _ => ∃ (sa : Addr) (s : Sa) (st : Sn) (nT ne : Nat), vs = [.ref sa] ∧ SessAt K H sa s st nT ne ∧ st.hist.length ≤ 200 ∧ ∀ H', Ext H H' → Q (.bl true) H'
theorem sc_law_whole_right : FnScope ["_law_session", "_law_due", "_law_whole", "_law_one"] ["_law_session"] (defScope s_law_whole_right) := ⟨rfl, rfl, rfl, by decide +kernel, rfl, by decide +kernel, by decide +kernel⟩
theorem k_law_whole_right (T : Txt K mg) : FnR P w K mg base CX0 9 (He.ga K "_law_whole_right") (sp_law_whole_right K) := by
  obtain ⟨fd, F⟩ := T.f_law_whole_right
  refine (fun (G : FnOk P w K mg base CX0 9 _ fd _ (sp_law_whole_right K)) => ?_) (F.ok sc_law_whole_right (fun vs H Q E h => by obtain ⟨_, _, _, _, _, rfl, _⟩ := h; rfl) (fun cdv A outer s H vs Q E hr h => ?_))
  · exact (G.raw (F.bindsN fun _ _ _ _ _ _ us hl => match us, hl with | [_], _ => rfl) .nil).imp fun vs H Q E h => by rw [List.append_nil]; exact h
  · have hu := hu_of hr
    have hu0 : (A.deeper (envOfC _ _ s.heap.objs.size _ cdv)).units < cLine := Nat.lt_of_succ_lt hu
    refine ⟨_, PSs.nox (pss_cons (ps_par (i := 1) (j := 2) rfl sc_law_whole_right.nd rfl rfl (by decide) rfl rfl (pa_cons (pe_lst (pa_cons pe_dnewK (pa_cons pe_dnewK (pa_cons pe_int pa_nil)))) (pa_cons (pe_mR0 (pv 0) T.c_Session T.m_Session_total_effect (k_Session_total_effect T) (hr.mono (by decide)) pass0) pa_nil)) rfl)
  (pss_cons (ps_for PassesOwn.never rfl (pi_list (pe_mR0 (pv 0) T.c_Session T.m_Session_history (k_Session_history T) (hr.mono (by decide)) pass0)) (pg_name (i := 3) sc_law_whole_right.nd rfl (Or.inl rfl)) (pss_one (ps_set (i := 1) sc_law_whole_right.nd rfl (Or.inl rfl) (pe_cR (k_law_joined T) (hr.mono (by decide)) (by rfl) T.g_law_joined T.kp_law_joined pass0 (pa_cons (pv 1) (pa_cons (pe_lst (pa_cons (pe_propR (pv 3) T.c_Effect T.p_Effect_expected (k_Effect_expected T) (hr.mono (by decide)) pass0) (pa_cons (pe_propR (pv 3) T.c_Effect T.p_Effect_changed (k_Effect_changed T) (hr.mono (by decide)) pass0) (pa_cons (pe_propR (pv 3) T.c_Effect T.p_Effect_shift (k_Effect_shift T) (hr.mono (by decide)) pass0) pa_nil)))) pa_nil))))))
  (pss_one (ps_ret (pe_cmpR (op_eqG rcG_dil (hr.mono (by decide))) (pe_lst (pa_cons (pe_propR (pv 2) T.c_Effect T.p_Effect_expected (k_Effect_expected T) (hr.mono (by decide)) pass0) (pa_cons (pe_propR (pv 2) T.c_Effect T.p_Effect_changed (k_Effect_changed T) (hr.mono (by decide)) pass0) (pa_cons (pe_propR (pv 2) T.c_Effect T.p_Effect_shift (k_Effect_shift T) (hr.mono (by decide)) pass0) pa_nil)))) (pv 1) (nomark _)))))), ?_⟩
    obtain ⟨sa, s0, st, nT, ne, rfl, x, hn, q⟩ := h
    have hB : BIG = 1000000 := rfl
    obtain ⟨dx, hsa⟩ := x.at_
    intro d1 n1 d2 n2
    refine ⟨(by show 3 ≤ sizeLine; decide), fun L nL => ?_⟩
    have E3 := ((Ext.upd (o := .dK []) n1).trans (Ext.upd (o := .dK []) n2)).trans (Ext.upd (o := .lst [V.ref d1, V.ref d2, V.int 0]) nL)
    have g1 := Ext.upd (o := .lst [V.ref d1, V.ref d2, V.int 0]) nL _ _ (Ext.upd (o := .dK []) n2 _ _ (upd_same (H := H) (a := d1) (o := .dK [])))
    have g2 := Ext.upd (o := .lst [V.ref d1, V.ref d2, V.int 0]) nL _ _ (upd_same (H := upd H d1 (.dK [])) (a := d2) (o := .dK []))
    have g3 : (upd (upd (upd H d1 (.dK [])) d2 (.dK [])) L (.lst [V.ref d1, V.ref d2, V.int 0])) L = _ := upd_same
    generalize upd (upd (upd H d1 (.dK [])) d2 (.dK [])) L (.lst [V.ref d1, V.ref d2, V.int 0]) = H1 at E3 g1 g2 g3 ⊢
    have x1 := x.ext E3
    refine ⟨_, rfl, sa, dx, _, rfl, E3 _ _ hsa, seF_total _ _ _ _ _ _ _, sa, s0, st, nT, ne, rfl, x1, hn, fun p H2 e2 hw np => ?_⟩
    refine ⟨_, _, rfl, ?_⟩
    have x2 := x1.ext e2
    refine ⟨_, rfl, sa, dx, _, rfl, e2 _ _ (E3 _ _ hsa), seF_history _ _ _ _ _ _ _, sa, s0, st, nT, ne, rfl, x2, fun hl evs hh hev nh => ?_⟩
    have e3 : Ext H2 (upd H2 hl (.lst evs)) := Ext.upd nh
    have hev3 := (hev.ext cut_sub).ext e3
    have hl3 : (upd H2 hl (.lst evs)) hl = some (.lst evs) := upd_same
    have E4 := (E3.trans e2).trans e3
    have e13 := e2.trans e3
    have hw3 := hw.ext e3
    generalize upd H2 hl (.lst evs) = H3 at e3 hev3 hl3 E4 e13 hw3 ⊢
    refine ⟨hl, rfl, ⟨evs, SqL.of hl3⟩, for_it (walk_list (xs := evs)) (fun i σ Hc => ∃ v3 Li a1 a2, σ = [some (.ref sa), some (.ref Li), some (.ref p), v3] ∧ Ext H3 Hc ∧ Hc Li = some (.lst [.ref a1, .ref a2, .int (build (st.hist.take i)).off]) ∧ DAt Hc a1 (build (st.hist.take i)).N (1000 * i) ∧ DAt Hc a2 (build (st.hist.take i)).left (1000 * i))
      ⟨none, L, d1, d2, rfl, fun _ _ h => h, e13 _ _ g3, ⟨[], e13 _ _ g1, Dct.nil, Nat.le_refl _⟩, ⟨[], e13 _ _ g2, Dct.nil, Nat.le_refl _⟩⟩ (fun i σ Hc _ ⟨_, _, _, _, _, e, _⟩ => SqL.of (e _ _ hl3)) ?_ ?_⟩
    · rintro i v σ Hc H4 hi ⟨v3, Li, a1, a2, rfl, ec, hLi, hN, hP⟩ ⟨rfl, hv⟩
      obtain ⟨e, he, a, rfl, ha0⟩ := hev3.get hv
      have ha := ha0.ext ec
      obtain ⟨dxa, dn, dp, mn, mp, k1, k2, k3, k4, k5, k6, k7, k8⟩ := id ha
      refine ⟨_, rfl, _, rfl, a, dxa, _, rfl, k1, a, e, 1000, rfl, ha, fun q1 m1 D1 l1 nq1 => ?_⟩
      have u1 := Ext.upd (o := .dK (tk m1)) nq1
      refine ⟨_, rfl, a, dxa, _, rfl, u1 _ _ k1, a, e, 1000, rfl, ha.ext u1, fun q2 m2 D2 l2 nq2 => ?_⟩
      have u2 := Ext.upd (o := .dK (tk m2)) nq2
      refine ⟨_, rfl, a, dxa, _, rfl, u2 _ _ (u1 _ _ k1), a, e, 1000, rfl, (ha.ext u1).ext u2, (by show 3 ≤ sizeLine; decide), fun o2 no2 => ?_⟩
      have u3 := Ext.upd (o := .lst [V.ref q1, V.ref q2, V.int e.mv]) no2
      have u := (u1.trans u2).trans u3
      have hi2 : i < st.hist.length := by rw [← hev3.1]; exact hi
      refine ⟨Li, o2, a1, a2, q1, q2, _, _, e.N, e.P, _, e.mv, 1000 * i, 1000, rfl, u _ _ hLi, upd_same, hN.ext u, hP.ext u, ⟨m1, u3 _ _ (u2 _ _ upd_same), D1, l1⟩, ⟨m2, u3 _ _ upd_same, D2, l2⟩, by omega, fun r b1 b2 H5 e5 hr5 hb1 hb2 nr => ?_⟩
      have hd := build_dom (st.hist.take i)
      refine ⟨_, r, b1, b2, rfl, ec.trans (u.trans e5), ?_, ?_, ?_⟩
      · rw [take_succ' he, build_snoc]
        exact hr5
      · rw [take_succ' he, build_snoc]
        obtain ⟨m', w1, w2, w3⟩ := hb1
        exact ⟨m', w1, w2.congr (joinN_build hd e), by omega⟩
      · rw [take_succ' he, build_snoc]
        obtain ⟨m', w1, w2, w3⟩ := hb2
        exact ⟨m', w1, w2.congr (joinP_build hd e), by omega⟩
    · rintro σ Hc ⟨v3, Li, a1, a2, rfl, ec, hLi, hN, hP⟩
      rw [hev3.1, List.take_length] at hLi hN hP
      have hp := hw3.ext ec
      obtain ⟨dxa, dn, dp, mn, mp, k1, k2, k3, k4, k5, k6, k7, k8⟩ := id hp
      refine ⟨_, rfl, p, dxa, _, rfl, k1, p, _, 400000, rfl, hp, fun q1 m1 D1 l1 nq1 => ?_⟩
      have u1 := Ext.upd (o := .dK (tk m1)) nq1
      refine ⟨_, rfl, p, dxa, _, rfl, u1 _ _ k1, p, _, 400000, rfl, hp.ext u1, fun q2 m2 D2 l2 nq2 => ?_⟩
      have u2 := Ext.upd (o := .dK (tk m2)) nq2
      refine ⟨_, rfl, p, dxa, _, rfl, u2 _ _ (u1 _ _ k1), p, _, 400000, rfl, (hp.ext u1).ext u2, (by show 3 ≤ sizeLine; decide), fun o2 no2 => ?_⟩
      have u3 := Ext.upd (o := .lst [V.ref q1, V.ref q2, V.int (build st.hist).eff.mv]) no2
      have u := (u1.trans u2).trans u3
      obtain ⟨mN, w1, w2, w3⟩ := hN.ext u
      obtain ⟨mP, y1, y2, y3⟩ := hP.ext u
      refine ⟨_, rfl, ⟨o2, Li, _, _, rfl, rfl, upd_same, u _ _ hLi, Prs.cons (.inl (ddict_of (u3 _ _ (u2 _ _ upd_same)) w1 D1 w2)) (.cons (.inl (ddict_of (u3 _ _ upd_same) y1 D2 y2)) (.cons (.inr ⟨rfl, rfl, ?_⟩) .nil))⟩, fun H6 e6 => q H6 ((E4.trans ec).trans (u.trans e6))⟩
      show ((build st.hist).off == (build st.hist).off) = true
      simp
end
end Tp
/-! part K24 -/
set_option Elab.async false
set_option linter.all false
set_option maxRecDepth 100000
set_option maxHeartbeats 4000000
/-! the law's defs, part 7: _law_follows -/
namespace Tp
open PySem PySem.Spec PyProof.Rows L2
theorem runE_take {es : List Eff} {i : Nat} {e : Eff} (h : es[i]? = some e) (p : Pl) : runE (es.take (i + 1)) p = ap e (runE (es.take i) p) := by rw [take_succ' h, runE_snoc]
theorem okE_fits {p : Pl} {es : List Eff} (h : OkE es p) {i : Nat} {e : Eff} (he : es[i]? = some e) : Fits e (runE (es.take i) p).1 (runE (es.take i) p).2 := by
  have h0 : es = es.take i ++ es.drop i := (List.take_append_drop i es).symm
  have h1 : es.drop i = e :: es.drop (i + 1) := by
    obtain ⟨w, v⟩ := List.getElem?_eq_some_iff.mp he
    rw [← v]
    exact List.drop_eq_getElem_cons w
  rw [h0, h1] at h
  exact ((okE_append _ _ p).mp h).2.1
section
variable {P : Program} {w : World} {K : PySem.W.Frag} {mg : Str → Option Value} {base : Heap}
def sp_law_follows (K : PySem.W.Frag) : Sp := fun vs H Q _ => ∃ (sa c : Addr) (s : Sa) (st : Sn) (nT ne n0 : Nat), vs = [.ref sa, .ref c, .int st.p0.2] ∧ SessAt K H sa s st nT ne ∧ TapeAt K H c st.b st.p0.1 n0 ∧ st.hist.length ≤ 200 ∧ n0 ≤ 100 ∧ ∀ H', Ext H H' → Q (.bl true) H'
theorem sc_law_follows : FnScope ["_law_session", "_law_first", "_law_place", "_law_found", "_law_whole", "_law_one"] ["_law_session", "_law_first", "_law_place"] (defScope s_law_follows) := ⟨rfl, rfl, rfl, by decide +kernel, rfl, by decide +kernel, by decide +kernel⟩
theorem k_law_follows (T : Txt K mg) : FnR P w K mg base CX0 9 (He.ga K "_law_follows") (sp_law_follows K) := by
  obtain ⟨fd, F⟩ := T.f_law_follows
  refine (fun (G : FnOk P w K mg base CX0 9 _ fd _ (sp_law_follows K)) => ?_) (F.ok sc_law_follows (fun vs H Q E h => by obtain ⟨_, _, _, _, _, _, _, rfl, _⟩ := h; rfl) (fun cdv A outer s H vs Q E hr h => ?_))
  · exact (G.raw (F.bindsN fun _ _ _ _ _ _ us hl => match us, hl with | [_, _, _], _ => rfl) .nil).imp fun vs H Q E h => by rw [List.append_nil]; exact h
  · have hu := hu_of hr
    have hu0 : (A.deeper (envOfC _ _ s.heap.objs.size _ cdv)).units < cLine := Nat.lt_of_succ_lt hu
    refine ⟨_, PSs.nox (pss_cons (ps_set (i := 3) sc_law_follows.nd rfl (Or.inl rfl) (pe_mR0 (pv 0) T.c_Session T.m_Session_history (k_Session_history T) (hr.mono (by decide)) pass0))
  (pss_cons (ps_set (i := 4) sc_law_follows.nd rfl (Or.inl rfl) (pe_mR0 (pv 0) T.c_Session T.m_Session_total_effect (k_Session_total_effect T) (hr.mono (by decide)) pass0))
  (pss_cons (ps_if (PW.pt (pw_or (pt_cmpR op_ne (pe_callB call_len_seq (by rfl) T.n_len (by decide +kernel) (pa_cons (pv 3) pa_nil)) (pe_callB (cr_lenOwn (k_Session_len T) (hr.mono (by decide)) T.m_Session_len.at_ T.m_Session_len.fn) (by rfl) T.n_len (by decide +kernel) (pa_cons (pv 0) pa_nil)) (nomark _)) (pw_or (pt_not (pt_cmpR (op_eqG (rcG_ef T) (hr.mono (by decide))) (pv 4) (pe_cR (k_compose T) (hr.mono (by decide)) (by rfl) T.g_compose T.kp_compose pass0 (pa_cons (pv 4) pa_nil)) (nomark _))) (pw_or1 (pt_cmpR op_isN (pv 4) pe_non (nomark _)))))) (pss_one (ps_ret pe_bl)) pss_nil)
  (pss_cons (ps_for PassesOwn.never rfl (pi_list (pv 3)) (pg_name (i := 5) sc_law_follows.nd rfl (Or.inl rfl)) (pss_one (ps_asg (pe_mM (pv 5) T.c_Effect T.m_Effect_apply (k_Effect_apply T) (hr.mono (by decide)) pass0 (pa_cons (pv 1) pa_nil) (pk_cons (pv 2) pk_nil)) (pg_tup rfl (pgs_cons (pg_name (i := 1) sc_law_follows.nd rfl (Or.inl rfl)) (pgs_cons (pg_name (i := 2) sc_law_follows.nd rfl (Or.inl rfl)) pgs_nil))))))
  (pss_one (ps_ret (pe_cmpR (op_eqG (rcG_til T) (hr.mono (by decide))) (pe_lst (pa_cons (pv 1) (pa_cons (pv 2) pa_nil))) (pe_lst (pa_cons (pe_propR (pv 0) T.c_Session T.p_Session_tape (k_Session_tape T) (hr.mono (by decide)) pass0) (pa_cons (pe_propR (pv 0) T.c_Session T.p_Session_head (k_Session_head T) (hr.mono (by decide)) pass0) pa_nil))) (nomark _)))))))), ?_⟩
    obtain ⟨sa, c, s0, st, nT, ne, n0, rfl, x, ht, hn, hn0, q⟩ := h
    have hB : BIG = 1000000 := rfl
    obtain ⟨dx, hsa⟩ := x.at_
    refine ⟨_, rfl, sa, dx, _, rfl, hsa, seF_history _ _ _ _ _ _ _, sa, s0, st, nT, ne, rfl, x, fun hl evs hh hev nh => ?_⟩
    have e1 : Ext H (upd H hl (.lst evs)) := Ext.upd nh
    have hl1 : (upd H hl (.lst evs)) hl = some (.lst evs) := upd_same
    have hev1 := (hev.ext cut_sub).ext e1
    generalize upd H hl (.lst evs) = H1 at e1 hl1 hev1 ⊢
    have x1 := x.ext e1
    refine ⟨_, rfl, sa, dx, _, rfl, e1 _ _ hsa, seF_total _ _ _ _ _ _ _, sa, s0, st, nT, ne, rfl, x1, hn, fun p H2 e2 hw np => ?_⟩
    have e12 := e1.trans e2
    have hll : ((evs.length : Nat) : Int) = st.hist.length := by rw [hev1.1]
    obtain ⟨dw, dn, dp, mn, mp, k1, k2, k3, k4, k5, k6, k7, k8⟩ := id hw
    refine ⟨_, rfl, hl, evs, rfl, .inl (SqL.of (e2 _ _ hl1)), _, rfl, sa, dx, _, rfl, e12 _ _ hsa, sa, s0, st, nT, ne, rfl, x1.ext e2, st.hist.length, rfl, by omega, rfl, _, rfl, ?_⟩
    refine ifND (fun z => absurd (by rw [hev1.1]) z) fun _ => ?_
    refine ⟨_, rfl, _, rfl, [(build st.hist).eff], 400000, All2.one ⟨p, rfl, hw⟩, (by show 1 ≤ BIG; decide), Okb.one _, (by show 1 * 800000 < 1000000; decide), fun p2 H3 e3 hw2 np2 => ?_⟩
    rw [build_one k8] at hw2
    refine ⟨def_of (hw.ext e3) hw2, fun H4 e4 => ⟨true, rfl, ifF ?_⟩⟩
    refine ⟨_, rfl, rfl, _, rfl, ifF ?_⟩
    have e24 := e3.trans e4
    have E4 := e12.trans e24
    have hev4 := (hev1.ext e2).ext e24
    have hl4 := e24 _ _ (e2 _ _ hl1)
    have x4 := x.ext E4
    have ht4 := ht.ext E4
    obtain ⟨evs', pvs, uvs, xs, _, _, _, _, _, C⟩ := x4.ls
    have ho := ((okE_append st.hist st.und st.p0).mp C.ok).1
    refine ⟨_, rfl, hl, rfl, ⟨evs, SqL.of hl4⟩, for_it (walk_list (xs := evs)) (fun i σ Hc => ∃ v5 ci, σ = [some (.ref sa), some (.ref ci), some (.int (runE (st.hist.take i) st.p0).2), some (.ref hl), some (.ref p), v5] ∧ Ext H4 Hc ∧ TapeAt K Hc ci st.b (runE (st.hist.take i) st.p0).1 (n0 + 1000 * i))
      ⟨none, c, rfl, fun _ _ h => h, ht4⟩ (fun i σ Hc _ ⟨_, _, _, e, _⟩ => SqL.of (e _ _ hl4)) ?_ ?_⟩
    · rintro i v σ Hc H5 hi ⟨v5, ci, rfl, ec, hci⟩ ⟨rfl, hv⟩
      obtain ⟨e, he, a, rfl, ha0⟩ := hev4.get hv
      have ha := ha0.ext ec
      obtain ⟨dxa, dna, dpa, mna, mpa, a1, a2, a3, a4⟩ := id ha
      have hi2 : i < st.hist.length := by rw [← hev4.1]; exact hi
      refine ⟨_, rfl, a, dxa, _, rfl, a1, eF_6 _ _ _, _, rfl, _, rfl, rfl, rfl, a, ci, _, e, 1000, st.b, _, n0 + 1000 * i, rfl, ha, hci, okE_fits ho he, by omega, fun r H6 e6 hpl nr => ?_⟩
      obtain ⟨c2, hr0, hc2⟩ := hpl
      refine ⟨r, _, rfl, SqT.of hr0, rfl, _, _, rfl, _, _, rfl, rfl, ?_⟩
      refine ⟨some (.ref a), c2, ?_, ec.trans e6, ?_⟩
      · rw [runE_take he]
        rfl
      · rw [runE_take he]
        exact hc2.le (by omega)
    · rintro σ Hc ⟨v5, ci, rfl, ec, hci⟩
      rw [hev4.1, List.take_length] at hci ⊢
      have x5 := x4.ext ec
      obtain ⟨evs6, pvs6, uvs6, xs6, _, _, _, _, _, C6⟩ := x5.ls
      have htp := C6.tp.ext cut_sub
      have hsa5 := ec _ _ (E4 _ _ hsa)
      refine ⟨_, rfl, _, rfl, (by show 2 ≤ sizeLine; decide), fun l1 m1 => ?_⟩
      have u1 := Ext.upd (o := .lst [V.ref ci, V.int (runE st.hist st.p0).2]) m1
      refine ⟨_, rfl, sa, dx, _, rfl, u1 _ _ hsa5, sa, s0, st, nT, ne, rfl, x5.ext u1, _, rfl, sa, dx, _, rfl, u1 _ _ hsa5, sa, s0, st, nT, ne, rfl, x5.ext u1, (by show 2 ≤ sizeLine; decide), fun l2 m2 => ?_⟩
      have u2 := Ext.upd (o := .lst [V.ref s0.c, V.int st.cur.2]) m2
      have u := u1.trans u2
      exact ⟨⟨l1, l2, _, _, rfl, rfl, u2 _ _ upd_same, upd_same, Prs.cons (.inl (dtp_of (hci.ext u) (htp.ext u))) (.cons (dint K _ _) .nil)⟩, fun H7 e7 => q H7 ((E4.trans ec).trans (u.trans e7))⟩
end
end Tp
/-! part K25 -/
set_option Elab.async false
set_option linter.all false
set_option maxRecDepth 100000
set_option maxHeartbeats 4000000
/-! the law's defs, part 8: _law_unwound -/
namespace Tp
open PySem PySem.Spec PyProof.Rows L2
/-- all places from the first one on -/
def allP (es : List Eff) (p : Pl) : List Pl := plL es p ++ [runE es p]
theorem allP_len (es : List Eff) (p : Pl) : (allP es p).length = es.length + 1 := by
  unfold allP
  rw [List.length_append, plL_len]
  rfl
theorem allP_snoc (es : List Eff) (e : Eff) (p : Pl) : allP (es ++ [e]) p = allP es p ++ [ap e (runE es p)] := by
  unfold allP
  rw [plL_snoc, runE_snoc]
theorem allP_get : ∀ (es : List Eff) (p : Pl) (j : Nat), j ≤ es.length → (allP es p)[j]? = some (runE (es.take j) p)
  | [], p, j, h => by
    have : j = 0 := Nat.le_zero.mp h
    subst this
    rfl
  | e :: r, p, 0, _ => rfl
  | e :: r, p, j + 1, h => allP_get r (ap e p) j (Nat.le_of_succ_le_succ h)
theorem All2.unsnoc {α β : Type} {R : α → β → Prop} {xs : List α} {ys : List β} {y : β} (a : All2 R xs (ys ++ [y])) : ∃ zs z, xs = zs ++ [z] ∧ R z y := by
  have hl : xs.length = ys.length + 1 := by rw [a.1, List.length_append]; rfl
  have hne : xs ≠ [] := fun z => by rw [z] at hl; cases hl
  refine ⟨xs.dropLast, xs.getLast hne, (List.dropLast_concat_getLast hne).symm, a.2 ys.length _ _ ?_ (by simp)⟩
  rw [List.getLast_eq_getElem, ← List.getElem?_eq_getElem]
  congr 1
  omega
theorem ExtBut.toK {d : Addr} {H H' : Hp} {xs : List V} (e : ExtBut d H H') (h : H d = some (.lst xs)) : ExtK H H' := fun b o hb n => e b o (fun z => by
  rw [z, h] at hb
  cases hb
  exact nk_lst n) hb
theorem SessAt.nk {K : PySem.W.Frag} {H : Hp} {a : Addr} {s : Sa} {st : Sn} {nT ne : Nat} (x : SessAt K H a s st nT ne) : ∀ b ∈ s.own a, ∀ o, H b = some o → ¬ NK o := fun b hb o h => by
  obtain ⟨dx, h0⟩ := x.at_
  obtain ⟨evs, pvs, uvs, xs, a1, a2, a3, a4, _⟩ := x.ls
  rcases own_mem.mp hb with z | z | z | z | z <;> subst z
  · rw [h0] at h
    cases h
    exact nk_ses
  · rw [a1] at h
    cases h
    exact nk_lst
  · rw [a2] at h
    cases h
    exact nk_lst
  · rw [a3] at h
    cases h
    exact nk_lst
  · rw [a4] at h
    cases h
    exact nk_lst
theorem SessAt.cutK {K : PySem.W.Frag} {H : Hp} {a : Addr} {s : Sa} {st : Sn} {nT ne : Nat} (x : SessAt K H a s st nT ne) : ExtK H (cut (s.own a) H) := ExtK.cut (fun _ _ h _ => h) x.nk
theorem SessAt.but {K : PySem.W.Frag} {H H' : Hp} {a d : Addr} {s : Sa} {st : Sn} {nT ne : Nat} {xs ys : List V} (x : SessAt K H a s st nT ne) (e : ExtBut d H H') (h : H d = some (.lst xs)) (h' : H' d = some (.lst ys)) (n : d ∉ s.own a) : SessAt K H' a s st nT ne := (x.other h n).ext (ExtBut.to e h')
section
variable {P : Program} [PrgOk P] {w : World} {K : PySem.W.Frag} {mg : Str → Option Value} {base : Heap}
def sp_law_unwound (K : PySem.W.Frag) : Sp := fun vs H Q _ => ∃ (sa c : Addr) (s : Sa) (st : Sn) (nT ne n0 : Nat), vs = [.ref sa, .ref c, .int st.p0.2] ∧ SessAt K H sa s st nT ne ∧ TapeAt K H c st.b st.p0.1 n0 ∧ st.hist.length ≤ 200 ∧ st.und.length ≤ 200 ∧ n0 ≤ 100 ∧ ∀ H', Q (.bl true) H'
theorem sc_law_unwound : FnScope ["_law_session", "_law_first", "_law_place", "_law_places", "_law_one", "_law_kept", "_law_many", "_law_at"] ["_law_session", "_law_first", "_law_place"] (defScope s_law_unwound) := ⟨rfl, rfl, rfl, by decide +kernel, rfl, by decide +kernel, by decide +kernel⟩
theorem k_law_unwound (T : Txt K mg) : FnR P w K mg base CX0 9 (He.ga K "_law_unwound") (sp_law_unwound K) := by
  obtain ⟨fd, F⟩ := T.f_law_unwound
  refine (fun (G : FnOk P w K mg base CX0 9 _ fd _ (sp_law_unwound K)) => ?_) (F.ok sc_law_unwound (fun vs H Q E h => by obtain ⟨_, _, _, _, _, _, _, rfl, _⟩ := h; rfl) (fun cdv A outer s H vs Q E hr h => ?_))
  · exact (G.raw (F.bindsN fun _ _ _ _ _ _ us hl => match us, hl with | [_, _, _], _ => rfl) .nil).imp fun vs H Q E h => by rw [List.append_nil]; exact h
  · have hu := hu_of hr
    have hu0 : (A.deeper (envOfC _ _ s.heap.objs.size _ cdv)).units < cLine := Nat.lt_of_succ_lt hu
    refine ⟨_, PSs.nox (pss_cons (ps_set (i := 3) sc_law_unwound.nd rfl (Or.inl rfl) (pe_lst (pa_cons (pe_tup (pa_cons (pv 1) (pa_cons (pv 2) pa_nil))) pa_nil)))
  (pss_cons (ps_for PassesOwn.never rfl (pi_list (pe_mR0 (pv 0) T.c_Session T.m_Session_history (k_Session_history T) (hr.mono (by decide)) pass0)) (pg_name (i := 4) sc_law_unwound.nd rfl (Or.inl rfl)) (pss_one (ps_expr (pe_bm PySem.F.plainAttrs_list PySem.F.slot_list_append PySem.F.type_list_append mt_append (pv 3) (pa_cons (pe_mM (pv 4) T.c_Effect T.m_Effect_apply (k_Effect_apply T) (hr.mono (by decide)) pass0 (pa_cons (pe_ix ix_tup (pe_ix ix_list (pv 3) (pe_un un_neg pe_int) (fun _ _ => rfl)) pe_int (fun _ _ => rfl)) pa_nil) (pk_cons (pe_ix ix_tup (pe_ix ix_list (pv 3) (pe_un un_neg pe_int) (fun _ _ => rfl)) pe_int (fun _ _ => rfl)) pk_nil)) pa_nil)))))
  (pss_cons (ps_par (i := 5) (j := 6) rfl sc_law_unwound.nd rfl rfl (by decide) rfl rfl (pa_cons (pe_mR0 (pv 0) T.c_Session T.m_Session_history (k_Session_history T) (hr.mono (by decide)) pass0) (pa_cons (pe_callB (cr_lenOwn (k_Session_len T) (hr.mono (by decide)) T.m_Session_len.at_ T.m_Session_len.fn) (by rfl) T.n_len (by decide +kernel) (pa_cons (pv 0) pa_nil)) pa_nil)) rfl)
  (pss_cons (ps_for PassesOwn.never rfl (pi_range1 (by rfl) T.n_range (pa_cons (pv 6) pa_nil)) (pg_name (i := 7) sc_law_unwound.nd rfl (Or.inl rfl)) (pss_one (ps_if (PW.pt (pw_or (pt_cmpR op_ne (pe_mR0 (pv 0) T.c_Session T.m_Session_undo (k_Session_undo (P := P) T) (hr.mono (by decide)) (passes_call takes0 fun _ _ _ _ h => h)) (pe_ix ix_tup (pe_ix ix_list (pv 3) (pe_op op_sub (pe_op op_sub (pv 6) pe_int) (pv 7)) (fun _ _ => rfl)) pe_int (fun _ _ => rfl)) (nomark _)) (pw_or1 (pt_cmpR (op_neG (ncG_ins (E := E0) (k_Tape_eq T) T.m_Tape_eq.at_ T.m_Tape_eq.fn pass0 T.ne_Tape) (hr.mono (by decide))) (pe_propR (pv 0) T.c_Session T.p_Session_tape (k_Session_tape T) (hr.mono (by decide)) pass0) (pe_ix ix_tup (pe_ix ix_list (pv 3) (pe_op op_sub (pe_op op_sub (pv 6) pe_int) (pv 7)) (fun _ _ => rfl)) pe_int (fun _ _ => rfl)) (nomark _))))) (pss_one (ps_ret pe_bl)) pss_nil)))
  (pss_cons (ps_if (pt_cmpR (op_neG (ncG_til T) (hr.mono (by decide))) (pe_lst (pa_cons (pe_propR (pv 0) T.c_Session T.p_Session_tape (k_Session_tape T) (hr.mono (by decide)) pass0) (pa_cons (pe_propR (pv 0) T.c_Session T.p_Session_head (k_Session_head T) (hr.mono (by decide)) pass0) (pa_cons (pe_callB (cr_lenOwn (k_Session_len T) (hr.mono (by decide)) T.m_Session_len.at_ T.m_Session_len.fn) (by rfl) T.n_len (by decide +kernel) (pa_cons (pv 0) pa_nil)) pa_nil)))) (pe_lst (pa_cons (pv 1) (pa_cons (pv 2) (pa_cons pe_int pa_nil)))) (nomark _)) (pss_one (ps_ret pe_bl)) pss_nil)
  (pss_cons (ps_for PassesOwn.never rfl (pi_range1 (by rfl) T.n_range (pa_cons (pv 6) pa_nil)) (pg_name (i := 7) sc_law_unwound.nd rfl (Or.inl rfl)) (pss_one (ps_if (PW.pt (pw_or (pt_cmpR op_ne (pe_mR0 (pv 0) T.c_Session T.m_Session_redo (k_Session_redo (P := P) T) (hr.mono (by decide)) (passes_call takes0 fun _ _ _ _ h => h)) (pe_ix ix_tup (pe_ix ix_list (pv 3) (pe_op op_add (pv 7) pe_int) (fun _ _ => rfl)) pe_int (fun _ _ => rfl)) (nomark _)) (pw_or1 (pt_cmpR (op_neG (ncG_ins (E := E0) (k_Tape_eq T) T.m_Tape_eq.at_ T.m_Tape_eq.fn pass0 T.ne_Tape) (hr.mono (by decide))) (pe_propR (pv 0) T.c_Session T.p_Session_tape (k_Session_tape T) (hr.mono (by decide)) pass0) (pe_ix ix_tup (pe_ix ix_list (pv 3) (pe_op op_add (pv 7) pe_int) (fun _ _ => rfl)) pe_int (fun _ _ => rfl)) (nomark _))))) (pss_one (ps_ret pe_bl)) pss_nil)))
  (pss_one (ps_ret (pe_cmpR (op_eqG (rcG_efl T) (hr.mono (by decide))) (pe_mR0 (pv 0) T.c_Session T.m_Session_history (k_Session_history T) (hr.mono (by decide)) pass0) (pv 5) (nomark _)))))))))), ?_⟩
    obtain ⟨sa, c, s0, st, nT, ne, n0, rfl, x, ht, hn, hu, hn0, q⟩ := h
    have hB : BIG = 1000000 := rfl
    refine ⟨_, rfl, _, rfl, (by show 2 ≤ sizeLine; decide), fun t0 m0 => ⟨(by show 1 ≤ sizeLine; decide), fun PL m1 => ?_⟩⟩
    have e1 : Ext H (upd H t0 (.tup [V.ref c, V.int st.p0.2])) := Ext.upd m0
    have e2 := Ext.upd (o := .lst [V.ref t0]) m1
    have x1 := x.ext e1
    have nPL : PL ∉ s0.own sa := x1.fresh m1
    have x2 := x1.ext e2
    have ht2 := (ht.ext e1).ext e2
    have hP2 : PlV K (upd (upd H t0 (.tup [V.ref c, V.int st.p0.2])) PL (.lst [V.ref t0])) st.b n0 (.ref t0) st.p0 := ⟨t0, rfl, c, e2 _ _ upd_same, ht2⟩
    have hPL2 : (upd (upd H t0 (.tup [V.ref c, V.int st.p0.2])) PL (.lst [V.ref t0])) PL = some (.lst [V.ref t0]) := upd_same
    generalize upd (upd H t0 (.tup [V.ref c, V.int st.p0.2])) PL (.lst [V.ref t0]) = H2 at x2 ht2 hP2 hPL2 ⊢
    clear e1 e2 x1
    obtain ⟨dx2, hsa2⟩ := x2.at_
    refine ⟨_, rfl, sa, dx2, _, rfl, hsa2, seF_history _ _ _ _ _ _ _, sa, s0, st, nT, ne, rfl, x2, fun hl evs hh hev nh => ?_⟩
    have e3 : Ext H2 (upd H2 hl (.lst evs)) := Ext.upd nh
    have hl3 : (upd H2 hl (.lst evs)) hl = some (.lst evs) := upd_same
    have hev3 := (hev.ext cut_sub).ext e3
    have hPL3 := e3 _ _ hPL2
    have lPL : hl ≠ PL := Ne.symm (ne_of_none hPL2 nh)
    have x3 := x2.ext e3
    have ht3 := ht2.ext e3
    have hP3 := hP2.ext e3
    generalize upd H2 hl (.lst evs) = H3 at e3 hl3 hev3 hPL3 x3 ht3 hP3 ⊢
    obtain ⟨evs', pvs', uvs', xs', _, _, _, _, _, C⟩ := x3.ls
    have ho := ((okE_append st.hist st.und st.p0).mp C.ok).1
    refine ⟨hl, rfl, ⟨evs, SqL.of hl3⟩, for_it (walk_list (xs := evs)) (fun i σ Hc => ∃ v4 rs, σ = [some (.ref sa), some (.ref c), some (.int st.p0.2), some (.ref PL), v4, none, none, none] ∧ ExtBut PL H3 Hc ∧ Hc PL = some (.lst rs) ∧ All2 (PlV K Hc st.b (n0 + 1000 * i)) rs (allP (st.hist.take i) st.p0))
      ⟨none, [.ref t0], rfl, fun _ _ _ h => h, hPL3, All2.one hP3⟩ (fun i σ Hc _ ⟨_, _, _, e, _⟩ => SqL.of (e _ _ lPL hl3)) ?_ ?_⟩
    · rintro i v σ Hc H4 hi ⟨v4, rs, rfl, eb, hPc, hpl⟩ ⟨rfl, hv⟩
      obtain ⟨e, he, a, rfl, ha0⟩ := hev3.get hv
      have ha := ha0.extK (eb.toK hPL3)
      obtain ⟨dxa, dna, dpa, mna, mpa, a1, a2, a3, a4⟩ := id ha
      have hi2 : i < st.hist.length := by rw [← hev3.1]; exact hi
      have hlen := hpl.1
      rw [allP_len, List.length_take] at hlen
      obtain ⟨ys, y, rfl, r, rfl, ci, hr0, hci⟩ := All2.unsnoc hpl
      refine ⟨_, rfl, .inl ⟨rfl, _, SqL.of hPc⟩, _, rfl, a, dxa, _, rfl, a1, eF_6 _ _ _, _, rfl, _, rfl, PL, _, _, _, rfl, rfl, SqL.of hPc, atI_last _ _, r, _, _, _, rfl, rfl, SqT.of hr0, atI_nat (j := 0) rfl, _, rfl, _, rfl, PL, _, _, _, rfl, rfl, SqL.of hPc, atI_last _ _, r, _, _, _, rfl, rfl, SqT.of hr0, atI_nat (j := 1) rfl, rfl, rfl, a, ci, _, e, 1000, st.b, _, n0 + 1000 * i, rfl, ha, hci, okE_fits ho he, by omega, fun r2 H5 e5 hp5 nr => ?_⟩
      have hP5 := e5 _ _ hPc
      have kU : ∀ o, ExtK H5 (upd H5 PL o) := fun o => (ExtBut.refl.put (o := o)).toK hP5
      refine ⟨PL, _, _, rfl, rfl, hP5, big_line (by omega), ?_⟩
      refine ⟨some (.ref a), _, rfl, (eb.ext e5).put, upd_same, ?_⟩
      rw [take_succ' he, allP_snoc]
      exact (hpl.mono fun _ _ h => ((h.ext e5).extK (kU _)).le (by omega)).snoc ⟨r2, rfl, (hp5.extK (kU _)).le (by omega)⟩
    · rintro σ Hc ⟨v4, rs, rfl, eb, hPc, hpl⟩
      rw [hev3.1, List.take_length] at hpl
      have x4 := x3.but eb hPL3 hPc nPL
      have ht4 := ht3.extK (eb.toK hPL3)
      obtain ⟨dx4, hsa4⟩ := x4.at_
      refine ⟨_, rfl, sa, dx4, _, rfl, hsa4, seF_history _ _ _ _ _ _ _, sa, s0, st, nT, ne, rfl, x4, fun hk evk hhk hevk nk => ?_⟩
      have e5 : Ext Hc (upd Hc hk (.lst evk)) := Ext.upd nk
      have hk5 : (upd Hc hk (.lst evk)) hk = some (.lst evk) := upd_same
      have hev5 := (hevk.ext cut_sub).ext e5
      have nhk : hk ∉ s0.own sa := x4.fresh nk
      have x5 := x4.ext e5
      have ht5 := ht4.ext e5
      have hP5 := e5 _ _ hPc
      have hpl5 := hpl.mono fun _ _ h => h.ext e5
      have hsa5 := e5 _ _ hsa4
      generalize upd Hc hk (.lst evk) = H5 at e5 hk5 hev5 x5 ht5 hP5 hpl5 hsa5 ⊢
      refine ⟨_, rfl, sa, dx4, _, rfl, hsa5, sa, s0, st, nT, ne, rfl, x5, st.hist.length, rfl, by omega, _, _, rfl, ?_⟩
      -- what stays
      have kX := x5.cutK
      have hPX : cut (s0.own sa) H5 PL = some (.lst rs) := (cut_out nPL).trans hP5
      have hkX : cut (s0.own sa) H5 hk = some (.lst evk) := (cut_out nhk).trans hk5
      have htX := ht5.extK kX
      have hevX := hev5.extK kX
      have hplX := hpl5.mono fun _ _ h => h.extK kX
      have eX : Ext (cut (s0.own sa) H5) H5 := cut_sub
      have fX : FrL (cut (s0.own sa) H5) (s0.own sa) := FrL.cut
      generalize cut (s0.own sa) H5 = X at kX hPX hkX htX hevX hplX eX fX
      have place : ∀ {j : Nat}, j ≤ st.hist.length → ∃ r ci, rs[j]? = some (.ref r) ∧ X r = some (.tup [.ref ci, .int (runE (st.hist.take j) st.p0).2]) ∧ TapeAt K X ci st.b (runE (st.hist.take j) st.p0).1 (n0 + 1000 * st.hist.length) := fun {j} hj => by
        obtain ⟨v, hv, r, rfl, ci, h1, h2⟩ := hplX.get' (allP_get st.hist st.p0 j hj)
        exact ⟨r, ci, hv, h1, h2⟩
      refine ⟨_, rfl, _, rfl, by omega, by omega, ?_⟩
      refine for_it (walk_range (lo := 0) (n := st.hist.length)) (fun i σ Hd => ∃ v7 si, σ = [some (.ref sa), some (.ref c), some (.int st.p0.2), some (.ref PL), v4, some (.ref hk), some (.int st.hist.length), v7] ∧ Ext X Hd ∧ FrL X (si.own sa) ∧ SessAt K Hd sa si ⟨st.b, st.p0, st.hist.take (st.hist.length - i), st.hist.drop (st.hist.length - i) ++ st.und⟩ nT ne)
        ⟨none, s0, rfl, eX, fX, ?_⟩ (fun i σ Hc _ _ => trivial) ?_ ?_
      · rw [Nat.sub_zero, List.take_length, List.drop_length]
        exact x5
      · rintro i w σ Hd H6 hi ⟨v7, si, rfl, ed, fd, xd⟩ ⟨rfl, rfl⟩
        obtain ⟨j, hj⟩ : ∃ j, j = st.hist.length - (i + 1) := ⟨_, rfl⟩
        have hij : st.hist.length - i = j + 1 := by omega
        have hjl : j < st.hist.length := by omega
        rw [← hj]
        rw [hij] at xd
        have he : st.hist[j]? = some st.hist[j] := List.getElem?_eq_getElem hjl
        obtain ⟨dxs, hs⟩ := xd.at_
        refine ⟨_, rfl, sa, dxs, _, rfl, hs, seF_undo _ _ _ _ _ _ _, sa, si, _, nT, ne, X, rfl, xd, ?_, ed, fd, fun z => ?_, fun es e' H7 s7 he' e7 f7 x7 => ?_⟩
        · show (st.hist.drop (j + 1) ++ st.und).length < BIG
          rw [List.length_append, List.length_drop]
          omega
        · exfalso
          have : (st.hist.take (j + 1)).length = 0 := congrArg List.length z
          rw [List.length_take] at this
          omega
        have he2 : st.hist.take j ++ [st.hist[j]] = es ++ [e'] := by rw [← take_succ' he]; exact he'
        obtain ⟨h1, h2⟩ := List.append_inj' he2 rfl
        subst h1
        cases h2
        obtain ⟨r, ci, hr, hr0, hci⟩ := place (Nat.le_of_lt hjl)
        have hix : (st.hist.length : Int) - 1 - (0 + (i : Int)) = ((j : Nat) : Int) := by omega
        obtain ⟨dx7, hs7⟩ := x7.at_
        obtain ⟨evs7, pvs7, uvs7, xs7, _, _, _, _, _, C7⟩ := x7.ls
        have htp := C7.tp.ext cut_sub
        refine ⟨_, rfl, _, rfl, _, _, rfl, rfl, _, rfl, _, _, rfl, rfl, PL, _, _, _, rfl, rfl, SqL.of (e7 _ _ hPX), (by rw [hix]; exact atI_nat hr), r, _, _, _, rfl, rfl, SqT.of (e7 _ _ hr0), atI_nat (j := 1) rfl, rfl, _, rfl, ?_⟩
        refine ifND (fun z => absurd rfl z) fun _ => ?_
        refine ⟨_, rfl, sa, dx7, _, rfl, hs7, sa, s7, _, nT, ne, rfl, x7, _, rfl, _, rfl, _, _, rfl, rfl, _, rfl, _, _, rfl, rfl, PL, _, _, _, rfl, rfl, SqL.of (e7 _ _ hPX), (by rw [hix]; exact atI_nat hr), r, _, _, _, rfl, rfl, SqT.of (e7 _ _ hr0), atI_nat (j := 0) rfl, dtp_of htp (hci.ext e7), fun H8 e8 => ⟨false, rfl, ifF ?_⟩⟩
        refine ⟨_, s7, rfl, e7.trans e8, f7, ?_⟩
        have hd : st.hist.drop j = st.hist[j] :: st.hist.drop (j + 1) := List.drop_eq_getElem_cons hjl
        rw [hd]
        exact x7.ext e8
      · rintro σ Hd ⟨v7, si, rfl, ed, fd, xd⟩
        rw [Nat.sub_self] at xd
        obtain ⟨dxs, hs⟩ := xd.at_
        obtain ⟨evs7, pvs7, uvs7, xs7, _, _, _, _, _, C7⟩ := xd.ls
        have htp := C7.tp.ext cut_sub
        refine ⟨_, rfl, sa, dxs, _, rfl, hs, sa, si, _, nT, ne, rfl, xd, _, rfl, sa, dxs, _, rfl, hs, sa, si, _, nT, ne, rfl, xd, _, rfl, sa, dxs, _, rfl, hs, sa, si, _, nT, ne, rfl, xd, 0, rfl, (by decide), (by show 3 ≤ sizeLine; decide), fun L1 l1 => ?_⟩
        have u1 := Ext.upd (o := .lst [V.ref si.c, V.int st.p0.2, V.int 0]) l1
        refine ⟨_, rfl, _, rfl, (by show 3 ≤ sizeLine; decide), fun L2 l2 => ?_⟩
        have u2 := Ext.upd (o := .lst [V.ref c, V.int st.p0.2, V.int 0]) l2
        have u := u1.trans u2
        refine ⟨⟨L1, L2, _, _, rfl, rfl, u2 _ _ upd_same, upd_same, Prs.cons (.inl (dtp_of (htp.ext u) (htX.ext (ed.trans u)))) (.cons (dint K _ _) (.cons (dint K _ 0) .nil))⟩, fun H9 e9 => ⟨false, rfl, ifF ?_⟩⟩
        have x9 := xd.ext (u.trans e9)
        have e9X := ed.trans (u.trans e9)
        refine ⟨_, rfl, _, rfl, by omega, by omega, ?_⟩
        refine for_it (walk_range (lo := 0) (n := st.hist.length)) (fun i σ Hd => ∃ v7 si, σ = [some (.ref sa), some (.ref c), some (.int st.p0.2), some (.ref PL), v4, some (.ref hk), some (.int st.hist.length), v7] ∧ Ext X Hd ∧ FrL X (si.own sa) ∧ SessAt K Hd sa si ⟨st.b, st.p0, st.hist.take i, st.hist.drop i ++ st.und⟩ nT ne)
          ⟨v7, si, rfl, e9X, fd, x9⟩ (fun i σ Hc _ _ => trivial) ?_ ?_
        · rintro i w σ Ha H6 hi ⟨v7, sj, rfl, ed, fd, xd⟩ ⟨rfl, rfl⟩
          have he : st.hist[i]? = some st.hist[i] := List.getElem?_eq_getElem hi
          have hd : st.hist.drop i = st.hist[i] :: st.hist.drop (i + 1) := List.drop_eq_getElem_cons hi
          obtain ⟨dxs, hs⟩ := xd.at_
          refine ⟨_, rfl, sa, dxs, _, rfl, hs, seF_redo _ _ _ _ _ _ _, sa, sj, _, nT, ne, X, rfl, xd, ?_, ed, fd, fun z => ?_, fun e' es H7 s7 he' e7 f7 x7 => ?_⟩
          · show (st.hist.take i).length < BIG
            rw [List.length_take]
            omega
          · exfalso
            have z2 : st.hist.drop i ++ st.und = [] := z
            rw [hd] at z2
            cases z2
          have he2 : st.hist[i] :: (st.hist.drop (i + 1) ++ st.und) = e' :: es := by
            have : st.hist.drop i ++ st.und = e' :: es := he'
            rw [hd] at this
            exact this
          injection he2 with h1 h2
          subst h1 h2
          have hx7 : SessAt K H7 sa s7 ⟨st.b, st.p0, st.hist.take (i + 1), st.hist.drop (i + 1) ++ st.und⟩ nT ne := by
            rw [take_succ' he]
            exact x7
          show _
          obtain ⟨r, ci, hr, hr0, hci⟩ := place (j := i + 1) hi
          have hix : (0 + (i : Int)) + 1 = ((i + 1 : Nat) : Int) := by omega
          obtain ⟨dx7, hs7⟩ := hx7.at_
          obtain ⟨evs7, pvs7, uvs7, xs7, _, _, _, _, _, C7⟩ := hx7.ls
          have htp := C7.tp.ext cut_sub
          refine ⟨_, rfl, _, rfl, _, _, rfl, rfl, PL, _, _, _, rfl, rfl, SqL.of (e7 _ _ hPX), (by rw [hix]; exact atI_nat hr), r, _, _, _, rfl, rfl, SqT.of (e7 _ _ hr0), atI_nat (j := 1) rfl, rfl, _, rfl, ?_⟩
          refine ifND (fun z => absurd (by rw [take_succ' he]) z) fun _ => ?_
          refine ⟨_, rfl, sa, dx7, _, rfl, hs7, sa, s7, _, nT, ne, rfl, hx7, _, rfl, _, rfl, _, _, rfl, rfl, PL, _, _, _, rfl, rfl, SqL.of (e7 _ _ hPX), (by rw [hix]; exact atI_nat hr), r, _, _, _, rfl, rfl, SqT.of (e7 _ _ hr0), atI_nat (j := 0) rfl, dtp_of htp (hci.ext e7), fun H8 e8 => ⟨false, rfl, ifF ?_⟩⟩
          exact ⟨_, s7, rfl, e7.trans e8, f7, hx7.ext e8⟩
        · rintro σ He ⟨v7, sj, rfl, ed, fd, xd⟩
          rw [List.take_length] at xd
          obtain ⟨dxs, hs⟩ := xd.at_
          refine ⟨_, rfl, sa, dxs, _, rfl, hs, seF_history _ _ _ _ _ _ _, sa, sj, _, nT, ne, rfl, xd, fun l evs2 h2 hev2 nl => ?_⟩
          have eL := Ext.upd (o := .lst evs2) nl
          exact ⟨_, rfl, ⟨l, hk, _, _, rfl, rfl, upd_same, eL _ _ (ed _ _ hkX), effs_prs ((hev2.ext cut_sub).ext eL) (hevX.ext (ed.trans eL))⟩, fun H9 e9 => q H9⟩
end
end Tp
/-! part K26 -/
set_option Elab.async false
set_option linter.all false
set_option maxRecDepth 100000
set_option maxHeartbeats 4000000
/-! the law's defs, part 9: law -/
namespace Tp
open PySem PySem.Spec PyProof.Rows L2 LamX
/-! ### a heap without its tables -/
def isTb : Option HO → Bool
  | some (.tbl _) => true
  | _ => false
def noT (H : Hp) : Hp := fun b => if isTb (H b) = true then none else H b
theorem noT_at {H : Hp} {b : Addr} {o : HO} (h : H b = some o) (n : ∀ ps, o ≠ .tbl ps) : noT H b = some o := by
  unfold noT
  rw [h]
  cases o with
  | tbl ps => exact absurd rfl (n ps)
  | _ => rfl
theorem noT_none {H : Hp} {b : Addr} (h : H b = none) : noT H b = none := by
  unfold noT
  rw [h]
  rfl
theorem noT_sub {H : Hp} : Ext (noT H) H := fun b o h => by
  unfold noT at h
  by_cases c : isTb (H b) = true
  · rw [if_pos c] at h
    cases h
  · rw [if_neg c] at h
    exact h
theorem noT_not {H : Hp} : NoT (noT H) := fun b ps h => by
  have h2 := noT_sub _ _ h
  unfold noT at h
  rw [h2] at h
  cases h
theorem ext_noT {X H : Hp} (e : Ext X H) (n : NoT X) : Ext X (noT H) := fun b o h => noT_at (e b o h) fun ps z => n b ps (by rw [h, z])
theorem sqL_noT {K : PySem.W.Frag} {H : Hp} {a : Addr} {xs : List V} (h : SqL K H a xs) : SqL K (noT H) a xs := by
  rcases h with (h | ⟨o, h⟩) | h
  · exact .inl (.inl (noT_at h fun _ z => by cases z))
  · exact .inl (.inr ⟨o, noT_at h fun _ z => by cases z⟩)
  · exact .inr h
theorem extK_noT {H : Hp} : ExtK H (noT H) := fun b o h n => noT_at h n.2.2
theorem AlAt.ext {H H' : Hp} {p : Addr} {al : List Str} (h : AlAt H p al) (e : Ext H H') : AlAt H' p al := ⟨e _ _ h.1, h.2⟩
theorem mm_bd (n : Int) : 9 ≤ (if (if n < 63 then n else 63) > 9 then (if n < 63 then n else 63) else 9) ∧ (if (if n < 63 then n else 63) > 9 then (if n < 63 then n else 63) else 9) ≤ 63 := by
  split <;> split at * <;> omega
theorem tape_eq {K : PySem.W.Frag} {H : Hp} {c : Addr} {b : Str} {t u : Int → Str} {n : Nat} (h : TapeAt K H c b t n) (e : t = u) : TapeAt K H c b u n := e ▸ h
theorem dint' (K : PySem.W.Frag) (H : Hp) {i j : Int} (e : i = j) : DTI K (.int i) (.int j) H := e ▸ dint K H i
section
variable {P : Program} [PrgOk P] {w : World} {K : PySem.W.Frag} {mg : Str → Option Value} {base : Heap}
theorem sc_law : FnScope ["_law_script", "_law_stream_here", "_law_alphabet_here", "_law_first", "_law_place", "_law_session", "_law_k", "_law_before", "_law_whole"] ["_law_script"] (defScope s_law) := ⟨rfl, rfl, rfl, by decide +kernel, rfl, by decide +kernel, by decide +kernel⟩
def sp_law (K : PySem.W.Frag) : Sp := fun vs H Q _ => ∃ (a : Addr) (ns : List Int), vs = [.ref a] ∧ SqL K H a (ns.map V.int) ∧ ns.length ≤ 63 ∧ Tabs (tabL K) H ∧ ∀ H', Q (.bl true) H'
theorem k_law (T : Txt K mg) (TB : TabB base mg (tbP K).1 (tbP K).2) {fd : FuncData} (F : FunD K "law" "law" (defArgs s_law) (defBody s_law) (defScope s_law) [] [] (He.ga K "law") fd) : FnOk P w K mg base CX0 14 (He.ga K "law") fd ["_law_script"] (sp_law K) := by
  refine F.ok sc_law (fun vs H Q E h => by obtain ⟨_, _, rfl, _⟩ := h; rfl) (fun cdv A outer s H vs Q E hr h => ?_)
  refine ⟨_, PSs.nox (pss_cons (ps_set (i := 1) sc_law.nd rfl (Or.inl rfl) (pe_cR (k_law_stream T) (hr.mono (by decide)) (by rfl) T.g_law_stream T.kp_law_stream pass0 (pa_cons (pv 0) (pa_cons pe_int pa_nil))))
  (pss_cons (ps_set (i := 2) sc_law.nd rfl (Or.inl rfl) (pe_cR (k_law_alphabet T) (hr.mono (by decide)) (by rfl) T.g_law_alphabet T.kp_law_alphabet pass0 (pa_cons (pv 1) pa_nil)))
  (pss_cons (ps_set (i := 3) sc_law.nd rfl (Or.inl rfl) (pe_kM T.k_Tape (k_Tape_init T) (hr.mono (by decide)) (by rfl) T.g_Tape pass0 (pa_cons (pe_ix ix_list (pv 2) pe_int (fun _ _ => rfl)) pa_nil) (pk_cons (pe_cR (k_law_spots T) (hr.mono (by decide)) (by rfl) T.g_law_spots T.kp_law_spots pass0 (pa_cons (pv 1) (pa_cons (pv 2) (pa_cons (pe_ix ix_list (pv 2) pe_int (fun _ _ => rfl)) pa_nil)))) pk_nil)))
  (pss_cons (ps_set (i := 4) sc_law.nd rfl (Or.inl rfl) (pe_op op_sub (pe_cR (k_law_draw T) (hr.mono (by decide)) (by rfl) T.g_law_draw T.kp_law_draw pass0 (pa_cons (pv 1) (pa_cons pe_int pa_nil))) pe_int))
  (pss_cons (ps_set (i := 5) sc_law.nd rfl (Or.inl rfl) (pe_kM T.k_Session (k_Session_init T) (hr.mono (by decide)) (by rfl) T.g_Session pass0 (pa_cons (pv 3) pa_nil) (pk_cons (pv 4) pk_nil)))
  (pss_cons (ps_for PassesOwn.never rfl (pi_range2 (by rfl) T.n_range (pa_cons pe_int (pa_cons (pe_callB (call_max2 (by rfl)) (by rfl) T.n_max (by decide +kernel) (pa_cons pe_int (pa_cons (pe_callB (call_min2 (by rfl)) (by rfl) T.n_min (by decide +kernel) (pa_cons pe_int (pa_cons (pe_callB call_len_seq (by rfl) T.n_len (by decide +kernel) (pa_cons (pv 0) pa_nil)) pa_nil))) pa_nil))) pa_nil))) (pg_name (i := 6) sc_law.nd rfl (Or.inl rfl)) (pss_cons (ps_set (i := 1) sc_law.nd rfl (Or.inl rfl) (pe_cR (k_law_stream T) (hr.mono (by decide)) (by rfl) T.g_law_stream T.kp_law_stream pass0 (pa_cons (pv 0) (pa_cons (pv 6) pa_nil))))
  (pss_cons (ps_set (i := 7) sc_law.nd rfl (Or.inl rfl) (pe_lst (pa_cons (pe_propR (pv 5) T.c_Session T.p_Session_tape (k_Session_tape T) (hr.mono (by decide)) pass0) (pa_cons (pe_propR (pv 5) T.c_Session T.p_Session_head (k_Session_head T) (hr.mono (by decide)) pass0) (pa_cons (pe_mR0 (pv 5) T.c_Session T.m_Session_history (k_Session_history T) (hr.mono (by decide)) pass0) pa_nil)))))
  (pss_cons (ps_if (pt_not (pt_val (pe_cR (k_law_done (P := P) T TB) (hr.mono (by decide)) (by rfl) T.g_law_done T.kp_law_done pass0 (pa_cons (pv 1) (pa_cons (pv 5) (pa_cons (pv 2) pa_nil)))))) (pss_one (ps_if (pt_cmpR (op_neG (ncG_3l T) (hr.mono (by decide))) (pe_lst (pa_cons (pe_propR (pv 5) T.c_Session T.p_Session_tape (k_Session_tape T) (hr.mono (by decide)) pass0) (pa_cons (pe_propR (pv 5) T.c_Session T.p_Session_head (k_Session_head T) (hr.mono (by decide)) pass0) (pa_cons (pe_mR0 (pv 5) T.c_Session T.m_Session_history (k_Session_history T) (hr.mono (by decide)) pass0) pa_nil)))) (pv 7) (nomark _)) (pss_one (ps_ret pe_bl)) pss_nil)) pss_nil)
  (pss_cons (ps_if (pt_not (pt_val (pe_cR (k_law_follows T) (hr.mono (by decide)) (by rfl) T.g_law_follows T.kp_law_follows pass0 (pa_cons (pv 5) (pa_cons (pv 3) (pa_cons (pv 4) pa_nil)))))) (pss_one (ps_ret pe_bl)) pss_nil)
  (pss_cons (ps_if (pt_cmpR op_eq (pe_cR (k_law_draw T) (hr.mono (by decide)) (by rfl) T.g_law_draw T.kp_law_draw pass0 (pa_cons (pv 1) (pa_cons pe_int pa_nil))) pe_int (nomark _)) (pss_cons (ps_set (i := 5) sc_law.nd rfl (Or.inl rfl) (pe_mR0 (pv 5) T.c_Session T.m_Session_clone (k_Session_clone T) (hr.mono (by decide)) pass0))
  (pss_one (ps_if (pt_not (pt_val (pe_cR (k_law_whole_right T) (hr.mono (by decide)) (by rfl) T.g_law_whole_right T.kp_law_whole_right pass0 (pa_cons (pv 5) pa_nil)))) (pss_one (ps_ret pe_bl)) pss_nil))) pss_nil)
  (pss_cons (ps_set (i := 8) sc_law.nd rfl (Or.inl rfl) (pe_mR0 (pv 5) T.c_Session T.m_Session_total_effect (k_Session_total_effect T) (hr.mono (by decide)) pass0))
  (pss_one (ps_if (pt_cmpR (op_neG (ncG_tit T) (hr.mono (by decide))) (pe_mM (pv 8) T.c_Effect T.m_Effect_apply (k_Effect_apply T) (hr.mono (by decide)) pass0 (pa_cons (pv 3) pa_nil) (pk_cons (pv 4) pk_nil)) (pe_tup (pa_cons (pe_propR (pv 5) T.c_Session T.p_Session_tape (k_Session_tape T) (hr.mono (by decide)) pass0) (pa_cons (pe_propR (pv 5) T.c_Session T.p_Session_head (k_Session_head T) (hr.mono (by decide)) pass0) pa_nil))) (nomark _)) (pss_one (ps_ret pe_bl)) pss_nil)))))))))
  (pss_one (ps_ret (pe_and (pe_cR (k_law_whole_right T) (hr.mono (by decide)) (by rfl) T.g_law_whole_right T.kp_law_whole_right pass0 (pa_cons (pv 5) pa_nil)) (pe_one (pe_cR (k_law_unwound (P := P) T) (hr.mono (by decide)) (by rfl) T.g_law_unwound T.kp_law_unwound pass0 (pa_cons (pv 5) (pa_cons (pv 3) (pa_cons (pv 4) pa_nil)))))))))))))), ?_⟩
  obtain ⟨a, ns, rfl, ha, hns, ht0, q⟩ := h
  have hB : BIG = 1000000 := rfl
  refine ⟨_, rfl, a, ns, 0, rfl, ha, by decide, fun p0 x0 y0 np0 => ?_⟩
  have e1 : Ext H (upd H p0 (.lst [V.int x0, V.int y0])) := Ext.upd np0
  have h1 : (upd H p0 (.lst [V.int x0, V.int y0])) p0 = some (.lst [V.int x0, V.int y0]) := upd_same
  generalize upd H p0 (.lst [V.int x0, V.int y0]) = H1 at e1 h1 ⊢
  refine ⟨_, rfl, p0, x0, y0, rfl, h1, fun pa al H2 x2 y2 eb2 h2 hal nal => ?_⟩
  have e2 : Ext H H2 := ExtBut.old e1 eb2 np0
  have pap : p0 ≠ pa := fun z => by rw [← z, h1] at nal; cases nal
  obtain ⟨z, rest, rfl⟩ : ∃ z rest, al = z :: rest := by
    cases al with
    | nil => exact absurd hal.2.2.1 (Nat.lt_irrefl _)
    | cons z r => exact ⟨z, r, rfl⟩
  have lz : Let z := hal.2.1 z List.mem_cons_self
  refine ⟨_, rfl, pa, _, _, _, rfl, rfl, SqL.of hal.1, atI_nat (j := 0) rfl, ?_⟩
  refine ⟨_, rfl, _, rfl, _, rfl, pa, _, _, _, rfl, rfl, SqL.of hal.1, atI_nat (j := 0) rfl, p0, pa, z, x2, y2, _, rfl, h2, hal, pap, fun d f H3 x3 y3 eb3 h3 hd nd => ?_⟩
  have e3 : Ext H H3 := fun b o h => eb3 _ _ (ne_of_none h np0) (e2 _ _ h)
  have hal3 : AlAt H3 pa (z :: rest) := ⟨eb3 _ _ (Ne.symm pap) hal.1, hal.2⟩
  refine ⟨rfl, rfl, fun tx tdx nx ndx ne => ?_⟩
  have em := made_ext (C := He.ga K "Tape") nx ndx ExtBut.refl
  refine ⟨tx, tdx, d, z, f, 7, rfl, upd_same, lz, hd.ext em, by omega, fun H4 eb4 ht => ⟨rfl, ?_⟩⟩
  have e34 := made_ext nx ndx eb4
  have e4 := e3.trans e34
  have h4 := e34 _ _ h3
  have hal4 := hal3.ext e34
  have np4 : ∀ {b : Addr} {o : HO}, H b = some o → b ≠ p0 := fun h => ne_of_none h np0
  refine ⟨_, rfl, p0, x3, y3, 5, rfl, h4, by decide, by decide, fun r x5 y5 r0 r1 => ⟨_, _, rfl, rfl, ?_⟩⟩
  have e5 : Ext H (upd H4 p0 (.lst [V.int x5, V.int y5])) := e4.put np0
  have hal5 : AlAt (upd H4 p0 (.lst [V.int x5, V.int y5])) pa (z :: rest) := ⟨(upd_ne (Ne.symm pap)).trans hal4.1, hal4.2⟩
  have ht5 : TapeAt K (upd H4 p0 (.lst [V.int x5, V.int y5])) tx z (fun i => (f i).getD z) 7 := ht.extK ((ExtBut.refl.put).toK h4)
  generalize upd H4 p0 (.lst [V.int x5, V.int y5]) = H5 at e5 hal5 ht5 ⊢
  have tab5 : Tabs (tabL K) H5 := LamX.Tabs.ext ht0 e5
  have sq5 := ha.ext e5
  refine ⟨_, rfl, _, rfl, rfl, rfl, fun sx sdx nsx nsdx nse => ?_⟩
  have ems := made_ext (C := He.ga K "Session") nsx nsdx ExtBut.refl
  refine ⟨sx, sdx, tx, r - 2, z, _, 7, rfl, upd_same, ht5.ext ems, fun H6 s6 eb6 x6 m1 m2 m3 m4 => ⟨rfl, ?_⟩⟩
  have e56 := made_ext nsx nsdx eb6
  have f6 : FrL H5 (s6.own sx) := fun b hb => by
    have nn : ∀ {b : Addr}, (upd (upd H5 sdx (.own sx)) sx (.ins (He.ga K "Session") sdx [])) b = none → H5 b = none := fun h => ems.none h
    rcases own_mem.mp hb with w | w | w | w | w
    · rw [w]
      exact nsx
    · rw [w]
      exact nn m1
    · rw [w]
      exact nn m2
    · rw [w]
      exact nn m3
    · rw [w]
      exact nn m4
  -- what stays
  have nX := noT_not (H := H5)
  have eX : Ext (noT H5) H6 := noT_sub.trans e56
  have fX : FrL (noT H5) (s6.own sx) := fun b hb => noT_none (f6 b hb)
  have sqX := sqL_noT sq5
  have alX : AlAt (noT H5) pa (z :: rest) := ⟨noT_at hal5.1 (fun _ z => by cases z), hal5.2⟩
  have tpX := ht5.extK extK_noT
  have tab6 := LamX.Tabs.ext tab5 e56
  generalize noT H5 = X at nX eX fX sqX alX tpX
  generalize (fun i => (f i).getD z) = t0 at x6 tpX
  refine ⟨_, rfl, _, _, rfl, .inl (sqX.ext eX), ?_⟩
  rw [List.length_map]
  refine ⟨_, _, rfl, _, _, rfl, ?_⟩
  have hmm := mm_bd (ns.length : Int)
  refine ⟨_, _, rfl, ⟨by decide, by decide, by omega, by omega⟩, ?_⟩
  refine for_it (walk_range (lo := 1) (n := _)) (fun i σ Hc => ∃ v1 sa s hist und v6 v7 v8, σ = [some (.ref a), v1, some (.ref pa), some (.ref tx), some (.int (r - 2)), some (.ref sa), v6, v7, v8] ∧ Ext X Hc ∧ FrL X (s.own sa) ∧ SessAt K Hc sa s ⟨z, (t0, r - 2), hist, und⟩ (7 + 3000 * i) (2 * i) ∧ Tabs (tabL K) Hc ∧ hist.length + und.length ≤ 3 * i)
    ⟨some (.ref p0), sx, s6, [], [], none, none, none, rfl, eX, fX, x6, tab6, Nat.le_refl _⟩ (fun i σ Hc _ _ => trivial) ?_ ?_
  · rintro i w σ Hc H7 hi ⟨v1, sa, s, hist, und, v6, v7, v8, rfl, ec, fc, xc, tc, hl⟩ ⟨rfl, rfl⟩
    have hi62 : i < 62 := by omega
    obtain ⟨dx, hs⟩ := xc.at_
    refine ⟨_, rfl, _, rfl, a, ns, i + 1, congrArg (fun z : Int => [V.ref a, V.int z]) (show (1 + (i : Int)) = ((i + 1 : Nat) : Int) by omega), sqX.ext ec, by omega, fun p x y np => ?_⟩
    have u1 : Ext H7 (upd H7 p (.lst [V.int x, V.int y])) := Ext.upd np
    have hp1 : (upd H7 p (.lst [V.int x, V.int y])) p = some (.lst [V.int x, V.int y]) := upd_same
    have nps : p ∉ s.own sa := xc.fresh np
    have x1 := xc.ext u1
    have t1 := LamX.Tabs.ext tc u1
    have ec1 := ec.trans u1
    have pX : X p = none := ec.none np
    have hs1 := u1 _ _ hs
    generalize upd H7 p (.lst [V.int x, V.int y]) = Hd at hp1 x1 t1 ec1 hs1 ⊢
    clear u1 xc tc ec hs
    refine ⟨_, rfl, sa, dx, _, rfl, hs1, sa, s, _, _, _, rfl, x1, _, rfl, sa, dx, _, rfl, hs1, sa, s, _, _, _, rfl, x1, _, rfl, sa, dx, _, rfl, hs1, seF_history _ _ _ _ _ _ _, sa, s, _, _, _, rfl, x1, fun hl0 evs hh hev nhl => ⟨(by show 3 ≤ sizeLine; decide), fun Bf nB => ?_⟩⟩
    have u2 : Ext Hd (upd Hd hl0 (.lst evs)) := Ext.upd nhl
    have x2 := x1.ext u2
    have nlo : hl0 ∉ s.own sa := x1.fresh nhl
    have nBo : Bf ∉ s.own sa := x2.fresh nB
    have u3 := Ext.upd (o := .lst [V.ref s.c, V.int (Sn.mk z (t0, r - 2) hist und).cur.2, V.ref hl0]) nB
    have x3 := x2.ext u3
    have u := u2.trans u3
    have t3 := LamX.Tabs.ext t1 u
    have ec3 := ec1.trans u
    have hp3 := u _ _ hp1
    have hl3 := u3 _ _ (upd_same (H := Hd) (a := hl0) (o := .lst evs))
    have hB3 : (upd (upd Hd hl0 (.lst evs)) Bf (.lst [V.ref s.c, V.int (Sn.mk z (t0, r - 2) hist und).cur.2, V.ref hl0])) Bf = some (.lst [V.ref s.c, V.int (Sn.mk z (t0, r - 2) hist und).cur.2, V.ref hl0]) := upd_same
    have pB : Bf ≠ p := fun w => by
      rw [w, u2 _ _ hp1] at nB
      cases nB
    have pl0 : hl0 ≠ p := fun w => by
      rw [w, hp1] at nhl
      cases nhl
    have hev3 := (hev.ext cut_sub).ext u
    generalize upd (upd Hd hl0 (.lst evs)) Bf (.lst [V.ref s.c, V.int (Sn.mk z (t0, r - 2) hist und).cur.2, V.ref hl0]) = H3 at x3 t3 ec3 hp3 hl3 hB3 hev3 u ⊢
    obtain ⟨evc, pvc, uvc, xsc, _, _, _, _, _, C3⟩ := x3.ls
    have htp3 := C3.tp.ext cut_sub
    have nkp : ∀ b ∈ p :: s.own sa, ∀ o, H3 b = some o → ¬ NK o := fun b hb o h => by
      rcases List.mem_cons.mp hb with w | w
      · rw [w, hp3] at h
        cases h
        exact nk_lst
      · exact x3.nk b w o h
    have kY : ExtK H3 (noT (cut (p :: s.own sa) H3)) := (ExtK.cut (fun _ _ h _ => h) nkp).trans extK_noT
    have eY : Ext (noT (cut (p :: s.own sa) H3)) H3 := noT_sub.trans cut_sub
    have eXY : Ext X (noT (cut (p :: s.own sa) H3)) := ext_noT (ec3.cut fun b hb => by
      rcases List.mem_cons.mp hb with w | w
      · rw [w]
        exact pX
      · exact fc b w) nX
    have nY : NoT (noT (cut (p :: s.own sa) H3)) := noT_not
    have pY : (noT (cut (p :: s.own sa) H3)) p = none := noT_none (cut_in List.mem_cons_self)
    have fY : FrL (noT (cut (p :: s.own sa) H3)) (s.own sa) := fun b hb => noT_none (cut_in (List.mem_cons_of_mem _ hb))
    have BY : (noT (cut (p :: s.own sa) H3)) Bf = _ := noT_at ((cut_out (fun w => (List.mem_cons.mp w).elim pB nBo)).trans hB3) (fun _ w => by cases w)
    have lY : (noT (cut (p :: s.own sa) H3)) hl0 = _ := noT_at ((cut_out (fun w => (List.mem_cons.mp w).elim pl0 nlo)).trans hl3) (fun _ w => by cases w)
    have evY := hev3.extK kY
    have tpY := htp3.extK kY
    generalize noT (cut (p :: s.own sa) H3) = Y at kY eY eXY nY pY fY BY lY evY tpY
    refine ⟨_, rfl, _, rfl, _, rfl, p, sa, pa, x, y, z :: rest, s, _, _, _, Y, rfl, hp3, alX.ext eXY, x3, nps, t3, by omega, (by show hist.length + und.length + 3 < BIG; omega), by omega, eY, nY, pY, fY, fun b H8 s8 st8 x8 y8 e8 f8 hp8 np8 xs8 t8 hb8 hq8 hl8 hf8 => ?_⟩
    obtain ⟨b2, p2, hist8, und8⟩ := st8
    have hb9 : z = b2 := hb8.symm
    have hq9 : p2 = (t0, r - 2) := hq8
    subst hb9 hq9
    have hl9 : hist8.length + und8.length ≤ 3 * (i + 1) := by
      have h : hist8.length + und8.length ≤ hist.length + und.length + 3 := hl8
      omega
    have eX8 := eXY.trans e8
    have fX8 := f8.sub eXY
    refine ⟨b, rfl, ?_⟩
    cases b with
    | false =>
      have hst := hf8 rfl
      injection hst with _ _ hh1 hh2
      subst hh1 hh2
      refine ifT ?_
      obtain ⟨dx8, hs8⟩ := xs8.at_
      obtain ⟨evd, pvd, uvd, xsd, _, _, _, _, _, C8⟩ := xs8.ls
      have htp8 := C8.tp.ext cut_sub
      refine ⟨_, rfl, sa, dx8, _, rfl, hs8, sa, s8, _, _, _, rfl, xs8, _, rfl, sa, dx8, _, rfl, hs8, sa, s8, _, _, _, rfl, xs8, _, rfl, sa, dx8, _, rfl, hs8, seF_history _ _ _ _ _ _ _, sa, s8, _, _, _, rfl, xs8, fun hl2 evs2 hh2 hev2 nhl2 => ⟨(by show 3 ≤ sizeLine; decide), fun B2 nB2 => ?_⟩⟩
      have w1 : Ext H8 (upd H8 hl2 (.lst evs2)) := Ext.upd nhl2
      have w2 := Ext.upd (o := .lst [V.ref s8.c, V.int (Sn.mk z (t0, r - 2) hist8 und8).cur.2, V.ref hl2]) nB2
      have w := w1.trans w2
      refine ⟨_, rfl, ⟨B2, Bf, _, _, rfl, rfl, upd_same, w _ _ (e8 _ _ BY), Prs.cons (.inl (.inl (dtp_of (htp8.ext w) (tpY.ext (e8.trans w))))) (.cons (.inl (dint K _ _)) (.cons (.inr ⟨hl2, hl0, evs2, evs, rfl, rfl, w2 _ _ upd_same, w _ _ (e8 _ _ lY), effs_prs ((hev2.ext cut_sub).ext w) (evY.ext (e8.trans w))⟩) .nil))⟩, fun H9 e9 => ⟨false, rfl, ifF ?_⟩⟩
      have e89 := w.trans e9
      have eX9 := eX8.trans e89
      have xs9 := xs8.ext e89
      have t9 := LamX.Tabs.ext t8 e89
      have hp9 := e89 _ _ hp8
      refine ⟨_, rfl, _, rfl, _, rfl, sa, tx, s8, _, _, _, 7, rfl, xs9, tpX.ext eX9, (by show hist8.length ≤ 200; omega), by decide, fun Ha ea => ⟨true, rfl, ifF ?_⟩⟩
      refine ⟨_, rfl, p, x8, y8, 8, rfl, ea _ _ hp9, by decide, by decide, fun r3 x9 y9 q0 q1 => ?_⟩
      have xsb : SessAt K (upd Ha p (.lst [V.int x9, V.int y9])) sa s8 _ _ _ := (xs9.ext ea).other (ea _ _ hp9) np8
      have tb : Tabs (tabL K) (upd Ha p (.lst [V.int x9, V.int y9])) := Tabs.list (LamX.Tabs.ext t9 ea) (ea _ _ hp9)
      have eXb : Ext X (upd Ha p (.lst [V.int x9, V.int y9])) := (eX9.trans ea).put pX
      refine ⟨rfl, _, rfl, ?_⟩
      refine ifD (fun c => ?_) fun c => ?_
      · obtain ⟨dxb, hsb⟩ := xsb.at_
        refine ⟨_, rfl, sa, dxb, _, rfl, hsb, seF_clone _ _ _ _ _ _ _, sa, s8, _, _, _, rfl, xsb, fun sc s10 Hc2 e10 x10 n10 f10 => ?_⟩
        refine ⟨_, rfl, sc, s10, _, _, _, rfl, x10, (by show hist8.length ≤ 200; omega), fun Hd2 e11 => ⟨true, rfl, ifF ?_⟩⟩
        have eXz := (eXb.trans e10).trans e11
        have xz := x10.ext e11
        have tz := LamX.Tabs.ext tb (e10.trans e11)
        have fz := f10.sub eXb
        obtain ⟨dxz, hsz⟩ := xz.at_
        refine ⟨_, rfl, _, dxz, _, rfl, hsz, seF_total _ _ _ _ _ _ _, _, _, _, _, _, rfl, xz, (by show hist8.length ≤ 200; omega), fun wp H12 e12 hw nw => ?_⟩
        obtain ⟨evz, pvz, uvz, xsz, _, _, _, _, _, Cz⟩ := xz.ls
        have hoz := ((okE_append _ _ _).mp Cz.ok).1
        have hrz := Cz.ev.re
        have hap := whole_ap hoz hrz
        obtain ⟨dw, dn, dp, mn, mp, k1, _⟩ := id hw
        refine ⟨_, rfl, wp, dw, _, rfl, k1, eF_6 _ _ _, _, rfl, _, rfl, rfl, rfl, wp, tx, r - 2, _, 400000, z, t0, 7, rfl, hw, tpX.ext (eXz.trans e12), whole_fits hoz hrz, by omega, fun rr H13 e13 hpl nrr => ?_⟩
        obtain ⟨cc, hrr, hcc⟩ := hpl
        have e1213 := e12.trans e13
        have hsz13 := e1213 _ _ hsz
        have xz13 := xz.ext e1213
        obtain ⟨evy, pvy, uvy, xsy, _, _, _, _, _, Cy⟩ := xz13.ls
        have htp := Cy.tp.ext cut_sub
        refine ⟨_, rfl, _, dxz, _, rfl, hsz13, _, _, _, _, _, rfl, xz13, _, rfl, _, dxz, _, rfl, hsz13, _, _, _, _, _, rfl, xz13, (by show 2 ≤ sizeLine; decide), fun tp ntp => ?_⟩
        refine ⟨⟨rr, tp, _, _, rfl, rfl, SqT.of (Ext.upd ntp _ _ hrr), SqT.of upd_same, Prs.cons (.inl (dtp_of ((tape_eq hcc (congrArg Prod.fst hap)).ext (Ext.upd ntp)) (htp.ext (Ext.upd ntp)))) (.cons (dint' K _ (congrArg Prod.snd hap)) .nil)⟩, fun H14 e14 => ⟨false, rfl, ifF ?_⟩⟩
        have evv := e1213.trans ((Ext.upd ntp).trans e14)
        exact ⟨_, _, _, hist8, und8, _, _, _, rfl, eXz.trans evv, fz, (xz.ext evv).le (by omega) (by omega), LamX.Tabs.ext tz evv, hl9⟩
      · have eXz := eXb
        have xz := xsb
        have tz := tb
        have fz := fX8
        obtain ⟨dxz, hsz⟩ := xz.at_
        refine ⟨_, rfl, _, dxz, _, rfl, hsz, seF_total _ _ _ _ _ _ _, _, _, _, _, _, rfl, xz, (by show hist8.length ≤ 200; omega), fun wp H12 e12 hw nw => ?_⟩
        obtain ⟨evz, pvz, uvz, xsz, _, _, _, _, _, Cz⟩ := xz.ls
        have hoz := ((okE_append _ _ _).mp Cz.ok).1
        have hrz := Cz.ev.re
        have hap := whole_ap hoz hrz
        obtain ⟨dw, dn, dp, mn, mp, k1, _⟩ := id hw
        refine ⟨_, rfl, wp, dw, _, rfl, k1, eF_6 _ _ _, _, rfl, _, rfl, rfl, rfl, wp, tx, r - 2, _, 400000, z, t0, 7, rfl, hw, tpX.ext (eXz.trans e12), whole_fits hoz hrz, by omega, fun rr H13 e13 hpl nrr => ?_⟩
        obtain ⟨cc, hrr, hcc⟩ := hpl
        have e1213 := e12.trans e13
        have hsz13 := e1213 _ _ hsz
        have xz13 := xz.ext e1213
        obtain ⟨evy, pvy, uvy, xsy, _, _, _, _, _, Cy⟩ := xz13.ls
        have htp := Cy.tp.ext cut_sub
        refine ⟨_, rfl, _, dxz, _, rfl, hsz13, _, _, _, _, _, rfl, xz13, _, rfl, _, dxz, _, rfl, hsz13, _, _, _, _, _, rfl, xz13, (by show 2 ≤ sizeLine; decide), fun tp ntp => ?_⟩
        refine ⟨⟨rr, tp, _, _, rfl, rfl, SqT.of (Ext.upd ntp _ _ hrr), SqT.of upd_same, Prs.cons (.inl (dtp_of ((tape_eq hcc (congrArg Prod.fst hap)).ext (Ext.upd ntp)) (htp.ext (Ext.upd ntp)))) (.cons (dint' K _ (congrArg Prod.snd hap)) .nil)⟩, fun H14 e14 => ⟨false, rfl, ifF ?_⟩⟩
        have evv := e1213.trans ((Ext.upd ntp).trans e14)
        exact ⟨_, _, _, hist8, und8, _, _, _, rfl, eXz.trans evv, fz, (xz.ext evv).le (by omega) (by omega), LamX.Tabs.ext tz evv, hl9⟩
    | true =>
      refine ifF ?_
      have eX9 := eX8
      have xs9 := xs8
      have t9 := t8
      have hp9 := hp8
      refine ⟨_, rfl, _, rfl, _, rfl, sa, tx, s8, _, _, _, 7, rfl, xs9, tpX.ext eX9, (by show hist8.length ≤ 200; omega), by decide, fun Ha ea => ⟨true, rfl, ifF ?_⟩⟩
      refine ⟨_, rfl, p, x8, y8, 8, rfl, ea _ _ hp9, by decide, by decide, fun r3 x9 y9 q0 q1 => ?_⟩
      have xsb : SessAt K (upd Ha p (.lst [V.int x9, V.int y9])) sa s8 _ _ _ := (xs9.ext ea).other (ea _ _ hp9) np8
      have tb : Tabs (tabL K) (upd Ha p (.lst [V.int x9, V.int y9])) := Tabs.list (LamX.Tabs.ext t9 ea) (ea _ _ hp9)
      have eXb : Ext X (upd Ha p (.lst [V.int x9, V.int y9])) := (eX9.trans ea).put pX
      refine ⟨rfl, _, rfl, ?_⟩
      refine ifD (fun c => ?_) fun c => ?_
      · obtain ⟨dxb, hsb⟩ := xsb.at_
        refine ⟨_, rfl, sa, dxb, _, rfl, hsb, seF_clone _ _ _ _ _ _ _, sa, s8, _, _, _, rfl, xsb, fun sc s10 Hc2 e10 x10 n10 f10 => ?_⟩
        refine ⟨_, rfl, sc, s10, _, _, _, rfl, x10, (by show hist8.length ≤ 200; omega), fun Hd2 e11 => ⟨true, rfl, ifF ?_⟩⟩
        have eXz := (eXb.trans e10).trans e11
        have xz := x10.ext e11
        have tz := LamX.Tabs.ext tb (e10.trans e11)
        have fz := f10.sub eXb
        obtain ⟨dxz, hsz⟩ := xz.at_
        refine ⟨_, rfl, _, dxz, _, rfl, hsz, seF_total _ _ _ _ _ _ _, _, _, _, _, _, rfl, xz, (by show hist8.length ≤ 200; omega), fun wp H12 e12 hw nw => ?_⟩
        obtain ⟨evz, pvz, uvz, xsz, _, _, _, _, _, Cz⟩ := xz.ls
        have hoz := ((okE_append _ _ _).mp Cz.ok).1
        have hrz := Cz.ev.re
        have hap := whole_ap hoz hrz
        obtain ⟨dw, dn, dp, mn, mp, k1, _⟩ := id hw
        refine ⟨_, rfl, wp, dw, _, rfl, k1, eF_6 _ _ _, _, rfl, _, rfl, rfl, rfl, wp, tx, r - 2, _, 400000, z, t0, 7, rfl, hw, tpX.ext (eXz.trans e12), whole_fits hoz hrz, by omega, fun rr H13 e13 hpl nrr => ?_⟩
        obtain ⟨cc, hrr, hcc⟩ := hpl
        have e1213 := e12.trans e13
        have hsz13 := e1213 _ _ hsz
        have xz13 := xz.ext e1213
        obtain ⟨evy, pvy, uvy, xsy, _, _, _, _, _, Cy⟩ := xz13.ls
        have htp := Cy.tp.ext cut_sub
        refine ⟨_, rfl, _, dxz, _, rfl, hsz13, _, _, _, _, _, rfl, xz13, _, rfl, _, dxz, _, rfl, hsz13, _, _, _, _, _, rfl, xz13, (by show 2 ≤ sizeLine; decide), fun tp ntp => ?_⟩
        refine ⟨⟨rr, tp, _, _, rfl, rfl, SqT.of (Ext.upd ntp _ _ hrr), SqT.of upd_same, Prs.cons (.inl (dtp_of ((tape_eq hcc (congrArg Prod.fst hap)).ext (Ext.upd ntp)) (htp.ext (Ext.upd ntp)))) (.cons (dint' K _ (congrArg Prod.snd hap)) .nil)⟩, fun H14 e14 => ⟨false, rfl, ifF ?_⟩⟩
        have evv := e1213.trans ((Ext.upd ntp).trans e14)
        exact ⟨_, _, _, hist8, und8, _, _, _, rfl, eXz.trans evv, fz, (xz.ext evv).le (by omega) (by omega), LamX.Tabs.ext tz evv, hl9⟩
      · have eXz := eXb
        have xz := xsb
        have tz := tb
        have fz := fX8
        obtain ⟨dxz, hsz⟩ := xz.at_
        refine ⟨_, rfl, _, dxz, _, rfl, hsz, seF_total _ _ _ _ _ _ _, _, _, _, _, _, rfl, xz, (by show hist8.length ≤ 200; omega), fun wp H12 e12 hw nw => ?_⟩
        obtain ⟨evz, pvz, uvz, xsz, _, _, _, _, _, Cz⟩ := xz.ls
        have hoz := ((okE_append _ _ _).mp Cz.ok).1
        have hrz := Cz.ev.re
        have hap := whole_ap hoz hrz
        obtain ⟨dw, dn, dp, mn, mp, k1, _⟩ := id hw
        refine ⟨_, rfl, wp, dw, _, rfl, k1, eF_6 _ _ _, _, rfl, _, rfl, rfl, rfl, wp, tx, r - 2, _, 400000, z, t0, 7, rfl, hw, tpX.ext (eXz.trans e12), whole_fits hoz hrz, by omega, fun rr H13 e13 hpl nrr => ?_⟩
        obtain ⟨cc, hrr, hcc⟩ := hpl
        have e1213 := e12.trans e13
        have hsz13 := e1213 _ _ hsz
        have xz13 := xz.ext e1213
        obtain ⟨evy, pvy, uvy, xsy, _, _, _, _, _, Cy⟩ := xz13.ls
        have htp := Cy.tp.ext cut_sub
        refine ⟨_, rfl, _, dxz, _, rfl, hsz13, _, _, _, _, _, rfl, xz13, _, rfl, _, dxz, _, rfl, hsz13, _, _, _, _, _, rfl, xz13, (by show 2 ≤ sizeLine; decide), fun tp ntp => ?_⟩
        refine ⟨⟨rr, tp, _, _, rfl, rfl, SqT.of (Ext.upd ntp _ _ hrr), SqT.of upd_same, Prs.cons (.inl (dtp_of ((tape_eq hcc (congrArg Prod.fst hap)).ext (Ext.upd ntp)) (htp.ext (Ext.upd ntp)))) (.cons (dint' K _ (congrArg Prod.snd hap)) .nil)⟩, fun H14 e14 => ⟨false, rfl, ifF ?_⟩⟩
        have evv := e1213.trans ((Ext.upd ntp).trans e14)
        exact ⟨_, _, _, hist8, und8, _, _, _, rfl, eXz.trans evv, fz, (xz.ext evv).le (by omega) (by omega), LamX.Tabs.ext tz evv, hl9⟩
  · rintro σ Hc ⟨v1, sa, s, hist, und, v6, v7, v8, rfl, ec, fc, xc, tc, hl⟩
    have h200 : hist.length + und.length ≤ 200 := by omega
    refine ⟨_, rfl, sa, s, _, _, _, rfl, xc, (by show hist.length ≤ 200; omega), fun H2 e2 => ⟨true, rfl, ?_⟩⟩
    exact ⟨_, rfl, _, rfl, _, rfl, sa, tx, s, _, _, _, 7, rfl, xc.ext e2, tpX.ext (ec.trans e2), (by show hist.length ≤ 200; omega), (by show und.length ≤ 200; omega), by decide, fun H3 => q H3⟩
end
end Tp
/-! part K27 -/
set_option Elab.async false
set_option linter.all false
set_option maxRecDepth 100000
set_option maxHeartbeats 4000000
/-! the end -/
namespace Tp
open PySem PySem.Spec PyProof.Rows L2 LamX
instance prgOk : PrgOk (PySem.Challenge.rw_tapeeffect_k75_whole_sessions_follow_the).prog := ⟨rfl, by decide +kernel⟩
theorem txt_of {h : Heap} {K : PySem.W.Frag} {mg : Str → Option Value} (X : K.In h) (G : h.Ns mainGlobals mg) (c : SaysP h K) : Txt K mg :=
  ⟨c.hd, c.ex, c.fc, c.cb, fun x v e => PySem.W.mg_of X G e, fun x e => PySem.W.mg_none_of X G e, c.tb⟩
theorem law_at {w : World} {h : Heap} {K : PySem.W.Frag} {mg : Str → Option Value} {fa : Addr} (X : K.In h) (G : h.Ns mainGlobals mg) (c : SaysP h K) (hmg : mg ("law" : Str) = some (.ref fa)) :
    LawAtS PySem.Challenge.rw_tapeeffect_k75_whole_sessions_follow_the w K CX0 14 63 "_law_script" mg fa h := by
  have T := txt_of X G c
  obtain ⟨fd, F⟩ := T.f_law
  have e := hmg.symm.trans T.g_law
  cases e
  have b := FunD.bindsA (ps := ["_law_script"]) F fun _ _ _ _ _ _ us hl => match us, hl with | [_], _ => rfl
  have hm : (("_law_done", none) : He.Defn) ∈ tfL := List.mem_singleton.mpr rfl
  obtain ⟨t1, t2⟩ := c.tb _ hm
  refine ⟨fd, [tbP K], sp_law K, fun p hp => ?_, fun p hp => ?_, fun p hp => ?_, fun s v => b s [v] rfl, fun H a ns hl _ hT hS => ?_, fun base _ _ hTB => ?_⟩
  · rw [List.mem_singleton.mp hp]
    exact c.tE _ hm
  · rw [List.mem_singleton.mp hp]
    exact t2
  · rw [List.mem_singleton.mp hp]
    exact PySem.W.codeHd_of_K X t1
  · refine ⟨a, ns, rfl, hS, hl, fun p hp => ?_, fun H' => rfl⟩
    rw [List.mem_singleton.mp hp]
    exact TabS.nil (hT _ (List.mem_singleton.mpr rfl))
  · exact k_law T (hTB _ (List.mem_singleton.mpr rfl)) F
end Tp
open PySem PySem.W PySem.Calls PyProof.Rows
set_option maxRecDepth 100000 in
set_option maxHeartbeats 0 in
theorem PySem.Challenge.cw_tapeeffect_k75_whole_sessions_follow_the_holds : PySem.Challenge.rw_tapeeffect_k75_whole_sessions_follow_the.Holds := by
  w_on; o_law
  refine HandSHeadRun.head_any (r := OpenLaw.row PySem.Challenge.rw_tapeeffect_k75_whole_sessions_follow_the) (q := Tp.qv) (H := Tp.hk) (ob := Tp.ob) (M := 30000) (loose := Tp.names) (d := HandSHeadRun.topDef (OpenLaw.row PySem.Challenge.rw_tapeeffect_k75_whole_sessions_follow_the).prog 68) (kwd := []) Tp.ob_eq
    (by kernel_rfl) (fun s => by kernel_rfl) Tp.run (by kernel_rfl) (by kernel_rfl) (by kernel_rfl) (by rfl) (by first | assumption | decide +kernel) (by decide +kernel) ⟨rfl, rfl, rfl, rfl, rfl, by decide +kernel⟩ ?hw ?hc
  case hw => w_witness2
  case hc =>
    refine LamX.walk_ofTsE (l := PySem.Challenge.rw_tapeeffect_k75_whole_sessions_follow_the) (n := 63) (k := 14) (x := "_law_script") (CX := fun _ => L2.CX0) rfl (by decide) (by kernel_rfl) ⟨rfl, by decide, by decide⟩ ?F (fun _ _ _ _ _ z => z)
    intro w mg fa h Y G hmg0
    obtain ⟨K, KX, c⟩ := Y
    have hmg : mg ("law" : PySem.Str) = some (.ref fa) := by
      have e : (HandSHeadRun.topDef (OpenLaw.row PySem.Challenge.rw_tapeeffect_k75_whole_sessions_follow_the).prog 68).name = ("law" : PySem.Str) := by kernel_rfl
      rw [← e]
      exact hmg0
    exact ⟨K, KX, Tp.law_at KX G c hmg⟩
