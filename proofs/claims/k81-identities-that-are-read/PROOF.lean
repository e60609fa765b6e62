import PyProof.Rows.All
import Wide.All
import OpenK.AllK
import Wide.FinOn
import HandS.ForMost
import HandS.ForExc
import HandS.ExcInit
import HandS.ExcField
import HandS.IsInst
import HandS.Flow
import HandS.SortOrd
import HandS.SortKw
import HandS.More
import KE.KSortKey
import HandS.Walk
import HandS.Codes
import HandS.Iter
import PyProof.ListStr
import PyProof.StrBlock2
import HandS.Conv
import PyProof.StrLawsRepr
import KE.GoesMore
import PyProof.EnumMake
import HandS.Style
import HandS.Wide
import PySem.Challenge.RW_wordfolds_k81_identities_that_are_read
set_option Elab.async false
set_option linter.all false
set_option maxRecDepth 100000
set_option maxHeartbeats 4000000
namespace Wf
open PySem PySem.Spec PyProof.Rows L2
/-! ### room: depth counted one by one, and nothing guarded -/
structure Rm (k : Nat) (A : Around) : Prop where
  hd : A.handled = none
  dp : A.depth + k + 20 < recursionLimit
  un : A.units + 16 * k + 500 < cLine
  gu : A.guards = some []
theorem Rm.low {j k : Nat} {A : Around} (r : Rm k A) (h : j ≤ k) : Rm j A := by
  obtain ⟨a, b, c, d⟩ := r
  exact ⟨a, by omega, by omega, d⟩
theorem Rm.down {k : Nat} {A : Around} (r : Rm (k + 1) A) (e : Env) : Rm k (A.deeper e) := by
  obtain ⟨a, b, c, d⟩ := r
  refine ⟨a, ?_, ?_, d⟩
  · show A.depth + 1 + k + 20 < recursionLimit
    omega
  · show A.units + 3 + 16 * k + 500 < cLine
    omega
theorem Rm.room {k : Nat} {A : Around} (r : Rm k A) : Room 5 A := by
  obtain ⟨a, b, c, d⟩ := r
  exact ⟨a, by omega, by omega⟩
theorem Rm.hu {k : Nat} {A : Around} (r : Rm k A) : A.units + 1 < cLine := hu_of r.room
theorem Rm.units {k : Nat} {A : Around} (r : Rm k A) : A.units + 64 < cLine := r.room.units
theorem Rm.make {k : Nat} {A : Around} (r : Rm (k + 1) A) (C : Addr) (us : List Value) (kw : List (Str × Value)) : Rm k (A.under (.builtin "type.__call__" ⟨.ref C :: us, kw⟩)) := by
  obtain ⟨a, b, c, d⟩ := r
  refine ⟨a, ?_, ?_, ?_⟩
  · rw [make_depth]
    omega
  · rw [make_units]
    omega
  · have e : (A.under (.builtin "type.__call__" ⟨.ref C :: us, kw⟩)).guards = pushGuards (Code.guards (.builtin "type.__call__" ⟨.ref C :: us, kw⟩)) A.guards := rfl
    rw [e, d]
    rfl
theorem rm_caller {k : Nat} (h : k ≤ 500) : Rm k callerA := by
  refine ⟨rfl, ?_, ?_, rfl⟩
  · have : callerA.depth = 301 := by decide +kernel
    rw [this]
    show 301 + k + 20 < 1000
    omega
  · show 4 + 16 * k + 500 < 9900
    omega
/-! ### a def's promise, over such a room -/
structure FnR (P : Program) (w : World) (K : PySem.W.Frag) (mg : Str → Option Value) (base : Heap) (k : Nat) (f : Addr) (fd : FuncData) (ps : List Str) (sp : Sp) : Prop where
  len : ∀ vs H Q E, sp vs H Q E → vs.length = ps.length
  run : ∀ (A : Around) (outer : List Env) (s : Shared) (H : Hp) (args : Args) (us : List Value) (vs : List V) (Q : VK) (E : XK), Rm k A →
    Env0 P w K mg base A outer s H → BindsTo s fd args (ps.zip us) → Vals vs us → sp vs H Q E →
    codeAny (model P w) A (.call (.ref f) args) (CR (L2.CX P w) outer P w H s Q E) s
section
variable {P : Program} {w : World} {K : PySem.W.Frag} {mg : Str → Option Value} {base : Heap} {f : Addr} {fd : FuncData} {ps : List Str} {sp : Sp}
theorem FnR.low {j k : Nat} (F : FnR P w K mg base j f fd ps sp) (h : j ≤ k) : FnR P w K mg base k f fd ps sp :=
  ⟨F.len, fun A outer s H args us vs Q E hr => F.run A outer s H args us vs Q E (hr.low h)⟩
theorem FnR.of_ok {k : Nat} (F : FnOk P w K mg base (L2.CX P w) 5 f fd ps sp) : FnR P w K mg base k f fd ps sp :=
  ⟨F.len, fun A outer s H args us vs Q E hr => F.run A outer s H args us vs Q E hr.room⟩
theorem FnR.weak {k : Nat} {sp' : Sp} (F : FnR P w K mg base k f fd ps sp) (h : ∀ vs H Q E, sp' vs H Q E → sp vs H Q E) : FnR P w K mg base k f fd ps sp' :=
  ⟨fun vs H Q E q => F.len vs H Q E (h _ _ _ _ q), fun A outer s H args us vs Q E hr he hb hv hs => F.run A outer s H args us vs Q E hr he hb hv (h _ _ _ _ hs)⟩
end
/-- a def by its body -/
theorem fnR_of {P : Program} {w : World} {K : PySem.W.Frag} {mg : Str → Option Value} {base : Heap} {k : Nat} {f : Addr} {name qual : Str} {pa : Arguments} {bd : List Stmt} {sc : Scope} {dV kV doc pm cdv ct oc : Value} {an od : Option Addr}
    {osl : Array (Option Value)} {N ps : List Str} {sp : Sp}
    (lk : K.lookup f = some ⟨oc, od, .func (PySem.W.fnOf name qual pa bd sc dV kV doc pm an cdv ct), osl⟩) (hcd : PySem.W.codeIn K cdv qual = true)
    (S : FnScope N ps sc) (len : ∀ vs H Q E, sp vs H Q E → vs.length = ps.length)
    (hb : ∀ (A : Around) (outer : List Env) (s : Shared) (H : Hp) (vs : List V) (Q : VK) (E : XK), Rm k (A.deeper (envOfC qual sc s.heap.objs.size f cdv)) → sp vs H Q E →
      ∃ t, PSs (cxOf (L2.CX P w) P w K mg base N qual sc f cdv A outer s H E) bd t ∧ t { nx := fun _ H' => Q .non H', rt := Q } (start N vs) H) :
    FnR P w K mg base (k + 1) f (PySem.W.fnOf name qual pa bd sc dV kV doc pm an cdv ct) ps sp := by
  constructor
  · exact len
  intro A outer s H args us vs Q E hr e0 hbd rv hsp
  have KS : K.In s.heap := e0.mod.kin.keeps (fun b o e => (e0.bs b o e).1)
  have lm : s.heap.NoLimit := e0.mod.nolimit.keeps (fun b o e => (e0.bs b o e).1)
  have kinds : ∀ y ∈ ps.zip us, sc.names.lookup y.1 = some .local ∨ (sc.names.lookup y.1 = some .cell ∧ ((cellsFrom (s.heap.objs.size + 1) sc.names []).lookup y.1).isSome = true) := by
    rintro ⟨n, v⟩ hy
    rcases S.par n (List.of_mem_zip hy).1 with q | q
    · exact Or.inl q
    · exact Or.inr ⟨q, PySem.W.cellsFrom_some _ _ _ (Or.inl q)⟩
  have dep : A.depth < recursionLimit := by
    have := hr.dp
    omega
  refine codeAny_call_function dep (KS _ _ lk) rfl S.co S.gen rfl (PySem.W.codeRec_of KS hcd) (hbd _ _ _ _ ?_)
  refine wpAny_newFunctionEnv_cells S.kind kinds ?_
  intro env he s1 x
  subst he
  refine ⟨lm.keeps x.toInCall.keep, codeAny_func ?_⟩
  obtain ⟨t, ht, hq⟩ := hb A outer s H vs Q E (hr.down _) hsp
  have I0 : Inv (cxOf (L2.CX P w) P w K mg base N qual sc f cdv A outer s H E) [] (start N vs) H s1 := inv_start S hr.hd e0 (len _ _ _ _ hsp) rv x
  refine wpAny_mono (ht.run [] s1 (start N vs) H _ I0 hq) ?_ (fun e s' hs => hs)
  intro fl s' hs
  cases fl with
  | ret u =>
    obtain ⟨v, σ', H', J, r1, q⟩ := hs
    exact ⟨v, H', J.os, J.bare, J.base, J.hok, r1, q⟩
  | next =>
    obtain ⟨σ', H', J, q⟩ := hs
    exact ⟨V.non, H', J.os, J.bare, J.base, J.hok, rfl, q⟩
  | brk =>
    obtain ⟨_, _, _, q⟩ := hs
    exact q.elim
  | cont =>
    obtain ⟨_, _, _, q⟩ := hs
    exact q.elim
/-! ### a def of the text, all its facts -/
structure FnAt (K : PySem.W.Frag) (mg : Str → Option Value) (x : Str) (st : Stmt) (ps : List Str) where
  f : Addr
  fd : FuncData
  F : Fun K x x st f fd
  g : mg x = some (.ref f)
  b : Binds K fd ps []
section
variable {P : Program} {w : World} {K : PySem.W.Frag} {mg : Str → Option Value} {base : Heap}
/-- nothing raised leaves the body -/
theorem fun_ok {x qual : Str} {st : Stmt} {f : Addr} {fd : FuncData} {N ps : List Str} {k : Nat} {sp : Sp} (F : Fun K x qual st f fd) (S : FnScope N ps (defScope st)) (len : ∀ vs H Q E, sp vs H Q E → vs.length = ps.length)
    (hb : ∀ (cdv : Value) (A : Around) (outer : List Env) (s : Shared) (H : Hp) (vs : List V) (Q : VK) (E : XK), Rm k (A.deeper (envOfC qual (defScope st) s.heap.objs.size f cdv)) → sp vs H Q E →
      ∃ t, PSs (cxOf (L2.CX P w) P w K mg base N qual (defScope st) f cdv A outer s H E).nox (defBody st) t ∧ t { nx := fun _ H' => Q .non H', rt := Q } (start N vs) H) :
    FnR P w K mg base (k + 1) f fd ps sp := by
  obtain ⟨oc, od, kV, doc, pm, an, cdv, ct, osl, rfl, lk, hcd⟩ := F.ex
  refine fnR_of lk hcd S len ?_
  intro A outer s H vs Q E hr hsp
  obtain ⟨t, h, q⟩ := hb cdv A outer s H vs Q E hr hsp
  exact ⟨t, h.nox, q⟩
/-- errors may leave it -/
theorem fun_okX {x qual : Str} {st : Stmt} {f : Addr} {fd : FuncData} {N ps : List Str} {k : Nat} {sp : Sp} (F : Fun K x qual st f fd) (S : FnScope N ps (defScope st)) (len : ∀ vs H Q E, sp vs H Q E → vs.length = ps.length)
    (hb : ∀ (cdv : Value) (A : Around) (outer : List Env) (s : Shared) (H : Hp) (vs : List V) (Q : VK) (E : XK), Rm k (A.deeper (envOfC qual (defScope st) s.heap.objs.size f cdv)) → sp vs H Q E →
      ∃ t, PSs (cxOf (L2.CX P w) P w K mg base N qual (defScope st) f cdv A outer s H E) (defBody st) t ∧ t { nx := fun _ H' => Q .non H', rt := Q } (start N vs) H) :
    FnR P w K mg base (k + 1) f fd ps sp := by
  obtain ⟨oc, od, kV, doc, pm, an, cdv, ct, osl, rfl, lk, hcd⟩ := F.ex
  exact fnR_of lk hcd S len fun A outer s H vs Q E hr hsp => hb cdv A outer s H vs Q E hr hsp
end
/-! ### calls over such a room -/
section
variable {X : Cx} {k : Nat} {f C : Addr} {fd : FuncData} {ps : List Str} {sp : Sp} {x m : Str} {p pos apos : Pos} {e o : Expr} {es : List Expr} {ta : TE} {t : TA}
theorem runR {pins : List (Addr × Obj)} {σ : L2.St} {H : Hp} {s : Shared} {Q : VK} {E : XK} {us : List Value} {vs : List V} (F : FnR X.prog X.w X.K X.mg X.base k f fd ps sp) (hr : Rm k X.A) (hb : Binds X.K fd ps [])
    (hx : ∀ e s', L2.CX X.prog X.w X.stack H s E e s' → X.xe e s') (I : Inv X pins σ H s) (r : Vals vs us) (h : sp vs H Q E) :
    wpAny (model X.prog X.w) X.A (call (.ref f) us) (EP X pins σ Q) X.xe s := by
  have hl : us.length = ps.length := r.length.symm.trans (F.len _ _ _ _ h)
  have b := hb s us I.kIn (by rw [List.append_nil]; exact hl)
  rw [List.append_nil] at b
  refine wpAny_call (codeAny_mono (F.run X.A X.stack s H ⟨us, []⟩ us vs Q E hr I.env0 b r h) ?_)
  intro r1 s1 hq
  cases r1 with
  | error e => exact hx e s1 hq
  | ok fl =>
    cases fl with
    | ret u => exact I.after hq
    | next => exact hq.elim
    | brk => exact hq.elim
    | cont => exact hq.elim
/-- f(e, ..) of a def that raises nothing -/
theorem pe_r (F : FnR X.prog X.w X.K X.mg X.base k f fd ps sp) (hr : Rm k X.A) (hg : Gl X x) (hm : X.mg x = some (.ref f)) (hk : PySem.W.keepIn X.K (.ref f) = true) (hb : Binds X.K fd ps [])
    (ha : PA X (e :: es) t) (hdb : (x == ("__debug__" : Str)) = false := by decide) (he : starEach (e :: es) X.env = (false, eval e X.env) :: starEach es X.env := by rfl) (hpl : (backTo pos (starEach es X.env)).any (·.1) = false := by rfl) :
    PE X (.Call (.Name x p) (e :: es) [] pos) (tCallS sp (fun _ => E0) t) := by
  constructor
  intro pins s σ H Q I h
  refine wpAny_Call_Name_kw (ld_glob I hg hm ?_ hdb)
  refine PySem.W.callWith_K (h₀ := X.base) I.ok.mod.kin hk (thn (ha.run pos pins s σ H _ I h) ?_) he hpl
  rintro us s1 ⟨vs, H1, I1, r, q⟩
  exact ⟨I1.kIn, runR F hr hb (fun e s' c => passL pins σ H1 s1 e s' I1 c) I1 r q⟩
/-- f() of such -/
theorem pe_r0 (F : FnR X.prog X.w X.K X.mg X.base k f fd ps sp) (hr : Rm k X.A) (hg : Gl X x) (hm : X.mg x = some (.ref f)) (hk : PySem.W.keepIn X.K (.ref f) = true) (hb : Binds X.K fd ps [])
    (hdb : (x == ("__debug__" : Str)) = false := by decide) : PE X (.Call (.Name x p) [] [] pos) (tCallS sp (fun _ => E0) tNil) := by
  constructor
  intro pins s σ H Q I h
  refine wpAny_Call_Name_kw (ld_glob I hg hm ?_ hdb)
  exact PySem.W.callWith_K0 I.kIn hk (runR (us := []) (vs := []) F hr hb (fun e s' c => passL pins σ H s e s' I c) I .nil h)
/-- f(e, ..) of a def that may raise -/
theorem pe_rx {W : WX} (F : FnR X.prog X.w X.K X.mg X.base k f fd ps sp) (hr : Rm k X.A) (hg : Gl X x) (hm : X.mg x = some (.ref f)) (hk : PySem.W.keepIn X.K (.ref f) = true) (hb : Binds X.K fd ps []) (tk : Takes X W)
    (ha : PA X (e :: es) t) (hdb : (x == ("__debug__" : Str)) = false := by decide) (he : starEach (e :: es) X.env = (false, eval e X.env) :: starEach es X.env := by rfl) (hpl : (backTo pos (starEach es X.env)).any (·.1) = false := by rfl) :
    PE X (.Call (.Name x p) (e :: es) [] pos) (tCallS sp (WE W) t) := by
  constructor
  intro pins s σ H Q I h
  refine wpAny_Call_Name_kw (ld_glob I hg hm ?_ hdb)
  refine PySem.W.callWith_K (h₀ := X.base) I.ok.mod.kin hk (thn (ha.run pos pins s σ H _ I h) ?_) he hpl
  rintro us s1 ⟨vs, H1, I1, r, q⟩
  exact ⟨I1.kIn, runR F hr hb (fun e s' c => passAt tk σ pins H1 s1 e s' I1 c) I1 r q⟩
/-- o.m(e, ..), o.m() of an own instance -/
def tMeR (C : Addr) (m : Str) (sp : Sp) (E : L2.St → XK) (ta : TE) (t : TA) : TE := fun σ H Q => ta σ H fun x H1 => ∃ a dx fs, x = .ref a ∧ H1 a = some (.ins C dx fs) ∧ fs.lookup m = none ∧
  t σ H1 fun vs H2 => sp (x :: vs) H2 Q (E σ)
theorem pe_me {pl : Sem Bool} {W : WX} (he : PE X o ta) (c : Cls X.K C) (hm : Meth X.K C m f) (F : FnR X.prog X.w X.K X.mg X.base k f fd ps sp) (hr : Rm k X.A) (hb : Binds X.K fd ps []) (tk : Takes X W) (ha : PA X (e :: es) t)
    (hst : starEach (e :: es) X.env = (false, eval e X.env) :: starEach es X.env := by rfl) (hpl : (backTo pos (starEach es X.env)).any (·.1) = false := by rfl)
    (ht : eval (.Call (.Attribute o m apos) (e :: es) [] pos) X.env = (do
      let ov ← eval o X.env; standAt apos.atName; let (g, first) ← holding [ov] (getMethod ov m pl)
      callWith pos g first (backTo pos (starEach (e :: es) X.env)) (backToKw pos (keywordEach [] X.env))) := by rfl) :
    PE X (.Call (.Attribute o m apos) (e :: es) [] pos) (tMeR C m sp (WE W) ta t) := by
  constructor
  intro pins s σ H Q I h
  refine PySem.W.methodCall_KW (pl := pl) (thn (he.run pins s σ H _ I h) ?_) ht
  rintro u s1 ⟨x, H1, I1, rx, a, dx, fs, ex, ea, l, q⟩
  subst ex
  cases rx
  refine getmeth_ok I1 ea c hm l ?_
  refine PySem.W.callWith_K (first := [.ref a]) (h₀ := X.base) I.ok.mod.kin hm.kp (thn (ha.run pos pins s1 σ H1 _ I1 q) ?_) hst hpl
  rintro us s2 ⟨vs, H2, I2, r, q2⟩
  exact ⟨I2.kIn, runR (us := .ref a :: us) (vs := .ref a :: vs) F hr hb (fun e s' c => passAt tk σ pins H2 s2 e s' I2 c) I2 (.cons rfl r) q2⟩
theorem pe_me0 {pl : Sem Bool} {W : WX} (he : PE X o ta) (c : Cls X.K C) (hm : Meth X.K C m f) (F : FnR X.prog X.w X.K X.mg X.base k f fd ps sp) (hr : Rm k X.A) (hb : Binds X.K fd ps []) (tk : Takes X W)
    (ht : eval (.Call (.Attribute o m apos) [] [] pos) X.env = (do
      let ov ← eval o X.env; standAt apos.atName; let (g, first) ← holding [ov] (getMethod ov m pl)
      callWith pos g first (backTo pos (starEach [] X.env)) (backToKw pos (keywordEach [] X.env))) := by rfl) :
    PE X (.Call (.Attribute o m apos) [] [] pos) (tMeR C m sp (WE W) ta tNil) := by
  constructor
  intro pins s σ H Q I h
  refine PySem.W.methodCall_KW (pl := pl) (thn (he.run pins s σ H _ I h) ?_) ht
  rintro u s1 ⟨x, H1, I1, rx, a, dx, fs, ex, ea, l, q⟩
  subst ex
  cases rx
  refine getmeth_ok I1 ea c hm l ?_
  exact PySem.W.callWith_K0 (first := [.ref a]) I1.kIn hm.kp (runR (us := [.ref a]) (vs := [.ref a]) F hr hb (fun e s' c => passAt tk σ pins H1 s1 e s' I1 c) I1 (.cons rfl .nil) q)
/-- C(e, ..) -/
def tMkR (C : Addr) (sp : Sp) (E : L2.St → XK) (t : TA) : TE := fun σ H Q => t σ H fun vs H1 => ∀ x dx, H1 x = none → H1 dx = none → dx ≠ x →
  sp (.ref x :: vs) (upd (upd H1 dx (.own x)) x (.ins C dx [])) (fun v H2 => v = .non ∧ Q (.ref x) H2) (E σ)
end
end Wf
namespace Wf
open PySem PySem.Spec PyProof.Rows L2
section
variable {X : Cx} {k : Nat} {f C : Addr} {fd : FuncData} {ps : List Str} {sp : Sp} {x m : Str} {p pos apos : Pos} {e o : Expr} {es : List Expr} {ta : TE} {t : TA}
theorem makeR {pins : List (Addr × Obj)} {σ : L2.St} {H : Hp} {s : Shared} {Q : VK} {E : XK} {us : List Value} {vs : List V} (M : Mk X.K C f) (F : FnR X.prog X.w X.K X.mg X.base k f fd ps sp) (hr : Rm (k + 1) X.A) (hb : Binds X.K fd ps [])
    (hx : ∀ (H' : Hp) (s2 : Shared) (e : Value) (s' : Shared), Inv X pins σ H' s2 → L2.CX X.prog X.w X.stack H' s2 E e s' → X.xe e s') (I : Inv X pins σ H s) (r : Vals vs us)
    (h : ∀ x dx, H x = none → H dx = none → dx ≠ x → sp (.ref x :: vs) (upd (upd H dx (.own x)) x (.ins C dx [])) (fun v H2 => v = .non ∧ Q (.ref x) H2) E) :
    wpAny (model X.prog X.w) X.A (call (.ref C) us) (EP X pins σ Q) X.xe s := by
  have hq := h (s.heap.objs.size + 1) s.heap.objs.size (I.hok.fresh (Nat.le_succ _)) (I.hok.fresh (Nat.le_refl _)) (Nat.ne_of_lt (Nat.lt_succ_self _))
  have J := Inv.made (C := C) I
  have r2 : Vals (V.ref (s.heap.objs.size + 1) :: vs) (Value.ref (s.heap.objs.size + 1) :: us) := .cons rfl r
  have hl : (Value.ref (s.heap.objs.size + 1) :: us).length = ps.length := r2.length.symm.trans (F.len _ _ _ _ hq)
  have b := hb _ (Value.ref (s.heap.objs.size + 1) :: us) J.kIn (by rw [List.append_nil]; exact hl)
  rw [List.append_nil] at b
  refine wpAny_call (make_map (f := f) I.kIn M.makes M.init (beq_iff_eq.mp M.fn) (codeAny_mono (F.run _ X.stack _ _ ⟨Value.ref (s.heap.objs.size + 1) :: us, []⟩ _ _ _ E (hr.make C us []) (J.env0.make C us []) b r2 hq) ?_))
  intro r1 s1 hq'
  cases r1 with
  | error e => exact hx _ _ e s1 J hq'
  | ok fl =>
    cases fl with
    | ret u =>
      obtain ⟨v, H', I3, rv, ev, q3⟩ := J.after hq'
      subst ev
      exact ⟨rv, V.ref (s.heap.objs.size + 1), H', I3, rfl, q3⟩
    | next => exact hq'.elim
    | brk => exact hq'.elim
    | cont => exact hq'.elim
theorem pe_mk {W : WX} (M : Mk X.K C f) (F : FnR X.prog X.w X.K X.mg X.base k f fd ps sp) (hr : Rm (k + 1) X.A) (hg : Gl X x) (hm : X.mg x = some (.ref C)) (hb : Binds X.K fd ps []) (tk : Takes X W)
    (ha : PA X (e :: es) t) (hdb : (x == ("__debug__" : Str)) = false := by decide) (he : starEach (e :: es) X.env = (false, eval e X.env) :: starEach es X.env := by rfl) (hpl : (backTo pos (starEach es X.env)).any (·.1) = false := by rfl) :
    PE X (.Call (.Name x p) (e :: es) [] pos) (tMkR C sp (WE W) t) := by
  constructor
  intro pins s σ H Q I h
  refine wpAny_Call_Name_kw (ld_glob I hg hm ?_ hdb)
  refine PySem.W.callWith_K (h₀ := X.base) I.ok.mod.kin M.kp (thn (ha.run pos pins s σ H _ I h) ?_) he hpl
  rintro us s1 ⟨vs, H1, I1, r, q⟩
  exact ⟨I1.kIn, makeR M F hr hb (fun H' s2 e s' J c => passAt tk σ pins H' s2 e s' J c) I1 r q⟩
end
/-! ### own errors of one field -/
structure ExcAt (K : PySem.W.Frag) (mg : Str → Option Value) (x qual fld : Str) (st : Stmt) where
  C : Addr
  fI : Addr
  fd : FuncData
  F : Fun K "__init__" qual st fI fd
  g : mg x = some (.ref C)
  O : OexC K C
  iC : PySem.W.findIn K (.ref C) "__init__" = some (some (.ref fI))
  tI : PySem.W.typeIn K (.ref fI) = some (.type "function")
  b : Binds K fd ["self", fld] []
  no : PySem.W.findIn K (.ref C) fld = some none
  xf : XfC K C
/-- what the __init__ of such does -/
def spXI (C : Addr) (fld : Str) : Sp := fun vs H Q _ => ∃ (a : Addr) (v : V), vs = [.ref a, v] ∧ H a = some (exo a C none) ∧ ∀ d, H d = none → d ≠ a → Q .non (upd (upd H d (exd d [(fld, v)])) a (exo a C (some d)))
/-- such an error is made: the reading behind its argument -/
theorem x_go {C : Addr} {fld : Str} {v : V} {H : Hp} {Q E : XK} (h : ∀ d, H d = none → Q (.ref C) (some d) (upd H d (.xd [(fld, v)]))) :
    [v].length ≤ 1000 ∧ ∀ a, H a = none → spXI C fld (.ref a :: ([v] ++ [])) (upd H a (exo a C none))
      (fun v H2 => v = .non ∧ ∃ (d : Addr) (fs : List (Str × V)), H2 a = some (exo a C (some d)) ∧ H2 d = some (exd d fs) ∧ H d = none ∧ Q (.ref C) (some d) (upd (del H2 a) d (.xd fs))) E := by
  refine ⟨(by show 1 ≤ 1000; decide), fun a ha => ⟨a, v, rfl, upd_same, fun d hd hda => ⟨rfl, d, [(fld, v)], upd_same, ?_, ?_, ?_⟩⟩⟩
  · rw [upd_ne hda, upd_same]
  · rw [upd_ne hda] at hd
    exact hd
  · have e : upd (del (upd (upd (upd H a (exo a C none)) d (exd d [(fld, v)])) a (exo a C (some d))) a) d (.xd [(fld, v)]) = upd H d (.xd [(fld, v)]) := by
      funext b
      by_cases hb : b = d
      · subst hb
        rw [upd_same, upd_same]
      · rw [upd_ne hb, upd_ne hb]
        by_cases hc : b = a
        · subst hc
          rw [del_same, ha]
        · rw [del_ne hc, upd_ne hc, upd_ne hb, upd_ne hc]
    rw [e]
    refine h d ?_
    rw [upd_ne hda] at hd
    exact hd
/-! ### try with several clauses, some of which name what they caught -/
abbrev Clause := Value × Option Nat × (Addr → Value → Option Addr → TS)
/-- what a clause's suite is run with -/
def asEnds (D : Ends) : Option Nat → Ends
  | none => D
  | some i => { nx := fun σ H => D.nx (σ.set i none) H, rt := D.rt, bk := fun σ H => D.bk (σ.set i none) H, ct := fun σ H => D.ct (σ.set i none) H }
def asSlot (σ : L2.St) (a : Addr) : Option Nat → L2.St
  | none => σ
  | some i => σ.set i (some (.ref a))
def wCl (K : PySem.W.Frag) (Wout : WX) (D : Ends) : List Clause → WX
  | [] => Wout
  | (c, n, ts) :: r => fun cls d σ H => ∃ b, PySem.W.exmOne K cls c = some b ∧ (b = true → ∀ a, H a = none → ts a cls d (asEnds D n) (asSlot σ a n) H) ∧ (b = false → wCl K Wout D r cls d σ H)
inductive ClOk (X : Cx) : List ExceptHandler → List Clause → Prop
  | nil : ClOk X [] []
  | bare {x : Str} {c : Value} {ts : Addr → Value → Option Addr → TS} {b0 : Stmt} {suite : List Stmt} {np ps : Pos} {hds : List ExceptHandler} {l : List Clause} (hc : Names X x c)
      (hsu : ∀ (a : Addr) (oe : Obj) (cls : Value) (d : Option Addr) (pn : List (Addr × Obj)), Zc cls d oe → (∃ vs, oe.data = .fields vs) → PSs (X.suite a ((a, oe) :: pn)) (b0 :: suite) (ts a cls d)) (r : ClOk X hds l) :
      ClOk X (.ExceptHandler (some (.Name x np)) none (b0 :: suite) ps :: hds) ((c, none, ts) :: l)
  | named {x n : Str} {i : Nat} {c : Value} {ts : Addr → Value → Option Addr → TS} {b0 : Stmt} {suite : List Stmt} {np ps : Pos} {hds : List ExceptHandler} {l : List Clause} (hN : X.N.Nodup) (hi : X.N[i]? = some n) (hl : X.env.kindOf n = some .local) (hc : Names X x c)
      (hsu : ∀ (a : Addr) (oe : Obj) (cls : Value) (d : Option Addr) (pn : List (Addr × Obj)), Zc cls d oe → (∃ vs, oe.data = .fields vs) → PSs (X.suite a ((a, oe) :: pn)) (b0 :: suite) (ts a cls d)) (r : ClOk X hds l) :
      ClOk X (.ExceptHandler (some (.Name x np)) (some n) (b0 :: suite) ps :: hds) ((c, some i, ts) :: l)
section
variable {X : Cx} {body : List Stmt} {h0 : ExceptHandler} {hds : List ExceptHandler} {l : List Clause} {pos : Pos} {tb : WX → TS} {Wout : WX}
theorem ps_try_cl (hs : X.stack = X.env :: X.outer) (hf : X.env.frame = some X.env.locals) (tk : Takes X Wout)
    (hb : ∀ (W : WX) (pn : List (Addr × Obj)) (xe : Value → Shared → Prop), Takes (X.tr pn xe) W → PassesOwn (model X.prog X.w) X.A X.env xe → PSs (X.tr pn xe) body (tb W))
    (hh : ClOk X (h0 :: hds) l) : PS X (.Try body (h0 :: hds) [] [] pos) (fun D σ H => tb (wCl X.K Wout D l) D σ H) := by
  constructor
  intro pins s σ H D I h
  have ok := I.ok
  have hfr : X.A.frames = some (X.env :: X.outer) := hs ▸ ok.frames
  refine wpAny_Try_except (wpAny_mono ((hb (wCl X.K Wout D l) (X.pn ++ pins) _ ?_ PassesOwn.looking).run [] s σ H D (I.toTry _) h) ?_ (fun e s1 he => he))
  · intro u s1 xx
    obtain ⟨a, B, sI, pins', σ', H', cls, d, rfl, J', nb, up, sky, na, os, ag, w⟩ := xx
    have J : Inv X pins σ' H' sI := J'.ofTry ok
    rw [show (X.tr (X.pn ++ pins) _).stack = X.env :: X.outer from hs] at sky
    show wpAny (model X.prog X.w) X.A (noteFrame (.ref a) X.env) _ _ _
    refine Sky.land Zc.steady hfr hf sky ?_
    intro h3 fl3 up3
    have J3 : Inv X pins σ' H' { s1 with heap := h3 } := J.landed nb fl3.1 (up.trans up3) os ag
    obtain ⟨oe3, vs3, he3, hz3, hd3⟩ := fl3.there
    have nfr : a ∉ frs (X.env :: X.outer) := by
      intro hm
      obtain ⟨_, o', e', hnf⟩ := fl3.2.2.1.mem hm
      rw [he3] at e'
      cases e'
      exact hnf _ hd3
    have nL : a ≠ X.env.locals := by
      intro z
      exact nfr (List.mem_filterMap.mpr ⟨X.env, List.mem_cons_self, by rw [hf, z]⟩)
    have nF : a ∉ X.fs := by
      intro hm
      obtain ⟨e, he, q⟩ := List.mem_filterMap.mp hm
      exact nfr (List.mem_filterMap.mpr ⟨e, List.mem_cons_of_mem _ he, q⟩)
    have S3 := J3.suite he3 hd3 na nL nF
    have main : ∀ {hds' : List ExceptHandler} {l' : List Clause}, ClOk X hds' l' → wCl X.K Wout D l' cls d σ' H' →
        wpAny (model X.prog X.w) X.A (handleBy (.ref a) X.env hds') (SP X pins D) X.xe { s1 with heap := h3 } := by
      intro hds' l' hk
      have ask : ∀ {x : Str} {c : Value} {np : Pos} {Q : Value → Shared → Prop} {E : Value → Shared → Prop}, Names X x c → Q c { s1 with heap := h3 } →
          wpAny (model X.prog X.w) (X.A.mark (some (.ref a))) (eval (.Name x np) X.env) Q E { s1 with heap := h3 } := by
        intro x c np Q E hc q
        obtain ⟨hg, hdbg, hm | ⟨hm, hv, hnn⟩⟩ := hc
        · exact ld_glob (X := X.suite a ((a, oe3) :: (X.pn ++ pins))) S3 hg hm q hdbg
        · exact ld_blt (X := X.suite a ((a, oe3) :: (X.pn ++ pins))) S3 hg hm hv q hnn hdbg
      have typ : PySem.W.Looks (model X.prog X.w) h3 (typeOf (.ref a)) cls := fun A Q E s k q => wpAny_typeOf_ref (k _ _ he3) (by rw [hz3.1]; exact q)
      induction hk with
      | nil =>
        intro w
        refine wpAny_handleBy_nil ?_
        obtain ⟨k1, k2, k3, oe, vs, T, oT, ts', he, hz, hd, h1, hr⟩ := id fl3
        unfold PySem.passOn
        refine wpAny_bind (wpAny_field he hd h1 ?_)
        rw [if_neg (show ¬ ((Value.ref T == Value.none) = true) by simp)]
        have up4 : wpAny (model X.prog X.w) X.A (setFlight (.ref a) X.env.frame) (fun _ s4 => wpAny (model X.prog X.w) X.A (throw (.ref a) : Sem Flow) (SP X pins D) X.xe s4) X.xe { s1 with heap := h3 } := by
          rw [hf]
          refine HandSPX.setFlight_upZ fl3 ?_
          intro h4 hh4 u4
          refine wpAny_throw (tk _ _ ⟨a, B, sI, pins, σ', H', cls, d, rfl, J, nb, (up.trans up3).trans u4, ?_, na, os, ag, w⟩)
          rw [hs]
          exact .inr (.inr hh4)
        first
          | exact wpAny_bind (wpAny_pure (wpAny_bind up4))
          | exact wpAny_bind up4
      | @bare x c ts b0 suite np ps hds2 l2 hc hsu r ih =>
        intro w
        obtain ⟨b, hb1, hyes, hno⟩ := w
        refine wpAny_handleBy_cons (codeAny_handlers_test ?_) (fun q => by cases q)
        refine ask hc ((PySem.W.exm_one (M := model X.prog X.w) (J3.kIn) typ hb1).here ?_)
        cases b with
        | true =>
          refine codeAny_handlers_suite (HandSPX.lands_againZ fl3 ?_)
          intro h4 fl4 up4
          have J4 : Inv X pins σ' H' { s1 with heap := h4 } := J.landed nb fl4.1 ((up.trans up3).trans up4) os ag
          obtain ⟨oe4, vs4, he4, hz4, hd4⟩ := fl4.there
          refine wpAny_mono ((hsu a oe4 cls d (X.pn ++ pins) hz4 ⟨_, hd4⟩).run [] _ _ H' _ (J4.suite he4 hd4 na nL nF) (hyes rfl a na)) ?_ (fun _ _ z => z.elim)
          intro f s6 hsp
          cases f with
          | ret u =>
            obtain ⟨v6, σ6, H6, S6, r6, q6⟩ := hsp
            exact ⟨_, _, _, S6.unsuite ok, r6, q6⟩
          | next =>
            obtain ⟨σ6, H6, S6, q6⟩ := hsp
            exact ⟨_, _, S6.unsuite ok, q6⟩
          | brk =>
            obtain ⟨σ6, H6, S6, q6⟩ := hsp
            exact ⟨_, _, S6.unsuite ok, q6⟩
          | cont =>
            obtain ⟨σ6, H6, S6, q6⟩ := hsp
            exact ⟨_, _, S6.unsuite ok, q6⟩
        | false => exact ih (hno rfl)
      | @named x n i c ts b0 suite np ps hds2 l2 hN hi hl hc hsu r ih =>
        intro w
        obtain ⟨b, hb1, hyes, hno⟩ := w
        refine wpAny_handleBy_cons (codeAny_handlers_test ?_) (fun q => by cases q)
        refine ask hc ((PySem.W.exm_one (M := model X.prog X.w) (J3.kIn) typ hb1).here ?_)
        cases b with
        | true =>
          refine codeAny_handlers_suite_as (HandSPX.lands_againZ fl3 ?_)
          intro h4 fl4 up4
          have J4 : Inv X pins σ' H' { s1 with heap := h4 } := J.landed nb fl4.1 ((up.trans up3).trans up4) os ag
          obtain ⟨oe4, vs4, he4, hz4, hd4⟩ := fl4.there
          have hloc : Loc X.env.scope n := .inl hl
          refine store_ok (X := X.suite a ((a, oe4) :: (X.pn ++ pins))) (v := .ref a) (J4.suite he4 hd4 na nL nF) hN hi hloc rfl ?_ (.inr hl)
          intro s5 S5
          refine wpAny_mono ((hsu a oe4 cls d (X.pn ++ pins) hz4 ⟨_, hd4⟩).run [] s5 _ H' _ S5 (hyes rfl a na)) ?_ (fun _ _ z => z.elim)
          intro f s6 hsp
          have gone : ∀ {σ6 : L2.St} {H6 : Hp} {Q : Shared → Prop}, Inv (X.suite a ((a, oe4) :: (X.pn ++ pins))) [] σ6 H6 s6 → (∀ s7, Inv X pins (σ6.set i none) H6 s7 → Q s7) →
              wpAny (model X.prog X.w) X.A (do bindName X.env n .none; unbindBehindTheSuite X.env n ps) (fun _ s7 => Q s7) X.xe s6 := by
            intro σ6 H6 Q S6 hq
            exact gone_ok (S6.unsuite ok) hN hi hl hq
          cases f with
          | ret u =>
            obtain ⟨v6, σ6, H6, S6, r6, q6⟩ := hsp
            exact gone S6 fun s7 J7 => ⟨_, _, _, J7, r6, q6⟩
          | next =>
            obtain ⟨σ6, H6, S6, q6⟩ := hsp
            exact gone S6 fun s7 J7 => ⟨_, _, J7, q6⟩
          | brk =>
            obtain ⟨σ6, H6, S6, q6⟩ := hsp
            exact gone S6 fun s7 J7 => ⟨_, _, J7, q6⟩
          | cont =>
            obtain ⟨σ6, H6, S6, q6⟩ := hsp
            exact gone S6 fun s7 J7 => ⟨_, _, J7, q6⟩
        | false => exact ih (hno rfl)
    exact main hh w
  · intro f s1 hsp
    cases f with
    | ret u =>
      obtain ⟨v, σ', H', J', r, q⟩ := hsp
      exact ⟨v, σ', H', J'.ofTry ok, r, q⟩
    | next =>
      obtain ⟨σ', H', J', q⟩ := hsp
      exact wpAny_execs_nil ⟨σ', H', J'.ofTry ok, q⟩
    | brk =>
      obtain ⟨σ', H', J', q⟩ := hsp
      exact ⟨σ', H', J'.ofTry ok, q⟩
    | cont =>
      obtain ⟨σ', H', J', q⟩ := hsp
      exact ⟨σ', H', J'.ofTry ok, q⟩
end
/-! ### repr of data -/
def rReprD (K : PySem.W.Frag) : List V → Hp → VK → Prop := fun xs H Q => ∃ (x : V) (d : PyData), xs = [x] ∧ Dp K H x d ∧ d.showable = true ∧ d.hasDict = false ∧ d.depth ≤ 50 ∧ d.shown.length ≤ sizeLine ∧ Q (.str d.shown) H
theorem call_reprD {X : Cx} (hu : X.A.units + 64 < cLine) (hg : X.A.guards = some []) : CallR X (.builtin "repr") (rReprD X.K) := by
  intro pins s σ H xs us Q I r h
  obtain ⟨x, d, rfl, hd, hs, hn, hp, hz, q⟩ := h
  obtain ⟨u, rfl, ru⟩ := vals1 r
  obtain ⟨as, rd⟩ := Dp.reads I d x u hd ru
  cases hd with
  | non =>
    cases (show u = Value.none from ru)
    exact PySem.P.repr_of_none ⟨.str _, H, I.tok _, ⟨_, rfl⟩, q⟩
  | bl b =>
    cases (show u = Value.bool b from ru)
    exact PySem.P.repr_of_bool ⟨.str _, H, I.tok _, ⟨_, rfl⟩, q⟩
  | int i =>
    obtain ⟨t, rfl⟩ := (show ∃ t, u = Value.int i t from ru)
    exact PySem.P.repr_of_int (by simpa [PyData.showable] using hs) ⟨.str _, H, I.tok _, ⟨_, rfl⟩, q⟩
  | str y =>
    obtain ⟨t, rfl⟩ := (show ∃ t, u = Value.str y t from ru)
    exact PySem.P.repr_of_str ⟨.str _, H, I.tok _, ⟨_, rfl⟩, q⟩ hz
  | @lst a ys ds h1 h2 =>
    cases (show u = Value.ref a from ru)
    refine repr_of_reads' rd hs (PyData.noDict_hsm hn) hg (by omega) (fun _ _ e => e) ?_ hz
    intro h' u tk k
    exact ⟨.str _, H, I.kept k, ⟨_, rfl⟩, q⟩
  | @tup a ys ds h1 h2 =>
    cases (show u = Value.ref a from ru)
    refine repr_of_reads' rd hs (PyData.noDict_hsm hn) hg (by omega) (fun _ _ e => e) ?_ hz
    intro h' u tk k
    exact ⟨.str _, H, I.kept k, ⟨_, rfl⟩, q⟩
end Wf
namespace Wf
open PySem PySem.Spec PyProof.Rows L2
/-! ### objects of ours that are not tracked -/
structure Own (X : Cx) (pins : List (Addr × Obj)) (a : Addr) : Prop where
  sz : X.s_0.heap.objs.size ≤ a
  ne : a ≠ X.env.locals
  ce : ∀ x c, X.env.cells.lookup x = some c → c ≠ a
  pn : ∀ p ∈ X.pn ++ pins, p.1 ≠ a
  fs : a ∉ X.fs
section
variable {X : Cx} {pins : List (Addr × Obj)} {σ : L2.St} {H : Hp} {s : Shared} {a : Addr}
theorem own_of (I : Inv X pins σ H s) (h : s.heap.objs.size ≤ a) : Own X pins a := by
  have le : ∀ {b : Addr} {o : Obj}, s.heap.get? b = some o → b ≠ a := fun q => Nat.ne_of_lt (Nat.lt_of_lt_of_le (Heap.lt_size q) h)
  refine ⟨Nat.le_trans I.sz h, fun e => ?_, fun x c e => ?_, fun p hp => le (I.pin p hp).1, I.nofs h⟩
  · have := I.lt
    rw [← e] at this
    exact absurd (Nat.lt_of_lt_of_le this h) (Nat.lt_irrefl _)
  · obtain ⟨v, o, ho, _⟩ := I.cell x c e
    exact le ho
/-- one of ours is tracked from here on -/
theorem track (I : Inv X pins σ H s) (O : Own X pins a) (hn : H a = none) {o : HO} (ok : ObjOk X.prog X.w (upd H a o) s.heap a o) : Inv X pins σ (upd H a o) s := by
  have ne : ∀ {b : Addr} {u : HO}, H b = some u → b ≠ a := fun e => ne_of_none e hn
  have nb : ∀ {b : Addr}, b ∉ [a] → b ≠ a := fun h e => h (by rw [e]; exact List.mem_singleton.mpr rfl)
  exact I.step (h' := s.heap) (g' := s.gens) (d' := s.drawn) (t' := s.toks) (ch := [a]) (fun b hb => by rw [List.mem_singleton.mp hb]; exact ⟨.inr O.sz, O.ne, O.ce, O.pn⟩)
    (fun b u _ _ _ e _ => e) (fun b u _ _ _ e _ => ⟨u.slots, e⟩) (fun b u hb _ n => by rw [upd_ne (nb hb)]; exact n) (fun b u _ e => ⟨u, e⟩)
    (fun b xs e => by rw [upd_ne (ne e)]; exact e) (fun b u v e => by rw [upd_ne (ne e)]; exact e) (fun b ps e => ⟨#[], by rw [upd_ne (ne e), e]; simp⟩) (fun m hm => hm)
    (fun b u e => by
      by_cases hb : b = a
      · subst hb
        rw [upd_same] at e
        cases e
        exact ok
      · rw [upd_ne hb] at e
        exact (I.hok b u e).stay (fun c v _ q => q) (fun c q => by rw [upd_ne (ne q)]; exact q) fun c xs q => by rw [upd_ne (ne q)]; exact q) I.bare
theorem Inv.own1 (I : Inv X pins σ H s) (O : Own X pins a) {ob : Obj} (ha : s.heap.get? a = some ob) (hn : H a = none) (hc : ∀ v, ob.data ≠ .cell v) : Inv X ((a, ob) :: pins) σ H s :=
  I.pins_of fun p hp => by
    rcases List.mem_cons.mp hp with e | hp
    · rw [e]
      exact ⟨ha, hn, O.ne, O.fs, hc⟩
    · exact I.pin p (List.mem_append_right _ hp)
theorem Inv.own0 {q : Addr × Obj} (I : Inv X (q :: pins) σ H s) : Inv X pins σ H s := I.pins_of fun p hp => I.pin p (List.mem_append_right _ (List.mem_cons_of_mem _ hp))
theorem runA {A' : Around} {k : Nat} {f : Addr} {fd : FuncData} {ps : List Str} {sp : Sp} {Q : VK} {us : List Value} {vs : List V} (F : FnR X.prog X.w X.K X.mg X.base k f fd ps sp) (hr : Rm k A') (hf : A'.frames = X.A.frames) (hb : Binds X.K fd ps [])
    (I : Inv X pins σ H s) (r : Vals vs us) (h : sp vs H Q E0) : wpAny (model X.prog X.w) A' (call (.ref f) us) (EP X pins σ Q) (fun _ _ => False) s := by
  have hl : us.length = ps.length := r.length.symm.trans (F.len _ _ _ _ h)
  have b := hb s us I.kIn (by rw [List.append_nil]; exact hl)
  rw [List.append_nil] at b
  have e0 := I.env0
  refine wpAny_call (codeAny_mono (F.run A' X.stack s H ⟨us, []⟩ us vs Q E0 hr ⟨hf ▸ e0.frames, e0.mod, e0.bs, e0.bsz, e0.funs, e0.frf, e0.hok, e0.bare⟩ b r h) ?_)
  intro r1 s1 hq
  cases r1 with
  | error e =>
    obtain ⟨_, _, _, _, _, _, _, _, _, _, _, _, z⟩ := hq
    exact z.elim
  | ok fl =>
    cases fl with
    | ret u => exact I.after hq
    | next => exact hq.elim
    | brk => exact hq.elim
    | cont => exact hq.elim
end
/-! ### keys (int, text) -/
def lexS (p q : Int × Str) : Bool := if p.1 = q.1 then decide (p.2.cps.toList < q.2.cps.toList) else decide (p.1 < q.1)
theorem lexS_yes {p q : Int × Str} : lexS p q = true ↔ p.1 < q.1 ∨ (p.1 = q.1 ∧ p.2.cps.toList < q.2.cps.toList) := by
  unfold lexS
  by_cases h : p.1 = q.1
  · rw [if_pos h]
    simp [h]
  · rw [if_neg h]
    simp [h]
theorem lexS_no {p q : Int × Str} : lexS p q = false ↔ ¬ (p.1 < q.1 ∨ (p.1 = q.1 ∧ p.2.cps.toList < q.2.cps.toList)) := by
  rw [← lexS_yes]
  cases lexS p q <;> simp
theorem nlt_trans {a b c : List Nat} (h1 : ¬ b < a) (h2 : ¬ c < b) : ¬ c < a := by
  have h1' : a ≤ b := List.not_lt.mp h1
  have h2' : b ≤ c := List.not_lt.mp h2
  exact List.not_lt.mpr (List.le_trans h1' h2')
theorem swo_lexS {α : Type} (k : α → Int × Str) : SrtO.Swo fun v u => lexS (k v) (k u) := by
  refine ⟨fun x y h => ?_, fun x y z h1 h2 => ?_⟩
  · rcases lexS_yes.mp h with a | ⟨a, b⟩
    · refine lexS_no.mpr ?_
      rintro (c | ⟨c, _⟩) <;> omega
    · refine lexS_no.mpr ?_
      rintro (c | ⟨_, c⟩)
      · omega
      · exact List.lt_asymm b c
  · have a := lexS_no.mp h1
    have b := lexS_no.mp h2
    refine lexS_no.mpr ?_
    rintro (c | ⟨c, d⟩)
    · have h3 : (k x).1 ≤ (k y).1 := Int.not_lt.mp fun q => a (Or.inl q)
      have h4 : (k y).1 ≤ (k z).1 := Int.not_lt.mp fun q => b (Or.inl q)
      omega
    · have h3 : (k x).1 ≤ (k y).1 := Int.not_lt.mp fun q => a (Or.inl q)
      have h4 : (k y).1 ≤ (k z).1 := Int.not_lt.mp fun q => b (Or.inl q)
      have e1 : (k y).1 = (k x).1 := by omega
      have e2 : (k z).1 = (k y).1 := by omega
      exact nlt_trans (fun q => a (Or.inr ⟨e1, q⟩)) (fun q => b (Or.inr ⟨e2, q⟩)) d
/-- at v a tuple (p.1, p.2) -/
def IsKey (h : Heap) (v : Value) (p : Int × Str) : Prop := ∃ a o t u n, v = .ref a ∧ h.get? a = some o ∧ o.cls = .type "tuple" ∧ o.data = .seq #[.int p.1 t, .str p.2 u] n
theorem isKey_of {X : Cx} {pins : List (Addr × Obj)} {σ : L2.St} {H : Hp} {s : Shared} {a : Addr} {p : Int × Str} (I : Inv X pins σ H s) (h : H a = some (.tup [.int p.1, .str p.2])) : IsKey s.heap (.ref a) p := by
  obtain ⟨_, its, rv, o, ho, hc, n, hd⟩ := (show ObjOk X.prog X.w H s.heap a (.tup [.int p.1, .str p.2]) from I.hok a _ h)
  cases rv with
  | cons r1 r2 =>
    cases r2 with
    | cons r3 r4 =>
      cases r4
      obtain ⟨t, rfl⟩ := (show ∃ t, _ = Value.int p.1 t from r1)
      obtain ⟨u, rfl⟩ := (show ∃ t, _ = Value.str p.2 t from r3)
      exact ⟨a, o, t, u, n, rfl, ho, hc, hd⟩
section
variable {prog : Program} {w : World} {A : Around} {s : Shared}
theorem key_lt {v u : Value} {p q : Int × Str} (h1 : IsKey s.heap v p) (h2 : IsKey s.heap u q) : wpAny (model prog w) A (keyLt' (tuples' true) v u) (fun r s' => s' = s ∧ r = lexS p q) (fun _ _ => False) s := by
  obtain ⟨x, y⟩ := p
  obtain ⟨x', y'⟩ := q
  obtain ⟨a, o, t, u, n, e, ho, hc, hd⟩ := h1
  obtain ⟨a', o', t', u', n', e', ho', hc', hd'⟩ := h2
  rw [e, e']
  dsimp only at hd hd'
  refine PySem.W.kat_lt ho hd ho' hd' ?_
  show PySem.W.KatLex prog w A true (decide (2 < 2)) _ [(.int x t, .int x' t'), (.str y u, .str y' u')] 0 s
  refine PySem.W.kat_cons (SeqAt.EqAt.int_int x t x' t' prog w _ _ (PySem.W.kat_go (fun e1 => ?_) (fun e1 => ?_)))
  · have ex : x = x' := by simpa using e1
    refine PySem.W.kat_yes (PySem.W.kat_cons (SeqAt.EqAt.str_str y u y' u' prog w _ _ (PySem.W.kat_go (fun e2 => ?_) (fun e2 => ?_))))
    · have ey : y = y' := by simpa using e2
      refine PySem.W.kat_yes (PySem.W.kat_nil ⟨rfl, ?_⟩)
      subst ey
      subst ex
      show decide (2 < 2) = _
      unfold lexS
      rw [if_pos rfl]
      simp
    · refine PySem.W.kat_no (PySem.W.kat_one _ _ (PySem.P.lt_str ?_))
      show s = s ∧ decide (y.cps.toList < y'.cps.toList) = lexS (x, y) (x', y')
      unfold lexS
      rw [if_pos ex]
      exact ⟨rfl, rfl⟩
  · have ex : ¬ x = x' := by simpa using e1
    refine PySem.W.kat_no (oneLt_int ⟨rfl, ?_⟩)
    unfold lexS
    rw [if_neg ex]
theorem key_kind {vs : List Value} (hne : 0 < vs.length) (hk : ∀ v ∈ vs, ∃ p, IsKey s.heap v p) {Q : SortKind → Shared → Prop} {E : Value → Shared → Prop} (h : Q (tuples' true) s) : wpAny (model prog w) A (keyKind' vs.toArray) Q E s := by
  have fst : ∀ (l : List Value), (∀ v ∈ l, ∃ p, IsKey s.heap v p) → ∃ fs, PySem.W.KatTups s.heap l fs ∧ fs.length = l.length ∧ ∀ f ∈ fs, ∃ x t, f = Value.int x t := by
    intro l
    induction l with
    | nil => exact fun _ => ⟨[], PySem.W.KatTups.nil, rfl, fun f hf => by cases hf⟩
    | cons v l ih =>
      intro hl
      obtain ⟨fs, a, b, c⟩ := ih fun u hu => hl u (List.mem_cons_of_mem _ hu)
      obtain ⟨p, ad, o, t, u, n, rfl, ho, hc, hd⟩ := hl v List.mem_cons_self
      refine ⟨.int p.1 t :: fs, PySem.W.KatTups.cons ho hc hd rfl a, by rw [List.length_cons, b, List.length_cons], fun f hf => ?_⟩
      rcases List.mem_cons.mp hf with e | hf
      · exact ⟨_, _, e⟩
      · exact c f hf
  obtain ⟨fs, a, b, c⟩ := fst vs hk
  refine PySem.W.kat_kind (T := .type "int") a (by omega) (fun f hm => ?_) (by rfl) ?_
  · obtain ⟨x, t, rfl⟩ := c f hm
    exact PySem.W.Looks.now
  · have e : (Value.type "int" != Value.type "tuple") = true := by first | decide +kernel | rfl
    rw [e]
    exact h
end
/-! ### sorted(d, key=f) of a dict's texts, f a def that gives pairs (int, text) -/
def txtOf : Value → Str
  | .str z _ => z
  | _ => ⟨#[]⟩
section
variable {X : Cx} {pins : List (Addr × Obj)} {σ : L2.St} {H : Hp} {s : Shared}
/-- behind i turns -/
def KeyJ (X : Cx) (pins : List (Addr × Obj)) (σ : L2.St) (H : Hp) (key : Str → Int × Str) (ks : List Str) (a kS : Addr) (e1 : Nat) (i : Nat) (s' : Shared) : Prop :=
  ∃ (H' : Hp) (kA : Array Value) (e : Nat), Inv X ((kS, seqObj "list" kA e) :: (a, seqObj "list" #[] e1) :: pins) σ H' s' ∧ Same H H' ∧ kA.size = i ∧
    ∀ (j : Nat) (u : Value) (z : Str), kA.toList[j]? = some u → ks[j]? = some z → ∃ t, u = .ref t ∧ H' t = some (.tup [.int (key z).1, .str (key z).2])
theorem key_turn {A' : Around} {k : Nat} {f : Addr} {fd : FuncData} {sp : Sp} {x : Str} {key : Str → Int × Str} {ks : List Str} {a kS : Addr} {e1 i : Nat} {z : Str} {v : Value} {Q : Shared → Prop} {E : Value → Shared → Prop}
    (F : FnR X.prog X.w X.K X.mg X.base k f fd [x] sp) (hr : Rm k A') (hf : A'.frames = X.A.frames) (hb : Binds X.K fd [x] [])
    (hsp : ∀ z ∈ ks, ∀ (H' : Hp) (Q' : VK), Same H H' → (∀ t, H' t = none → Q' (.ref t) (upd H' t (.tup [.int (key z).1, .str (key z).2]))) → sp [.str z] H' Q' E0)
    (O1 : Own X pins a) (O2 : Own X pins kS) (hka : kS ≠ a) (hz : ks[i]? = some z) (hi : i < sizeLine) (rv : RelV (.str z) v) (J : KeyJ X pins σ H key ks a kS e1 i s)
    (h : ∀ s', KeyJ X pins σ H key ks a kS e1 (i + 1) s' → Q s') :
    wpAny (model X.prog X.w) A' (call (.ref f) [v]) (fun r s1 => wpAny (model X.prog X.w) A' (Builtin.List.listUpdate (.ref kS) (·.push r)) (fun _ s2 => Q s2) E s1) (fun _ _ => False) s := by
  obtain ⟨H1, kA, e, I, sm, hsz, hk⟩ := J
  refine thn (runA F hr hf hb I (.cons rv .nil) (hsp z (List.mem_of_getElem? hz) H1 (fun y H2 => ∃ t, y = .ref t ∧ H1 t = none ∧ H2 = upd H1 t (.tup [.int (key z).1, .str (key z).2])) sm fun t ht => ⟨t, rfl, ht, rfl⟩)) ?_
  rintro r s1 ⟨y, H2, I2, ry, t, rfl, ht, rfl⟩
  obtain rfl : r = .ref t := ry
  have hkS := I2.pin (kS, seqObj "list" kA e) (List.mem_append_right _ List.mem_cons_self)
  have ha := I2.pin (a, seqObj "list" #[] e1) (List.mem_append_right _ (List.mem_cons_of_mem _ List.mem_cons_self))
  obtain ⟨c2, hc2⟩ : ∃ c2, (s1.heap.update kS (Obj.mapSeq (·.push (.ref t)))).get? kS = some (seqObj "list" (kA.push (.ref t)) c2) := ⟨_, get?_update_seq hkS.1 (·.push (.ref t))⟩
  have sb := Heap.SameBut.update s1.heap kS (Obj.mapSeq (·.push (.ref t)))
  refine listUpdate_at hkS.1 rfl ?_ (by omega) (by rw [Array.size_push]; omega)
  refine h _ ⟨upd H1 t (.tup [.int (key z).1, .str (key z).2]), kA.push (.ref t), c2, ?_, fun b o q => ?_, by rw [Array.size_push, hsz], fun j u z' hj hz' => ?_⟩
  · have I3 : Inv X ((a, seqObj "list" #[] e1) :: pins) σ (upd H1 t (.tup [.int (key z).1, .str (key z).2])) s1 := Inv.own0 I2
    have I4 := I3.turned (t' := s1.toks) (it := kS) (h' := s1.heap.update kS (Obj.mapSeq (·.push (.ref t)))) (fun b o hb q => (sb.2 b hb).trans q) hkS.2.1 O2.ne (.inr O2.sz) O2.ce fun p hp => by
      rcases List.mem_append.mp hp with q | q
      · exact O2.pn p (List.mem_append_left _ q)
      · rcases List.mem_cons.mp q with q | q
        · rw [q]
          exact hka.symm
        · exact O2.pn p (List.mem_append_right _ q)
    refine Inv.own1 I4 ⟨O2.sz, O2.ne, O2.ce, fun p hp => ?_, O2.fs⟩ hc2 hkS.2.1 (fun v q => by cases q)
    rcases List.mem_append.mp hp with q | q
    · exact O2.pn p (List.mem_append_left _ q)
    · rcases List.mem_cons.mp q with q | q
      · rw [q]
        exact hka.symm
      · exact O2.pn p (List.mem_append_right _ q)
  · rw [upd_ne (ne_of_none (sm _ _ q) ht)]
    exact sm _ _ q
  · by_cases hji : j = i
    · subst hji
      rw [hz] at hz'
      cases hz'
      have e5 : (kA.push (Value.ref t)).toList = kA.toList ++ [Value.ref t] := by simp
      rw [e5, List.getElem?_append_right (by rw [Array.length_toList]; omega), Array.length_toList, hsz, Nat.sub_self] at hj
      cases hj
      exact ⟨t, rfl, upd_same⟩
    · have hlt : j < kA.size := by
        have q := (List.getElem?_eq_some_iff.mp hj).1
        rw [Array.length_toList, Array.size_push] at q
        omega
      have e5 : (kA.push (Value.ref t)).toList = kA.toList ++ [Value.ref t] := by simp
      rw [e5, List.getElem?_append_left (by rw [Array.length_toList]; omega)] at hj
      obtain ⟨t', e6, e7⟩ := hk j u z' hj hz'
      exact ⟨t', e6, by rw [upd_ne (ne_of_none e7 ht)]; exact e7⟩
/-- what the sort's end leaves -/
def SortE (X : Cx) (pins : List (Addr × Obj)) (σ : L2.St) (H' : Hp) (key : Str → Int × Str) (vs : List Value) (a : Addr) (s' : Shared) : Prop :=
  ∃ (out : Array Value) (c : Nat), Inv X ((a, seqObj "list" out c) :: pins) σ H' s' ∧ out.toList.Perm vs ∧ out.toList.Pairwise (fun x y => lexS (key (txtOf y)) (key (txtOf x)) = false)
theorem key_tail {A' : Around} {key : Str → Int × Str} {vs : List Value} {a kS : Addr} {e e1 : Nat} {kA : Array Value} {st : SortSt} {R : PySem.Fin → Shared → Prop} {E : Value → Shared → Prop}
    (I : Inv X ((kS, seqObj "list" kA e) :: (a, seqObj "list" #[] e1) :: pins) σ H s) (O1 : Own X pins a) (O2 : Own X pins kS) (hka : kS ≠ a) (hl : kA.size = vs.length) (hZ : vs.length ≤ sizeLine)
    (hp : ((arrOf st).map (·.2)).toList.Perm vs) (hs : ((arrOf st).map (·.2)).toList.Pairwise (fun x y => lexS (key (txtOf y)) (key (txtOf x)) = false)) (hfl : failedOf st = none)
    (h : ∀ s', SortE X pins σ H key vs a s' → R (.done (.ret .none)) s') : wpAny (model X.prog X.w) A' (ksk_tail a false e1 (.ref kS) st) R E s := by
  obtain ⟨S, hS⟩ : ∃ S, S = (arrOf st).map (·.2) := ⟨_, rfl⟩
  rw [← hS] at hp hs
  have hkS := I.pin (kS, seqObj "list" kA e) (List.mem_append_right _ List.mem_cons_self)
  have ha := I.pin (a, seqObj "list" #[] e1) (List.mem_append_right _ (List.mem_cons_of_mem _ List.mem_cons_self))
  have s1 := Heap.SameBut.update s.heap kS (Obj.mapSeq fun _ => (#[] : Array Value))
  have na1 : (s.heap.update kS (Obj.mapSeq fun _ => (#[] : Array Value))).get? a = some (seqObj "list" #[] e1) := (s1.2 a hka.symm).trans ha.1
  have s2 := Heap.SameBut.update (s.heap.update kS (Obj.mapSeq fun _ => (#[] : Array Value))) a (Obj.mapSeq fun _ => S)
  obtain ⟨c2, hc2⟩ : ∃ c2, ((s.heap.update kS (Obj.mapSeq fun _ => (#[] : Array Value))).update a (Obj.mapSeq fun _ => S)).get? a = some (seqObj "list" S c2) :=
    ⟨_, get?_update_seq na1 fun _ => S⟩
  have hout : S.size ≤ sizeLine + 1 := by
    have q := hp.length_eq
    rw [Array.length_toList] at q
    omega
  have I3 : Inv X pins σ H s := Inv.own0 (Inv.own0 I)
  have I4 := I3.turned (t' := s.toks) (it := kS) (h' := s.heap.update kS (Obj.mapSeq fun _ => (#[] : Array Value))) (fun b o hb q => (s1.2 b hb).trans q) hkS.2.1 O2.ne (.inr O2.sz) O2.ce O2.pn
  have I5 := I4.turned (t' := s.toks) (it := a) (h' := (s.heap.update kS (Obj.mapSeq fun _ => (#[] : Array Value))).update a (Obj.mapSeq fun _ => S)) (fun b o hb q => (s2.2 b hb).trans q) ha.2.1 O1.ne (.inr O1.sz) O1.ce O1.pn
  have I6 := Inv.own1 I5 O1 hc2 ha.2.1 (fun v q => by cases q)
  unfold ksk_tail
  try dsimp only
  refine wpAny_bind (listUpdate_at hkS.1 rfl ?_ (by omega) (Nat.zero_le _))
  refine wpAny_bind (wpAny_letGo ?_)
  refine wpAny_bind (seqEpoch_at na1 rfl ?_)
  simp only [Bool.false_eq_true, if_false]
  rw [← hS]
  refine wpAny_bind (listUpdate_at na1 rfl ?_ (Nat.zero_le _) hout)
  rw [hfl]
  simp only [bne_self_eq_false, Bool.false_eq_true, if_false]
  exact wpAny_pure (h _ ⟨_, c2, I6, hp, hs⟩)
theorem key_end {A' : Around} {key : Str → Int × Str} {vs : List Value} {a kS : Addr} {e e1 : Nat} {kA : Array Value} {R : PySem.Fin → Shared → Prop} {E : Value → Shared → Prop}
    (I : Inv X ((kS, seqObj "list" kA e) :: (a, seqObj "list" #[] e1) :: pins) σ H s) (O1 : Own X pins a) (O2 : Own X pins kS) (hka : kS ≠ a) (hl : kA.size = vs.length) (hZ : vs.length ≤ sizeLine)
    (hk : ∀ (j : Nat) (u v : Value), kA.toList[j]? = some u → vs[j]? = some v → IsKey s.heap u (key (txtOf v)))
    (h : ∀ s', SortE X pins σ H key vs a s' → R (.done (.ret .none)) s') : wpAny (model X.prog X.w) A' (ksk_end a false vs.toArray e1 (.ref kS) kA) R E s := by
  have hpl : (kA.zip vs.toArray).toList = kA.toList.zip vs := ksk_zip kA vs
  have hsnd : ((kA.zip vs.toArray).map (·.2)).toList = vs := by
    rw [Array.toList_map, hpl]
    exact List.map_snd_zip (by rw [show kA.toList.length = kA.size from Array.length_toList]; omega)
  unfold ksk_end
  try dsimp only
  simp only [Bool.false_eq_true, if_false]
  by_cases h2 : vs.toArray.size < 2
  · rw [if_pos h2, if_pos h2]
    refine wpAny_bind (wpAny_pure ?_)
    rw [StateT.run_pure]
    refine wpAny_bind (wpAny_pure ?_)
    try dsimp only
    refine key_tail (st := SortSt.mk' general' (kA.zip vs.toArray) #[] 7 none) I O1 O2 hka hl hZ ?_ ?_ rfl h
    · show ((kA.zip vs.toArray).map (·.2)).toList.Perm vs
      rw [hsnd]
    · show List.Pairwise _ ((kA.zip vs.toArray).map (·.2)).toList
      rw [hsnd]
      rw [List.size_toArray] at h2
      match vs, h2 with
      | [], _ => exact List.Pairwise.nil
      | [v], _ => exact List.pairwise_singleton _ _
  · rw [if_neg h2, if_neg h2]
    have hne0 : 0 < kA.toList.length := by
      rw [Array.length_toList, hl]
      rw [List.size_toArray] at h2
      omega
    have hall : SrtO.AllL (fun p : Keyed => IsKey s.heap p.1 (key (txtOf p.2))) (kA.zip vs.toArray).toList := by
      intro p hp
      rw [hpl] at hp
      obtain ⟨j, hj⟩ := List.getElem?_of_mem hp
      obtain ⟨q1, q2⟩ := List.getElem?_zip_eq_some.mp hj
      exact hk j _ _ q1 q2
    have hkk : ∀ u ∈ kA.toList, ∃ p, IsKey s.heap u p := by
      intro u hu
      obtain ⟨j, hj⟩ := List.getElem?_of_mem hu
      have hjl : j < vs.length := by
        have q := (List.getElem?_eq_some_iff.mp hj).1
        rw [Array.length_toList] at q
        omega
      exact ⟨_, hk j u vs[j] hj (List.getElem?_eq_getElem hjl)⟩
    have ekA : kA = kA.toList.toArray := by rw [Array.toArray_toList]
    rw [ekA]
    refine wpAny_bind (key_kind hne0 hkk ?_)
    rw [← ekA]
    refine wpAny_bind (wpAny_mono (SrtO.wpS_sortO (lt := fun p q : Keyed => lexS (key (txtOf p.2)) (key (txtOf q.2))) (P := fun p : Keyed => IsKey s.heap p.1 (key (txtOf p.2))) (κ := tuples' true) (st0 := SortSt.mk' (tuples' true) (kA.zip vs.toArray) #[] 7 none)
      (Q := fun _ st' => SrtO.Srtd (fun p q : Keyed => lexS (key (txtOf p.2)) (key (txtOf q.2))) (arrOf st').toList ∧ (arrOf st').toList.Perm (kA.zip vs.toArray).toList ∧ failedOf st' = none)
      (swo_lexS fun p : Keyed => key (txtOf p.2)) (fun p q hp hq => key_lt hp hq) rfl hall rfl rfl fun st' a1 a2 a3 => ⟨a1, a2.perm, a3⟩) ?_ fun _ _ e => e)
    rintro ⟨⟨⟩, st'⟩ s' ⟨rfl, hs1, hp1, hf⟩
    try dsimp only
    refine key_tail (st := st') I O1 O2 hka hl hZ ?_ ?_ hf h
    · rw [Array.toList_map]
      have q := hp1.map (fun p : Keyed => p.2)
      rw [← Array.toList_map (xs := kA.zip vs.toArray), hsnd] at q
      exact q
    · rw [Array.toList_map]
      exact List.pairwise_map.mpr hs1
theorem key_rest {A' : Around} {k : Nat} {f : Addr} {fd : FuncData} {sp : Sp} {x : Str} {key : Str → Int × Str} {ks : List Str} {vs : List Value} {a kS : Addr} {e1 : Nat} {R : PySem.Fin → Shared → Prop} {E : Value → Shared → Prop}
    (F : FnR X.prog X.w X.K X.mg X.base k f fd [x] sp) (hr : Rm k A') (hf : A'.frames = X.A.frames) (hb : Binds X.K fd [x] [])
    (hsp : ∀ z ∈ ks, ∀ (H' : Hp) (Q' : VK), Same H H' → (∀ t, H' t = none → Q' (.ref t) (upd H' t (.tup [.int (key z).1, .str (key z).2]))) → sp [.str z] H' Q' E0)
    (O1 : Own X pins a) (O2 : Own X pins kS) (hka : kS ≠ a) (hlen : vs.length = ks.length) (hZ : vs.length < sizeLine) (hvs : ∀ (j : Nat) (v : Value), vs[j]? = some v → ∃ z, ks[j]? = some z ∧ RelV (.str z) v)
    (J : KeyJ X pins σ H key ks a kS e1 0 s) (h : ∀ s' H', Same H H' → SortE X pins σ H' key vs a s' → R (.done (.ret .none)) s') :
    wpAny (model X.prog X.w) A' (ksk_rest a (.ref f) false vs.toArray e1 (.ref kS)) R E s := by
  unfold ksk_rest
  refine wpAny_bind (wpAny_rule ?_)
  first
    | rw [List.forIn_toArray]
    | (rw [← Array.forIn_toList]; simp only [List.toList_toArray])
    | rw [← Array.forIn_toList]
  refine wpAny_bind (ksk_fold (fun i s' => KeyJ X pins σ H key ks a kS e1 i s') vs 0 s J ?step ?done)
  case step =>
    intro j v s' hv hJ
    obtain ⟨z, hz, rv⟩ := hvs j v hv
    have hj := (List.getElem?_eq_some_iff.mp hv).1
    rw [Nat.zero_add] at hJ ⊢
    refine wpAny_bind (wpAny_attempt (wpAny_mono (key_turn (Q := fun s2 => KeyJ X pins σ H key ks a kS e1 (j + 1) s2) (E := E) F hr hf hb hsp O1 O2 hka hz (by omega) rv hJ fun s2 q => q) (fun r s1 hq => ?_) fun _ _ z => z.elim))
    try dsimp only
    exact wpAny_bind (thn hq fun _ s2 q => wpAny_pure ⟨rfl, q⟩)
  case done =>
    intro s' hJ
    rw [Nat.zero_add] at hJ
    obtain ⟨H', kA, e, I, sm, hsz, hk⟩ := hJ
    have hkS := I.pin (kS, seqObj "list" kA e) (List.mem_append_right _ List.mem_cons_self)
    try dsimp only
    refine wpAny_bind (listItems_at hkS.1 rfl ?_)
    refine key_end I O1 O2 hka hsz (Nat.le_of_lt hZ) (fun j u v hu hv => ?_) fun s2 q => h s2 H' sm q
    obtain ⟨z, hz, t, rfl⟩ := hvs j v hv
    obtain ⟨t', rfl, ht⟩ := hk j u z hu hz
    exact isKey_of I ht
end
def rSortKD (sp : Sp) (f : Addr) : List V → List V → Hp → VK → Prop := fun vs zs H Q => ∃ (d : Addr) (kvs : List (Key × V)) (ks : List Str) (key : Str → Int × Str), vs = [.ref d] ∧ zs = [.ref f] ∧ Rd H d (.dK kvs) ∧ kvs.map (·.1) = ks.map Sum.inr ∧ ks.length < sizeLine ∧
  (∀ z ∈ ks, ∀ (H' : Hp) (Q' : VK), Same H H' → (∀ t, H' t = none → Q' (.ref t) (upd H' t (.tup [.int (key z).1, .str (key z).2]))) → sp [.str z] H' Q' E0) ∧
  ∀ (ys : List Str) (p : Addr) (H' : Hp), ys.Perm ks → ys.Pairwise (fun x y => lexS (key y) (key x) = false) → Same H H' → H p = none → H' p = some (.lst (ys.map V.str)) → Q (.ref p) H'
theorem cr_sortK {X : Cx} {k : Nat} {f : Addr} {fd : FuncData} {sp : Sp} {x : Str} (hcalm : X.calm = true) (F : FnR X.prog X.w X.K X.mg X.base k f fd [x] sp) (hr : Rm (k + 2) X.A) (hb : Binds X.K fd [x] []) :
    CallRK X (.builtin "sorted") [Str.ofString "key"] (rSortKD sp f) := by
  intro pins s σ H vs zs us ws Q I r rz h
  obtain ⟨d, kvs, ks, key, rfl, rfl, hd, hks, hz, hsp, q⟩ := h
  obtain rfl := Vals.ref1 r
  obtain ⟨w1, rfl, e1⟩ := vals1 rz
  obtain rfl : w1 = Value.ref f := e1
  obtain ⟨z, lo, us, rel, dd⟩ := dk_rd I.hok hd
  obtain ⟨ep, hat⟩ := dd.dictAt
  have hkeys : us.map (·.1) = ks.map Sum.inr := rel.keys.symm.trans hks
  have hl : us.length = ks.length := by
    have e := congrArg List.length hkeys
    simpa using e
  show wpAny (model X.prog X.w) X.A (call (.builtin "sorted") [.ref d] [(Str.ofString "key", .ref f)]) _ _ s
  refine call_function_entry_kw kind_sorted plain_sorted entry_sorted (ksk_s1 _ _) ?_
  unfold Builtin.«sorted»
  refine wpAny_bind (m := checkCount "sorted" 1 1 _) (wpAny_pure ?_)
  refine wpAny_bind (PySem.W.kdu_collect (A := X.A.in1) (PySem.W.kdl_dict (knd := mixKind X.prog X.w) (kvs := us) (ep := ep) lo) (I.ok.hd hcalm) hat (by omega) fun h' tk acc hk hacc => ?_)
  have hal : acc.toList.length = ks.length := by rw [Array.length_toList, hacc.1, hl]
  have hvs : ∀ (j : Nat) (v : Value), acc.toList[j]? = some v → ∃ y, ks[j]? = some y ∧ RelV (.str y) v := by
    intro j v e
    obtain ⟨k', x', e1, e2⟩ := hacc.2 j v (by rw [← Array.getElem?_toList]; exact e)
    have e3 : (us.map (·.1))[j]? = some k' := by
      rw [List.getElem?_map, e1]
      rfl
    rw [hkeys, List.getElem?_map] at e3
    cases e4 : ks[j]? with
    | none =>
      rw [e4] at e3
      cases e3
    | some y =>
      rw [e4] at e3
      have e5 : Sum.inr y = k' := Option.some.inj e3
      subst e5
      obtain ⟨t, ev⟩ := Value.isStrOf_shape (x := y) (v := v) e2
      exact ⟨y, rfl, t, ev⟩
  have I1 : Inv X pins σ H { s with heap := h', toks := tk } := I.kept hk
  refine wpAny_bind (wpAny_newList ?_ (by omega))
  have hoL : (h'.push (seqObj "list" acc.toList.toArray 0)).get? h'.objs.size = some (seqObj "list" acc.toList.toArray 0) := Heap.get?_push_size _ rfl
  show wpAny _ _ _ _ _ { s with heap := h'.push (seqObj "list" acc.toList.toArray 0), toks := tk }
  refine wpAny_bind (wpAny_holding (wpAny_call_entry_kw slot_list_sort ⟨_, hoL, rfl⟩ entry_list_sort ?body (ksk_l1 _ _)))
  case body =>
    show wpAny (model X.prog X.w) X.A.in1.in1 (Builtin.«list.sort» ⟨[.ref h'.objs.size], [(Str.ofString "key", .ref f)]⟩) _ _ _
    rw [ksk_t1]
    have sb := Heap.SameBut.update (h'.push (seqObj "list" acc.toList.toArray 0)) h'.objs.size (Obj.mapSeq fun _ => (#[] : Array Value))
    obtain ⟨e1, ho1⟩ : ∃ e1, ((h'.push (seqObj "list" acc.toList.toArray 0)).update h'.objs.size (Obj.mapSeq fun _ => (#[] : Array Value))).get? h'.objs.size = some (seqObj "list" #[] e1) := ⟨_, get?_update_seq hoL fun _ => #[]⟩
    unfold ksk_tree
    refine wpAny_bind (listItems_at hoL rfl ?_)
    refine wpAny_bind (listUpdate_at hoL rfl ?_ (by rw [List.size_toArray]; omega) (Nat.zero_le _))
    refine wpAny_bind (seqEpoch_at ho1 rfl ?_)
    refine wpAny_bind (wpAny_newTuple ?_ (by show acc.toList.length ≤ _; omega))
    refine wpAny_bind (wpAny_newList ?_ (Nat.zero_le _))
    refine wpAny_holding ?_
    have hs2 : ((h'.push (seqObj "list" acc.toList.toArray 0)).update h'.objs.size (Obj.mapSeq fun _ => (#[] : Array Value))).objs.size = h'.objs.size + 1 := by rw [Heap.size_update, size_push']
    have hs3 : (((h'.push (seqObj "list" acc.toList.toArray 0)).update h'.objs.size (Obj.mapSeq fun _ => (#[] : Array Value))).push (seqObj "tuple" acc.toList.toArray 0)).objs.size = h'.objs.size + 2 := by rw [size_push', hs2]
    have O1 : Own X pins h'.objs.size := own_of I1 (Nat.le_refl _)
    have O2 : Own X pins (h'.objs.size + 2) := own_of I1 (Nat.le_add_right _ _)
    have keep : ∀ b o, h'.get? b = some o → ((((h'.push (seqObj "list" acc.toList.toArray 0)).update h'.objs.size (Obj.mapSeq fun _ => (#[] : Array Value))).push (seqObj "tuple" acc.toList.toArray 0)).push (seqObj "list" #[] 0)).get? b = some o := fun b o e =>
      Heap.get?_push_of_some _ (Heap.get?_push_of_some _ ((sb.2 b (Nat.ne_of_lt (Heap.lt_size e))).trans (Heap.get?_push_of_some _ e)))
    have I3 : Inv X pins σ H { s with heap := (((h'.push (seqObj "list" acc.toList.toArray 0)).update h'.objs.size (Obj.mapSeq fun _ => (#[] : Array Value))).push (seqObj "tuple" acc.toList.toArray 0)).push (seqObj "list" #[] 0), toks := tk } :=
      I.kept (t' := tk) fun b o e => keep b o (hk b o e)
    have ha3 : ((((h'.push (seqObj "list" acc.toList.toArray 0)).update h'.objs.size (Obj.mapSeq fun _ => (#[] : Array Value))).push (seqObj "tuple" acc.toList.toArray 0)).push (seqObj "list" #[] 0)).get? h'.objs.size = some (seqObj "list" #[] e1) :=
      Heap.get?_push_of_some _ (Heap.get?_push_of_some _ ho1)
    have hkS3 : ((((h'.push (seqObj "list" acc.toList.toArray 0)).update h'.objs.size (Obj.mapSeq fun _ => (#[] : Array Value))).push (seqObj "tuple" acc.toList.toArray 0)).push (seqObj "list" #[] 0)).get? (h'.objs.size + 2) = some (seqObj "list" #[] 0) := by
      rw [← hs3]
      exact Heap.get?_push_size _ rfl
    have na : H h'.objs.size = none := I1.hok.fresh (Nat.le_refl _)
    have nk : H (h'.objs.size + 2) = none := I1.hok.fresh (Nat.le_add_right _ _)
    have ne : h'.objs.size + 2 ≠ h'.objs.size := Nat.ne_of_gt (Nat.lt_add_of_pos_right (by decide))
    have I4 := Inv.own1 I3 O1 ha3 na (fun v q => by cases q)
    have I5 := Inv.own1 I4 ⟨O2.sz, O2.ne, O2.ce, fun p hp => by
      rcases List.mem_append.mp hp with q | q
      · exact O2.pn p (List.mem_append_left _ q)
      · rcases List.mem_cons.mp q with q | q
        · rw [q]
          exact ne.symm
        · exact O2.pn p (List.mem_append_right _ q), O2.fs⟩ hkS3 nk (fun v q => by cases q)
    show wpAny _ _ (ksk_rest h'.objs.size (.ref f) false acc.toList.toArray e1 (.ref (((h'.push (seqObj "list" acc.toList.toArray 0)).update h'.objs.size (Obj.mapSeq fun _ => (#[] : Array Value))).push (seqObj "tuple" acc.toList.toArray 0)).objs.size)) _ _ _
    rw [hs3]
    have hr2 : Rm k X.A.in1.in1 := by
      obtain ⟨a, b, c, d⟩ := hr
      refine ⟨a, ?_, ?_, d⟩
      · show X.A.depth + k + 20 < recursionLimit
        omega
      · show X.A.units + 1 + 1 + 16 * k + 500 < cLine
        omega
    refine key_rest (H := H) (ks := ks) (key := key) F hr2 rfl hb hsp O1 O2 ne hal (by omega) hvs ⟨H, #[], 0, I5, Same.refl H, rfl, fun j u y e => by simp at e⟩ fun s' H' sm hE => ⟨_, rfl, ?_⟩
    obtain ⟨out, c, I6, hp, hs⟩ := hE
    have ha6 := I6.pin (h'.objs.size, seqObj "list" out c) (List.mem_append_right _ List.mem_cons_self)
    have stq : ∀ v ∈ out.toList, ∃ t, v = Value.str (txtOf v) t := by
      intro v hv
      obtain ⟨j, hj⟩ := List.getElem?_of_mem (hp.mem_iff.mp hv)
      obtain ⟨y, _, t, rfl⟩ := hvs j v hj
      exact ⟨t, rfl⟩
    have vlq : ∀ l : List Value, (∀ v ∈ l, ∃ t, v = Value.str (txtOf v) t) → Vals ((l.map txtOf).map V.str) l := by
      intro l
      induction l with
      | nil => exact fun _ => .nil
      | cons v l ih => exact fun hl => .cons (hl v List.mem_cons_self) (ih fun u hu => hl u (List.mem_cons_of_mem _ hu))
    have hacck : acc.toList.map txtOf = ks := by
      refine List.ext_getElem? fun j => ?_
      rw [List.getElem?_map]
      cases e : acc.toList[j]? with
      | none =>
        have := List.getElem?_eq_none_iff.mp e
        rw [List.getElem?_eq_none_iff.mpr (by omega)]
        rfl
      | some v =>
        obtain ⟨y, hy, t, rfl⟩ := hvs j v e
        rw [hy]
        rfl
    have hlo : ((out.toList.map txtOf).map V.str).length ≤ sizeLine := by
      rw [List.length_map, List.length_map, hp.length_eq]
      omega
    have na6 : H' h'.objs.size = none := ha6.2.1
    have I7 : Inv X pins σ (upd H' h'.objs.size (.lst ((out.toList.map txtOf).map V.str))) s' :=
      track (Inv.own0 I6) O1 na6 (show ObjOk X.prog X.w _ _ _ (.lst ((out.toList.map txtOf).map V.str)) from ⟨hlo, out.toList, c, vlq _ stq, by rw [Array.toArray_toList]; exact ha6.1⟩)
    refine wpAny_pure ⟨_, rfl, .ref h'.objs.size, _, I7, rfl, q (out.toList.map txtOf) _ _ ?_ ?_ ?_ na upd_same⟩
    · rw [← hacck]
      exact hp.map _
    · exact List.pairwise_map.mpr hs
    · intro b o e
      rw [upd_ne (ne_of_none e na)]
      exact sm b o e
end Wf
namespace Wf
open PySem PySem.Spec PyProof.Rows L2
/-! ### list + list, of lists that are but read -/
def rCatS (K : PySem.W.Frag) : R2 := fun x y H Q => ∃ l b xs zs, x = .ref l ∧ y = .ref b ∧ SqL K H l xs ∧ SqL K H b zs ∧ xs.length + zs.length ≤ sizeLine ∧ ∀ p, H p = none → Q (.ref p) (upd H p (.lst (xs ++ zs)))
theorem op_catS {X : Cx} : OpR X (binaryOp .Add) (rCatS X.K) := by
  intro pins s σ H x y v u Q I rx ry h
  obtain ⟨l, b, xs, zs, rfl, rfl, h1, h2, hz, q⟩ := h
  cases rx
  cases ry
  obtain ⟨its, r, ⟨o, n, ho, hc, hdd, hd⟩, _⟩ := I.list h1
  obtain ⟨its2, r2, ⟨o2, n2, ho2, hc2, hdd2, hd2⟩, _⟩ := I.list h2
  obtain ⟨cls, dd, data, sl⟩ := o
  obtain ⟨cls2, dd2, data2, sl2⟩ := o2
  simp only at hc hd hc2 hd2
  subst hc hd hc2 hd2
  have e1 := r.length
  have e2 := r2.length
  have e : its.toArray ++ its2.toArray = (its ++ its2).toArray := by simp
  refine concat_meets ⟨_, ho, rfl⟩ ⟨_, ho2, rfl⟩ noFill_list_add seq_list_add PySem.F.slot_list_add PySem.F.entry_list_add (PySem.F.args_list_add_2 _ _)
    (list_addW l b its.toArray its2.toArray n n2 dd dd2 sl sl2 (by rw [List.size_toArray, List.size_toArray]; omega)) ⟨ho, ho2, ?_⟩
  rw [e]
  exact ⟨.ref _, _, I.lnew (t' := s.toks) (r.append r2) (by rw [List.length_append]; omega), rfl, q _ I.fresh⟩
/-! ### d.update(e) -/
def rUpd : V → List V → Hp → VK → Prop := fun x vs H Q => ∃ (d e : Addr) (kvs more : List (Key × V)), x = .ref d ∧ vs = [.ref e] ∧ H d = some (.dK kvs) ∧ Rd H e (.dK more) ∧ d ≠ e ∧ kvs.length + more.length ≤ sizeLine ∧ Q .non (upd H d (.dK (mergeK kvs more)))
theorem mt_dupdate {X : Cx} : MtR X "dict.update" rUpd := by
  intro pins s σ H x xs v us Q I rx rv h
  obtain ⟨d, e, kvs, more, rfl, rfl, hd, he, hne, hz, q⟩ := h
  cases rx
  obtain rfl := Vals.ref1 rv
  obtain ⟨z, lo, vs, rel, dd⟩ := dk_rd I.hok (.inl hd)
  obtain ⟨z2, lo2, vs2, rel2, dd2⟩ := dk_rd I.hok he
  have l1 := rel.length
  have l2 := rel2.length
  refine call_meetsIn PySem.F.slot_dict_update dd.typeIs PySem.F.entry_dict_update (PySem.F.args_dict_update_2 _ _) (meets_dict_update (mixKind X.prog X.w) d e hne lo2) ⟨vs, vs2, dd, dd2, by omega, fun h' hm _ hs => ?_⟩
  have hl := length_mergeK more kvs
  have ok : ObjOk X.prog X.w (upd H d (.dK (mergeK kvs more))) h' d (.dK (mergeK kvs more)) := ⟨by omega, lo, _, KV.merge rel2 rel, hm⟩
  have th : ∃ u, h'.get? d = some u := by
    obtain ⟨o, _, _, ho, _⟩ := hm
    exact ⟨o, ho⟩
  exact ⟨.non, _, I.write (t' := s.toks) (x := d) (e := d) (by rw [hd]; exact True.intro) (.inl rfl) (fun b o hb q => (hs.2 b hb).trans q) th ok, rfl, q⟩
end Wf
namespace Wf
open PySem PySem.Spec PyProof.Rows L2
/-! ### data of texts -/
section
variable {K : PySem.W.Frag} {H : Hp}
theorem dp_strs : ∀ zs : List Str, DpAll K H (zs.map V.str) (zs.map PyData.str)
  | [] => .nil
  | z :: zs => .cons (.str z) (dp_strs zs)
theorem eqv_strs : ∀ xs ys : List Str, PyData.eqvAll (xs.map PyData.str) (ys.map PyData.str) = decide (xs = ys)
  | [], [] => by simp [PyData.eqvAll]
  | [], y :: ys => by simp [PyData.eqvAll]
  | x :: xs, [] => by simp [PyData.eqvAll]
  | x :: xs, y :: ys => by
    have ih := eqv_strs xs ys
    rw [List.map_cons, List.map_cons, PyData.eqvAll, PyData.eqv, ih]
    by_cases h : x = y
    · subst h
      simp
    · simp [h]
theorem lay_strs : ∀ xs : List Str, (∀ x ∈ xs, PyData.strOk x = true) → PyData.canLayAll0 (xs.map PyData.str) = true
  | [], _ => by simp [PyData.canLayAll0]
  | x :: xs, h => by
    have ih := lay_strs xs fun y hy => h y (List.mem_cons_of_mem _ hy)
    rw [List.map_cons, PyData.canLayAll0, PyData.canLay0, ih, h x List.mem_cons_self]
    rfl
theorem depth_strs : ∀ xs : List Str, PyData.depthAll (xs.map PyData.str) = 0
  | [] => by simp [PyData.depthAll]
  | x :: xs => by
    rw [List.map_cons, PyData.depthAll, depth_strs xs, PyData.depth]
    rfl
theorem shaped_strs {xs : List Str} (h : ∀ x ∈ xs, PyData.strOk x = true) : SeqAt.shaped (.list (xs.map PyData.str)) = true := by
  unfold SeqAt.shaped
  rw [PyData.canLay0, lay_strs xs h, PyData.depth, depth_strs]
  rfl
end
end Wf
namespace Wf
open PySem PySem.Spec PyProof.Rows L2
/-! ### list of a text, a text times a number -/
def rListS : List V → Hp → VK → Prop := fun xs H Q => ∃ z : Str, xs = [.str z] ∧ z.length ≤ sizeLine ∧ ∀ p, H p = none → Q (.ref p) (upd H p (.lst (z.cps.toList.map fun c => V.str ⟨#[c]⟩)))
theorem call_listS {X : Cx} (hc : X.calm = true) : CallR X (.type "list") rListS := by
  intro pins s σ H xs us Q I r h
  obtain ⟨z, e, hz, q⟩ := h
  subst e
  obtain ⟨u, eu, rx⟩ := vals1 r
  subst eu
  obtain ⟨t, rfl⟩ := rx
  refine call_list_str (I.ok.hd hc) z t (fun h' tk acc' c' hkeep hS hacc => ?_) hz
  refine ⟨.ref s.heap.objs.size, upd H s.heap.objs.size (.lst (z.cps.toList.map fun c => V.str ⟨#[c]⟩)), I.laid hkeep (Nat.le_refl _) (show ObjOk X.prog X.w _ _ _ (.lst (z.cps.toList.map fun c => V.str ⟨#[c]⟩)) from ⟨?_, acc'.toList, c', ?_, ?_⟩), rfl, q _ (I.hok.fresh (Nat.le_refl _))⟩
  · rw [List.length_map, Array.length_toList]; exact hz
  · have el : acc'.toList.length = acc'.size := by simp
    refine vals_of_at (by rw [List.length_map, el, hacc.1, Array.length_toList]) fun j x w h1 h2 => ?_
    obtain ⟨c, u, hcu, hw⟩ := hacc.2 j w (by rw [← Array.getElem?_toList]; exact h2)
    have e2 : (z.cps.toList.map fun c => V.str (⟨#[c]⟩ : Str))[j]? = some (.str ⟨#[c]⟩) := by
      rw [List.getElem?_map, Array.getElem?_toList, hcu]
      rfl
    rw [e2] at h1
    rw [← Option.some.inj h1, hw]
    exact ⟨u, rfl⟩
  · rw [Array.toArray_toList]
    exact hS
/-- a text n times over -/
def repS (z : Str) (n : Nat) : Str := ⟨(List.replicate n z.cps).foldl (· ++ ·) #[]⟩
theorem op_rep_str {X : Cx} : OpR X (binaryOp .Mult) (fun x y H Q => ∃ (z : Str) (n : Nat), x = .str z ∧ y = .int (n : Nat) ∧ 2 ≤ n ∧ n ≤ 100000 ∧ z.length ≤ 100 ∧ (z.length == 0) = false ∧ Q (.str (repS z n)) H) := by
  intro pins s σ H x y v u Q I rx ry h
  obtain ⟨z, n, rfl, rfl, h2, hn, hz, h0, q⟩ := h
  obtain ⟨t, rfl⟩ := rx
  obtain ⟨t', rfl⟩ := ry
  have hm : z.length * n ≤ 10000000 := Nat.le_trans (Nat.mul_le_mul hz hn) (by decide)
  have hok : MulOk z (n : Int) := by
    refine ⟨?_, fun _ _ => ?_, fun _ _ => ?_⟩
    · rw [decide_eq_false (by omega), decide_eq_false (by omega)]
      rfl
    · have : (100 : Int) ≤ (2 ^ 63 - 1) / (n : Int) := (Int.le_ediv_iff_mul_le (by omega)).mpr (by omega)
      omega
    · rw [show ((n : Int).toNat) = n by simp]
      exact decide_eq_false (show ¬ z.length * n > 16777216 by omega)
  refine SB.mul hok fun t2 k => ?_
  have e : Txt.mul z (n : Int) = repS z n := by
    unfold Txt.mul repS
    rw [if_neg (by omega), if_neg (by rw [h0]; simp; omega), show ((n : Int).toNat) = n by simp]
  rw [e]
  exact ⟨.str (repS z n), H, I.tok _, ⟨_, rfl⟩, q⟩
end Wf
namespace Wf
open PySem PySem.Spec PyProof.Rows L2
/-! ### repr of a text of plain signs -/
def Asc (z : Str) : Prop := ∀ c ∈ z.cps.toList, c < 128
theorem reprChar_asc : ∀ c < 128, ∀ q ∈ [34, 39], ∀ d ∈ Builtin.Str.reprChar q c, d < 0x110000 := by decide +kernel
theorem quote_two (z : Str) : reprQuote z ∈ [34, 39] := by
  unfold reprQuote
  cases (z.cps.contains 39 && !z.cps.contains 34) <;> simp
theorem fold_repr_asc {q : Nat} (hq : q ∈ [34, 39]) : ∀ (l : List Nat) (acc : Array Nat), (∀ c ∈ l, c < 128) → (∀ d ∈ acc, d < 0x110000) → ∀ d ∈ l.foldl (fun out c => out ++ (Builtin.Str.reprChar q c).toArray) acc, d < 0x110000
  | [], acc, _, h => h
  | c :: l, acc, h1, h2 => by
    rw [List.foldl_cons]
    refine fold_repr_asc hq l _ (fun x hx => h1 x (List.mem_cons_of_mem _ hx)) fun d hd => ?_
    rw [Array.mem_append] at hd
    rcases hd with hd | hd
    · exact h2 d hd
    · exact reprChar_asc c (h1 c List.mem_cons_self) q hq d (by simpa using hd)
theorem repr_ok {z : Str} (h : Asc z) : PyData.strOk (reprText z) = true := by
  show ((z.cps.foldl (fun out c => out ++ (Builtin.Str.reprChar (reprQuote z) c).toArray) #[reprQuote z]).push (reprQuote z)).all (fun c => decide (c < 0x110000)) = true
  have hq := quote_two z
  have hq2 : reprQuote z < 0x110000 := by
    rcases List.mem_cons.mp hq with e | e
    · rw [e]; decide
    · rw [List.mem_singleton.mp e]; decide
  rw [Array.all_push, ← Array.foldl_toList, decide_eq_true hq2, Bool.and_true]
  refine Array.all_eq_true_iff_forall_mem.mpr fun d hd => decide_eq_true (fold_repr_asc hq _ _ h (fun d hd => ?_) d hd)
  rw [show d = reprQuote z by simpa using hd]
  exact hq2
theorem repr_len {z : Str} (h : Asc z) : (reprText z).length ≤ 10 * z.length + 2 := StrLaws.reprText_len z fun c hc => Nat.lt_trans (h c hc) (by decide)
theorem asc_ok {z : Str} (h : Asc z) : PyData.strOk z = true := by
  show z.cps.all (fun c => decide (c < 0x110000)) = true
  exact Array.all_eq_true_iff_forall_mem.mpr fun d hd => decide_eq_true (Nat.lt_trans (h d (Array.mem_toList_iff.mpr hd)) (by decide))
/-! ### join of single signs -/
theorem join_one_is (w : List Nat) : Txt.join "" (w.map fun c => (⟨#[c]⟩ : Str)) = ⟨w.toArray⟩ := by
  show Builtin.Str.glued _ _ = _
  rw [StrLaws.glued_eq_join]
  induction w with
  | nil => rfl
  | cons c w ih =>
    cases w with
    | nil => rfl
    | cons d w =>
      have e : Str.join "" ((c :: d :: w).map fun c => (⟨#[c]⟩ : Str)) = (⟨#[c]⟩ : Str) ++ ("" : Str) ++ Str.join "" ((d :: w).map fun c => (⟨#[c]⟩ : Str)) := rfl
      rw [e, ih]
      show (⟨(#[c] ++ #[]) ++ (d :: w).toArray⟩ : Str) = _
      simp
/-! ### two equal pairs of texts -/
theorem eqv_pair (a b : Str) : PyData.eqv (.tuple [.str a, .str b]) (.tuple [.str a, .str b]) = true := by
  rw [PyData.eqv]
  have := eqv_strs [a, b] [a, b]
  rw [decide_eq_true rfl] at this
  exact this
theorem shaped_pair {a b : Str} (ha : PyData.strOk a = true) (hb : PyData.strOk b = true) : SeqAt.shaped (.tuple [.str a, .str b]) = true := by
  have h := lay_strs [a, b] (fun x hx => by
    rcases List.mem_cons.mp hx with e | e
    · rw [e]; exact ha
    · rw [List.mem_singleton.mp e]; exact hb)
  unfold SeqAt.shaped
  rw [PyData.canLay0, show PyData.canLayAll0 [.str a, .str b] = true from h, PyData.depth, show PyData.depthAll [.str a, .str b] = 0 from depth_strs [a, b]]
  rfl
end Wf
namespace Wf
open PySem PySem.Spec PyProof.Rows L2
/-! ### the law's own def, called behind the top -/
section
variable {P : Program} {w : World} {K : PySem.W.Frag} {mg mb : Str → Option Value} {k : Nat} {fa a : Addr} {fd : FuncData} {x : Str} {sp : Sp} {s1 : Shared} {vs : List Value} {ns : List Int}
/-- the call's answer is True, and all that stood stands -/
def Tells (s1 : Shared) (r : Result) (s2 : Shared) : Prop := r = .ok (.ret (.bool true)) ∧ OldK s1.heap s2.heap ∧ s2.os = s1.os ∧ AllBare s2.gens
/-- of an abstract heap that tracks the script at most -/
theorem tells_of {H : Hp} (KX : K.In s1.heap) (hm : s1.heap.Ns mainGlobals mg) (hu : s1.heap.Ns builtinsNs mb) (hv : ∀ y : Str, y ≠ "__name__" → mb y = bootBuiltins y) (hq : s1.heap.NoLimit) (h0 : s1.gens = #[])
    (hs : s1.heap.get? a = some { cls := .type "list", data := .seq vs.toArray }) (hr : Rm k callerA)
    (F : ∀ b : Heap, K.In b → b.Ns mainGlobals mg → FnR P w K mg b k fa fd [x] sp) (hb : ∀ (s : Shared) (u : Value), BindsTo s fd ⟨[u], []⟩ [(x, u)])
    (h1 : ∀ b, H b = none ∨ (b = a ∧ K.lookup a = none ∧ ∃ o ys, H b = some (.frz o (.lst ys)))) (hk : HOk P w H s1.heap)
    (hp : sp [.ref a] H (fun v _ => v = .bl true) fun _ _ _ => False) : codeAny (model P w) callerA (.call (.ref fa) ⟨[.ref a], []⟩) (Tells s1) s1 := by
  have kb : K.In (hidT s1.heap H) := by
    intro b o e
    refine hidT_get (KX b o e) ?_
    rcases h1 b with z | ⟨z1, z2, _⟩
    · exact z
    · rw [z1, z2] at e
      cases e
  have kn : ∀ {b : Addr} {m : Str → Option Value}, s1.heap.Ns b m → (hidT s1.heap H).Ns b m := by
    rintro b m ⟨o, es, ep, e, d, r⟩
    refine ⟨o, es, ep, hidT_get e ?_, d, r⟩
    rcases h1 b with z | ⟨z1, _⟩
    · exact z
    · rw [z1, hs] at e
      cases e
      cases d
  obtain ⟨mc, q1, q2⟩ := hq
  have mod : Mod K mg (hidT s1.heap H) := ⟨kb, kn hm, ⟨mb, kn hu, hv⟩, mc, kn q1, q2⟩
  have env : Env0 P w K mg (hidT s1.heap H) callerA [] s1 H := by
    refine ⟨rfl, mod, fun b o e => of_hidT e, Nat.le_of_eq (hidT_size _ _), trivial, ?_, hk, .of_eq h0⟩
    intro b hb
    cases hb
  have run := (F _ kb (kn hm)).run callerA [] s1 H ⟨[.ref a], []⟩ [.ref a] [.ref a] _ _ hr env (hb s1 (.ref a)) (.cons rfl .nil) hp
  refine codeAny_mono run ?_
  intro r s2 h
  match r, h with
  | .error e, h =>
    obtain ⟨_, _, _, _, _, _, _, _, _, _, _, _, z⟩ := h
    exact z.elim
  | .ok .next, h => exact False.elim h
  | .ok .brk, h => exact False.elim h
  | .ok .cont, h => exact False.elim h
  | .ok (.ret u), h =>
    obtain ⟨v, H2, os, bare, un, hk2, rv, ev⟩ := h
    have ev2 : v = .bl true := ev
    subst ev2
    obtain rfl : u = Value.bool true := rv
    refine ⟨rfl, OldK.of_keep ?_, os, bare⟩
    intro b o e
    rcases h1 b with z | ⟨_, _, ob, ys, z⟩
    · refine un.keep b o e z (fun q => ?_) (by simp)
      cases q
    · obtain ⟨e1, _⟩ := hk b _ z
      obtain ⟨e2, _⟩ := hk2 b _ (un.frzs b ob _ z)
      rw [e] at e1
      cases e1
      exact e2
theorem tells (KX : K.In s1.heap) (hm : s1.heap.Ns mainGlobals mg) (hu : s1.heap.Ns builtinsNs mb) (hv : ∀ y : Str, y ≠ "__name__" → mb y = bootBuiltins y) (hq : s1.heap.NoLimit) (h0 : s1.gens = #[])
    (hs : s1.heap.get? a = some { cls := .type "list", data := .seq vs.toArray }) (hi : IntsAre vs ns) (hl : ns.length ≤ sizeLine) (hr : Rm k callerA)
    (F : ∀ b : Heap, K.In b → b.Ns mainGlobals mg → FnR P w K mg b k fa fd [x] sp) (hb : ∀ (s : Shared) (u : Value), BindsTo s fd ⟨[u], []⟩ [(x, u)])
    (hp : ∀ H : Hp, SqL K H a (ns.map V.int) → sp [.ref a] H (fun v _ => v = .bl true) fun _ _ _ => False) : codeAny (model P w) callerA (.call (.ref fa) ⟨[.ref a], []⟩) (Tells s1) s1 := by
  have rv := vals_ints hi
  have ll := hi.length
  cases e : K.lookup a with
  | some o =>
    have e2 := KX a o e
    rw [hs] at e2
    cases e2
    refine tells_of (H := fun _ => none) KX hm hu hv hq h0 hs hr F hb (fun _ => .inl rfl) (fun b u z => by cases z) (hp _ (.inr ⟨_, vs.toArray, _, e, rfl, rfl, rfl, ?_, by simpa using rv⟩))
    rw [List.size_toArray, ll]
    exact hl
  | none =>
    have key : ∀ b, (if b = a then some (HO.frz { cls := .type "list", data := .seq vs.toArray } (.lst (ns.map V.int))) else none) = none ∨ (b = a ∧ (if b = a then some (HO.frz { cls := .type "list", data := .seq vs.toArray } (.lst (ns.map V.int))) else none) = some (HO.frz { cls := .type "list", data := .seq vs.toArray } (.lst (ns.map V.int)))) := by
      intro b
      by_cases z : b = a
      · exact .inr ⟨z, if_pos z⟩
      · exact .inl (if_neg z)
    refine tells_of (H := fun b => if b = a then some (.frz { cls := .type "list", data := .seq vs.toArray } (.lst (ns.map V.int))) else none) KX hm hu hv hq h0 hs hr F hb (fun b => ?_) (fun b u z => ?_) (hp _ (.inl (.inr ⟨_, if_pos rfl⟩)))
    · rcases key b with z | ⟨z1, z2⟩
      · exact .inl z
      · exact .inr ⟨z1, e, _, _, z2⟩
    · rcases key b with q | ⟨q1, q2⟩
      · exact absurd (q.symm.trans z) (by simp)
      · have z' := q2.symm.trans z
        cases z'
        subst q1
        exact ⟨hs, by rw [List.length_map]; exact hl, vs, _, rv, hs⟩
end
/-- the goal that k_head leaves -/
theorem walkR {l : PySem.W.OpenLaw} {n k : Nat} {q : Program} {loose : List Str} {XP : (Str → Option Value) → Heap → Prop} {YP : World → Heap → Prop} {d : DefRec} {K : Params → PySem.W.Frag} {sp : PySem.W.Frag → Sp} {x : Str}
    (hn : l.most = some n) (hz : n ≤ sizeLine) (hdf : d.params.defaults = []) (hk : k ≤ 500) (hY : ∀ (w : World) (h : Heap), YP w h → (K w.params).In h)
    (F : ∀ (w : World) (mg : Str → Option Value) (fa : Addr) (h : Heap), (K w.params).In h → h.Ns mainGlobals mg → mg d.name = some (.ref fa) →
      ∃ fd : FuncData, (∀ (s : Shared) (u : Value), BindsTo s fd ⟨[u], []⟩ [(x, u)]) ∧ ∀ b : Heap, (K w.params).In b → b.Ns mainGlobals mg → FnR l.prog w (K w.params) mg b k fa fd [x] (sp (K w.params)))
    (hp : ∀ (K : PySem.W.Frag) (H : Hp) (a : Addr) (ns : List Int), ns.length ≤ n → SqL K H a (ns.map V.int) → sp K [.ref a] H (fun v _ => v = .bl true) fun _ _ _ => False) :
    PySem.W.WalkO q loose XP YP l.row.toRowW d [] (fun f vs => PySem.call f vs) := by
  refine Att.attach_call hn hdf ?_
  intro w s0 s1 mg mb fa o pm cd doc a vs ns G Y _ _ _ hmg hobj hi hlen hg
  have KX := hY w _ Y
  obtain ⟨fd, hb, hF⟩ := F w mg fa _ KX G.T.g hmg
  exact tells KX G.T.g G.T.b G.T.builtins G.T.nolimit hg hobj hi (Nat.le_trans hlen hz) (rm_caller hk) hF hb fun H hS => hp _ H a ns hlen hS
/-! ### what the top has written, made from the head's facts -/
section
variable {K : PySem.W.Frag} {h : Heap} {mg : Str → Option Value} {x : Str} {st : Stmt} {ps : List Str} {f : Addr} {oc : Value} {od an : Option Addr} {osl : Array (Option Value)} {kV doc pm cdv ct : Value}
def fnAt_mk (X : K.In h) (G : h.Ns mainGlobals mg) (a : PySem.W.nsIn K mainGlobals x = some (some (.ref f)))
    (l : K.lookup f = some ⟨oc, od, .func (PySem.W.fnOf x x (defArgs st) (defBody st) (defScope st) .none kV doc pm an cdv ct), osl⟩) (c : PySem.W.codeIn K cdv x = true) (k : PySem.W.keepIn K (.ref f) = true)
    (hb : ∀ (kV doc pm : Value) (an : Option Addr) (cdv ct : Value) (us : List Value), us.length = ps.length → bindArgs (PySem.W.fnOf x x (defArgs st) (defBody st) (defScope st) .none kV doc pm an cdv ct) ⟨us, []⟩ = pure (ps.zip us)) : FnAt K mg x st ps :=
  ⟨f, _, fun_mk l c k, PySem.W.mg_of X G a, (fun_mk l c k).binds hb⟩
theorem exm_of {A B : Addr} {b : Bool} (h1 : PySem.W.subIn K (.ref B) (.type "BaseException") = some true) (h2 : PySem.W.isClsIn K B = true) (h3 : PySem.W.typeIn K (.ref B) = some (.type "type"))
    (h4 : PySem.W.subIn K (.ref A) (.ref B) = some b) : PySem.W.exmOne K (.ref A) (.ref B) = some b := by
  have e1 : (PySem.W.subIn K (.ref B) (.type "BaseException") == some true) = true := by rw [h1]; rfl
  have e3 : ((PySem.W.clsIn K B).isSome && PySem.W.typeIn K (.ref B) == some (.type "type")) = true := by
    rw [show (PySem.W.clsIn K B).isSome = true from h2, h3]
    rfl
  unfold PySem.W.exmOne
  rw [if_pos e1]
  show (if ((PySem.W.clsIn K B).isSome && PySem.W.typeIn K (.ref B) == some (.type "type")) = true then PySem.W.subIn K (.ref A) (.ref B) else none) = some b
  rw [if_pos e3]
  exact h4
end
end Wf
namespace Wf
open PySem PySem.Spec PyProof.Rows L2
/-! ### o.f as one target among several -/
def gFld (K : PySem.W.Frag) (to : TE) (f : Str) : TG := fun v σ H Q => to σ H fun x H1 => ∃ a C dx fs, x = .ref a ∧ H1 a = some (.ins C dx fs) ∧ Cls K C ∧ NoAttr K C f ∧ fs.length < 1000 ∧ Q σ (upd H1 a (.ins C dx (putF f v fs)))
theorem pg_fld {X : Cx} {o : Expr} {to : TE} {f : Str} {pos : Pos} (ho : PE X o to) : PG X (.Attribute o f pos) (gFld X.K to f) := by
  constructor
  intro pins s σ H v u Q I r h
  rw [assign_Attribute]
  refine wpAny_bind (wpAny_holding (thn (ho.run pins s σ H _ I h) ?_))
  rintro ov s1 ⟨x, H1, I1, r1, a, C, dx, fs, ex, ea, c, n, l, q⟩
  subst ex
  obtain rfl : ov = Value.ref a := r1
  refine wpAny_bind (wpAny_standAt (wpAny_bind (wpAny_holding (setattr_ok I1 ea c n l r ?_))))
  exact fun s2 I2 => wpAny_release ⟨σ, _, I2, q⟩
/-! ### enumerate of a text -/
def IteS (z : Str) : It :=
  ⟨fun i _ => i < z.cps.size, fun i H v H' => ∃ T c, v = .ref T ∧ H T = none ∧ H' = upd H T (.tup [.int (i : Nat), .str ⟨#[c]⟩]) ∧ z.cps[i]? = some c, fun i _ => i = z.cps.size⟩
theorem turn_enumS {P : Program} {w : World} {K : PySem.W.Frag} {elts : List Expr} {kk : Nat} {tpos : Pos} (z : Str) (t : Tok) (e it : Addr) :
    Turn P w K (.Tuple elts kk tpos) (IteS z) [e, it] e (fun i h => (∃ old, IsEnum h e it ((i : Nat) : Int) old) ∧ h.IsStrIter it (strIterType z) z t i ∧ e ≠ it) where
  mem := List.mem_cons_self
  obj := by
    rintro i h ⟨⟨old, he⟩, ⟨o, ho, hc, hd⟩, _⟩ b hb
    rcases List.mem_cons.mp hb with q | q
    · subst q
      exact ⟨_, he, fun v q => nomatch q⟩
    · rw [List.mem_singleton.mp q]
      exact ⟨o, ho, fun v q => by rw [hd] at q; cases q⟩
  keep := by
    rintro i h h' ⟨⟨old, he⟩, ⟨o, ho, r⟩, hne⟩ k
    exact ⟨⟨old, k e (by simp) _ he⟩, ⟨o, k it (by simp) _ ho, r⟩, hne⟩
  item := by
    intro X hP hw hK hc i pins s σ H E I hf st hg
    subst hP hw hK
    obtain ⟨⟨old, he⟩, hit, hne⟩ := st
    have hel : e < s.heap.objs.size := Heap.lt_size he
    have hil : it < s.heap.objs.size := by
      obtain ⟨_, q, _⟩ := hit
      exact Heap.lt_size q
    refine wpAny_pyNext_enum_itemD (Draws.text (A := X.A.in1) (I.ok.hd hc) it z t) he hit hg hne (by simpa using hne) ?_
    intro x h1 tk hx ho hit1 hT hz hk
    obtain ⟨c, u, hcx, rfl⟩ := hx
    refine ⟨_, rfl, wpAny_letOwnedTupleGo_enum (s := { s with heap := h1, toks := tk + 1 }) ho ?_⟩
    intro h2 he2 sb
    have hT2 : h2.get? s.heap.objs.size = some { cls := .type "tuple", data := .seq #[.int i tk, .str ⟨#[c]⟩ u] } := (sb.2 _ (Nat.ne_of_gt hel)).trans hT
    have new : ObjOk X.prog X.w (upd H s.heap.objs.size (.tup [.int (i : Nat), .str ⟨#[c]⟩])) h2 s.heap.objs.size (.tup [.int (i : Nat), .str ⟨#[c]⟩]) :=
      ⟨(by show 2 ≤ sizeLine; decide), [.int i tk, .str ⟨#[c]⟩ u], .cons ⟨_, rfl⟩ (.cons ⟨_, rfl⟩ .nil), ⟨_, hT2, rfl, _, rfl⟩⟩
    have far : ∀ b o, b ∉ [e, it] → s.heap.get? b = some o → h2.get? b = some o := by
      intro b o hb q
      have hb1 : b ≠ e := fun z => hb (by simp [z])
      have hb2 : b ≠ it := fun z => hb (by simp [z])
      exact (sb.2 b hb1).trans (hk b o hb1 hb2 q)
    have J : Inv X pins σ (upd H s.heap.objs.size (.tup [.int (i : Nat), .str ⟨#[c]⟩])) { s with heap := h2, toks := tk + 1 } := I.turnedNew (ch := [e, it]) far hf (Nat.le_refl _) new
    refine ⟨.ref s.heap.objs.size, _, J, rfl, ⟨_, c, rfl, I.hok.fresh (Nat.le_refl _), rfl, hcx⟩, ⟨⟨.str ⟨#[c]⟩ u, ?_⟩, ?_, hne⟩, ?_⟩
    · rw [show ((i + 1 : Nat) : Int) = (i : Int) + 1 by omega]
      exact he2
    · obtain ⟨o, q, r⟩ := hit1
      exact ⟨o, (sb.2 it (Ne.symm hne)).trans q, r⟩
    · intro b hb
      have hb' : b < s.heap.objs.size := by
        rcases List.mem_cons.mp hb with q | q
        · rw [q]
          exact hel
        · rw [List.mem_singleton.mp q]
          exact hil
      rw [upd_ne (Nat.ne_of_lt hb')]
      exact (hf b hb).1
  done := by
    intro X hP hw hK hc i pins s σ H E I hf st hg
    subst hP hw hK
    obtain ⟨⟨old, he⟩, hit, hne⟩ := st
    have hi : i = z.cps.size := hg
    subst hi
    obtain ⟨f0, f1, f2, f3, f4, f5⟩ := hf it (by simp)
    refine wpAny_pyNext_enum_endD (Draws.text (A := X.A.in1) (I.ok.hd hc) it z t) he hit ?_
    exact fun h' eb => ⟨rfl, I.turned (t' := s.toks) (fun b o hb q => eb b o hb q) f0 f1 f3 f4 f5⟩
  self := by
    rintro A i s Q E ⟨⟨_, he⟩, _⟩ h
    exact wpAny_pyIter_enum he h
def iEnumS (ta : TA) : TI := fun σ H R => ta σ H fun vs H1 => ∃ z : Str, vs = [.str z] ∧ R (IteS z) H1
theorem pi_enumS {X : Cx} {e : Expr} {ta : TA} {p pos tpos : Pos} {elts : List Expr} {kk : Nat} (hg : Gl X "enumerate") (hm : X.mg "enumerate" = none) (ha : PA X [e] ta) (hs : starEach [e] X.env = [(false, eval e X.env)] := by rfl) :
    PI X (.Tuple elts kk tpos) (.Call (.Name "enumerate" p) [e] [] pos) (iEnumS ta) := by
  constructor
  intro pins s σ H R I h
  refine Call_ (ld_blt I hg hm boot_enumerate (PyProof.Rows.callWith_type1 (thn (ha.run pos pins s σ H _ I h) ?_) hs rfl))
  rintro us s1 ⟨vs, H1, I1, r1, z, ez, q⟩
  subst ez
  obtain ⟨u, rfl, rx⟩ := vals1 r1
  obtain ⟨t, rfl⟩ := rx
  refine call_enumerate_str ?_
  intro h1 he hit hz hk
  refine wpAny_pyIter_enum he ?_
  have I2 : Inv X pins σ H1 { s1 with heap := h1 } := I1.kept (t' := s1.toks) hk
  refine ⟨s1.heap.objs.size + 1, [s1.heap.objs.size + 1, s1.heap.objs.size], _, _, H1, rfl, I2, turn_enumS z t (s1.heap.objs.size + 1) s1.heap.objs.size, ⟨⟨.none, he⟩, hit, Nat.succ_ne_self _⟩, ?_, q⟩
  intro b hb
  have hle : s1.heap.objs.size ≤ b := by
    rcases List.mem_cons.mp hb with q | q
    · rw [q]
      exact Nat.le_add_right _ _
    · rw [List.mem_singleton.mp q]
      exact Nat.le_refl _
  exact I1.fpOk hle (I1.hok.fresh hle)
theorem walk_enumS {z : Str} : Walk (IteS z) z.cps.size (fun _ => True) (fun i H v H' => ∃ T c, v = .ref T ∧ H T = none ∧ H' = upd H T (.tup [.int (i : Nat), .str ⟨#[c]⟩]) ∧ z.cps[i]? = some c) :=
  ⟨fun _ _ hi _ => hi, fun _ _ => rfl, fun _ _ _ _ _ _ y => y⟩
end Wf
namespace Wf
open PySem PySem.Spec PyProof.Rows L2
/-- a method of a class, all its facts -/
structure MeAt (K : PySem.W.Frag) (C : Addr) (x qual : Str) (st : Stmt) (ps : List Str) where
  f : Addr
  fd : FuncData
  F : Fun K x qual st f fd
  m : Meth K C x f
  b : Binds K fd ps []
end Wf
namespace Wf
open PySem PySem.Spec PyProof.Rows L2
/-! ### tests within a comprehension: the written part named from outside -/
section
variable {X : Cx} {K : PySem.W.Frag}
theorem op_inK (h : X.K = K) : OpR X (compareOp .In) (rIn K false) := by
  subst h
  exact op_in_seq
theorem op_notInK (h : X.K = K) : OpR X (compareOp .NotIn) (rIn K true) := by
  subst h
  exact op_notIn_seq
theorem op_eqK (h : X.K = K) (hu : X.A.units + 64 < cLine) : OpR X (compareOp .Eq) (rEqD K) := by
  subst h
  exact op_eqD hu
theorem op_neK (h : X.K = K) (hu : X.A.units + 64 < cLine) : OpR X (compareOp .NotEq) (rNeD K) := by
  subst h
  exact op_neD hu
end
theorem in_strs (a : Str) (as : List Str) : inV (.str a) (as.map V.str) = decide (a ∈ as) := by
  unfold inV
  rw [List.any_map, Bool.eq_iff_iff, List.any_eq_true, decide_eq_true_iff]
  constructor
  · rintro ⟨b, hb, e⟩
    have : b = a := by simpa [eqV] using e
    rw [← this]
    exact hb
  · exact fun h => ⟨a, h, by simp [eqV]⟩
theorem flat_strs (as : List Str) : (as.map V.str).all flatV = true := by
  rw [List.all_map]
  exact List.all_eq_true.mpr fun _ _ => rfl
end Wf
namespace Wf
open PySem PySem.Spec PyProof.Rows L2
/-! ### what stands, stands as data -/
theorem sqt_same {K : PySem.W.Frag} {H H' : Hp} {a : Addr} {xs : List V} (e : Same H H') (h : SqT K H a xs) : SqT K H' a xs := by
  rcases h with (h | ⟨o, h⟩) | h
  · exact .inl (.inl (e _ _ h))
  · exact .inl (.inr ⟨o, e _ _ h⟩)
  · exact .inr h
mutual
theorem dp_same {K : PySem.W.Frag} {H H' : Hp} (s : Same H H') : ∀ {v : V} {d : PyData}, Dp K H v d → Dp K H' v d
  | _, _, .non => .non
  | _, _, .bl b => .bl b
  | _, _, .int i => .int i
  | _, _, .str x => .str x
  | _, _, .lst h a => .lst (s.seq h) (dpAll_same s a)
  | _, _, .tup h a => .tup (sqt_same s h) (dpAll_same s a)
theorem dpAll_same {K : PySem.W.Frag} {H H' : Hp} (s : Same H H') : ∀ {vs : List V} {ds : List PyData}, DpAll K H vs ds → DpAll K H' vs ds
  | _, _, .nil => .nil
  | _, _, .cons a b => .cons (dp_same s a) (dpAll_same s b)
end
theorem sqL_same {K : PySem.W.Frag} {H H' : Hp} {a : Addr} {xs : List V} (e : Same H H') (h : SqL K H a xs) : SqL K H' a xs := by
  rcases h with (h | ⟨o, h⟩) | h
  · exact .inl (.inl (e _ _ h))
  · exact .inl (.inr ⟨o, e _ _ h⟩)
  · exact .inr h
end Wf
namespace Wf
open PySem PySem.Spec PyProof.Rows L2
structure ExcB (K : PySem.W.Frag) (mg : Str → Option Value) (x : Str) where
  C : Addr
  g : mg x = some (.ref C)
def topS (i : Nat) : Stmt := PySem.Challenge.pw_wordfolds_k81_identities_that_are_read.main.body.getD i (.Pass ⟨0, 0, 0, 0⟩)
abbrev s_NoTerm_init : Stmt := inClass (topS 2) 0
abbrev N_NoTerm_init : List Str := ["self", "place"]
theorem sc_NoTerm_init : FnScope N_NoTerm_init ["self", "place"] (defScope s_NoTerm_init) := ⟨rfl, rfl, rfl, by decide +kernel, rfl, by decide +kernel, by decide +kernel⟩
abbrev s_Reader_init : Stmt := inClass (topS 6) 0
abbrev N_Reader_init : List Str := ["self", "text"]
theorem sc_Reader_init : FnScope N_Reader_init ["self", "text"] (defScope s_Reader_init) := ⟨rfl, rfl, rfl, by decide +kernel, rfl, by decide +kernel, by decide +kernel⟩
abbrev s_Reader_sign : Stmt := inClass (topS 6) 1
abbrev N_Reader_sign : List Str := ["self"]
theorem sc_Reader_sign : FnScope N_Reader_sign ["self"] (defScope s_Reader_sign) := ⟨rfl, rfl, rfl, by decide +kernel, rfl, by decide +kernel, by decide +kernel⟩
abbrev s_Reader_demand : Stmt := inClass (topS 6) 2
abbrev N_Reader_demand : List Str := ["self", "sign"]
theorem sc_Reader_demand : FnScope N_Reader_demand ["self", "sign"] (defScope s_Reader_demand) := ⟨rfl, rfl, rfl, by decide +kernel, rfl, by decide +kernel, by decide +kernel⟩
abbrev s_Reader_is_factor : Stmt := inClass (topS 6) 3
abbrev N_Reader_is_factor : List Str := ["self"]
theorem sc_Reader_is_factor : FnScope N_Reader_is_factor ["self"] (defScope s_Reader_is_factor) := ⟨rfl, rfl, rfl, by decide +kernel, rfl, by decide +kernel, by decide +kernel⟩
abbrev s_Reader_term : Stmt := inClass (topS 6) 4
abbrev N_Reader_term : List Str := ["self", "found"]
theorem sc_Reader_term : FnScope N_Reader_term ["self"] (defScope s_Reader_term) := ⟨rfl, rfl, rfl, by decide +kernel, rfl, by decide +kernel, by decide +kernel⟩
abbrev s_Reader_power : Stmt := inClass (topS 6) 5
abbrev N_Reader_power : List Str := ["self", "found"]
theorem sc_Reader_power : FnScope N_Reader_power ["self"] (defScope s_Reader_power) := ⟨rfl, rfl, rfl, by decide +kernel, rfl, by decide +kernel, by decide +kernel⟩
abbrev s_two_terms : Stmt := topS 7
abbrev N_two_terms : List Str := ["text", "reader", "first", "second"]
theorem sc_two_terms : FnScope N_two_terms ["text"] (defScope s_two_terms) := ⟨rfl, rfl, rfl, by decide +kernel, rfl, by decide +kernel, by decide +kernel⟩
abbrev s_names_in : Stmt := topS 8
abbrev N_names_in : List Str := ["first", "second", "name"]
theorem sc_names_in : FnScope N_names_in ["first", "second"] (defScope s_names_in) := ⟨rfl, rfl, rfl, by decide +kernel, rfl, by decide +kernel, by decide +kernel⟩
abbrev s_read_identity : Stmt := topS 10
abbrev N_read_identity : List Str := ["text", "first", "second"]
theorem sc_read_identity : FnScope N_read_identity ["text"] (defScope s_read_identity) := ⟨rfl, rfl, rfl, by decide +kernel, rfl, by decide +kernel, by decide +kernel⟩
abbrev s_law_source : Stmt := topS 12
abbrev N_law_source : List Str := ["cell"]
theorem sc_law_source : FnScope N_law_source ["cell"] (defScope s_law_source) := ⟨rfl, rfl, rfl, by decide +kernel, rfl, by decide +kernel, by decide +kernel⟩
abbrev s_law_draw : Stmt := topS 13
abbrev N_law_draw : List Str := ["source", "many", "digit", "mixed"]
theorem sc_law_draw : FnScope N_law_draw ["source", "many"] (defScope s_law_draw) := ⟨rfl, rfl, rfl, by decide +kernel, rfl, by decide +kernel, by decide +kernel⟩
abbrev s_law_pick : Stmt := topS 14
abbrev N_law_pick : List Str := ["source", "some"]
theorem sc_law_pick : FnScope N_law_pick ["source", "some"] (defScope s_law_pick) := ⟨rfl, rfl, rfl, by decide +kernel, rfl, by decide +kernel, by decide +kernel⟩
abbrev s_law_term : Stmt := topS 15
abbrev N_law_term : List Str := ["source", "deep", "found", "turn", "one"]
theorem sc_law_term : FnScope N_law_term ["source", "deep"] (defScope s_law_term) := ⟨rfl, rfl, rfl, by decide +kernel, rfl, by decide +kernel, by decide +kernel⟩
abbrev s_law_is_open : Stmt := topS 16
abbrev N_law_is_open : List Str := ["mood", "sign", "depth", "is_second"]
theorem sc_law_is_open : FnScope N_law_is_open ["mood", "sign", "depth", "is_second"] (defScope s_law_is_open) := ⟨rfl, rfl, rfl, by decide +kernel, rfl, by decide +kernel, by decide +kernel⟩
abbrev s_law_fault : Stmt := topS 17
abbrev N_law_fault : List Str := ["text", "mood", "depth", "is_second", "place", "sign", "is_whole"]
theorem sc_law_fault : FnScope N_law_fault ["text"] (defScope s_law_fault) := ⟨rfl, rfl, rfl, by decide +kernel, rfl, by decide +kernel, by decide +kernel⟩
abbrev s_law_said : Stmt := topS 18
abbrev N_law_said : List Str := ["text", "e"]
theorem sc_law_said : FnScope N_law_said ["text"] (defScope s_law_said) := ⟨rfl, rfl, rfl, by decide +kernel, rfl, by decide +kernel, by decide +kernel⟩
abbrev s_law_due : Stmt := topS 19
abbrev N_law_due : List Str := ["text", "fault", "name"]
theorem sc_law_due : FnScope N_law_due ["text"] (defScope s_law_due) := ⟨rfl, rfl, rfl, by decide +kernel, rfl, by decide +kernel, by decide +kernel⟩
abbrev s_law_right : Stmt := topS 20
abbrev N_law_right : List Str := ["source", "text", "turn", "at", "sign", "bent"]
theorem sc_law_right : FnScope N_law_right ["source"] (defScope s_law_right) := ⟨rfl, rfl, rfl, by decide +kernel, rfl, by decide +kernel, by decide +kernel⟩
abbrev s_law_long_right : Stmt := topS 21
abbrev N_law_long_right : List Str := ["deep", "odd", "some", "text", "due"]
theorem sc_law_long_right : FnScope N_law_long_right [] (defScope s_law_long_right) := ⟨rfl, rfl, rfl, by decide +kernel, rfl, by decide +kernel, by decide +kernel⟩
abbrev s_law : Stmt := topS 22
abbrev N_law : List Str := ["script", "cell", "source", "turn"]
theorem sc_law : FnScope N_law ["script"] (defScope s_law) := ⟨rfl, rfl, rfl, by decide +kernel, rfl, by decide +kernel, by decide +kernel⟩
structure Tx (K : PySem.W.Frag) (mg : Str → Option Value) where
  two_terms : FnAt K mg "two_terms" s_two_terms ["text"]
  names_in : FnAt K mg "names_in" s_names_in ["first", "second"]
  read_identity : FnAt K mg "read_identity" s_read_identity ["text"]
  law_source : FnAt K mg "_law_source" s_law_source ["cell"]
  law_draw : FnAt K mg "_law_draw" s_law_draw ["source", "many"]
  law_pick : FnAt K mg "_law_pick" s_law_pick ["source", "some"]
  law_term : FnAt K mg "_law_term" s_law_term ["source", "deep"]
  law_is_open : FnAt K mg "_law_is_open" s_law_is_open ["mood", "sign", "depth", "is_second"]
  law_fault : FnAt K mg "_law_fault" s_law_fault ["text"]
  law_said : FnAt K mg "_law_said" s_law_said ["text"]
  law_due : FnAt K mg "_law_due" s_law_due ["text"]
  law_right : FnAt K mg "_law_right" s_law_right ["source"]
  law_long_right : FnAt K mg "_law_long_right" s_law_long_right []
  law : FnAt K mg "law" s_law ["script"]
  C_Reader : Addr
  g_Reader : mg "Reader" = some (.ref C_Reader)
  cl_Reader : Cls K C_Reader
  no_Reader_text : NoAttr K C_Reader "text"
  no_Reader_spot : NoAttr K C_Reader "spot"
  Reader_init : MeAt K C_Reader "__init__" "Reader.__init__" s_Reader_init ["self", "text"]
  Reader_sign : MeAt K C_Reader "sign" "Reader.sign" s_Reader_sign ["self"]
  Reader_demand : MeAt K C_Reader "demand" "Reader.demand" s_Reader_demand ["self", "sign"]
  Reader_is_factor : MeAt K C_Reader "is_factor" "Reader.is_factor" s_Reader_is_factor ["self"]
  Reader_term : MeAt K C_Reader "term" "Reader.term" s_Reader_term ["self"]
  Reader_power : MeAt K C_Reader "power" "Reader.power" s_Reader_power ["self"]
  mk_Reader : Mk K C_Reader Reader_init.f
  NoTerm : ExcAt K mg "NoTerm" "NoTerm.__init__" "place" s_NoTerm_init
  FoldError : ExcB K mg "FoldError"
  x_NoTerm_NoTerm : PySem.W.exmOne K (.ref NoTerm.C) (.ref NoTerm.C) = some true
  n_isinstance : mg "isinstance" = none
  n_int : mg "int" = none
  n_str : mg "str" = none
  n_len : mg "len" = none
  n_abs : mg "abs" = none
  n_range : mg "range" = none
  n_tuple : mg "tuple" = none
  n_enumerate : mg "enumerate" = none
  t_NAMES : Tok
  m_NAMES : mg "NAMES" = some (.str "wxyz" t_NAMES)
  t_MOST_TEXT : Tok
  m_MOST_TEXT : mg "MOST_TEXT" = some (.int 200 t_MOST_TEXT)
end Wf
local macro_rules | `(tactic| walk_at "at") => `(tactic| first | exact L2.at_of (j := 0) rfl (by rfl) | exact L2.at_of (j := 1) rfl (by rfl) | exact L2.at_of (j := 2) rfl (by rfl))
local macro_rules | `(tactic| walk_at "side") => `(tactic| first | exact Or.inl ⟨by omega, by omega⟩ | exact Or.inr ⟨by omega, by omega⟩ | (show (0 : Int) < _; omega) | (refine ⟨?_, ?_, ?_⟩ <;> decide) | (refine ⟨?_, ?_⟩ <;> first | omega | decide) | omega)
local macro_rules | `(tactic| walk_at "one") => `(tactic| first
  | refine ⟨_, rfl, ?_⟩
  | refine ⟨_, _, rfl, rfl, ?_⟩
  | refine Or.inl ⟨_, rfl, ?_⟩
  | refine Or.inr ⟨_, rfl, ?_⟩
  | refine ⟨_, _, _, _, rfl, rfl, by assumption, by walk_at "at", ?_⟩
  | refine And.intro (by walk_at "side") ?_)
local macro_rules | `(tactic| walk_at "go") => `(tactic| repeat walk_at "one")
namespace Wf
open PySem PySem.Spec PyProof.Rows L2
/-- the source of draws -/
def Src (H : Hp) (s : Addr) : Prop := ∃ a b c : Int, H s = some (.lst [.int a, .int b, .int c])
/-- what a draw leaves -/
def Ext (s : Addr) (H H' : Hp) : Prop := Src H' s ∧ ∀ b o, b ≠ s → H b = some o → H' b = some o
theorem Ext.seq {K : PySem.W.Frag} {s a : Addr} {H H' : Hp} {xs : List V} (e : Ext s H H') (h : SqL K H a xs) (n : a ≠ s) : SqL K H' a xs := by
  rcases h with (h | ⟨o, h⟩) | h
  · exact .inl (.inl (e.2 _ _ n h))
  · exact .inl (.inr ⟨o, e.2 _ _ n h⟩)
  · exact .inr h
section
variable {P : Program} {w : World} {K : PySem.W.Frag} {mg : Str → Option Value} {base : Heap}
def spSource : Sp := fun vs H Q _ => ∃ c : Int, vs = [.int c] ∧ ∀ s H', H s = none → Src H' s → (∀ b o, H b = some o → H' b = some o) → Q (.ref s) H'
theorem ok_law_source (T : Tx K mg) : FnR P w K mg base 1 T.law_source.f T.law_source.fd ["cell"] spSource := by
  refine fun_ok T.law_source.F sc_law_source (fun vs H Q E h => ?_) (fun cdv A outer s H vs Q E hr h => ?_)
  · obtain ⟨c, rfl, _⟩ := h
    rfl
  · obtain ⟨c, rfl, q⟩ := h
    refine ⟨_, (pss_cons (ps_set (i := 0) sc_law_source.nd rfl (Or.inl rfl) (pe_callB call_abs (by rfl) T.n_abs (by decide +kernel) (pa_cons (pv 0) pa_nil)))
      (pss_one (ps_ret (pe_lst (pa_cons (pe_op op_mul (pv 0) (pe_callTy call_int1 (by rfl) T.n_int (by decide +kernel) (pa_cons (pe_cmpR op_ge (pv 0) (pe_op op_pow pe_int pe_int) (nomark _)) pa_nil))) (pa_cons (pe_op op_mod (pe_callTy call_int1 (by rfl) T.n_int (by decide +kernel) (pa_cons (pv 0) pa_nil)) pe_int) (pa_cons pe_int pa_nil))))))), ?_⟩
    walk_at "go"
    refine ⟨(by show 3 ≤ sizeLine; decide), fun p hp => ?_⟩
    refine q p _ hp ⟨_, _, _, upd_same⟩ fun b o e => ?_
    rw [upd_ne (ne_of_none e hp)]
    exact e
def spDraw : Sp := fun vs H Q _ => ∃ (s : Addr) (n : Int), vs = [.ref s, .int n] ∧ 0 < n ∧ n < 2 ^ 60 ∧ Src H s ∧ ∀ d H', 0 ≤ d → d < n → Ext s H H' → Q (.int d) H'
theorem ext_upd {s : Addr} {H : Hp} {a b c : Int} : Ext s H (upd H s (.lst [.int a, .int b, .int c])) := ⟨⟨a, b, c, upd_same⟩, fun x o n e => by rw [upd_ne n]; exact e⟩
theorem ok_law_draw (T : Tx K mg) : FnR P w K mg base 1 T.law_draw.f T.law_draw.fd ["source", "many"] spDraw := by
  refine fun_ok T.law_draw.F sc_law_draw (fun vs H Q E h => ?_) (fun cdv A outer s H vs Q E hr h => ?_)
  · obtain ⟨c, n, rfl, _⟩ := h
    rfl
  · obtain ⟨c, n, rfl, hn, hn2, ⟨x, y, z, hs⟩, q⟩ := h
    refine ⟨_, (pss_cons (ps_if (pt_cmpR op_gt (pe_ix ix_list (pv 0) pe_int (fun _ _ => rfl)) pe_int (nomark _)) (pss_cons (ps_set (i := 2) sc_law_draw.nd rfl (Or.inl rfl) (pe_op op_mod (pe_callTy call_int1 (by rfl) T.n_int (by decide +kernel) (pa_cons (pe_ix ix_list (pv 0) pe_int (fun _ _ => rfl)) pa_nil)) (pv 1)))
      (pss_cons (ps_asg (pe_op op_fdivW (pe_ix ix_list (pv 0) pe_int (fun _ _ => rfl)) (pv 1)) (pg_sub (pv 0) pe_int set_list))
      (pss_one (ps_ret (pv 2))))) pss_nil)
      (pss_cons (ps_asg (pe_op op_add (pe_ix ix_list (pv 0) pe_int (fun _ _ => rfl)) pe_int) (pg_sub (pv 0) pe_int set_list))
      (pss_cons (ps_set (i := 3) sc_law_draw.nd rfl (Or.inl rfl) (pe_op op_mod (pe_callTy call_int1 (by rfl) T.n_int (by decide +kernel) (pa_cons (pe_op op_mul (pe_op op_add (pe_op op_add (pe_ix ix_list (pv 0) pe_int (fun _ _ => rfl)) (pe_op op_mul pe_int (pe_ix ix_list (pv 0) pe_int (fun _ _ => rfl)))) pe_int) pe_int) pa_nil)) pe_int))
      (pss_cons (ps_set (i := 3) sc_law_draw.nd rfl (Or.inl rfl) (pe_op op_mod (pe_callTy call_int1 (by rfl) T.n_int (by decide +kernel) (pa_cons (pe_op op_mul (pv 3) (pe_op op_add (pe_op op_fdiv (pv 3) pe_int) pe_int)) pa_nil)) pe_int))
      (pss_one (ps_ret (pe_op op_mod (pe_callTy call_int1 (by rfl) T.n_int (by decide +kernel) (pa_cons (pe_op op_fdiv (pe_op op_mod (pe_callTy call_int1 (by rfl) T.n_int (by decide +kernel) (pa_cons (pe_op op_mul (pv 3) (pe_op op_add (pe_op op_fdiv (pv 3) pe_int) pe_int)) pa_nil)) pe_int) pe_int) pa_nil)) (pv 1)))))))), ?_⟩
    have hS : SqL K H c [.int x, .int y, .int z] := .inl (.inl hs)
    walk_at "go"
    refine ite2 (fun e => ?_) (fun e => ?_)
    · walk_at "go"
      refine ⟨wide_div (b := 60) hn (by omega) (by decide) (by decide), ?_⟩
      walk_at "go"
      refine ⟨c, _, 0, 0, rfl, rfl, hs, rfl, ?_⟩
      walk_at "go"
      exact q _ _ (Int.emod_nonneg _ (by omega)) (Int.emod_lt_of_pos _ hn) ext_upd
    · walk_at "go"
      refine ⟨c, _, 2, 2, rfl, rfl, hs, rfl, ?_⟩
      have hS2 : SqL K (upd H c (.lst [.int x, .int y, .int (z + 1)])) c [.int x, .int y, .int (z + 1)] := .inl (.inl upd_same)
      walk_at "go"
      exact q _ _ (Int.emod_nonneg _ (by omega)) (Int.emod_lt_of_pos _ hn) ext_upd
/-! _law_pick -/
def spPick (K : PySem.W.Frag) : Sp := fun vs H Q _ => ∃ (s l : Addr) (xs : List V), vs = [.ref s, .ref l] ∧ Src H s ∧ SqL K H l xs ∧ l ≠ s ∧ 0 < xs.length ∧ xs.length < 2 ^ 50 ∧ ∀ (i : Nat) (v : V) H', xs[i]? = some v → Ext s H H' → Q v H'
theorem ok_law_pick (T : Tx K mg) : FnR P w K mg base 2 T.law_pick.f T.law_pick.fd ["source", "some"] (spPick K) := by
  have G_law_draw : FnR P w K mg base 1 T.law_draw.f T.law_draw.fd ["source", "many"] spDraw := ok_law_draw T
  refine fun_ok T.law_pick.F sc_law_pick (fun vs H Q E h => ?_) (fun cdv A outer s H vs Q E hr h => ?_)
  · obtain ⟨_, _, _, rfl, _⟩ := h
    rfl
  · obtain ⟨c, l, xs, rfl, hs, hl, hne, h0, h1, q⟩ := h
    refine ⟨_, (pss_one (ps_ret (pe_ix ix_list (pv 1) (pe_r G_law_draw (hr.low (by decide)) (by rfl) T.law_draw.g T.law_draw.F.kp T.law_draw.b (pa_cons (pv 0) (pa_cons (pe_callB call_len_seq (by rfl) T.n_len PySem.boot_len (pa_cons (pv 1) pa_nil)) pa_nil))) (fun _ _ => rfl)))), ?_⟩
    refine ⟨_, rfl, _, rfl, _, rfl, l, xs, rfl, .inl hl, c, _, rfl, by omega, by omega, hs, fun d H' d0 d1 e => ?_⟩
    have hd : d = (d.toNat : Int) := (Int.toNat_of_nonneg d0).symm
    have hlt : d.toNat < xs.length := by omega
    exact ⟨l, xs, d, xs[d.toNat], rfl, rfl, e.seq hl hne, at_of hd (List.getElem?_eq_getElem hlt), q d.toNat _ H' (List.getElem?_eq_getElem hlt) e⟩
theorem Ext.trans {s : Addr} {A B C : Hp} (h : Ext s A B) (g : Ext s B C) : Ext s A C := ⟨g.1, fun b o n z => g.2 b o n (h.2 b o n z)⟩
theorem Ext.same {s : Addr} {A B C : Hp} (h : Ext s A B) (g : Same B C) : Ext s A C := by
  obtain ⟨⟨a, b, c, q⟩, r⟩ := h
  exact ⟨⟨a, b, c, g _ _ q⟩, fun b o n z => g _ _ (r b o n z)⟩
theorem same_new {A : Hp} {p : Addr} {o : HO} (h : A p = none) : Same A (upd A p o) := fun b q z => by rw [upd_ne (ne_of_none z h)]; exact z
theorem Ext.new {s p : Addr} {A B : Hp} {o : HO} (h : Ext s A B) (hp : B p = none) : Ext s A (upd B p o) := h.same (same_new hp)
theorem Src.ext {s : Addr} {A : Hp} (h : Src A s) : Ext s A A := ⟨h, fun _ _ _ z => z⟩
theorem Src.ne {s p : Addr} {A : Hp} (h : Src A s) (hp : A p = none) : p ≠ s := fun e => by
  obtain ⟨_, _, _, q⟩ := h
  rw [e, q] at hp
  cases hp
end
end Wf
namespace Wf
open PySem PySem.Spec PyProof.Rows L2
abbrev Wd := List Nat
abbrev SW (w : Wd) : Str := ⟨w.toArray⟩
inductive Mood where
  | beg
  | fac
  | one
  deriving DecidableEq
open Mood
/-! ### the law's look at each sign -/
def opn (m : Mood) (d : Nat) (s : Bool) (c : Nat) : Bool :=
  if m = beg then decide (c ∈ [49, 119, 120, 121, 122, 40])
  else if c = 41 then decide (0 < d) else if c = 61 then decide (d = 0) && !s else decide (m = fac) && decide (c ∈ [119, 120, 121, 122, 40, 94, 126])
def nxt (m : Mood) (d : Nat) (s : Bool) (c : Nat) : Mood × Nat × Bool :=
  if c = 40 then (beg, d + 1, s) else if c = 61 then (beg, d, true) else if c = 41 then (fac, d - 1, s)
  else if m = beg then (if c = 49 then one else fac, d, s) else if c ∈ [119, 120, 121, 122] then (fac, d, s) else (m, d, s)
def run : Mood × Nat × Bool → Wd → Option (Mood × Nat × Bool)
  | st, [] => some st
  | (m, d, s), c :: u => if opn m d s c = true then run (nxt m d s c) u else none
def whole : Mood × Nat × Bool → Bool
  | (m, d, s) => s && decide (d = 0) && decide (m ≠ beg)
def faultGo : Nat → Mood × Nat × Bool → Wd → Option Nat
  | k, st, [] => if whole st = true then none else some k
  | k, (m, d, s), c :: u => if opn m d s c = true then faultGo (k + 1) (nxt m d s c) u else some k
def fault (u : Wd) : Option Nat := faultGo 0 (beg, 0, false) u
theorem run_app : ∀ (a b : Wd) (st : Mood × Nat × Bool), run st (a ++ b) = (run st a).bind fun st' => run st' b
  | [], b, st => rfl
  | c :: a, b, (m, d, s) => by
    show (if opn m d s c = true then run (nxt m d s c) (a ++ b) else none) = (if opn m d s c = true then run (nxt m d s c) a else none).bind _
    cases opn m d s c with
    | true => exact run_app a b _
    | false => rfl
theorem run_one {m : Mood} {d : Nat} {s : Bool} {c : Nat} : run (m, d, s) [c] = if opn m d s c = true then some (nxt m d s c) else none := rfl
theorem fault_bad : ∀ (k : Nat) (u : Wd) (j : Nat) (st : Mood × Nat × Bool) (m : Mood) (d : Nat) (s : Bool) (c : Nat), run st (u.take k) = some (m, d, s) → u[k]? = some c → opn m d s c = false → faultGo j st u = some (j + k)
  | 0, u, j, (m0, d0, s0), m, d, s, c, h, hc, ho => by
    have e : (m0, d0, s0) = (m, d, s) := Option.some.inj h
    cases e
    cases u with
    | nil => cases hc
    | cons a u =>
      have ea : a = c := Option.some.inj hc
      subst ea
      show (if opn m0 d0 s0 a = true then _ else some j) = some (j + 0)
      rw [ho]
      rfl
  | k + 1, [], j, st, m, d, s, c, h, hc, ho => by cases hc
  | k + 1, a :: u, j, (m0, d0, s0), m, d, s, c, h, hc, ho => by
    have h' : (if opn m0 d0 s0 a = true then run (nxt m0 d0 s0 a) (u.take k) else none) = some (m, d, s) := h
    show (if opn m0 d0 s0 a = true then faultGo (j + 1) (nxt m0 d0 s0 a) u else some j) = some (j + (k + 1))
    cases ha : opn m0 d0 s0 a with
    | false =>
      rw [ha] at h'
      cases h'
    | true =>
      rw [ha] at h'
      rw [if_pos rfl, fault_bad k u (j + 1) _ m d s c h' (by simpa using hc) ho]
      congr 1
      omega
theorem fault_end : ∀ (u : Wd) (j : Nat) (st st' : Mood × Nat × Bool), run st u = some st' → faultGo j st u = if whole st' = true then none else some (j + u.length)
  | [], j, st, st', h => by
    cases h
    rfl
  | a :: u, j, (m0, d0, s0), st', h => by
    have h' : (if opn m0 d0 s0 a = true then run (nxt m0 d0 s0 a) u else none) = some st' := h
    show (if opn m0 d0 s0 a = true then faultGo (j + 1) (nxt m0 d0 s0 a) u else some j) = _
    cases ha : opn m0 d0 s0 a with
    | false =>
      rw [ha] at h'
      cases h'
    | true =>
      rw [ha] at h'
      rw [if_pos rfl, fault_end u (j + 1) _ _ h', List.length_cons]
      cases whole st' with
      | true => rfl
      | false =>
        show some (j + 1 + u.length) = some (j + (u.length + 1))
        congr 1
        omega
/-! ### what a term, a power may come to -/
def Toks (v : Wd) (ts : List Str) : Prop := ts.length + 1 ≤ 2 * v.length ∧ ∀ c ∈ [119, 120, 121, 122], ((⟨#[c]⟩ : Str) ∈ ts ↔ c ∈ v)
/-- the look ends at k, in a state that has d open at least -/
def Ends (d : Nat) (s : Bool) (u : Wd) (k : Nat) (m : Mood) (d' : Nat) : Prop := (∃ c, u[k]? = some c ∧ opn m d' s c = false) ∨ (k = u.length ∧ (m = beg ∨ d < d'))
def TFail (u : Wd) (k : Nat) : Prop := ∀ d s, ∃ m d', run (beg, d, s) (u.take k) = some (m, d', s) ∧ Ends d s u k m d'
def PFail (u : Wd) (k : Nat) : Prop := ∀ m0 d s, m0 ≠ one → ∃ m d', run (m0, d, s) (u.take k) = some (m, d', s) ∧ Ends d s u k m d'
def Stops (u : Wd) : Prop := ∀ c r, u = c :: r → c ∉ [119, 120, 121, 122, 40, 94, 126]
def NoOp (u : Wd) : Prop := ∀ c r, u = c :: r → c ≠ 94 ∧ c ≠ 126
def TOk (u v : Wd) (ts : List Str) : Prop := ∃ r, u = v ++ r ∧ v ≠ [] ∧ Toks v ts ∧ ∀ d s, ∃ m, m ≠ beg ∧ run (beg, d, s) v = some (m, d, s) ∧ (m = fac → Stops r)
def PInv (u v : Wd) (ts : List Str) : Prop := ∃ r, u = v ++ r ∧ v ≠ [] ∧ Toks v ts ∧ ∀ m d s, m ≠ one → run (m, d, s) v = some (fac, d, s)
def POk (u v : Wd) (ts : List Str) : Prop := ∃ r, u = v ++ r ∧ v ≠ [] ∧ Toks v ts ∧ (∀ m d s, m ≠ one → run (m, d, s) v = some (fac, d, s)) ∧ NoOp r
def LInv (u v : Wd) (ts : List Str) : Prop := ∃ r, u = v ++ r ∧ v ≠ [] ∧ Toks v ts ∧ (∀ d s, run (beg, d, s) v = some (fac, d, s)) ∧ NoOp r
theorem t_one (r : Wd) : TOk (49 :: r) [49] ["one"] := by
  refine ⟨r, rfl, by simp, ⟨by decide, by decide⟩, fun d s => ⟨one, by decide, rfl, fun q => nomatch q⟩⟩
theorem t_bad {u : Wd} (h : ∀ c r, u = c :: r → c ∉ [49, 119, 120, 121, 122, 40]) : TFail u 0 := by
  intro d s
  refine ⟨beg, d, rfl, ?_⟩
  cases u with
  | nil => exact .inr ⟨rfl, .inl rfl⟩
  | cons c r =>
    refine .inl ⟨c, rfl, ?_⟩
    show decide _ = false
    exact decide_eq_false (h c r rfl)
theorem t_first {u : Wd} {k : Nat} (h : PFail u k) : TFail u k := fun d s => h beg d s (by decide)
theorem l_first {u v : Wd} {ts : List Str} (h : POk u v ts) : LInv u v ts := by
  obtain ⟨r, e, hv, ht, hr, hn⟩ := h
  exact ⟨r, e, hv, ht, fun d s => hr beg d s (by decide), hn⟩
theorem toks_app {v w : Wd} {a b : List Str} (h : Toks v a) (g : Toks w b) : Toks (v ++ w) (a ++ b ++ [("times" : Str)]) := by
  obtain ⟨h1, h2⟩ := h
  obtain ⟨g1, g2⟩ := g
  refine ⟨?_, fun c hc => ?_⟩
  · simp only [List.length_append, List.length_singleton]
    omega
  · rw [List.mem_append, List.mem_append, List.mem_append, h2 c hc, g2 c hc, List.mem_singleton]
    constructor
    · rintro (q | q)
      · exact q
      · exfalso
        have := congrArg (fun z : Str => z.cps.size) q
        revert this
        show (1 : Nat) = (("times" : Str)).cps.size → False
        decide
    · exact .inl
theorem l_more {u v r w : Wd} {a b : List Str} (h : LInv u v a) (e : u = v ++ r) (g : POk r w b) : LInv u (v ++ w) (a ++ b ++ [("times" : Str)]) := by
  obtain ⟨r1, e1, hv, ht, hr, _⟩ := h
  obtain ⟨r2, e2, hw, gt, gr, gn⟩ := g
  have : r1 = r := List.append_cancel_left (e1.symm.trans e)
  subst this
  refine ⟨r2, by rw [e1, e2, List.append_assoc], by simp [hv], toks_app ht gt, fun d s => ?_, gn⟩
  rw [run_app, hr d s]
  exact gr fac d s (by decide)
theorem take_app {v r : Wd} {k : Nat} : (v ++ r).take (v.length + k) = v ++ r.take k := by
  rw [List.take_append, List.take_of_length_le (by omega), Nat.add_sub_cancel_left]
theorem get_app {v r : Wd} {k : Nat} : (v ++ r)[v.length + k]? = r[k]? := by
  rw [List.getElem?_append_right (by omega), Nat.add_sub_cancel_left]
theorem l_fail {u v r : Wd} {a : List Str} {k : Nat} (h : LInv u v a) (e : u = v ++ r) (g : PFail r k) : TFail u (v.length + k) := by
  obtain ⟨r1, e1, hv, ht, hr, _⟩ := h
  intro d s
  obtain ⟨m, d', h1, h2⟩ := g fac d s (by decide)
  refine ⟨m, d', ?_, ?_⟩
  · rw [e, take_app, run_app, hr d s]
    exact h1
  · rcases h2 with ⟨c, q1, q2⟩ | ⟨q1, q2⟩
    · exact .inl ⟨c, by rw [e, get_app]; exact q1, q2⟩
    · exact .inr ⟨by rw [e, List.length_append, q1], q2⟩
theorem l_end {u v r : Wd} {a : List Str} (h : LInv u v a) (e : u = v ++ r) (g : ∀ c t, r = c :: t → c ∉ [119, 120, 121, 122, 40]) : TOk u v a := by
  obtain ⟨r1, e1, hv, ht, hr, hn⟩ := h
  have : r1 = r := List.append_cancel_left (e1.symm.trans e)
  subst this
  refine ⟨r1, e1, hv, ht, fun d s => ⟨fac, by decide, hr d s, fun _ c t q => ?_⟩⟩
  have h1 := g c t q
  obtain ⟨h2, h3⟩ := hn c t q
  simp only [List.mem_cons, List.not_mem_nil, or_false] at h1 ⊢
  omega
/-- behind a term nothing but ) and = may come -/
theorem shut {m : Mood} {d : Nat} {s : Bool} {c : Nat} {r t : Wd} (hm : m ≠ beg) (hs : m = fac → Stops r) (e : r = c :: t) (h1 : c = 41 → d = 0) (h2 : c = 61 → d = 0 → s = true) : opn m d s c = false := by
  unfold opn
  rw [if_neg hm]
  by_cases c1 : c = 41
  · rw [if_pos c1]
    exact decide_eq_false (by have := h1 c1; omega)
  · rw [if_neg c1]
    by_cases c2 : c = 61
    · rw [if_pos c2]
      by_cases hd : d = 0
      · rw [h2 c2 hd]
        simp
      · rw [decide_eq_false hd]
        rfl
    · rw [if_neg c2]
      by_cases hf : m = fac
      · have := hs hf c t e
        rw [decide_eq_false this, Bool.and_false]
      · rw [decide_eq_false hf]
        rfl
theorem run_par {m : Mood} {d : Nat} {s : Bool} {u : Wd} (hm : m ≠ one) : run (m, d, s) (40 :: u) = run (beg, d + 1, s) u := by
  cases m with
  | beg => rfl
  | fac => rfl
  | one => exact absurd rfl hm
theorem p_par {u : Wd} {k : Nat} (h : TFail u k) : PFail (40 :: u) (k + 1) := by
  intro m0 d s hm
  obtain ⟨m, d', h1, h2⟩ := h (d + 1) s
  refine ⟨m, d', ?_, ?_⟩
  · rw [List.take_succ_cons, run_par hm]
    exact h1
  · rcases h2 with ⟨c, q1, q2⟩ | ⟨q1, q2⟩
    · exact .inl ⟨c, by simpa using q1, q2⟩
    · refine .inr ⟨by rw [q1, List.length_cons], ?_⟩
      rcases q2 with q2 | q2
      · exact .inl q2
      · exact .inr (by omega)
theorem p_open {u v r : Wd} {ts : List Str} (h : TOk u v ts) (e : u = v ++ r) (g : ∀ t, r ≠ 41 :: t) : PFail (40 :: u) (v.length + 1) := by
  obtain ⟨r1, e1, hv, ht, hr⟩ := h
  have : r1 = r := List.append_cancel_left (e1.symm.trans e)
  subst this
  intro m0 d s hm
  obtain ⟨m, hb, hrun, hst⟩ := hr (d + 1) s
  refine ⟨m, d + 1, ?_, ?_⟩
  · rw [List.take_succ_cons, run_par hm, e1]
    have := take_app (v := v) (r := r1) (k := 0)
    rw [Nat.add_zero, List.take_zero, List.append_nil] at this
    rw [this]
    exact hrun
  · cases r1 with
    | nil => exact .inr ⟨by rw [e1, List.append_nil, List.length_cons], .inr (by omega)⟩
    | cons c t =>
      refine .inl ⟨c, ?_, shut hb hst rfl (fun q => absurd (by rw [q]) (g t)) (fun _ q => by omega)⟩
      show u[v.length]? = some c
      rw [e1]
      have := get_app (v := v) (r := c :: t) (k := 0)
      rw [Nat.add_zero] at this
      rw [this]
      rfl
theorem p_shut {u v t : Wd} {ts : List Str} (h : TOk u v ts) (e : u = v ++ 41 :: t) : PInv (40 :: u) (40 :: v ++ [41]) ts := by
  obtain ⟨r1, e1, hv, ht, hr⟩ := h
  refine ⟨t, by rw [e]; simp, by simp, ⟨?_, fun c hc => ?_⟩, fun m d s hm => ?_⟩
  · have := ht.1
    simp only [List.cons_append, List.length_cons, List.length_append, List.length_nil]
    omega
  · rw [ht.2 c hc]
    simp only [List.mem_cons, List.not_mem_nil, or_false] at hc
    simp only [List.cons_append, List.mem_cons, List.mem_append, List.not_mem_nil, or_false]
    constructor
    · exact fun q => .inr (.inl q)
    · rintro (q | q | q)
      · omega
      · exact q
      · omega
  · obtain ⟨m1, hb, hrun, hst⟩ := hr (d + 1) s
    show run (m, d, s) (40 :: (v ++ [41])) = _
    rw [run_par hm, run_app, hrun]
    show run (m1, d + 1, s) [41] = _
    rw [run_one]
    have : opn m1 (d + 1) s 41 = true := by
      unfold opn
      rw [if_neg hb, if_pos rfl]
      exact decide_eq_true (by omega)
    rw [if_pos this]
    rfl
theorem p_name {c : Nat} {r : Wd} (h : c ∈ [119, 120, 121, 122]) : PInv (c :: r) [c] [⟨#[c]⟩] := by
  refine ⟨r, rfl, by simp, ⟨by simp, fun x hx => ?_⟩, fun m d s hm => ?_⟩
  · rw [List.mem_singleton, List.mem_singleton]
    constructor
    · intro q
      have := congrArg (fun z : Str => z.cps.toList) q
      simpa using this
    · rintro rfl
      rfl
  · simp only [List.mem_cons, List.not_mem_nil, or_false] at h
    rcases h with rfl | rfl | rfl | rfl
    all_goals
      cases m with
      | beg => rfl
      | fac => rfl
      | one => exact absurd rfl hm
theorem p_op {u v r : Wd} {c : Nat} {ts : List Str} {t : Str} (h : PInv u v ts) (e : u = v ++ c :: r) (hc : c = 94 ∨ c = 126) (ht : t = "omega" ∨ t = "less") : PInv u (v ++ [c]) (ts ++ [t]) := by
  obtain ⟨r1, e1, hv, hT, hr⟩ := h
  refine ⟨r, by rw [e]; simp, by simp, ⟨?_, fun x hx => ?_⟩, fun m d s hm => ?_⟩
  · have := hT.1
    simp only [List.length_append, List.length_cons, List.length_nil]
    omega
  · rw [List.mem_append, List.mem_append, hT.2 x hx, List.mem_singleton, List.mem_singleton]
    simp only [List.mem_cons, List.not_mem_nil, or_false] at hx
    constructor
    · rintro (q | q)
      · exact .inl q
      · exfalso
        have := congrArg (fun z : Str => z.cps.size) q
        rcases ht with rfl | rfl
        · revert this
          show (1 : Nat) = (("omega" : Str)).cps.size → False
          decide
        · revert this
          show (1 : Nat) = (("less" : Str)).cps.size → False
          decide
    · rintro (q | q)
      · exact .inl q
      · omega
  · rw [run_app, hr m d s hm]
    show run (fac, d, s) [c] = _
    rcases hc with rfl | rfl <;> rfl
theorem p_end {u v r : Wd} {ts : List Str} (h : PInv u v ts) (e : u = v ++ r) (g : NoOp r) : POk u v ts := by
  obtain ⟨r1, e1, hv, hT, hr⟩ := h
  have : r1 = r := List.append_cancel_left (e1.symm.trans e)
  subst this
  exact ⟨r1, e1, hv, hT, hr, g⟩
/-! ### both terms -/
theorem f_first {u : Wd} {k : Nat} (h : TFail u k) : fault u = some k := by
  obtain ⟨m, d, h1, h2⟩ := h 0 false
  unfold fault
  rcases h2 with ⟨c, q1, q2⟩ | ⟨q1, q2⟩
  · rw [fault_bad k u 0 _ m d false c h1 q1 q2, Nat.zero_add]
  · rw [List.take_of_length_le (by omega)] at h1
    rw [fault_end u 0 _ _ h1]
    show (if (false && decide (d = 0) && decide (m ≠ beg)) = true then none else some (0 + u.length)) = some k
    rw [q1]
    simp
theorem f_noeq {u v r : Wd} {ts : List Str} (h : TOk u v ts) (e : u = v ++ r) (g : ∀ t, r ≠ 61 :: t) : fault u = some v.length := by
  obtain ⟨r1, e1, hv, ht, hr⟩ := h
  have : r1 = r := List.append_cancel_left (e1.symm.trans e)
  subst this
  obtain ⟨m, hb, hrun, hst⟩ := hr 0 false
  have h0 := take_app (v := v) (r := r1) (k := 0)
  rw [Nat.add_zero, List.take_zero, List.append_nil] at h0
  unfold fault
  cases r1 with
  | nil =>
    rw [List.append_nil] at e1
    subst e1
    rw [fault_end u 0 _ _ hrun]
    show (if (false && decide (0 = 0) && decide (m ≠ beg)) = true then none else some (0 + u.length)) = some u.length
    simp
  | cons c t =>
    have h1 := get_app (v := v) (r := c :: t) (k := 0)
    rw [Nat.add_zero] at h1
    rw [fault_bad v.length u 0 _ m 0 false c (by rw [e1, h0]; exact hrun) (by rw [e1, h1]; rfl) (shut hb hst rfl (fun _ => rfl) (fun q => absurd (by rw [q]) (g t))), Nat.zero_add]
/-- the first term and = -/
theorem f_eq {u v r : Wd} {ts : List Str} (h : TOk u v ts) (e : u = v ++ 61 :: r) : run (beg, 0, false) (v ++ [61]) = some (beg, 0, true) := by
  obtain ⟨r1, e1, hv, ht, hr⟩ := h
  obtain ⟨m, hb, hrun, hst⟩ := hr 0 false
  rw [run_app, hrun]
  show run (m, 0, false) [61] = _
  rw [run_one]
  have : opn m 0 false 61 = true := by
    unfold opn
    rw [if_neg hb]
    rfl
  rw [if_pos this]
  rfl
theorem f_second {u v r : Wd} {ts : List Str} {k : Nat} (h : TOk u v ts) (e : u = v ++ 61 :: r) (g : TFail r k) : fault u = some (v.length + 1 + k) := by
  have h1 := f_eq h e
  obtain ⟨m, d, g1, g2⟩ := g 0 true
  have eu : u = (v ++ [61]) ++ r := by rw [e]; simp
  have hl : (v ++ [61]).length = v.length + 1 := by simp
  unfold fault
  have ht : run (beg, 0, false) (u.take (v.length + 1 + k)) = some (m, d, true) := by
    rw [← hl, eu, take_app, run_app, h1]
    exact g1
  rcases g2 with ⟨c, q1, q2⟩ | ⟨q1, q2⟩
  · rw [fault_bad (v.length + 1 + k) u 0 _ m d true c ht (by rw [← hl, eu, get_app]; exact q1) q2, Nat.zero_add]
  · have hul : u.length = v.length + 1 + k := by rw [eu, List.length_append, hl, q1]
    rw [← hul, List.take_length] at ht
    rw [fault_end u 0 _ _ ht, hul]
    have : whole (m, d, true) = false := by
      show (true && decide (d = 0) && decide (m ≠ beg)) = false
      rcases q2 with q2 | q2
      · rw [q2]
        simp
      · rw [decide_eq_false (by omega)]
        rfl
    rw [this, Nat.zero_add]
    rfl
theorem f_more {u v r w t : Wd} {c : Nat} {ts as : List Str} (h : TOk u v ts) (e : u = v ++ 61 :: r) (g : TOk r w as) (e2 : r = w ++ c :: t) : fault u = some (v.length + 1 + w.length) := by
  have h1 := f_eq h e
  obtain ⟨r1, e1, hw, gt, gr⟩ := g
  have : r1 = c :: t := List.append_cancel_left (e1.symm.trans e2)
  subst this
  obtain ⟨m, hb, hrun, hst⟩ := gr 0 true
  have eu : u = (v ++ [61] ++ w) ++ c :: t := by rw [e, e2]; simp
  have hl : (v ++ [61] ++ w).length = v.length + 1 + w.length := by simp; omega
  have h0 := take_app (v := v ++ [61] ++ w) (r := c :: t) (k := 0)
  rw [Nat.add_zero, List.take_zero, List.append_nil] at h0
  have g0 := get_app (v := v ++ [61] ++ w) (r := c :: t) (k := 0)
  rw [Nat.add_zero] at g0
  unfold fault
  rw [fault_bad (v.length + 1 + w.length) u 0 _ m 0 true c ?_ ?_ (shut hb hst rfl (fun _ => rfl) (fun _ _ => rfl)), Nat.zero_add]
  · rw [← hl, eu, h0, run_app, h1]
    exact hrun
  · rw [← hl, eu, g0]
    rfl
theorem f_none {u v r : Wd} {ts as : List Str} (h : TOk u v ts) (e : u = v ++ 61 :: r) (g : TOk r r as) : fault u = none := by
  have h1 := f_eq h e
  obtain ⟨r1, e1, hw, gt, gr⟩ := g
  obtain ⟨m, hb, hrun, hst⟩ := gr 0 true
  have eu : u = (v ++ [61]) ++ r := by rw [e]; simp
  unfold fault
  have ht : run (beg, 0, false) u = some (m, 0, true) := by
    rw [eu, run_app, h1]
    exact hrun
  rw [fault_end u 0 _ _ ht]
  have : whole (m, 0, true) = true := by
    show (true && decide (0 = 0) && decide (m ≠ beg)) = true
    rw [decide_eq_true hb]
    rfl
  rw [this]
  rfl
end Wf
namespace Wf
open PySem PySem.Spec PyProof.Rows L2
/-! ### the reader -/
def rf (z : Str) (p : Nat) : List (Str × V) := [("text", .str z), ("spot", .int (p : Nat))]
theorem rf_text (z : Str) (p : Nat) : (rf z p).lookup ("text" : Str) = some (.str z) := rfl
theorem rf_spot (z : Str) (p : Nat) : (rf z p).lookup ("spot" : Str) = some (.int (p : Nat)) := rfl
theorem rf_put (z : Str) (p q : Nat) : putF "spot" (.int (q : Nat)) (rf z p) = rf z q := rfl
theorem rf_new (z : Str) : putF "spot" (.int 0) (putF "text" (.str z) []) = rf z 0 := rfl
def RdAt (C : Addr) (z : Str) (p : Nat) (r : Addr) (H : Hp) : Prop := ∃ dx, H r = some (.ins C dx (rf z p))
/-- but r's all stands -/
def Kept (r : Addr) (H H' : Hp) : Prop := ∀ b o, b ≠ r → H b = some o → H' b = some o
theorem Kept.refl {r : Addr} {H : Hp} : Kept r H H := fun _ _ _ z => z
theorem Kept.trans {r : Addr} {A B C : Hp} (h : Kept r A B) (g : Kept r B C) : Kept r A C := fun b o n z => g b o n (h b o n z)
theorem Kept.here {r : Addr} {A B : Hp} {o : HO} (h : Kept r A B) : Kept r A (upd B r o) := fun b q n z => by rw [upd_ne n]; exact h b q n z
theorem Kept.new {r p : Addr} {A B : Hp} {o : HO} (h : Kept r A B) (hp : B p = none) : Kept r A (upd B p o) := fun b q n z => by
  have := h b q n z
  rw [upd_ne (ne_of_none this hp)]
  exact this
theorem Kept.own {r p : Addr} {A B : Hp} {o : HO} (h : Kept r A B) (hp : A p = none) : Kept r A (upd B p o) := fun b q n z => by
  rw [upd_ne (ne_of_none z hp)]
  exact h b q n z
theorem Kept.free {r p : Addr} {A B : Hp} (h : Kept r A B) (hr : p ≠ r) (hp : B p = none) : A p = none := by
  cases e : A p with
  | none => rfl
  | some o =>
    have := h p o hr e
    rw [hp] at this
    cases this
theorem RdAt.ne {C : Addr} {z : Str} {p : Nat} {r q : Addr} {H : Hp} (h : RdAt C z p r H) (hq : H q = none) : q ≠ r := fun e => by
  obtain ⟨dx, h⟩ := h
  rw [e, h] at hq
  cases hq
theorem RdAt.new {C : Addr} {z : Str} {p : Nat} {r q : Addr} {H : Hp} {o : HO} (h : RdAt C z p r H) (hq : q ≠ r) : RdAt C z p r (upd H q o) := by
  obtain ⟨dx, h⟩ := h
  exact ⟨dx, by rw [upd_ne (Ne.symm hq)]; exact h⟩
def hdS : Wd → Str
  | [] => ⟨#[]⟩
  | c :: _ => ⟨#[c]⟩
def isF : Wd → Bool
  | [] => false
  | c :: _ => decide (c ∈ [119, 120, 121, 122, 40])
theorem cut_one {z : Str} {a : Nat} (h : a ≤ z.length) : cutS z (some (a : Int)) (some ((a : Int) + 1)) = hdS (z.cps.toList.drop a) := by
  unfold cutS
  rw [HT.sIx_nat, show ((a : Int) + 1) = ((a + 1 : Nat) : Int) by omega, HT.sIx_nat]
  have hl : z.cps.toList.length = z.length := Array.length_toList
  by_cases e : a = z.length
  · rw [show min a z.length = a by omega, show min (a + 1) z.length = a by omega, Nat.sub_self, List.take_zero, e]
    rw [List.drop_of_length_le (by omega)]
    rfl
  · rw [show min a z.length = a by omega, show min (a + 1) z.length = a + 1 by omega, Nat.add_sub_cancel_left]
    rw [List.drop_eq_getElem_cons (by omega), List.take_succ_cons, List.take_zero]
    rfl
theorem hd_eq {u : Wd} {c : Nat} : (hdS u = (⟨#[c]⟩ : Str)) ↔ ∃ t, u = c :: t := by
  cases u with
  | nil =>
    constructor
    · intro h
      have := congrArg (fun z : Str => z.cps.size) h
      cases this
    · rintro ⟨t, h⟩
      cases h
  | cons a u =>
    constructor
    · intro h
      have := congrArg (fun z : Str => z.cps.toList) h
      have h2 : a = c := by simpa [hdS] using this
      exact ⟨u, by rw [h2]⟩
    · rintro ⟨t, h⟩
      cases h
      rfl
section
variable {P : Program} {w : World} {K : PySem.W.Frag} {mg : Str → Option Value} {base : Heap}
theorem ok_NoTerm_init (T : Tx K mg) : FnOk P w K mg base CX0 1 T.NoTerm.fI T.NoTerm.fd ["self", "place"] (spXI T.NoTerm.C "place") := by
  refine T.NoTerm.F.ok sc_NoTerm_init (fun vs H Q E h => ?_) (fun cdv A outer s H vs Q E hr h => ?_)
  · obtain ⟨_, _, rfl, _⟩ := h
    rfl
  · obtain ⟨a, v, rfl, ha, q⟩ := h
    refine ⟨_, pss_one (ps_ost (pv 0) (pv 1)), ?_⟩
    refine ⟨_, rfl, _, rfl, a, T.NoTerm.C, rfl, T.NoTerm.O, T.NoTerm.no, .inl ⟨ha, fun d hd hda => q d hd hda⟩⟩
@[irreducible] def spInit (C : Addr) : Sp := fun vs H Q _ => ∃ (r dx : Addr) (z : Str), vs = [.ref r, .str z] ∧ H r = some (.ins C dx []) ∧ ∀ H', Kept r H H' → RdAt C z 0 r H' → Q .non H'
theorem ok_Reader_init (T : Tx K mg) : FnR P w K mg base 1 T.Reader_init.f T.Reader_init.fd ["self", "text"] (spInit T.C_Reader) := by
  refine fun_ok T.Reader_init.F sc_Reader_init (fun vs H Q E h => ?_) (fun cdv A outer s H vs Q E hr h => ?_)
  · unfold spInit at h
    obtain ⟨_, _, _, rfl, _⟩ := h
    rfl
  · unfold spInit at h
    obtain ⟨r, dx, z, rfl, hr0, q⟩ := h
    refine ⟨_, (pss_one (ps_asg (pe_tup (pa_cons (pv 1) (pa_cons pe_int pa_nil))) (pg_tup (by rfl) (pgs_cons (pg_fld (pv 0)) (pgs_cons (pg_fld (pv 0)) pgs_nil))))), ?_⟩
    refine ⟨_, rfl, (by show 2 ≤ sizeLine; decide), fun t ht => ?_⟩
    have hrt : r ≠ t := ne_of_none hr0 ht
    refine ⟨t, _, rfl, .inl (.inl upd_same), rfl, _, _, rfl, ?_⟩
    refine ⟨_, rfl, r, T.C_Reader, dx, [], rfl, (by rw [upd_ne hrt]; exact hr0), T.cl_Reader, T.no_Reader_text, (by decide), _, _, rfl, ?_⟩
    refine ⟨_, rfl, r, T.C_Reader, dx, _, rfl, upd_same, T.cl_Reader, T.no_Reader_spot, (by show 1 < 1000; decide), rfl, ?_⟩
    exact q _ ((Kept.refl.new ht).here.here) ⟨dx, by rw [upd_same]; rfl⟩
@[irreducible] def spSign (C : Addr) : Sp := fun vs H Q _ => ∃ (r : Addr) (z : Str) (p : Nat), vs = [.ref r] ∧ RdAt C z p r H ∧ p ≤ z.length ∧ z.length ≤ 200 ∧ Q (.str (hdS (z.cps.toList.drop p))) H
theorem sign_go {C r : Addr} {z : Str} {p : Nat} {H : Hp} {Q : VK} {E : XK} (h : RdAt C z p r H) (hp : p ≤ z.length) (hz : z.length ≤ 200) (q : Q (.str (hdS (z.cps.toList.drop p))) H) : spSign C [.ref r] H Q E := by
  unfold spSign
  exact ⟨r, z, p, rfl, h, hp, hz, q⟩
theorem ok_Reader_sign (T : Tx K mg) : FnR P w K mg base 1 T.Reader_sign.f T.Reader_sign.fd ["self"] (spSign T.C_Reader) := by
  refine fun_ok T.Reader_sign.F sc_Reader_sign (fun vs H Q E h => ?_) (fun cdv A outer s H vs Q E hr h => ?_)
  · unfold spSign at h
    obtain ⟨_, _, _, rfl, _⟩ := h
    rfl
  · unfold spSign at h
    obtain ⟨r, z, p, rfl, ⟨dx, hr0⟩, hp, hz, q⟩ := h
    refine ⟨_, (pss_one (ps_ret (pe_slice sl_str (pe_fld (pv 0) rfl) (po_some (pe_fld (pv 0) rfl)) (po_some (pe_op op_add (pe_fld (pv 0) rfl) pe_int))))), ?_⟩
    refine ⟨_, rfl, r, _, dx, _, _, rfl, hr0, T.cl_Reader, T.no_Reader_text, rf_text z p, ?_⟩
    refine ⟨_, rfl, r, _, dx, _, _, rfl, hr0, T.cl_Reader, T.no_Reader_spot, rf_spot z p, _, rfl, ?_⟩
    refine ⟨_, rfl, r, _, dx, _, _, rfl, hr0, T.cl_Reader, T.no_Reader_spot, rf_spot z p, _, _, rfl, rfl, _, rfl, ?_⟩
    refine ⟨z, rfl, Nat.le_trans hz (by decide), ?_⟩
    rw [cut_one hp]
    exact q
@[irreducible] def spFactor (C : Addr) : Sp := fun vs H Q _ => ∃ (r : Addr) (z : Str) (p : Nat), vs = [.ref r] ∧ RdAt C z p r H ∧ p ≤ z.length ∧ z.length ≤ 200 ∧ Q (.bl (isF (z.cps.toList.drop p))) H
theorem factor_go {C r : Addr} {z : Str} {p : Nat} {H : Hp} {Q : VK} {E : XK} (h : RdAt C z p r H) (hp : p ≤ z.length) (hz : z.length ≤ 200) (q : Q (.bl (isF (z.cps.toList.drop p))) H) : spFactor C [.ref r] H Q E := by
  unfold spFactor
  exact ⟨r, z, p, rfl, h, hp, hz, q⟩
theorem ok_Reader_is_factor (T : Tx K mg) : FnR P w K mg base 2 T.Reader_is_factor.f T.Reader_is_factor.fd ["self"] (spFactor T.C_Reader) := by
  have G_Reader_sign : FnR P w K mg base 1 T.Reader_sign.f T.Reader_sign.fd ["self"] (spSign T.C_Reader) := ok_Reader_sign T
  refine fun_ok T.Reader_is_factor.F sc_Reader_is_factor (fun vs H Q E h => ?_) (fun cdv A outer s H vs Q E hr h => ?_)
  · unfold spFactor at h
    obtain ⟨_, _, _, rfl, _⟩ := h
    rfl
  · unfold spFactor at h
    obtain ⟨r, z, p, rfl, ⟨dx, hr0⟩, hp, hz, q⟩ := h
    refine ⟨_, (pss_one (ps_ret (pe_and (pe_cmpR op_ne (pe_me0 (pv 0) T.cl_Reader T.Reader_sign.m G_Reader_sign (hr.low (by decide)) T.Reader_sign.b takes0) pe_str (nomark _)) (pe_one (pe_cmpR op_in_sign (pe_me0 (pv 0) T.cl_Reader T.Reader_sign.m G_Reader_sign (hr.low (by decide)) T.Reader_sign.b takes0) (pe_op op_add_str (pe_glob (v := .str "wxyz") rfl T.m_NAMES ⟨_, rfl⟩) pe_str) (by rfl)))))), ?_⟩
    refine ⟨_, rfl, r, dx, _, rfl, hr0, rfl, sign_go ⟨dx, hr0⟩ hp hz ?_⟩
    generalize hu : z.cps.toList.drop p = u at q ⊢
    cases u with
    | nil =>
      refine ⟨rfl, _, rfl, iteF ?_⟩
      exact q
    | cons c u =>
      have e1 : (!decide (V.str (hdS (c :: u)) = V.str "")) = true := by
        rw [decide_eq_false (fun e => by
          have := congrArg (fun v => match v with | V.str z => z.cps.size | _ => 0) e
          cases this)]
        rfl
      refine ⟨rfl, _, rfl, ?_⟩
      show (if (!decide (V.str (hdS (c :: u)) = V.str "")) = true then _ else _)
      rw [e1]
      refine iteT ?_
      refine ⟨_, rfl, r, dx, _, rfl, hr0, rfl, sign_go ⟨dx, hr0⟩ hp hz ?_⟩
      refine ⟨_, _, rfl, rfl, (by show 5 ≤ sizeLine; decide), c, _, by rw [hu]; rfl, rfl, ?_⟩
      exact q
end
end Wf
namespace Wf
open PySem PySem.Spec PyProof.Rows L2
def XPl (X : Addr) (E : XK) (p : Nat) (H : Hp) : Prop := ∀ d, H d = none → E (.ref X) (some d) (upd H d (.xd [("place", .int (p : Nat))]))
theorem dec_hd {u : Wd} {c : Nat} {x : Str} (h : x = ⟨#[c]⟩) : (decide (V.str (hdS u) = V.str x) = true) ↔ ∃ t, u = c :: t := by
  subst h
  rw [decide_eq_true_iff, ← hd_eq]
  exact ⟨fun q => V.str.inj q, fun q => by rw [q]⟩
section
variable {P : Program} {w : World} {K : PySem.W.Frag} {mg : Str → Option Value} {base : Heap}
@[irreducible] def spDemand (C X : Addr) : Sp := fun vs H Q E => ∃ (r : Addr) (z : Str) (p c : Nat), vs = [.ref r, .str ⟨#[c]⟩] ∧ RdAt C z p r H ∧ p ≤ z.length ∧ z.length ≤ 200 ∧
  (∀ t H', z.cps.toList.drop p = c :: t → Kept r H H' → RdAt C z (p + 1) r H' → Q .non H') ∧ ((∀ t, z.cps.toList.drop p ≠ c :: t) → XPl X E p H)
theorem ok_Reader_demand (T : Tx K mg) : FnR P w K mg base 2 T.Reader_demand.f T.Reader_demand.fd ["self", "sign"] (spDemand T.C_Reader T.NoTerm.C) := by
  have G_Reader_sign : FnR P w K mg base 1 T.Reader_sign.f T.Reader_sign.fd ["self"] (spSign T.C_Reader) := ok_Reader_sign T
  have G_NoTerm_init : FnOk P w K mg base CX0 1 T.NoTerm.fI T.NoTerm.fd ["self", "place"] (spXI T.NoTerm.C "place") := ok_NoTerm_init T
  refine fun_okX T.Reader_demand.F sc_Reader_demand (fun vs H Q E h => ?_) (fun cdv A outer s H vs Q E hr h => ?_)
  · unfold spDemand at h
    obtain ⟨_, _, _, _, rfl, _⟩ := h
    rfl
  · unfold spDemand at h
    obtain ⟨r, z, p, c, rfl, ⟨dx, hr0⟩, hp, hz, q1, q2⟩ := h
    refine ⟨_, (pss_cons (ps_if (pt_cmpR op_ne (pe_me0 (pv 0) T.cl_Reader T.Reader_sign.m G_Reader_sign (hr.low (by decide)) T.Reader_sign.b (takes_of rfl rfl rfl rfl)) (pv 1) (nomark _)) (pss_one (ps_raise rfl (takes_of rfl rfl rfl rfl) (pmk_oex T.NoTerm.O T.NoTerm.iC T.NoTerm.tI G_NoTerm_init (hr.room.mono (by decide)) T.NoTerm.b .nil pass0 (by rfl) T.NoTerm.g (pa_cons (pe_fld (pv 0) rfl) pa_nil)))) pss_nil)
      (pss_one (ps_fld (pv 0) (pe_op op_add (pe_fld (pv 0) rfl) pe_int) rfl))), ?_⟩
    refine ⟨_, rfl, r, dx, _, rfl, hr0, rfl, sign_go ⟨dx, hr0⟩ hp hz ?_⟩
    refine ⟨_, rfl, rfl, _, rfl, ?_⟩
    have key := dec_hd (u := z.cps.toList.drop p) (c := c) rfl
    cases hb : decide (V.str (hdS (z.cps.toList.drop p)) = V.str (⟨#[c]⟩ : Str)) with
    | false =>
      refine iteT ?_
      refine ⟨_, rfl, r, _, dx, _, _, rfl, hr0, T.cl_Reader, T.no_Reader_spot, rf_spot z p, x_go fun d hd => q2 (fun t e => ?_) d hd⟩
      rw [key.mpr ⟨t, e⟩] at hb
      cases hb
    | true =>
      obtain ⟨t, e⟩ := key.mp hb
      refine iteF ?_
      refine ⟨_, rfl, r, _, dx, _, _, rfl, hr0, T.cl_Reader, T.no_Reader_spot, rf_spot z p, _, _, rfl, rfl, ?_⟩
      refine ⟨_, rfl, r, _, dx, _, rfl, hr0, T.cl_Reader, T.no_Reader_spot, (by show 2 < 1000; decide), ?_⟩
      exact q1 t _ e Kept.refl.here ⟨dx, upd_same⟩
end
end Wf
namespace Wf
open PySem PySem.Spec PyProof.Rows L2
def cnt (u : Wd) : Nat := List.count 40 u
theorem cnt_app (v r : Wd) : cnt (v ++ r) = cnt v + cnt r := List.count_append
theorem cnt_par (r : Wd) : cnt (40 :: r) = cnt r + 1 := by
  unfold cnt
  simp
theorem drop_app {w v r : Wd} {p : Nat} (h : w.drop p = v ++ r) : w.drop (p + v.length) = r := by
  rw [← List.drop_drop, h, List.drop_left]
theorem drop_le {w v r : Wd} {p : Nat} (h : w.drop p = v ++ r) (hp : p ≤ w.length) : p + v.length ≤ w.length := by
  have := congrArg List.length h
  rw [List.length_drop, List.length_append] at this
  omega
theorem isF_iff {u : Wd} : isF u = true ↔ ∃ c t, u = c :: t ∧ c ∈ [119, 120, 121, 122, 40] := by
  cases u with
  | nil => simp [isF]
  | cons c t =>
    show decide _ = true ↔ _
    rw [decide_eq_true_iff]
    constructor
    · exact fun h => ⟨c, t, rfl, h⟩
    · rintro ⟨c', t', e, h⟩
      cases e
      exact h
section
variable {P : Program} {w : World} {K : PySem.W.Frag} {mg : Str → Option Value} {base : Heap}
/-- what may come of a term, a power, at p of z -/
structure Outs (Fail : Wd → Nat → Prop) (Ok : Wd → Wd → List Str → Prop) (C X : Addr) (r : Addr) (z : Str) (p : Nat) (H : Hp) (Q : VK) (E : XK) : Prop where
  bad : ∀ k H', Fail (z.cps.toList.drop p) k → Kept r H H' → XPl X E (p + k) H'
  ok : ∀ v ts H' q, Ok (z.cps.toList.drop p) v ts → Kept r H H' → RdAt C z (p + v.length) r H' → H q = none → H' q = some (.lst (ts.map V.str)) → Q (.ref q) H'
@[irreducible] def spTerm (n : Nat) (C X : Addr) : Sp := fun vs H Q E => ∃ (r : Addr) (z : Str) (p : Nat), vs = [.ref r] ∧ RdAt C z p r H ∧ p ≤ z.length ∧ z.length ≤ 200 ∧ cnt (z.cps.toList.drop p) < n ∧ Outs TFail TOk C X r z p H Q E
@[irreducible] def spPower (n : Nat) (C X : Addr) : Sp := fun vs H Q E => ∃ (r : Addr) (z : Str) (p : Nat), vs = [.ref r] ∧ RdAt C z p r H ∧ p ≤ z.length ∧ z.length ≤ 200 ∧ cnt (z.cps.toList.drop p) ≤ n ∧ isF (z.cps.toList.drop p) = true ∧ Outs PFail POk C X r z p H Q E
theorem term_go {n : Nat} {C X r : Addr} {z : Str} {p : Nat} {H : Hp} {Q : VK} {E : XK} (h : RdAt C z p r H) (hp : p ≤ z.length) (hz : z.length ≤ 200) (hn : cnt (z.cps.toList.drop p) < n) (q : Outs TFail TOk C X r z p H Q E) : spTerm n C X [.ref r] H Q E := by
  unfold spTerm
  exact ⟨r, z, p, rfl, h, hp, hz, hn, q⟩
theorem power_go {n : Nat} {C X r : Addr} {z : Str} {p : Nat} {H : Hp} {Q : VK} {E : XK} (h : RdAt C z p r H) (hp : p ≤ z.length) (hz : z.length ≤ 200) (hn : cnt (z.cps.toList.drop p) ≤ n) (hf : isF (z.cps.toList.drop p) = true) (q : Outs PFail POk C X r z p H Q E) : spPower n C X [.ref r] H Q E := by
  unfold spPower
  exact ⟨r, z, p, rfl, h, hp, hz, hn, hf, q⟩
theorem demand_go {C X r : Addr} {z : Str} {p c : Nat} {x : Str} {H : Hp} {Q : VK} {E : XK} (hx : x = ⟨#[c]⟩) (h : RdAt C z p r H) (hp : p ≤ z.length) (hz : z.length ≤ 200) (q1 : ∀ t H', z.cps.toList.drop p = c :: t → Kept r H H' → RdAt C z (p + 1) r H' → Q .non H') (q2 : (∀ t, z.cps.toList.drop p ≠ c :: t) → XPl X E p H) : spDemand C X [.ref r, .str x] H Q E := by
  subst hx
  unfold spDemand
  exact ⟨r, z, p, c, rfl, h, hp, hz, q1, q2⟩
theorem ok_Reader_term (T : Tx K mg) (n : Nat) (G_Reader_power : FnR P w K mg base (2 * n + 4) T.Reader_power.f T.Reader_power.fd ["self"] (spPower n T.C_Reader T.NoTerm.C)) :
    FnR P w K mg base (2 * n + 5) T.Reader_term.f T.Reader_term.fd ["self"] (spTerm (n + 1) T.C_Reader T.NoTerm.C) := by
  have G_Reader_sign : FnR P w K mg base 1 T.Reader_sign.f T.Reader_sign.fd ["self"] (spSign T.C_Reader) := ok_Reader_sign T
  have G_Reader_is_factor : FnR P w K mg base 2 T.Reader_is_factor.f T.Reader_is_factor.fd ["self"] (spFactor T.C_Reader) := ok_Reader_is_factor T
  have G_NoTerm_init : FnOk P w K mg base CX0 1 T.NoTerm.fI T.NoTerm.fd ["self", "place"] (spXI T.NoTerm.C "place") := ok_NoTerm_init T
  refine fun_okX T.Reader_term.F sc_Reader_term (fun vs H Q E h => ?_) (fun cdv A outer s H vs Q E hr h => ?_)
  · unfold spTerm at h
    obtain ⟨_, _, _, rfl, _⟩ := h
    rfl
  · unfold spTerm at h
    obtain ⟨r, z, p, rfl, ⟨dx, hr0⟩, hp, hz, hn, q⟩ := h
    refine ⟨_, (pss_cons (ps_if (pt_cmpR op_eq (pe_me0 (pv 0) T.cl_Reader T.Reader_sign.m G_Reader_sign (hr.low (by omega)) T.Reader_sign.b (takes_of rfl rfl rfl rfl)) pe_str (nomark _)) (pss_cons (ps_fld (pv 0) (pe_op op_add (pe_fld (pv 0) rfl) pe_int) rfl)
      (pss_one (ps_ret (pe_lst (pa_cons pe_str pa_nil))))) pss_nil)
      (pss_cons (ps_if (pt_not (pt_val (pe_me0 (pv 0) T.cl_Reader T.Reader_is_factor.m G_Reader_is_factor (hr.low (by omega)) T.Reader_is_factor.b (takes_of rfl rfl rfl rfl)))) (pss_one (ps_raise rfl (takes_of rfl rfl rfl rfl) (pmk_oex T.NoTerm.O T.NoTerm.iC T.NoTerm.tI G_NoTerm_init (hr.room.mono (by decide)) T.NoTerm.b .nil pass0 (by rfl) T.NoTerm.g (pa_cons (pe_fld (pv 0) rfl) pa_nil)))) pss_nil)
      (pss_cons (ps_set (i := 1) sc_Reader_term.nd rfl (Or.inl rfl) (pe_me0 (pv 0) T.cl_Reader T.Reader_power.m G_Reader_power (hr.low (by omega)) T.Reader_power.b (takes_of rfl rfl rfl rfl)))
      (pss_cons (ps_while (passes_of rfl) (pt_val (pe_me0 (pv 0) T.cl_Reader T.Reader_is_factor.m G_Reader_is_factor (hr.low (by omega)) T.Reader_is_factor.b (takes_of rfl rfl rfl rfl))) (pss_one (ps_set (i := 1) sc_Reader_term.nd rfl (Or.inl rfl) (pe_op op_catS (pe_op op_catS (pv 1) (pe_me0 (pv 0) T.cl_Reader T.Reader_power.m G_Reader_power (hr.low (by omega)) T.Reader_power.b (takes_of rfl rfl rfl rfl))) (pe_lst (pa_cons pe_str pa_nil))))))
      (pss_one (ps_ret (pv 1))))))), ?_⟩
    have hzl : z.cps.toList.length = z.length := Array.length_toList
    refine ⟨_, rfl, r, dx, _, rfl, hr0, rfl, sign_go ⟨dx, hr0⟩ hp hz ?_⟩
    refine ⟨rfl, _, rfl, ?_⟩
    have key := dec_hd (u := z.cps.toList.drop p) (c := 49) (x := "1") (by decide)
    generalize hu : z.cps.toList.drop p = u at key hn
    cases hb : decide (V.str (hdS u) = V.str "1") with
    | true =>
      obtain ⟨t, e⟩ := key.mp hb
      refine iteT ?_
      refine ⟨_, rfl, r, _, dx, _, _, rfl, hr0, T.cl_Reader, T.no_Reader_spot, rf_spot z p, _, _, rfl, rfl, ?_⟩
      refine ⟨_, rfl, r, _, dx, _, rfl, hr0, T.cl_Reader, T.no_Reader_spot, (by show 2 < 1000; decide), ?_⟩
      refine ⟨(by show 1 ≤ sizeLine; decide), fun l hl => ?_⟩
      have R1 : RdAt T.C_Reader z (p + 1) r (upd H r (.ins T.C_Reader dx (putF "spot" (.int ((p : Int) + 1)) (rf z p)))) := ⟨dx, upd_same⟩
      have hlr := R1.ne hl
      refine q.ok [49] ["one"] _ l (by rw [hu, e]; exact t_one t) (Kept.refl.here.new hl) (R1.new hlr) ?_ upd_same
      exact Kept.refl.here.free hlr hl
    | false =>
      refine iteF ?_
      refine ⟨_, rfl, r, dx, _, rfl, hr0, rfl, factor_go ⟨dx, hr0⟩ hp hz ?_⟩
      rw [hu]
      refine ⟨_, rfl, ?_⟩
      cases hf : isF u with
      | false =>
        refine iteT ?_
        refine ⟨_, rfl, r, _, dx, _, _, rfl, hr0, T.cl_Reader, T.no_Reader_spot, rf_spot z p, x_go fun d hd => q.bad 0 H ?_ Kept.refl d hd⟩
        rw [hu]
        refine t_bad fun c t e hc => ?_
        rcases List.mem_cons.mp hc with rfl | hc
        · rw [key.mpr ⟨t, e⟩] at hb
          cases hb
        · rw [isF_iff.mpr ⟨c, t, e, hc⟩] at hf
          cases hf
      | true =>
        refine iteF ?_
        refine ⟨_, rfl, r, dx, _, rfl, hr0, rfl, power_go ⟨dx, hr0⟩ hp hz (by rw [hu]; omega) (by rw [hu]; exact hf) ⟨fun k H' hk kp => q.bad k H' (by rw [hu] at hk ⊢; exact t_first hk) kp, fun v ts H1 l hok kp rd hl0 hl => ?_⟩⟩
        rw [hu] at hok
        obtain ⟨r0, e0, hv0⟩ : ∃ r0, u = v ++ r0 ∧ POk u v ts := by
          obtain ⟨r0, e0, _⟩ := id hok
          exact ⟨r0, e0, hok⟩
        refine ⟨fun m σ H2 => ∃ v ts l r1, σ = [some (.ref r), some (.ref l)] ∧ u = v ++ r1 ∧ LInv u v ts ∧ Kept r H H2 ∧ RdAt T.C_Reader z (p + v.length) r H2 ∧ H l = none ∧ H2 l = some (.lst (ts.map V.str)) ∧ m = r1.length,
          ⟨_, v, ts, l, r0, rfl, e0, l_first hok, kp, rd, hl0, hl, rfl⟩, ?_⟩
        rintro m σ H2 ⟨v, ts, l, r1, rfl, e1, hinv, kp2, rd2, hl0, hl2, rfl⟩
        have hd : z.cps.toList.drop (p + v.length) = r1 := drop_app (hu.trans e1)
        have hle : p + v.length ≤ z.length := by
          have := drop_le (hu.trans e1) (by omega)
          omega
        have hcn : cnt r1 ≤ n := by
          have := cnt_app v r1
          rw [← e1] at this
          omega
        have hvl : v.length ≤ 200 := by omega
        have htl : ts.length ≤ 400 := by
          obtain ⟨_, _, _, ht, _⟩ := id hinv
          have := ht.1
          omega
        obtain ⟨dx2, hr2⟩ := id rd2
        have hlr : l ≠ r := ne_of hl2 hr2 (by intro q; cases q)
        refine ⟨_, rfl, r, dx2, _, rfl, hr2, rfl, factor_go rd2 hle hz ?_⟩
        rw [hd]
        refine ⟨_, rfl, ?_⟩
        cases hf : isF r1 with
        | false =>
          refine iteF ?_
          refine ⟨_, rfl, ?_⟩
          have hT : TOk u v ts := l_end hinv e1 fun c t e hc => by
            rw [isF_iff.mpr ⟨c, t, e, hc⟩] at hf
            cases hf
          exact q.ok v ts H2 l (by rw [hu]; exact hT) kp2 rd2 hl0 hl2
        | true =>
          refine iteT ⟨fun σ' H' => ∃ m', m' < r1.length ∧ ∃ v ts l r1, σ' = [some (.ref r), some (.ref l)] ∧ u = v ++ r1 ∧ LInv u v ts ∧ Kept r H H' ∧ RdAt T.C_Reader z (p + v.length) r H' ∧ H l = none ∧ H' l = some (.lst (ts.map V.str)) ∧ m' = r1.length, fun _ _ q => q, ?_⟩
          refine ⟨_, rfl, _, rfl, r, dx2, _, rfl, hr2, rfl, power_go rd2 hle hz (by rw [hd]; exact hcn) (by rw [hd]; exact hf) ⟨fun k H' hk kp => ?_, fun v2 ts2 H3 l2 hok2 kp3 rd3 hl20 hl23 => ?_⟩⟩
          · rw [hd] at hk
            have := q.bad (v.length + k) H' (by rw [hu]; exact l_fail hinv e1 hk) (kp2.trans kp)
            rw [← Nat.add_assoc] at this
            exact this
          · rw [hd] at hok2
            obtain ⟨r2, e2, hv2, hT2, _⟩ := id hok2
            have hl3 : H3 l = some (.lst (ts.map V.str)) := kp3 _ _ hlr hl2
            have hz2 : v2.length ≤ 200 := by
              have := congrArg List.length e2
              have := congrArg List.length e1
              have := congrArg List.length hu
              rw [List.length_drop] at this
              simp only [List.length_append] at *
              omega
            have ht2 : ts2.length ≤ 400 := by
              have := hT2.1
              omega
            refine ⟨l, l2, _, _, rfl, rfl, .inl (.inl hl3), .inl (.inl hl23), ?_, fun l3 hl3n => ⟨(by show 1 ≤ sizeLine; decide), fun l4 hl4n => ?_⟩⟩
            · rw [List.length_map, List.length_map]
              exact Nat.le_trans (show ts.length + ts2.length ≤ 800 by omega) (by decide)
            · have h34 : l3 ≠ l4 := ne_of_none upd_same hl4n
              refine ⟨l3, l4, _, _, rfl, rfl, .inl (.inl (by rw [upd_ne h34, upd_same])), .inl (.inl upd_same), ?_, fun l5 hl5n => ?_⟩
              · rw [List.length_append, List.length_map, List.length_map]
                exact Nat.le_trans (show ts.length + ts2.length + 1 ≤ 801 by omega) (by decide)
              · have l3r := rd3.ne hl3n
                have R4 := rd3.new (o := .lst (ts.map V.str ++ ts2.map V.str)) l3r
                have l4r := R4.ne hl4n
                have R5 := R4.new (o := .lst [.str "times"]) l4r
                have l5r := R5.ne hl5n
                have K3 := kp2.trans kp3
                have K5 := (K3.new (o := .lst (ts.map V.str ++ ts2.map V.str)) hl3n).new (o := .lst [.str "times"]) hl4n
                refine ⟨r2.length, ?_, v ++ v2, ts ++ ts2 ++ [("times" : Str)], l5, r2, rfl, by rw [e1, e2, List.append_assoc], l_more hinv e1 hok2, K5.new hl5n, ?_, K5.free l5r hl5n, ?_, rfl⟩
                · rw [e2, List.length_append]
                  have : 0 < v2.length := List.length_pos_iff.mpr hv2
                  omega
                · rw [List.length_append, ← Nat.add_assoc]
                  exact R5.new l5r
                · rw [upd_same, List.map_append, List.map_append]
                  rfl
end
end Wf
namespace Wf
open PySem PySem.Spec PyProof.Rows L2
section
variable {P : Program} {w : World} {K : PySem.W.Frag} {mg : Str → Option Value} {base : Heap}
/-- between the two halves of a power -/
def PMid (C r : Addr) (z : Str) (p : Nat) (u : Wd) (H : Hp) (σ : L2.St) (H1 : Hp) : Prop := ∃ v ts l r1, σ = [some (.ref r), some (.ref l)] ∧ u = v ++ r1 ∧ PInv u v ts ∧ Kept r H H1 ∧ RdAt C z (p + v.length) r H1 ∧ H l = none ∧ H1 l = some (.lst (ts.map V.str))
theorem iteS {c : Bool} {a b : Str} {σ : L2.St} {H : Hp} {Q : VK} (h : tC (.str (if c = true then a else b)) σ H Q) : if c = true then tC (.str a) σ H Q else tC (.str b) σ H Q := by
  cases c <;> exact h
theorem ok_Reader_power (T : Tx K mg) (n : Nat) (G_Reader_term : FnR P w K mg base (2 * n + 3) T.Reader_term.f T.Reader_term.fd ["self"] (spTerm n T.C_Reader T.NoTerm.C)) :
    FnR P w K mg base (2 * n + 4) T.Reader_power.f T.Reader_power.fd ["self"] (spPower n T.C_Reader T.NoTerm.C) := by
  have G_Reader_sign : FnR P w K mg base 1 T.Reader_sign.f T.Reader_sign.fd ["self"] (spSign T.C_Reader) := ok_Reader_sign T
  have G_Reader_demand : FnR P w K mg base 2 T.Reader_demand.f T.Reader_demand.fd ["self", "sign"] (spDemand T.C_Reader T.NoTerm.C) := ok_Reader_demand T
  refine fun_okX T.Reader_power.F sc_Reader_power (fun vs H Q E h => ?_) (fun cdv A outer s H vs Q E hr h => ?_)
  · unfold spPower at h
    obtain ⟨_, _, _, rfl, _⟩ := h
    rfl
  · unfold spPower at h
    obtain ⟨r, z, p, rfl, ⟨dx, hr0⟩, hp, hz, hn, hF, q⟩ := h
    refine ⟨_, (pss_cons (ps_if (pt_cmpR op_eq (pe_me0 (pv 0) T.cl_Reader T.Reader_sign.m G_Reader_sign (hr.low (by omega)) T.Reader_sign.b (takes_of rfl rfl rfl rfl)) pe_str (nomark _)) (pss_cons (ps_fld (pv 0) (pe_op op_add (pe_fld (pv 0) rfl) pe_int) rfl)
      (pss_cons (ps_set (i := 1) sc_Reader_power.nd rfl (Or.inl rfl) (pe_me0 (pv 0) T.cl_Reader T.Reader_term.m G_Reader_term (hr.low (by omega)) T.Reader_term.b (takes_of rfl rfl rfl rfl)))
      (pss_one (ps_expr (pe_me (pv 0) T.cl_Reader T.Reader_demand.m G_Reader_demand (hr.low (by omega)) T.Reader_demand.b (takes_of rfl rfl rfl rfl) (pa_cons pe_str pa_nil)))))) (pss_cons (ps_set (i := 1) sc_Reader_power.nd rfl (Or.inl rfl) (pe_lst (pa_cons (pe_me0 (pv 0) T.cl_Reader T.Reader_sign.m G_Reader_sign (hr.low (by omega)) T.Reader_sign.b (takes_of rfl rfl rfl rfl)) pa_nil)))
      (pss_one (ps_fld (pv 0) (pe_op op_add (pe_fld (pv 0) rfl) pe_int) rfl))))
      (pss_cons (ps_while (passes_of rfl) (PW.pt (pw_and (pt_cmpR op_ne (pe_me0 (pv 0) T.cl_Reader T.Reader_sign.m G_Reader_sign (hr.low (by omega)) T.Reader_sign.b (takes_of rfl rfl rfl rfl)) pe_str (nomark _)) (pw_and1 (pt_cmpR op_in_sign (pe_me0 (pv 0) T.cl_Reader T.Reader_sign.m G_Reader_sign (hr.low (by omega)) T.Reader_sign.b (takes_of rfl rfl rfl rfl)) pe_str (by rfl))))) (pss_cons (ps_expr (pe_bm PySem.F.plainAttrs_list PySem.F.slot_list_append PySem.F.type_list_append mt_append (pv 1) (pa_cons (pe_ifExp (pt_cmpR op_eq (pe_me0 (pv 0) T.cl_Reader T.Reader_sign.m G_Reader_sign (hr.low (by omega)) T.Reader_sign.b (takes_of rfl rfl rfl rfl)) pe_str (nomark _)) pe_str pe_str) pa_nil)))
      (pss_one (ps_fld (pv 0) (pe_op op_add (pe_fld (pv 0) rfl) pe_int) rfl))))
      (pss_one (ps_ret (pv 1))))), ?_⟩
    have hzl : z.cps.toList.length = z.length := Array.length_toList
    have key := dec_hd (u := z.cps.toList.drop p) (c := 40) (x := "(") (by decide)
    generalize hu : z.cps.toList.drop p = u at key hn hF
    refine' (fun (loop : ∀ (σ1 : L2.St) (H1 : Hp), PMid T.C_Reader r z p u H σ1 H1 → tSeq (tWhile _ _) (tRet _) _ σ1 H1) => ?first) ?second
    case first =>
      refine ⟨_, rfl, r, dx, _, rfl, hr0, rfl, sign_go ⟨dx, hr0⟩ hp hz ?_⟩
      rw [hu]
      refine ⟨rfl, _, rfl, ?_⟩
      cases hb : decide (V.str (hdS u) = V.str "(") with
      | true =>
        obtain ⟨u1, e⟩ := key.mp hb
        refine iteT ?_
        refine ⟨_, rfl, r, _, dx, _, _, rfl, hr0, T.cl_Reader, T.no_Reader_spot, rf_spot z p, _, _, rfl, rfl, ?_⟩
        refine ⟨_, rfl, r, _, dx, _, rfl, hr0, T.cl_Reader, T.no_Reader_spot, (by show 2 < 1000; decide), ?_⟩
        have R1 : RdAt T.C_Reader z (p + 1) r (upd H r (.ins T.C_Reader dx (putF "spot" (.int ((p : Int) + 1)) (rf z p)))) := ⟨dx, upd_same⟩
        have d1 : z.cps.toList.drop (p + 1) = u1 := drop_app (v := [40]) (hu.trans e)
        have l1 : p + 1 ≤ z.length := by
          have := drop_le (v := [40]) (hu.trans e) (by omega)
          simp only [List.length_singleton] at this
          omega
        have c1 : cnt u1 < n := by
          rw [e, cnt_par] at hn
          omega
        obtain ⟨dx1, hr1⟩ := id R1
        refine ⟨_, rfl, r, dx1, _, rfl, hr1, rfl, term_go R1 l1 hz (by rw [d1]; exact c1) ⟨fun k H' hk kp => ?_, fun v ts H1 l hok kp rd hl0 hl => ?_⟩⟩
        · rw [d1] at hk
          have := q.bad (k + 1) H' (by rw [hu, e]; exact p_par hk) (Kept.trans Kept.refl.here kp)
          rw [show p + (k + 1) = p + 1 + k by omega] at this
          exact this
        · rw [d1] at hok
          have hl0' : H l = none := Kept.refl.here.free (R1.ne hl0) hl0
          obtain ⟨r1, e1, _⟩ := id hok
          have l2 : p + 1 + v.length ≤ z.length := by
            have := drop_le (d1.trans e1) (by omega)
            omega
          have d2 : z.cps.toList.drop (p + 1 + v.length) = r1 := drop_app (d1.trans e1)
          obtain ⟨dx2, hr2⟩ := id rd
          have kp1 : Kept r H H1 := Kept.trans Kept.refl.here kp
          refine ⟨_, rfl, r, dx2, _, rfl, hr2, rfl, demand_go (c := 41) (by decide) rd l2 hz (fun t H2 ht kp2 rd2 => ?_) (fun hno => ?_)⟩
          · rw [d2] at ht
            have hlr : l ≠ r := ne_of hl hr2 (by intro q; cases q)
            refine loop _ _ ⟨40 :: v ++ [41], ts, l, t, rfl, by rw [e, e1, ht]; simp, by rw [e]; exact p_shut hok (by rw [e1, ht]), kp1.trans kp2, ?_, hl0', kp2 _ _ hlr hl⟩
            have el : p + (40 :: v ++ [41] : Wd).length = p + 1 + v.length + 1 := by
              simp
              omega
            rw [el]
            exact rd2
          · rw [d2] at hno
            have := q.bad (v.length + 1) H1 (by rw [hu, e]; exact p_open hok e1 hno) kp1
            rw [show p + (v.length + 1) = p + 1 + v.length by omega] at this
            exact this
      | false =>
        refine iteF ?_
        obtain ⟨c, t, e, hc⟩ := isF_iff.mp hF
        have hc2 : c ∈ [119, 120, 121, 122] := by
          simp only [List.mem_cons, List.not_mem_nil, or_false] at hc ⊢
          rcases hc with h | h | h | h | h
          · exact .inl h
          · exact .inr (.inl h)
          · exact .inr (.inr (.inl h))
          · exact .inr (.inr (.inr h))
          · rw [key.mpr ⟨t, by rw [e, h]⟩] at hb
            cases hb
        refine ⟨_, rfl, r, dx, _, rfl, hr0, rfl, sign_go ⟨dx, hr0⟩ hp hz ?_⟩
        rw [hu, e]
        refine ⟨(by show 1 ≤ sizeLine; decide), fun l hl => ?_⟩
        have hlr : l ≠ r := (show RdAt T.C_Reader z p r H from ⟨dx, hr0⟩).ne hl
        refine ⟨_, rfl, r, _, dx, _, _, rfl, (by rw [upd_ne hlr.symm]; exact hr0), T.cl_Reader, T.no_Reader_spot, rf_spot z p, _, _, rfl, rfl, ?_⟩
        refine ⟨_, rfl, r, _, dx, _, rfl, (by rw [upd_ne hlr.symm]; exact hr0), T.cl_Reader, T.no_Reader_spot, (by show 2 < 1000; decide), ?_⟩
        refine loop _ _ ⟨[c], [⟨#[c]⟩], l, t, rfl, e, by rw [e]; exact p_name hc2, (Kept.refl.new hl).here, ⟨dx, upd_same⟩, hl, ?_⟩
        rw [upd_ne hlr, upd_same]
        rfl
    case second =>
      rintro σ1 H1 ⟨v, ts, l, r0, rfl, e0, hinv, kp, rd, hl0, hl⟩
      refine ⟨fun m σ H2 => (∃ v ts l r1, σ = [some (.ref r), some (.ref l)] ∧ u = v ++ r1 ∧ PInv u v ts ∧ Kept r H H2 ∧ RdAt T.C_Reader z (p + v.length) r H2 ∧ H l = none ∧ H2 l = some (.lst (ts.map V.str)) ∧ m = r1.length),
        ⟨_, v, ts, l, r0, rfl, e0, hinv, kp, rd, hl0, hl, rfl⟩, ?_⟩
      rintro m σ H2 ⟨v, ts, l, r1, rfl, e1, hinv, kp2, rd2, hl0, hl2, rfl⟩
      have hd : z.cps.toList.drop (p + v.length) = r1 := drop_app (hu.trans e1)
      have hle : p + v.length ≤ z.length := by
        have := drop_le (hu.trans e1) (by omega)
        omega
      have htl : ts.length ≤ 400 := by
        obtain ⟨_, _, _, ht, _⟩ := id hinv
        have := ht.1
        omega
      obtain ⟨dx2, hr2⟩ := id rd2
      have hlr : l ≠ r := ne_of hl2 hr2 (by intro q; cases q)
      refine ⟨_, rfl, r, dx2, _, rfl, hr2, rfl, sign_go rd2 hle hz ?_⟩
      rw [hd]
      have done : NoOp r1 → Q (.ref l) H2 := fun hno => q.ok v ts H2 l (by rw [hu]; exact p_end hinv e1 hno) kp2 rd2 hl0 hl2
      cases r1 with
      | nil =>
        refine ⟨rfl, _, rfl, iteF (iteF ?_)⟩
        exact ⟨_, rfl, done fun c t e => nomatch e⟩
      | cons c r1 =>
        have e3 : (!decide (V.str (hdS (c :: r1)) = V.str "")) = true := by
          rw [decide_eq_false (fun e => by
            have := congrArg (fun v => match v with | V.str z => z.cps.size | _ => 0) e
            cases this)]
          rfl
        refine ⟨rfl, _, rfl, ?_⟩
        show (if (!decide (V.str (hdS (c :: r1)) = V.str "")) = true then _ else _)
        rw [e3]
        refine iteT ?_
        refine ⟨_, rfl, r, dx2, _, rfl, hr2, rfl, sign_go rd2 hle hz ?_⟩
        rw [hd]
        refine ⟨c, _, rfl, rfl, _, rfl, ?_⟩
        have ein : (("^~" : Str)).cps.toList = [94, 126] := by decide
        rw [ein]
        cases hc : decide (c ∈ [94, 126]) with
        | false =>
          refine iteF ?_
          have hc' := of_decide_eq_false hc
          refine ⟨_, rfl, done fun c' t e => ?_⟩
          cases e
          simp only [List.mem_cons, List.not_mem_nil, or_false, not_or] at hc'
          exact hc'
        | true =>
          have hc' : c = 94 ∨ c = 126 := by simpa using of_decide_eq_true hc
          refine iteT ⟨fun σ' H' => ∃ m', m' < (c :: r1).length ∧ ∃ v ts l r1, σ' = [some (.ref r), some (.ref l)] ∧ u = v ++ r1 ∧ PInv u v ts ∧ Kept r H H' ∧ RdAt T.C_Reader z (p + v.length) r H' ∧ H l = none ∧ H' l = some (.lst (ts.map V.str)) ∧ m' = r1.length, fun _ _ q => q, ?_⟩
          have more : ∀ t : Str, (t = "omega" ∨ t = "less") → ∀ H3 : Hp, Kept r H H3 → RdAt T.C_Reader z (p + v.length + 1) r H3 → H3 l = some (.lst (ts.map V.str ++ [.str t])) → ∃ m', m' < (c :: r1).length ∧ ∃ v ts l' r1', [some (V.ref r), some (V.ref l)] = [some (V.ref r), some (V.ref l')] ∧ u = v ++ r1' ∧ PInv u v ts ∧ Kept r H H3 ∧ RdAt T.C_Reader z (p + v.length) r H3 ∧ H l' = none ∧ H3 l' = some (.lst (ts.map V.str)) ∧ m' = r1'.length := by
            intro t ht H3 k3 r3 hl3
            refine ⟨r1.length, by rw [List.length_cons]; omega, v ++ [c], ts ++ [t], l, r1, rfl, by rw [e1]; simp, p_op hinv e1 hc' ht, k3, ?_, hl0, ?_, rfl⟩
            · rw [List.length_append, List.length_singleton, ← Nat.add_assoc]
              exact r3
            · rw [hl3, List.map_append]
              rfl
          refine ⟨_, rfl, .inl ⟨rfl, _, SqL.of hl2⟩, ?_⟩
          refine ⟨_, rfl, r, dx2, _, rfl, hr2, rfl, sign_go rd2 hle hz ?_⟩
          refine ⟨rfl, _, rfl, iteS ?_⟩
          have ht : (if decide (V.str (hdS (z.cps.toList.drop (p + v.length))) = V.str "^") = true then ("omega" : Str) else "less") = "omega" ∨ (if decide (V.str (hdS (z.cps.toList.drop (p + v.length))) = V.str "^") = true then ("omega" : Str) else "less") = "less" := by
            cases decide (V.str (hdS (z.cps.toList.drop (p + v.length))) = V.str "^") with
            | true => exact .inl rfl
            | false => exact .inr rfl
          generalize (if decide (V.str (hdS (z.cps.toList.drop (p + v.length))) = V.str "^") = true then ("omega" : Str) else "less") = t at ht ⊢
          refine ⟨l, _, .str t, rfl, rfl, hl2, by rw [List.length_map]; exact Nat.lt_of_le_of_lt htl (by decide), ?_⟩
          have hr4 : upd H2 l (.lst (ts.map V.str ++ [.str t])) r = some (.ins T.C_Reader dx2 (rf z (p + v.length))) := by rw [upd_ne hlr.symm]; exact hr2
          refine ⟨_, rfl, r, _, dx2, _, _, rfl, hr4, T.cl_Reader, T.no_Reader_spot, rf_spot z _, _, _, rfl, rfl, ?_⟩
          refine ⟨_, rfl, r, _, dx2, _, rfl, hr4, T.cl_Reader, T.no_Reader_spot, (by show 2 < 1000; decide), ?_⟩
          exact more t ht _ (kp2.own hl0).here ⟨dx2, upd_same⟩ (by rw [upd_ne hlr, upd_same])
theorem ok_terms (T : Tx K mg) : ∀ n : Nat, FnR P w K mg base (2 * n + 3) T.Reader_term.f T.Reader_term.fd ["self"] (spTerm n T.C_Reader T.NoTerm.C)
  | 0 => by
    have no : ∀ vs H Q E, spTerm 0 T.C_Reader T.NoTerm.C vs H Q E → False := fun vs H Q E h => by
      unfold spTerm at h
      obtain ⟨_, _, _, _, _, _, _, h, _⟩ := h
      exact absurd h (Nat.not_lt_zero _)
    exact ⟨fun vs H Q E h => (no _ _ _ _ h).elim, fun A outer s H args us vs Q E _ _ _ _ h => (no _ _ _ _ h).elim⟩
  | n + 1 => ok_Reader_term T n (ok_Reader_power T n (ok_terms T n))
end
end Wf
namespace Wf
open PySem PySem.Spec PyProof.Rows L2
def nms : Wd := [119, 120, 121, 122]
def namesIn (u : Wd) : List Str := (nms.filter fun c => decide (c ∈ u)).map fun c => ⟨#[c]⟩
def isT : V → Bool
  | .str z => decide (z.length ≤ 200)
  | _ => false
def AsText (K : PySem.W.Frag) (H : Hp) (x : V) : Prop := ∃ (t : Value) (b : Bool), TyX K H x t ∧ PySem.W.kitOne K t (.type "str") = some b ∧ (b = true → ∃ z : Str, x = .str z ∧ z.length ≤ sizeLine) ∧ (b = false → isT x = false)
/-- the error X, that tells i -/
def XI (X : Addr) (E : XK) (i : Int) (H : Hp) : Prop := ∀ d, H d = none → E (.ref X) (some d) (upd H d (.xd [("place", .int i)]))
def Good (u : Wd) (as bs : List Str) : Prop := fault u = none ∧ as.length ≤ 400 ∧ bs.length ≤ 400 ∧ ∀ c ∈ nms, ((⟨#[c]⟩ : Str) ∈ as ∨ (⟨#[c]⟩ : Str) ∈ bs) ↔ c ∈ u
theorem good_of {u v r : Wd} {as bs : List Str} (h : TOk u v as) (e : u = v ++ 61 :: r) (g : TOk r r bs) (hl : u.length ≤ 200) : Good u as bs := by
  refine ⟨f_none h e g, ?_, ?_, fun c hc => ?_⟩
  · obtain ⟨r1, e1, _, ht, _⟩ := id h
    have := congrArg List.length e1
    rw [List.length_append] at this
    have := ht.1
    omega
  · obtain ⟨_, _, _, ht, _⟩ := id g
    have := congrArg List.length e
    rw [List.length_append, List.length_cons] at this
    have := ht.1
    omega
  · obtain ⟨_, _, _, ht, _⟩ := id h
    obtain ⟨_, _, _, gt, _⟩ := id g
    rw [ht.2 c hc, gt.2 c hc, e, List.mem_append, List.mem_cons]
    have : c ≠ 61 := by
      intro q
      rw [q] at hc
      revert hc
      decide
    constructor
    · rintro (q | q)
      · exact .inl q
      · exact .inr (.inr q)
    · rintro (q | q | q)
      · exact .inl q
      · exact absurd q this
      · exact .inr q
section
variable {P : Program} {w : World} {K : PySem.W.Frag} {mg : Str → Option Value} {base : Heap}
theorem init_go {C r dx : Addr} {z : Str} {H : Hp} {Q : VK} {E : XK} (h : H r = some (.ins C dx [])) (q : ∀ H', Kept r H H' → RdAt C z 0 r H' → Q .non H') : spInit C [.ref r, .str z] H Q E := by
  unfold spInit
  exact ⟨r, dx, z, rfl, h, q⟩
@[irreducible] def spTwo (K : PySem.W.Frag) (X : Addr) : Sp := fun vs H Q E => ∃ x, vs = [x] ∧ AsText K H x ∧ (isT x = false → XI X E (-1) H) ∧
  (∀ z : Str, x = .str z → z.length ≤ 200 → (∀ k H', fault z.cps.toList = some k → Same H H' → XI X E (k : Nat) H') ∧
    ∀ as bs p q t H', Good z.cps.toList as bs → Same H H' → H' p = some (.lst (as.map V.str)) → H' q = some (.lst (bs.map V.str)) → H' t = some (.tup [.ref p, .ref q]) → Q (.ref t) H')
theorem ok_two_terms (T : Tx K mg) : FnR P w K mg base 406 T.two_terms.f T.two_terms.fd ["text"] (spTwo K T.NoTerm.C) := by
  have G_Reader_init : FnR P w K mg base 1 T.Reader_init.f T.Reader_init.fd ["self", "text"] (spInit T.C_Reader) := ok_Reader_init T
  have G_Reader_term : FnR P w K mg base 405 T.Reader_term.f T.Reader_term.fd ["self"] (spTerm 201 T.C_Reader T.NoTerm.C) := ok_terms T 201
  have G_Reader_demand : FnR P w K mg base 2 T.Reader_demand.f T.Reader_demand.fd ["self", "sign"] (spDemand T.C_Reader T.NoTerm.C) := ok_Reader_demand T
  have G_NoTerm_init : FnOk P w K mg base CX0 1 T.NoTerm.fI T.NoTerm.fd ["self", "place"] (spXI T.NoTerm.C "place") := ok_NoTerm_init T
  refine fun_okX T.two_terms.F sc_two_terms (fun vs H Q E h => ?_) (fun cdv A outer s H vs Q E hr h => ?_)
  · unfold spTwo at h
    obtain ⟨_, rfl, _⟩ := h
    rfl
  · unfold spTwo at h
    obtain ⟨x, rfl, ⟨t, b, ty, k, hb, hb0⟩, q1, q2⟩ := h
    refine ⟨_, (pss_cons (ps_if (PW.pt (pw_or (pt_not (pt_val (pe_callB call_isi (by rfl) T.n_isinstance (by decide +kernel) (pa_cons (pv 0) (pa_cons (pe_bltn (v := .ty "str") (u := .type "str") (by rfl) T.n_str (by decide +kernel) rfl) pa_nil))))) (pw_or1 (pt_cmpR op_gt (pe_callB call_len_str (by rfl) T.n_len PySem.boot_len (pa_cons (pv 0) pa_nil)) (pe_glob (v := .int 200) rfl T.m_MOST_TEXT ⟨_, rfl⟩) (nomark _))))) (pss_one (ps_raise rfl (takes_of rfl rfl rfl rfl) (pmk_oex T.NoTerm.O T.NoTerm.iC T.NoTerm.tI G_NoTerm_init (hr.room.mono (by decide)) T.NoTerm.b .nil pass0 (by rfl) T.NoTerm.g (pa_cons (pe_un un_neg pe_int) pa_nil)))) pss_nil)
      (pss_cons (ps_set (i := 1) sc_two_terms.nd rfl (Or.inl rfl) (pe_mk T.mk_Reader G_Reader_init (hr.low (by decide)) (by rfl) T.g_Reader T.Reader_init.b (takes_of rfl rfl rfl rfl) (pa_cons (pv 0) pa_nil)))
      (pss_cons (ps_set (i := 2) sc_two_terms.nd rfl (Or.inl rfl) (pe_me0 (pv 1) T.cl_Reader T.Reader_term.m G_Reader_term (hr.low (by decide)) T.Reader_term.b (takes_of rfl rfl rfl rfl)))
      (pss_cons (ps_expr (pe_me (pv 1) T.cl_Reader T.Reader_demand.m G_Reader_demand (hr.low (by decide)) T.Reader_demand.b (takes_of rfl rfl rfl rfl) (pa_cons pe_str pa_nil)))
      (pss_cons (ps_set (i := 3) sc_two_terms.nd rfl (Or.inl rfl) (pe_me0 (pv 1) T.cl_Reader T.Reader_term.m G_Reader_term (hr.low (by decide)) T.Reader_term.b (takes_of rfl rfl rfl rfl)))
      (pss_cons (ps_if (pt_cmpR op_lt (pe_fld (pv 1) rfl) (pe_callB call_len_str (by rfl) T.n_len PySem.boot_len (pa_cons (pv 0) pa_nil)) (nomark _)) (pss_one (ps_raise rfl (takes_of rfl rfl rfl rfl) (pmk_oex T.NoTerm.O T.NoTerm.iC T.NoTerm.tI G_NoTerm_init (hr.room.mono (by decide)) T.NoTerm.b .nil pass0 (by rfl) T.NoTerm.g (pa_cons (pe_fld (pv 1) rfl) pa_nil)))) pss_nil)
      (pss_one (ps_ret (pe_tup (pa_cons (pv 2) (pa_cons (pv 3) pa_nil))))))))))), ?_⟩
    refine ⟨_, rfl, x, _, t, _, b, rfl, .ty "str", ty, k, b, rfl, ?_⟩
    cases b with
    | false =>
      refine iteT ?_
      exact ⟨_, rfl, x_go fun d hd => q1 (hb0 rfl) d hd⟩
    | true =>
      obtain ⟨z, rfl, hz0⟩ := hb rfl
      refine iteF ?_
      refine ⟨_, rfl, z, rfl, hz0, _, _, rfl, rfl, _, rfl, ?_⟩
      refine ite2 (fun e => ?_) (fun e => ?_)
      · refine ⟨_, rfl, x_go fun d hd => q1 ?_ d hd⟩
        have := of_decide_eq_true e
        exact decide_eq_false (show ¬ z.length ≤ 200 by omega)
      · have hz : z.length ≤ 200 := Nat.not_lt.mp fun q => e (decide_eq_true (by omega))
        obtain ⟨q2, q3⟩ := q2 z rfl hz
        have hzl : z.cps.toList.length = z.length := Array.length_toList
        generalize hu : z.cps.toList = u at q2 q3 hzl
        have hun : u.length ≤ 200 := by omega
        have hcu : ∀ r : Wd, r.length ≤ 200 → cnt r < 201 := fun r hr => Nat.lt_succ_of_le (Nat.le_trans List.count_le_length hr)
        -- the reader
        refine ⟨_, rfl, fun r dx hr0 hdx hne => init_go upd_same fun H1 kp1 rd1 => ⟨rfl, ?_⟩⟩
        have same_of : ∀ {H' : Hp}, Kept r (upd (upd H dx (.own r)) r (.ins T.C_Reader dx [])) H' → Same H H' := fun kp b o z => kp b o (ne_of_none z hr0) (by rw [upd_ne (ne_of_none z hr0), upd_ne (ne_of_none z hdx)]; exact z)
        have d0 : z.cps.toList.drop 0 = u := by rw [hu]; rfl
        obtain ⟨dx1, hr1⟩ := id rd1
        refine ⟨_, rfl, r, dx1, _, rfl, hr1, rfl, term_go rd1 (Nat.zero_le _) hz (by rw [d0]; exact hcu u hun) ⟨fun k H' hk kp => ?_, fun v as H2 p hok kp2 rd2 hp0 hp2 => ?_⟩⟩
        · rw [d0] at hk
          rw [Nat.zero_add]
          exact q2 k H' (f_first hk) (same_of (kp1.trans kp))
        · rw [d0] at hok
          obtain ⟨r1, e1, _⟩ := id hok
          have hd1 : z.cps.toList.drop (0 + v.length) = r1 := drop_app (d0.trans e1)
          have hle1 : 0 + v.length ≤ z.length := by
            have := congrArg List.length e1
            rw [List.length_append] at this
            omega
          have K2 := kp1.trans kp2
          obtain ⟨dx2, hr2⟩ := id rd2
          refine ⟨_, rfl, r, dx2, _, rfl, hr2, rfl, demand_go (c := 61) (by decide) rd2 hle1 hz (fun r2 H3 ht kp3 rd3 => ?_) (fun hno => ?_)⟩
          · rw [hd1] at ht
            subst ht
            have K3 := K2.trans kp3
            have hd2 : z.cps.toList.drop (0 + v.length + 1) = r2 := drop_app (v := [61]) (hd1.trans rfl)
            have hl2 : r2.length + v.length + 1 = u.length := by
              have := congrArg List.length e1
              rw [List.length_append, List.length_cons] at this
              omega
            have hle2 : 0 + v.length + 1 ≤ z.length := by omega
            obtain ⟨dx3, hr3⟩ := id rd3
            have hpr : p ≠ r := ne_of hp2 hr2 (by intro q; cases q)
            have hp3 := kp3 _ _ hpr hp2
            refine ⟨_, rfl, r, dx3, _, rfl, hr3, rfl, term_go rd3 hle2 hz (by rw [hd2]; exact hcu r2 (by omega)) ⟨fun k H' hk kp => ?_, fun v2 bs H4 p2 hok2 kp4 rd4 hp20 hp24 => ?_⟩⟩
            · rw [hd2] at hk
              have := q2 _ H' (f_second hok e1 hk) (same_of (K3.trans kp))
              rw [show v.length + 1 + k = 0 + v.length + 1 + k by omega] at this
              exact this
            · rw [hd2] at hok2
              obtain ⟨r3, e3, _⟩ := id hok2
              have K4 := K3.trans kp4
              obtain ⟨dx4, hr4⟩ := id rd4
              have hp4 := kp4 _ _ hpr hp3
              have hl3 : v2.length + r3.length = r2.length := by
                have := congrArg List.length e3
                rw [List.length_append] at this
                omega
              refine ⟨_, rfl, r, _, dx4, _, _, rfl, hr4, T.cl_Reader, T.no_Reader_spot, rf_spot z _, ?_⟩
              refine ⟨_, rfl, z, rfl, hz0, _, _, rfl, rfl, _, rfl, ?_⟩
              refine ite2 (fun e4 => ?_) (fun e4 => ?_)
              · have := of_decide_eq_true e4
                refine ⟨_, rfl, r, _, dx4, _, _, rfl, hr4, T.cl_Reader, T.no_Reader_spot, rf_spot z _, x_go ?_⟩
                cases r3 with
                | nil =>
                  exfalso
                  rw [List.length_nil] at hl3
                  omega
                | cons c t =>
                  have := q2 _ H4 (f_more hok e1 hok2 e3) (same_of K4)
                  rw [show v.length + 1 + v2.length = 0 + v.length + 1 + v2.length by omega] at this
                  exact this
              · have hr30 : r3 = [] := by
                  have : ¬ ((0 + v.length + 1 + v2.length : Nat) : Int) < (z.length : Nat) := fun q => e4 (decide_eq_true q)
                  exact List.eq_nil_of_length_eq_zero (by omega)
                subst hr30
                rw [List.append_nil] at e3
                subst e3
                refine ⟨_, rfl, _, rfl, (by show 2 ≤ sizeLine; decide), fun t ht => ?_⟩
                exact q3 as bs p p2 t _ (good_of hok e1 hok2 hun) (same_of (K4.new ht)) (by rw [upd_ne (ne_of_none hp4 ht)]; exact hp4) (by rw [upd_ne (ne_of_none hp24 ht)]; exact hp24) upd_same
          · rw [hd1] at hno
            have := q2 _ H2 (f_noeq hok e1 hno) (same_of K2)
            rw [show v.length = 0 + v.length by omega] at this
            exact this
end
end Wf
namespace Wf
open PySem PySem.Spec PyProof.Rows L2
section
variable {P : Program} {w : World} {K : PySem.W.Frag} {mg : Str → Option Value} {base : Heap}
@[irreducible] def spNames (K : PySem.W.Frag) : Sp := fun vs H Q _ => ∃ (p q : Addr) (as bs : List Str) (u : Wd), vs = [.ref p, .ref q] ∧ H p = some (.lst (as.map V.str)) ∧ H q = some (.lst (bs.map V.str)) ∧ (∀ c ∈ nms, ((⟨#[c]⟩ : Str) ∈ as ∨ (⟨#[c]⟩ : Str) ∈ bs) ↔ c ∈ u) ∧
  ∀ t H', Same H H' → H t = none → H' t = some (.tup ((namesIn u).map V.str)) → Q (.ref t) H'
theorem nm_snoc {u : Wd} {j c : Nat} (h : nms[j]? = some c) : ((nms.take (j + 1)).filter fun c => decide (c ∈ u)).map (fun c => V.str (⟨#[c]⟩ : Str)) = ((nms.take j).filter fun c => decide (c ∈ u)).map (fun c => V.str (⟨#[c]⟩ : Str)) ++ (if decide (c ∈ u) = true then [.str ⟨#[c]⟩] else []) := by
  rw [List.take_add_one, h, List.filter_append, List.map_append, show (some c).toList = [c] from rfl, List.filter_cons, List.filter_nil]
  cases decide (c ∈ u) <;> rfl
theorem nm_len (u : Wd) (j : Nat) : (((nms.take j).filter fun c => decide (c ∈ u)).map (fun c => V.str (⟨#[c]⟩ : Str))).length < sizeLine := by
  rw [List.length_map]
  refine Nat.lt_of_le_of_lt (List.length_filter_le _ _) ?_
  rw [List.length_take]
  exact Nat.lt_of_le_of_lt (Nat.min_le_right _ _) (by decide)
theorem nm_all (u : Wd) {n : Nat} (hn : 4 ≤ n) : ((nms.take n).filter fun c => decide (c ∈ u)).map (fun c => V.str (⟨#[c]⟩ : Str)) = (namesIn u).map V.str := by
  rw [List.take_of_length_le (show nms.length ≤ n from hn)]
  unfold namesIn
  rw [List.map_map]
  rfl
theorem ok_names_in (T : Tx K mg) : FnR P w K mg base 1 T.names_in.f T.names_in.fd ["first", "second"] (spNames K) := by
  refine fun_ok T.names_in.F sc_names_in (fun vs H Q E h => ?_) (fun cdv A outer s H vs Q E hr h => ?_)
  · unfold spNames at h
    obtain ⟨_, _, _, _, _, rfl, _⟩ := h
    rfl
  · unfold spNames at h
    obtain ⟨p, q, as, bs, u, rfl, hp, hq, hc, go⟩ := h
    refine ⟨_, (pss_one (ps_ret (pe_callTy call_tuple_of (by rfl) T.n_tuple (by decide +kernel) (pa_cons (pe_lc (own := [("name", 2)]) (g := gName 2) rfl sc_names_in.nd (pi_str (pe_glob (v := .str "wxyz") rfl T.m_NAMES ⟨_, rfl⟩)) (blkOk_by (own := [("name", 2)]) (N := N_names_in) (sc := defScope s_names_in) (by decide +kernel)) (fun _ _ _ _ _ => (pg_name (i := 2) sc_names_in.nd rfl (.inl rfl))) (fun _ _ _ _ _ => pts_one (PW.pt (pw_or (pt_cmpR (op_inK (K := K) rfl) (pv 2) (pv 0) (by rfl)) (pw_or1 (pt_cmpR (op_inK (K := K) rfl) (pv 2) (pv 1) (by rfl)))))) (fun _ _ _ _ _ => (pv 2))) pa_nil)))), ?_⟩
    refine ⟨"wxyz", rfl, fun D hD => ?_⟩
    refine lc_it (walk_str (z := "wxyz")) (fun j H1 => Same H H1 ∧ H1 D = some (.lst (((nms.take j).filter fun c => decide (c ∈ u)).map fun c => V.str ⟨#[c]⟩))) ⟨same_new hD, upd_same⟩ (fun _ _ _ _ => True.intro) ?_ ?_
    · rintro j x H1 H2 hj ⟨sm, hl⟩ ⟨rfl, c, hcz, rfl⟩
      have hcj : nms[j]? = some c := by
        rw [← Array.getElem?_toList] at hcz
        exact hcz
      have hcn : c ∈ nms := List.mem_of_getElem? hcj
      refine ⟨rfl, ?_⟩
      refine ⟨_, rfl, _, rfl, p, _, rfl, .inl (.inl (.inl (sm _ _ hp))), rfl, flat_strs as, _, rfl, ?_⟩
      have e1 : (if false = true then !inV (.str ⟨#[c]⟩) (as.map V.str) else inV (.str ⟨#[c]⟩) (as.map V.str)) = decide ((⟨#[c]⟩ : Str) ∈ as) := in_strs _ _
      rw [e1]
      have hs := nm_snoc (u := u) hcj
      have aT : c ∈ u → Same H (upd H2 D (.lst ((((nms.take j).filter fun c => decide (c ∈ u)).map fun c => V.str ⟨#[c]⟩) ++ [.str ⟨#[c]⟩]))) ∧ upd H2 D (.lst ((((nms.take j).filter fun c => decide (c ∈ u)).map fun c => V.str ⟨#[c]⟩) ++ [.str ⟨#[c]⟩])) D = some (.lst (((nms.take (j + 1)).filter fun c => decide (c ∈ u)).map fun c => V.str ⟨#[c]⟩)) := by
        intro h
        rw [decide_eq_true h] at hs
        refine ⟨fun b o z => ?_, ?_⟩
        · rw [upd_ne (ne_of_none z hD)]
          exact sm _ _ z
        · rw [upd_same, hs]
          rfl
      have aF : ¬ c ∈ u → Same H H2 ∧ H2 D = some (.lst (((nms.take (j + 1)).filter fun c => decide (c ∈ u)).map fun c => V.str ⟨#[c]⟩)) := by
        intro h
        rw [decide_eq_false h] at hs
        refine ⟨sm, ?_⟩
        rw [hs, hl]
        simp
      cases h1 : decide ((⟨#[c]⟩ : Str) ∈ as) with
      | true => exact iteT (iteT ⟨_, rfl, _, hl, nm_len u j, aT ((hc c hcn).mp (.inl (of_decide_eq_true h1)))⟩)
      | false =>
        refine iteF ?_
        refine ⟨_, rfl, _, rfl, q, _, rfl, .inl (.inl (.inl (sm _ _ hq))), rfl, flat_strs bs, _, rfl, ?_⟩
        have e2 : (if false = true then !inV (.str ⟨#[c]⟩) (bs.map V.str) else inV (.str ⟨#[c]⟩) (bs.map V.str)) = decide ((⟨#[c]⟩ : Str) ∈ bs) := in_strs _ _
        rw [e2]
        cases h2 : decide ((⟨#[c]⟩ : Str) ∈ bs) with
        | true => exact iteT ⟨_, rfl, _, hl, nm_len u j, aT ((hc c hcn).mp (.inr (of_decide_eq_true h2)))⟩
        | false => exact iteF (aF fun h => ((hc c hcn).mpr h).elim (of_decide_eq_false h1) (of_decide_eq_false h2))
    · rintro H1 ⟨sm, hl⟩
      rw [nm_all u (show 4 ≤ (("wxyz" : Str)).cps.size by decide)] at hl
      refine ⟨D, _, rfl, .inl ⟨.inl (.inl hl), fun t ht => ?_⟩⟩
      exact go t _ (fun b o z => by rw [upd_ne (ne_of_none (sm _ _ z) ht)]; exact sm _ _ z) (sm.free ht) upd_same
@[irreducible] def spRead (K : PySem.W.Frag) (X : Addr) : Sp := fun vs H Q E => ∃ x, vs = [x] ∧ AsText K H x ∧ (isT x = false → XI X E (-1) H) ∧
  (∀ z : Str, x = .str z → z.length ≤ 200 → (∀ k H', fault z.cps.toList = some k → Same H H' → XI X E (k : Nat) H') ∧
    (fault z.cps.toList = none → ∀ t H', Same H H' → H' t = some (.tup ((namesIn z.cps.toList).map V.str)) → Q (.ref t) H'))
theorem two_go {X : Addr} {x : V} {H : Hp} {Q : VK} {E : XK} (h1 : AsText K H x) (h2 : isT x = false → XI X E (-1) H) (h3 : ∀ z : Str, x = .str z → z.length ≤ 200 → (∀ k H', fault z.cps.toList = some k → Same H H' → XI X E (k : Nat) H') ∧
    ∀ as bs p q t H', Good z.cps.toList as bs → Same H H' → H' p = some (.lst (as.map V.str)) → H' q = some (.lst (bs.map V.str)) → H' t = some (.tup [.ref p, .ref q]) → Q (.ref t) H') : spTwo K X [x] H Q E := by
  unfold spTwo
  exact ⟨x, rfl, h1, h2, h3⟩
theorem names_go {p q : Addr} {as bs : List Str} {u : Wd} {H : Hp} {Q : VK} {E : XK} (hp : H p = some (.lst (as.map V.str))) (hq : H q = some (.lst (bs.map V.str))) (hc : ∀ c ∈ nms, ((⟨#[c]⟩ : Str) ∈ as ∨ (⟨#[c]⟩ : Str) ∈ bs) ↔ c ∈ u)
    (go : ∀ t H', Same H H' → H t = none → H' t = some (.tup ((namesIn u).map V.str)) → Q (.ref t) H') : spNames K [.ref p, .ref q] H Q E := by
  unfold spNames
  exact ⟨p, q, as, bs, u, rfl, hp, hq, hc, go⟩
theorem read_go {X : Addr} {x : V} {H : Hp} {Q : VK} {E : XK} (h1 : AsText K H x) (h2 : isT x = false → XI X E (-1) H) (h3 : ∀ z : Str, x = .str z → z.length ≤ 200 → (∀ k H', fault z.cps.toList = some k → Same H H' → XI X E (k : Nat) H') ∧
    (fault z.cps.toList = none → ∀ t H', Same H H' → H' t = some (.tup ((namesIn z.cps.toList).map V.str)) → Q (.ref t) H')) : spRead K X [x] H Q E := by
  unfold spRead
  exact ⟨x, rfl, h1, h2, h3⟩
theorem ok_read_identity (T : Tx K mg) : FnR P w K mg base 407 T.read_identity.f T.read_identity.fd ["text"] (spRead K T.NoTerm.C) := by
  have G_two_terms : FnR P w K mg base 406 T.two_terms.f T.two_terms.fd ["text"] (spTwo K T.NoTerm.C) := ok_two_terms T
  have G_names_in : FnR P w K mg base 1 T.names_in.f T.names_in.fd ["first", "second"] (spNames K) := ok_names_in T
  refine fun_okX T.read_identity.F sc_read_identity (fun vs H Q E h => ?_) (fun cdv A outer s H vs Q E hr h => ?_)
  · unfold spRead at h
    obtain ⟨_, rfl, _⟩ := h
    rfl
  · unfold spRead at h
    obtain ⟨x, rfl, ht, q1, q2⟩ := h
    refine ⟨_, (pss_cons (ps_asg (pe_rx G_two_terms (hr.low (by decide)) (by rfl) T.two_terms.g T.two_terms.F.kp T.two_terms.b (takes_of rfl rfl rfl rfl) (pa_cons (pv 0) pa_nil)) (pg_tup (by rfl) (pgs_cons (pg_name (i := 1) sc_read_identity.nd rfl (.inl rfl)) (pgs_cons (pg_name (i := 2) sc_read_identity.nd rfl (.inl rfl)) pgs_nil))))
      (pss_one (ps_ret (pe_r G_names_in (hr.low (by decide)) (by rfl) T.names_in.g T.names_in.F.kp T.names_in.b (pa_cons (pv 1) (pa_cons (pv 2) pa_nil)))))), ?_⟩
    refine ⟨_, rfl, two_go ht q1 fun z hz hl => ⟨(q2 z hz hl).1, fun as bs p q t H1 hg sm hp hq ht => ?_⟩⟩
    refine ⟨t, _, rfl, .inl (.inl ht), rfl, _, _, rfl, _, _, rfl, rfl, ?_⟩
    refine ⟨_, rfl, _, rfl, names_go hp hq hg.2.2.2 fun t2 H2 sm2 _ ht2 => ?_⟩
    exact (q2 z hz hl).2 hg.1 t2 H2 (fun b o z => sm2 _ _ (sm _ _ z)) ht2
@[irreducible] def spSaid (K : PySem.W.Frag) : Sp := fun vs H Q _ => ∃ x, vs = [x] ∧ AsText K H x ∧ (isT x = false → ∀ H', Same H H' → Q (.int (-1)) H') ∧
  (∀ z : Str, x = .str z → z.length ≤ 200 → (∀ k H', fault z.cps.toList = some k → Same H H' → Q (.int (k : Nat)) H') ∧
    (fault z.cps.toList = none → ∀ t H', Same H H' → H' t = some (.tup ((namesIn z.cps.toList).map V.str)) → Q (.ref t) H'))
theorem ok_law_said (T : Tx K mg) : FnR P w K mg base 408 T.law_said.f T.law_said.fd ["text"] (spSaid K) := by
  have G_read_identity : FnR P w K mg base 407 T.read_identity.f T.read_identity.fd ["text"] (spRead K T.NoTerm.C) := ok_read_identity T
  refine fun_ok T.law_said.F sc_law_said (fun vs H Q E h => ?_) (fun cdv A outer s H vs Q E hr h => ?_)
  · unfold spSaid at h
    obtain ⟨_, rfl, _⟩ := h
    rfl
  · unfold spSaid at h
    obtain ⟨x, rfl, ht, q1, q2⟩ := h
    refine ⟨_, (pss_one (ps_try_cl rfl rfl takes0 (fun W pn xe tk po => (pss_one (ps_ret (pe_rx G_read_identity (hr.low (by decide)) (by rfl) T.read_identity.g T.read_identity.F.kp T.read_identity.b tk (pa_cons (pv 0) pa_nil)))))
      (ClOk.named (i := 1) sc_law_said.nd rfl rfl ⟨rfl, by decide, Or.inl T.NoTerm.g⟩ (fun a oe cls d pn hz hf => (pss_one (ps_ret (pe_xf T.NoTerm.xf T.NoTerm.no hz hf (pv 1))))) (ClOk.bare ⟨rfl, by decide, Or.inl T.FoldError.g⟩ (fun a oe cls d pn hz hf => (pss_one (ps_ret pe_str))) ClOk.nil)))), ?_⟩
    have go : ∀ (i : Int) (H1 : Hp) (R : Hp → Prop), (∀ H', Same H1 H' → R H') → ∀ d, H1 d = none → R (upd H1 d (.xd [("place", .int i)])) := fun i H1 R h d hd => h _ (same_new hd)
    refine ⟨_, rfl, read_go ht (fun hx d hd => ?_) fun z hz hl => ⟨fun k H1 hk sm d hd => ?_, fun hf t H1 sm ht => (q2 z hz hl).2 hf t H1 sm ht⟩⟩
    · refine ⟨true, T.x_NoTerm_NoTerm, fun _ a ha => ?_, fun q => nomatch q⟩
      refine ⟨_, rfl, rfl, rfl, d, _, .int (-1), rfl, upd_same, rfl, ?_⟩
      exact q1 hx _ (same_new hd)
    · refine ⟨true, T.x_NoTerm_NoTerm, fun _ a ha => ?_, fun q => nomatch q⟩
      refine ⟨_, rfl, rfl, rfl, d, _, .int (k : Nat), rfl, upd_same, rfl, ?_⟩
      exact (q2 z hz hl).1 k _ hk fun b o z => by
        rw [upd_ne (ne_of_none (sm _ _ z) hd)]
        exact sm _ _ z
end
end Wf
namespace Wf
open PySem PySem.Spec PyProof.Rows L2
open Mood
def moodS : Mood → Str
  | beg => "begin"
  | fac => "factor"
  | one => "one"
abbrev vC (c : Nat) : V := .str ⟨#[c]⟩
theorem in_signs (c : Nat) (l : List Nat) : inV (vC c) (l.map vC) = decide (c ∈ l) := by
  unfold inV
  rw [List.any_map, Bool.eq_iff_iff, List.any_eq_true, decide_eq_true_iff]
  constructor
  · rintro ⟨b, hb, e⟩
    have : (⟨#[b]⟩ : Str) = ⟨#[c]⟩ := by simpa [eqV] using e
    have h2 := congrArg (fun z : Str => z.cps.toList) this
    have : b = c := by simpa using h2
    rw [← this]
    exact hb
  · exact fun h => ⟨c, h, by simp [eqV]⟩
theorem flat_signs (l : List Nat) : (l.map vC).all flatV = true := by
  rw [List.all_map]
  exact List.all_eq_true.mpr fun _ _ => rfl
theorem dec_sign {c k : Nat} {x : Str} (h : x = ⟨#[k]⟩) : decide (vC c = V.str x) = decide (c = k) := by
  subst h
  refine decide_eq_decide.mpr ⟨fun q => ?_, fun q => by rw [q]⟩
  have := congrArg (fun v => match v with | V.str z => z.cps.toList | _ => []) q
  simpa using this
section
variable {P : Program} {w : World} {K : PySem.W.Frag} {mg : Str → Option Value} {base : Heap}
@[irreducible] def spOpen : Sp := fun vs H Q _ => ∃ (m : Mood) (c d : Nat) (s : Bool), vs = [.str (moodS m), vC c, .int (d : Nat), .bl s] ∧ ∀ H', Same H H' → Q (.bl (opn m d s c)) H'
theorem open_go {m : Mood} {c d : Nat} {s : Bool} {H : Hp} {Q : VK} {E : XK} (q : ∀ H', Same H H' → Q (.bl (opn m d s c)) H') : spOpen [.str (moodS m), vC c, .int (d : Nat), .bl s] H Q E := by
  unfold spOpen
  exact ⟨m, c, d, s, rfl, q⟩
theorem ok_law_is_open (T : Tx K mg) : FnR P w K mg base 1 T.law_is_open.f T.law_is_open.fd ["mood", "sign", "depth", "is_second"] spOpen := by
  refine fun_ok T.law_is_open.F sc_law_is_open (fun vs H Q E h => ?_) (fun cdv A outer s H vs Q E hr h => ?_)
  · unfold spOpen at h
    obtain ⟨_, _, _, _, rfl, _⟩ := h
    rfl
  · unfold spOpen at h
    obtain ⟨m, c, d, sd, rfl, q⟩ := h
    refine ⟨_, (pss_cons (ps_if (pt_cmpR op_eq (pv 0) pe_str (nomark _)) (pss_one (ps_ret (pe_cmpR (op_inK (K := K) rfl) (pv 1) (pe_tup (pa_cons pe_str (pa_cons pe_str (pa_cons pe_str (pa_cons pe_str (pa_cons pe_str (pa_cons pe_str pa_nil))))))) (by rfl)))) pss_nil)
      (pss_cons (ps_if (pt_cmpR op_eq (pv 1) pe_str (nomark _)) (pss_one (ps_ret (pe_cmpR op_gt (pv 2) pe_int (nomark _)))) pss_nil)
      (pss_cons (ps_if (pt_cmpR op_eq (pv 1) pe_str (nomark _)) (pss_one (ps_ret (pe_and (pe_cmpR op_eq (pv 2) pe_int (nomark _)) (pe_one (pe_not (pv 3)))))) pss_nil)
      (pss_one (ps_ret (pe_and (pe_cmpR op_eq (pv 0) pe_str (nomark _)) (pe_one (pe_cmpR (op_inK (K := K) rfl) (pv 1) (pe_tup (pa_cons pe_str (pa_cons pe_str (pa_cons pe_str (pa_cons pe_str (pa_cons pe_str (pa_cons pe_str (pa_cons pe_str pa_nil)))))))) (by rfl))))))))), ?_⟩
    refine ⟨_, rfl, rfl, _, rfl, ?_⟩
    have rest : m ≠ beg → opn m d sd c = (if c = 41 then decide (0 < d) else if c = 61 then decide (d = 0) && !sd else decide (m = fac) && decide (c ∈ [119, 120, 121, 122, 40, 94, 126])) := fun h => by
      unfold opn
      rw [if_neg h]
    by_cases hm : m = beg
    · subst hm
      refine iteT ?_
      refine ⟨_, rfl, (by show 6 ≤ sizeLine; decide), fun t ht => ?_⟩
      refine ⟨t, [49, 119, 120, 121, 122, 40].map vC, rfl, .inr (.inl (.inl upd_same)), rfl, flat_signs _, ?_⟩
      have e1 : (if false = true then !inV (vC c) ([49, 119, 120, 121, 122, 40].map vC) else inV (vC c) ([49, 119, 120, 121, 122, 40].map vC)) = opn beg d sd c := in_signs _ _
      rw [e1]
      exact q _ (same_new ht)
    · have e0 : decide (V.str (moodS m) = V.str "begin") = false := by
        cases m with
        | beg => exact absurd rfl hm
        | fac => decide
        | one => decide
      rw [e0]
      refine iteF ?_
      have q' := fun H' sm => (rest hm) ▸ q H' sm
      refine ⟨_, rfl, rfl, _, rfl, ?_⟩
      rw [dec_sign (k := 41) (by decide)]
      refine ite2 (fun e => ?_) (fun e => ?_)
      · have e' : c = 41 := of_decide_eq_true e
        refine ⟨_, rfl, _, _, rfl, rfl, ?_⟩
        rw [if_pos e'] at q'
        have e3 : decide ((0 : Int) < (d : Nat)) = decide (0 < d) := decide_eq_decide.mpr (by omega)
        show Q (.bl (decide ((0 : Int) < (d : Nat)))) H
        rw [e3]
        exact q' H (Same.refl H)
      · have e' : ¬ c = 41 := fun z => e (decide_eq_true z)
        rw [if_neg e'] at q'
        refine ⟨_, rfl, rfl, _, rfl, ?_⟩
        rw [dec_sign (k := 61) (by decide)]
        refine ite2 (fun e2 => ?_) (fun e2 => ?_)
        · have e2' : c = 61 := of_decide_eq_true e2
          rw [if_pos e2'] at q'
          refine ⟨_, rfl, rfl, _, rfl, ?_⟩
          have e3 : decide (V.int ((d : Nat) : Int) = V.int 0) = decide (d = 0) := decide_eq_decide.mpr ⟨fun z => by have := V.int.inj z; omega, fun z => by rw [z]; rfl⟩
          rw [e3]
          cases hd : decide (d = 0) with
          | true =>
            rw [hd] at q'
            refine iteT ?_
            refine ⟨_, rfl, _, rfl, ?_⟩
            exact q' H (Same.refl H)
          | false =>
            rw [hd] at q'
            refine iteF ?_
            exact q' H (Same.refl H)
        · have e2' : ¬ c = 61 := fun z => e2 (decide_eq_true z)
          rw [if_neg e2'] at q'
          refine ⟨_, rfl, rfl, _, rfl, ?_⟩
          have e3 : decide (V.str (moodS m) = V.str "factor") = decide (m = fac) := by
            cases m with
            | beg => exact absurd rfl hm
            | fac => decide
            | one => decide
          rw [e3]
          cases hf : decide (m = fac) with
          | true =>
            rw [hf] at q'
            refine iteT ?_
            refine ⟨_, rfl, (by show 7 ≤ sizeLine; decide), fun t ht => ?_⟩
            refine ⟨t, [119, 120, 121, 122, 40, 94, 126].map vC, rfl, .inr (.inl (.inl upd_same)), rfl, flat_signs _, ?_⟩
            have e1 : (if false = true then !inV (vC c) ([119, 120, 121, 122, 40, 94, 126].map vC) else inV (vC c) ([119, 120, 121, 122, 40, 94, 126].map vC)) = decide (c ∈ [119, 120, 121, 122, 40, 94, 126]) := in_signs _ _
            rw [e1]
            exact q' _ (same_new ht)
          | false =>
            rw [hf] at q'
            refine iteF ?_
            exact q' H (Same.refl H)
/-- the law's answer -/
def faultV (u : Wd) : V := match fault u with
  | some k => .int (k : Nat)
  | none => .non
@[irreducible] def spFault : Sp := fun vs H Q _ => ∃ z : Str, vs = [.str z] ∧ z.length ≤ sizeLine ∧ ∀ H', Same H H' → Q (faultV z.cps.toList) H'
theorem fault_go {z : Str} {H : Hp} {Q : VK} {E : XK} (h : z.length ≤ sizeLine) (q : ∀ H', Same H H' → Q (faultV z.cps.toList) H') : spFault [.str z] H Q E := by
  unfold spFault
  exact ⟨z, rfl, h, q⟩
theorem ok_law_fault (T : Tx K mg) : FnR P w K mg base 2 T.law_fault.f T.law_fault.fd ["text"] spFault := by
  have G_law_is_open : FnR P w K mg base 1 T.law_is_open.f T.law_is_open.fd ["mood", "sign", "depth", "is_second"] spOpen := ok_law_is_open T
  refine fun_ok T.law_fault.F sc_law_fault (fun vs H Q E h => ?_) (fun cdv A outer s H vs Q E hr h => ?_)
  · unfold spFault at h
    obtain ⟨_, rfl, _⟩ := h
    rfl
  · unfold spFault at h
    obtain ⟨z, rfl, hz, q⟩ := h
    refine ⟨_, (pss_cons (ps_asg (pe_tup (pa_cons pe_str (pa_cons pe_int (pa_cons pe_bl pa_nil)))) (pg_tup (by rfl) (pgs_cons (pg_name (i := 1) sc_law_fault.nd rfl (.inl rfl)) (pgs_cons (pg_name (i := 2) sc_law_fault.nd rfl (.inl rfl)) (pgs_cons (pg_name (i := 3) sc_law_fault.nd rfl (.inl rfl)) pgs_nil)))))
      (pss_cons (ps_for PassesOwn.never rfl (pi_enumS (by rfl) T.n_enumerate (pa_cons (pv 0) pa_nil)) (pg_tup (by rfl) (pgs_cons (pg_name (i := 4) sc_law_fault.nd rfl (.inl rfl)) (pgs_cons (pg_name (i := 5) sc_law_fault.nd rfl (.inl rfl)) pgs_nil))) (pss_cons (ps_if (pt_not (pt_val (pe_r G_law_is_open (hr.low (by decide)) (by rfl) T.law_is_open.g T.law_is_open.F.kp T.law_is_open.b (pa_cons (pv 1) (pa_cons (pv 5) (pa_cons (pv 2) (pa_cons (pv 3) pa_nil))))))) (pss_one (ps_ret (pv 4))) pss_nil)
      (pss_one (ps_if (pt_cmpR op_eq (pv 5) pe_str (nomark _)) (pss_one (ps_par (i := 1) (j := 2) (by rfl) sc_law_fault.nd rfl rfl (by decide) rfl rfl (pa_cons pe_str (pa_cons (pe_op op_add (pv 2) pe_int) pa_nil)) (by rfl))) (pss_one (ps_if (pt_cmpR op_eq (pv 5) pe_str (nomark _)) (pss_one (ps_asg (pe_tup (pa_cons pe_str (pa_cons pe_bl pa_nil))) (pg_tup (by rfl) (pgs_cons (pg_name (i := 1) sc_law_fault.nd rfl (.inl rfl)) (pgs_cons (pg_name (i := 3) sc_law_fault.nd rfl (.inl rfl)) pgs_nil))))) (pss_one (ps_if (pt_cmpR op_eq (pv 5) pe_str (nomark _)) (pss_one (ps_par (i := 1) (j := 2) (by rfl) sc_law_fault.nd rfl rfl (by decide) rfl rfl (pa_cons pe_str (pa_cons (pe_op op_sub (pv 2) pe_int) pa_nil)) (by rfl))) (pss_one (ps_if (pt_cmpR op_eq (pv 1) pe_str (nomark _)) (pss_one (ps_set (i := 1) sc_law_fault.nd rfl (Or.inl rfl) (pe_ifExp (pt_cmpR op_eq (pv 5) pe_str (nomark _)) pe_str pe_str))) (pss_one (ps_if (pt_cmpR op_in_sign (pv 5) pe_str (by rfl)) (pss_one (ps_set (i := 1) sc_law_fault.nd rfl (Or.inl rfl) pe_str)) pss_nil))))))))))))
      (pss_cons (ps_set (i := 6) sc_law_fault.nd rfl (Or.inl rfl) (pe_and (pv 3) (pe_and (pe_cmpR op_eq (pv 2) pe_int (nomark _)) (pe_one (pe_cmpR op_ne (pv 1) pe_str (nomark _))))))
      (pss_one (ps_ret (pe_ifExp (pt_val (pv 6)) pe_non (pe_callB call_len_str (by rfl) T.n_len PySem.boot_len (pa_cons (pv 0) pa_nil)))))))), ?_⟩
    refine ⟨(by show 3 ≤ sizeLine; decide), fun t0 ht0 => ⟨t0, _, rfl, .inl (.inl upd_same), rfl, _, _, rfl, _, _, rfl, _, _, rfl, rfl, ?_⟩⟩
    refine ⟨_, rfl, z, rfl, ?_⟩
    refine for_it (walk_enumS (z := z)) (fun i σ H1 => ∃ m d sc y4 y5, σ = [some (.str z), some (.str (moodS m)), some (.int (d : Nat)), some (.bl sc), y4, y5, none] ∧ run (beg, 0, false) (z.cps.toList.take i) = some (m, d, sc) ∧ Same H H1)
      ⟨beg, 0, false, none, none, rfl, rfl, same_new ht0⟩ (fun _ _ _ _ _ => True.intro) ?_ ?_
    · rintro i x σ H1 H2 hi ⟨m, d, sc, y4, y5, rfl, hrun, sm⟩ ⟨t, c, rfl, ht, rfl, hc⟩
      have hc' : z.cps.toList[i]? = some c := by rw [Array.getElem?_toList]; exact hc
      refine ⟨t, _, rfl, .inl (.inl upd_same), rfl, _, _, rfl, _, _, rfl, rfl, ?_⟩
      have sm2 : Same H (upd H1 t (.tup [.int (i : Nat), vC c])) := fun b o z => by
        rw [upd_ne (ne_of_none (sm _ _ z) ht)]
        exact sm _ _ z
      refine ⟨_, rfl, _, rfl, _, rfl, _, rfl, open_go fun H3 sm3 => ⟨_, rfl, ?_⟩⟩
      have sm4 : Same H H3 := fun b o z => sm3 _ _ (sm2 _ _ z)
      cases ho : opn m d sc c with
      | false =>
        refine iteT ?_
        refine ⟨_, rfl, ?_⟩
        have := q H3 sm4
        unfold faultV fault at this
        rw [fault_bad i _ 0 _ m d sc c hrun hc' ho, Nat.zero_add] at this
        exact this
      | true =>
        refine iteF ?_
        have step : run (beg, 0, false) (z.cps.toList.take (i + 1)) = some (nxt m d sc c) := by
          rw [List.take_add_one, hc', run_app, hrun]
          show run (m, d, sc) [c] = _
          rw [run_one, ho]
          rfl
        refine ⟨_, rfl, rfl, _, rfl, ?_⟩
        have fin : ∀ (m' : Mood) (d' : Nat) (s' : Bool) (H4 : Hp) (σ' : L2.St), nxt m d sc c = (m', d', s') → Same H3 H4 → σ' = [some (.str z), some (.str (moodS m')), some (.int (d' : Nat)), some (.bl s'), some (.int (i : Nat)), some (vC c), none] →
            ∃ m d sc y4 y5, σ' = [some (.str z), some (.str (moodS m)), some (.int (d : Nat)), some (.bl sc), y4, y5, none] ∧ run (beg, 0, false) (z.cps.toList.take (i + 1)) = some (m, d, sc) ∧ Same H H4 :=
          fun m' d' s' H4 σ' e sm5 eσ => ⟨m', d', s', _, _, eσ, by rw [step, e], fun b o z => sm5 _ _ (sm4 _ _ z)⟩
        rw [dec_sign (k := 40) (by decide)]
        refine ite2 (fun e => ?_) (fun e => ?_)
        · have e' : c = 40 := of_decide_eq_true e
          refine ⟨_, rfl, _, _, rfl, rfl, _, _, rfl, ?_⟩
          exact fin beg (d + 1) sc _ _ (by unfold nxt; rw [if_pos e']) (Same.refl _) rfl
        · have e1 : ¬ c = 40 := fun z => e (decide_eq_true z)
          refine ⟨_, rfl, rfl, _, rfl, ?_⟩
          rw [dec_sign (k := 61) (by decide)]
          refine ite2 (fun e => ?_) (fun e => ?_)
          · have e' : c = 61 := of_decide_eq_true e
            refine ⟨(by show 2 ≤ sizeLine; decide), fun t2 ht2 => ⟨t2, _, rfl, .inl (.inl upd_same), rfl, _, _, rfl, _, _, rfl, rfl, ?_⟩⟩
            exact fin beg d true _ _ (by unfold nxt; rw [if_neg e1, if_pos e']) (same_new ht2) rfl
          · have e2 : ¬ c = 61 := fun z => e (decide_eq_true z)
            refine ⟨_, rfl, rfl, _, rfl, ?_⟩
            rw [dec_sign (k := 41) (by decide)]
            refine ite2 (fun e => ?_) (fun e => ?_)
            · have e' : c = 41 := of_decide_eq_true e
              have hd : 0 < d := by
                unfold opn at ho
                by_cases hm : m = beg
                · rw [if_pos hm, e'] at ho
                  exact absurd ho (by decide)
                · rw [if_neg hm, if_pos e'] at ho
                  exact of_decide_eq_true ho
              refine ⟨_, rfl, _, _, rfl, rfl, _, _, rfl, ?_⟩
              refine fin fac (d - 1) sc _ _ (by unfold nxt; rw [if_neg e1, if_neg e2, if_pos e']) (Same.refl _) ?_
              show [some (V.str z), some (V.str "factor"), some (V.int ((d : Int) - 1)), _, _, _, _] = _
              rw [show ((d : Int) - 1) = ((d - 1 : Nat) : Int) by omega]
              rfl
            · have e3 : ¬ c = 41 := fun z => e (decide_eq_true z)
              refine ⟨_, rfl, rfl, _, rfl, ?_⟩
              have eb : decide (V.str (moodS m) = V.str "begin") = decide (m = beg) := by cases m <;> decide
              rw [eb]
              refine ite2 (fun e => ?_) (fun e => ?_)
              · have e' : m = beg := of_decide_eq_true e
                refine ⟨_, rfl, rfl, _, rfl, iteS ?_⟩
                rw [dec_sign (k := 49) (by decide)]
                refine fin (if c = 49 then one else fac) d sc _ _ (by unfold nxt; rw [if_neg e1, if_neg e2, if_neg e3, if_pos e']) (Same.refl _) ?_
                by_cases h49 : c = 49
                · rw [if_pos h49, if_pos (decide_eq_true h49)]
                  rfl
                · rw [if_neg h49, if_neg (fun z => h49 (of_decide_eq_true z))]
                  rfl
              · have e4 : ¬ m = beg := fun z => e (decide_eq_true z)
                refine ⟨_, rfl, c, _, rfl, rfl, _, rfl, ?_⟩
                rw [show (("wxyz" : Str)).cps.toList = [119, 120, 121, 122] by decide]
                refine ite2 (fun e => ?_) (fun e => ?_)
                · exact fin fac d sc _ _ (by unfold nxt; rw [if_neg e1, if_neg e2, if_neg e3, if_neg e4, if_pos (of_decide_eq_true e)]) (Same.refl _) rfl
                · exact fin m d sc _ _ (by unfold nxt; rw [if_neg e1, if_neg e2, if_neg e3, if_neg e4, if_neg (fun z => e (decide_eq_true z))]) (Same.refl _) rfl
    · rintro σ H1 ⟨m, d, sc, y4, y5, rfl, hrun, sm⟩
      rw [show z.cps.toList.take z.cps.size = z.cps.toList from List.take_of_length_le (by rw [Array.length_toList]; exact Nat.le_refl _)] at hrun
      have hq := q H1 sm
      unfold faultV fault at hq
      rw [fault_end _ 0 _ _ hrun] at hq
      have hlen : (0 + z.cps.toList.length) = z.length := by rw [Nat.zero_add, Array.length_toList]; rfl
      rw [hlen] at hq
      have ew : whole (m, d, sc) = (sc && (decide (d = 0) && decide (m ≠ beg))) := by
        show (sc && decide (d = 0) && decide (m ≠ beg)) = _
        rw [Bool.and_assoc]
      rw [ew] at hq
      have ed : decide (V.int ((d : Nat) : Int) = V.int 0) = decide (d = 0) := decide_eq_decide.mpr ⟨fun z => by have := V.int.inj z; omega, fun z => by rw [z]; rfl⟩
      have em : (!decide (V.str (moodS m) = V.str "begin")) = decide (m ≠ beg) := by cases m <;> decide
      refine ⟨_, rfl, _, rfl, ?_⟩
      have done : ∀ b : Bool, (match (if b = true then none else some z.length : Option Nat) with | some k => Q (.int (k : Nat)) H1 | none => Q .non H1) → tIf (tB (tVar 6)) (tC .non) (tCB (fun xs H Q => ∃ z, xs = [V.str z] ∧ z.length ≤ sizeLine ∧ Q (V.int (z.length : Nat)) H) (tCons (tVar 0) tNil)) [some (V.str z), some (V.str (moodS m)), some (V.int (d : Nat)), some (V.bl sc), y4, y5, some (.bl b)] H1 Q := by
        intro b hb
        cases b with
        | true => exact ⟨_, rfl, _, rfl, iteT hb⟩
        | false => exact ⟨_, rfl, _, rfl, iteF ⟨_, rfl, z, rfl, hz, hb⟩⟩
      cases sc with
      | false => exact iteF (done false hq)
      | true =>
        refine iteT ⟨_, rfl, rfl, _, rfl, ?_⟩
        rw [ed]
        cases hd : decide (d = 0) with
        | false =>
          rw [hd] at hq
          exact iteF (done false hq)
        | true =>
          rw [hd] at hq
          refine iteT ⟨_, rfl, rfl, ?_⟩
          rw [em]
          cases hb : decide (m ≠ beg) with
          | true =>
            rw [hb] at hq
            exact done true hq
          | false =>
            rw [hb] at hq
            exact done false hq
end
end Wf
namespace Wf
open PySem PySem.Spec PyProof.Rows L2
open Mood
section
variable {P : Program} {w : World} {K : PySem.W.Frag} {mg : Str → Option Value} {base : Heap}
@[irreducible] def spDue : Sp := fun vs H Q _ => ∃ z : Str, vs = [.str z] ∧ z.length ≤ sizeLine ∧ (∀ k H', fault z.cps.toList = some k → Same H H' → Q (.int (k : Nat)) H') ∧ (fault z.cps.toList = none → ∀ t H', Same H H' → H' t = some (.tup ((namesIn z.cps.toList).map V.str)) → Q (.ref t) H')
theorem due_go {z : Str} {H : Hp} {Q : VK} {E : XK} (h : z.length ≤ sizeLine) (q1 : ∀ k H', fault z.cps.toList = some k → Same H H' → Q (.int (k : Nat)) H') (q2 : fault z.cps.toList = none → ∀ t H', Same H H' → H' t = some (.tup ((namesIn z.cps.toList).map V.str)) → Q (.ref t) H') : spDue [.str z] H Q E := by
  unfold spDue
  exact ⟨z, rfl, h, q1, q2⟩
theorem ok_law_due (T : Tx K mg) : FnR P w K mg base 3 T.law_due.f T.law_due.fd ["text"] spDue := by
  have G_law_fault : FnR P w K mg base 2 T.law_fault.f T.law_fault.fd ["text"] spFault := ok_law_fault T
  refine fun_ok T.law_due.F sc_law_due (fun vs H Q E h => ?_) (fun cdv A outer s H vs Q E hr h => ?_)
  · unfold spDue at h
    obtain ⟨_, rfl, _⟩ := h
    rfl
  · unfold spDue at h
    obtain ⟨z, rfl, hz, q1, q2⟩ := h
    refine ⟨_, (pss_cons (ps_set (i := 1) sc_law_due.nd rfl (Or.inl rfl) (pe_r G_law_fault (hr.low (by decide)) (by rfl) T.law_fault.g T.law_fault.F.kp T.law_fault.b (pa_cons (pv 0) pa_nil)))
      (pss_cons (ps_if (pt_cmpR op_notN (pv 1) pe_non (nomark _)) (pss_one (ps_ret (pv 1))) pss_nil)
      (pss_one (ps_ret (pe_callTy call_tuple_of (by rfl) T.n_tuple (by decide +kernel) (pa_cons (pe_lc (own := [("name", 2)]) (g := gName 2) rfl sc_law_due.nd (pi_tup (pe_tup (pa_cons pe_str (pa_cons pe_str (pa_cons pe_str (pa_cons pe_str pa_nil)))))) (blkOk_by (own := [("name", 2)]) (N := N_law_due) (sc := defScope s_law_due) (by decide +kernel)) (fun _ _ _ _ _ => (pg_name (i := 2) sc_law_due.nd rfl (.inl rfl))) (fun _ _ _ _ _ => pts_one (pt_cmpR op_in_sign (pv 2) (pv 0) (by rfl))) (fun _ _ _ _ _ => (pv 2))) pa_nil)))))), ?_⟩
    refine ⟨_, rfl, fault_go hz fun H1 sm => ?_⟩
    refine ⟨_, rfl, rfl, _, rfl, ?_⟩
    unfold faultV
    cases hf : fault z.cps.toList with
    | some k =>
      refine iteT ⟨_, rfl, ?_⟩
      exact q1 k H1 hf sm
    | none =>
      refine iteF ?_
      refine ⟨(by show 4 ≤ sizeLine; decide), fun t ht => ⟨t, rfl, ⟨nms.map vC, .inl (.inl upd_same)⟩, fun D hD => ?_⟩⟩
      have hD' : upd H1 t (.tup (nms.map vC)) D = none := hD
      have htD : t ≠ D := ne_of_none upd_same hD
      have sm1 : Same H (upd H1 t (.tup (nms.map vC))) := fun b o z => by
        rw [upd_ne (ne_of_none (sm _ _ z) ht)]
        exact sm _ _ z
      refine lc_it (walk_tup (K := K) (a := t) (xs := nms.map vC)) (fun j H2 => Same H H2 ∧ H2 t = some (.tup (nms.map vC)) ∧ H2 D = some (.lst (((nms.take j).filter fun c => decide (c ∈ z.cps.toList)).map fun c => V.str ⟨#[c]⟩))) ⟨fun b o q => ?_, by rw [upd_ne htD]; exact upd_same, upd_same⟩ (fun j H2 _ q => .inl (.inl q.2.1)) ?_ ?_
      · have := sm1 b o q
        rw [upd_ne (ne_of_none this hD)]
        exact this
      · rintro j x H2 H3 hj ⟨sm2, h2t, hl⟩ ⟨rfl, hx⟩
        obtain ⟨c, hc, rfl⟩ : ∃ c, nms[j]? = some c ∧ x = vC c := by
          rw [List.getElem?_map] at hx
          cases e2 : nms[j]? with
          | none => rw [e2] at hx; cases hx
          | some u => rw [e2] at hx; exact ⟨u, rfl, (Option.some.inj hx).symm⟩
        have hs := nm_snoc (u := z.cps.toList) hc
        refine ⟨rfl, ?_⟩
        refine ⟨_, rfl, _, rfl, c, z, rfl, rfl, _, rfl, ?_⟩
        cases hb : decide (c ∈ z.cps.toList) with
        | true =>
          rw [hb] at hs
          refine iteT ⟨_, rfl, _, hl, nm_len _ j, fun b o q => ?_, ?_, ?_⟩
          · have h0 : H D = none := by
              cases e : H D with
              | none => rfl
              | some o =>
                have := sm1 _ _ e
                rw [hD'] at this
                cases this
            rw [upd_ne (ne_of_none q h0)]
            exact sm2 _ _ q
          · rw [upd_ne htD]
            exact h2t
          · rw [upd_same, hs]
            rfl
        | false =>
          rw [hb] at hs
          refine iteF ⟨sm2, h2t, ?_⟩
          rw [hs, hl]
          simp
      · rintro H2 ⟨sm2, h2t, hl⟩
        rw [nm_all _ (show 4 ≤ (nms.map vC).length by decide)] at hl
        refine ⟨D, _, rfl, .inl ⟨.inl (.inl hl), fun t2 ht2 => ?_⟩⟩
        refine q2 hf t2 _ (fun b o q => ?_) upd_same
        rw [upd_ne (ne_of_none (sm2 _ _ q) ht2)]
        exact sm2 _ _ q
theorem sw_app (u v : Wd) : SW u ++ SW v = SW (u ++ v) := by
  show (⟨(u.toArray ++ v.toArray)⟩ : Str) = ⟨(u ++ v).toArray⟩
  simp
/-! ### drawn terms -/
def IsTm (u : Wd) : Prop := ∀ d s, ∃ m, m ≠ beg ∧ run (beg, d, s) u = some (m, d, s)
def IsPw (u : Wd) : Prop := ∀ m d s, m ≠ one → run (m, d, s) u = some (fac, d, s)
def lenB : Nat → Nat
  | 0 => 12
  | n + 1 => 3 * (lenB n + 5)
theorem lenB_le : ∀ n, n ≤ 6 → 12 ≤ lenB n ∧ lenB n ≤ 100000 := by decide +kernel
theorem pw_par {u : Wd} (h : IsTm u) : IsPw (40 :: (u ++ [41])) := by
  intro m d s hm
  obtain ⟨m1, hb, hrun⟩ := h (d + 1) s
  rw [run_par hm, run_app, hrun]
  show run (m1, d + 1, s) [41] = _
  rw [run_one]
  have : opn m1 (d + 1) s 41 = true := by
    unfold opn
    rw [if_neg hb, if_pos rfl]
    exact decide_eq_true (by omega)
  rw [if_pos this]
  rfl
theorem pw_name {c : Nat} (h : c ∈ nms) : IsPw [c] := by
  intro m d s hm
  have h' : c ∈ [119, 120, 121, 122] := h
  simp only [List.mem_cons, List.not_mem_nil, or_false] at h'
  rcases h' with rfl | rfl | rfl | rfl
  all_goals
    cases m with
    | beg => rfl
    | fac => rfl
    | one => exact absurd rfl hm
def ops : List Wd := [[], [], [94], [126], [94, 94], [126, 94, 126]]
theorem pw_ops {u o : Wd} (h : IsPw u) (ho : o ∈ ops) : IsPw (u ++ o) := by
  intro m d s hm
  rw [run_app, h m d s hm]
  have : o ∈ ([[], [], [94], [126], [94, 94], [126, 94, 126]] : List Wd) := ho
  simp only [List.mem_cons, List.not_mem_nil, or_false] at this
  rcases this with rfl | rfl | rfl | rfl | rfl | rfl <;> rfl
theorem ops_len {o : Wd} (ho : o ∈ ops) : o.length ≤ 3 := by
  have : ∀ o ∈ ops, o.length ≤ 3 := by decide
  exact this o ho
@[irreducible] def spTm (n : Nat) : Sp := fun vs H Q _ => ∃ (s : Addr) (d : Nat), vs = [.ref s, .int (d : Nat)] ∧ d < n ∧ d ≤ 6 ∧ Src H s ∧ ∀ u H', IsTm u → u.length ≤ lenB d → Ext s H H' → Q (.str (SW u)) H'
theorem tm_go {n d : Nat} {s : Addr} {x : V} {H : Hp} {Q : VK} {E : XK} (e : x = .int (d : Nat)) (h1 : d < n) (h2 : d ≤ 6) (h3 : Src H s) (q : ∀ u H', IsTm u → u.length ≤ lenB d → Ext s H H' → Q (.str (SW u)) H') : spTm n [.ref s, x] H Q E := by
  subst e
  unfold spTm
  exact ⟨s, d, rfl, h1, h2, h3, q⟩
theorem join_asg {te : TE} {g : TG} {D : L2.Ends} {G : Prop} (M : L2.St → Hp → Prop) (first : (∀ σ H, M σ H → tAsg te g D σ H) → G) (second : ∀ σ H, M σ H → tAsg te g D σ H) : G := first second
theorem ok_law_term1 (T : Tx K mg) (n : Nat) (G_law_term : FnR P w K mg base (n + 2) T.law_term.f T.law_term.fd ["source", "deep"] (spTm n)) : FnR P w K mg base (n + 3) T.law_term.f T.law_term.fd ["source", "deep"] (spTm (n + 1)) := by
  have G_law_draw : FnR P w K mg base 1 T.law_draw.f T.law_draw.fd ["source", "many"] spDraw := ok_law_draw T
  have G_law_pick : FnR P w K mg base 2 T.law_pick.f T.law_pick.fd ["source", "some"] (spPick K) := ok_law_pick T
  refine fun_ok T.law_term.F sc_law_term (fun vs H Q E h => ?_) (fun cdv A outer s H vs Q E hr h => ?_)
  · unfold spTm at h
    obtain ⟨_, _, rfl, _⟩ := h
    rfl
  · unfold spTm at h
    obtain ⟨s0, d, rfl, hd, hd6, hs, q⟩ := h
    refine ⟨_, (pss_cons (ps_if (pt_cmpR op_eq (pe_r G_law_draw (hr.low (by omega)) (by rfl) T.law_draw.g T.law_draw.F.kp T.law_draw.b (pa_cons (pv 0) (pa_cons pe_int pa_nil))) pe_int (nomark _)) (pss_one (ps_ret pe_str)) pss_nil)
      (pss_cons (ps_set (i := 2) sc_law_term.nd rfl (Or.inl rfl) pe_str)
      (pss_cons (ps_for PassesOwn.never rfl (pi_range1 (by rfl) T.n_range (pa_cons (pe_op op_add pe_int (pe_r G_law_draw (hr.low (by omega)) (by rfl) T.law_draw.g T.law_draw.F.kp T.law_draw.b (pa_cons (pv 0) (pa_cons pe_int pa_nil)))) pa_nil)) (pg_name (i := 3) sc_law_term.nd rfl (.inl rfl)) (pss_cons (ps_set (i := 4) sc_law_term.nd rfl (Or.inl rfl) (pe_r G_law_pick (hr.low (by omega)) (by rfl) T.law_pick.g T.law_pick.F.kp T.law_pick.b (pa_cons (pv 0) (pa_cons (pe_lst (pa_cons pe_str (pa_cons pe_str (pa_cons pe_str (pa_cons pe_str pa_nil))))) pa_nil))))
      (pss_cons (ps_if (PW.pt (pw_and (pt_cmpR op_gt (pv 1) pe_int (nomark _)) (pw_and1 (pt_cmpR op_eq (pe_r G_law_draw (hr.low (by omega)) (by rfl) T.law_draw.g T.law_draw.F.kp T.law_draw.b (pa_cons (pv 0) (pa_cons pe_int pa_nil))) pe_int (nomark _))))) (pss_one (ps_set (i := 4) sc_law_term.nd rfl (Or.inl rfl) (pe_op op_add_str (pe_op op_add_str pe_str (pe_r G_law_term (hr.low (by omega)) (by rfl) T.law_term.g T.law_term.F.kp T.law_term.b (pa_cons (pv 0) (pa_cons (pe_op op_sub (pv 1) pe_int) pa_nil)))) pe_str))) pss_nil)
      (pss_one (ps_set (i := 2) sc_law_term.nd rfl (Or.inl rfl) (pe_op op_add_str (pe_op op_add_str (pv 2) (pv 4)) (pe_r G_law_pick (hr.low (by omega)) (by rfl) T.law_pick.g T.law_pick.F.kp T.law_pick.b (pa_cons (pv 0) (pa_cons (pe_lst (pa_cons pe_str (pa_cons pe_str (pa_cons pe_str (pa_cons pe_str (pa_cons pe_str (pa_cons pe_str pa_nil))))))) pa_nil)))))))))
      (pss_one (ps_ret (pv 2)))))), ?_⟩
    refine ⟨_, rfl, s0, 6, rfl, by decide, by decide, hs, fun g H1 g0 g6 x1 => ?_⟩
    refine ⟨rfl, _, rfl, ?_⟩
    refine ite2 (fun e => ?_) (fun e => ?_)
    · exact q [49] H1 (fun d s => ⟨one, by decide, rfl⟩) (by have := (lenB_le d hd6).1; show 1 ≤ _; omega) x1
    · refine ⟨_, rfl, s0, 3, rfl, by decide, by decide, x1.1, fun k H2 k0 k3 x2 => ?_⟩
      obtain ⟨kn, rfl, hkn⟩ : ∃ kn : Nat, k = (kn : Int) ∧ kn < 3 := ⟨k.toNat, by omega, by omega⟩
      refine ⟨_, _, rfl, rfl, _, rfl, by omega, by omega, ?_⟩
      obtain ⟨L, hL⟩ : ∃ L, L = (if d = 0 then 1 else lenB (d - 1) + 2) := ⟨_, rfl⟩
      have hLd : 3 * (L + 3) = lenB d := by
        rw [hL]
        cases d with
        | zero => rfl
        | succ n => rfl
      have hL1 : 1 ≤ L := by
        rw [hL]
        split <;> omega
      have hLB := (lenB_le d hd6).2
      refine for_it (walk_range (lo := 0)) (fun i σ H3 => ∃ u y3 y4, σ = [some (.ref s0), some (.int (d : Nat)), some (.str (SW u)), y3, y4] ∧ (i = 0 → u = []) ∧ (0 < i → IsPw u) ∧ u.length ≤ i * (L + 3) ∧ Ext s0 H H3)
        ⟨[], none, none, rfl, fun _ => rfl, fun h => absurd h (by omega), by simp, x1.trans x2⟩ (fun _ _ _ _ _ => True.intro) ?_ ?_
      · rintro i x σ H3 H4 hi ⟨u, y3, y4, rfl, hu0, hu1, hul, x3⟩ ⟨rfl, rfl⟩
        have hi3 : i < 3 := by
          have : i < ((1 + (kn : Int)) - 0).toNat := hi
          omega
        have hmul : i * (L + 3) ≤ 2 * (L + 3) := Nat.mul_le_mul_right _ (by omega)
        refine' join_asg (te := _) (D := _) (g := gName 2) (fun (σ1 : L2.St) (H6 : Hp) => ∃ o : Wd, σ1 = [some (.ref s0), some (.int (d : Nat)), some (.str (SW u)), some (.int (0 + (i : Nat))), some (.str (SW o))] ∧ IsPw o ∧ o.length ≤ L ∧ Ext s0 H H6) (fun go => ?first) ?second
        case first =>
          refine ⟨_, rfl, (by show 4 ≤ sizeLine; decide), fun l1 hl1 => ?_⟩
          have nl1 : l1 ≠ s0 := x3.1.ne hl1
          have x4 := x3.new (o := .lst (nms.map vC)) hl1
          refine ⟨s0, l1, nms.map vC, rfl, x4.1, .inl (.inl upd_same), nl1, by decide, by decide, fun j v H5 hj x5 => ?_⟩
          obtain ⟨c, hc, rfl⟩ : ∃ c, c ∈ nms ∧ v = vC c := by
            obtain ⟨c, hc, e⟩ := List.mem_map.mp (List.mem_of_getElem? hj)
            exact ⟨c, hc, e.symm⟩
          have x6 : Ext s0 H H5 := x4.trans x5
          refine ⟨_, rfl, _, _, rfl, rfl, _, rfl, ?_⟩
          refine ite2 (fun e => ?_) (fun e => ?_)
          · have hd0 : 0 < d := by
              have := of_decide_eq_true e
              omega
            refine ⟨_, rfl, s0, 3, rfl, by decide, by decide, x6.1, fun g2 H6 _ _ x7 => ?_⟩
            refine ⟨rfl, _, rfl, ?_⟩
            refine ite2 (fun e2 => ?_) (fun e2 => ?_)
            · refine ⟨_, rfl, _, rfl, _, _, rfl, rfl, tm_go (d := d - 1) (by show V.int ((d : Int) - 1) = _; rw [show ((d : Int) - 1) = ((d - 1 : Nat) : Int) by omega]) (by omega) (by omega) x7.1 fun t H7 ht htl x8 => ?_⟩
              have l1' : (SW t).length = t.length := rfl
              have hdd : lenB (d - 1) + 2 = L := by
                rw [hL, if_neg (by omega)]
              refine ⟨_, _, rfl, rfl, ?_, _, _, rfl, rfl, ?_, ?_⟩
              · show 1 + t.length ≤ sizeLine
                exact Nat.le_trans (show 1 + t.length ≤ 100001 by omega) (by decide)
              · show (("(" : Str) ++ SW t).length + 1 ≤ sizeLine
                rw [show ("(" : Str) = SW [40] by decide, sw_app]
                show ([40] ++ t).length + 1 ≤ sizeLine
                rw [List.length_append]
                exact Nat.le_trans (show 1 + t.length + 1 ≤ 100002 by omega) (by decide)
              · unfold gName
                dsimp only
                refine go _ _ ?_
                refine ⟨40 :: (t ++ [41]), ?_, pw_par ht, ?_, (x6.trans x7).trans x8⟩
                · rw [show ("(" : Str) = SW [40] by decide, show (")" : Str) = SW [41] by decide, sw_app, sw_app]
                  rfl
                · simp only [List.length_cons, List.length_append, List.length_nil]
                  omega
            · unfold tNext
              dsimp only
              refine go _ _ ?_
              exact ⟨[c], rfl, pw_name hc, hL1, x6.trans x7⟩
          · refine iteF ?_
            unfold tNext
            dsimp only
            refine go _ _ ?_
            exact ⟨[c], rfl, pw_name hc, hL1, x6⟩
        case second =>
          rintro σ1 H6 ⟨o, rfl, ho, hol, x6⟩
          refine ⟨_, rfl, _, rfl, _, _, rfl, rfl, ?_, ?_⟩
          · show u.length + o.length ≤ sizeLine
            exact Nat.le_trans (show u.length + o.length ≤ 300000 by omega) (by decide)
          refine ⟨_, rfl, (by show 6 ≤ sizeLine; decide), fun l2 hl2 => ?_⟩
          have nl2 : l2 ≠ s0 := x6.1.ne hl2
          have x7 := x6.new (o := .lst (ops.map fun o => V.str (SW o))) hl2
          refine ⟨s0, l2, ops.map fun o => V.str (SW o), rfl, x7.1, .inl (.inl upd_same), nl2, by decide, by decide, fun j v H7 hj x8 => ?_⟩
          obtain ⟨o2, ho2, rfl⟩ : ∃ o2, o2 ∈ ops ∧ v = V.str (SW o2) := by
            obtain ⟨c, hc, e⟩ := List.mem_map.mp (List.mem_of_getElem? hj)
            exact ⟨c, hc, e.symm⟩
          have l2' := ops_len ho2
          refine ⟨_, _, rfl, rfl, ?_, ?_⟩
          · rw [sw_app]
            show (u ++ o).length + o2.length ≤ sizeLine
            rw [List.length_append]
            exact Nat.le_trans (show u.length + o.length + o2.length ≤ 300003 by omega) (by decide)
          · have es : SW u ++ SW o ++ SW o2 = SW (u ++ o ++ o2) := by rw [sw_app u o, sw_app (u ++ o) o2]
            refine ⟨u ++ o ++ o2, _, _, by rw [es]; rfl, fun h => absurd h (by omega), fun _ => ?_, ?_, x7.trans x8⟩
            · rw [List.append_assoc]
              have hoo := pw_ops ho ho2
              cases i with
              | zero =>
                rw [hu0 rfl]
                exact hoo
              | succ i =>
                intro m d s hm
                rw [run_app, hu1 (by omega) m d s hm]
                exact hoo fac d s (by decide)
            · simp only [List.length_append]
              have : (i + 1) * (L + 3) = i * (L + 3) + (L + 3) := Nat.succ_mul _ _
              omega
      · rintro σ H3 ⟨u, y3, y4, rfl, hu0, hu1, hul, x3⟩
        have et : ((1 + (kn : Int))).toNat = 1 + kn := by omega
        rw [et] at hul hu1
        have hp := hu1 (by omega)
        refine ⟨_, rfl, q u H3 (fun d s => ⟨fac, by decide, hp beg d s (by decide)⟩) ?_ x3⟩
        have : (1 + kn) * (L + 3) ≤ 3 * (L + 3) := Nat.mul_le_mul_right _ (by omega)
        omega
theorem ok_law_term (T : Tx K mg) : ∀ n : Nat, FnR P w K mg base (n + 2) T.law_term.f T.law_term.fd ["source", "deep"] (spTm n)
  | 0 => by
    have no : ∀ vs H Q E, spTm 0 vs H Q E → False := fun vs H Q E h => by
      unfold spTm at h
      obtain ⟨_, _, _, h, _⟩ := h
      exact absurd h (Nat.not_lt_zero _)
    exact ⟨fun vs H Q E h => (no _ _ _ _ h).elim, fun A outer s H args us vs Q E _ _ _ _ h => (no _ _ _ _ h).elim⟩
  | n + 1 => ok_law_term1 T n (ok_law_term T n)
end
end Wf
namespace Wf
open PySem PySem.Spec PyProof.Rows L2
open Mood
theorem cutS_hi {z : Str} {a : Nat} : (cutS z none (some (a : Int))).length ≤ a := by
  unfold cutS
  rw [HT.sIx_nat]
  show (List.toArray _).size ≤ a
  rw [List.size_toArray, List.length_take]
  omega
theorem cutS_lo {z : Str} {a : Nat} : (cutS z (some (a : Int)) none).length ≤ z.length - a := by
  unfold cutS
  rw [HT.sIx_nat]
  show (List.toArray _).size ≤ _
  rw [List.size_toArray, List.length_take, List.length_drop]
  have hl : z.cps.toList.length = z.length := Array.length_toList
  omega
section
variable {P : Program} {w : World} {K : PySem.W.Frag} {mg : Str → Option Value} {base : Heap}
theorem same_trans {A B C : Hp} (h : Same A B) (g : Same B C) : Same A C := fun b o z => g _ _ (h _ _ z)
/-- the answer for a text -/
def Ans (H : Hp) (z : Str) (a : V) : Prop := (∃ k, fault z.cps.toList = some k ∧ a = .int (k : Nat)) ∨ (fault z.cps.toList = none ∧ ∃ t, a = .ref t ∧ H t = some (.tup ((namesIn z.cps.toList).map V.str)))
theorem Ans.same {H H' : Hp} {z : Str} {a : V} (s : Same H H') (h : Ans H z a) : Ans H' z a := by
  rcases h with h | ⟨h, t, e, ht⟩
  · exact .inl h
  · exact .inr ⟨h, t, e, s _ _ ht⟩
theorem names_ok (u : Wd) : ∀ x ∈ namesIn u, PyData.strOk x = true := by
  intro x hx
  obtain ⟨c, hc, rfl⟩ := List.mem_map.mp hx
  have h := (List.mem_filter.mp hc).1
  have : ∀ c ∈ nms, PyData.strOk (⟨#[c]⟩ : Str) = true := by decide +kernel
  exact this c h
theorem shaped_tup {xs : List Str} (h : ∀ x ∈ xs, PyData.strOk x = true) : SeqAt.shaped (.tuple (xs.map PyData.str)) = true := by
  unfold SeqAt.shaped
  rw [PyData.canLay0, lay_strs xs h, PyData.depth, depth_strs]
  rfl
theorem eqv_tup (xs ys : List Str) : PyData.eqv (.tuple (xs.map PyData.str)) (.tuple (ys.map PyData.str)) = decide (xs = ys) := by
  rw [PyData.eqv]
  exact eqv_strs xs ys
theorem shaped_int (i : Int) : SeqAt.shaped (.int i) = true := by
  unfold SeqAt.shaped
  rw [PyData.canLay0, PyData.depth]
  rfl
theorem eqv_int (i j : Int) : PyData.eqv (.int i) (.int j) = decide (i = j) := by
  rw [PyData.eqv]
  rfl
theorem ans_eq {H : Hp} {z : Str} {a b : V} (h : Ans H z a) (g : Ans H z b) : ∃ d, Dp K H a d ∧ Dp K H b d ∧ SeqAt.shaped d = true ∧ PyData.eqv d d = true := by
  rcases h with ⟨k, h, rfl⟩ | ⟨h, t, rfl, ht⟩
  · rcases g with ⟨k2, g, rfl⟩ | ⟨g, _⟩
    · rw [h] at g
      cases g
      exact ⟨_, .int _, .int _, shaped_int _, by rw [eqv_int]; exact decide_eq_true rfl⟩
    · rw [h] at g
      cases g
  · rcases g with ⟨k2, g, rfl⟩ | ⟨g, t2, rfl, ht2⟩
    · rw [h] at g
      cases g
    · exact ⟨.tuple ((namesIn z.cps.toList).map PyData.str), .tup (.inl (.inl ht)) (dp_strs _), .tup (.inl (.inl ht2)) (dp_strs _), shaped_tup (names_ok _), by rw [eqv_tup]; exact decide_eq_true rfl⟩
theorem asText_str {H : Hp} {z : Str} (hz : z.length ≤ sizeLine) : AsText K H (.str z) := ⟨.type "str", true, .base (.str _), by rfl, fun _ => ⟨z, rfl, hz⟩, fun q => nomatch q⟩
theorem said_go {z : Str} {H : Hp} {Q : VK} {E : XK} (hz : z.length ≤ 200) (q : ∀ a H', Same H H' → Ans H' z a → Q a H') : spSaid K [.str z] H Q E := by
  unfold spSaid
  refine ⟨_, rfl, asText_str (Nat.le_trans hz (by decide)), fun h => ?_, fun y e hy => ?_⟩
  · have : decide (z.length ≤ 200) = false := h
    rw [decide_eq_true hz] at this
    cases this
  · cases e
    exact ⟨fun k H' hk sm => q _ H' sm (.inl ⟨k, hk, rfl⟩), fun hn t H' sm ht => q _ H' sm (.inr ⟨hn, t, rfl, ht⟩)⟩
theorem said_odd {x : V} {H : Hp} {Q : VK} {E : XK} (hx : AsText K H x) (hn : isT x = false) (q : ∀ H', Same H H' → Q (.int (-1)) H') : spSaid K [x] H Q E := by
  unfold spSaid
  refine ⟨x, rfl, hx, fun _ => q, fun y e hy => ?_⟩
  rw [e] at hn
  have : decide (y.length ≤ 200) = false := hn
  rw [decide_eq_true hy] at this
  cases this
theorem due_ans {z : Str} {H : Hp} {Q : VK} {E : XK} (hz : z.length ≤ sizeLine) (q : ∀ a H', Same H H' → Ans H' z a → Q a H') : spDue [.str z] H Q E :=
  due_go hz (fun k H' hk sm => q _ H' sm (.inl ⟨k, hk, rfl⟩)) fun hn t H' sm ht => q _ H' sm (.inr ⟨hn, t, rfl, ht⟩)
theorem fault_two {u v : Wd} (h : IsTm u) (g : IsTm v) : fault (u ++ [61] ++ v) = none := by
  obtain ⟨m, hb, hrun⟩ := h 0 false
  obtain ⟨m2, hb2, hrun2⟩ := g 0 true
  unfold fault
  have e1 : run (beg, 0, false) (u ++ [61] ++ v) = some (m2, 0, true) := by
    rw [run_app, run_app, hrun]
    show ((run (m, 0, false) [61]).bind _) = _
    rw [run_one]
    have : opn m 0 false 61 = true := by
      unfold opn
      rw [if_neg hb]
      rfl
    rw [if_pos this]
    exact hrun2
  rw [fault_end _ 0 _ _ e1]
  have : whole (m2, 0, true) = true := by
    show (true && decide (0 = 0) && decide (m2 ≠ beg)) = true
    rw [decide_eq_true hb2]
    rfl
  rw [this]
  rfl
def signL : List Str := ["", "1", "w", "z", "(", ")", "^", "~", "=", " ", "a", "X", "0", "*", "2"]
theorem signL_len : ∀ x ∈ signL, x.length ≤ 1 := by decide +kernel
def spRight : Sp := fun vs H Q _ => ∃ s, vs = [.ref s] ∧ Src H s ∧ ∀ H', Ext s H H' → Q (.bl true) H'
theorem ok_law_right (T : Tx K mg) : FnR P w K mg base 409 T.law_right.f T.law_right.fd ["source"] spRight := by
  have G_law_draw : FnR P w K mg base 1 T.law_draw.f T.law_draw.fd ["source", "many"] spDraw := ok_law_draw T
  have G_law_pick : FnR P w K mg base 2 T.law_pick.f T.law_pick.fd ["source", "some"] (spPick K) := ok_law_pick T
  have G_law_term : FnR P w K mg base 9 T.law_term.f T.law_term.fd ["source", "deep"] (spTm 7) := ok_law_term T 7
  have G_law_fault : FnR P w K mg base 2 T.law_fault.f T.law_fault.fd ["text"] spFault := ok_law_fault T
  have G_law_due : FnR P w K mg base 3 T.law_due.f T.law_due.fd ["text"] spDue := ok_law_due T
  have G_law_said : FnR P w K mg base 408 T.law_said.f T.law_said.fd ["text"] (spSaid K) := ok_law_said T
  refine fun_ok T.law_right.F sc_law_right (fun vs H Q E h => ?_) (fun cdv A outer s H vs Q E hr h => ?_)
  · obtain ⟨_, rfl, _⟩ := h
    rfl
  · obtain ⟨s0, rfl, hs, q⟩ := h
    refine ⟨_, (pss_cons (ps_set (i := 1) sc_law_right.nd rfl (Or.inl rfl) (pe_op op_add_str (pe_op op_add_str (pe_r G_law_term (hr.low (by decide)) (by rfl) T.law_term.g T.law_term.F.kp T.law_term.b (pa_cons (pv 0) (pa_cons pe_int pa_nil))) pe_str) (pe_r G_law_term (hr.low (by decide)) (by rfl) T.law_term.g T.law_term.F.kp T.law_term.b (pa_cons (pv 0) (pa_cons pe_int pa_nil)))))
      (pss_cons (ps_if (pt_cmpR op_gt (pe_callB call_len_str (by rfl) T.n_len PySem.boot_len (pa_cons (pv 1) pa_nil)) pe_int (nomark _)) (pss_one (ps_ret pe_bl)) pss_nil)
      (pss_cons (ps_if (PW.pt (pw_or (pt_cmpR op_notN (pe_r G_law_fault (hr.low (by decide)) (by rfl) T.law_fault.g T.law_fault.F.kp T.law_fault.b (pa_cons (pv 1) pa_nil)) pe_non (nomark _)) (pw_or1 (pt_cmpR (op_neK (K := K) rfl hr.units) (pe_r G_law_said (hr.low (by decide)) (by rfl) T.law_said.g T.law_said.F.kp T.law_said.b (pa_cons (pv 1) pa_nil)) (pe_r G_law_due (hr.low (by decide)) (by rfl) T.law_due.g T.law_due.F.kp T.law_due.b (pa_cons (pv 1) pa_nil)) (nomark _))))) (pss_one (ps_ret pe_bl)) pss_nil)
      (pss_cons (ps_for PassesOwn.never rfl (pi_range1 (by rfl) T.n_range (pa_cons pe_int pa_nil)) (pg_name (i := 2) sc_law_right.nd rfl (.inl rfl)) (pss_cons (ps_set (i := 3) sc_law_right.nd rfl (Or.inl rfl) (pe_r G_law_draw (hr.low (by decide)) (by rfl) T.law_draw.g T.law_draw.F.kp T.law_draw.b (pa_cons (pv 0) (pa_cons (pe_op op_add (pe_callB call_len_str (by rfl) T.n_len PySem.boot_len (pa_cons (pv 1) pa_nil)) pe_int) pa_nil))))
      (pss_cons (ps_set (i := 4) sc_law_right.nd rfl (Or.inl rfl) (pe_r G_law_pick (hr.low (by decide)) (by rfl) T.law_pick.g T.law_pick.F.kp T.law_pick.b (pa_cons (pv 0) (pa_cons (pe_lst (pa_cons pe_str (pa_cons pe_str (pa_cons pe_str (pa_cons pe_str (pa_cons pe_str (pa_cons pe_str (pa_cons pe_str (pa_cons pe_str (pa_cons pe_str (pa_cons pe_str (pa_cons pe_str (pa_cons pe_str (pa_cons pe_str (pa_cons pe_str (pa_cons pe_str pa_nil)))))))))))))))) pa_nil))))
      (pss_cons (ps_set (i := 5) sc_law_right.nd rfl (Or.inl rfl) (pe_op op_add_str (pe_op op_add_str (pe_slice sl_str (pv 1) po_none (po_some (pv 3))) (pv 4)) (pe_slice sl_str (pv 1) (po_some (pe_op op_add (pv 3) (pe_r G_law_draw (hr.low (by decide)) (by rfl) T.law_draw.g T.law_draw.F.kp T.law_draw.b (pa_cons (pv 0) (pa_cons pe_int pa_nil))))) po_none)))
      (pss_one (ps_if (PW.pt (pw_or (pt_cmpR (op_neK (K := K) rfl hr.units) (pe_r G_law_said (hr.low (by decide)) (by rfl) T.law_said.g T.law_said.F.kp T.law_said.b (pa_cons (pv 5) pa_nil)) (pe_r G_law_due (hr.low (by decide)) (by rfl) T.law_due.g T.law_due.F.kp T.law_due.b (pa_cons (pv 5) pa_nil)) (nomark _)) (pw_or1 (pt_cmpR (op_neK (K := K) rfl hr.units) (pe_r G_law_said (hr.low (by decide)) (by rfl) T.law_said.g T.law_said.F.kp T.law_said.b (pa_cons (pe_slice sl_str (pv 1) po_none (po_some (pv 3))) pa_nil)) (pe_r G_law_due (hr.low (by decide)) (by rfl) T.law_due.g T.law_due.F.kp T.law_due.b (pa_cons (pe_slice sl_str (pv 1) po_none (po_some (pv 3))) pa_nil)) (nomark _))))) (pss_one (ps_ret pe_bl)) pss_nil))))))
      (pss_one (ps_ret pe_bl)))))), ?_⟩
    refine ⟨_, rfl, tm_go (d := 6) rfl (by decide) (by decide) hs fun u H1 hu hul x1 => ?_⟩
    have hB : lenB 6 ≤ 100000 := (lenB_le 6 (by decide)).2
    refine ⟨_, _, rfl, rfl, ?_, ?_⟩
    · show u.length + 1 ≤ sizeLine
      exact Nat.le_trans (show u.length + 1 ≤ 100001 by omega) (by decide)
    refine ⟨_, rfl, tm_go (d := 6) rfl (by decide) (by decide) x1.1 fun v H2 hv hvl x2 => ?_⟩
    have es : SW u ++ "=" ++ SW v = SW (u ++ [61] ++ v) := by
      rw [show ("=" : Str) = SW [61] by decide, sw_app u [61], sw_app (u ++ [61]) v]
    have hfz : fault (SW (u ++ [61] ++ v)).cps.toList = none := fault_two hu hv
    have hzl0 : (SW (u ++ [61] ++ v)).length ≤ 200002 := by
      show (u ++ [61] ++ v).length ≤ 200002
      simp only [List.length_append, List.length_singleton]
      omega
    refine ⟨_, _, rfl, rfl, ?_, ?_⟩
    · rw [show ("=" : Str) = SW [61] by decide, sw_app]
      show (u ++ [61]).length + v.length ≤ sizeLine
      rw [List.length_append, List.length_singleton]
      exact Nat.le_trans (show u.length + 1 + v.length ≤ 200002 by omega) (by decide)
    rw [es]
    generalize SW (u ++ [61] ++ v) = z at hfz hzl0
    have x12 := x1.trans x2
    refine ⟨_, rfl, z, rfl, Nat.le_trans hzl0 (by decide), _, _, rfl, rfl, _, rfl, ?_⟩
    refine ite2 (fun e => ?_) (fun e => ?_)
    · exact q H2 x12
    · have hz : z.length ≤ 180 := by
        have : ¬ (180 : Int) < (z.length : Nat) := fun q => e (decide_eq_true q)
        omega
      refine ⟨_, rfl, fault_go (Nat.le_trans hz (by decide)) fun H3 sm3 => ?_⟩
      unfold faultV
      rw [hfz]
      refine ⟨rfl, _, rfl, iteF ?_⟩
      have x123 := x12.same sm3
      refine ⟨_, rfl, said_go (Nat.le_trans hz (by decide)) fun a H4 sm4 ha => ⟨_, rfl, due_ans (Nat.le_trans hz (by decide)) fun b H5 sm5 hb => ?_⟩⟩
      obtain ⟨dt, d1, d2, sh, ev⟩ := ans_eq (K := K) (ha.same sm5) hb
      refine ⟨dt, dt, d1, d2, sh, sh, _, rfl, ?_⟩
      rw [ev]
      refine iteF ?_
      have x5 := (x123.same sm4).same sm5
      refine ⟨_, rfl, by omega, by omega, ?_⟩
      refine for_it (walk_range (lo := 0)) (fun i σ H6 => ∃ y2 y3 y4 y5, σ = [some (.ref s0), some (.str z), y2, y3, y4, y5] ∧ Ext s0 H H6) ⟨none, none, none, none, rfl, x5⟩ (fun _ _ _ _ _ => True.intro) ?_ ?_
      · rintro i x σ H6 H7 hi ⟨y2, y3, y4, y5, rfl, x6⟩ ⟨rfl, rfl⟩
        refine ⟨_, rfl, _, rfl, z, rfl, Nat.le_trans hz (by decide), _, _, rfl, rfl, s0, _, rfl, by omega, by omega, x6.1, fun g H8 g0 g1 x7 => ?_⟩
        obtain ⟨gn, rfl, hgn⟩ : ∃ gn : Nat, g = (gn : Int) ∧ gn ≤ z.length := ⟨g.toNat, by omega, by omega⟩
        have x8 := x6.trans x7
        refine ⟨_, rfl, (by show 15 ≤ sizeLine; decide), fun l hl => ?_⟩
        have nl := x8.1.ne hl
        have x9 := x8.new (o := .lst (signL.map V.str)) hl
        refine ⟨s0, l, signL.map V.str, rfl, x9.1, .inl (.inl upd_same), nl, by decide, by decide, fun j v H9 hj x10 => ?_⟩
        obtain ⟨sg, hsg, rfl⟩ : ∃ sg, sg.length ≤ 1 ∧ v = V.str sg := by
          obtain ⟨c, hc, e⟩ := List.mem_map.mp (List.mem_of_getElem? hj)
          exact ⟨c, signL_len c hc, e.symm⟩
        have x11 := x9.trans x10
        have lhi : (cutS z none (some (gn : Int))).length ≤ gn := cutS_hi
        refine ⟨_, rfl, _, rfl, _, rfl, z, rfl, Nat.le_trans hz (by decide), _, rfl, _, _, rfl, rfl, Nat.le_trans (show _ + sg.length ≤ 181 by omega) (by decide), ?_⟩
        refine ⟨_, rfl, _, rfl, _, rfl, s0, 2, rfl, by decide, by decide, x11.1, fun g2 H10 g20 g21 x12' => ?_⟩
        obtain ⟨gm, rfl, hgm⟩ : ∃ gm : Nat, g2 = (gm : Int) ∧ gm < 2 := ⟨g2.toNat, by omega, by omega⟩
        have x13 := x11.trans x12'
        have elo : ((gn : Int) + (gm : Int)) = ((gn + gm : Nat) : Int) := by omega
        have llo : (cutS z (some ((gn : Int) + (gm : Int))) none).length ≤ z.length - gn := by
          rw [elo]
          exact Nat.le_trans cutS_lo (by omega)
        have lh2 : (cutS z none (some (gn : Int)) ++ sg).length ≤ gn + 1 := by
          have : (cutS z none (some (gn : Int)) ++ sg).length = (cutS z none (some (gn : Int))).length + sg.length := Array.size_append
          omega
        have lb : (cutS z none (some (gn : Int)) ++ sg ++ cutS z (some ((gn : Int) + (gm : Int))) none).length ≤ 200 := by
          have : (cutS z none (some (gn : Int)) ++ sg ++ cutS z (some ((gn : Int) + (gm : Int))) none).length = (cutS z none (some (gn : Int)) ++ sg).length + (cutS z (some ((gn : Int) + (gm : Int))) none).length := Array.size_append
          omega
        refine ⟨_, _, rfl, rfl, _, rfl, z, rfl, Nat.le_trans hz (by decide), _, _, rfl, rfl, Nat.le_trans (show _ + _ ≤ 400 by omega) (by decide), ?_⟩
        generalize cutS z none (some (gn : Int)) ++ sg ++ cutS z (some ((gn : Int) + (gm : Int))) none = bent at lb
        refine ⟨_, rfl, said_go lb fun a1 H11 sm11 ha1 => ⟨_, rfl, due_ans (Nat.le_trans lb (by decide)) fun b1 H12 sm12 hb1 => ?_⟩⟩
        obtain ⟨dt1, d11, d12, sh1, ev1⟩ := ans_eq (K := K) (ha1.same sm12) hb1
        refine ⟨dt1, dt1, d11, d12, sh1, sh1, _, rfl, ?_⟩
        rw [ev1]
        refine iteF ?_
        have lp : (cutS z none (some (gn : Int))).length ≤ 200 := by omega
        refine ⟨_, rfl, _, rfl, _, rfl, z, rfl, Nat.le_trans hz (by decide), said_go lp fun a2 H13 sm13 ha2 => ?_⟩
        refine ⟨_, rfl, _, rfl, _, rfl, z, rfl, Nat.le_trans hz (by decide), due_ans (Nat.le_trans lp (by decide)) fun b2 H14 sm14 hb2 => ?_⟩
        obtain ⟨dt2, d21, d22, sh2, ev2⟩ := ans_eq (K := K) (ha2.same sm14) hb2
        refine ⟨dt2, dt2, d21, d22, sh2, sh2, _, rfl, ?_⟩
        rw [ev2]
        refine iteF ?_
        exact ⟨_, _, _, _, rfl, (((x13.same sm11).same sm12).same sm13).same sm14⟩
      · rintro σ H6 ⟨y2, y3, y4, y5, rfl, x6⟩
        exact q H6 x6
end
end Wf
namespace Wf
open PySem PySem.Spec PyProof.Rows L2
open Mood
def tStrs : List Str → TA
  | [] => tNil
  | n :: ns => tCons (tC (.str n)) (tStrs ns)
theorem strs_go (σ : L2.St) : ∀ (ns : List Str) (H : Hp) (R : List V → Hp → Prop), R (ns.map V.str) H → tStrs ns σ H R
  | [], H, R, h => h
  | n :: ns, H, R, h => strs_go σ ns H (fun vs H1 => R (.str n :: vs) H1) h
section
variable {P : Program} {w : World} {K : PySem.W.Frag} {mg : Str → Option Value} {base : Heap}
theorem ans_tup {H : Hp} {z : Str} {a : V} {ns : List Str} (h : Ans H z a) (h1 : fault z.cps.toList = none) (h2 : namesIn z.cps.toList = ns) : Dp K H a (.tuple (ns.map PyData.str)) := by
  rcases h with ⟨k, h, rfl⟩ | ⟨h, t, rfl, ht⟩
  · rw [h1] at h
    cases h
  · rw [h2] at ht
    exact .tup (.inl (.inl ht)) (dp_strs _)
theorem ans_int {H : Hp} {z : Str} {a : V} {k : Nat} (h : Ans H z a) (h1 : fault z.cps.toList = some k) : a = .int (k : Nat) := by
  rcases h with ⟨k2, h, rfl⟩ | ⟨h, _⟩
  · rw [h1] at h
    cases h
    rfl
  · rw [h1] at h
    cases h
/-- a text and what is due for it -/
def Pair (K : PySem.W.Frag) (H : Hp) (v : V) : Prop := ∃ (p : Addr) (z : Str) (x : V) (d : PyData), v = .ref p ∧ H p = some (.tup [.str z, x]) ∧ z.length ≤ 200 ∧ Dp K H x d ∧ SeqAt.shaped d = true ∧
  ∀ a H', Ans H' z a → ∃ e, Dp K H' a e ∧ SeqAt.shaped e = true ∧ PyData.eqv e d = true
theorem Pair.same {H H' : Hp} {v : V} (s : Same H H') (h : Pair K H v) : Pair K H' v := by
  obtain ⟨p, z, x, d, e, hp, hz, hd, r⟩ := h
  exact ⟨p, z, x, d, e, s _ _ hp, hz, dp_same s hd, r⟩
theorem lit {σ : L2.St} (z : Str) (ns : List Str) (hz : z.length ≤ 200) (hn : ns.length ≤ 4) (hs : ∀ x ∈ ns, PyData.strOk x = true) (h1 : fault z.cps.toList = none) (h2 : namesIn z.cps.toList = ns) (H : Hp) (R : V → Hp → Prop) (h : ∀ v H', Same H H' → Pair K H' v → R v H') :
    tTup (tCons (tC (.str z)) (tCons (tTup (tStrs ns)) tNil)) σ H R := by
  refine strs_go σ ns H _ ⟨?_, fun t ht => ?_⟩
  · rw [List.length_map]
    exact Nat.le_trans hn (by decide)
  refine ⟨(by show 2 ≤ sizeLine; decide), fun p hp => ?_⟩
  have htp : t ≠ p := ne_of_none upd_same hp
  refine h _ _ (same_trans (same_new ht) (same_new hp)) ⟨p, z, .ref t, _, rfl, upd_same, hz, .tup (.inl (.inl (by rw [upd_ne htp, upd_same]))) (dp_strs ns), shaped_tup hs, fun a H' ha => ⟨_, ans_tup ha h1 h2, shaped_tup hs, ?_⟩⟩
  rw [eqv_tup]
  exact decide_eq_true rfl
theorem liti {σ : L2.St} (z : Str) (k : Nat) (hz : z.length ≤ 200) (h1 : fault z.cps.toList = some k) (H : Hp) (R : V → Hp → Prop) (h : ∀ v H', Same H H' → Pair K H' v → R v H') :
    tTup (tCons (tC (.str z)) (tCons (tC (.int (k : Nat))) tNil)) σ H R := by
  refine ⟨(by show 2 ≤ sizeLine; decide), fun p hp => ?_⟩
  refine h _ _ (same_new hp) ⟨p, z, .int (k : Nat), _, rfl, upd_same, hz, .int _, shaped_int _, fun a H' ha => ?_⟩
  rw [ans_int ha h1]
  exact ⟨_, .int _, shaped_int _, by rw [eqv_int]; exact decide_eq_true rfl⟩
/-- so many pairs, one behind another -/
def Pairs (K : PySem.W.Frag) (ta : TA) (n : Nat) : Prop := ∀ (σ : L2.St) (H : Hp) (R : List V → Hp → Prop), (∀ vs H', Same H H' → vs.length = n → (∀ v ∈ vs, Pair K H' v) → R vs H') → ta σ H R
theorem pairs_nil : Pairs K tNil 0 := fun σ H R h => h [] H (Same.refl H) rfl fun _ q => absurd q (by simp)
theorem pairs_cons {te : TE} {ta : TA} {n : Nat} (h1 : ∀ (σ : L2.St) (H : Hp) (R : V → Hp → Prop), (∀ v H', Same H H' → Pair K H' v → R v H') → te σ H R) (h2 : Pairs K ta n) : Pairs K (tCons te ta) (n + 1) := by
  intro σ H R h
  refine h1 σ H _ fun v H1 sm hv => ?_
  refine h2 σ H1 _ fun vs H2 sm2 hl hvs => ?_
  refine h (v :: vs) H2 (same_trans sm sm2) (by rw [List.length_cons, hl]) fun x hx => ?_
  rcases List.mem_cons.mp hx with rfl | hx
  · exact hv.same sm2
  · exact hvs x hx
theorem pairs_lst {ta : TA} {n : Nat} (hp : Pairs K ta n) (hn : n ≤ 100) (σ : L2.St) (H : Hp) (R : V → Hp → Prop) (h : ∀ l vs H', Same H H' → H' l = some (.lst vs) → vs.length = n → (∀ v ∈ vs, Pair K H' v) → R (.ref l) H') : tLst ta σ H R := by
  refine hp σ H _ fun vs H1 sm hl hvs => ⟨Nat.le_trans (by omega) (show 100 ≤ sizeLine by decide), fun l hl1 => ?_⟩
  exact h l vs _ (same_trans sm (same_new hl1)) upd_same hl fun v hv => (hvs v hv).same (same_new hl1)
theorem cons_cons {te te' : TE} {ta ta' : TA} {σ : L2.St} {H : Hp} {R : List V → Hp → Prop} (h : te σ H fun v H1 => ta σ H1 fun vs H2 => R (v :: vs) H2) : tCons te ta σ H R := h
@[irreducible] def spLong : Sp := fun vs H Q _ => vs = [] ∧ ∀ H', Same H H' → Q (.bl true) H'
theorem long_go {H : Hp} {Q : VK} {E : XK} (q : ∀ H', Same H H' → Q (.bl true) H') : spLong [] H Q E := by
  unfold spLong
  exact ⟨rfl, q⟩
theorem ne_tup {x y : V} {H : Hp} {Q : VK} {ns : List Str} (hx : Dp K H x (.tuple (ns.map PyData.str))) (hy : Dp K H y (.tuple (ns.map PyData.str))) (hs : ∀ x ∈ ns, PyData.strOk x = true) (q : Q (.bl false) H) : rNeD K x y H Q :=
  ⟨_, _, hx, hy, shaped_tup hs, shaped_tup hs, by rw [eqv_tup, decide_eq_true rfl]; exact q⟩
theorem ne_int {x : V} {i : Int} {H : Hp} {Q : VK} (e : x = .int i) (q : Q (.bl false) H) : rNeD K x (.int i) H Q := by
  subst e
  exact ⟨_, _, .int i, .int i, shaped_int i, shaped_int i, by rw [eqv_int, decide_eq_true rfl]; exact q⟩
theorem pairs_a : Pairs K (tCons (tTup (tCons (tC (.str "1=1")) (tCons (tTup tNil) tNil)))
    (tCons (tTup (tCons (tC (.str "(1)^=(1)~")) (tCons (tTup tNil) tNil)))
    (tCons (tTup (tCons (tC (.str "zw=xy")) (tCons (tTup (tCons (tC (.str "w")) (tCons (tC (.str "x")) (tCons (tC (.str "y")) (tCons (tC (.str "z")) tNil))))) tNil)))
    (tCons (tTup (tCons (tC (.str "")) (tCons (tC (.int 0)) tNil)))
    (tCons (tTup (tCons (tC (.str "=")) (tCons (tC (.int 0)) tNil)))
    (tCons (tTup (tCons (tC (.str "x=")) (tCons (tC (.int 2)) tNil)))
    (tCons (tTup (tCons (tC (.str "x")) (tCons (tC (.int 1)) tNil)))
    tNil))))))) 7 :=
    (pairs_cons (fun σ => lit (σ := σ) "1=1" [] (by decide +kernel) (by decide) (by decide +kernel) (by decide +kernel) (by decide +kernel))
      (pairs_cons (fun σ => lit (σ := σ) "(1)^=(1)~" [] (by decide +kernel) (by decide) (by decide +kernel) (by decide +kernel) (by decide +kernel))
      (pairs_cons (fun σ => lit (σ := σ) "zw=xy" ["w", "x", "y", "z"] (by decide +kernel) (by decide) (by decide +kernel) (by decide +kernel) (by decide +kernel))
      (pairs_cons (fun σ => liti (σ := σ) "" 0 (by decide +kernel) (by decide +kernel))
      (pairs_cons (fun σ => liti (σ := σ) "=" 0 (by decide +kernel) (by decide +kernel))
      (pairs_cons (fun σ => liti (σ := σ) "x=" 2 (by decide +kernel) (by decide +kernel))
      (pairs_cons (fun σ => liti (σ := σ) "x" 1 (by decide +kernel) (by decide +kernel))
      pairs_nil)))))))
theorem pairs_b : Pairs K (tCons (tTup (tCons (tC (.str "1x=x")) (tCons (tC (.int 1)) tNil)))
    (tCons (tTup (tCons (tC (.str "x1=x")) (tCons (tC (.int 1)) tNil)))
    (tCons (tTup (tCons (tC (.str "x==x")) (tCons (tC (.int 2)) tNil)))
    (tCons (tTup (tCons (tC (.str "x=x=x")) (tCons (tC (.int 3)) tNil)))
    (tCons (tTup (tCons (tC (.str "()=1")) (tCons (tC (.int 1)) tNil)))
    (tCons (tTup (tCons (tC (.str "^x=x")) (tCons (tC (.int 0)) tNil)))
    (tCons (tTup (tCons (tC (.str "x=1^")) (tCons (tC (.int 3)) tNil)))
    tNil))))))) 7 :=
    (pairs_cons (fun σ => liti (σ := σ) "1x=x" 1 (by decide +kernel) (by decide +kernel))
      (pairs_cons (fun σ => liti (σ := σ) "x1=x" 1 (by decide +kernel) (by decide +kernel))
      (pairs_cons (fun σ => liti (σ := σ) "x==x" 2 (by decide +kernel) (by decide +kernel))
      (pairs_cons (fun σ => liti (σ := σ) "x=x=x" 3 (by decide +kernel) (by decide +kernel))
      (pairs_cons (fun σ => liti (σ := σ) "()=1" 1 (by decide +kernel) (by decide +kernel))
      (pairs_cons (fun σ => liti (σ := σ) "^x=x" 0 (by decide +kernel) (by decide +kernel))
      (pairs_cons (fun σ => liti (σ := σ) "x=1^" 3 (by decide +kernel) (by decide +kernel))
      pairs_nil)))))))
theorem pairs_c : Pairs K (tCons (tTup (tCons (tC (.str "(x=x)")) (tCons (tC (.int 2)) tNil)))
    (tCons (tTup (tCons (tC (.str "x)=x")) (tCons (tC (.int 1)) tNil)))
    (tCons (tTup (tCons (tC (.str "(x=x")) (tCons (tC (.int 2)) tNil)))
    (tCons (tTup (tCons (tC (.str "x = x")) (tCons (tC (.int 1)) tNil)))
    (tCons (tTup (tCons (tC (.str "x=x ")) (tCons (tC (.int 3)) tNil)))
    (tCons (tTup (tCons (tC (.str "(1x)=x")) (tCons (tC (.int 2)) tNil)))
    tNil)))))) 6 :=
    (pairs_cons (fun σ => liti (σ := σ) "(x=x)" 2 (by decide +kernel) (by decide +kernel))
      (pairs_cons (fun σ => liti (σ := σ) "x)=x" 1 (by decide +kernel) (by decide +kernel))
      (pairs_cons (fun σ => liti (σ := σ) "(x=x" 2 (by decide +kernel) (by decide +kernel))
      (pairs_cons (fun σ => liti (σ := σ) "x = x" 1 (by decide +kernel) (by decide +kernel))
      (pairs_cons (fun σ => liti (σ := σ) "x=x " 3 (by decide +kernel) (by decide +kernel))
      (pairs_cons (fun σ => liti (σ := σ) "(1x)=x" 2 (by decide +kernel) (by decide +kernel))
      pairs_nil))))))
theorem odd_text {Y : Hp} {p1 p2 p3 p4 : Addr} {xs1 xs2 xs4 : List V} (e1 : Y p1 = some (.lst xs1)) (e2 : Y p2 = some (.tup xs2)) (e3 : Y p3 = some (.dK [])) (e4 : Y p4 = some (.lst xs4)) :
    ∀ X, Same Y X → ∀ x ∈ ([.non, .int 5, .ref p1, .ref p2, .bl true, .ref p3, .ref p4] : List V), AsText K X x ∧ isT x = false := by
  intro X sX x hx
  simp only [List.mem_cons, List.not_mem_nil, or_false] at hx
  rcases hx with rfl | rfl | rfl | rfl | rfl | rfl | rfl
  · exact ⟨⟨.type "NoneType", false, .base .non, by rfl, (fun q => nomatch q), fun _ => rfl⟩, rfl⟩
  · exact ⟨⟨.type "int", false, .base (.int _), by rfl, (fun q => nomatch q), fun _ => rfl⟩, rfl⟩
  · exact ⟨⟨.type "list", false, .base (.lst (sX _ _ e1)), by rfl, (fun q => nomatch q), fun _ => rfl⟩, rfl⟩
  · exact ⟨⟨.type "tuple", false, .base (.tup (sX _ _ e2)), by rfl, (fun q => nomatch q), fun _ => rfl⟩, rfl⟩
  · exact ⟨⟨.type "bool", false, .base (.bl _), by rfl, (fun q => nomatch q), fun _ => rfl⟩, rfl⟩
  · exact ⟨⟨.type "dict", false, .base (.dK (sX _ _ e3)), by rfl, (fun q => nomatch q), fun _ => rfl⟩, rfl⟩
  · exact ⟨⟨.type "list", false, .base (.lst (sX _ _ e4)), by rfl, (fun q => nomatch q), fun _ => rfl⟩, rfl⟩
theorem ok_law_long_right (T : Tx K mg) : FnR P w K mg base 409 T.law_long_right.f T.law_long_right.fd [] spLong := by
  have G_law_said : FnR P w K mg base 408 T.law_said.f T.law_said.fd ["text"] (spSaid K) := ok_law_said T
  refine fun_ok T.law_long_right.F sc_law_long_right (fun vs H Q E h => ?_) (fun cdv A outer s H vs Q E hr h => ?_)
  · unfold spLong at h
    obtain ⟨rfl, _⟩ := h
    rfl
  · unfold spLong at h
    obtain ⟨rfl, q⟩ := h
    refine ⟨_, (pss_cons (ps_set (i := 0) sc_law_long_right.nd rfl (Or.inl rfl) (pe_op op_add_str (pe_op op_add_str (pe_op op_add_str (pe_op op_rep_str pe_str pe_int) pe_str) (pe_op op_rep_str pe_str pe_int)) pe_str))
      (pss_cons (ps_if (PW.pt (pw_or (pt_cmpR (op_neK (K := K) rfl hr.units) (pe_r G_law_said (hr.low (by decide)) (by rfl) T.law_said.g T.law_said.F.kp T.law_said.b (pa_cons (pv 0) pa_nil)) (pe_tup (pa_cons pe_str pa_nil)) (nomark _)) (pw_or (pt_cmpR (op_neK (K := K) rfl hr.units) (pe_r G_law_said (hr.low (by decide)) (by rfl) T.law_said.g T.law_said.F.kp T.law_said.b (pa_cons (pe_op op_add_str pe_str (pe_op op_rep_str pe_str pe_int)) pa_nil)) (pe_tup (pa_cons pe_str pa_nil)) (nomark _)) (pw_or1 (pt_cmpR (op_neK (K := K) rfl hr.units) (pe_r G_law_said (hr.low (by decide)) (by rfl) T.law_said.g T.law_said.F.kp T.law_said.b (pa_cons (pe_op op_add_str pe_str (pe_op op_rep_str pe_str pe_int)) pa_nil)) (pe_un un_neg pe_int) (nomark _)))))) (pss_one (ps_ret pe_bl)) pss_nil)
      (pss_cons (ps_if (PW.pt (pw_or (pt_cmpR (op_neK (K := K) rfl hr.units) (pe_r G_law_said (hr.low (by decide)) (by rfl) T.law_said.g T.law_said.F.kp T.law_said.b (pa_cons (pe_op op_rep_str pe_str pe_int) pa_nil)) pe_int (nomark _)) (pw_or (pt_cmpR (op_neK (K := K) rfl hr.units) (pe_r G_law_said (hr.low (by decide)) (by rfl) T.law_said.g T.law_said.F.kp T.law_said.b (pa_cons (pe_op op_rep_str pe_str pe_int) pa_nil)) (pe_un un_neg pe_int) (nomark _)) (pw_or1 (pt_cmpR (op_neK (K := K) rfl hr.units) (pe_r G_law_said (hr.low (by decide)) (by rfl) T.law_said.g T.law_said.F.kp T.law_said.b (pa_cons (pe_op op_add_str pe_str (pe_op op_rep_str pe_str pe_int)) pa_nil)) (pe_tup (pa_cons pe_str pa_nil)) (nomark _)))))) (pss_one (ps_ret pe_bl)) pss_nil)
      (pss_cons (ps_for PassesOwn.never rfl (pi_tup (pe_tup (pa_cons pe_non (pa_cons pe_int (pa_cons (pe_lst (pa_cons pe_str pa_nil)) (pa_cons (pe_tup (pa_cons pe_str (pa_cons pe_str pa_nil))) (pa_cons pe_bl (pa_cons pe_dnewK (pa_cons (pe_lst (pa_cons pe_int pa_nil)) pa_nil))))))))) (pg_name (i := 1) sc_law_long_right.nd rfl (.inl rfl)) (pss_one (ps_if (pt_cmpR (op_neK (K := K) rfl hr.units) (pe_r G_law_said (hr.low (by decide)) (by rfl) T.law_said.g T.law_said.F.kp T.law_said.b (pa_cons (pv 1) pa_nil)) (pe_un un_neg pe_int) (nomark _)) (pss_one (ps_ret pe_bl)) pss_nil)))
      (pss_cons (ps_set (i := 2) sc_law_long_right.nd rfl (Or.inl rfl) (pe_lst (pa_cons (pe_tup (pa_cons pe_str (pa_cons (pe_tup pa_nil) pa_nil))) (pa_cons (pe_tup (pa_cons pe_str (pa_cons (pe_tup pa_nil) pa_nil))) (pa_cons (pe_tup (pa_cons pe_str (pa_cons (pe_tup (pa_cons pe_str (pa_cons pe_str (pa_cons pe_str (pa_cons pe_str pa_nil))))) pa_nil))) (pa_cons (pe_tup (pa_cons pe_str (pa_cons pe_int pa_nil))) (pa_cons (pe_tup (pa_cons pe_str (pa_cons pe_int pa_nil))) (pa_cons (pe_tup (pa_cons pe_str (pa_cons pe_int pa_nil))) (pa_cons (pe_tup (pa_cons pe_str (pa_cons pe_int pa_nil))) pa_nil)))))))))
      (pss_cons (ps_set (i := 2) sc_law_long_right.nd rfl (Or.inl rfl) (pe_op op_catS (pv 2) (pe_lst (pa_cons (pe_tup (pa_cons pe_str (pa_cons pe_int pa_nil))) (pa_cons (pe_tup (pa_cons pe_str (pa_cons pe_int pa_nil))) (pa_cons (pe_tup (pa_cons pe_str (pa_cons pe_int pa_nil))) (pa_cons (pe_tup (pa_cons pe_str (pa_cons pe_int pa_nil))) (pa_cons (pe_tup (pa_cons pe_str (pa_cons pe_int pa_nil))) (pa_cons (pe_tup (pa_cons pe_str (pa_cons pe_int pa_nil))) (pa_cons (pe_tup (pa_cons pe_str (pa_cons pe_int pa_nil))) pa_nil))))))))))
      (pss_cons (ps_set (i := 2) sc_law_long_right.nd rfl (Or.inl rfl) (pe_op op_catS (pv 2) (pe_lst (pa_cons (pe_tup (pa_cons pe_str (pa_cons pe_int pa_nil))) (pa_cons (pe_tup (pa_cons pe_str (pa_cons pe_int pa_nil))) (pa_cons (pe_tup (pa_cons pe_str (pa_cons pe_int pa_nil))) (pa_cons (pe_tup (pa_cons pe_str (pa_cons pe_int pa_nil))) (pa_cons (pe_tup (pa_cons pe_str (pa_cons pe_int pa_nil))) (pa_cons (pe_tup (pa_cons pe_str (pa_cons pe_int pa_nil))) pa_nil)))))))))
      (pss_one (ps_ret (pe_cmpR (op_eqK (K := K) rfl hr.units) (pe_lc (own := [("text", 3), ("due", 4)]) (g := gTup K 2 (gCons (gName 3) (gCons (gName 4) gNil))) rfl sc_law_long_right.nd (pi_list (pv 2)) (blkOk_by (own := [("text", 3), ("due", 4)]) (N := N_law_long_right) (sc := defScope s_law_long_right) (by decide +kernel)) (fun _ _ _ _ _ => (pg_tup (by rfl) (pgs_cons (pg_name (i := 3) sc_law_long_right.nd rfl (.inl rfl)) (pgs_cons (pg_name (i := 4) sc_law_long_right.nd rfl (.inl rfl)) pgs_nil)))) (fun _ _ _ _ _ => pts_one (pt_cmpR (op_neK (K := K) rfl hr.units) (pe_r G_law_said (hr.low (by decide)) (by rfl) T.law_said.g T.law_said.F.kp T.law_said.b (pa_cons (pv 3) pa_nil)) (pv 4) (nomark _))) (fun _ _ _ _ _ => (pv 3))) (pe_lst pa_nil) (nomark _))))))))))), ?_⟩
    refine ⟨_, 98, rfl, rfl, by decide, by decide, by decide, by decide, ?_⟩
    refine ⟨_, _, rfl, rfl, (by decide +kernel), ?_⟩
    refine ⟨_, 98, rfl, rfl, by decide, by decide, by decide, by decide, ?_⟩
    refine ⟨_, _, rfl, rfl, (by decide +kernel), ?_⟩
    refine ⟨_, _, rfl, rfl, (by decide +kernel), ?_⟩
    have f1 : fault (repS "(" 98 ++ "x" ++ repS ")" 98 ++ "=1").cps.toList = none := by decide +kernel
    have n1 : namesIn (repS "(" 98 ++ "x" ++ repS ")" 98 ++ "=1").cps.toList = [("x" : Str)] := by decide +kernel
    have l1 : (repS "(" 98 ++ "x" ++ repS ")" 98 ++ "=1").length ≤ 200 := by decide +kernel
    generalize repS "(" 98 ++ "x" ++ repS ")" 98 ++ "=1" = z1 at f1 n1 l1
    have ox : ∀ y ∈ (["x"] : List Str), PyData.strOk y = true := by decide +kernel
    have oz : ∀ y ∈ (["z"] : List Str), PyData.strOk y = true := by decide +kernel
    refine ⟨_, rfl, said_go l1 fun a1 H1 sm1 ha1 => ⟨(by show 1 ≤ sizeLine; decide), fun t1 ht1 => ?_⟩⟩
    refine ne_tup (ans_tup (ha1.same (same_new ht1)) f1 n1) (.tup (.inl (.inl upd_same)) (dp_strs ["x"])) ox ⟨_, rfl, iteF ?_⟩
    have s1 := same_trans sm1 (same_new (o := .tup [.str "x"]) ht1)
    refine ⟨_, 198, rfl, rfl, by decide, by decide, by decide, by decide, _, _, rfl, rfl, (by decide +kernel), ?_⟩
    have f2 : fault (("1=" : Str) ++ repS "x" 198).cps.toList = none := by decide +kernel
    have n2 : namesIn (("1=" : Str) ++ repS "x" 198).cps.toList = [("x" : Str)] := by decide +kernel
    have l2 : (("1=" : Str) ++ repS "x" 198).length ≤ 200 := by decide +kernel
    generalize ("1=" : Str) ++ repS "x" 198 = z2 at f2 n2 l2
    refine said_go l2 fun a2 H2 sm2 ha2 => ⟨(by show 1 ≤ sizeLine; decide), fun t2 ht2 => ?_⟩
    refine ne_tup (ans_tup (ha2.same (same_new ht2)) f2 n2) (.tup (.inl (.inl upd_same)) (dp_strs ["x"])) ox ⟨_, rfl, iteF ?_⟩
    have s2 := same_trans (same_trans s1 sm2) (same_new (o := .tup [.str "x"]) ht2)
    refine ⟨_, 199, rfl, rfl, by decide, by decide, by decide, by decide, _, _, rfl, rfl, (by decide +kernel), ?_⟩
    have l3 : isT (.str (("1=" : Str) ++ repS "x" 199)) = false := by decide +kernel
    have m3 : (("1=" : Str) ++ repS "x" 199).length ≤ sizeLine := by decide +kernel
    generalize ("1=" : Str) ++ repS "x" 199 = z3 at l3 m3
    refine said_odd (asText_str m3) l3 fun H3 sm3 => ⟨_, rfl, ne_int rfl ⟨_, rfl, iteF ?_⟩⟩
    have s3 := same_trans s2 sm3
    -- the second test
    refine ⟨_, 200, rfl, rfl, by decide, by decide, by decide, by decide, ?_⟩
    have f4 : fault (repS "(" 200).cps.toList = some 200 := by decide +kernel
    have l4 : (repS "(" 200).length ≤ 200 := by decide +kernel
    generalize repS "(" 200 = z4 at f4 l4
    refine said_go l4 fun a4 H4 sm4 ha4 => ?_
    obtain rfl := ans_int ha4 f4
    refine ⟨.int 200, .int 200, .int _, .int _, shaped_int _, shaped_int _, _, rfl, ?_⟩
    rw [eqv_int, decide_eq_true rfl]
    refine iteF ?_
    have s4 := same_trans s3 sm4
    refine ⟨_, 201, rfl, rfl, by decide, by decide, by decide, by decide, ?_⟩
    have l5 : isT (.str (repS "(" 201)) = false := by decide +kernel
    have m5 : (repS "(" 201).length ≤ sizeLine := by decide +kernel
    generalize repS "(" 201 = z5 at l5 m5
    refine said_odd (asText_str m5) l5 fun H5 sm5 => ⟨_, rfl, ne_int rfl ⟨_, rfl, iteF ?_⟩⟩
    have s5 := same_trans s4 sm5
    refine ⟨_, 197, rfl, rfl, by decide, by decide, by decide, by decide, _, _, rfl, rfl, (by decide +kernel), ?_⟩
    have f6 : fault (("1=z" : Str) ++ repS "^" 197).cps.toList = none := by decide +kernel
    have n6 : namesIn (("1=z" : Str) ++ repS "^" 197).cps.toList = [("z" : Str)] := by decide +kernel
    have l6 : (("1=z" : Str) ++ repS "^" 197).length ≤ 200 := by decide +kernel
    generalize ("1=z" : Str) ++ repS "^" 197 = z6 at f6 n6 l6
    refine said_go l6 fun a6 H6 sm6 ha6 => ⟨(by show 1 ≤ sizeLine; decide), fun t6 ht6 => ?_⟩
    refine ne_tup (ans_tup (ha6.same (same_new ht6)) f6 n6) (.tup (.inl (.inl upd_same)) (dp_strs ["z"])) oz ⟨_, rfl, iteF ?_⟩
    have s6 := same_trans (same_trans s5 sm6) (same_new (o := .tup [.str "z"]) ht6)
    -- what is no text
    refine ⟨(by show 1 ≤ sizeLine; decide), fun p1 hp1 => ⟨(by show 2 ≤ sizeLine; decide), fun p2 hp2 p3 hp3 => ⟨(by show 1 ≤ sizeLine; decide), fun p4 hp4 => ⟨(by show 7 ≤ sizeLine; decide), fun p5 hp5 => ?_⟩⟩⟩⟩
    have k2 := same_new (o := .tup [.str "x", .str "x"]) hp2
    have k3 := same_new (o := .dK []) hp3
    have k4 := same_new (o := .lst [.int 1]) hp4
    have k5 := same_new (o := .tup [.non, .int 5, .ref p1, .ref p2, .bl true, .ref p3, .ref p4]) hp5
    have k1 := same_new (o := .lst [.str "x=x"]) hp1
    have s7 := same_trans s6 (same_trans k1 (same_trans k2 (same_trans k3 (same_trans k4 k5))))
    have e1 := k5 _ _ (k4 _ _ (k3 _ _ (k2 _ _ (upd_same (H := upd H6 t6 (.tup [.str "z"])) (a := p1) (o := .lst [.str "x=x"])))))
    have e2 := k5 _ _ (k4 _ _ (k3 _ _ upd_same))
    have e3 := k5 _ _ (k4 _ _ upd_same)
    have e4 := k5 _ _ upd_same
    have e5 := upd_same (H := upd (upd (upd (upd (upd H6 t6 (.tup [.str "z"])) p1 (.lst [.str "x=x"])) p2 (.tup [.str "x", .str "x"])) p3 (.dK [])) p4 (.lst [.int 1])) (a := p5) (o := .tup [.non, .int 5, .ref p1, .ref p2, .bl true, .ref p3, .ref p4])
    generalize upd (upd (upd (upd (upd (upd H6 t6 (.tup [.str "z"])) p1 (.lst [.str "x=x"])) p2 (.tup [.str "x", .str "x"])) p3 (.dK [])) p4 (.lst [.int 1])) p5 (.tup [.non, .int 5, .ref p1, .ref p2, .bl true, .ref p3, .ref p4]) = Y at s7 e1 e2 e3 e4 e5 ⊢
    have oddX := odd_text (K := K) e1 e2 e3 e4
    refine ⟨p5, rfl, ⟨_, .inl (.inl e5)⟩, ?_⟩
    refine for_it (walk_tup (K := K) (a := p5) (xs := [.non, .int 5, .ref p1, .ref p2, .bl true, .ref p3, .ref p4])) (fun i σ H7 => ∃ y1, σ = [some (.str z1), y1, none, none, none] ∧ Same Y H7) ⟨none, rfl, Same.refl _⟩ (fun i σ H7 _ z => ?_) ?_ ?_
    · obtain ⟨_, _, z⟩ := z
      exact .inl (.inl (z _ _ e5))
    · rintro i x σ H7 H8 hi ⟨y1, rfl, sm7⟩ ⟨rfl, hx⟩
      obtain ⟨hT, hF⟩ := oddX _ sm7 x (List.mem_of_getElem? hx)
      refine ⟨_, rfl, said_odd hT hF fun H9 sm9 => ⟨_, rfl, ne_int rfl ⟨_, rfl, iteF ?_⟩⟩⟩
      exact ⟨_, rfl, same_trans sm7 sm9⟩
    · rintro σ H7 ⟨y1, rfl, sm7⟩
      have s8 := same_trans s7 sm7
      dsimp only [tSeq, tAsg]
      refine pairs_lst (pairs_a (K := K)) (by decide) _ _ _ fun l1 vs1 H8 sm8 hl1 hn1 hv1 => ?_
      refine ⟨_, rfl, ?_⟩
      dsimp only
      refine pairs_lst (pairs_b (K := K)) (by decide) _ _ _ fun l2 vs2 H9 sm9 hl2 hn2 hv2 => ?_
      refine ⟨l1, l2, vs1, vs2, rfl, rfl, .inl (.inl (sm9 _ _ hl1)), .inl (.inl hl2), ?_, fun l3 hl3 => ?_⟩
      · rw [hn1, hn2]
        decide
      refine ⟨_, rfl, ?_⟩
      dsimp only
      refine pairs_lst (pairs_c (K := K)) (by decide) _ _ _ fun l4 vs4 H10 sm10 hl4 hn4 hv4 => ?_
      refine ⟨l3, l4, vs1 ++ vs2, vs4, rfl, rfl, .inl (.inl (sm10 _ _ upd_same)), .inl (.inl hl4), ?_, fun l5 hl5 => ?_⟩
      · rw [List.length_append, hn1, hn2, hn4]
        decide
      have k3 := same_new (o := .lst (vs1 ++ vs2)) hl3
      have k5 := same_new (o := .lst (vs1 ++ vs2 ++ vs4)) hl5
      have hall : ∀ v ∈ vs1 ++ vs2 ++ vs4, Pair K (upd H10 l5 (.lst (vs1 ++ vs2 ++ vs4))) v := by
        intro v hv
        rcases List.mem_append.mp hv with hv | hv
        · rcases List.mem_append.mp hv with hv | hv
          · exact (hv1 v hv).same (same_trans sm9 (same_trans k3 (same_trans sm10 k5)))
          · exact (hv2 v hv).same (same_trans k3 (same_trans sm10 k5))
        · exact (hv4 v hv).same k5
      have s9 := same_trans s8 (same_trans sm8 (same_trans sm9 (same_trans k3 (same_trans sm10 k5))))
      have hl : (vs1 ++ vs2 ++ vs4).length = 20 := by rw [List.length_append, List.length_append, hn1, hn2, hn4]
      generalize vs1 ++ vs2 ++ vs4 = xs at hall s9 hl ⊢
      have hX : upd H10 l5 (.lst xs) l5 = some (.lst xs) := upd_same
      generalize upd H10 l5 (.lst xs) = X at hall s9 hX ⊢
      refine ⟨_, rfl, l5, rfl, ⟨_, .inl (.inl hX)⟩, fun D hD => ?_⟩
      refine lc_it (walk_list (K := K) (a := l5) (xs := xs)) (fun j H11 => Same X H11 ∧ H11 D = some (.lst [])) ⟨same_new hD, upd_same⟩ (fun j H11 _ z => .inl (.inl (z.1 _ _ hX))) ?_ ?_
      · rintro j x H11 H12 hj ⟨sm11, hl11⟩ ⟨rfl, hx⟩
        obtain ⟨p, z, y, d, rfl, hp, hz, hd, hsh, go⟩ := (hall x (List.mem_of_getElem? hx)).same sm11
        refine ⟨p, _, rfl, .inl (.inl hp), rfl, _, _, rfl, _, _, rfl, rfl, rfl, ?_⟩
        refine ⟨_, rfl, said_go hz fun a H13 sm13 ha => ⟨_, rfl, ?_⟩⟩
        obtain ⟨e, he, hse, hev⟩ := go a H13 ha
        refine ⟨e, d, he, dp_same sm13 hd, hse, hsh, _, rfl, ?_⟩
        rw [hev]
        exact iteF ⟨same_trans sm11 sm13, sm13 _ _ hl11⟩
      · rintro H11 ⟨sm11, hl11⟩
        refine ⟨Nat.zero_le _, fun p hp => ?_⟩
        have hDp : D ≠ p := ne_of_none hl11 hp
        refine ⟨.list [], .list [], .lst (.inl (.inl (by rw [upd_ne hDp]; exact hl11))) .nil, .lst (.inl (.inl upd_same)) .nil, by decide +kernel, by decide +kernel, ?_⟩
        rw [show PyData.eqv (.list []) (.list []) = true by decide +kernel]
        exact q _ (same_trans s9 (same_trans sm11 (same_new hp)))
end
end Wf
namespace Wf
open PySem PySem.Spec PyProof.Rows L2
section
variable {P : Program} {w : World} {K : PySem.W.Frag} {mg : Str → Option Value} {base : Heap}
def spLaw (K : PySem.W.Frag) : Sp := fun vs H Q _ => ∃ (a : Addr) (ns : List Int), vs = [.ref a] ∧ SqL K H a (ns.map V.int) ∧ ns.length ≤ 1000 ∧ ∀ H', Q (.bl true) H'
theorem ok_law (T : Tx K mg) : FnR P w K mg base 410 T.law.f T.law.fd ["script"] (spLaw K) := by
  have G_law_source : FnR P w K mg base 1 T.law_source.f T.law_source.fd ["cell"] spSource := ok_law_source T
  have G_law_right : FnR P w K mg base 409 T.law_right.f T.law_right.fd ["source"] spRight := ok_law_right T
  have G_law_long_right : FnR P w K mg base 409 T.law_long_right.f T.law_long_right.fd [] spLong := ok_law_long_right T
  refine fun_ok T.law.F sc_law (fun vs H Q E h => ?_) (fun cdv A outer s H vs Q E hr h => ?_)
  · obtain ⟨_, _, rfl, _⟩ := h
    rfl
  · obtain ⟨a, ns, rfl, hs, hn, q⟩ := h
    refine ⟨_, (pss_cons (ps_for PassesOwn.never rfl (pi_list (pe_slice sl_list (pe_op op_catS (pv 0) (pe_lst (pa_cons pe_int pa_nil))) po_none (po_some pe_int))) (pg_name (i := 1) sc_law.nd rfl (.inl rfl)) (pss_cons (ps_set (i := 2) sc_law.nd rfl (Or.inl rfl) (pe_r G_law_source (hr.low (by decide)) (by rfl) T.law_source.g T.law_source.F.kp T.law_source.b (pa_cons (pv 1) pa_nil)))
      (pss_one (ps_for PassesOwn.never rfl (pi_range1 (by rfl) T.n_range (pa_cons pe_int pa_nil)) (pg_name (i := 3) sc_law.nd rfl (.inl rfl)) (pss_one (ps_if (pt_not (pt_val (pe_r G_law_right (hr.low (by decide)) (by rfl) T.law_right.g T.law_right.F.kp T.law_right.b (pa_cons (pv 2) pa_nil)))) (pss_one (ps_ret pe_bl)) pss_nil))))))
      (pss_one (ps_ret (pe_r0 G_law_long_right (hr.low (by decide)) (by rfl) T.law_long_right.g T.law_long_right.F.kp T.law_long_right.b)))), ?_⟩
    refine ⟨_, rfl, (by show 1 ≤ sizeLine; decide), fun l1 hl1 => ?_⟩
    refine ⟨a, l1, ns.map V.int, [.int 0], rfl, rfl, sqL_same (same_new hl1) hs, .inl (.inl upd_same), ?_, fun p hp => ?_⟩
    · rw [List.length_map]
      exact Nat.le_trans (show ns.length + 1 ≤ 1001 by omega) (by decide)
    refine ⟨_, rfl, p, _, rfl, .inl (.inl upd_same), fun c hc => ?_⟩
    generalize hxs : cutV (ns.map V.int ++ [.int 0]) none (some 4) = xs
    have hint : ∀ x ∈ xs, ∃ i : Int, x = .int i := by
      intro x hx
      rw [← hxs] at hx
      unfold cutV at hx
      have h2 := List.mem_of_mem_drop (List.mem_of_mem_take hx)
      rcases List.mem_append.mp h2 with h2 | h2
      · obtain ⟨i, _, rfl⟩ := List.mem_map.mp h2
        exact ⟨i, rfl⟩
      · exact ⟨0, List.mem_singleton.mp h2⟩
    refine ⟨c, rfl, ⟨xs, .inl (.inl upd_same)⟩, ?_⟩
    refine for_it (walk_list (K := K) (a := c) (xs := xs)) (fun i σ H6 => ∃ y1 y2 y3, σ = [some (.ref a), y1, y2, y3] ∧ H6 c = some (.lst xs)) ⟨none, none, none, rfl, upd_same⟩ (fun i σ H6 _ z => ?_) ?_ ?_
    · obtain ⟨_, _, _, _, z⟩ := z
      exact .inl (.inl z)
    · rintro i x σ H6 H7 hi ⟨y1, y2, y3, rfl, h6⟩ ⟨rfl, hx⟩
      obtain ⟨v, rfl⟩ := hint x (List.mem_of_getElem? hx)
      refine ⟨_, rfl, v, rfl, fun s0 H8 hs0 hs8 k8 => ?_⟩
      have hcs : c ≠ s0 := ne_of_none h6 hs0
      refine ⟨_, rfl, by omega, by omega, ?_⟩
      refine for_it (walk_range (lo := 0)) (fun j σ H9 => ∃ y3, σ = [some (.ref a), some (.int v), some (.ref s0), y3] ∧ Src H9 s0 ∧ H9 c = some (.lst xs)) ⟨y3, rfl, hs8, k8 _ _ h6⟩ (fun _ _ _ _ _ => True.intro) ?_ ?_
      · rintro j x σ H9 H10 hj ⟨y3, rfl, h9, h9c⟩ ⟨rfl, rfl⟩
        refine ⟨_, rfl, s0, rfl, h9, fun H11 ex => ⟨_, rfl, iteF ?_⟩⟩
        exact ⟨_, rfl, ex.1, ex.2 _ _ hcs h9c⟩
      · rintro σ H9 ⟨y3, rfl, h9, h9c⟩
        exact ⟨_, _, _, rfl, h9c⟩
    · rintro σ H6 ⟨y1, y2, y3, rfl, h6⟩
      exact long_go fun H' _ => q H'
end
end Wf
namespace Wf
open PySem PySem.Spec PyProof.Rows L2
theorem all_mk {l : PySem.W.OpenLaw} {w : World} {K : PySem.W.Frag} {h : Heap} {mg : Str → Option Value} {fa : Addr} (X : K.In h) (G : h.Ns mainGlobals mg) (hfa : mg "law" = some (.ref fa))
    {CB : Addr}
    {CNoTerm NNoTerm : Addr} {nmNoTerm qNoTerm : Str} {bsNoTerm subNoTerm : List Value} {snNoTerm : List Str} {abNoTerm : Bool} {colNoTerm : Option Bool} {ddNoTerm : Option Addr} {e0NoTerm e1NoTerm e2NoTerm e3NoTerm e5NoTerm : Option Value}
    {fNoTerm : Addr} {odNoTerm anNoTerm : Option Addr} {slNoTerm : Array (Option Value)} {ocNoTerm kVNoTerm dcNoTerm pmNoTerm cdNoTerm ctNoTerm : Value}
    {CCReader : Addr}
    {fReader_init : Addr} {odReader_init anReader_init : Option Addr} {slReader_init : Array (Option Value)} {ocReader_init kVReader_init dcReader_init pmReader_init cdReader_init ctReader_init : Value}
    {fReader_sign : Addr} {odReader_sign anReader_sign : Option Addr} {slReader_sign : Array (Option Value)} {ocReader_sign kVReader_sign dcReader_sign pmReader_sign cdReader_sign ctReader_sign : Value}
    {fReader_demand : Addr} {odReader_demand anReader_demand : Option Addr} {slReader_demand : Array (Option Value)} {ocReader_demand kVReader_demand dcReader_demand pmReader_demand cdReader_demand ctReader_demand : Value}
    {fReader_is_factor : Addr} {odReader_is_factor anReader_is_factor : Option Addr} {slReader_is_factor : Array (Option Value)} {ocReader_is_factor kVReader_is_factor dcReader_is_factor pmReader_is_factor cdReader_is_factor ctReader_is_factor : Value}
    {fReader_term : Addr} {odReader_term anReader_term : Option Addr} {slReader_term : Array (Option Value)} {ocReader_term kVReader_term dcReader_term pmReader_term cdReader_term ctReader_term : Value}
    {fReader_power : Addr} {odReader_power anReader_power : Option Addr} {slReader_power : Array (Option Value)} {ocReader_power kVReader_power dcReader_power pmReader_power cdReader_power ctReader_power : Value}
    {ftwo_terms : Addr} {odtwo_terms antwo_terms : Option Addr} {sltwo_terms : Array (Option Value)} {octwo_terms kVtwo_terms dctwo_terms pmtwo_terms cdtwo_terms cttwo_terms : Value}
    {fnames_in : Addr} {odnames_in annames_in : Option Addr} {slnames_in : Array (Option Value)} {ocnames_in kVnames_in dcnames_in pmnames_in cdnames_in ctnames_in : Value}
    {fread_identity : Addr} {odread_identity anread_identity : Option Addr} {slread_identity : Array (Option Value)} {ocread_identity kVread_identity dcread_identity pmread_identity cdread_identity ctread_identity : Value}
    {flaw_source : Addr} {odlaw_source anlaw_source : Option Addr} {sllaw_source : Array (Option Value)} {oclaw_source kVlaw_source dclaw_source pmlaw_source cdlaw_source ctlaw_source : Value}
    {flaw_draw : Addr} {odlaw_draw anlaw_draw : Option Addr} {sllaw_draw : Array (Option Value)} {oclaw_draw kVlaw_draw dclaw_draw pmlaw_draw cdlaw_draw ctlaw_draw : Value}
    {flaw_pick : Addr} {odlaw_pick anlaw_pick : Option Addr} {sllaw_pick : Array (Option Value)} {oclaw_pick kVlaw_pick dclaw_pick pmlaw_pick cdlaw_pick ctlaw_pick : Value}
    {flaw_term : Addr} {odlaw_term anlaw_term : Option Addr} {sllaw_term : Array (Option Value)} {oclaw_term kVlaw_term dclaw_term pmlaw_term cdlaw_term ctlaw_term : Value}
    {flaw_is_open : Addr} {odlaw_is_open anlaw_is_open : Option Addr} {sllaw_is_open : Array (Option Value)} {oclaw_is_open kVlaw_is_open dclaw_is_open pmlaw_is_open cdlaw_is_open ctlaw_is_open : Value}
    {flaw_fault : Addr} {odlaw_fault anlaw_fault : Option Addr} {sllaw_fault : Array (Option Value)} {oclaw_fault kVlaw_fault dclaw_fault pmlaw_fault cdlaw_fault ctlaw_fault : Value}
    {flaw_said : Addr} {odlaw_said anlaw_said : Option Addr} {sllaw_said : Array (Option Value)} {oclaw_said kVlaw_said dclaw_said pmlaw_said cdlaw_said ctlaw_said : Value}
    {flaw_due : Addr} {odlaw_due anlaw_due : Option Addr} {sllaw_due : Array (Option Value)} {oclaw_due kVlaw_due dclaw_due pmlaw_due cdlaw_due ctlaw_due : Value}
    {flaw_right : Addr} {odlaw_right anlaw_right : Option Addr} {sllaw_right : Array (Option Value)} {oclaw_right kVlaw_right dclaw_right pmlaw_right cdlaw_right ctlaw_right : Value}
    {flaw_long_right : Addr} {odlaw_long_right anlaw_long_right : Option Addr} {sllaw_long_right : Array (Option Value)} {oclaw_long_right kVlaw_long_right dclaw_long_right pmlaw_long_right cdlaw_long_right ctlaw_long_right : Value}
    {flaw : Addr} {odlaw anlaw : Option Addr} {sllaw : Array (Option Value)} {oclaw kVlaw dclaw pmlaw cdlaw ctlaw : Value}
    {tNAMES : Tok}
    {tMOST_TEXT : Tok}
    (gB : PySem.W.nsIn K mainGlobals "FoldError" = some (some (.ref CB)))
    (gNoTerm : PySem.W.nsIn K mainGlobals "NoTerm" = some (some (.ref CNoTerm)))
    (xNoTerm : K.lookup CNoTerm = some (excClassObj nmNoTerm qNoTerm CNoTerm NNoTerm bsNoTerm [.ref CB, .type "ValueError", .type "Exception", .type "BaseException", .type "object"] true snNoTerm subNoTerm abNoTerm colNoTerm ddNoTerm e0NoTerm e1NoTerm e2NoTerm e3NoTerm e5NoTerm "ValueError.__new__"))
    (saNoTerm : PySem.W.findIn K (.ref CNoTerm) "__setattr__" = some (some (.builtin "object.__setattr__")))
    (gaNoTerm : PySem.W.findIn K (.ref CNoTerm) "__getattribute__" = some (some (.builtin "BaseException.__getattribute__")))
    (ggNoTerm : PySem.W.findIn K (.ref CNoTerm) "__getattr__" = some none)
    (nbNoTerm : PySem.W.findIn K (.ref CNoTerm) "place" = some none)
    (aNoTerm : PySem.W.findIn K (.ref CNoTerm) "__init__" = some (some (.ref fNoTerm)))
    (lNoTerm : K.lookup fNoTerm = some ⟨ocNoTerm, odNoTerm, .func (PySem.W.fnOf "__init__" "NoTerm.__init__" (defArgs s_NoTerm_init) (defBody s_NoTerm_init) (defScope s_NoTerm_init) .none kVNoTerm dcNoTerm pmNoTerm anNoTerm cdNoTerm ctNoTerm), slNoTerm⟩)
    (cNoTerm : PySem.W.codeIn K cdNoTerm "NoTerm.__init__" = true)
    (kNoTerm : PySem.W.keepIn K (.ref fNoTerm) = true)
    (tINoTerm : PySem.W.typeIn K (.ref fNoTerm) = some (.type "function"))
    (kCNoTerm : PySem.W.keepIn K (.ref CNoTerm) = true)
    (eCNoTerm : PySem.W.subIn K (.ref CNoTerm) (.type "BaseException") = some true)
    (tCNoTerm : PySem.W.typeIn K (.ref CNoTerm) = some (.type "type"))
    (hCNoTerm : PySem.W.hasDictIn K CNoTerm = true)
    (iCNoTerm : PySem.W.isClsIn K CNoTerm = true)
    (sNoTerm_NoTerm : PySem.W.subIn K (.ref CNoTerm) (.ref CNoTerm) = some true)
    (gcReader : PySem.W.nsIn K mainGlobals "Reader" = some (some (.ref CCReader)))
    (pgReader : PySem.W.plainGet K CCReader Str.empty = true)
    (hdReader : PySem.W.hasDictIn K CCReader = true)
    (poReader : PySem.W.plainOver K CCReader = true)
    (scReader : PySem.W.findIn K (.ref CCReader) "__setattr__" = some (some (.builtin "object.__setattr__")))
    (mkReader : PySem.W.makesIn K CCReader = true)
    (kcReader : PySem.W.keepIn K (.ref CCReader) = true)
    (noReader_text : PySem.W.findIn K (.ref CCReader) "text" = some none)
    (noReader_spot : PySem.W.findIn K (.ref CCReader) "spot" = some none)
    (aReader_init : PySem.W.findIn K (.ref CCReader) "__init__" = some (some (.ref fReader_init)))
    (lReader_init : K.lookup fReader_init = some ⟨ocReader_init, odReader_init, .func (PySem.W.fnOf "__init__" "Reader.__init__" (defArgs s_Reader_init) (defBody s_Reader_init) (defScope s_Reader_init) .none kVReader_init dcReader_init pmReader_init anReader_init cdReader_init ctReader_init), slReader_init⟩)
    (cReader_init : PySem.W.codeIn K cdReader_init "Reader.__init__" = true)
    (kReader_init : PySem.W.keepIn K (.ref fReader_init) = true)
    (iReader_init : PySem.W.isFn K (.ref fReader_init) = true)
    (aReader_sign : PySem.W.findIn K (.ref CCReader) "sign" = some (some (.ref fReader_sign)))
    (lReader_sign : K.lookup fReader_sign = some ⟨ocReader_sign, odReader_sign, .func (PySem.W.fnOf "sign" "Reader.sign" (defArgs s_Reader_sign) (defBody s_Reader_sign) (defScope s_Reader_sign) .none kVReader_sign dcReader_sign pmReader_sign anReader_sign cdReader_sign ctReader_sign), slReader_sign⟩)
    (cReader_sign : PySem.W.codeIn K cdReader_sign "Reader.sign" = true)
    (kReader_sign : PySem.W.keepIn K (.ref fReader_sign) = true)
    (iReader_sign : PySem.W.isFn K (.ref fReader_sign) = true)
    (aReader_demand : PySem.W.findIn K (.ref CCReader) "demand" = some (some (.ref fReader_demand)))
    (lReader_demand : K.lookup fReader_demand = some ⟨ocReader_demand, odReader_demand, .func (PySem.W.fnOf "demand" "Reader.demand" (defArgs s_Reader_demand) (defBody s_Reader_demand) (defScope s_Reader_demand) .none kVReader_demand dcReader_demand pmReader_demand anReader_demand cdReader_demand ctReader_demand), slReader_demand⟩)
    (cReader_demand : PySem.W.codeIn K cdReader_demand "Reader.demand" = true)
    (kReader_demand : PySem.W.keepIn K (.ref fReader_demand) = true)
    (iReader_demand : PySem.W.isFn K (.ref fReader_demand) = true)
    (aReader_is_factor : PySem.W.findIn K (.ref CCReader) "is_factor" = some (some (.ref fReader_is_factor)))
    (lReader_is_factor : K.lookup fReader_is_factor = some ⟨ocReader_is_factor, odReader_is_factor, .func (PySem.W.fnOf "is_factor" "Reader.is_factor" (defArgs s_Reader_is_factor) (defBody s_Reader_is_factor) (defScope s_Reader_is_factor) .none kVReader_is_factor dcReader_is_factor pmReader_is_factor anReader_is_factor cdReader_is_factor ctReader_is_factor), slReader_is_factor⟩)
    (cReader_is_factor : PySem.W.codeIn K cdReader_is_factor "Reader.is_factor" = true)
    (kReader_is_factor : PySem.W.keepIn K (.ref fReader_is_factor) = true)
    (iReader_is_factor : PySem.W.isFn K (.ref fReader_is_factor) = true)
    (aReader_term : PySem.W.findIn K (.ref CCReader) "term" = some (some (.ref fReader_term)))
    (lReader_term : K.lookup fReader_term = some ⟨ocReader_term, odReader_term, .func (PySem.W.fnOf "term" "Reader.term" (defArgs s_Reader_term) (defBody s_Reader_term) (defScope s_Reader_term) .none kVReader_term dcReader_term pmReader_term anReader_term cdReader_term ctReader_term), slReader_term⟩)
    (cReader_term : PySem.W.codeIn K cdReader_term "Reader.term" = true)
    (kReader_term : PySem.W.keepIn K (.ref fReader_term) = true)
    (iReader_term : PySem.W.isFn K (.ref fReader_term) = true)
    (aReader_power : PySem.W.findIn K (.ref CCReader) "power" = some (some (.ref fReader_power)))
    (lReader_power : K.lookup fReader_power = some ⟨ocReader_power, odReader_power, .func (PySem.W.fnOf "power" "Reader.power" (defArgs s_Reader_power) (defBody s_Reader_power) (defScope s_Reader_power) .none kVReader_power dcReader_power pmReader_power anReader_power cdReader_power ctReader_power), slReader_power⟩)
    (cReader_power : PySem.W.codeIn K cdReader_power "Reader.power" = true)
    (kReader_power : PySem.W.keepIn K (.ref fReader_power) = true)
    (iReader_power : PySem.W.isFn K (.ref fReader_power) = true)
    (atwo_terms : PySem.W.nsIn K mainGlobals "two_terms" = some (some (.ref ftwo_terms)))
    (ltwo_terms : K.lookup ftwo_terms = some ⟨octwo_terms, odtwo_terms, .func (PySem.W.fnOf "two_terms" "two_terms" (defArgs s_two_terms) (defBody s_two_terms) (defScope s_two_terms) .none kVtwo_terms dctwo_terms pmtwo_terms antwo_terms cdtwo_terms cttwo_terms), sltwo_terms⟩)
    (ctwo_terms : PySem.W.codeIn K cdtwo_terms "two_terms" = true)
    (ktwo_terms : PySem.W.keepIn K (.ref ftwo_terms) = true)
    (anames_in : PySem.W.nsIn K mainGlobals "names_in" = some (some (.ref fnames_in)))
    (lnames_in : K.lookup fnames_in = some ⟨ocnames_in, odnames_in, .func (PySem.W.fnOf "names_in" "names_in" (defArgs s_names_in) (defBody s_names_in) (defScope s_names_in) .none kVnames_in dcnames_in pmnames_in annames_in cdnames_in ctnames_in), slnames_in⟩)
    (cnames_in : PySem.W.codeIn K cdnames_in "names_in" = true)
    (knames_in : PySem.W.keepIn K (.ref fnames_in) = true)
    (aread_identity : PySem.W.nsIn K mainGlobals "read_identity" = some (some (.ref fread_identity)))
    (lread_identity : K.lookup fread_identity = some ⟨ocread_identity, odread_identity, .func (PySem.W.fnOf "read_identity" "read_identity" (defArgs s_read_identity) (defBody s_read_identity) (defScope s_read_identity) .none kVread_identity dcread_identity pmread_identity anread_identity cdread_identity ctread_identity), slread_identity⟩)
    (cread_identity : PySem.W.codeIn K cdread_identity "read_identity" = true)
    (kread_identity : PySem.W.keepIn K (.ref fread_identity) = true)
    (alaw_source : PySem.W.nsIn K mainGlobals "_law_source" = some (some (.ref flaw_source)))
    (llaw_source : K.lookup flaw_source = some ⟨oclaw_source, odlaw_source, .func (PySem.W.fnOf "_law_source" "_law_source" (defArgs s_law_source) (defBody s_law_source) (defScope s_law_source) .none kVlaw_source dclaw_source pmlaw_source anlaw_source cdlaw_source ctlaw_source), sllaw_source⟩)
    (claw_source : PySem.W.codeIn K cdlaw_source "_law_source" = true)
    (klaw_source : PySem.W.keepIn K (.ref flaw_source) = true)
    (alaw_draw : PySem.W.nsIn K mainGlobals "_law_draw" = some (some (.ref flaw_draw)))
    (llaw_draw : K.lookup flaw_draw = some ⟨oclaw_draw, odlaw_draw, .func (PySem.W.fnOf "_law_draw" "_law_draw" (defArgs s_law_draw) (defBody s_law_draw) (defScope s_law_draw) .none kVlaw_draw dclaw_draw pmlaw_draw anlaw_draw cdlaw_draw ctlaw_draw), sllaw_draw⟩)
    (claw_draw : PySem.W.codeIn K cdlaw_draw "_law_draw" = true)
    (klaw_draw : PySem.W.keepIn K (.ref flaw_draw) = true)
    (alaw_pick : PySem.W.nsIn K mainGlobals "_law_pick" = some (some (.ref flaw_pick)))
    (llaw_pick : K.lookup flaw_pick = some ⟨oclaw_pick, odlaw_pick, .func (PySem.W.fnOf "_law_pick" "_law_pick" (defArgs s_law_pick) (defBody s_law_pick) (defScope s_law_pick) .none kVlaw_pick dclaw_pick pmlaw_pick anlaw_pick cdlaw_pick ctlaw_pick), sllaw_pick⟩)
    (claw_pick : PySem.W.codeIn K cdlaw_pick "_law_pick" = true)
    (klaw_pick : PySem.W.keepIn K (.ref flaw_pick) = true)
    (alaw_term : PySem.W.nsIn K mainGlobals "_law_term" = some (some (.ref flaw_term)))
    (llaw_term : K.lookup flaw_term = some ⟨oclaw_term, odlaw_term, .func (PySem.W.fnOf "_law_term" "_law_term" (defArgs s_law_term) (defBody s_law_term) (defScope s_law_term) .none kVlaw_term dclaw_term pmlaw_term anlaw_term cdlaw_term ctlaw_term), sllaw_term⟩)
    (claw_term : PySem.W.codeIn K cdlaw_term "_law_term" = true)
    (klaw_term : PySem.W.keepIn K (.ref flaw_term) = true)
    (alaw_is_open : PySem.W.nsIn K mainGlobals "_law_is_open" = some (some (.ref flaw_is_open)))
    (llaw_is_open : K.lookup flaw_is_open = some ⟨oclaw_is_open, odlaw_is_open, .func (PySem.W.fnOf "_law_is_open" "_law_is_open" (defArgs s_law_is_open) (defBody s_law_is_open) (defScope s_law_is_open) .none kVlaw_is_open dclaw_is_open pmlaw_is_open anlaw_is_open cdlaw_is_open ctlaw_is_open), sllaw_is_open⟩)
    (claw_is_open : PySem.W.codeIn K cdlaw_is_open "_law_is_open" = true)
    (klaw_is_open : PySem.W.keepIn K (.ref flaw_is_open) = true)
    (alaw_fault : PySem.W.nsIn K mainGlobals "_law_fault" = some (some (.ref flaw_fault)))
    (llaw_fault : K.lookup flaw_fault = some ⟨oclaw_fault, odlaw_fault, .func (PySem.W.fnOf "_law_fault" "_law_fault" (defArgs s_law_fault) (defBody s_law_fault) (defScope s_law_fault) .none kVlaw_fault dclaw_fault pmlaw_fault anlaw_fault cdlaw_fault ctlaw_fault), sllaw_fault⟩)
    (claw_fault : PySem.W.codeIn K cdlaw_fault "_law_fault" = true)
    (klaw_fault : PySem.W.keepIn K (.ref flaw_fault) = true)
    (alaw_said : PySem.W.nsIn K mainGlobals "_law_said" = some (some (.ref flaw_said)))
    (llaw_said : K.lookup flaw_said = some ⟨oclaw_said, odlaw_said, .func (PySem.W.fnOf "_law_said" "_law_said" (defArgs s_law_said) (defBody s_law_said) (defScope s_law_said) .none kVlaw_said dclaw_said pmlaw_said anlaw_said cdlaw_said ctlaw_said), sllaw_said⟩)
    (claw_said : PySem.W.codeIn K cdlaw_said "_law_said" = true)
    (klaw_said : PySem.W.keepIn K (.ref flaw_said) = true)
    (alaw_due : PySem.W.nsIn K mainGlobals "_law_due" = some (some (.ref flaw_due)))
    (llaw_due : K.lookup flaw_due = some ⟨oclaw_due, odlaw_due, .func (PySem.W.fnOf "_law_due" "_law_due" (defArgs s_law_due) (defBody s_law_due) (defScope s_law_due) .none kVlaw_due dclaw_due pmlaw_due anlaw_due cdlaw_due ctlaw_due), sllaw_due⟩)
    (claw_due : PySem.W.codeIn K cdlaw_due "_law_due" = true)
    (klaw_due : PySem.W.keepIn K (.ref flaw_due) = true)
    (alaw_right : PySem.W.nsIn K mainGlobals "_law_right" = some (some (.ref flaw_right)))
    (llaw_right : K.lookup flaw_right = some ⟨oclaw_right, odlaw_right, .func (PySem.W.fnOf "_law_right" "_law_right" (defArgs s_law_right) (defBody s_law_right) (defScope s_law_right) .none kVlaw_right dclaw_right pmlaw_right anlaw_right cdlaw_right ctlaw_right), sllaw_right⟩)
    (claw_right : PySem.W.codeIn K cdlaw_right "_law_right" = true)
    (klaw_right : PySem.W.keepIn K (.ref flaw_right) = true)
    (alaw_long_right : PySem.W.nsIn K mainGlobals "_law_long_right" = some (some (.ref flaw_long_right)))
    (llaw_long_right : K.lookup flaw_long_right = some ⟨oclaw_long_right, odlaw_long_right, .func (PySem.W.fnOf "_law_long_right" "_law_long_right" (defArgs s_law_long_right) (defBody s_law_long_right) (defScope s_law_long_right) .none kVlaw_long_right dclaw_long_right pmlaw_long_right anlaw_long_right cdlaw_long_right ctlaw_long_right), sllaw_long_right⟩)
    (claw_long_right : PySem.W.codeIn K cdlaw_long_right "_law_long_right" = true)
    (klaw_long_right : PySem.W.keepIn K (.ref flaw_long_right) = true)
    (alaw : PySem.W.nsIn K mainGlobals "law" = some (some (.ref flaw)))
    (llaw : K.lookup flaw = some ⟨oclaw, odlaw, .func (PySem.W.fnOf "law" "law" (defArgs s_law) (defBody s_law) (defScope s_law) .none kVlaw dclaw pmlaw anlaw cdlaw ctlaw), sllaw⟩)
    (claw : PySem.W.codeIn K cdlaw "law" = true)
    (klaw : PySem.W.keepIn K (.ref flaw) = true)
    (n_isinstance : PySem.W.nsIn K mainGlobals "isinstance" = some none)
    (n_int : PySem.W.nsIn K mainGlobals "int" = some none)
    (n_str : PySem.W.nsIn K mainGlobals "str" = some none)
    (n_len : PySem.W.nsIn K mainGlobals "len" = some none)
    (n_abs : PySem.W.nsIn K mainGlobals "abs" = some none)
    (n_range : PySem.W.nsIn K mainGlobals "range" = some none)
    (n_tuple : PySem.W.nsIn K mainGlobals "tuple" = some none)
    (n_enumerate : PySem.W.nsIn K mainGlobals "enumerate" = some none)
    (m_NAMES : PySem.W.nsIn K mainGlobals "NAMES" = some (some (.str "wxyz" tNAMES)))
    (m_MOST_TEXT : PySem.W.nsIn K mainGlobals "MOST_TEXT" = some (some (.int 200 tMOST_TEXT)))
    : ∃ fd : FuncData, (∀ (s : Shared) (v : Value), BindsTo s fd ⟨[v], []⟩ [("script", v)]) ∧ ∀ base : Heap, K.In base → base.Ns mainGlobals mg → FnR l.prog w K mg base 410 fa fd ["script"] (spLaw K) := by
  have e := hfa.symm.trans (PySem.W.mg_of X G alaw)
  cases e
  have T : Σ' T : Tx K mg, T.law.f = fa ∧ ∀ (s : Shared) (v : Value), BindsTo s T.law.fd ⟨[v], []⟩ [("script", v)] := ⟨{
    two_terms := fnAt_mk X G atwo_terms ltwo_terms ctwo_terms ktwo_terms (fun _ _ _ _ _ _ us hl => match us, hl with | [_], _ => rfl)
    names_in := fnAt_mk X G anames_in lnames_in cnames_in knames_in (fun _ _ _ _ _ _ us hl => match us, hl with | [_, _], _ => rfl)
    read_identity := fnAt_mk X G aread_identity lread_identity cread_identity kread_identity (fun _ _ _ _ _ _ us hl => match us, hl with | [_], _ => rfl)
    law_source := fnAt_mk X G alaw_source llaw_source claw_source klaw_source (fun _ _ _ _ _ _ us hl => match us, hl with | [_], _ => rfl)
    law_draw := fnAt_mk X G alaw_draw llaw_draw claw_draw klaw_draw (fun _ _ _ _ _ _ us hl => match us, hl with | [_, _], _ => rfl)
    law_pick := fnAt_mk X G alaw_pick llaw_pick claw_pick klaw_pick (fun _ _ _ _ _ _ us hl => match us, hl with | [_, _], _ => rfl)
    law_term := fnAt_mk X G alaw_term llaw_term claw_term klaw_term (fun _ _ _ _ _ _ us hl => match us, hl with | [_, _], _ => rfl)
    law_is_open := fnAt_mk X G alaw_is_open llaw_is_open claw_is_open klaw_is_open (fun _ _ _ _ _ _ us hl => match us, hl with | [_, _, _, _], _ => rfl)
    law_fault := fnAt_mk X G alaw_fault llaw_fault claw_fault klaw_fault (fun _ _ _ _ _ _ us hl => match us, hl with | [_], _ => rfl)
    law_said := fnAt_mk X G alaw_said llaw_said claw_said klaw_said (fun _ _ _ _ _ _ us hl => match us, hl with | [_], _ => rfl)
    law_due := fnAt_mk X G alaw_due llaw_due claw_due klaw_due (fun _ _ _ _ _ _ us hl => match us, hl with | [_], _ => rfl)
    law_right := fnAt_mk X G alaw_right llaw_right claw_right klaw_right (fun _ _ _ _ _ _ us hl => match us, hl with | [_], _ => rfl)
    law_long_right := fnAt_mk X G alaw_long_right llaw_long_right claw_long_right klaw_long_right (fun _ _ _ _ _ _ us hl => match us, hl with | [], _ => rfl)
    law := fnAt_mk X G alaw llaw claw klaw (fun _ _ _ _ _ _ us hl => match us, hl with | [_], _ => rfl)
    C_Reader := CCReader
    g_Reader := PySem.W.mg_of X G gcReader
    cl_Reader := ⟨pgReader, hdReader, poReader, scReader⟩
    no_Reader_text := noReader_text
    no_Reader_spot := noReader_spot
    Reader_init := ⟨fReader_init, _, fun_mk lReader_init cReader_init kReader_init, ⟨aReader_init, iReader_init, kReader_init⟩, (fun_mk lReader_init cReader_init kReader_init).binds (fun _ _ _ _ _ _ us hl => match us, hl with | [_, _], _ => rfl)⟩
    Reader_sign := ⟨fReader_sign, _, fun_mk lReader_sign cReader_sign kReader_sign, ⟨aReader_sign, iReader_sign, kReader_sign⟩, (fun_mk lReader_sign cReader_sign kReader_sign).binds (fun _ _ _ _ _ _ us hl => match us, hl with | [_], _ => rfl)⟩
    Reader_demand := ⟨fReader_demand, _, fun_mk lReader_demand cReader_demand kReader_demand, ⟨aReader_demand, iReader_demand, kReader_demand⟩, (fun_mk lReader_demand cReader_demand kReader_demand).binds (fun _ _ _ _ _ _ us hl => match us, hl with | [_, _], _ => rfl)⟩
    Reader_is_factor := ⟨fReader_is_factor, _, fun_mk lReader_is_factor cReader_is_factor kReader_is_factor, ⟨aReader_is_factor, iReader_is_factor, kReader_is_factor⟩, (fun_mk lReader_is_factor cReader_is_factor kReader_is_factor).binds (fun _ _ _ _ _ _ us hl => match us, hl with | [_], _ => rfl)⟩
    Reader_term := ⟨fReader_term, _, fun_mk lReader_term cReader_term kReader_term, ⟨aReader_term, iReader_term, kReader_term⟩, (fun_mk lReader_term cReader_term kReader_term).binds (fun _ _ _ _ _ _ us hl => match us, hl with | [_], _ => rfl)⟩
    Reader_power := ⟨fReader_power, _, fun_mk lReader_power cReader_power kReader_power, ⟨aReader_power, iReader_power, kReader_power⟩, (fun_mk lReader_power cReader_power kReader_power).binds (fun _ _ _ _ _ _ us hl => match us, hl with | [_], _ => rfl)⟩
    mk_Reader := ⟨mkReader, aReader_init, iReader_init, kcReader⟩
    NoTerm := ⟨CNoTerm, fNoTerm, _, fun_mk lNoTerm cNoTerm kNoTerm, PySem.W.mg_of X G gNoTerm, ⟨⟨_, _, _, _, _, _, _, _, _, _, _, _, _, _, _, xNoTerm, rfl⟩, saNoTerm, eCNoTerm, tCNoTerm, kCNoTerm⟩, aNoTerm, tINoTerm, (fun_mk lNoTerm cNoTerm kNoTerm).binds (fun _ _ _ _ _ _ us hl => match us, hl with | [_, _], _ => rfl), nbNoTerm, ⟨gaNoTerm, ggNoTerm, eCNoTerm, hCNoTerm⟩⟩
    FoldError := ⟨CB, PySem.W.mg_of X G gB⟩
    x_NoTerm_NoTerm := exm_of eCNoTerm iCNoTerm tCNoTerm sNoTerm_NoTerm
    n_isinstance := PySem.W.mg_none_of X G n_isinstance
    n_int := PySem.W.mg_none_of X G n_int
    n_str := PySem.W.mg_none_of X G n_str
    n_len := PySem.W.mg_none_of X G n_len
    n_abs := PySem.W.mg_none_of X G n_abs
    n_range := PySem.W.mg_none_of X G n_range
    n_tuple := PySem.W.mg_none_of X G n_tuple
    n_enumerate := PySem.W.mg_none_of X G n_enumerate
    t_NAMES := tNAMES
    m_NAMES := PySem.W.mg_of X G m_NAMES
    t_MOST_TEXT := tMOST_TEXT
    m_MOST_TEXT := PySem.W.mg_of X G m_MOST_TEXT }, rfl, fun s v => .of_eq rfl⟩
  obtain ⟨T, e1, e2⟩ := T
  refine ⟨T.law.fd, e2, fun base _ _ => ?_⟩
  rw [← e1]
  exact ok_law T
end Wf
open PySem PySem.W PyProof.Rows in
set_option maxRecDepth 100000 in
set_option maxHeartbeats 0 in
theorem PySem.Challenge.cw_wordfolds_k81_identities_that_are_read_holds : PySem.Challenge.rw_wordfolds_k81_identities_that_are_read.Holds := by
  w_on; o_law; k_head; (case hw => w_witness2)
  k_fill
  refine Wf.walkR (l := PySem.Challenge.rw_wordfolds_k81_identities_that_are_read) (n := 63) (k := 410) (x := "script") (sp := fun K => Wf.spLaw K) rfl (by decide) rfl (by decide) (fun w h Y => PySem.W.kIn_of Y) ?F (fun _ _ a ns hl hS => ⟨a, ns, rfl, hS, Nat.le_trans hl (by decide), fun _ => rfl⟩)
  case F =>
    intro w mg fa h KX G hmg
    refine' Wf.all_mk KX G hmg ?gB ?gNoTerm ?xNoTerm ?saNoTerm ?gaNoTerm ?ggNoTerm ?nbNoTerm ?aNoTerm ?lNoTerm ?cNoTerm ?kNoTerm ?tINoTerm ?kCNoTerm ?eCNoTerm ?tCNoTerm ?hCNoTerm ?iCNoTerm ?sNoTerm_NoTerm ?gcReader ?pgReader ?hdReader ?poReader ?scReader ?mkReader ?kcReader ?noReader_text ?noReader_spot ?aReader_init ?lReader_init ?cReader_init ?kReader_init ?iReader_init ?aReader_sign ?lReader_sign ?cReader_sign ?kReader_sign ?iReader_sign ?aReader_demand ?lReader_demand ?cReader_demand ?kReader_demand ?iReader_demand ?aReader_is_factor ?lReader_is_factor ?cReader_is_factor ?kReader_is_factor ?iReader_is_factor ?aReader_term ?lReader_term ?cReader_term ?kReader_term ?iReader_term ?aReader_power ?lReader_power ?cReader_power ?kReader_power ?iReader_power ?atwo_terms ?ltwo_terms ?ctwo_terms ?ktwo_terms ?anames_in ?lnames_in ?cnames_in ?knames_in ?aread_identity ?lread_identity ?cread_identity ?kread_identity ?alaw_source ?llaw_source ?claw_source ?klaw_source ?alaw_draw ?llaw_draw ?claw_draw ?klaw_draw ?alaw_pick ?llaw_pick ?claw_pick ?klaw_pick ?alaw_term ?llaw_term ?claw_term ?klaw_term ?alaw_is_open ?llaw_is_open ?claw_is_open ?klaw_is_open ?alaw_fault ?llaw_fault ?claw_fault ?klaw_fault ?alaw_said ?llaw_said ?claw_said ?klaw_said ?alaw_due ?llaw_due ?claw_due ?klaw_due ?alaw_right ?llaw_right ?claw_right ?klaw_right ?alaw_long_right ?llaw_long_right ?claw_long_right ?klaw_long_right ?alaw ?llaw ?claw ?klaw ?n_isinstance ?n_int ?n_str ?n_len ?n_abs ?n_range ?n_tuple ?n_enumerate ?m_NAMES ?m_MOST_TEXT
    (case gB => k_is)
    (case gNoTerm => k_is)
    (case xNoTerm => k_is)
    (case saNoTerm => k_is)
    (case gaNoTerm => k_is)
    (case ggNoTerm => k_is)
    (case nbNoTerm => k_is)
    (case aNoTerm => k_is)
    (case lNoTerm => k_is)
    (case cNoTerm => k_is)
    (case kNoTerm => k_is)
    (case tINoTerm => k_is)
    (case kCNoTerm => k_is)
    (case eCNoTerm => k_is)
    (case tCNoTerm => k_is)
    (case hCNoTerm => k_is)
    (case iCNoTerm => k_is)
    (case sNoTerm_NoTerm => first | rfl | k_is)
    (case gcReader => k_is)
    (case pgReader => k_is)
    (case hdReader => k_is)
    (case poReader => k_is)
    (case scReader => k_is)
    (case mkReader => k_is)
    (case kcReader => k_is)
    (case noReader_text => k_is)
    (case noReader_spot => k_is)
    (case aReader_init => k_is)
    (case lReader_init => k_is)
    (case cReader_init => k_is)
    (case kReader_init => k_is)
    (case iReader_init => k_is)
    (case aReader_sign => k_is)
    (case lReader_sign => k_is)
    (case cReader_sign => k_is)
    (case kReader_sign => k_is)
    (case iReader_sign => k_is)
    (case aReader_demand => k_is)
    (case lReader_demand => k_is)
    (case cReader_demand => k_is)
    (case kReader_demand => k_is)
    (case iReader_demand => k_is)
    (case aReader_is_factor => k_is)
    (case lReader_is_factor => k_is)
    (case cReader_is_factor => k_is)
    (case kReader_is_factor => k_is)
    (case iReader_is_factor => k_is)
    (case aReader_term => k_is)
    (case lReader_term => k_is)
    (case cReader_term => k_is)
    (case kReader_term => k_is)
    (case iReader_term => k_is)
    (case aReader_power => k_is)
    (case lReader_power => k_is)
    (case cReader_power => k_is)
    (case kReader_power => k_is)
    (case iReader_power => k_is)
    (case atwo_terms => k_is)
    (case ltwo_terms => k_is)
    (case ctwo_terms => k_is)
    (case ktwo_terms => k_is)
    (case anames_in => k_is)
    (case lnames_in => k_is)
    (case cnames_in => k_is)
    (case knames_in => k_is)
    (case aread_identity => k_is)
    (case lread_identity => k_is)
    (case cread_identity => k_is)
    (case kread_identity => k_is)
    (case alaw_source => k_is)
    (case llaw_source => k_is)
    (case claw_source => k_is)
    (case klaw_source => k_is)
    (case alaw_draw => k_is)
    (case llaw_draw => k_is)
    (case claw_draw => k_is)
    (case klaw_draw => k_is)
    (case alaw_pick => k_is)
    (case llaw_pick => k_is)
    (case claw_pick => k_is)
    (case klaw_pick => k_is)
    (case alaw_term => k_is)
    (case llaw_term => k_is)
    (case claw_term => k_is)
    (case klaw_term => k_is)
    (case alaw_is_open => k_is)
    (case llaw_is_open => k_is)
    (case claw_is_open => k_is)
    (case klaw_is_open => k_is)
    (case alaw_fault => k_is)
    (case llaw_fault => k_is)
    (case claw_fault => k_is)
    (case klaw_fault => k_is)
    (case alaw_said => k_is)
    (case llaw_said => k_is)
    (case claw_said => k_is)
    (case klaw_said => k_is)
    (case alaw_due => k_is)
    (case llaw_due => k_is)
    (case claw_due => k_is)
    (case klaw_due => k_is)
    (case alaw_right => k_is)
    (case llaw_right => k_is)
    (case claw_right => k_is)
    (case klaw_right => k_is)
    (case alaw_long_right => k_is)
    (case llaw_long_right => k_is)
    (case claw_long_right => k_is)
    (case klaw_long_right => k_is)
    (case alaw => k_is)
    (case llaw => k_is)
    (case claw => k_is)
    (case klaw => k_is)
    (case n_isinstance => k_is)
    (case n_int => k_is)
    (case n_str => k_is)
    (case n_len => k_is)
    (case n_abs => k_is)
    (case n_range => k_is)
    (case n_tuple => k_is)
    (case n_enumerate => k_is)
    (case m_NAMES => k_is)
    (case m_MOST_TEXT => k_is)
