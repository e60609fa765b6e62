import PyProof.Rows.All
import Wide.All
import OpenK.AllK
import Wide.FinOn
import HandS.ForMost
import HandS.ForExc
import HandS.ExcInit
import HandS.ExcField
import HandS.IsInst
import HandS.Flow
import HandS.SortOrd
import HandS.SortKw
import HandS.More
import KE.KSortKey
import HandS.Walk
import HandS.Codes
import HandS.Iter
import PyProof.ListStr
import PyProof.StrBlock2
import HandS.Conv
import PyProof.StrLawsRepr
import HandS.Wide
import PySem.Challenge.RW_wordfolds_k78_signatures_of_words
set_option Elab.async false
set_option linter.all false
set_option maxRecDepth 100000
set_option maxHeartbeats 4000000
namespace Wf
open PySem PySem.Spec PyProof.Rows L2
/-! ### room: depth counted one by one, and nothing guarded -/
structure Rm (k : Nat) (A : Around) : Prop where
  hd : A.handled = none
  dp : A.depth + k + 20 < recursionLimit
  un : A.units + 16 * k + 500 < cLine
  gu : A.guards = some []
theorem Rm.low {j k : Nat} {A : Around} (r : Rm k A) (h : j ≤ k) : Rm j A := by
  obtain ⟨a, b, c, d⟩ := r
  exact ⟨a, by omega, by omega, d⟩
theorem Rm.down {k : Nat} {A : Around} (r : Rm (k + 1) A) (e : Env) : Rm k (A.deeper e) := by
  obtain ⟨a, b, c, d⟩ := r
  refine ⟨a, ?_, ?_, d⟩
  · show A.depth + 1 + k + 20 < recursionLimit
    omega
  · show A.units + 3 + 16 * k + 500 < cLine
    omega
theorem Rm.room {k : Nat} {A : Around} (r : Rm k A) : Room 5 A := by
  obtain ⟨a, b, c, d⟩ := r
  exact ⟨a, by omega, by omega⟩
theorem Rm.hu {k : Nat} {A : Around} (r : Rm k A) : A.units + 1 < cLine := hu_of r.room
theorem Rm.units {k : Nat} {A : Around} (r : Rm k A) : A.units + 64 < cLine := r.room.units
theorem Rm.make {k : Nat} {A : Around} (r : Rm (k + 1) A) (C : Addr) (us : List Value) (kw : List (Str × Value)) : Rm k (A.under (.builtin "type.__call__" ⟨.ref C :: us, kw⟩)) := by
  obtain ⟨a, b, c, d⟩ := r
  refine ⟨a, ?_, ?_, ?_⟩
  · rw [make_depth]
    omega
  · rw [make_units]
    omega
  · have e : (A.under (.builtin "type.__call__" ⟨.ref C :: us, kw⟩)).guards = pushGuards (Code.guards (.builtin "type.__call__" ⟨.ref C :: us, kw⟩)) A.guards := rfl
    rw [e, d]
    rfl
theorem rm_caller {k : Nat} (h : k ≤ 500) : Rm k callerA := by
  refine ⟨rfl, ?_, ?_, rfl⟩
  · have : callerA.depth = 301 := by decide +kernel
    rw [this]
    show 301 + k + 20 < 1000
    omega
  · show 4 + 16 * k + 500 < 9900
    omega
/-! ### a def's promise, over such a room -/
structure FnR (P : Program) (w : World) (K : PySem.W.Frag) (mg : Str → Option Value) (base : Heap) (k : Nat) (f : Addr) (fd : FuncData) (ps : List Str) (sp : Sp) : Prop where
  len : ∀ vs H Q E, sp vs H Q E → vs.length = ps.length
  run : ∀ (A : Around) (outer : List Env) (s : Shared) (H : Hp) (args : Args) (us : List Value) (vs : List V) (Q : VK) (E : XK), Rm k A →
    Env0 P w K mg base A outer s H → BindsTo s fd args (ps.zip us) → Vals vs us → sp vs H Q E →
    codeAny (model P w) A (.call (.ref f) args) (CR (L2.CX P w) outer P w H s Q E) s
section
variable {P : Program} {w : World} {K : PySem.W.Frag} {mg : Str → Option Value} {base : Heap} {f : Addr} {fd : FuncData} {ps : List Str} {sp : Sp}
theorem FnR.low {j k : Nat} (F : FnR P w K mg base j f fd ps sp) (h : j ≤ k) : FnR P w K mg base k f fd ps sp :=
  ⟨F.len, fun A outer s H args us vs Q E hr => F.run A outer s H args us vs Q E (hr.low h)⟩
theorem FnR.of_ok {k : Nat} (F : FnOk P w K mg base (L2.CX P w) 5 f fd ps sp) : FnR P w K mg base k f fd ps sp :=
  ⟨F.len, fun A outer s H args us vs Q E hr => F.run A outer s H args us vs Q E hr.room⟩
theorem FnR.weak {k : Nat} {sp' : Sp} (F : FnR P w K mg base k f fd ps sp) (h : ∀ vs H Q E, sp' vs H Q E → sp vs H Q E) : FnR P w K mg base k f fd ps sp' :=
  ⟨fun vs H Q E q => F.len vs H Q E (h _ _ _ _ q), fun A outer s H args us vs Q E hr he hb hv hs => F.run A outer s H args us vs Q E hr he hb hv (h _ _ _ _ hs)⟩
end
/-- a def by its body -/
theorem fnR_of {P : Program} {w : World} {K : PySem.W.Frag} {mg : Str → Option Value} {base : Heap} {k : Nat} {f : Addr} {name qual : Str} {pa : Arguments} {bd : List Stmt} {sc : Scope} {dV kV doc pm cdv ct oc : Value} {an od : Option Addr}
    {osl : Array (Option Value)} {N ps : List Str} {sp : Sp}
    (lk : K.lookup f = some ⟨oc, od, .func (PySem.W.fnOf name qual pa bd sc dV kV doc pm an cdv ct), osl⟩) (hcd : PySem.W.codeIn K cdv qual = true)
    (S : FnScope N ps sc) (len : ∀ vs H Q E, sp vs H Q E → vs.length = ps.length)
    (hb : ∀ (A : Around) (outer : List Env) (s : Shared) (H : Hp) (vs : List V) (Q : VK) (E : XK), Rm k (A.deeper (envOfC qual sc s.heap.objs.size f cdv)) → sp vs H Q E →
      ∃ t, PSs (cxOf (L2.CX P w) P w K mg base N qual sc f cdv A outer s H E) bd t ∧ t { nx := fun _ H' => Q .non H', rt := Q } (start N vs) H) :
    FnR P w K mg base (k + 1) f (PySem.W.fnOf name qual pa bd sc dV kV doc pm an cdv ct) ps sp := by
  constructor
  · exact len
  intro A outer s H args us vs Q E hr e0 hbd rv hsp
  have KS : K.In s.heap := e0.mod.kin.keeps (fun b o e => (e0.bs b o e).1)
  have lm : s.heap.NoLimit := e0.mod.nolimit.keeps (fun b o e => (e0.bs b o e).1)
  have kinds : ∀ y ∈ ps.zip us, sc.names.lookup y.1 = some .local ∨ (sc.names.lookup y.1 = some .cell ∧ ((cellsFrom (s.heap.objs.size + 1) sc.names []).lookup y.1).isSome = true) := by
    rintro ⟨n, v⟩ hy
    rcases S.par n (List.of_mem_zip hy).1 with q | q
    · exact Or.inl q
    · exact Or.inr ⟨q, PySem.W.cellsFrom_some _ _ _ (Or.inl q)⟩
  have dep : A.depth < recursionLimit := by
    have := hr.dp
    omega
  refine codeAny_call_function dep (KS _ _ lk) rfl S.co S.gen rfl (PySem.W.codeRec_of KS hcd) (hbd _ _ _ _ ?_)
  refine wpAny_newFunctionEnv_cells S.kind kinds ?_
  intro env he s1 x
  subst he
  refine ⟨lm.keeps x.toInCall.keep, codeAny_func ?_⟩
  obtain ⟨t, ht, hq⟩ := hb A outer s H vs Q E (hr.down _) hsp
  have I0 : Inv (cxOf (L2.CX P w) P w K mg base N qual sc f cdv A outer s H E) [] (start N vs) H s1 := inv_start S hr.hd e0 (len _ _ _ _ hsp) rv x
  refine wpAny_mono (ht.run [] s1 (start N vs) H _ I0 hq) ?_ (fun e s' hs => hs)
  intro fl s' hs
  cases fl with
  | ret u =>
    obtain ⟨v, σ', H', J, r1, q⟩ := hs
    exact ⟨v, H', J.os, J.bare, J.base, J.hok, r1, q⟩
  | next =>
    obtain ⟨σ', H', J, q⟩ := hs
    exact ⟨V.non, H', J.os, J.bare, J.base, J.hok, rfl, q⟩
  | brk =>
    obtain ⟨_, _, _, q⟩ := hs
    exact q.elim
  | cont =>
    obtain ⟨_, _, _, q⟩ := hs
    exact q.elim
/-! ### a def of the text, all its facts -/
structure FnAt (K : PySem.W.Frag) (mg : Str → Option Value) (x : Str) (st : Stmt) (ps : List Str) where
  f : Addr
  fd : FuncData
  F : Fun K x x st f fd
  g : mg x = some (.ref f)
  b : Binds K fd ps []
section
variable {P : Program} {w : World} {K : PySem.W.Frag} {mg : Str → Option Value} {base : Heap}
/-- nothing raised leaves the body -/
theorem fun_ok {x qual : Str} {st : Stmt} {f : Addr} {fd : FuncData} {N ps : List Str} {k : Nat} {sp : Sp} (F : Fun K x qual st f fd) (S : FnScope N ps (defScope st)) (len : ∀ vs H Q E, sp vs H Q E → vs.length = ps.length)
    (hb : ∀ (cdv : Value) (A : Around) (outer : List Env) (s : Shared) (H : Hp) (vs : List V) (Q : VK) (E : XK), Rm k (A.deeper (envOfC qual (defScope st) s.heap.objs.size f cdv)) → sp vs H Q E →
      ∃ t, PSs (cxOf (L2.CX P w) P w K mg base N qual (defScope st) f cdv A outer s H E).nox (defBody st) t ∧ t { nx := fun _ H' => Q .non H', rt := Q } (start N vs) H) :
    FnR P w K mg base (k + 1) f fd ps sp := by
  obtain ⟨oc, od, kV, doc, pm, an, cdv, ct, osl, rfl, lk, hcd⟩ := F.ex
  refine fnR_of lk hcd S len ?_
  intro A outer s H vs Q E hr hsp
  obtain ⟨t, h, q⟩ := hb cdv A outer s H vs Q E hr hsp
  exact ⟨t, h.nox, q⟩
/-- errors may leave it -/
theorem fun_okX {x qual : Str} {st : Stmt} {f : Addr} {fd : FuncData} {N ps : List Str} {k : Nat} {sp : Sp} (F : Fun K x qual st f fd) (S : FnScope N ps (defScope st)) (len : ∀ vs H Q E, sp vs H Q E → vs.length = ps.length)
    (hb : ∀ (cdv : Value) (A : Around) (outer : List Env) (s : Shared) (H : Hp) (vs : List V) (Q : VK) (E : XK), Rm k (A.deeper (envOfC qual (defScope st) s.heap.objs.size f cdv)) → sp vs H Q E →
      ∃ t, PSs (cxOf (L2.CX P w) P w K mg base N qual (defScope st) f cdv A outer s H E) (defBody st) t ∧ t { nx := fun _ H' => Q .non H', rt := Q } (start N vs) H) :
    FnR P w K mg base (k + 1) f fd ps sp := by
  obtain ⟨oc, od, kV, doc, pm, an, cdv, ct, osl, rfl, lk, hcd⟩ := F.ex
  exact fnR_of lk hcd S len fun A outer s H vs Q E hr hsp => hb cdv A outer s H vs Q E hr hsp
end
/-! ### calls over such a room -/
section
variable {X : Cx} {k : Nat} {f C : Addr} {fd : FuncData} {ps : List Str} {sp : Sp} {x m : Str} {p pos apos : Pos} {e o : Expr} {es : List Expr} {ta : TE} {t : TA}
theorem runR {pins : List (Addr × Obj)} {σ : L2.St} {H : Hp} {s : Shared} {Q : VK} {E : XK} {us : List Value} {vs : List V} (F : FnR X.prog X.w X.K X.mg X.base k f fd ps sp) (hr : Rm k X.A) (hb : Binds X.K fd ps [])
    (hx : ∀ e s', L2.CX X.prog X.w X.stack H s E e s' → X.xe e s') (I : Inv X pins σ H s) (r : Vals vs us) (h : sp vs H Q E) :
    wpAny (model X.prog X.w) X.A (call (.ref f) us) (EP X pins σ Q) X.xe s := by
  have hl : us.length = ps.length := r.length.symm.trans (F.len _ _ _ _ h)
  have b := hb s us I.kIn (by rw [List.append_nil]; exact hl)
  rw [List.append_nil] at b
  refine wpAny_call (codeAny_mono (F.run X.A X.stack s H ⟨us, []⟩ us vs Q E hr I.env0 b r h) ?_)
  intro r1 s1 hq
  cases r1 with
  | error e => exact hx e s1 hq
  | ok fl =>
    cases fl with
    | ret u => exact I.after hq
    | next => exact hq.elim
    | brk => exact hq.elim
    | cont => exact hq.elim
/-- f(e, ..) of a def that raises nothing -/
theorem pe_r (F : FnR X.prog X.w X.K X.mg X.base k f fd ps sp) (hr : Rm k X.A) (hg : Gl X x) (hm : X.mg x = some (.ref f)) (hk : PySem.W.keepIn X.K (.ref f) = true) (hb : Binds X.K fd ps [])
    (ha : PA X (e :: es) t) (hdb : (x == ("__debug__" : Str)) = false := by decide) (he : starEach (e :: es) X.env = (false, eval e X.env) :: starEach es X.env := by rfl) (hpl : (backTo pos (starEach es X.env)).any (·.1) = false := by rfl) :
    PE X (.Call (.Name x p) (e :: es) [] pos) (tCallS sp (fun _ => E0) t) := by
  constructor
  intro pins s σ H Q I h
  refine wpAny_Call_Name_kw (ld_glob I hg hm ?_ hdb)
  refine PySem.W.callWith_K (h₀ := X.base) I.ok.mod.kin hk (thn (ha.run pos pins s σ H _ I h) ?_) he hpl
  rintro us s1 ⟨vs, H1, I1, r, q⟩
  exact ⟨I1.kIn, runR F hr hb (fun e s' c => passL pins σ H1 s1 e s' I1 c) I1 r q⟩
/-- f() of such -/
theorem pe_r0 (F : FnR X.prog X.w X.K X.mg X.base k f fd ps sp) (hr : Rm k X.A) (hg : Gl X x) (hm : X.mg x = some (.ref f)) (hk : PySem.W.keepIn X.K (.ref f) = true) (hb : Binds X.K fd ps [])
    (hdb : (x == ("__debug__" : Str)) = false := by decide) : PE X (.Call (.Name x p) [] [] pos) (tCallS sp (fun _ => E0) tNil) := by
  constructor
  intro pins s σ H Q I h
  refine wpAny_Call_Name_kw (ld_glob I hg hm ?_ hdb)
  exact PySem.W.callWith_K0 I.kIn hk (runR (us := []) (vs := []) F hr hb (fun e s' c => passL pins σ H s e s' I c) I .nil h)
/-- f(e, ..) of a def that may raise -/
theorem pe_rx {W : WX} (F : FnR X.prog X.w X.K X.mg X.base k f fd ps sp) (hr : Rm k X.A) (hg : Gl X x) (hm : X.mg x = some (.ref f)) (hk : PySem.W.keepIn X.K (.ref f) = true) (hb : Binds X.K fd ps []) (tk : Takes X W)
    (ha : PA X (e :: es) t) (hdb : (x == ("__debug__" : Str)) = false := by decide) (he : starEach (e :: es) X.env = (false, eval e X.env) :: starEach es X.env := by rfl) (hpl : (backTo pos (starEach es X.env)).any (·.1) = false := by rfl) :
    PE X (.Call (.Name x p) (e :: es) [] pos) (tCallS sp (WE W) t) := by
  constructor
  intro pins s σ H Q I h
  refine wpAny_Call_Name_kw (ld_glob I hg hm ?_ hdb)
  refine PySem.W.callWith_K (h₀ := X.base) I.ok.mod.kin hk (thn (ha.run pos pins s σ H _ I h) ?_) he hpl
  rintro us s1 ⟨vs, H1, I1, r, q⟩
  exact ⟨I1.kIn, runR F hr hb (fun e s' c => passAt tk σ pins H1 s1 e s' I1 c) I1 r q⟩
/-- o.m(e, ..), o.m() of an own instance -/
def tMeR (C : Addr) (m : Str) (sp : Sp) (E : L2.St → XK) (ta : TE) (t : TA) : TE := fun σ H Q => ta σ H fun x H1 => ∃ a dx fs, x = .ref a ∧ H1 a = some (.ins C dx fs) ∧ fs.lookup m = none ∧
  t σ H1 fun vs H2 => sp (x :: vs) H2 Q (E σ)
theorem pe_me {pl : Sem Bool} {W : WX} (he : PE X o ta) (c : Cls X.K C) (hm : Meth X.K C m f) (F : FnR X.prog X.w X.K X.mg X.base k f fd ps sp) (hr : Rm k X.A) (hb : Binds X.K fd ps []) (tk : Takes X W) (ha : PA X (e :: es) t)
    (hst : starEach (e :: es) X.env = (false, eval e X.env) :: starEach es X.env := by rfl) (hpl : (backTo pos (starEach es X.env)).any (·.1) = false := by rfl)
    (ht : eval (.Call (.Attribute o m apos) (e :: es) [] pos) X.env = (do
      let ov ← eval o X.env; standAt apos.atName; let (g, first) ← holding [ov] (getMethod ov m pl)
      callWith pos g first (backTo pos (starEach (e :: es) X.env)) (backToKw pos (keywordEach [] X.env))) := by rfl) :
    PE X (.Call (.Attribute o m apos) (e :: es) [] pos) (tMeR C m sp (WE W) ta t) := by
  constructor
  intro pins s σ H Q I h
  refine PySem.W.methodCall_KW (pl := pl) (thn (he.run pins s σ H _ I h) ?_) ht
  rintro u s1 ⟨x, H1, I1, rx, a, dx, fs, ex, ea, l, q⟩
  subst ex
  cases rx
  refine getmeth_ok I1 ea c hm l ?_
  refine PySem.W.callWith_K (first := [.ref a]) (h₀ := X.base) I.ok.mod.kin hm.kp (thn (ha.run pos pins s1 σ H1 _ I1 q) ?_) hst hpl
  rintro us s2 ⟨vs, H2, I2, r, q2⟩
  exact ⟨I2.kIn, runR (us := .ref a :: us) (vs := .ref a :: vs) F hr hb (fun e s' c => passAt tk σ pins H2 s2 e s' I2 c) I2 (.cons rfl r) q2⟩
theorem pe_me0 {pl : Sem Bool} {W : WX} (he : PE X o ta) (c : Cls X.K C) (hm : Meth X.K C m f) (F : FnR X.prog X.w X.K X.mg X.base k f fd ps sp) (hr : Rm k X.A) (hb : Binds X.K fd ps []) (tk : Takes X W)
    (ht : eval (.Call (.Attribute o m apos) [] [] pos) X.env = (do
      let ov ← eval o X.env; standAt apos.atName; let (g, first) ← holding [ov] (getMethod ov m pl)
      callWith pos g first (backTo pos (starEach [] X.env)) (backToKw pos (keywordEach [] X.env))) := by rfl) :
    PE X (.Call (.Attribute o m apos) [] [] pos) (tMeR C m sp (WE W) ta tNil) := by
  constructor
  intro pins s σ H Q I h
  refine PySem.W.methodCall_KW (pl := pl) (thn (he.run pins s σ H _ I h) ?_) ht
  rintro u s1 ⟨x, H1, I1, rx, a, dx, fs, ex, ea, l, q⟩
  subst ex
  cases rx
  refine getmeth_ok I1 ea c hm l ?_
  exact PySem.W.callWith_K0 (first := [.ref a]) I1.kIn hm.kp (runR (us := [.ref a]) (vs := [.ref a]) F hr hb (fun e s' c => passAt tk σ pins H1 s1 e s' I1 c) I1 (.cons rfl .nil) q)
/-- C(e, ..) -/
def tMkR (C : Addr) (sp : Sp) (E : L2.St → XK) (t : TA) : TE := fun σ H Q => t σ H fun vs H1 => ∀ x dx, H1 x = none → H1 dx = none → dx ≠ x →
  sp (.ref x :: vs) (upd (upd H1 dx (.own x)) x (.ins C dx [])) (fun v H2 => v = .non ∧ Q (.ref x) H2) (E σ)
end
end Wf
namespace Wf
open PySem PySem.Spec PyProof.Rows L2
section
variable {X : Cx} {k : Nat} {f C : Addr} {fd : FuncData} {ps : List Str} {sp : Sp} {x m : Str} {p pos apos : Pos} {e o : Expr} {es : List Expr} {ta : TE} {t : TA}
theorem makeR {pins : List (Addr × Obj)} {σ : L2.St} {H : Hp} {s : Shared} {Q : VK} {E : XK} {us : List Value} {vs : List V} (M : Mk X.K C f) (F : FnR X.prog X.w X.K X.mg X.base k f fd ps sp) (hr : Rm (k + 1) X.A) (hb : Binds X.K fd ps [])
    (hx : ∀ (H' : Hp) (s2 : Shared) (e : Value) (s' : Shared), Inv X pins σ H' s2 → L2.CX X.prog X.w X.stack H' s2 E e s' → X.xe e s') (I : Inv X pins σ H s) (r : Vals vs us)
    (h : ∀ x dx, H x = none → H dx = none → dx ≠ x → sp (.ref x :: vs) (upd (upd H dx (.own x)) x (.ins C dx [])) (fun v H2 => v = .non ∧ Q (.ref x) H2) E) :
    wpAny (model X.prog X.w) X.A (call (.ref C) us) (EP X pins σ Q) X.xe s := by
  have hq := h (s.heap.objs.size + 1) s.heap.objs.size (I.hok.fresh (Nat.le_succ _)) (I.hok.fresh (Nat.le_refl _)) (Nat.ne_of_lt (Nat.lt_succ_self _))
  have J := Inv.made (C := C) I
  have r2 : Vals (V.ref (s.heap.objs.size + 1) :: vs) (Value.ref (s.heap.objs.size + 1) :: us) := .cons rfl r
  have hl : (Value.ref (s.heap.objs.size + 1) :: us).length = ps.length := r2.length.symm.trans (F.len _ _ _ _ hq)
  have b := hb _ (Value.ref (s.heap.objs.size + 1) :: us) J.kIn (by rw [List.append_nil]; exact hl)
  rw [List.append_nil] at b
  refine wpAny_call (make_map (f := f) I.kIn M.makes M.init (beq_iff_eq.mp M.fn) (codeAny_mono (F.run _ X.stack _ _ ⟨Value.ref (s.heap.objs.size + 1) :: us, []⟩ _ _ _ E (hr.make C us []) (J.env0.make C us []) b r2 hq) ?_))
  intro r1 s1 hq'
  cases r1 with
  | error e => exact hx _ _ e s1 J hq'
  | ok fl =>
    cases fl with
    | ret u =>
      obtain ⟨v, H', I3, rv, ev, q3⟩ := J.after hq'
      subst ev
      exact ⟨rv, V.ref (s.heap.objs.size + 1), H', I3, rfl, q3⟩
    | next => exact hq'.elim
    | brk => exact hq'.elim
    | cont => exact hq'.elim
theorem pe_mk {W : WX} (M : Mk X.K C f) (F : FnR X.prog X.w X.K X.mg X.base k f fd ps sp) (hr : Rm (k + 1) X.A) (hg : Gl X x) (hm : X.mg x = some (.ref C)) (hb : Binds X.K fd ps []) (tk : Takes X W)
    (ha : PA X (e :: es) t) (hdb : (x == ("__debug__" : Str)) = false := by decide) (he : starEach (e :: es) X.env = (false, eval e X.env) :: starEach es X.env := by rfl) (hpl : (backTo pos (starEach es X.env)).any (·.1) = false := by rfl) :
    PE X (.Call (.Name x p) (e :: es) [] pos) (tMkR C sp (WE W) t) := by
  constructor
  intro pins s σ H Q I h
  refine wpAny_Call_Name_kw (ld_glob I hg hm ?_ hdb)
  refine PySem.W.callWith_K (h₀ := X.base) I.ok.mod.kin M.kp (thn (ha.run pos pins s σ H _ I h) ?_) he hpl
  rintro us s1 ⟨vs, H1, I1, r, q⟩
  exact ⟨I1.kIn, makeR M F hr hb (fun H' s2 e s' J c => passAt tk σ pins H' s2 e s' J c) I1 r q⟩
end
/-! ### own errors of one field -/
structure ExcAt (K : PySem.W.Frag) (mg : Str → Option Value) (x qual fld : Str) (st : Stmt) where
  C : Addr
  fI : Addr
  fd : FuncData
  F : Fun K "__init__" qual st fI fd
  g : mg x = some (.ref C)
  O : OexC K C
  iC : PySem.W.findIn K (.ref C) "__init__" = some (some (.ref fI))
  tI : PySem.W.typeIn K (.ref fI) = some (.type "function")
  b : Binds K fd ["self", fld] []
  no : PySem.W.findIn K (.ref C) fld = some none
  xf : XfC K C
/-- what the __init__ of such does -/
def spXI (C : Addr) (fld : Str) : Sp := fun vs H Q _ => ∃ (a : Addr) (v : V), vs = [.ref a, v] ∧ H a = some (exo a C none) ∧ ∀ d, H d = none → d ≠ a → Q .non (upd (upd H d (exd d [(fld, v)])) a (exo a C (some d)))
/-- such an error is made: the reading behind its argument -/
theorem x_go {C : Addr} {fld : Str} {v : V} {H : Hp} {Q E : XK} (h : ∀ d, H d = none → Q (.ref C) (some d) (upd H d (.xd [(fld, v)]))) :
    [v].length ≤ 1000 ∧ ∀ a, H a = none → spXI C fld (.ref a :: ([v] ++ [])) (upd H a (exo a C none))
      (fun v H2 => v = .non ∧ ∃ (d : Addr) (fs : List (Str × V)), H2 a = some (exo a C (some d)) ∧ H2 d = some (exd d fs) ∧ H d = none ∧ Q (.ref C) (some d) (upd (del H2 a) d (.xd fs))) E := by
  refine ⟨(by show 1 ≤ 1000; decide), fun a ha => ⟨a, v, rfl, upd_same, fun d hd hda => ⟨rfl, d, [(fld, v)], upd_same, ?_, ?_, ?_⟩⟩⟩
  · rw [upd_ne hda, upd_same]
  · rw [upd_ne hda] at hd
    exact hd
  · have e : upd (del (upd (upd (upd H a (exo a C none)) d (exd d [(fld, v)])) a (exo a C (some d))) a) d (.xd [(fld, v)]) = upd H d (.xd [(fld, v)]) := by
      funext b
      by_cases hb : b = d
      · subst hb
        rw [upd_same, upd_same]
      · rw [upd_ne hb, upd_ne hb]
        by_cases hc : b = a
        · subst hc
          rw [del_same, ha]
        · rw [del_ne hc, upd_ne hc, upd_ne hb, upd_ne hc]
    rw [e]
    refine h d ?_
    rw [upd_ne hda] at hd
    exact hd
/-! ### try with several clauses, some of which name what they caught -/
abbrev Clause := Value × Option Nat × (Addr → Value → Option Addr → TS)
/-- what a clause's suite is run with -/
def asEnds (D : Ends) : Option Nat → Ends
  | none => D
  | some i => { nx := fun σ H => D.nx (σ.set i none) H, rt := D.rt, bk := fun σ H => D.bk (σ.set i none) H, ct := fun σ H => D.ct (σ.set i none) H }
def asSlot (σ : L2.St) (a : Addr) : Option Nat → L2.St
  | none => σ
  | some i => σ.set i (some (.ref a))
def wCl (K : PySem.W.Frag) (Wout : WX) (D : Ends) : List Clause → WX
  | [] => Wout
  | (c, n, ts) :: r => fun cls d σ H => ∃ b, PySem.W.exmOne K cls c = some b ∧ (b = true → ∀ a, H a = none → ts a cls d (asEnds D n) (asSlot σ a n) H) ∧ (b = false → wCl K Wout D r cls d σ H)
inductive ClOk (X : Cx) : List ExceptHandler → List Clause → Prop
  | nil : ClOk X [] []
  | bare {x : Str} {c : Value} {ts : Addr → Value → Option Addr → TS} {b0 : Stmt} {suite : List Stmt} {np ps : Pos} {hds : List ExceptHandler} {l : List Clause} (hc : Names X x c)
      (hsu : ∀ (a : Addr) (oe : Obj) (cls : Value) (d : Option Addr) (pn : List (Addr × Obj)), Zc cls d oe → (∃ vs, oe.data = .fields vs) → PSs (X.suite a ((a, oe) :: pn)) (b0 :: suite) (ts a cls d)) (r : ClOk X hds l) :
      ClOk X (.ExceptHandler (some (.Name x np)) none (b0 :: suite) ps :: hds) ((c, none, ts) :: l)
  | named {x n : Str} {i : Nat} {c : Value} {ts : Addr → Value → Option Addr → TS} {b0 : Stmt} {suite : List Stmt} {np ps : Pos} {hds : List ExceptHandler} {l : List Clause} (hN : X.N.Nodup) (hi : X.N[i]? = some n) (hl : X.env.kindOf n = some .local) (hc : Names X x c)
      (hsu : ∀ (a : Addr) (oe : Obj) (cls : Value) (d : Option Addr) (pn : List (Addr × Obj)), Zc cls d oe → (∃ vs, oe.data = .fields vs) → PSs (X.suite a ((a, oe) :: pn)) (b0 :: suite) (ts a cls d)) (r : ClOk X hds l) :
      ClOk X (.ExceptHandler (some (.Name x np)) (some n) (b0 :: suite) ps :: hds) ((c, some i, ts) :: l)
section
variable {X : Cx} {body : List Stmt} {h0 : ExceptHandler} {hds : List ExceptHandler} {l : List Clause} {pos : Pos} {tb : WX → TS} {Wout : WX}
theorem ps_try_cl (hs : X.stack = X.env :: X.outer) (hf : X.env.frame = some X.env.locals) (tk : Takes X Wout)
    (hb : ∀ (W : WX) (pn : List (Addr × Obj)) (xe : Value → Shared → Prop), Takes (X.tr pn xe) W → PassesOwn (model X.prog X.w) X.A X.env xe → PSs (X.tr pn xe) body (tb W))
    (hh : ClOk X (h0 :: hds) l) : PS X (.Try body (h0 :: hds) [] [] pos) (fun D σ H => tb (wCl X.K Wout D l) D σ H) := by
  constructor
  intro pins s σ H D I h
  have ok := I.ok
  have hfr : X.A.frames = some (X.env :: X.outer) := hs ▸ ok.frames
  refine wpAny_Try_except (wpAny_mono ((hb (wCl X.K Wout D l) (X.pn ++ pins) _ ?_ PassesOwn.looking).run [] s σ H D (I.toTry _) h) ?_ (fun e s1 he => he))
  · intro u s1 xx
    obtain ⟨a, B, sI, pins', σ', H', cls, d, rfl, J', nb, up, sky, na, os, ag, w⟩ := xx
    have J : Inv X pins σ' H' sI := J'.ofTry ok
    rw [show (X.tr (X.pn ++ pins) _).stack = X.env :: X.outer from hs] at sky
    show wpAny (model X.prog X.w) X.A (noteFrame (.ref a) X.env) _ _ _
    refine Sky.land Zc.steady hfr hf sky ?_
    intro h3 fl3 up3
    have J3 : Inv X pins σ' H' { s1 with heap := h3 } := J.landed nb fl3.1 (up.trans up3) os ag
    obtain ⟨oe3, vs3, he3, hz3, hd3⟩ := fl3.there
    have nfr : a ∉ frs (X.env :: X.outer) := by
      intro hm
      obtain ⟨_, o', e', hnf⟩ := fl3.2.2.1.mem hm
      rw [he3] at e'
      cases e'
      exact hnf _ hd3
    have nL : a ≠ X.env.locals := by
      intro z
      exact nfr (List.mem_filterMap.mpr ⟨X.env, List.mem_cons_self, by rw [hf, z]⟩)
    have nF : a ∉ X.fs := by
      intro hm
      obtain ⟨e, he, q⟩ := List.mem_filterMap.mp hm
      exact nfr (List.mem_filterMap.mpr ⟨e, List.mem_cons_of_mem _ he, q⟩)
    have S3 := J3.suite he3 hd3 na nL nF
    have main : ∀ {hds' : List ExceptHandler} {l' : List Clause}, ClOk X hds' l' → wCl X.K Wout D l' cls d σ' H' →
        wpAny (model X.prog X.w) X.A (handleBy (.ref a) X.env hds') (SP X pins D) X.xe { s1 with heap := h3 } := by
      intro hds' l' hk
      have ask : ∀ {x : Str} {c : Value} {np : Pos} {Q : Value → Shared → Prop} {E : Value → Shared → Prop}, Names X x c → Q c { s1 with heap := h3 } →
          wpAny (model X.prog X.w) (X.A.mark (some (.ref a))) (eval (.Name x np) X.env) Q E { s1 with heap := h3 } := by
        intro x c np Q E hc q
        obtain ⟨hg, hdbg, hm | ⟨hm, hv, hnn⟩⟩ := hc
        · exact ld_glob (X := X.suite a ((a, oe3) :: (X.pn ++ pins))) S3 hg hm q hdbg
        · exact ld_blt (X := X.suite a ((a, oe3) :: (X.pn ++ pins))) S3 hg hm hv q hnn hdbg
      have typ : PySem.W.Looks (model X.prog X.w) h3 (typeOf (.ref a)) cls := fun A Q E s k q => wpAny_typeOf_ref (k _ _ he3) (by rw [hz3.1]; exact q)
      induction hk with
      | nil =>
        intro w
        refine wpAny_handleBy_nil ?_
        obtain ⟨k1, k2, k3, oe, vs, T, oT, ts', he, hz, hd, h1, hr⟩ := id fl3
        unfold PySem.passOn
        refine wpAny_bind (wpAny_field he hd h1 ?_)
        rw [if_neg (show ¬ ((Value.ref T == Value.none) = true) by simp)]
        have up4 : wpAny (model X.prog X.w) X.A (setFlight (.ref a) X.env.frame) (fun _ s4 => wpAny (model X.prog X.w) X.A (throw (.ref a) : Sem Flow) (SP X pins D) X.xe s4) X.xe { s1 with heap := h3 } := by
          rw [hf]
          refine HandSPX.setFlight_upZ fl3 ?_
          intro h4 hh4 u4
          refine wpAny_throw (tk _ _ ⟨a, B, sI, pins, σ', H', cls, d, rfl, J, nb, (up.trans up3).trans u4, ?_, na, os, ag, w⟩)
          rw [hs]
          exact .inr (.inr hh4)
        first
          | exact wpAny_bind (wpAny_pure (wpAny_bind up4))
          | exact wpAny_bind up4
      | @bare x c ts b0 suite np ps hds2 l2 hc hsu r ih =>
        intro w
        obtain ⟨b, hb1, hyes, hno⟩ := w
        refine wpAny_handleBy_cons (codeAny_handlers_test ?_) (fun q => by cases q)
        refine ask hc ((PySem.W.exm_one (M := model X.prog X.w) (J3.kIn) typ hb1).here ?_)
        cases b with
        | true =>
          refine codeAny_handlers_suite (HandSPX.lands_againZ fl3 ?_)
          intro h4 fl4 up4
          have J4 : Inv X pins σ' H' { s1 with heap := h4 } := J.landed nb fl4.1 ((up.trans up3).trans up4) os ag
          obtain ⟨oe4, vs4, he4, hz4, hd4⟩ := fl4.there
          refine wpAny_mono ((hsu a oe4 cls d (X.pn ++ pins) hz4 ⟨_, hd4⟩).run [] _ _ H' _ (J4.suite he4 hd4 na nL nF) (hyes rfl a na)) ?_ (fun _ _ z => z.elim)
          intro f s6 hsp
          cases f with
          | ret u =>
            obtain ⟨v6, σ6, H6, S6, r6, q6⟩ := hsp
            exact ⟨_, _, _, S6.unsuite ok, r6, q6⟩
          | next =>
            obtain ⟨σ6, H6, S6, q6⟩ := hsp
            exact ⟨_, _, S6.unsuite ok, q6⟩
          | brk =>
            obtain ⟨σ6, H6, S6, q6⟩ := hsp
            exact ⟨_, _, S6.unsuite ok, q6⟩
          | cont =>
            obtain ⟨σ6, H6, S6, q6⟩ := hsp
            exact ⟨_, _, S6.unsuite ok, q6⟩
        | false => exact ih (hno rfl)
      | @named x n i c ts b0 suite np ps hds2 l2 hN hi hl hc hsu r ih =>
        intro w
        obtain ⟨b, hb1, hyes, hno⟩ := w
        refine wpAny_handleBy_cons (codeAny_handlers_test ?_) (fun q => by cases q)
        refine ask hc ((PySem.W.exm_one (M := model X.prog X.w) (J3.kIn) typ hb1).here ?_)
        cases b with
        | true =>
          refine codeAny_handlers_suite_as (HandSPX.lands_againZ fl3 ?_)
          intro h4 fl4 up4
          have J4 : Inv X pins σ' H' { s1 with heap := h4 } := J.landed nb fl4.1 ((up.trans up3).trans up4) os ag
          obtain ⟨oe4, vs4, he4, hz4, hd4⟩ := fl4.there
          have hloc : Loc X.env.scope n := .inl hl
          refine store_ok (X := X.suite a ((a, oe4) :: (X.pn ++ pins))) (v := .ref a) (J4.suite he4 hd4 na nL nF) hN hi hloc rfl ?_ (.inr hl)
          intro s5 S5
          refine wpAny_mono ((hsu a oe4 cls d (X.pn ++ pins) hz4 ⟨_, hd4⟩).run [] s5 _ H' _ S5 (hyes rfl a na)) ?_ (fun _ _ z => z.elim)
          intro f s6 hsp
          have gone : ∀ {σ6 : L2.St} {H6 : Hp} {Q : Shared → Prop}, Inv (X.suite a ((a, oe4) :: (X.pn ++ pins))) [] σ6 H6 s6 → (∀ s7, Inv X pins (σ6.set i none) H6 s7 → Q s7) →
              wpAny (model X.prog X.w) X.A (do bindName X.env n .none; unbindBehindTheSuite X.env n ps) (fun _ s7 => Q s7) X.xe s6 := by
            intro σ6 H6 Q S6 hq
            exact gone_ok (S6.unsuite ok) hN hi hl hq
          cases f with
          | ret u =>
            obtain ⟨v6, σ6, H6, S6, r6, q6⟩ := hsp
            exact gone S6 fun s7 J7 => ⟨_, _, _, J7, r6, q6⟩
          | next =>
            obtain ⟨σ6, H6, S6, q6⟩ := hsp
            exact gone S6 fun s7 J7 => ⟨_, _, J7, q6⟩
          | brk =>
            obtain ⟨σ6, H6, S6, q6⟩ := hsp
            exact gone S6 fun s7 J7 => ⟨_, _, J7, q6⟩
          | cont =>
            obtain ⟨σ6, H6, S6, q6⟩ := hsp
            exact gone S6 fun s7 J7 => ⟨_, _, J7, q6⟩
        | false => exact ih (hno rfl)
    exact main hh w
  · intro f s1 hsp
    cases f with
    | ret u =>
      obtain ⟨v, σ', H', J', r, q⟩ := hsp
      exact ⟨v, σ', H', J'.ofTry ok, r, q⟩
    | next =>
      obtain ⟨σ', H', J', q⟩ := hsp
      exact wpAny_execs_nil ⟨σ', H', J'.ofTry ok, q⟩
    | brk =>
      obtain ⟨σ', H', J', q⟩ := hsp
      exact ⟨σ', H', J'.ofTry ok, q⟩
    | cont =>
      obtain ⟨σ', H', J', q⟩ := hsp
      exact ⟨σ', H', J'.ofTry ok, q⟩
end
/-! ### repr of data -/
def rReprD (K : PySem.W.Frag) : List V → Hp → VK → Prop := fun xs H Q => ∃ (x : V) (d : PyData), xs = [x] ∧ Dp K H x d ∧ d.showable = true ∧ d.hasDict = false ∧ d.depth ≤ 50 ∧ d.shown.length ≤ sizeLine ∧ Q (.str d.shown) H
theorem call_reprD {X : Cx} (hu : X.A.units + 64 < cLine) (hg : X.A.guards = some []) : CallR X (.builtin "repr") (rReprD X.K) := by
  intro pins s σ H xs us Q I r h
  obtain ⟨x, d, rfl, hd, hs, hn, hp, hz, q⟩ := h
  obtain ⟨u, rfl, ru⟩ := vals1 r
  obtain ⟨as, rd⟩ := Dp.reads I d x u hd ru
  cases hd with
  | non =>
    cases (show u = Value.none from ru)
    exact PySem.P.repr_of_none ⟨.str _, H, I.tok _, ⟨_, rfl⟩, q⟩
  | bl b =>
    cases (show u = Value.bool b from ru)
    exact PySem.P.repr_of_bool ⟨.str _, H, I.tok _, ⟨_, rfl⟩, q⟩
  | int i =>
    obtain ⟨t, rfl⟩ := (show ∃ t, u = Value.int i t from ru)
    exact PySem.P.repr_of_int (by simpa [PyData.showable] using hs) ⟨.str _, H, I.tok _, ⟨_, rfl⟩, q⟩
  | str y =>
    obtain ⟨t, rfl⟩ := (show ∃ t, u = Value.str y t from ru)
    exact PySem.P.repr_of_str ⟨.str _, H, I.tok _, ⟨_, rfl⟩, q⟩ hz
  | @lst a ys ds h1 h2 =>
    cases (show u = Value.ref a from ru)
    refine repr_of_reads' rd hs (PyData.noDict_hsm hn) hg (by omega) (fun _ _ e => e) ?_ hz
    intro h' u tk k
    exact ⟨.str _, H, I.kept k, ⟨_, rfl⟩, q⟩
  | @tup a ys ds h1 h2 =>
    cases (show u = Value.ref a from ru)
    refine repr_of_reads' rd hs (PyData.noDict_hsm hn) hg (by omega) (fun _ _ e => e) ?_ hz
    intro h' u tk k
    exact ⟨.str _, H, I.kept k, ⟨_, rfl⟩, q⟩
end Wf
namespace Wf
open PySem PySem.Spec PyProof.Rows L2
/-! ### objects of ours that are not tracked -/
structure Own (X : Cx) (pins : List (Addr × Obj)) (a : Addr) : Prop where
  sz : X.s_0.heap.objs.size ≤ a
  ne : a ≠ X.env.locals
  ce : ∀ x c, X.env.cells.lookup x = some c → c ≠ a
  pn : ∀ p ∈ X.pn ++ pins, p.1 ≠ a
  fs : a ∉ X.fs
section
variable {X : Cx} {pins : List (Addr × Obj)} {σ : L2.St} {H : Hp} {s : Shared} {a : Addr}
theorem own_of (I : Inv X pins σ H s) (h : s.heap.objs.size ≤ a) : Own X pins a := by
  have le : ∀ {b : Addr} {o : Obj}, s.heap.get? b = some o → b ≠ a := fun q => Nat.ne_of_lt (Nat.lt_of_lt_of_le (Heap.lt_size q) h)
  refine ⟨Nat.le_trans I.sz h, fun e => ?_, fun x c e => ?_, fun p hp => le (I.pin p hp).1, I.nofs h⟩
  · have := I.lt
    rw [← e] at this
    exact absurd (Nat.lt_of_lt_of_le this h) (Nat.lt_irrefl _)
  · obtain ⟨v, o, ho, _⟩ := I.cell x c e
    exact le ho
/-- one of ours is tracked from here on -/
theorem track (I : Inv X pins σ H s) (O : Own X pins a) (hn : H a = none) {o : HO} (ok : ObjOk X.prog X.w (upd H a o) s.heap a o) : Inv X pins σ (upd H a o) s := by
  have ne : ∀ {b : Addr} {u : HO}, H b = some u → b ≠ a := fun e => ne_of_none e hn
  have nb : ∀ {b : Addr}, b ∉ [a] → b ≠ a := fun h e => h (by rw [e]; exact List.mem_singleton.mpr rfl)
  exact I.step (h' := s.heap) (g' := s.gens) (d' := s.drawn) (t' := s.toks) (ch := [a]) (fun b hb => by rw [List.mem_singleton.mp hb]; exact ⟨.inr O.sz, O.ne, O.ce, O.pn⟩)
    (fun b u _ _ _ e _ => e) (fun b u _ _ _ e _ => ⟨u.slots, e⟩) (fun b u hb _ n => by rw [upd_ne (nb hb)]; exact n) (fun b u _ e => ⟨u, e⟩)
    (fun b xs e => by rw [upd_ne (ne e)]; exact e) (fun b u v e => by rw [upd_ne (ne e)]; exact e) (fun b ps e => ⟨#[], by rw [upd_ne (ne e), e]; simp⟩) (fun m hm => hm)
    (fun b u e => by
      by_cases hb : b = a
      · subst hb
        rw [upd_same] at e
        cases e
        exact ok
      · rw [upd_ne hb] at e
        exact (I.hok b u e).stay (fun c v _ q => q) (fun c q => by rw [upd_ne (ne q)]; exact q) fun c xs q => by rw [upd_ne (ne q)]; exact q) I.bare
theorem Inv.own1 (I : Inv X pins σ H s) (O : Own X pins a) {ob : Obj} (ha : s.heap.get? a = some ob) (hn : H a = none) (hc : ∀ v, ob.data ≠ .cell v) : Inv X ((a, ob) :: pins) σ H s :=
  I.pins_of fun p hp => by
    rcases List.mem_cons.mp hp with e | hp
    · rw [e]
      exact ⟨ha, hn, O.ne, O.fs, hc⟩
    · exact I.pin p (List.mem_append_right _ hp)
theorem Inv.own0 {q : Addr × Obj} (I : Inv X (q :: pins) σ H s) : Inv X pins σ H s := I.pins_of fun p hp => I.pin p (List.mem_append_right _ (List.mem_cons_of_mem _ hp))
theorem runA {A' : Around} {k : Nat} {f : Addr} {fd : FuncData} {ps : List Str} {sp : Sp} {Q : VK} {us : List Value} {vs : List V} (F : FnR X.prog X.w X.K X.mg X.base k f fd ps sp) (hr : Rm k A') (hf : A'.frames = X.A.frames) (hb : Binds X.K fd ps [])
    (I : Inv X pins σ H s) (r : Vals vs us) (h : sp vs H Q E0) : wpAny (model X.prog X.w) A' (call (.ref f) us) (EP X pins σ Q) (fun _ _ => False) s := by
  have hl : us.length = ps.length := r.length.symm.trans (F.len _ _ _ _ h)
  have b := hb s us I.kIn (by rw [List.append_nil]; exact hl)
  rw [List.append_nil] at b
  have e0 := I.env0
  refine wpAny_call (codeAny_mono (F.run A' X.stack s H ⟨us, []⟩ us vs Q E0 hr ⟨hf ▸ e0.frames, e0.mod, e0.bs, e0.bsz, e0.funs, e0.frf, e0.hok, e0.bare⟩ b r h) ?_)
  intro r1 s1 hq
  cases r1 with
  | error e =>
    obtain ⟨_, _, _, _, _, _, _, _, _, _, _, _, z⟩ := hq
    exact z.elim
  | ok fl =>
    cases fl with
    | ret u => exact I.after hq
    | next => exact hq.elim
    | brk => exact hq.elim
    | cont => exact hq.elim
end
/-! ### keys (int, text) -/
def lexS (p q : Int × Str) : Bool := if p.1 = q.1 then decide (p.2.cps.toList < q.2.cps.toList) else decide (p.1 < q.1)
theorem lexS_yes {p q : Int × Str} : lexS p q = true ↔ p.1 < q.1 ∨ (p.1 = q.1 ∧ p.2.cps.toList < q.2.cps.toList) := by
  unfold lexS
  by_cases h : p.1 = q.1
  · rw [if_pos h]
    simp [h]
  · rw [if_neg h]
    simp [h]
theorem lexS_no {p q : Int × Str} : lexS p q = false ↔ ¬ (p.1 < q.1 ∨ (p.1 = q.1 ∧ p.2.cps.toList < q.2.cps.toList)) := by
  rw [← lexS_yes]
  cases lexS p q <;> simp
theorem nlt_trans {a b c : List Nat} (h1 : ¬ b < a) (h2 : ¬ c < b) : ¬ c < a := by
  have h1' : a ≤ b := List.not_lt.mp h1
  have h2' : b ≤ c := List.not_lt.mp h2
  exact List.not_lt.mpr (List.le_trans h1' h2')
theorem swo_lexS {α : Type} (k : α → Int × Str) : SrtO.Swo fun v u => lexS (k v) (k u) := by
  refine ⟨fun x y h => ?_, fun x y z h1 h2 => ?_⟩
  · rcases lexS_yes.mp h with a | ⟨a, b⟩
    · refine lexS_no.mpr ?_
      rintro (c | ⟨c, _⟩) <;> omega
    · refine lexS_no.mpr ?_
      rintro (c | ⟨_, c⟩)
      · omega
      · exact List.lt_asymm b c
  · have a := lexS_no.mp h1
    have b := lexS_no.mp h2
    refine lexS_no.mpr ?_
    rintro (c | ⟨c, d⟩)
    · have h3 : (k x).1 ≤ (k y).1 := Int.not_lt.mp fun q => a (Or.inl q)
      have h4 : (k y).1 ≤ (k z).1 := Int.not_lt.mp fun q => b (Or.inl q)
      omega
    · have h3 : (k x).1 ≤ (k y).1 := Int.not_lt.mp fun q => a (Or.inl q)
      have h4 : (k y).1 ≤ (k z).1 := Int.not_lt.mp fun q => b (Or.inl q)
      have e1 : (k y).1 = (k x).1 := by omega
      have e2 : (k z).1 = (k y).1 := by omega
      exact nlt_trans (fun q => a (Or.inr ⟨e1, q⟩)) (fun q => b (Or.inr ⟨e2, q⟩)) d
/-- at v a tuple (p.1, p.2) -/
def IsKey (h : Heap) (v : Value) (p : Int × Str) : Prop := ∃ a o t u n, v = .ref a ∧ h.get? a = some o ∧ o.cls = .type "tuple" ∧ o.data = .seq #[.int p.1 t, .str p.2 u] n
theorem isKey_of {X : Cx} {pins : List (Addr × Obj)} {σ : L2.St} {H : Hp} {s : Shared} {a : Addr} {p : Int × Str} (I : Inv X pins σ H s) (h : H a = some (.tup [.int p.1, .str p.2])) : IsKey s.heap (.ref a) p := by
  obtain ⟨_, its, rv, o, ho, hc, n, hd⟩ := (show ObjOk X.prog X.w H s.heap a (.tup [.int p.1, .str p.2]) from I.hok a _ h)
  cases rv with
  | cons r1 r2 =>
    cases r2 with
    | cons r3 r4 =>
      cases r4
      obtain ⟨t, rfl⟩ := (show ∃ t, _ = Value.int p.1 t from r1)
      obtain ⟨u, rfl⟩ := (show ∃ t, _ = Value.str p.2 t from r3)
      exact ⟨a, o, t, u, n, rfl, ho, hc, hd⟩
section
variable {prog : Program} {w : World} {A : Around} {s : Shared}
theorem key_lt {v u : Value} {p q : Int × Str} (h1 : IsKey s.heap v p) (h2 : IsKey s.heap u q) : wpAny (model prog w) A (keyLt' (tuples' true) v u) (fun r s' => s' = s ∧ r = lexS p q) (fun _ _ => False) s := by
  obtain ⟨x, y⟩ := p
  obtain ⟨x', y'⟩ := q
  obtain ⟨a, o, t, u, n, e, ho, hc, hd⟩ := h1
  obtain ⟨a', o', t', u', n', e', ho', hc', hd'⟩ := h2
  rw [e, e']
  dsimp only at hd hd'
  refine PySem.W.kat_lt ho hd ho' hd' ?_
  show PySem.W.KatLex prog w A true (decide (2 < 2)) _ [(.int x t, .int x' t'), (.str y u, .str y' u')] 0 s
  refine PySem.W.kat_cons (SeqAt.EqAt.int_int x t x' t' prog w _ _ (PySem.W.kat_go (fun e1 => ?_) (fun e1 => ?_)))
  · have ex : x = x' := by simpa using e1
    refine PySem.W.kat_yes (PySem.W.kat_cons (SeqAt.EqAt.str_str y u y' u' prog w _ _ (PySem.W.kat_go (fun e2 => ?_) (fun e2 => ?_))))
    · have ey : y = y' := by simpa using e2
      refine PySem.W.kat_yes (PySem.W.kat_nil ⟨rfl, ?_⟩)
      subst ey
      subst ex
      show decide (2 < 2) = _
      unfold lexS
      rw [if_pos rfl]
      simp
    · refine PySem.W.kat_no (PySem.W.kat_one _ _ (PySem.P.lt_str ?_))
      show s = s ∧ decide (y.cps.toList < y'.cps.toList) = lexS (x, y) (x', y')
      unfold lexS
      rw [if_pos ex]
      exact ⟨rfl, rfl⟩
  · have ex : ¬ x = x' := by simpa using e1
    refine PySem.W.kat_no (oneLt_int ⟨rfl, ?_⟩)
    unfold lexS
    rw [if_neg ex]
theorem key_kind {vs : List Value} (hne : 0 < vs.length) (hk : ∀ v ∈ vs, ∃ p, IsKey s.heap v p) {Q : SortKind → Shared → Prop} {E : Value → Shared → Prop} (h : Q (tuples' true) s) : wpAny (model prog w) A (keyKind' vs.toArray) Q E s := by
  have fst : ∀ (l : List Value), (∀ v ∈ l, ∃ p, IsKey s.heap v p) → ∃ fs, PySem.W.KatTups s.heap l fs ∧ fs.length = l.length ∧ ∀ f ∈ fs, ∃ x t, f = Value.int x t := by
    intro l
    induction l with
    | nil => exact fun _ => ⟨[], PySem.W.KatTups.nil, rfl, fun f hf => by cases hf⟩
    | cons v l ih =>
      intro hl
      obtain ⟨fs, a, b, c⟩ := ih fun u hu => hl u (List.mem_cons_of_mem _ hu)
      obtain ⟨p, ad, o, t, u, n, rfl, ho, hc, hd⟩ := hl v List.mem_cons_self
      refine ⟨.int p.1 t :: fs, PySem.W.KatTups.cons ho hc hd rfl a, by rw [List.length_cons, b, List.length_cons], fun f hf => ?_⟩
      rcases List.mem_cons.mp hf with e | hf
      · exact ⟨_, _, e⟩
      · exact c f hf
  obtain ⟨fs, a, b, c⟩ := fst vs hk
  refine PySem.W.kat_kind (T := .type "int") a (by omega) (fun f hm => ?_) (by rfl) ?_
  · obtain ⟨x, t, rfl⟩ := c f hm
    exact PySem.W.Looks.now
  · have e : (Value.type "int" != Value.type "tuple") = true := by first | decide +kernel | rfl
    rw [e]
    exact h
end
/-! ### sorted(d, key=f) of a dict's texts, f a def that gives pairs (int, text) -/
def txtOf : Value → Str
  | .str z _ => z
  | _ => ⟨#[]⟩
section
variable {X : Cx} {pins : List (Addr × Obj)} {σ : L2.St} {H : Hp} {s : Shared}
/-- behind i turns -/
def KeyJ (X : Cx) (pins : List (Addr × Obj)) (σ : L2.St) (H : Hp) (key : Str → Int × Str) (ks : List Str) (a kS : Addr) (e1 : Nat) (i : Nat) (s' : Shared) : Prop :=
  ∃ (H' : Hp) (kA : Array Value) (e : Nat), Inv X ((kS, seqObj "list" kA e) :: (a, seqObj "list" #[] e1) :: pins) σ H' s' ∧ Same H H' ∧ kA.size = i ∧
    ∀ (j : Nat) (u : Value) (z : Str), kA.toList[j]? = some u → ks[j]? = some z → ∃ t, u = .ref t ∧ H' t = some (.tup [.int (key z).1, .str (key z).2])
theorem key_turn {A' : Around} {k : Nat} {f : Addr} {fd : FuncData} {sp : Sp} {x : Str} {key : Str → Int × Str} {ks : List Str} {a kS : Addr} {e1 i : Nat} {z : Str} {v : Value} {Q : Shared → Prop} {E : Value → Shared → Prop}
    (F : FnR X.prog X.w X.K X.mg X.base k f fd [x] sp) (hr : Rm k A') (hf : A'.frames = X.A.frames) (hb : Binds X.K fd [x] [])
    (hsp : ∀ z ∈ ks, ∀ (H' : Hp) (Q' : VK), Same H H' → (∀ t, H' t = none → Q' (.ref t) (upd H' t (.tup [.int (key z).1, .str (key z).2]))) → sp [.str z] H' Q' E0)
    (O1 : Own X pins a) (O2 : Own X pins kS) (hka : kS ≠ a) (hz : ks[i]? = some z) (hi : i < sizeLine) (rv : RelV (.str z) v) (J : KeyJ X pins σ H key ks a kS e1 i s)
    (h : ∀ s', KeyJ X pins σ H key ks a kS e1 (i + 1) s' → Q s') :
    wpAny (model X.prog X.w) A' (call (.ref f) [v]) (fun r s1 => wpAny (model X.prog X.w) A' (Builtin.List.listUpdate (.ref kS) (·.push r)) (fun _ s2 => Q s2) E s1) (fun _ _ => False) s := by
  obtain ⟨H1, kA, e, I, sm, hsz, hk⟩ := J
  refine thn (runA F hr hf hb I (.cons rv .nil) (hsp z (List.mem_of_getElem? hz) H1 (fun y H2 => ∃ t, y = .ref t ∧ H1 t = none ∧ H2 = upd H1 t (.tup [.int (key z).1, .str (key z).2])) sm fun t ht => ⟨t, rfl, ht, rfl⟩)) ?_
  rintro r s1 ⟨y, H2, I2, ry, t, rfl, ht, rfl⟩
  obtain rfl : r = .ref t := ry
  have hkS := I2.pin (kS, seqObj "list" kA e) (List.mem_append_right _ List.mem_cons_self)
  have ha := I2.pin (a, seqObj "list" #[] e1) (List.mem_append_right _ (List.mem_cons_of_mem _ List.mem_cons_self))
  obtain ⟨c2, hc2⟩ : ∃ c2, (s1.heap.update kS (Obj.mapSeq (·.push (.ref t)))).get? kS = some (seqObj "list" (kA.push (.ref t)) c2) := ⟨_, get?_update_seq hkS.1 (·.push (.ref t))⟩
  have sb := Heap.SameBut.update s1.heap kS (Obj.mapSeq (·.push (.ref t)))
  refine listUpdate_at hkS.1 rfl ?_ (by omega) (by rw [Array.size_push]; omega)
  refine h _ ⟨upd H1 t (.tup [.int (key z).1, .str (key z).2]), kA.push (.ref t), c2, ?_, fun b o q => ?_, by rw [Array.size_push, hsz], fun j u z' hj hz' => ?_⟩
  · have I3 : Inv X ((a, seqObj "list" #[] e1) :: pins) σ (upd H1 t (.tup [.int (key z).1, .str (key z).2])) s1 := Inv.own0 I2
    have I4 := I3.turned (t' := s1.toks) (it := kS) (h' := s1.heap.update kS (Obj.mapSeq (·.push (.ref t)))) (fun b o hb q => (sb.2 b hb).trans q) hkS.2.1 O2.ne (.inr O2.sz) O2.ce fun p hp => by
      rcases List.mem_append.mp hp with q | q
      · exact O2.pn p (List.mem_append_left _ q)
      · rcases List.mem_cons.mp q with q | q
        · rw [q]
          exact hka.symm
        · exact O2.pn p (List.mem_append_right _ q)
    refine Inv.own1 I4 ⟨O2.sz, O2.ne, O2.ce, fun p hp => ?_, O2.fs⟩ hc2 hkS.2.1 (fun v q => by cases q)
    rcases List.mem_append.mp hp with q | q
    · exact O2.pn p (List.mem_append_left _ q)
    · rcases List.mem_cons.mp q with q | q
      · rw [q]
        exact hka.symm
      · exact O2.pn p (List.mem_append_right _ q)
  · rw [upd_ne (ne_of_none (sm _ _ q) ht)]
    exact sm _ _ q
  · by_cases hji : j = i
    · subst hji
      rw [hz] at hz'
      cases hz'
      have e5 : (kA.push (Value.ref t)).toList = kA.toList ++ [Value.ref t] := by simp
      rw [e5, List.getElem?_append_right (by rw [Array.length_toList]; omega), Array.length_toList, hsz, Nat.sub_self] at hj
      cases hj
      exact ⟨t, rfl, upd_same⟩
    · have hlt : j < kA.size := by
        have q := (List.getElem?_eq_some_iff.mp hj).1
        rw [Array.length_toList, Array.size_push] at q
        omega
      have e5 : (kA.push (Value.ref t)).toList = kA.toList ++ [Value.ref t] := by simp
      rw [e5, List.getElem?_append_left (by rw [Array.length_toList]; omega)] at hj
      obtain ⟨t', e6, e7⟩ := hk j u z' hj hz'
      exact ⟨t', e6, by rw [upd_ne (ne_of_none e7 ht)]; exact e7⟩
/-- what the sort's end leaves -/
def SortE (X : Cx) (pins : List (Addr × Obj)) (σ : L2.St) (H' : Hp) (key : Str → Int × Str) (vs : List Value) (a : Addr) (s' : Shared) : Prop :=
  ∃ (out : Array Value) (c : Nat), Inv X ((a, seqObj "list" out c) :: pins) σ H' s' ∧ out.toList.Perm vs ∧ out.toList.Pairwise (fun x y => lexS (key (txtOf y)) (key (txtOf x)) = false)
theorem key_tail {A' : Around} {key : Str → Int × Str} {vs : List Value} {a kS : Addr} {e e1 : Nat} {kA : Array Value} {st : SortSt} {R : PySem.Fin → Shared → Prop} {E : Value → Shared → Prop}
    (I : Inv X ((kS, seqObj "list" kA e) :: (a, seqObj "list" #[] e1) :: pins) σ H s) (O1 : Own X pins a) (O2 : Own X pins kS) (hka : kS ≠ a) (hl : kA.size = vs.length) (hZ : vs.length ≤ sizeLine)
    (hp : ((arrOf st).map (·.2)).toList.Perm vs) (hs : ((arrOf st).map (·.2)).toList.Pairwise (fun x y => lexS (key (txtOf y)) (key (txtOf x)) = false)) (hfl : failedOf st = none)
    (h : ∀ s', SortE X pins σ H key vs a s' → R (.done (.ret .none)) s') : wpAny (model X.prog X.w) A' (ksk_tail a false e1 (.ref kS) st) R E s := by
  obtain ⟨S, hS⟩ : ∃ S, S = (arrOf st).map (·.2) := ⟨_, rfl⟩
  rw [← hS] at hp hs
  have hkS := I.pin (kS, seqObj "list" kA e) (List.mem_append_right _ List.mem_cons_self)
  have ha := I.pin (a, seqObj "list" #[] e1) (List.mem_append_right _ (List.mem_cons_of_mem _ List.mem_cons_self))
  have s1 := Heap.SameBut.update s.heap kS (Obj.mapSeq fun _ => (#[] : Array Value))
  have na1 : (s.heap.update kS (Obj.mapSeq fun _ => (#[] : Array Value))).get? a = some (seqObj "list" #[] e1) := (s1.2 a hka.symm).trans ha.1
  have s2 := Heap.SameBut.update (s.heap.update kS (Obj.mapSeq fun _ => (#[] : Array Value))) a (Obj.mapSeq fun _ => S)
  obtain ⟨c2, hc2⟩ : ∃ c2, ((s.heap.update kS (Obj.mapSeq fun _ => (#[] : Array Value))).update a (Obj.mapSeq fun _ => S)).get? a = some (seqObj "list" S c2) :=
    ⟨_, get?_update_seq na1 fun _ => S⟩
  have hout : S.size ≤ sizeLine + 1 := by
    have q := hp.length_eq
    rw [Array.length_toList] at q
    omega
  have I3 : Inv X pins σ H s := Inv.own0 (Inv.own0 I)
  have I4 := I3.turned (t' := s.toks) (it := kS) (h' := s.heap.update kS (Obj.mapSeq fun _ => (#[] : Array Value))) (fun b o hb q => (s1.2 b hb).trans q) hkS.2.1 O2.ne (.inr O2.sz) O2.ce O2.pn
  have I5 := I4.turned (t' := s.toks) (it := a) (h' := (s.heap.update kS (Obj.mapSeq fun _ => (#[] : Array Value))).update a (Obj.mapSeq fun _ => S)) (fun b o hb q => (s2.2 b hb).trans q) ha.2.1 O1.ne (.inr O1.sz) O1.ce O1.pn
  have I6 := Inv.own1 I5 O1 hc2 ha.2.1 (fun v q => by cases q)
  unfold ksk_tail
  try dsimp only
  refine wpAny_bind (listUpdate_at hkS.1 rfl ?_ (by omega) (Nat.zero_le _))
  refine wpAny_bind (wpAny_letGo ?_)
  refine wpAny_bind (seqEpoch_at na1 rfl ?_)
  simp only [Bool.false_eq_true, if_false]
  rw [← hS]
  refine wpAny_bind (listUpdate_at na1 rfl ?_ (Nat.zero_le _) hout)
  rw [hfl]
  simp only [bne_self_eq_false, Bool.false_eq_true, if_false]
  exact wpAny_pure (h _ ⟨_, c2, I6, hp, hs⟩)
theorem key_end {A' : Around} {key : Str → Int × Str} {vs : List Value} {a kS : Addr} {e e1 : Nat} {kA : Array Value} {R : PySem.Fin → Shared → Prop} {E : Value → Shared → Prop}
    (I : Inv X ((kS, seqObj "list" kA e) :: (a, seqObj "list" #[] e1) :: pins) σ H s) (O1 : Own X pins a) (O2 : Own X pins kS) (hka : kS ≠ a) (hl : kA.size = vs.length) (hZ : vs.length ≤ sizeLine)
    (hk : ∀ (j : Nat) (u v : Value), kA.toList[j]? = some u → vs[j]? = some v → IsKey s.heap u (key (txtOf v)))
    (h : ∀ s', SortE X pins σ H key vs a s' → R (.done (.ret .none)) s') : wpAny (model X.prog X.w) A' (ksk_end a false vs.toArray e1 (.ref kS) kA) R E s := by
  have hpl : (kA.zip vs.toArray).toList = kA.toList.zip vs := ksk_zip kA vs
  have hsnd : ((kA.zip vs.toArray).map (·.2)).toList = vs := by
    rw [Array.toList_map, hpl]
    exact List.map_snd_zip (by rw [show kA.toList.length = kA.size from Array.length_toList]; omega)
  unfold ksk_end
  try dsimp only
  simp only [Bool.false_eq_true, if_false]
  by_cases h2 : vs.toArray.size < 2
  · rw [if_pos h2, if_pos h2]
    refine wpAny_bind (wpAny_pure ?_)
    rw [StateT.run_pure]
    refine wpAny_bind (wpAny_pure ?_)
    try dsimp only
    refine key_tail (st := SortSt.mk' general' (kA.zip vs.toArray) #[] 7 none) I O1 O2 hka hl hZ ?_ ?_ rfl h
    · show ((kA.zip vs.toArray).map (·.2)).toList.Perm vs
      rw [hsnd]
    · show List.Pairwise _ ((kA.zip vs.toArray).map (·.2)).toList
      rw [hsnd]
      rw [List.size_toArray] at h2
      match vs, h2 with
      | [], _ => exact List.Pairwise.nil
      | [v], _ => exact List.pairwise_singleton _ _
  · rw [if_neg h2, if_neg h2]
    have hne0 : 0 < kA.toList.length := by
      rw [Array.length_toList, hl]
      rw [List.size_toArray] at h2
      omega
    have hall : SrtO.AllL (fun p : Keyed => IsKey s.heap p.1 (key (txtOf p.2))) (kA.zip vs.toArray).toList := by
      intro p hp
      rw [hpl] at hp
      obtain ⟨j, hj⟩ := List.getElem?_of_mem hp
      obtain ⟨q1, q2⟩ := List.getElem?_zip_eq_some.mp hj
      exact hk j _ _ q1 q2
    have hkk : ∀ u ∈ kA.toList, ∃ p, IsKey s.heap u p := by
      intro u hu
      obtain ⟨j, hj⟩ := List.getElem?_of_mem hu
      have hjl : j < vs.length := by
        have q := (List.getElem?_eq_some_iff.mp hj).1
        rw [Array.length_toList] at q
        omega
      exact ⟨_, hk j u vs[j] hj (List.getElem?_eq_getElem hjl)⟩
    have ekA : kA = kA.toList.toArray := by rw [Array.toArray_toList]
    rw [ekA]
    refine wpAny_bind (key_kind hne0 hkk ?_)
    rw [← ekA]
    refine wpAny_bind (wpAny_mono (SrtO.wpS_sortO (lt := fun p q : Keyed => lexS (key (txtOf p.2)) (key (txtOf q.2))) (P := fun p : Keyed => IsKey s.heap p.1 (key (txtOf p.2))) (κ := tuples' true) (st0 := SortSt.mk' (tuples' true) (kA.zip vs.toArray) #[] 7 none)
      (Q := fun _ st' => SrtO.Srtd (fun p q : Keyed => lexS (key (txtOf p.2)) (key (txtOf q.2))) (arrOf st').toList ∧ (arrOf st').toList.Perm (kA.zip vs.toArray).toList ∧ failedOf st' = none)
      (swo_lexS fun p : Keyed => key (txtOf p.2)) (fun p q hp hq => key_lt hp hq) rfl hall rfl rfl fun st' a1 a2 a3 => ⟨a1, a2.perm, a3⟩) ?_ fun _ _ e => e)
    rintro ⟨⟨⟩, st'⟩ s' ⟨rfl, hs1, hp1, hf⟩
    try dsimp only
    refine key_tail (st := st') I O1 O2 hka hl hZ ?_ ?_ hf h
    · rw [Array.toList_map]
      have q := hp1.map (fun p : Keyed => p.2)
      rw [← Array.toList_map (xs := kA.zip vs.toArray), hsnd] at q
      exact q
    · rw [Array.toList_map]
      exact List.pairwise_map.mpr hs1
theorem key_rest {A' : Around} {k : Nat} {f : Addr} {fd : FuncData} {sp : Sp} {x : Str} {key : Str → Int × Str} {ks : List Str} {vs : List Value} {a kS : Addr} {e1 : Nat} {R : PySem.Fin → Shared → Prop} {E : Value → Shared → Prop}
    (F : FnR X.prog X.w X.K X.mg X.base k f fd [x] sp) (hr : Rm k A') (hf : A'.frames = X.A.frames) (hb : Binds X.K fd [x] [])
    (hsp : ∀ z ∈ ks, ∀ (H' : Hp) (Q' : VK), Same H H' → (∀ t, H' t = none → Q' (.ref t) (upd H' t (.tup [.int (key z).1, .str (key z).2]))) → sp [.str z] H' Q' E0)
    (O1 : Own X pins a) (O2 : Own X pins kS) (hka : kS ≠ a) (hlen : vs.length = ks.length) (hZ : vs.length < sizeLine) (hvs : ∀ (j : Nat) (v : Value), vs[j]? = some v → ∃ z, ks[j]? = some z ∧ RelV (.str z) v)
    (J : KeyJ X pins σ H key ks a kS e1 0 s) (h : ∀ s' H', Same H H' → SortE X pins σ H' key vs a s' → R (.done (.ret .none)) s') :
    wpAny (model X.prog X.w) A' (ksk_rest a (.ref f) false vs.toArray e1 (.ref kS)) R E s := by
  unfold ksk_rest
  refine wpAny_bind (wpAny_rule ?_)
  first
    | rw [List.forIn_toArray]
    | (rw [← Array.forIn_toList]; simp only [List.toList_toArray])
    | rw [← Array.forIn_toList]
  refine wpAny_bind (ksk_fold (fun i s' => KeyJ X pins σ H key ks a kS e1 i s') vs 0 s J ?step ?done)
  case step =>
    intro j v s' hv hJ
    obtain ⟨z, hz, rv⟩ := hvs j v hv
    have hj := (List.getElem?_eq_some_iff.mp hv).1
    rw [Nat.zero_add] at hJ ⊢
    refine wpAny_bind (wpAny_attempt (wpAny_mono (key_turn (Q := fun s2 => KeyJ X pins σ H key ks a kS e1 (j + 1) s2) (E := E) F hr hf hb hsp O1 O2 hka hz (by omega) rv hJ fun s2 q => q) (fun r s1 hq => ?_) fun _ _ z => z.elim))
    try dsimp only
    exact wpAny_bind (thn hq fun _ s2 q => wpAny_pure ⟨rfl, q⟩)
  case done =>
    intro s' hJ
    rw [Nat.zero_add] at hJ
    obtain ⟨H', kA, e, I, sm, hsz, hk⟩ := hJ
    have hkS := I.pin (kS, seqObj "list" kA e) (List.mem_append_right _ List.mem_cons_self)
    try dsimp only
    refine wpAny_bind (listItems_at hkS.1 rfl ?_)
    refine key_end I O1 O2 hka hsz (Nat.le_of_lt hZ) (fun j u v hu hv => ?_) fun s2 q => h s2 H' sm q
    obtain ⟨z, hz, t, rfl⟩ := hvs j v hv
    obtain ⟨t', rfl, ht⟩ := hk j u z hu hz
    exact isKey_of I ht
end
def rSortKD (sp : Sp) (f : Addr) : List V → List V → Hp → VK → Prop := fun vs zs H Q => ∃ (d : Addr) (kvs : List (Key × V)) (ks : List Str) (key : Str → Int × Str), vs = [.ref d] ∧ zs = [.ref f] ∧ Rd H d (.dK kvs) ∧ kvs.map (·.1) = ks.map Sum.inr ∧ ks.length < sizeLine ∧
  (∀ z ∈ ks, ∀ (H' : Hp) (Q' : VK), Same H H' → (∀ t, H' t = none → Q' (.ref t) (upd H' t (.tup [.int (key z).1, .str (key z).2]))) → sp [.str z] H' Q' E0) ∧
  ∀ (ys : List Str) (p : Addr) (H' : Hp), ys.Perm ks → ys.Pairwise (fun x y => lexS (key y) (key x) = false) → Same H H' → H p = none → H' p = some (.lst (ys.map V.str)) → Q (.ref p) H'
theorem cr_sortK {X : Cx} {k : Nat} {f : Addr} {fd : FuncData} {sp : Sp} {x : Str} (hcalm : X.calm = true) (F : FnR X.prog X.w X.K X.mg X.base k f fd [x] sp) (hr : Rm (k + 2) X.A) (hb : Binds X.K fd [x] []) :
    CallRK X (.builtin "sorted") [Str.ofString "key"] (rSortKD sp f) := by
  intro pins s σ H vs zs us ws Q I r rz h
  obtain ⟨d, kvs, ks, key, rfl, rfl, hd, hks, hz, hsp, q⟩ := h
  obtain rfl := Vals.ref1 r
  obtain ⟨w1, rfl, e1⟩ := vals1 rz
  obtain rfl : w1 = Value.ref f := e1
  obtain ⟨z, lo, us, rel, dd⟩ := dk_rd I.hok hd
  obtain ⟨ep, hat⟩ := dd.dictAt
  have hkeys : us.map (·.1) = ks.map Sum.inr := rel.keys.symm.trans hks
  have hl : us.length = ks.length := by
    have e := congrArg List.length hkeys
    simpa using e
  show wpAny (model X.prog X.w) X.A (call (.builtin "sorted") [.ref d] [(Str.ofString "key", .ref f)]) _ _ s
  refine call_function_entry_kw kind_sorted plain_sorted entry_sorted (ksk_s1 _ _) ?_
  unfold Builtin.«sorted»
  refine wpAny_bind (m := checkCount "sorted" 1 1 _) (wpAny_pure ?_)
  refine wpAny_bind (PySem.W.kdu_collect (A := X.A.in1) (PySem.W.kdl_dict (knd := mixKind X.prog X.w) (kvs := us) (ep := ep) lo) (I.ok.hd hcalm) hat (by omega) fun h' tk acc hk hacc => ?_)
  have hal : acc.toList.length = ks.length := by rw [Array.length_toList, hacc.1, hl]
  have hvs : ∀ (j : Nat) (v : Value), acc.toList[j]? = some v → ∃ y, ks[j]? = some y ∧ RelV (.str y) v := by
    intro j v e
    obtain ⟨k', x', e1, e2⟩ := hacc.2 j v (by rw [← Array.getElem?_toList]; exact e)
    have e3 : (us.map (·.1))[j]? = some k' := by
      rw [List.getElem?_map, e1]
      rfl
    rw [hkeys, List.getElem?_map] at e3
    cases e4 : ks[j]? with
    | none =>
      rw [e4] at e3
      cases e3
    | some y =>
      rw [e4] at e3
      have e5 : Sum.inr y = k' := Option.some.inj e3
      subst e5
      obtain ⟨t, ev⟩ := Value.isStrOf_shape (x := y) (v := v) e2
      exact ⟨y, rfl, t, ev⟩
  have I1 : Inv X pins σ H { s with heap := h', toks := tk } := I.kept hk
  refine wpAny_bind (wpAny_newList ?_ (by omega))
  have hoL : (h'.push (seqObj "list" acc.toList.toArray 0)).get? h'.objs.size = some (seqObj "list" acc.toList.toArray 0) := Heap.get?_push_size _ rfl
  show wpAny _ _ _ _ _ { s with heap := h'.push (seqObj "list" acc.toList.toArray 0), toks := tk }
  refine wpAny_bind (wpAny_holding (wpAny_call_entry_kw slot_list_sort ⟨_, hoL, rfl⟩ entry_list_sort ?body (ksk_l1 _ _)))
  case body =>
    show wpAny (model X.prog X.w) X.A.in1.in1 (Builtin.«list.sort» ⟨[.ref h'.objs.size], [(Str.ofString "key", .ref f)]⟩) _ _ _
    rw [ksk_t1]
    have sb := Heap.SameBut.update (h'.push (seqObj "list" acc.toList.toArray 0)) h'.objs.size (Obj.mapSeq fun _ => (#[] : Array Value))
    obtain ⟨e1, ho1⟩ : ∃ e1, ((h'.push (seqObj "list" acc.toList.toArray 0)).update h'.objs.size (Obj.mapSeq fun _ => (#[] : Array Value))).get? h'.objs.size = some (seqObj "list" #[] e1) := ⟨_, get?_update_seq hoL fun _ => #[]⟩
    unfold ksk_tree
    refine wpAny_bind (listItems_at hoL rfl ?_)
    refine wpAny_bind (listUpdate_at hoL rfl ?_ (by rw [List.size_toArray]; omega) (Nat.zero_le _))
    refine wpAny_bind (seqEpoch_at ho1 rfl ?_)
    refine wpAny_bind (wpAny_newTuple ?_ (by show acc.toList.length ≤ _; omega))
    refine wpAny_bind (wpAny_newList ?_ (Nat.zero_le _))
    refine wpAny_holding ?_
    have hs2 : ((h'.push (seqObj "list" acc.toList.toArray 0)).update h'.objs.size (Obj.mapSeq fun _ => (#[] : Array Value))).objs.size = h'.objs.size + 1 := by rw [Heap.size_update, size_push']
    have hs3 : (((h'.push (seqObj "list" acc.toList.toArray 0)).update h'.objs.size (Obj.mapSeq fun _ => (#[] : Array Value))).push (seqObj "tuple" acc.toList.toArray 0)).objs.size = h'.objs.size + 2 := by rw [size_push', hs2]
    have O1 : Own X pins h'.objs.size := own_of I1 (Nat.le_refl _)
    have O2 : Own X pins (h'.objs.size + 2) := own_of I1 (Nat.le_add_right _ _)
    have keep : ∀ b o, h'.get? b = some o → ((((h'.push (seqObj "list" acc.toList.toArray 0)).update h'.objs.size (Obj.mapSeq fun _ => (#[] : Array Value))).push (seqObj "tuple" acc.toList.toArray 0)).push (seqObj "list" #[] 0)).get? b = some o := fun b o e =>
      Heap.get?_push_of_some _ (Heap.get?_push_of_some _ ((sb.2 b (Nat.ne_of_lt (Heap.lt_size e))).trans (Heap.get?_push_of_some _ e)))
    have I3 : Inv X pins σ H { s with heap := (((h'.push (seqObj "list" acc.toList.toArray 0)).update h'.objs.size (Obj.mapSeq fun _ => (#[] : Array Value))).push (seqObj "tuple" acc.toList.toArray 0)).push (seqObj "list" #[] 0), toks := tk } :=
      I.kept (t' := tk) fun b o e => keep b o (hk b o e)
    have ha3 : ((((h'.push (seqObj "list" acc.toList.toArray 0)).update h'.objs.size (Obj.mapSeq fun _ => (#[] : Array Value))).push (seqObj "tuple" acc.toList.toArray 0)).push (seqObj "list" #[] 0)).get? h'.objs.size = some (seqObj "list" #[] e1) :=
      Heap.get?_push_of_some _ (Heap.get?_push_of_some _ ho1)
    have hkS3 : ((((h'.push (seqObj "list" acc.toList.toArray 0)).update h'.objs.size (Obj.mapSeq fun _ => (#[] : Array Value))).push (seqObj "tuple" acc.toList.toArray 0)).push (seqObj "list" #[] 0)).get? (h'.objs.size + 2) = some (seqObj "list" #[] 0) := by
      rw [← hs3]
      exact Heap.get?_push_size _ rfl
    have na : H h'.objs.size = none := I1.hok.fresh (Nat.le_refl _)
    have nk : H (h'.objs.size + 2) = none := I1.hok.fresh (Nat.le_add_right _ _)
    have ne : h'.objs.size + 2 ≠ h'.objs.size := Nat.ne_of_gt (Nat.lt_add_of_pos_right (by decide))
    have I4 := Inv.own1 I3 O1 ha3 na (fun v q => by cases q)
    have I5 := Inv.own1 I4 ⟨O2.sz, O2.ne, O2.ce, fun p hp => by
      rcases List.mem_append.mp hp with q | q
      · exact O2.pn p (List.mem_append_left _ q)
      · rcases List.mem_cons.mp q with q | q
        · rw [q]
          exact ne.symm
        · exact O2.pn p (List.mem_append_right _ q), O2.fs⟩ hkS3 nk (fun v q => by cases q)
    show wpAny _ _ (ksk_rest h'.objs.size (.ref f) false acc.toList.toArray e1 (.ref (((h'.push (seqObj "list" acc.toList.toArray 0)).update h'.objs.size (Obj.mapSeq fun _ => (#[] : Array Value))).push (seqObj "tuple" acc.toList.toArray 0)).objs.size)) _ _ _
    rw [hs3]
    have hr2 : Rm k X.A.in1.in1 := by
      obtain ⟨a, b, c, d⟩ := hr
      refine ⟨a, ?_, ?_, d⟩
      · show X.A.depth + k + 20 < recursionLimit
        omega
      · show X.A.units + 1 + 1 + 16 * k + 500 < cLine
        omega
    refine key_rest (H := H) (ks := ks) (key := key) F hr2 rfl hb hsp O1 O2 ne hal (by omega) hvs ⟨H, #[], 0, I5, Same.refl H, rfl, fun j u y e => by simp at e⟩ fun s' H' sm hE => ⟨_, rfl, ?_⟩
    obtain ⟨out, c, I6, hp, hs⟩ := hE
    have ha6 := I6.pin (h'.objs.size, seqObj "list" out c) (List.mem_append_right _ List.mem_cons_self)
    have stq : ∀ v ∈ out.toList, ∃ t, v = Value.str (txtOf v) t := by
      intro v hv
      obtain ⟨j, hj⟩ := List.getElem?_of_mem (hp.mem_iff.mp hv)
      obtain ⟨y, _, t, rfl⟩ := hvs j v hj
      exact ⟨t, rfl⟩
    have vlq : ∀ l : List Value, (∀ v ∈ l, ∃ t, v = Value.str (txtOf v) t) → Vals ((l.map txtOf).map V.str) l := by
      intro l
      induction l with
      | nil => exact fun _ => .nil
      | cons v l ih => exact fun hl => .cons (hl v List.mem_cons_self) (ih fun u hu => hl u (List.mem_cons_of_mem _ hu))
    have hacck : acc.toList.map txtOf = ks := by
      refine List.ext_getElem? fun j => ?_
      rw [List.getElem?_map]
      cases e : acc.toList[j]? with
      | none =>
        have := List.getElem?_eq_none_iff.mp e
        rw [List.getElem?_eq_none_iff.mpr (by omega)]
        rfl
      | some v =>
        obtain ⟨y, hy, t, rfl⟩ := hvs j v e
        rw [hy]
        rfl
    have hlo : ((out.toList.map txtOf).map V.str).length ≤ sizeLine := by
      rw [List.length_map, List.length_map, hp.length_eq]
      omega
    have na6 : H' h'.objs.size = none := ha6.2.1
    have I7 : Inv X pins σ (upd H' h'.objs.size (.lst ((out.toList.map txtOf).map V.str))) s' :=
      track (Inv.own0 I6) O1 na6 (show ObjOk X.prog X.w _ _ _ (.lst ((out.toList.map txtOf).map V.str)) from ⟨hlo, out.toList, c, vlq _ stq, by rw [Array.toArray_toList]; exact ha6.1⟩)
    refine wpAny_pure ⟨_, rfl, .ref h'.objs.size, _, I7, rfl, q (out.toList.map txtOf) _ _ ?_ ?_ ?_ na upd_same⟩
    · rw [← hacck]
      exact hp.map _
    · exact List.pairwise_map.mpr hs
    · intro b o e
      rw [upd_ne (ne_of_none e na)]
      exact sm b o e
end Wf
namespace Wf
open PySem PySem.Spec PyProof.Rows L2
/-! ### list + list, of lists that are but read -/
def rCatS (K : PySem.W.Frag) : R2 := fun x y H Q => ∃ l b xs zs, x = .ref l ∧ y = .ref b ∧ SqL K H l xs ∧ SqL K H b zs ∧ xs.length + zs.length ≤ sizeLine ∧ ∀ p, H p = none → Q (.ref p) (upd H p (.lst (xs ++ zs)))
theorem op_catS {X : Cx} : OpR X (binaryOp .Add) (rCatS X.K) := by
  intro pins s σ H x y v u Q I rx ry h
  obtain ⟨l, b, xs, zs, rfl, rfl, h1, h2, hz, q⟩ := h
  cases rx
  cases ry
  obtain ⟨its, r, ⟨o, n, ho, hc, hdd, hd⟩, _⟩ := I.list h1
  obtain ⟨its2, r2, ⟨o2, n2, ho2, hc2, hdd2, hd2⟩, _⟩ := I.list h2
  obtain ⟨cls, dd, data, sl⟩ := o
  obtain ⟨cls2, dd2, data2, sl2⟩ := o2
  simp only at hc hd hc2 hd2
  subst hc hd hc2 hd2
  have e1 := r.length
  have e2 := r2.length
  have e : its.toArray ++ its2.toArray = (its ++ its2).toArray := by simp
  refine concat_meets ⟨_, ho, rfl⟩ ⟨_, ho2, rfl⟩ noFill_list_add seq_list_add PySem.F.slot_list_add PySem.F.entry_list_add (PySem.F.args_list_add_2 _ _)
    (list_addW l b its.toArray its2.toArray n n2 dd dd2 sl sl2 (by rw [List.size_toArray, List.size_toArray]; omega)) ⟨ho, ho2, ?_⟩
  rw [e]
  exact ⟨.ref _, _, I.lnew (t' := s.toks) (r.append r2) (by rw [List.length_append]; omega), rfl, q _ I.fresh⟩
/-! ### d.update(e) -/
def rUpd : V → List V → Hp → VK → Prop := fun x vs H Q => ∃ (d e : Addr) (kvs more : List (Key × V)), x = .ref d ∧ vs = [.ref e] ∧ H d = some (.dK kvs) ∧ Rd H e (.dK more) ∧ d ≠ e ∧ kvs.length + more.length ≤ sizeLine ∧ Q .non (upd H d (.dK (mergeK kvs more)))
theorem mt_dupdate {X : Cx} : MtR X "dict.update" rUpd := by
  intro pins s σ H x xs v us Q I rx rv h
  obtain ⟨d, e, kvs, more, rfl, rfl, hd, he, hne, hz, q⟩ := h
  cases rx
  obtain rfl := Vals.ref1 rv
  obtain ⟨z, lo, vs, rel, dd⟩ := dk_rd I.hok (.inl hd)
  obtain ⟨z2, lo2, vs2, rel2, dd2⟩ := dk_rd I.hok he
  have l1 := rel.length
  have l2 := rel2.length
  refine call_meetsIn PySem.F.slot_dict_update dd.typeIs PySem.F.entry_dict_update (PySem.F.args_dict_update_2 _ _) (meets_dict_update (mixKind X.prog X.w) d e hne lo2) ⟨vs, vs2, dd, dd2, by omega, fun h' hm _ hs => ?_⟩
  have hl := length_mergeK more kvs
  have ok : ObjOk X.prog X.w (upd H d (.dK (mergeK kvs more))) h' d (.dK (mergeK kvs more)) := ⟨by omega, lo, _, KV.merge rel2 rel, hm⟩
  have th : ∃ u, h'.get? d = some u := by
    obtain ⟨o, _, _, ho, _⟩ := hm
    exact ⟨o, ho⟩
  exact ⟨.non, _, I.write (t' := s.toks) (x := d) (e := d) (by rw [hd]; exact True.intro) (.inl rfl) (fun b o hb q => (hs.2 b hb).trans q) th ok, rfl, q⟩
end Wf
namespace Wf
open PySem PySem.Spec PyProof.Rows L2
/-! ### data of texts -/
section
variable {K : PySem.W.Frag} {H : Hp}
theorem dp_strs : ∀ zs : List Str, DpAll K H (zs.map V.str) (zs.map PyData.str)
  | [] => .nil
  | z :: zs => .cons (.str z) (dp_strs zs)
theorem eqv_strs : ∀ xs ys : List Str, PyData.eqvAll (xs.map PyData.str) (ys.map PyData.str) = decide (xs = ys)
  | [], [] => by simp [PyData.eqvAll]
  | [], y :: ys => by simp [PyData.eqvAll]
  | x :: xs, [] => by simp [PyData.eqvAll]
  | x :: xs, y :: ys => by
    have ih := eqv_strs xs ys
    rw [List.map_cons, List.map_cons, PyData.eqvAll, PyData.eqv, ih]
    by_cases h : x = y
    · subst h
      simp
    · simp [h]
theorem lay_strs : ∀ xs : List Str, (∀ x ∈ xs, PyData.strOk x = true) → PyData.canLayAll0 (xs.map PyData.str) = true
  | [], _ => by simp [PyData.canLayAll0]
  | x :: xs, h => by
    have ih := lay_strs xs fun y hy => h y (List.mem_cons_of_mem _ hy)
    rw [List.map_cons, PyData.canLayAll0, PyData.canLay0, ih, h x List.mem_cons_self]
    rfl
theorem depth_strs : ∀ xs : List Str, PyData.depthAll (xs.map PyData.str) = 0
  | [] => by simp [PyData.depthAll]
  | x :: xs => by
    rw [List.map_cons, PyData.depthAll, depth_strs xs, PyData.depth]
    rfl
theorem shaped_strs {xs : List Str} (h : ∀ x ∈ xs, PyData.strOk x = true) : SeqAt.shaped (.list (xs.map PyData.str)) = true := by
  unfold SeqAt.shaped
  rw [PyData.canLay0, lay_strs xs h, PyData.depth, depth_strs]
  rfl
end
end Wf
namespace Wf
open PySem PySem.Spec PyProof.Rows L2
/-! ### list of a text, a text times a number -/
def rListS : List V → Hp → VK → Prop := fun xs H Q => ∃ z : Str, xs = [.str z] ∧ z.length ≤ sizeLine ∧ ∀ p, H p = none → Q (.ref p) (upd H p (.lst (z.cps.toList.map fun c => V.str ⟨#[c]⟩)))
theorem call_listS {X : Cx} (hc : X.calm = true) : CallR X (.type "list") rListS := by
  intro pins s σ H xs us Q I r h
  obtain ⟨z, e, hz, q⟩ := h
  subst e
  obtain ⟨u, eu, rx⟩ := vals1 r
  subst eu
  obtain ⟨t, rfl⟩ := rx
  refine call_list_str (I.ok.hd hc) z t (fun h' tk acc' c' hkeep hS hacc => ?_) hz
  refine ⟨.ref s.heap.objs.size, upd H s.heap.objs.size (.lst (z.cps.toList.map fun c => V.str ⟨#[c]⟩)), I.laid hkeep (Nat.le_refl _) (show ObjOk X.prog X.w _ _ _ (.lst (z.cps.toList.map fun c => V.str ⟨#[c]⟩)) from ⟨?_, acc'.toList, c', ?_, ?_⟩), rfl, q _ (I.hok.fresh (Nat.le_refl _))⟩
  · rw [List.length_map, Array.length_toList]; exact hz
  · have el : acc'.toList.length = acc'.size := by simp
    refine vals_of_at (by rw [List.length_map, el, hacc.1, Array.length_toList]) fun j x w h1 h2 => ?_
    obtain ⟨c, u, hcu, hw⟩ := hacc.2 j w (by rw [← Array.getElem?_toList]; exact h2)
    have e2 : (z.cps.toList.map fun c => V.str (⟨#[c]⟩ : Str))[j]? = some (.str ⟨#[c]⟩) := by
      rw [List.getElem?_map, Array.getElem?_toList, hcu]
      rfl
    rw [e2] at h1
    rw [← Option.some.inj h1, hw]
    exact ⟨u, rfl⟩
  · rw [Array.toArray_toList]
    exact hS
/-- a text n times over -/
def repS (z : Str) (n : Nat) : Str := ⟨(List.replicate n z.cps).foldl (· ++ ·) #[]⟩
theorem op_rep_str {X : Cx} : OpR X (binaryOp .Mult) (fun x y H Q => ∃ (z : Str) (n : Nat), x = .str z ∧ y = .int (n : Nat) ∧ 2 ≤ n ∧ n ≤ 100000 ∧ z.length ≤ 100 ∧ (z.length == 0) = false ∧ Q (.str (repS z n)) H) := by
  intro pins s σ H x y v u Q I rx ry h
  obtain ⟨z, n, rfl, rfl, h2, hn, hz, h0, q⟩ := h
  obtain ⟨t, rfl⟩ := rx
  obtain ⟨t', rfl⟩ := ry
  have hm : z.length * n ≤ 10000000 := Nat.le_trans (Nat.mul_le_mul hz hn) (by decide)
  have hok : MulOk z (n : Int) := by
    refine ⟨?_, fun _ _ => ?_, fun _ _ => ?_⟩
    · rw [decide_eq_false (by omega), decide_eq_false (by omega)]
      rfl
    · have : (100 : Int) ≤ (2 ^ 63 - 1) / (n : Int) := (Int.le_ediv_iff_mul_le (by omega)).mpr (by omega)
      omega
    · rw [show ((n : Int).toNat) = n by simp]
      exact decide_eq_false (show ¬ z.length * n > 16777216 by omega)
  refine SB.mul hok fun t2 k => ?_
  have e : Txt.mul z (n : Int) = repS z n := by
    unfold Txt.mul repS
    rw [if_neg (by omega), if_neg (by rw [h0]; simp; omega), show ((n : Int).toNat) = n by simp]
  rw [e]
  exact ⟨.str (repS z n), H, I.tok _, ⟨_, rfl⟩, q⟩
end Wf
namespace Wf
open PySem PySem.Spec PyProof.Rows L2
/-! ### repr of a text of plain signs -/
def Asc (z : Str) : Prop := ∀ c ∈ z.cps.toList, c < 128
theorem reprChar_asc : ∀ c < 128, ∀ q ∈ [34, 39], ∀ d ∈ Builtin.Str.reprChar q c, d < 0x110000 := by decide +kernel
theorem quote_two (z : Str) : reprQuote z ∈ [34, 39] := by
  unfold reprQuote
  cases (z.cps.contains 39 && !z.cps.contains 34) <;> simp
theorem fold_repr_asc {q : Nat} (hq : q ∈ [34, 39]) : ∀ (l : List Nat) (acc : Array Nat), (∀ c ∈ l, c < 128) → (∀ d ∈ acc, d < 0x110000) → ∀ d ∈ l.foldl (fun out c => out ++ (Builtin.Str.reprChar q c).toArray) acc, d < 0x110000
  | [], acc, _, h => h
  | c :: l, acc, h1, h2 => by
    rw [List.foldl_cons]
    refine fold_repr_asc hq l _ (fun x hx => h1 x (List.mem_cons_of_mem _ hx)) fun d hd => ?_
    rw [Array.mem_append] at hd
    rcases hd with hd | hd
    · exact h2 d hd
    · exact reprChar_asc c (h1 c List.mem_cons_self) q hq d (by simpa using hd)
theorem repr_ok {z : Str} (h : Asc z) : PyData.strOk (reprText z) = true := by
  show ((z.cps.foldl (fun out c => out ++ (Builtin.Str.reprChar (reprQuote z) c).toArray) #[reprQuote z]).push (reprQuote z)).all (fun c => decide (c < 0x110000)) = true
  have hq := quote_two z
  have hq2 : reprQuote z < 0x110000 := by
    rcases List.mem_cons.mp hq with e | e
    · rw [e]; decide
    · rw [List.mem_singleton.mp e]; decide
  rw [Array.all_push, ← Array.foldl_toList, decide_eq_true hq2, Bool.and_true]
  refine Array.all_eq_true_iff_forall_mem.mpr fun d hd => decide_eq_true (fold_repr_asc hq _ _ h (fun d hd => ?_) d hd)
  rw [show d = reprQuote z by simpa using hd]
  exact hq2
theorem repr_len {z : Str} (h : Asc z) : (reprText z).length ≤ 10 * z.length + 2 := StrLaws.reprText_len z fun c hc => Nat.lt_trans (h c hc) (by decide)
theorem asc_ok {z : Str} (h : Asc z) : PyData.strOk z = true := by
  show z.cps.all (fun c => decide (c < 0x110000)) = true
  exact Array.all_eq_true_iff_forall_mem.mpr fun d hd => decide_eq_true (Nat.lt_trans (h d (Array.mem_toList_iff.mpr hd)) (by decide))
/-! ### join of single signs -/
theorem join_one_is (w : List Nat) : Txt.join "" (w.map fun c => (⟨#[c]⟩ : Str)) = ⟨w.toArray⟩ := by
  show Builtin.Str.glued _ _ = _
  rw [StrLaws.glued_eq_join]
  induction w with
  | nil => rfl
  | cons c w ih =>
    cases w with
    | nil => rfl
    | cons d w =>
      have e : Str.join "" ((c :: d :: w).map fun c => (⟨#[c]⟩ : Str)) = (⟨#[c]⟩ : Str) ++ ("" : Str) ++ Str.join "" ((d :: w).map fun c => (⟨#[c]⟩ : Str)) := rfl
      rw [e, ih]
      show (⟨(#[c] ++ #[]) ++ (d :: w).toArray⟩ : Str) = _
      simp
/-! ### two equal pairs of texts -/
theorem eqv_pair (a b : Str) : PyData.eqv (.tuple [.str a, .str b]) (.tuple [.str a, .str b]) = true := by
  rw [PyData.eqv]
  have := eqv_strs [a, b] [a, b]
  rw [decide_eq_true rfl] at this
  exact this
theorem shaped_pair {a b : Str} (ha : PyData.strOk a = true) (hb : PyData.strOk b = true) : SeqAt.shaped (.tuple [.str a, .str b]) = true := by
  have h := lay_strs [a, b] (fun x hx => by
    rcases List.mem_cons.mp hx with e | e
    · rw [e]; exact ha
    · rw [List.mem_singleton.mp e]; exact hb)
  unfold SeqAt.shaped
  rw [PyData.canLay0, show PyData.canLayAll0 [.str a, .str b] = true from h, PyData.depth, show PyData.depthAll [.str a, .str b] = 0 from depth_strs [a, b]]
  rfl
end Wf
namespace Wf
open PySem PySem.Spec PyProof.Rows L2
/-! ### the law's own def, called behind the top -/
section
variable {P : Program} {w : World} {K : PySem.W.Frag} {mg mb : Str → Option Value} {k : Nat} {fa a : Addr} {fd : FuncData} {x : Str} {sp : Sp} {s1 : Shared} {vs : List Value} {ns : List Int}
/-- the call's answer is True, and all that stood stands -/
def Tells (s1 : Shared) (r : Result) (s2 : Shared) : Prop := r = .ok (.ret (.bool true)) ∧ OldK s1.heap s2.heap ∧ s2.os = s1.os ∧ AllBare s2.gens
/-- of an abstract heap that tracks the script at most -/
theorem tells_of {H : Hp} (KX : K.In s1.heap) (hm : s1.heap.Ns mainGlobals mg) (hu : s1.heap.Ns builtinsNs mb) (hv : ∀ y : Str, y ≠ "__name__" → mb y = bootBuiltins y) (hq : s1.heap.NoLimit) (h0 : s1.gens = #[])
    (hs : s1.heap.get? a = some { cls := .type "list", data := .seq vs.toArray }) (hr : Rm k callerA)
    (F : ∀ b : Heap, K.In b → b.Ns mainGlobals mg → FnR P w K mg b k fa fd [x] sp) (hb : ∀ (s : Shared) (u : Value), BindsTo s fd ⟨[u], []⟩ [(x, u)])
    (h1 : ∀ b, H b = none ∨ (b = a ∧ K.lookup a = none ∧ ∃ o ys, H b = some (.frz o (.lst ys)))) (hk : HOk P w H s1.heap)
    (hp : sp [.ref a] H (fun v _ => v = .bl true) fun _ _ _ => False) : codeAny (model P w) callerA (.call (.ref fa) ⟨[.ref a], []⟩) (Tells s1) s1 := by
  have kb : K.In (hidT s1.heap H) := by
    intro b o e
    refine hidT_get (KX b o e) ?_
    rcases h1 b with z | ⟨z1, z2, _⟩
    · exact z
    · rw [z1, z2] at e
      cases e
  have kn : ∀ {b : Addr} {m : Str → Option Value}, s1.heap.Ns b m → (hidT s1.heap H).Ns b m := by
    rintro b m ⟨o, es, ep, e, d, r⟩
    refine ⟨o, es, ep, hidT_get e ?_, d, r⟩
    rcases h1 b with z | ⟨z1, _⟩
    · exact z
    · rw [z1, hs] at e
      cases e
      cases d
  obtain ⟨mc, q1, q2⟩ := hq
  have mod : Mod K mg (hidT s1.heap H) := ⟨kb, kn hm, ⟨mb, kn hu, hv⟩, mc, kn q1, q2⟩
  have env : Env0 P w K mg (hidT s1.heap H) callerA [] s1 H := by
    refine ⟨rfl, mod, fun b o e => of_hidT e, Nat.le_of_eq (hidT_size _ _), trivial, ?_, hk, .of_eq h0⟩
    intro b hb
    cases hb
  have run := (F _ kb (kn hm)).run callerA [] s1 H ⟨[.ref a], []⟩ [.ref a] [.ref a] _ _ hr env (hb s1 (.ref a)) (.cons rfl .nil) hp
  refine codeAny_mono run ?_
  intro r s2 h
  match r, h with
  | .error e, h =>
    obtain ⟨_, _, _, _, _, _, _, _, _, _, _, _, z⟩ := h
    exact z.elim
  | .ok .next, h => exact False.elim h
  | .ok .brk, h => exact False.elim h
  | .ok .cont, h => exact False.elim h
  | .ok (.ret u), h =>
    obtain ⟨v, H2, os, bare, un, hk2, rv, ev⟩ := h
    have ev2 : v = .bl true := ev
    subst ev2
    obtain rfl : u = Value.bool true := rv
    refine ⟨rfl, OldK.of_keep ?_, os, bare⟩
    intro b o e
    rcases h1 b with z | ⟨_, _, ob, ys, z⟩
    · refine un.keep b o e z (fun q => ?_) (by simp)
      cases q
    · obtain ⟨e1, _⟩ := hk b _ z
      obtain ⟨e2, _⟩ := hk2 b _ (un.frzs b ob _ z)
      rw [e] at e1
      cases e1
      exact e2
theorem tells (KX : K.In s1.heap) (hm : s1.heap.Ns mainGlobals mg) (hu : s1.heap.Ns builtinsNs mb) (hv : ∀ y : Str, y ≠ "__name__" → mb y = bootBuiltins y) (hq : s1.heap.NoLimit) (h0 : s1.gens = #[])
    (hs : s1.heap.get? a = some { cls := .type "list", data := .seq vs.toArray }) (hi : IntsAre vs ns) (hl : ns.length ≤ sizeLine) (hr : Rm k callerA)
    (F : ∀ b : Heap, K.In b → b.Ns mainGlobals mg → FnR P w K mg b k fa fd [x] sp) (hb : ∀ (s : Shared) (u : Value), BindsTo s fd ⟨[u], []⟩ [(x, u)])
    (hp : ∀ H : Hp, SqL K H a (ns.map V.int) → sp [.ref a] H (fun v _ => v = .bl true) fun _ _ _ => False) : codeAny (model P w) callerA (.call (.ref fa) ⟨[.ref a], []⟩) (Tells s1) s1 := by
  have rv := vals_ints hi
  have ll := hi.length
  cases e : K.lookup a with
  | some o =>
    have e2 := KX a o e
    rw [hs] at e2
    cases e2
    refine tells_of (H := fun _ => none) KX hm hu hv hq h0 hs hr F hb (fun _ => .inl rfl) (fun b u z => by cases z) (hp _ (.inr ⟨_, vs.toArray, _, e, rfl, rfl, rfl, ?_, by simpa using rv⟩))
    rw [List.size_toArray, ll]
    exact hl
  | none =>
    have key : ∀ b, (if b = a then some (HO.frz { cls := .type "list", data := .seq vs.toArray } (.lst (ns.map V.int))) else none) = none ∨ (b = a ∧ (if b = a then some (HO.frz { cls := .type "list", data := .seq vs.toArray } (.lst (ns.map V.int))) else none) = some (HO.frz { cls := .type "list", data := .seq vs.toArray } (.lst (ns.map V.int)))) := by
      intro b
      by_cases z : b = a
      · exact .inr ⟨z, if_pos z⟩
      · exact .inl (if_neg z)
    refine tells_of (H := fun b => if b = a then some (.frz { cls := .type "list", data := .seq vs.toArray } (.lst (ns.map V.int))) else none) KX hm hu hv hq h0 hs hr F hb (fun b => ?_) (fun b u z => ?_) (hp _ (.inl (.inr ⟨_, if_pos rfl⟩)))
    · rcases key b with z | ⟨z1, z2⟩
      · exact .inl z
      · exact .inr ⟨z1, e, _, _, z2⟩
    · rcases key b with q | ⟨q1, q2⟩
      · exact absurd (q.symm.trans z) (by simp)
      · have z' := q2.symm.trans z
        cases z'
        subst q1
        exact ⟨hs, by rw [List.length_map]; exact hl, vs, _, rv, hs⟩
end
/-- the goal that k_head leaves -/
theorem walkR {l : PySem.W.OpenLaw} {n k : Nat} {q : Program} {loose : List Str} {XP : (Str → Option Value) → Heap → Prop} {YP : World → Heap → Prop} {d : DefRec} {K : Params → PySem.W.Frag} {sp : PySem.W.Frag → Sp} {x : Str}
    (hn : l.most = some n) (hz : n ≤ sizeLine) (hdf : d.params.defaults = []) (hk : k ≤ 500) (hY : ∀ (w : World) (h : Heap), YP w h → (K w.params).In h)
    (F : ∀ (w : World) (mg : Str → Option Value) (fa : Addr) (h : Heap), (K w.params).In h → h.Ns mainGlobals mg → mg d.name = some (.ref fa) →
      ∃ fd : FuncData, (∀ (s : Shared) (u : Value), BindsTo s fd ⟨[u], []⟩ [(x, u)]) ∧ ∀ b : Heap, (K w.params).In b → b.Ns mainGlobals mg → FnR l.prog w (K w.params) mg b k fa fd [x] (sp (K w.params)))
    (hp : ∀ (K : PySem.W.Frag) (H : Hp) (a : Addr) (ns : List Int), ns.length ≤ n → SqL K H a (ns.map V.int) → sp K [.ref a] H (fun v _ => v = .bl true) fun _ _ _ => False) :
    PySem.W.WalkO q loose XP YP l.row.toRowW d [] (fun f vs => PySem.call f vs) := by
  refine Att.attach_call hn hdf ?_
  intro w s0 s1 mg mb fa o pm cd doc a vs ns G Y _ _ _ hmg hobj hi hlen hg
  have KX := hY w _ Y
  obtain ⟨fd, hb, hF⟩ := F w mg fa _ KX G.T.g hmg
  exact tells KX G.T.g G.T.b G.T.builtins G.T.nolimit hg hobj hi (Nat.le_trans hlen hz) (rm_caller hk) hF hb fun H hS => hp _ H a ns hlen hS
/-! ### what the top has written, made from the head's facts -/
section
variable {K : PySem.W.Frag} {h : Heap} {mg : Str → Option Value} {x : Str} {st : Stmt} {ps : List Str} {f : Addr} {oc : Value} {od an : Option Addr} {osl : Array (Option Value)} {kV doc pm cdv ct : Value}
def fnAt_mk (X : K.In h) (G : h.Ns mainGlobals mg) (a : PySem.W.nsIn K mainGlobals x = some (some (.ref f)))
    (l : K.lookup f = some ⟨oc, od, .func (PySem.W.fnOf x x (defArgs st) (defBody st) (defScope st) .none kV doc pm an cdv ct), osl⟩) (c : PySem.W.codeIn K cdv x = true) (k : PySem.W.keepIn K (.ref f) = true)
    (hb : ∀ (kV doc pm : Value) (an : Option Addr) (cdv ct : Value) (us : List Value), us.length = ps.length → bindArgs (PySem.W.fnOf x x (defArgs st) (defBody st) (defScope st) .none kV doc pm an cdv ct) ⟨us, []⟩ = pure (ps.zip us)) : FnAt K mg x st ps :=
  ⟨f, _, fun_mk l c k, PySem.W.mg_of X G a, (fun_mk l c k).binds hb⟩
theorem exm_of {A B : Addr} {b : Bool} (h1 : PySem.W.subIn K (.ref B) (.type "BaseException") = some true) (h2 : PySem.W.isClsIn K B = true) (h3 : PySem.W.typeIn K (.ref B) = some (.type "type"))
    (h4 : PySem.W.subIn K (.ref A) (.ref B) = some b) : PySem.W.exmOne K (.ref A) (.ref B) = some b := by
  have e1 : (PySem.W.subIn K (.ref B) (.type "BaseException") == some true) = true := by rw [h1]; rfl
  have e3 : ((PySem.W.clsIn K B).isSome && PySem.W.typeIn K (.ref B) == some (.type "type")) = true := by
    rw [show (PySem.W.clsIn K B).isSome = true from h2, h3]
    rfl
  unfold PySem.W.exmOne
  rw [if_pos e1]
  show (if ((PySem.W.clsIn K B).isSome && PySem.W.typeIn K (.ref B) == some (.type "type")) = true then PySem.W.subIn K (.ref A) (.ref B) else none) = some b
  rw [if_pos e3]
  exact h4
end
end Wf
namespace Wf
open PySem PySem.Spec PyProof.Rows L2
structure ExcB (K : PySem.W.Frag) (mg : Str → Option Value) (x : Str) where
  C : Addr
  g : mg x = some (.ref C)
def topS (i : Nat) : Stmt := PySem.Challenge.pw_wordfolds_k78_signatures_of_words.main.body.getD i (.Pass ⟨0, 0, 0, 0⟩)
abbrev s_NoWord_init : Stmt := inClass (topS 3) 0
abbrev N_NoWord_init : List Str := ["self", "word"]
theorem sc_NoWord_init : FnScope N_NoWord_init ["self", "word"] (defScope s_NoWord_init) := ⟨rfl, rfl, rfl, by decide +kernel, rfl, by decide +kernel, by decide +kernel⟩
abbrev s_NoLength_init : Stmt := inClass (topS 4) 0
abbrev N_NoLength_init : List Str := ["self", "length"]
theorem sc_NoLength_init : FnScope N_NoLength_init ["self", "length"] (defScope s_NoLength_init) := ⟨rfl, rfl, rfl, by decide +kernel, rfl, by decide +kernel, by decide +kernel⟩
abbrev s_is_number : Stmt := topS 6
abbrev N_is_number : List Str := ["thing"]
theorem sc_is_number : FnScope N_is_number ["thing"] (defScope s_is_number) := ⟨rfl, rfl, rfl, by decide +kernel, rfl, by decide +kernel, by decide +kernel⟩
abbrev s_check_word : Stmt := topS 9
abbrev N_check_word : List Str := ["word", "letters", "most", "one"]
theorem sc_check_word : FnScope N_check_word ["word", "letters", "most"] (defScope s_check_word) := ⟨rfl, rfl, rfl, by decide +kernel, rfl, by decide +kernel, by decide +kernel⟩
abbrev s_by_words : Stmt := topS 13
abbrev N_by_words : List Str := ["word"]
theorem sc_by_words : FnScope N_by_words ["word"] (defScope s_by_words) := ⟨rfl, rfl, rfl, by decide +kernel, rfl, by decide +kernel, by decide +kernel⟩
abbrev s_signature : Stmt := topS 14
abbrev N_signature : List Str := ["word", "length", "found", "letter", "one"]
theorem sc_signature : FnScope N_signature ["word", "length"] (defScope s_signature) := ⟨rfl, rfl, rfl, by decide +kernel, rfl, by decide +kernel, by decide +kernel⟩
abbrev s_law_source : Stmt := topS 16
abbrev N_law_source : List Str := ["cell"]
theorem sc_law_source : FnScope N_law_source ["cell"] (defScope s_law_source) := ⟨rfl, rfl, rfl, by decide +kernel, rfl, by decide +kernel, by decide +kernel⟩
abbrev s_law_draw : Stmt := topS 17
abbrev N_law_draw : List Str := ["source", "many", "digit", "mixed"]
theorem sc_law_draw : FnScope N_law_draw ["source", "many"] (defScope s_law_draw) := ⟨rfl, rfl, rfl, by decide +kernel, rfl, by decide +kernel, by decide +kernel⟩
abbrev s_law_pick : Stmt := topS 18
abbrev N_law_pick : List Str := ["source", "some"]
theorem sc_law_pick : FnScope N_law_pick ["source", "some"] (defScope s_law_pick) := ⟨rfl, rfl, rfl, by decide +kernel, rfl, by decide +kernel, by decide +kernel⟩
abbrev s_law_all_words : Stmt := topS 19
abbrev N_law_all_words : List Str := ["letters", "most", "found", "ends", "turn", "later", "word", "sign"]
theorem sc_law_all_words : FnScope N_law_all_words ["letters", "most"] (defScope s_law_all_words) := ⟨rfl, rfl, rfl, by decide +kernel, rfl, by decide +kernel, by decide +kernel⟩
abbrev s_law_is_part : Stmt := topS 22
abbrev N_law_is_part : List Str := ["one", "word", "at", "sign"]
theorem sc_law_is_part : FnScope N_law_is_part ["one", "word"] (defScope s_law_is_part) := ⟨rfl, rfl, rfl, by decide +kernel, rfl, by decide +kernel, by decide +kernel⟩
abbrev s_law_said : Stmt := topS 23
abbrev N_law_said : List Str := ["word", "length", "e"]
theorem sc_law_said : FnScope N_law_said ["word", "length"] (defScope s_law_said) := ⟨rfl, rfl, rfl, by decide +kernel, rfl, by decide +kernel, by decide +kernel⟩
abbrev s_law_right : Stmt := topS 24
abbrev N_law_right : List Str := ["source", "letters", "many", "word", "some", "size", "due", "found", "odd", "turn", "one"]
theorem sc_law_right : FnScope N_law_right ["source"] (defScope s_law_right) := ⟨rfl, rfl, rfl, by decide +kernel, rfl, by decide +kernel, by decide +kernel⟩
abbrev s_law : Stmt := topS 25
abbrev N_law : List Str := ["script", "cell", "source", "turn"]
theorem sc_law : FnScope N_law ["script"] (defScope s_law) := ⟨rfl, rfl, rfl, by decide +kernel, rfl, by decide +kernel, by decide +kernel⟩
structure Tx (K : PySem.W.Frag) (mg : Str → Option Value) where
  is_number : FnAt K mg "is_number" s_is_number ["thing"]
  check_word : FnAt K mg "check_word" s_check_word ["word", "letters", "most"]
  by_words : FnAt K mg "by_words" s_by_words ["word"]
  signature : FnAt K mg "signature" s_signature ["word", "length"]
  law_source : FnAt K mg "_law_source" s_law_source ["cell"]
  law_draw : FnAt K mg "_law_draw" s_law_draw ["source", "many"]
  law_pick : FnAt K mg "_law_pick" s_law_pick ["source", "some"]
  law_all_words : FnAt K mg "_law_all_words" s_law_all_words ["letters", "most"]
  law_is_part : FnAt K mg "_law_is_part" s_law_is_part ["one", "word"]
  law_said : FnAt K mg "_law_said" s_law_said ["word", "length"]
  law_right : FnAt K mg "_law_right" s_law_right ["source"]
  law : FnAt K mg "law" s_law ["script"]
  NoWord : ExcAt K mg "NoWord" "NoWord.__init__" "word" s_NoWord_init
  NoLength : ExcAt K mg "NoLength" "NoLength.__init__" "length" s_NoLength_init
  FoldError : ExcB K mg "FoldError"
  x_NoWord_NoWord : PySem.W.exmOne K (.ref NoWord.C) (.ref NoWord.C) = some true
  x_NoLength_NoWord : PySem.W.exmOne K (.ref NoLength.C) (.ref NoWord.C) = some false
  x_NoLength_NoLength : PySem.W.exmOne K (.ref NoLength.C) (.ref NoLength.C) = some true
  n_isinstance : mg "isinstance" = none
  n_int : mg "int" = none
  n_bool : mg "bool" = none
  n_str : mg "str" = none
  n_len : mg "len" = none
  n_dict : mg "dict" = none
  n_sorted : mg "sorted" = none
  n_abs : mg "abs" = none
  n_range : mg "range" = none
  n_list : mg "list" = none
  n_repr : mg "repr" = none
  t_SIGNS : Tok
  m_SIGNS : mg "SIGNS" = some (.str "abcd" t_SIGNS)
  t_MOST_TESTED : Tok
  m_MOST_TESTED : mg "MOST_TESTED" = some (.int 200 t_MOST_TESTED)
  t_MOST_LENGTH : Tok
  m_MOST_LENGTH : mg "MOST_LENGTH" = some (.int 4 t_MOST_LENGTH)
end Wf
local macro_rules | `(tactic| walk_at "at") => `(tactic| first | exact L2.at_of (j := 0) rfl (by rfl) | exact L2.at_of (j := 1) rfl (by rfl) | exact L2.at_of (j := 2) rfl (by rfl))
local macro_rules | `(tactic| walk_at "side") => `(tactic| first | exact Or.inl ⟨by omega, by omega⟩ | exact Or.inr ⟨by omega, by omega⟩ | (show (0 : Int) < _; omega) | (refine ⟨?_, ?_, ?_⟩ <;> decide) | (refine ⟨?_, ?_⟩ <;> first | omega | decide) | omega)
local macro_rules | `(tactic| walk_at "one") => `(tactic| first
  | refine ⟨_, rfl, ?_⟩
  | refine ⟨_, _, rfl, rfl, ?_⟩
  | refine Or.inl ⟨_, rfl, ?_⟩
  | refine Or.inr ⟨_, rfl, ?_⟩
  | refine ⟨_, _, _, _, rfl, rfl, by assumption, by walk_at "at", ?_⟩
  | refine And.intro (by walk_at "side") ?_)
local macro_rules | `(tactic| walk_at "go") => `(tactic| repeat walk_at "one")
namespace Wf
open PySem PySem.Spec PyProof.Rows L2
/-- the source of draws -/
def Src (H : Hp) (s : Addr) : Prop := ∃ a b c : Int, H s = some (.lst [.int a, .int b, .int c])
/-- what a draw leaves -/
def Ext (s : Addr) (H H' : Hp) : Prop := Src H' s ∧ ∀ b o, b ≠ s → H b = some o → H' b = some o
theorem Ext.seq {K : PySem.W.Frag} {s a : Addr} {H H' : Hp} {xs : List V} (e : Ext s H H') (h : SqL K H a xs) (n : a ≠ s) : SqL K H' a xs := by
  rcases h with (h | ⟨o, h⟩) | h
  · exact .inl (.inl (e.2 _ _ n h))
  · exact .inl (.inr ⟨o, e.2 _ _ n h⟩)
  · exact .inr h
section
variable {P : Program} {w : World} {K : PySem.W.Frag} {mg : Str → Option Value} {base : Heap}
def spSource : Sp := fun vs H Q _ => ∃ c : Int, vs = [.int c] ∧ ∀ s H', H s = none → Src H' s → (∀ b o, H b = some o → H' b = some o) → Q (.ref s) H'
theorem ok_law_source (T : Tx K mg) : FnR P w K mg base 1 T.law_source.f T.law_source.fd ["cell"] spSource := by
  refine fun_ok T.law_source.F sc_law_source (fun vs H Q E h => ?_) (fun cdv A outer s H vs Q E hr h => ?_)
  · obtain ⟨c, rfl, _⟩ := h
    rfl
  · obtain ⟨c, rfl, q⟩ := h
    refine ⟨_, (pss_cons (ps_set (i := 0) sc_law_source.nd rfl (Or.inl rfl) (pe_callB call_abs (by rfl) T.n_abs (by decide +kernel) (pa_cons (pv 0) pa_nil)))
      (pss_one (ps_ret (pe_lst (pa_cons (pe_op op_mul (pv 0) (pe_callTy call_int1 (by rfl) T.n_int (by decide +kernel) (pa_cons (pe_cmpR op_ge (pv 0) (pe_op op_pow pe_int pe_int) (nomark _)) pa_nil))) (pa_cons (pe_op op_mod (pe_callTy call_int1 (by rfl) T.n_int (by decide +kernel) (pa_cons (pv 0) pa_nil)) pe_int) (pa_cons pe_int pa_nil))))))), ?_⟩
    walk_at "go"
    refine ⟨(by show 3 ≤ sizeLine; decide), fun p hp => ?_⟩
    refine q p _ hp ⟨_, _, _, upd_same⟩ fun b o e => ?_
    rw [upd_ne (ne_of_none e hp)]
    exact e
def spDraw : Sp := fun vs H Q _ => ∃ (s : Addr) (n : Int), vs = [.ref s, .int n] ∧ 0 < n ∧ n < 2 ^ 60 ∧ Src H s ∧ ∀ d H', 0 ≤ d → d < n → Ext s H H' → Q (.int d) H'
theorem ext_upd {s : Addr} {H : Hp} {a b c : Int} : Ext s H (upd H s (.lst [.int a, .int b, .int c])) := ⟨⟨a, b, c, upd_same⟩, fun x o n e => by rw [upd_ne n]; exact e⟩
theorem ok_law_draw (T : Tx K mg) : FnR P w K mg base 1 T.law_draw.f T.law_draw.fd ["source", "many"] spDraw := by
  refine fun_ok T.law_draw.F sc_law_draw (fun vs H Q E h => ?_) (fun cdv A outer s H vs Q E hr h => ?_)
  · obtain ⟨c, n, rfl, _⟩ := h
    rfl
  · obtain ⟨c, n, rfl, hn, hn2, ⟨x, y, z, hs⟩, q⟩ := h
    refine ⟨_, (pss_cons (ps_if (pt_cmpR op_gt (pe_ix ix_list (pv 0) pe_int (fun _ _ => rfl)) pe_int (nomark _)) (pss_cons (ps_set (i := 2) sc_law_draw.nd rfl (Or.inl rfl) (pe_op op_mod (pe_callTy call_int1 (by rfl) T.n_int (by decide +kernel) (pa_cons (pe_ix ix_list (pv 0) pe_int (fun _ _ => rfl)) pa_nil)) (pv 1)))
      (pss_cons (ps_asg (pe_op op_fdivW (pe_ix ix_list (pv 0) pe_int (fun _ _ => rfl)) (pv 1)) (pg_sub (pv 0) pe_int set_list))
      (pss_one (ps_ret (pv 2))))) pss_nil)
      (pss_cons (ps_asg (pe_op op_add (pe_ix ix_list (pv 0) pe_int (fun _ _ => rfl)) pe_int) (pg_sub (pv 0) pe_int set_list))
      (pss_cons (ps_set (i := 3) sc_law_draw.nd rfl (Or.inl rfl) (pe_op op_mod (pe_callTy call_int1 (by rfl) T.n_int (by decide +kernel) (pa_cons (pe_op op_mul (pe_op op_add (pe_op op_add (pe_ix ix_list (pv 0) pe_int (fun _ _ => rfl)) (pe_op op_mul pe_int (pe_ix ix_list (pv 0) pe_int (fun _ _ => rfl)))) pe_int) pe_int) pa_nil)) pe_int))
      (pss_cons (ps_set (i := 3) sc_law_draw.nd rfl (Or.inl rfl) (pe_op op_mod (pe_callTy call_int1 (by rfl) T.n_int (by decide +kernel) (pa_cons (pe_op op_mul (pv 3) (pe_op op_add (pe_op op_fdiv (pv 3) pe_int) pe_int)) pa_nil)) pe_int))
      (pss_one (ps_ret (pe_op op_mod (pe_callTy call_int1 (by rfl) T.n_int (by decide +kernel) (pa_cons (pe_op op_fdiv (pe_op op_mod (pe_callTy call_int1 (by rfl) T.n_int (by decide +kernel) (pa_cons (pe_op op_mul (pv 3) (pe_op op_add (pe_op op_fdiv (pv 3) pe_int) pe_int)) pa_nil)) pe_int) pe_int) pa_nil)) (pv 1)))))))), ?_⟩
    have hS : SqL K H c [.int x, .int y, .int z] := .inl (.inl hs)
    walk_at "go"
    refine ite2 (fun e => ?_) (fun e => ?_)
    · walk_at "go"
      refine ⟨wide_div (b := 60) hn (by omega) (by decide) (by decide), ?_⟩
      walk_at "go"
      refine ⟨c, _, 0, 0, rfl, rfl, hs, rfl, ?_⟩
      walk_at "go"
      exact q _ _ (Int.emod_nonneg _ (by omega)) (Int.emod_lt_of_pos _ hn) ext_upd
    · walk_at "go"
      refine ⟨c, _, 2, 2, rfl, rfl, hs, rfl, ?_⟩
      have hS2 : SqL K (upd H c (.lst [.int x, .int y, .int (z + 1)])) c [.int x, .int y, .int (z + 1)] := .inl (.inl upd_same)
      walk_at "go"
      exact q _ _ (Int.emod_nonneg _ (by omega)) (Int.emod_lt_of_pos _ hn) ext_upd
end
end Wf
namespace Wf
open PySem PySem.Spec PyProof.Rows L2
section
variable {P : Program} {w : World} {K : PySem.W.Frag} {mg : Str → Option Value} {base : Heap}
/-! is_number -/
def isNum : V → Bool
  | .int _ => true
  | _ => false
def spIsNum (K : PySem.W.Frag) : Sp := fun vs H Q _ => ∃ (x : V) (t : Value) (b1 b2 : Bool), vs = [x] ∧ TyX K H x t ∧ PySem.W.kitOne K t (.type "int") = some b1 ∧ (b1 = true → PySem.W.kitOne K t (.type "bool") = some b2) ∧ Q (.bl (b1 && !b2)) H
theorem ok_is_number (T : Tx K mg) : FnR P w K mg base 1 T.is_number.f T.is_number.fd ["thing"] (spIsNum K) := by
  refine fun_ok T.is_number.F sc_is_number (fun vs H Q E h => ?_) (fun cdv A outer s H vs Q E hr h => ?_)
  · obtain ⟨x, _, _, _, rfl, _⟩ := h
    rfl
  · obtain ⟨x, t, b1, b2, rfl, ty, k1, k2, q⟩ := h
    refine ⟨_, (pss_one (ps_ret (pe_and (pe_callB call_isi (by rfl) T.n_isinstance (by decide +kernel) (pa_cons (pv 0) (pa_cons (pe_bltn (v := .ty "int") (u := .type "int") (by rfl) T.n_int (by decide +kernel) rfl) pa_nil))) (pe_one (pe_not (pe_callB call_isi (by rfl) T.n_isinstance (by decide +kernel) (pa_cons (pv 0) (pa_cons (pe_bltn (v := .ty "bool") (u := .type "bool") (by rfl) T.n_bool (by decide +kernel) rfl) pa_nil)))))))), ?_⟩
    refine ⟨_, rfl, x, _, t, _, b1, rfl, .ty "int", ty, k1, b1, rfl, ?_⟩
    cases b1 with
    | true => exact ⟨_, rfl, x, _, t, _, b2, rfl, .ty "bool", ty, k2 rfl, b2, rfl, q⟩
    | false => exact q
/-! by_words -/
def spByWords : Sp := fun vs H Q _ => ∃ z : Str, vs = [.str z] ∧ z.length ≤ sizeLine ∧ ∀ t, H t = none → Q (.ref t) (upd H t (.tup [.int (z.length : Nat), .str z]))
theorem ok_by_words (T : Tx K mg) : FnR P w K mg base 1 T.by_words.f T.by_words.fd ["word"] spByWords := by
  refine fun_ok T.by_words.F sc_by_words (fun vs H Q E h => ?_) (fun cdv A outer s H vs Q E hr h => ?_)
  · obtain ⟨z, rfl, _⟩ := h
    rfl
  · obtain ⟨z, rfl, hz, q⟩ := h
    refine ⟨_, (pss_one (ps_ret (pe_tup (pa_cons (pe_callB call_len_str (by rfl) T.n_len PySem.boot_len (pa_cons (pv 0) pa_nil)) (pa_cons (pv 0) pa_nil))))), ?_⟩
    refine ⟨_, rfl, z, rfl, hz, _, rfl, (by show 2 ≤ sizeLine; decide), q⟩
/-! _law_pick -/
def spPick (K : PySem.W.Frag) : Sp := fun vs H Q _ => ∃ (s l : Addr) (xs : List V), vs = [.ref s, .ref l] ∧ Src H s ∧ SqL K H l xs ∧ l ≠ s ∧ 0 < xs.length ∧ xs.length < 2 ^ 50 ∧ ∀ (i : Nat) (v : V) H', xs[i]? = some v → Ext s H H' → Q v H'
theorem ok_law_pick (T : Tx K mg) : FnR P w K mg base 2 T.law_pick.f T.law_pick.fd ["source", "some"] (spPick K) := by
  have G_law_draw : FnR P w K mg base 1 T.law_draw.f T.law_draw.fd ["source", "many"] spDraw := ok_law_draw T
  refine fun_ok T.law_pick.F sc_law_pick (fun vs H Q E h => ?_) (fun cdv A outer s H vs Q E hr h => ?_)
  · obtain ⟨_, _, _, rfl, _⟩ := h
    rfl
  · obtain ⟨c, l, xs, rfl, hs, hl, hne, h0, h1, q⟩ := h
    refine ⟨_, (pss_one (ps_ret (pe_ix ix_list (pv 1) (pe_r G_law_draw (hr.low (by decide)) (by rfl) T.law_draw.g T.law_draw.F.kp T.law_draw.b (pa_cons (pv 0) (pa_cons (pe_callB call_len_seq (by rfl) T.n_len PySem.boot_len (pa_cons (pv 1) pa_nil)) pa_nil))) (fun _ _ => rfl)))), ?_⟩
    refine ⟨_, rfl, _, rfl, _, rfl, l, xs, rfl, .inl hl, c, _, rfl, by omega, by omega, hs, fun d H' d0 d1 e => ?_⟩
    have hd : d = (d.toNat : Int) := (Int.toNat_of_nonneg d0).symm
    have hlt : d.toNat < xs.length := by omega
    exact ⟨l, xs, d, xs[d.toNat], rfl, rfl, e.seq hl hne, at_of hd (List.getElem?_eq_getElem hlt), q d.toNat _ H' (List.getElem?_eq_getElem hlt) e⟩
/-! _law_is_part -/
def partAt (o : List Nat) : List Nat → Nat
  | w => w.foldl (fun a c => if o[a]? = some c then a + 1 else a) 0
theorem partAt_le (o w : List Nat) : partAt o w ≤ o.length := by
  have : ∀ (w : List Nat) (a : Nat), a ≤ o.length → w.foldl (fun a c => if o[a]? = some c then a + 1 else a) a ≤ o.length := by
    intro w
    induction w with
    | nil => exact fun a h => h
    | cons c w ih =>
      intro a h
      refine ih _ ?_
      show (if o[a]? = some c then a + 1 else a) ≤ o.length
      by_cases e : o[a]? = some c
      · rw [if_pos e]
        have := (List.getElem?_eq_some_iff.mp e).1
        omega
      · rw [if_neg e]
        exact h
  exact this w 0 (Nat.zero_le _)
theorem cut_one {z : Str} {a : Nat} (h : a ≤ z.length) (hz : z.length ≤ sizeLine) : cutS z (some (a : Int)) (some ((a : Int) + 1)) = ⟨((z.cps.toList.drop a).take 1).toArray⟩ := by
  unfold cutS
  rw [HT.sIx_nat, show ((a : Int) + 1) = ((a + 1 : Nat) : Int) by omega, HT.sIx_nat]
  by_cases e : a = z.length
  · rw [show min a z.length = a by omega, show min (a + 1) z.length = a by omega, Nat.sub_self, List.take_zero, e]
    rw [List.drop_of_length_le (by rw [Array.length_toList]; exact Nat.le_refl _)]
    rfl
  · rw [show min a z.length = a by omega, show min (a + 1) z.length = a + 1 by omega, Nat.add_sub_cancel_left]
def spPart : Sp := fun vs H Q _ => ∃ o z : Str, vs = [.str o, .str z] ∧ o.length ≤ sizeLine ∧ z.length ≤ sizeLine ∧ Q (.bl (decide (partAt o.cps.toList z.cps.toList = o.length))) H
theorem ok_law_is_part (T : Tx K mg) : FnR P w K mg base 1 T.law_is_part.f T.law_is_part.fd ["one", "word"] spPart := by
  refine fun_ok T.law_is_part.F sc_law_is_part (fun vs H Q E h => ?_) (fun cdv A outer s H vs Q E hr h => ?_)
  · obtain ⟨_, _, rfl, _⟩ := h
    rfl
  · obtain ⟨o, z, rfl, ho, hz, q⟩ := h
    refine ⟨_, (pss_cons (ps_set (i := 2) sc_law_is_part.nd rfl (Or.inl rfl) pe_int)
      (pss_cons (ps_for PassesOwn.never rfl (pi_str (pv 1)) (pg_name (i := 3) sc_law_is_part.nd rfl (.inl rfl)) (pss_one (ps_set (i := 2) sc_law_is_part.nd rfl (Or.inl rfl) (pe_op op_add (pv 2) (pe_callTy call_int1 (by rfl) T.n_int (by decide +kernel) (pa_cons (pe_and (pe_cmpR op_lt (pv 2) (pe_callB call_len_str (by rfl) T.n_len PySem.boot_len (pa_cons (pv 0) pa_nil)) (nomark _)) (pe_one (pe_cmpR op_eq (pe_slice sl_str (pv 0) (po_some (pv 2)) (po_some (pe_op op_add (pv 2) pe_int))) (pv 3) (nomark _)))) pa_nil))))))
      (pss_one (ps_ret (pe_cmpR op_eq (pv 2) (pe_callB call_len_str (by rfl) T.n_len PySem.boot_len (pa_cons (pv 0) pa_nil)) (nomark _)))))), ?_⟩
    walk_at "go"
    refine for_it (walk_str (z := z)) (fun i σ H' => ∃ y, σ = [some (.str o), some (.str z), some (.int (partAt o.cps.toList (z.cps.toList.take i) : Nat)), y] ∧ H' = H) ⟨none, rfl, rfl⟩ (fun _ _ _ _ _ => True.intro) ?_ ?_
    · rintro i x σ H1 H2 hi ⟨y, rfl, rfl⟩ ⟨rfl, c, hc, rfl⟩
      have hc' : z.cps.toList[i]? = some c := by rw [Array.getElem?_toList]; exact hc
      have hp := partAt_le o.cps.toList (z.cps.toList.take i)
      have hol : o.cps.toList.length = o.length := Array.length_toList
      have step : partAt o.cps.toList (z.cps.toList.take (i + 1)) = if o.cps.toList[partAt o.cps.toList (z.cps.toList.take i)]? = some c then partAt o.cps.toList (z.cps.toList.take i) + 1 else partAt o.cps.toList (z.cps.toList.take i) := by
        unfold partAt
        rw [List.take_add_one, hc', List.foldl_append]
        rfl
      walk_at "go"
      refine ite2 (fun e => ?_) (fun e => ?_)
      · have hlt : partAt o.cps.toList (z.cps.toList.take i) < o.length := by
          have := of_decide_eq_true e
          omega
        walk_at "go"
        rw [cut_one (by omega) ho]
        refine ⟨rfl, ?_⟩
        walk_at "go"
        refine ⟨some (V.str ⟨#[c]⟩), ?_, rfl⟩
        have e1 : (o.cps.toList.drop (partAt o.cps.toList (z.cps.toList.take i))).take 1 = [o.cps.toList[partAt o.cps.toList (z.cps.toList.take i)]] := by
          rw [List.drop_eq_getElem_cons (by omega), List.take_succ_cons, List.take_zero]
          all_goals rfl
        have e2 : o.cps.toList[partAt o.cps.toList (z.cps.toList.take i)]? = some (o.cps.toList[partAt o.cps.toList (z.cps.toList.take i)]) := List.getElem?_eq_getElem (by omega)
        rw [e1, step, e2]
        generalize o.cps.toList[partAt o.cps.toList (z.cps.toList.take i)] = g
        by_cases hg : g = c
        · subst hg
          rw [if_pos rfl, decide_eq_true rfl]
          rfl
        · rw [if_neg (fun q => hg (Option.some.inj q)), decide_eq_false (fun q => hg (by
            have q1 := congrArg (fun v => match v with | V.str z => z.cps.toList | _ => []) q
            simpa using q1))]
          show [some (V.str o), some (V.str z), some (V.int (((partAt o.cps.toList (z.cps.toList.take i) : Nat) : Int) + 0)), some (V.str ⟨#[c]⟩)] = _
          rw [Int.add_zero]
      · walk_at "go"
        refine ⟨some (V.str ⟨#[c]⟩), ?_, rfl⟩
        have hge : ¬ partAt o.cps.toList (z.cps.toList.take i) < o.length := fun q => e (decide_eq_true (by omega))
        rw [step, List.getElem?_eq_none (by omega), if_neg (show ¬ (none : Option Nat) = some c by simp)]
        show [some (V.str o), some (V.str z), some (V.int (((partAt o.cps.toList (z.cps.toList.take i) : Nat) : Int) + 0)), some (V.str ⟨#[c]⟩)] = _
        rw [Int.add_zero]
    · rintro σ H1 ⟨y, rfl, rfl⟩
      walk_at "go"
      refine ⟨rfl, ?_⟩
      have e0 : z.cps.toList.take z.cps.size = z.cps.toList := List.take_of_length_le (by rw [Array.length_toList]; exact Nat.le_refl _)
      rw [e0]
      have e1 : decide (V.int (partAt o.cps.toList z.cps.toList : Nat) = V.int (o.length : Nat)) = decide (partAt o.cps.toList z.cps.toList = o.length) := by
        refine decide_eq_decide.mpr ⟨fun q => ?_, fun q => by rw [q]⟩
        have := V.int.inj q
        omega
      rw [e1]
      exact q
end
end Wf
namespace Wf
open PySem L2
/-! ## words as lists of signs, in plain Lean -/
abbrev Wd := List Nat
/-! ### a pointer that goes on tells a sublist -/
theorem part_snoc (o w : Wd) (c : Nat) : partAt o (w ++ [c]) = if o[partAt o w]? = some c then partAt o w + 1 else partAt o w := by
  unfold partAt
  rw [List.foldl_append]
  rfl
/-- the pointer stands behind the longest beginning that is a sublist -/
theorem part_iff (o : Wd) : ∀ (w : Wd) (k : Nat), k ≤ o.length → (k ≤ partAt o w ↔ (o.take k).Sublist w) := by
  intro w
  induction hn : w.length generalizing w with
  | zero =>
    intro k hk
    have e : w = [] := List.eq_nil_of_length_eq_zero hn
    subst e
    rw [List.sublist_nil, List.take_eq_nil_iff]
    show k ≤ 0 ↔ _
    constructor
    · intro h
      left
      omega
    · rintro (h | h)
      · omega
      · rw [h] at hk
        simpa using hk
  | succ n ih =>
    intro k hk
    obtain ⟨w', c, rfl⟩ : ∃ w' c, w = w' ++ [c] := ⟨w.dropLast, w.getLast (by intro e; rw [e] at hn; simp at hn), (List.dropLast_concat_getLast _).symm⟩
    have hl : w'.length = n := by simpa using hn
    have ih' := ih w' hl
    rw [part_snoc]
    cases k with
    | zero => simp
    | succ k =>
      have et : o.take (k + 1) = o.take k ++ [o[k]] := by rw [List.take_succ_eq_append_getElem (by omega)]
      rw [et, List.sublist_append_iff]
      constructor
      · intro h
        by_cases hle : k + 1 ≤ partAt o w'
        · have := (ih' (k + 1) hk).mp hle
          rw [et] at this
          exact ⟨_, [], by rw [List.append_nil], this, List.nil_sublist _⟩
        · have hp : partAt o w' = k := by
            split at h <;> omega
          rw [hp] at h
          have hc : o[k]? = some c := by
            by_cases e : o[k]? = some c
            · exact e
            · rw [if_neg e] at h
              omega
          have hc' : o[k] = c := by
            rw [List.getElem?_eq_getElem (by omega)] at hc
            exact Option.some.inj hc
          refine ⟨o.take k, [o[k]], rfl, (ih' k (by omega)).mp (by omega), ?_⟩
          rw [hc']
          exact List.Sublist.refl _
      · rintro ⟨l1, l2, e, h1, h2⟩
        rcases List.eq_nil_or_concat l2 with e2 | ⟨l3, d, e2⟩
        · subst e2
          rw [List.append_nil] at e
          have := (ih' (k + 1) hk).mpr (by rw [et, e]; exact h1)
          split <;> omega
        · have hl3 : l3 = [] ∧ d = c := by
            have := h2.length_le
            rw [e2] at this
            have h0 : l3 = [] := List.eq_nil_of_length_eq_zero (by rw [List.length_concat] at this; have h9 : [c].length = 1 := rfl; omega)
            subst h0
            rw [e2] at h2
            exact ⟨rfl, by simpa using h2⟩
          rw [e2, hl3.1, hl3.2, List.concat_eq_append, List.nil_append] at e
          obtain ⟨e3, e4⟩ := List.append_inj' e rfl
          have hk2 := (ih' k (by omega)).mpr (by rw [e3]; exact h1)
          by_cases hlt : k < partAt o w'
          · split <;> omega
          · have hp : partAt o w' = k := by omega
            have e5 : o[k] = c := by simpa using e4
            rw [hp, List.getElem?_eq_getElem (by omega), e5, if_pos rfl]
            exact Nat.le_refl _
theorem part_all (o w : Wd) : partAt o w = o.length ↔ o.Sublist w := by
  have h := part_iff o w o.length (Nat.le_refl _)
  rw [List.take_length] at h
  have := partAt_le o w
  constructor
  · intro e
    exact h.mp (by omega)
  · intro e
    have := h.mpr e
    omega
/-! ### the subwords, by keys that are added -/
def addW (ks : List Wd) (k : Wd) : List Wd := if ks.contains k then ks else ks ++ [k]
def addsW (ks more : List Wd) : List Wd := more.foldl addW ks
theorem mem_addW {ks : List Wd} {k x : Wd} : x ∈ addW ks k ↔ x ∈ ks ∨ x = k := by
  unfold addW
  split
  · rename_i h
    have h' : k ∈ ks := by simpa using h
    constructor
    · exact Or.inl
    · rintro (h | h)
      · exact h
      · rw [h]
        exact h'
  · simp
theorem nd_addW {ks : List Wd} {k : Wd} (h : ks.Nodup) : (addW ks k).Nodup := by
  unfold addW
  split
  · exact h
  · rename_i hn
    have hn' : k ∉ ks := by simpa using hn
    rw [List.nodup_append]
    refine ⟨h, by simp, ?_⟩
    intro a ha b hb e
    rw [List.mem_singleton] at hb
    exact hn' (by rw [← hb, ← e]; exact ha)
theorem mem_addsW : ∀ {more ks : List Wd} {x : Wd}, x ∈ addsW ks more ↔ x ∈ ks ∨ x ∈ more
  | [], ks, x => by simp [addsW]
  | k :: more, ks, x => by
    have ih := mem_addsW (more := more) (ks := addW ks k) (x := x)
    show x ∈ addsW (addW ks k) more ↔ _
    rw [ih, mem_addW, List.mem_cons]
    exact or_assoc
theorem nd_addsW : ∀ {more ks : List Wd}, ks.Nodup → (addsW ks more).Nodup
  | [], ks, h => h
  | k :: more, ks, h => nd_addsW (more := more) (nd_addW h)
/-- the keys behind a word -/
def Keys (w : Wd) (L : Nat) (ks : List Wd) : Prop := ks.Nodup ∧ ∀ s, s ∈ ks ↔ s.Sublist w ∧ s.length ≤ L
theorem keys_nil (L : Nat) : Keys [] L [[]] := by
  refine ⟨by simp, fun s => ?_⟩
  rw [List.mem_singleton, List.sublist_nil]
  constructor
  · intro e
    subst e
    exact ⟨rfl, Nat.zero_le _⟩
  · exact fun h => h.1
theorem keys_snoc {w : Wd} {L c : Nat} {ks : List Wd} (h : Keys w L ks) : Keys (w ++ [c]) L (addsW ks (addsW [] ((ks.filter fun s => decide (s.length < L)).map (· ++ [c])))) := by
  obtain ⟨h1, h2⟩ := h
  refine ⟨nd_addsW h1, fun s => ?_⟩
  rw [mem_addsW, mem_addsW, List.sublist_append_iff]
  constructor
  · rintro (q | q | q)
    · obtain ⟨a, b⟩ := (h2 s).mp q
      exact ⟨⟨s, [], by rw [List.append_nil], a, List.nil_sublist _⟩, b⟩
    · cases q
    · obtain ⟨t, ht, e⟩ := List.mem_map.mp q
      obtain ⟨ht1, ht2⟩ := List.mem_filter.mp ht
      have hlt := of_decide_eq_true ht2
      subst e
      refine ⟨⟨t, [c], rfl, ((h2 t).mp ht1).1, List.Sublist.refl _⟩, ?_⟩
      rw [List.length_append, List.length_singleton]
      omega
  · rintro ⟨⟨l1, l2, e, a, b⟩, hl⟩
    rcases List.eq_nil_or_concat l2 with e2 | ⟨l3, d, e2⟩
    · subst e2
      rw [List.append_nil] at e
      subst e
      exact Or.inl ((h2 s).mpr ⟨a, hl⟩)
    · have hl3 : l3 = [] ∧ d = c := by
        have := b.length_le
        rw [e2] at this
        have h0 : l3 = [] := List.eq_nil_of_length_eq_zero (by rw [List.length_concat] at this; have h9 : [c].length = 1 := rfl; omega)
        subst h0
        rw [e2] at b
        exact ⟨rfl, by simpa using b⟩
      rw [e2, hl3.1, hl3.2, List.concat_eq_append, List.nil_append] at e
      subst e
      rw [List.length_append, List.length_singleton] at hl
      exact Or.inr (Or.inr (List.mem_map.mpr ⟨l1, List.mem_filter.mpr ⟨(h2 l1).mpr ⟨a, by omega⟩, decide_eq_true (by omega)⟩, rfl⟩))
/-! ### all words -/
def signs (k : Nat) : List Nat := [97, 98, 99, 100].take k
def nextW (k : Nat) (ends : List Wd) : List Wd := ends.flatMap fun w => (signs k).map fun c => w ++ [c]
def allW (k : Nat) : Nat → List Wd × List Wd
  | 0 => ([[]], [[]])
  | n + 1 => ((allW k n).1 ++ nextW k (allW k n).2, nextW k (allW k n).2)
theorem mem_next {k : Nat} {ends : List Wd} {x : Wd} : x ∈ nextW k ends ↔ ∃ w ∈ ends, ∃ c ∈ signs k, x = w ++ [c] := by
  unfold nextW
  rw [List.mem_flatMap]
  constructor
  · rintro ⟨w, hw, hx⟩
    obtain ⟨c, hc, e⟩ := List.mem_map.mp hx
    exact ⟨w, hw, c, hc, e.symm⟩
  · rintro ⟨w, hw, c, hc, e⟩
    exact ⟨w, hw, List.mem_map.mpr ⟨c, hc, e.symm⟩⟩
theorem mem_ends (k : Nat) : ∀ (n : Nat) (x : Wd), x ∈ (allW k n).2 ↔ x.length = n ∧ ∀ c ∈ x, c ∈ signs k
  | 0, x => by
    show x ∈ [[]] ↔ _
    rw [List.mem_singleton]
    constructor
    · intro e
      subst e
      exact ⟨rfl, fun c hc => by cases hc⟩
    · exact fun h => List.eq_nil_of_length_eq_zero h.1
  | n + 1, x => by
    show x ∈ nextW k (allW k n).2 ↔ _
    rw [mem_next]
    constructor
    · rintro ⟨w, hw, c, hc, e⟩
      obtain ⟨h1, h2⟩ := (mem_ends k n w).mp hw
      subst e
      refine ⟨by rw [List.length_append, h1, List.length_singleton], fun d hd => ?_⟩
      rcases List.mem_append.mp hd with q | q
      · exact h2 d q
      · rw [List.mem_singleton.mp q]
        exact hc
    · rintro ⟨h1, h2⟩
      have hne : x ≠ [] := by
        intro e
        rw [e] at h1
        simp at h1
      refine ⟨x.dropLast, (mem_ends k n _).mpr ⟨by rw [List.length_dropLast]; omega, fun c hc => h2 c ((List.dropLast_sublist x).subset hc)⟩, x.getLast hne, h2 _ (List.getLast_mem hne), (List.dropLast_concat_getLast hne).symm⟩
theorem mem_all (k : Nat) : ∀ (n : Nat) (x : Wd), x ∈ (allW k n).1 ↔ x.length ≤ n ∧ ∀ c ∈ x, c ∈ signs k
  | 0, x => by
    have := mem_ends k 0 x
    show x ∈ [[]] ↔ _
    rw [show ([[]] : List Wd) = (allW k 0).2 from rfl, this]
    exact and_congr_left' (by omega)
  | n + 1, x => by
    show x ∈ (allW k n).1 ++ (allW k (n + 1)).2 ↔ _
    rw [List.mem_append, mem_all k n, mem_ends k (n + 1)]
    constructor
    · rintro (⟨a, b⟩ | ⟨a, b⟩)
      · exact ⟨by omega, b⟩
      · exact ⟨by omega, b⟩
    · rintro ⟨a, b⟩
      by_cases e : x.length ≤ n
      · exact Or.inl ⟨e, b⟩
      · exact Or.inr ⟨by omega, b⟩
/-- the order of words -/
def Less (x y : Wd) : Prop := x.length < y.length ∨ (x.length = y.length ∧ x < y)
theorem less_asym {x y : Wd} (h : Less x y) : ¬ Less y x := by
  rintro (q | ⟨q, q2⟩)
  · rcases h with h | ⟨h, _⟩ <;> omega
  · rcases h with h | ⟨_, h2⟩
    · omega
    · exact List.lt_asymm h2 q2
theorem lt_snoc {x y : Wd} {c d : Nat} (hl : x.length = y.length) (h : x < y ∨ (x = y ∧ c < d)) : x ++ [c] < y ++ [d] := by
  induction x generalizing y with
  | nil =>
    have e : y = [] := List.eq_nil_of_length_eq_zero hl.symm
    subst e
    rcases h with h | ⟨_, h⟩
    · exact absurd h (List.lt_irrefl _)
    · exact List.cons_lt_cons_iff.mpr (Or.inl h)
  | cons a x ih =>
    cases y with
    | nil => simp at hl
    | cons b y =>
      have hl' : x.length = y.length := by simpa using hl
      rw [List.cons_append, List.cons_append]
      refine List.cons_lt_cons_iff.mpr ?_
      rcases h with h | ⟨h, h2⟩
      · rcases List.cons_lt_cons_iff.mp h with q | ⟨q, q2⟩
        · exact Or.inl q
        · exact Or.inr ⟨q, ih hl' (Or.inl q2)⟩
      · obtain ⟨e1, e2⟩ := List.cons.inj h
        exact Or.inr ⟨e1, ih hl' (Or.inr ⟨e2, h2⟩)⟩
theorem signs_lt (k : Nat) : (signs k).Pairwise (· < ·) := by
  unfold signs
  exact List.Pairwise.sublist (List.take_sublist _ _) (by decide)
theorem ends_lt (k : Nat) : ∀ n, (allW k n).2.Pairwise (· < ·)
  | 0 => List.pairwise_singleton _ _
  | n + 1 => by
    show (nextW k (allW k n).2).Pairwise (· < ·)
    have hlen : ∀ x ∈ (allW k n).2, x.length = n := fun x hx => ((mem_ends k n x).mp hx).1
    have ih := ends_lt k n
    unfold nextW
    generalize (allW k n).2 = l at hlen ih
    induction l with
    | nil => exact List.Pairwise.nil
    | cons a l ih2 =>
      rw [List.flatMap_cons, List.pairwise_append]
      refine ⟨?_, ih2 (fun x hx => hlen x (List.mem_cons_of_mem _ hx)) (List.pairwise_cons.mp ih).2, ?_⟩
      · exact List.pairwise_map.mpr ((signs_lt k).imp fun {c d} h => lt_snoc rfl (Or.inr ⟨rfl, h⟩))
      · intro x hx y hy
        obtain ⟨c, hc, rfl⟩ := List.mem_map.mp hx
        obtain ⟨b, hb, hy⟩ := List.mem_flatMap.mp hy
        obtain ⟨d, hd, rfl⟩ := List.mem_map.mp hy
        refine lt_snoc ?_ (Or.inl ((List.pairwise_cons.mp ih).1 b hb))
        rw [hlen a List.mem_cons_self, hlen b (List.mem_cons_of_mem _ hb)]
theorem all_less (k : Nat) : ∀ n, (allW k n).1.Pairwise Less
  | 0 => List.pairwise_singleton _ _
  | n + 1 => by
    show ((allW k n).1 ++ (allW k (n + 1)).2).Pairwise Less
    rw [List.pairwise_append]
    refine ⟨all_less k n, ?_, ?_⟩
    · have hlen : ∀ x ∈ (allW k (n + 1)).2, x.length = n + 1 := fun x hx => ((mem_ends k (n + 1) x).mp hx).1
      refine List.Pairwise.imp_of_mem ?_ (ends_lt k (n + 1))
      intro a b ha hb h
      exact Or.inr ⟨by rw [hlen a ha, hlen b hb], h⟩
    · intro x hx y hy
      have h1 := ((mem_all k n x).mp hx).1
      have h2 := ((mem_ends k (n + 1) y).mp hy).1
      exact Or.inl (by omega)
/-- two lists in a strict order with the same members are one -/
theorem sorted_one {α : Type} {R : α → α → Prop} (asym : ∀ a b, R a b → ¬ R b a) : ∀ {l m : List α}, l.Pairwise R → m.Pairwise R → (∀ x, x ∈ l ↔ x ∈ m) → l = m
  | [], [], _, _, _ => rfl
  | [], b :: m, _, _, h => absurd ((h b).mpr List.mem_cons_self) (by simp)
  | a :: l, [], _, _, h => absurd ((h a).mp List.mem_cons_self) (by simp)
  | a :: l, b :: m, hl, hm, h => by
    obtain ⟨l1, l2⟩ := List.pairwise_cons.mp hl
    obtain ⟨m1, m2⟩ := List.pairwise_cons.mp hm
    have e : a = b := by
      rcases List.mem_cons.mp ((h a).mp List.mem_cons_self) with q | q
      · exact q
      · rcases List.mem_cons.mp ((h b).mpr List.mem_cons_self) with q2 | q2
        · exact q2.symm
        · exact absurd (l1 b q2) (asym _ _ (m1 a q))
    subst e
    have irr : ∀ x, R a x → x ≠ a := fun x r e => by
      rw [e] at r
      exact asym _ _ r r
    refine congrArg (a :: ·) (sorted_one asym l2 m2 fun x => ⟨fun hx => ?_, fun hx => ?_⟩)
    · rcases List.mem_cons.mp ((h x).mp (List.mem_cons_of_mem _ hx)) with q | q
      · exact absurd q (irr x (l1 x hx))
      · exact q
    · rcases List.mem_cons.mp ((h x).mpr (List.mem_cons_of_mem _ hx)) with q | q
      · exact absurd q (irr x (m1 x hx))
      · exact q
/-- a list without repetitions is no longer than one that has its members -/
theorem nd_len {α : Type} [DecidableEq α] : ∀ {l m : List α}, l.Nodup → (∀ x ∈ l, x ∈ m) → l.length ≤ m.length
  | [], _, _, _ => Nat.zero_le _
  | a :: l, m, h, hs => by
    obtain ⟨h1, h2⟩ := List.nodup_cons.mp h
    have ha : a ∈ m := hs a List.mem_cons_self
    have ih := nd_len (l := l) (m := m.erase a) h2 fun x hx => by
      have hne : x ≠ a := fun e => h1 (by rw [← e]; exact hx)
      exact (List.mem_erase_of_ne hne).mpr (hs x (List.mem_cons_of_mem _ hx))
    rw [List.length_erase_of_mem ha] at ih
    have : 0 < m.length := List.length_pos_of_mem ha
    rw [List.length_cons]
    omega
theorem all_len : (allW 4 4).1.length = 341 := by decide +kernel
theorem keys_len {w : Wd} {L : Nat} {ks : List Wd} (h : Keys w L ks) (hL : L ≤ 4) (hw : ∀ c ∈ w, c ∈ signs 4) : ks.length ≤ 341 := by
  rw [← all_len]
  refine nd_len h.1 fun x hx => ?_
  obtain ⟨a, b⟩ := (h.2 x).mp hx
  exact (mem_all 4 4 x).mpr ⟨by omega, fun c hc => hw c (a.subset hc)⟩
/-- THE LAW's own list is the sorted keys -/
theorem due_is {w : Wd} {L n : Nat} {ks ys : List Wd} (h : Keys w L ks) (hw : ∀ c ∈ w, c ∈ signs 4) (hL : L ≤ n) (hp : ys.Perm ks) (hs : ys.Pairwise fun x y => ¬ Less y x) :
    ((allW 4 n).1.filter fun x => decide (x.length ≤ L) && decide (x.Sublist w)) = ys := by
  have hnd : ys.Nodup := hp.nodup_iff.mpr h.1
  refine sorted_one (fun a b => less_asym) ((all_less 4 n).sublist List.filter_sublist) ?_ fun x => ?_
  · refine List.Pairwise.imp₂ (R := fun x y => ¬ Less y x) (S := (· ≠ ·)) ?_ hs hnd
    intro a b h1 h2
    rcases Nat.lt_trichotomy a.length b.length with q | q | q
    · exact Or.inl q
    · refine Or.inr ⟨q, ?_⟩
      rcases List.le_total a b with z | z
      · rcases List.le_iff_lt_or_eq.mp z with z | z
        · exact z
        · exact absurd z h2
      · rcases List.le_iff_lt_or_eq.mp z with z | z
        · exact absurd (Or.inr ⟨q.symm, z⟩) h1
        · exact absurd z.symm h2
    · exact absurd (Or.inl q) h1
  · rw [List.mem_filter, mem_all, hp.mem_iff, h.2, Bool.and_eq_true, decide_eq_true_iff, decide_eq_true_iff]
    constructor
    · rintro ⟨⟨_, _⟩, a, b⟩
      exact ⟨b, a⟩
    · rintro ⟨a, b⟩
      exact ⟨⟨by omega, fun c hc => hw c (a.subset hc)⟩, b, a⟩
end Wf
namespace Wf
open PySem PySem.Spec PyProof.Rows L2
section
variable {P : Program} {w : World} {K : PySem.W.Frag} {mg : Str → Option Value} {base : Heap}
theorem ok_NoWord_init (T : Tx K mg) : FnOk P w K mg base CX0 1 T.NoWord.fI T.NoWord.fd ["self", "word"] (spXI T.NoWord.C "word") := by
  refine T.NoWord.F.ok sc_NoWord_init (fun vs H Q E h => ?_) (fun cdv A outer s H vs Q E hr h => ?_)
  · obtain ⟨_, _, rfl, _⟩ := h
    rfl
  · obtain ⟨a, v, rfl, ha, q⟩ := h
    refine ⟨_, pss_one (ps_ost (pv 0) (pv 1)), ?_⟩
    refine ⟨_, rfl, _, rfl, a, T.NoWord.C, rfl, T.NoWord.O, T.NoWord.no, .inl ⟨ha, fun d hd hda => q d hd hda⟩⟩
/-- a word of at most m of the first n letters -/
def isWord (n m : Nat) : V → Bool
  | .str z => decide (z.length ≤ m) && z.cps.toList.all fun c => ([97, 98, 99, 100].take n).contains c
  | _ => false
/-- the signs that are not among the first n letters -/
def badOf (n : Nat) (l : List Nat) : List Str := (l.filter fun c => !([97, 98, 99, 100].take n).contains c).map fun c => ⟨#[c]⟩
theorem badOf_len (n : Nat) (l : List Nat) : (badOf n l).length ≤ l.length := by
  unfold badOf
  rw [List.length_map]
  exact List.length_filter_le _ _
theorem cut_abcd {n : Nat} (h : n ≤ 4) : (cutS "abcd" none (some (n : Int))).cps.toList = [97, 98, 99, 100].take n := by
  match n, h with
  | 0, _ => decide +kernel
  | 1, _ => decide +kernel
  | 2, _ => decide +kernel
  | 3, _ => decide +kernel
  | 4, _ => decide +kernel
def spCheck (K : PySem.W.Frag) (C : Addr) : Sp := fun vs H Q E => ∃ (x : V) (t : Value) (b : Bool) (n m : Nat), vs = [x, .int (n : Nat), .int (m : Nat)] ∧ n ≤ 4 ∧ TyX K H x t ∧ PySem.W.kitOne K t (.type "str") = some b ∧
  (b = true → ∃ z : Str, x = .str z ∧ z.length ≤ sizeLine ∧ PyData.strOk z = true) ∧ (b = false → isWord n m x = false) ∧ (isWord n m x = true → ∀ H', Same H H' → Q .non H') ∧
  (isWord n m x = false → ∀ H' d, Same H H' → H' d = none → E (.ref C) (some d) (upd H' d (.xd [("word", x)])))
theorem ok_check_word (T : Tx K mg) : FnR P w K mg base 2 T.check_word.f T.check_word.fd ["word", "letters", "most"] (spCheck K T.NoWord.C) := by
  have G_NoWord_init : FnOk P w K mg base CX0 1 T.NoWord.fI T.NoWord.fd ["self", "word"] (spXI T.NoWord.C "word") := ok_NoWord_init T
  refine fun_okX T.check_word.F sc_check_word (fun vs H Q E h => ?_) (fun cdv A outer s H vs Q E hr h => ?_)
  · obtain ⟨_, _, _, _, _, rfl, _⟩ := h
    rfl
  · obtain ⟨x, t, b, n, m, rfl, hn, ty, k, hb, hb0, q1, q2⟩ := h
    refine ⟨_, (pss_one (ps_if (PW.pt (pw_or (pt_not (pt_val (pe_callB call_isi (by rfl) T.n_isinstance (by decide +kernel) (pa_cons (pv 0) (pa_cons (pe_bltn (v := .ty "str") (u := .type "str") (by rfl) T.n_str (by decide +kernel) rfl) pa_nil))))) (pw_or (pt_cmpR op_gt (pe_callB call_len_str (by rfl) T.n_len PySem.boot_len (pa_cons (pv 0) pa_nil)) (pv 2) (nomark _)) (pw_or1 (pt_cmpR (op_neD hr.units) (pe_lc (own := [("one", 3)]) (g := gName 3) rfl sc_check_word.nd (pi_str (pv 0)) (blkOk_by (own := [("one", 3)]) (N := N_check_word) (sc := defScope s_check_word) (by decide +kernel)) (fun _ _ _ _ _ => (pg_name (i := 3) sc_check_word.nd rfl (.inl rfl))) (fun _ _ _ _ _ => pts_one (pt_cmpR op_notIn_sign (pv 3) (pe_slice sl_str (pe_glob (v := .str "abcd") rfl T.m_SIGNS ⟨_, rfl⟩) po_none (po_some (pv 1))) (by rfl))) (fun _ _ _ _ _ => (pv 3))) (pe_lst pa_nil) (nomark _)))))) (pss_one (ps_raise rfl (takes_of rfl rfl rfl rfl) (pmk_oex T.NoWord.O T.NoWord.iC T.NoWord.tI G_NoWord_init (hr.room.mono (by decide)) T.NoWord.b .nil pass0 (by rfl) T.NoWord.g (pa_cons (pv 0) pa_nil)))) pss_nil)), ?_⟩
    refine ⟨_, rfl, x, _, t, _, b, rfl, .ty "str", ty, k, b, rfl, ?_⟩
    cases b with
    | false =>
      refine iteT ?_
      refine ⟨_, rfl, x_go fun d hd => q2 (hb0 rfl) H d (Same.refl H) hd⟩
    | true =>
      obtain ⟨z, rfl, hz, hzo⟩ := hb rfl
      refine iteF ?_
      walk_at "go"
      refine ite2 (fun e => ?_) (fun e => ?_)
      · refine ⟨_, rfl, x_go fun d hd => q2 ?_ H d (Same.refl H) hd⟩
        have : ¬ z.length ≤ m := by
          have := of_decide_eq_true e
          omega
        show (decide (z.length ≤ m) && _) = false
        rw [decide_eq_false this]
        rfl
      · refine ⟨_, rfl, z, rfl, fun D hD => ?_⟩
        have hm : z.length ≤ m := Nat.not_lt.mp fun q => e (decide_eq_true (by omega))
        refine lc_it (walk_str (z := z)) (fun i H' => Same H H' ∧ H' D = some (.lst ((badOf n (z.cps.toList.take i)).map V.str))) ⟨fun b o q => by rw [upd_ne (ne_of_none q hD)]; exact q, upd_same⟩ (fun _ _ _ _ => True.intro) ?_ ?_
        · rintro i x H1 H2 hi ⟨sm, hl⟩ ⟨rfl, c, hc, rfl⟩
          have hc' : z.cps.toList[i]? = some c := by rw [Array.getElem?_toList]; exact hc
          have step : badOf n (z.cps.toList.take (i + 1)) = badOf n (z.cps.toList.take i) ++ (if ([97, 98, 99, 100].take n).contains c then [] else [⟨#[c]⟩]) := by
            unfold badOf
            rw [List.take_add_one, hc', List.filter_append, List.map_append]
            cases hcc : ([97, 98, 99, 100].take n).contains c with
            | true => rw [show (some c).toList = [c] from rfl, List.filter_cons, hcc] <;> rfl
            | false => rw [show (some c).toList = [c] from rfl, List.filter_cons, hcc] <;> rfl
          refine ⟨rfl, ?_⟩
          walk_at "go"
          refine ⟨(by decide), c, _, rfl, rfl, _, rfl, ?_⟩
          rw [cut_abcd hn]
          have hcd : decide (c ∈ [97, 98, 99, 100].take n) = ([97, 98, 99, 100].take n).contains c := by
            rw [List.contains_eq_mem]
          rw [hcd]
          cases hcc : ([97, 98, 99, 100].take n).contains c with
          | true =>
            refine iteF ⟨sm, ?_⟩
            rw [step, hcc, if_pos rfl, List.append_nil]
            exact hl
          | false =>
            refine iteT ⟨_, rfl, _, hl, ?_, fun b o q => ?_, ?_⟩
            · rw [List.length_map]
              exact Nat.lt_of_le_of_lt (badOf_len n _) (by rw [List.length_take, Array.length_toList]; have h1 : z.cps.size ≤ sizeLine := hz; omega)
            · rw [upd_ne (ne_of_none q hD)]
              exact sm _ _ q
            · rw [upd_same, step, hcc]
              simp
        · rintro H1 ⟨sm, hl⟩
          rw [show z.cps.toList.take z.cps.size = z.cps.toList from List.take_of_length_le (by rw [Array.length_toList]; exact Nat.le_refl _)] at hl
          refine ⟨Nat.zero_le _, fun p hp => ?_⟩
          have hne : D ≠ p := ne_of_none hl hp
          refine ⟨_, _, .lst (.inl (.inl (by rw [upd_ne hne]; exact hl))) (dp_strs _), .lst (.inl (.inl upd_same)) .nil, shaped_strs (fun y hy => ?_), by decide +kernel, _, rfl, ?_⟩
          · unfold badOf at hy
            obtain ⟨c, hc, rfl⟩ := List.mem_map.mp hy
            have hc2 := (List.mem_filter.mp hc).1
            have h3 := (Array.all_eq_true_iff_forall_mem.mp (show z.cps.all (fun c => decide (c < 0x110000)) = true from hzo)) c (Array.mem_toList_iff.mp hc2)
            show (#[c]).all (fun c => decide (c < 0x110000)) = true
            simpa using h3
          · have sm2 : Same H (upd H1 p (.lst [])) := fun b o q => by
              rw [upd_ne (ne_of_none (sm _ _ q) hp)]
              exact sm _ _ q
            have ee : PyData.eqv (.list ((badOf n z.cps.toList).map PyData.str)) (.list []) = (z.cps.toList.all fun c => ([97, 98, 99, 100].take n).contains c) := by
              have := eqv_strs (badOf n z.cps.toList) []
              rw [PyData.eqv]
              refine this.trans ?_
              unfold badOf
              rw [Bool.eq_iff_iff, decide_eq_true_iff, List.map_eq_nil_iff, List.filter_eq_nil_iff, List.all_eq_true]
              refine forall_congr' fun a => forall_congr' fun _ => ?_
              cases ([97, 98, 99, 100].take n).contains a <;> simp
            rw [ee]
            have ew : isWord n m (.str z) = (z.cps.toList.all fun c => ([97, 98, 99, 100].take n).contains c) := by
              show (decide (z.length ≤ m) && _) = _
              rw [decide_eq_true hm]
              rfl
            rw [← ew]
            cases hw : isWord n m (.str z) with
            | true =>
              refine iteF ?_
              exact q1 hw _ sm2
            | false =>
              refine iteT ?_
              refine ⟨_, rfl, x_go fun d hd => q2 hw _ d sm2 hd⟩
end
end Wf
namespace Wf
open PySem PySem.Spec PyProof.Rows L2
abbrev SW (w : Wd) : Str := ⟨w.toArray⟩
def kW (w : Wd) : Key := Sum.inr (SW w)
theorem sw_inj {a b : Wd} (h : SW a = SW b) : a = b := congrArg (fun x : Str => x.cps.toList) h
theorem kW_inj {a b : Wd} (h : kW a = kW b) : a = b := sw_inj (Sum.inr.inj h)
theorem sw_of (z : Str) : SW z.cps.toList = z := by
  obtain ⟨a⟩ := z
  rfl
theorem putK_keys {kvs : List (Key × V)} {ks : List Wd} {w : Wd} {v : V} (h : kvs.map (·.1) = ks.map kW) : (putK kvs (kW w) v).map (·.1) = (addW ks w).map kW := by
  have hm : (kvs.any fun kv => decide (kv.1 = kW w)) = ks.contains w := by
    rw [Bool.eq_iff_iff, List.any_eq_true, List.contains_iff_mem]
    constructor
    · rintro ⟨p, hp, e⟩
      have e' := of_decide_eq_true e
      have : p.1 ∈ ks.map kW := by
        rw [← h]
        exact List.mem_map.mpr ⟨p, hp, rfl⟩
      obtain ⟨u, hu, e2⟩ := List.mem_map.mp this
      rw [e'] at e2
      rw [← kW_inj e2]
      exact hu
    · intro hw
      have : kW w ∈ kvs.map (·.1) := by
        rw [h]
        exact List.mem_map.mpr ⟨w, hw, rfl⟩
      obtain ⟨p, hp, e⟩ := List.mem_map.mp this
      exact ⟨p, hp, decide_eq_true e⟩
  unfold putK addW
  rw [hm]
  cases ks.contains w with
  | true =>
    rw [if_pos rfl, if_pos rfl, ← h, List.map_map]
    refine List.map_congr_left fun p _ => ?_
    show (if p.1 = kW w then (p.1, v) else p).1 = p.1
    split <;> rfl
  | false =>
    rw [if_neg Bool.false_ne_true, if_neg Bool.false_ne_true, List.map_append, List.map_append, h]
    rfl
theorem mergeK_keys : ∀ {more : List (Key × V)} {ws : List Wd} {kvs : List (Key × V)} {ks : List Wd}, kvs.map (·.1) = ks.map kW → more.map (·.1) = ws.map kW → (mergeK kvs more).map (·.1) = (addsW ks ws).map kW
  | [], [], _, _, h, _ => h
  | [], _ :: _, _, _, _, h => by simp at h
  | _ :: _, [], _, _, _, h => by simp at h
  | p :: more, w :: ws, kvs, ks, h, h2 => by
    rw [List.map_cons, List.map_cons] at h2
    obtain ⟨e1, e2⟩ := List.cons.inj h2
    show (mergeK (putK kvs p.1 p.2) more).map (·.1) = (addsW (addW ks w) ws).map kW
    rw [e1]
    exact mergeK_keys (putK_keys h) e2
theorem addsW_len : ∀ (ws ks : List Wd), (addsW ks ws).length ≤ ks.length + ws.length
  | [], ks => Nat.le_refl _
  | w :: ws, ks => by
    have ih := addsW_len ws (addW ks w)
    have h1 : (addW ks w).length ≤ ks.length + 1 := by
      unfold addW
      split
      · omega
      · rw [List.length_append, List.length_singleton]
        exact Nat.le_refl _
    show (addsW (addW ks w) ws).length ≤ _
    rw [List.length_cons]
    omega
section
variable {P : Program} {w : World} {K : PySem.W.Frag} {mg : Str → Option Value} {base : Heap}
theorem tyx_same {H H' : Hp} {x : V} {t : Value} (s : Same H H') (h : TyX K H x t) : TyX K H' x t := by
  cases h with
  | base b =>
    refine .base ?_
    cases b with
    | non => exact .non
    | bl y => exact .bl y
    | int i => exact .int i
    | str y => exact .str y
    | flt y => exact .flt y
    | lst ea => exact .lst (s _ _ ea)
    | frz ea => exact .frz (s _ _ ea)
    | tup ea => exact .tup (s _ _ ea)
    | dK ea => exact .dK (s _ _ ea)
    | dT ea => exact .dT (s _ _ ea)
    | ins ea cl ha hn htk hm => exact .ins (s _ _ ea) cl ha hn htk hm
  | byt b => exact .byt b
  | set e => exact .set (s _ _ e)
  | kList e c => exact .kList e c
  | kTuple e c => exact .kTuple e c
  | kDict e c => exact .kDict e c
  | fTuple e => exact .fTuple (s _ _ e)
  | fDict e => exact .fDict (s _ _ e)
def newW (m c : Nat) (ks : List Wd) : List Wd := (ks.filter fun s => decide (s.length < m)).map (· ++ [c])
theorem paired_app {α β : Type} {R : α → β → Prop} : ∀ {a b : List α} {c d : List β}, Paired R a c → Paired R b d → Paired R (a ++ b) (c ++ d)
  | _, _, _, _, .nil, h => h
  | _, _, _, _, .cons r t, h => .cons r (paired_app t h)
theorem paired_imp {α β : Type} {R R' : α → β → Prop} : ∀ {a : List α} {c : List β}, Paired R a c → (∀ x y, R x y → R' x y) → Paired R' a c
  | _, _, .nil, _ => .nil
  | _, _, .cons r t, h => .cons (h _ _ r) (paired_imp t h)
theorem paired_map {α β γ : Type} {R : α → γ → Prop} {f : β → γ} : ∀ {a : List α} {c : List β}, Paired (fun x y => R x (f y)) a c → Paired R a (c.map f)
  | _, _, .nil => .nil
  | _, _, .cons r t => .cons r (paired_map t)
def lenOk : V → Bool
  | .int L => decide (0 ≤ L) && decide (L ≤ 4)
  | _ => false
/-- what stands in a word's place, in a length's place -/
def AsWord (K : PySem.W.Frag) (H : Hp) (x : V) : Prop := ∃ (t : Value) (b : Bool), TyX K H x t ∧ PySem.W.kitOne K t (.type "str") = some b ∧ (b = true → ∃ z : Str, x = .str z ∧ z.length ≤ sizeLine ∧ PyData.strOk z = true) ∧ (b = false → isWord 4 200 x = false)
def AsLen (K : PySem.W.Frag) (H : Hp) (y : V) : Prop := ∃ (t : Value) (b1 b2 : Bool), TyX K H y t ∧ PySem.W.kitOne K t (.type "int") = some b1 ∧ (b1 = true → PySem.W.kitOne K t (.type "bool") = some b2) ∧ ((b1 && !b2) = true → ∃ L : Int, y = .int L) ∧ ((b1 && !b2) = false → lenOk y = false)
/-- what signature gives -/
def IsSig (z : Str) (L : Nat) (ys : List Wd) : Prop := ∃ ks, Keys z.cps.toList L ks ∧ ys.Perm ks ∧ ys.Pairwise fun x y => ¬ Less y x
def spSig (K : PySem.W.Frag) (C1 C2 : Addr) : Sp := fun vs H Q E => ∃ x y : V, vs = [x, y] ∧ AsWord K H x ∧ AsLen K H y ∧
  (isWord 4 200 x = false → ∀ H' d, Same H H' → H' d = none → E (.ref C1) (some d) (upd H' d (.xd [("word", x)]))) ∧
  (isWord 4 200 x = true → lenOk y = false → ∀ H' d, Same H H' → H' d = none → E (.ref C2) (some d) (upd H' d (.xd [("length", y)]))) ∧
  (∀ (z : Str) (L : Nat), isWord 4 200 x = true → x = .str z → y = .int L → L ≤ 4 → ∀ ys H' p, IsSig z L ys → Same H H' → H p = none → H' p = some (.lst (ys.map fun w => V.str (SW w))) → Q (.ref p) H')
theorem ok_NoLength_init (T : Tx K mg) : FnOk P w K mg base CX0 1 T.NoLength.fI T.NoLength.fd ["self", "length"] (spXI T.NoLength.C "length") := by
  refine T.NoLength.F.ok sc_NoLength_init (fun vs H Q E h => ?_) (fun cdv A outer s H vs Q E hr h => ?_)
  · obtain ⟨_, _, rfl, _⟩ := h
    rfl
  · obtain ⟨a, v, rfl, ha, q⟩ := h
    refine ⟨_, pss_one (ps_ost (pv 0) (pv 1)), ?_⟩
    refine ⟨_, rfl, _, rfl, a, T.NoLength.C, rfl, T.NoLength.O, T.NoLength.no, .inl ⟨ha, fun d hd hda => q d hd hda⟩⟩
theorem ok_signature (T : Tx K mg) : FnR P w K mg base 6 T.signature.f T.signature.fd ["word", "length"] (spSig K T.NoWord.C T.NoLength.C) := by
  have G_check_word : FnR P w K mg base 2 T.check_word.f T.check_word.fd ["word", "letters", "most"] (spCheck K T.NoWord.C) := ok_check_word T
  have G_is_number : FnR P w K mg base 1 T.is_number.f T.is_number.fd ["thing"] (spIsNum K) := ok_is_number T
  have G_by_words : FnR P w K mg base 1 T.by_words.f T.by_words.fd ["word"] spByWords := ok_by_words T
  have G_NoLength_init : FnOk P w K mg base CX0 1 T.NoLength.fI T.NoLength.fd ["self", "length"] (spXI T.NoLength.C "length") := ok_NoLength_init T
  refine fun_okX T.signature.F sc_signature (fun vs H Q E h => ?_) (fun cdv A outer s H vs Q E hr h => ?_)
  · obtain ⟨_, _, rfl, _⟩ := h
    rfl
  · obtain ⟨x, y, rfl, ⟨t, b, ty, k, hb, hb0⟩, ⟨t2, b1, b2, ty2, k1, k2, hy, hy0⟩, q1, q2, q3⟩ := h
    refine ⟨_, (pss_cons (ps_expr (pe_rx G_check_word (hr.low (by decide)) (by rfl) T.check_word.g T.check_word.F.kp T.check_word.b (takes_of rfl rfl rfl rfl) (pa_cons (pv 0) (pa_cons (pe_callB call_len_str (by rfl) T.n_len PySem.boot_len (pa_cons (pe_glob (v := .str "abcd") rfl T.m_SIGNS ⟨_, rfl⟩) pa_nil)) (pa_cons (pe_glob (v := .int 200) rfl T.m_MOST_TESTED ⟨_, rfl⟩) pa_nil)))))
      (pss_cons (ps_if (PW.pt (pw_or (pt_not (pt_val (pe_r G_is_number (hr.low (by decide)) (by rfl) T.is_number.g T.is_number.F.kp T.is_number.b (pa_cons (pv 1) pa_nil)))) (pw_or1 (pt_not (pt_chain op_le op_le pe_int (pv 1) (pe_glob (v := .int 4) rfl T.m_MOST_LENGTH ⟨_, rfl⟩)))))) (pss_one (ps_raise rfl (takes_of rfl rfl rfl rfl) (pmk_oex T.NoLength.O T.NoLength.iC T.NoLength.tI G_NoLength_init (hr.room.mono (by decide)) T.NoLength.b .nil pass0 (by rfl) T.NoLength.g (pa_cons (pv 1) pa_nil)))) pss_nil)
      (pss_cons (ps_set (i := 2) sc_signature.nd rfl (Or.inl rfl) (pe_disp (pps_cons pe_str pe_bl pps_nil) (by rfl) (by rfl) (fun z => by cases z) (by decide)))
      (pss_cons (ps_for (passes_of rfl) rfl (pi_str (pv 0)) (pg_name (i := 3) sc_signature.nd rfl (.inr rfl)) (pss_one (ps_expr (pe_bm PySem.F.plainAttrs_dict PySem.F.slot_dict_update PySem.F.type_dict_update mt_dupdate (pv 2) (pa_cons (pe_callTy (call_dictP rfl) (by rfl) T.n_dict (by decide +kernel) (pa_cons (pe_lock (pe_lc (own := [("one", 4)]) (g := gName 4) rfl sc_signature.nd (pi_keys (pv 2)) (blkOk_by (own := [("one", 4)]) (N := N_signature) (sc := defScope s_signature) (by decide +kernel)) (fun _ _ _ _ _ => (pg_name (i := 4) sc_signature.nd rfl (.inl rfl))) (fun _ _ _ _ _ => pts_one (pt_cmpR op_lt (pe_callB call_len_str (by rfl) T.n_len PySem.boot_len (pa_cons (pv 4) pa_nil)) (pv 1) (nomark _))) (fun _ _ _ _ _ => (pe_tup (pa_cons (pe_op op_add_str (pv 4) (pv 3)) (pa_cons pe_bl pa_nil)))))) pa_nil)) pa_nil)))))
      (pss_one (ps_ret (pe_callBK (cr_sortK rfl G_by_words (hr.low (by decide)) T.by_words.b) (by rfl) T.n_sorted (by decide +kernel) (pa_cons (pv 2) pa_nil) (pk_cons (pe_glob (v := .ref T.by_words.f) rfl T.by_words.g rfl) pk_nil)))))))), ?_⟩
    refine ⟨_, rfl, "abcd", rfl, by decide, x, t, b, 4, 200, rfl, by decide, ty, k, hb, hb0, fun hw H1 sm => ?_, fun hw H' d sm hd => q1 hw H' d sm hd⟩
    refine ⟨y, rfl, y, t2, b1, b2, rfl, tyx_same sm ty2, k1, k2, _, rfl, ?_⟩
    cases hn : (b1 && !b2) with
    | false =>
      refine iteT ⟨_, rfl, x_go fun d hd => q2 hw (hy0 hn) H1 d sm hd⟩
    | true =>
      obtain ⟨L, rfl⟩ := hy hn
      refine iteF ?_
      obtain ⟨z, rfl, hz, hzo⟩ : ∃ z : Str, x = .str z ∧ z.length ≤ sizeLine ∧ PyData.strOk z = true := by
        cases b with
        | true => exact hb rfl
        | false =>
          rw [hb0 rfl] at hw
          cases hw
      have hwz : z.length ≤ 200 ∧ ∀ c ∈ z.cps.toList, c ∈ signs 4 := by
        have hw' : (decide (z.length ≤ 200) && z.cps.toList.all fun c => ([97, 98, 99, 100].take 4).contains c) = true := hw
        rw [Bool.and_eq_true, List.all_eq_true] at hw'
        exact ⟨of_decide_eq_true hw'.1, fun c hc => List.contains_iff_mem.mp (hw'.2 c hc)⟩
      by_cases hL : lenOk (.int L) = true
      rotate_left
      · have hL' : lenOk (.int L) = false := by simpa using hL
        have raise : ∀ {Hx : Hp}, Same H Hx → ∀ d, Hx d = none → E (.ref T.NoLength.C) (some d) (upd Hx d (.xd [("length", .int L)])) := fun sm d hd => q2 hw hL' _ d sm hd
        by_cases h0 : 0 ≤ L
        · have h4 : ¬ L ≤ 4 := fun h4 => by
            have hL2 : (decide (0 ≤ L) && decide (L ≤ 4)) = false := hL'
            rw [decide_eq_true h0, decide_eq_true h4] at hL2
            cases hL2
          refine ⟨_, rfl, 0, L, rfl, rfl, _, rfl, ?_⟩
          rw [decide_eq_true h0]
          refine iteT ⟨L, 4, rfl, rfl, _, rfl, ?_⟩
          rw [decide_eq_false h4]
          exact iteT ⟨_, rfl, x_go fun d hd => raise sm d hd⟩
        · refine ⟨_, rfl, 0, L, rfl, rfl, _, rfl, ?_⟩
          rw [decide_eq_false h0]
          refine iteF ⟨_, rfl, ?_⟩
          exact iteT ⟨_, rfl, x_go fun d hd => raise sm d hd⟩
      have hL2 : 0 ≤ L ∧ L ≤ 4 := by
        have hL' : (decide (0 ≤ L) && decide (L ≤ 4)) = true := hL
        rw [Bool.and_eq_true] at hL'
        exact ⟨of_decide_eq_true hL'.1, of_decide_eq_true hL'.2⟩
      obtain ⟨m, rfl⟩ : ∃ m : Nat, L = (m : Int) := ⟨L.toNat, (Int.toNat_of_nonneg hL2.1).symm⟩
      have hm : m ≤ 4 := by omega
      refine ⟨_, rfl, 0, _, rfl, rfl, _, rfl, ?_⟩
      rw [decide_eq_true hL2.1]
      refine iteT ⟨_, 4, rfl, rfl, _, rfl, ?_⟩
      rw [decide_eq_true hL2.2]
      refine iteF ?_
      -- found = {'': True}
      intro d hd
      refine ⟨upd_same, [(kW [], .bl true)], rfl, (by show 1 ≤ 15; decide), ?_⟩
      rw [upd_upd]
      have sm1 : Same H (upd H1 d (.dK (mergeK [] [(kW [], .bl true)]))) := fun b o q => by
        rw [upd_ne (ne_of_none (sm _ _ q) hd)]
        exact sm _ _ q
      have nd0 : H d = none := sm.free hd
      -- for letter in word
      refine ⟨_, rfl, z, rfl, ?_⟩
      refine for_it (walk_str (z := z)) (fun i σ H2 => ∃ y3 kvs ks, σ = [some (.str z), some (.int (m : Nat)), some (.ref d), y3, none] ∧ Same H H2 ∧ H2 d = some (.dK kvs) ∧ kvs.map (·.1) = ks.map kW ∧ Keys (z.cps.toList.take i) m ks)
        ⟨none, _, [[]], rfl, sm1, upd_same, rfl, keys_nil m⟩ (fun _ _ _ _ _ => True.intro) ?_ ?_
      · rintro i x σ H2 H3 hi ⟨y3, kvs, ks, rfl, sm2, hdd, hkv, hK⟩ ⟨rfl, c, hc, rfl⟩
        have hc' : z.cps.toList[i]? = some c := by rw [Array.getElem?_toList]; exact hc
        have hK' := hK
        have hlen : ks.length ≤ 341 := keys_len hK hm fun c hc => hwz.2 c ((List.take_subset _ _) hc)
        have hkl : kvs.length = ks.length := by
          have := congrArg List.length hkv
          simpa using this
        refine ⟨_, rfl, Or.inr (Or.inr (Or.inl ⟨rfl, Or.inl ⟨kvs, hdd⟩⟩)), d, _, hdd, True.intro, fun od => ?_⟩
        refine ⟨_, rfl, d, od, rfl, Or.inl ⟨kvs, upd_same, fun D hD => ?_⟩⟩
        have hDd : D ≠ d := fun e => by
          rw [e, upd_same] at hD
          cases hD
        have hcw : c ∈ signs 4 := hwz.2 c (List.mem_of_getElem? hc')
        have hnew : ∀ (l : List Wd) (u : Wd), newW m c (l ++ [u]) = newW m c l ++ (if u.length < m then [u ++ [c]] else []) := by
          intro l u
          unfold newW
          rw [List.filter_append, List.map_append]
          by_cases hu : u.length < m
          · rw [List.filter_cons, if_pos (decide_eq_true hu), if_pos hu]
            rfl
          · rw [List.filter_cons, if_neg (by rw [decide_eq_false hu]; exact Bool.false_ne_true), if_neg hu]
            rfl
        refine lc_it (walk_keys (o := od) (d := d) (kvs := kvs)) (fun j H4 => ∃ ps : List Addr, H4 D = some (.lst (ps.map V.ref)) ∧ Same (upd H3 d (.frz od (.dK kvs))) H4 ∧ Paired (fun p u => H4 p = some (.tup [.str (SW u), .bl true])) ps (newW m c (ks.take j)))
          ⟨[], upd_same, fun b o q => by rw [upd_ne (ne_of_none q hD)]; exact q, .nil⟩ (fun j H4 _ q => ?_) ?_ ?_
        · obtain ⟨_, _, q, _⟩ := q
          exact q _ _ upd_same
        · rintro j x H4 H5 hj ⟨ps, hl, sm4, hP⟩ ⟨rfl, k', v', hkj, rfl⟩
          obtain ⟨u, hu, rfl⟩ : ∃ u, ks[j]? = some u ∧ k' = kW u := by
            have e1 : (kvs.map (·.1))[j]? = some k' := by rw [List.getElem?_map, hkj]; rfl
            rw [hkv, List.getElem?_map] at e1
            cases e2 : ks[j]? with
            | none => rw [e2] at e1; cases e1
            | some u => rw [e2] at e1; exact ⟨u, rfl, (Option.some.inj e1).symm⟩
          have hul : u.length ≤ m := ((hK.2 u).mp (List.mem_of_getElem? hu)).2
          have htk : ks.take (j + 1) = ks.take j ++ [u] := by rw [List.take_add_one, hu]; rfl
          have hsl : (SW u).length = u.length := rfl
          refine ⟨rfl, ?_⟩
          refine ⟨_, rfl, SW u, rfl, by rw [hsl]; exact Nat.le_trans (Nat.le_trans hul hm) (by decide), _, rfl, _, _, rfl, rfl, _, rfl, ?_⟩
          by_cases hlt : u.length < m
          · rw [decide_eq_true (show (((SW u).length : Nat) : Int) < (m : Int) by rw [hsl]; omega)]
            refine iteT ⟨_, rfl, _, rfl, SW u, ⟨#[c]⟩, rfl, rfl, ?_, (by show 2 ≤ sizeLine; decide), fun p hp => ?_⟩
            · have : (⟨#[c]⟩ : Str).length = 1 := rfl
              rw [hsl, this]
              exact Nat.le_trans (show u.length + 1 ≤ 5 by omega) (by decide)
            · have hpD : D ≠ p := ne_of_none hl hp
              refine ⟨ps.map V.ref, by rw [upd_ne hpD]; exact hl, ?_, ps ++ [p], ?_, fun b o q => ?_, ?_⟩
              · rw [List.length_map, hP.length]
                have h1 : (newW m c (ks.take j)).length ≤ ks.length := by
                  unfold newW
                  rw [List.length_map]
                  refine Nat.le_trans (List.length_filter_le _ _) ?_
                  rw [List.length_take]
                  omega
                exact Nat.lt_of_le_of_lt (Nat.le_trans h1 hlen) (by decide)
              · rw [upd_same, List.map_append]
                rfl
              · rw [upd_ne (ne_of_none q hD), upd_ne (ne_of_none (sm4 _ _ q) hp)]
                exact sm4 _ _ q
              · rw [htk, hnew, if_pos hlt]
                have hpn : p ≠ D := hpD.symm
                refine paired_app (paired_imp hP fun q u' hq => ?_) (.cons ?_ .nil)
                · have h1 : q ≠ p := ne_of_none hq hp
                  have h2 : q ≠ D := ne_of hq hl (by intro z; cases z)
                  rw [upd_ne h2, upd_ne h1]
                  exact hq
                · rw [upd_ne hpn, upd_same]
                  have : SW u ++ (⟨#[c]⟩ : Str) = SW (u ++ [c]) := by
                    show (⟨(u.toArray ++ #[c])⟩ : Str) = ⟨(u ++ [c]).toArray⟩
                    simp
                  rw [this]
          · rw [decide_eq_false (show ¬ (((SW u).length : Nat) : Int) < (m : Int) by rw [hsl]; omega)]
            refine iteF ⟨ps, hl, sm4, ?_⟩
            rw [htk, hnew, if_neg hlt, List.append_nil]
            exact hP
        · rintro H4 ⟨ps, hl, sm4, hP⟩
          have hkt : ks.take kvs.length = ks := List.take_of_length_le (by omega)
          rw [hkt] at hP
          refine ⟨sm4 _ _ upd_same, D, ps, (newW m c ks).map fun u => (kW u, V.bl true), rfl, .inl (.inl (by rw [upd_ne hDd]; exact hl)), ?_, fun p2 hp2 => ?_⟩
          · refine paired_map (paired_imp hP fun q u' hq => ?_)
            have h2 : q ≠ d := ne_of hq (sm4 _ _ upd_same) (by intro z; cases z)
            exact .inl (.inl (by rw [upd_ne h2]; exact hq))
          · have hdp : d ≠ p2 := fun e => by
              rw [← e, upd_same] at hp2
              cases hp2
            have k2 : (mergeK [] ((newW m c ks).map fun u => (kW u, V.bl true))).map (·.1) = (addsW [] (newW m c ks)).map kW := mergeK_keys (ks := []) rfl (by rw [List.map_map]; rfl)
            have l2 : (mergeK [] ((newW m c ks).map fun u => (kW u, V.bl true))).length = (addsW [] (newW m c ks)).length := by
              have := congrArg List.length k2
              simpa using this
            have l3 : (addsW [] (newW m c ks)).length ≤ 341 := by
              refine Nat.le_trans (addsW_len _ _) ?_
              unfold newW
              rw [List.length_map]
              have := List.length_filter_le (fun s : Wd => decide (s.length < m)) ks
              show 0 + _ ≤ 341
              omega
            refine ⟨d, p2, kvs, _, rfl, rfl, by rw [upd_ne hdp, upd_same], .inl upd_same, hdp, ?_, ?_⟩
            · rw [l2, hkl]
              exact Nat.le_trans (Nat.add_le_add hlen l3) (by decide)
            · refine ⟨some (.str ⟨#[c]⟩), _, addsW ks (addsW [] (newW m c ks)), rfl, fun b o q => ?_, upd_same, mergeK_keys hkv k2, ?_⟩
              · have hbd : b ≠ d := fun e => by
                  rw [e, nd0] at q
                  cases q
                have h4 : H4 b = some o := sm4 _ _ (by rw [upd_ne hbd]; exact sm2 _ _ q)
                rw [upd_ne hbd, upd_ne (ne_of_none (show upd H4 d (.dK kvs) b = some o by rw [upd_ne hbd]; exact h4) hp2), upd_ne hbd]
                exact h4
              · rw [List.take_add_one, hc']
                exact keys_snoc hK
      · rintro σ H2 ⟨y3, kvs, ks, rfl, sm2, hdd, hkv, hK⟩
        rw [show z.cps.toList.take z.cps.size = z.cps.toList from List.take_of_length_le (by rw [Array.length_toList]; exact Nat.le_refl _)] at hK
        have hlen : ks.length ≤ 341 := keys_len hK hm hwz.2
        refine ⟨_, rfl, d, kvs, ks.map SW, fun z => ((z.length : Nat), z), rfl, rfl, .inl hdd, by rw [hkv, List.map_map]; rfl, by rw [List.length_map]; exact Nat.lt_of_le_of_lt hlen (by decide), fun z hz H' Q' _ q => ?_, fun ys p H' hp hs sm3 hn hy => ?_⟩
        · refine ⟨z, rfl, ?_, q⟩
          obtain ⟨u, hu, rfl⟩ := List.mem_map.mp hz
          have : (SW u).length = u.length := rfl
          rw [this]
          exact Nat.le_trans (Nat.le_trans ((hK.2 u).mp hu).2 hm) (by decide)
        · have e1 : (ys.map fun z : Str => z.cps.toList).map SW = ys := by
            rw [List.map_map]
            conv => rhs; rw [← List.map_id ys]
            exact List.map_congr_left fun z _ => sw_of z
          refine q3 z m hw rfl rfl hm (ys.map fun z : Str => z.cps.toList) H' p ⟨ks, hK, ?_, ?_⟩ (fun b o q => sm3 _ _ (sm2 _ _ q)) (sm2.free hn) ?_
          · have := hp.map (fun z : Str => z.cps.toList)
            rw [List.map_map] at this
            rw [show ks = ks.map ((fun z : Str => z.cps.toList) ∘ SW) by
              conv => lhs; rw [← List.map_id ks]
              exact List.map_congr_left fun z _ => rfl]
            exact this
          · refine List.pairwise_map.mpr (hs.imp fun {a b} h => ?_)
            have h' := lexS_no.mp h
            rintro (q | ⟨q, q2⟩)
            · exact h' (Or.inl (by
                rw [Array.length_toList, Array.length_toList] at q
                exact Int.ofNat_lt.mpr q))
            · refine h' (Or.inr ⟨?_, q2⟩)
              rw [Array.length_toList, Array.length_toList] at q
              exact congrArg Int.ofNat q
          · rw [hy]
            conv => lhs; rw [← e1, List.map_map]
            rfl
end
end Wf
namespace Wf
open PySem PySem.Spec PyProof.Rows L2
theorem sw_snoc (u : Wd) (c : Nat) : SW u ++ (⟨#[c]⟩ : Str) = SW (u ++ [c]) := by
  show (⟨(u.toArray ++ #[c])⟩ : Str) = ⟨(u ++ [c]).toArray⟩
  simp
theorem sw_app (u v : Wd) : SW u ++ SW v = SW (u ++ v) := by
  show (⟨(u.toArray ++ v.toArray)⟩ : Str) = ⟨(u ++ v).toArray⟩
  simp
abbrev vW (u : Wd) : V := .str (SW u)
theorem allW_mono (k : Nat) : ∀ {i n : Nat}, i ≤ n → (allW k i).1.length ≤ (allW k n).1.length
  | i, 0, h => by
    have : i = 0 := by omega
    rw [this]
    exact Nat.le_refl _
  | i, n + 1, h => by
    by_cases e : i = n + 1
    · rw [e]
      exact Nat.le_refl _
    · have := allW_mono k (i := i) (n := n) (by omega)
      show _ ≤ ((allW k n).1 ++ _).length
      rw [List.length_append]
      omega
theorem allW_ends (k n : Nat) : (allW k n).2.length ≤ (allW k n).1.length := by
  cases n with
  | zero => exact Nat.le_refl _
  | succ n =>
    show (nextW k (allW k n).2).length ≤ ((allW k n).1 ++ nextW k (allW k n).2).length
    rw [List.length_append]
    omega
theorem nextW_snoc (k : Nat) (l : List Wd) (u : Wd) : nextW k (l ++ [u]) = nextW k l ++ (signs k).map fun c => u ++ [c] := by
  unfold nextW
  rw [List.flatMap_append]
  simp
theorem nextW_take (k : Nat) (l : List Wd) (j : Nat) : (nextW k (l.take j)).length ≤ (nextW k l).length := by
  conv => rhs; rw [← List.take_append_drop j l]
  unfold nextW
  rw [List.flatMap_append, List.length_append]
  omega
theorem signs_len (k : Nat) : (signs k).length ≤ 4 := by
  unfold signs
  rw [List.length_take]
  show min k 4 ≤ 4
  omega
section
variable {P : Program} {w : World} {K : PySem.W.Frag} {mg : Str → Option Value} {base : Heap}
def spAll : Sp := fun vs H Q _ => ∃ k n : Nat, vs = [.int (k : Nat), .int (n : Nat)] ∧ k ≤ 4 ∧ n ≤ 100 ∧ (allW k n).1.length ≤ 100000 ∧ (∀ u ∈ (allW k n).1, u.length ≤ 100) ∧ ∀ H' p, Same H H' → H p = none → H' p = some (.lst ((allW k n).1.map vW)) → Q (.ref p) H'
theorem ok_law_all_words (T : Tx K mg) : FnR P w K mg base 1 T.law_all_words.f T.law_all_words.fd ["letters", "most"] spAll := by
  refine fun_ok T.law_all_words.F sc_law_all_words (fun vs H Q E h => ?_) (fun cdv A outer s H vs Q E hr h => ?_)
  · obtain ⟨_, _, rfl, _⟩ := h
    rfl
  · obtain ⟨k, n, rfl, hk, hn, hlen, hul, q⟩ := h
    refine ⟨_, (pss_cons (ps_par (i := 2) (j := 3) (by rfl) sc_law_all_words.nd rfl rfl (by decide) rfl rfl (pa_cons (pe_lst (pa_cons pe_str pa_nil)) (pa_cons (pe_lst (pa_cons pe_str pa_nil)) pa_nil)) (by rfl))
      (pss_cons (ps_for PassesOwn.never rfl (pi_range1 (by rfl) T.n_range (pa_cons (pv 1) pa_nil)) (pg_name (i := 4) sc_law_all_words.nd rfl (.inl rfl)) (pss_cons (ps_set (i := 5) sc_law_all_words.nd rfl (Or.inl rfl) (pe_lst pa_nil))
      (pss_cons (ps_for PassesOwn.never rfl (pi_list (pv 3)) (pg_name (i := 6) sc_law_all_words.nd rfl (.inr rfl)) (pss_one (ps_expr (pe_bm PySem.F.plainAttrs_list PySem.F.slot_list_extend PySem.F.type_list_extend mt_extend (pv 5) (pa_cons (pe_lc (own := [("sign", 7)]) (g := gName 7) (tt := tYes) rfl sc_law_all_words.nd (pi_str (pe_slice sl_str pe_str po_none (po_some (pv 0)))) (blkOk_by (own := [("sign", 7)]) (N := N_law_all_words) (sc := defScope s_law_all_words) (by decide +kernel)) (fun _ _ _ _ _ => (pg_name (i := 7) sc_law_all_words.nd rfl (.inl rfl))) (fun _ _ _ _ _ => pts_nil) (fun _ _ _ _ _ => (pe_op op_add_str (pv 6) (pv 7)))) pa_nil)))))
      (pss_one (ps_par (i := 2) (j := 3) (by rfl) sc_law_all_words.nd rfl rfl (by decide) rfl rfl (pa_cons (pe_op op_catS (pv 2) (pv 5)) (pa_cons (pv 5) pa_nil)) (by rfl))))))
      (pss_one (ps_ret (pv 2))))), ?_⟩
    refine ⟨Nat.le_trans (show 1 ≤ 2 by decide) (by decide), fun f hf => ⟨(by show 1 ≤ sizeLine; decide), fun e he => ⟨_, _, rfl, ?_⟩⟩⟩
    have nf : H e = none := by
      by_cases hb : e = f
      · rw [hb, upd_same] at he
        cases he
      · rw [upd_ne hb] at he
        exact he
    refine ⟨_, rfl, n, rfl, by omega, by omega, ?_⟩
    refine for_it (walk_range (lo := 0)) (fun i σ H1 => ∃ f e y4 y5 y6, σ = [some (.int (k : Nat)), some (.int (n : Nat)), some (.ref f), some (.ref e), y4, y5, y6, none] ∧ Same H H1 ∧ H f = none ∧ H1 f = some (.lst ((allW k i).1.map vW)) ∧ H1 e = some (.lst ((allW k i).2.map vW)) ∧ H e = none)
      ⟨f, e, none, none, none, rfl, fun b o z => ?_, hf, ?_, upd_same, nf⟩ (fun _ _ _ _ _ => True.intro) ?_ ?_
    · rw [upd_ne (ne_of_none z nf), upd_ne (ne_of_none z hf)]
      exact z
    · have hne : f ≠ e := fun z => by
        rw [← z, upd_same] at he
        cases he
      rw [upd_ne hne, upd_same]
      rfl
    · rintro i x σ H1 H2 hi ⟨f, e, y4, y5, y6, rfl, sm, hf0, hf1, he1, he0⟩ ⟨rfl, rfl⟩
      have hin : i < n := by simpa using hi
      have l1 : (allW k (i + 1)).1.length ≤ 100000 := Nat.le_trans (allW_mono k (by omega)) hlen
      have l2 : (nextW k (allW k i).2).length ≤ 100000 := Nat.le_trans (show (nextW k (allW k i).2).length ≤ (allW k (i + 1)).1.length from allW_ends k (i + 1)) l1
      have hL : ∀ u ∈ (allW k i).2, u.length ≤ 100 := fun u hu => by
        have := ((mem_ends k i u).mp hu).1
        omega
      refine ⟨Nat.zero_le _, fun d hd => ?_⟩
      -- for word in ends
      have hed : e ≠ d := ne_of_none he1 hd
      have hfd : f ≠ d := ne_of_none hf1 hd
      have hd0 : H d = none := sm.free hd
      refine ⟨_, rfl, e, rfl, ⟨_, .inl (.inl (by rw [upd_ne hed]; exact he1))⟩, ?_⟩
      refine for_it (walk_list (K := K) (a := e) (xs := (allW k i).2.map vW)) (fun j σ H3 => ∃ y6, σ = [some (.int (k : Nat)), some (.int (n : Nat)), some (.ref f), some (.ref e), some (.int (0 + (i : Nat))), some (.ref d), y6, none] ∧ Same H H3 ∧ H3 f = some (.lst ((allW k i).1.map vW)) ∧ H3 e = some (.lst ((allW k i).2.map vW)) ∧ H3 d = some (.lst ((nextW k ((allW k i).2.take j)).map vW)))
        ⟨y6, rfl, fun b o z => by rw [upd_ne (ne_of_none z hd0)]; exact sm _ _ z, by rw [upd_ne hfd]; exact hf1, by rw [upd_ne hed]; exact he1, upd_same⟩ (fun j σ H3 _ q => ?_) ?_ ?_
      · obtain ⟨_, _, _, _, q, _⟩ := q
        exact .inl (.inl q)
      · rintro j x σ H3 H4 hj ⟨y6, rfl, sm3, hf3, he3, hd3⟩ ⟨rfl, hx⟩
        obtain ⟨u, hu, rfl⟩ : ∃ u, (allW k i).2[j]? = some u ∧ x = vW u := by
          rw [List.getElem?_map] at hx
          cases e2 : (allW k i).2[j]? with
          | none => rw [e2] at hx; cases hx
          | some u => rw [e2] at hx; exact ⟨u, rfl, (Option.some.inj hx).symm⟩
        have hsu : (SW u).length ≤ 100 := hL u (List.mem_of_getElem? hu)
        have htk : (allW k i).2.take (j + 1) = (allW k i).2.take j ++ [u] := by rw [List.take_add_one, hu]; rfl
        -- later.extend([word + sign ..])
        refine ⟨_, rfl, .inl ⟨rfl, _, SqL.of hd3⟩, ?_⟩
        refine ⟨_, rfl, _, rfl, "abcd", rfl, by decide, _, rfl, fun D hD => ?_⟩
        have hcut := cut_abcd hk
        have hsz : (cutS "abcd" none (some (k : Int))).cps.size = (signs k).length := by
          rw [← Array.length_toList, hcut]
          rfl
        refine lc_it (walk_str (z := cutS "abcd" none (some (k : Int)))) (fun m H5 => Same H4 H5 ∧ H5 D = some (.lst (((signs k).take m).map fun c => vW (u ++ [c])))) ⟨fun b o z => by rw [upd_ne (ne_of_none z hD)]; exact z, upd_same⟩ (fun _ _ _ _ => True.intro) ?_ ?_
        · rintro m x H5 H6 hm ⟨sm5, hl⟩ ⟨rfl, c, hc, rfl⟩
          have hc' : (signs k)[m]? = some c := by
            rw [← Array.getElem?_toList, hcut] at hc
            exact hc
          refine ⟨rfl, ?_⟩
          unfold tYes
          refine iteT ?_
          refine ⟨_, rfl, _, rfl, SW u, ⟨#[c]⟩, rfl, rfl, ?_, _, hl, ?_, fun b o z => ?_, ?_⟩
          · have : (⟨#[c]⟩ : Str).length = 1 := rfl
            rw [this]
            exact Nat.le_trans (show (SW u).length + 1 ≤ 101 by omega) (by decide)
          · rw [List.length_map, List.length_take]
            exact Nat.lt_of_le_of_lt (Nat.le_trans (Nat.min_le_right _ _) (signs_len k)) (by decide)
          · rw [upd_ne (ne_of_none z hD)]
            exact sm5 _ _ z
          · rw [upd_same, sw_snoc, List.take_add_one, hc', List.map_append]
            rfl
        · rintro H5 ⟨sm5, hl⟩
          rw [hsz, List.take_length] at hl
          have hdD : d ≠ D := ne_of_none hd3 hD
          have l3 : (nextW k ((allW k i).2.take j)).length ≤ 100000 := Nat.le_trans (nextW_take k _ j) l2
          refine ⟨d, D, _, _, rfl, rfl, sm5 _ _ hd3, hl, ?_, ?_⟩
          · rw [List.length_map, List.length_map]
            have := signs_len k
            exact Nat.le_trans (show (nextW k ((allW k i).2.take j)).length + (signs k).length ≤ 100004 by omega) (by decide)
          · have hfd' : f ≠ d := hfd
            refine ⟨_, rfl, fun b o z => ?_, ?_, ?_, ?_⟩
            · rw [upd_ne (ne_of_none z hd0)]
              exact sm5 _ _ (sm3 _ _ z)
            · rw [upd_ne hfd]
              exact sm5 _ _ hf3
            · rw [upd_ne hed]
              exact sm5 _ _ he3
            · rw [upd_same, htk, nextW_snoc, List.map_append, List.map_map]
              rfl
      · rintro σ H3 ⟨y6, rfl, sm3, hf3, he3, hd3⟩
        rw [show (allW k i).2.take ((allW k i).2.map vW).length = (allW k i).2 by rw [List.length_map, List.take_length]] at hd3
        -- found, ends = found + later, later
        refine ⟨_, rfl, _, rfl, f, d, _, _, rfl, rfl, .inl (.inl hf3), .inl (.inl hd3), ?_, fun p hp => ?_⟩
        · rw [List.length_map, List.length_map]
          have : (allW k i).1.length + (nextW k (allW k i).2).length = (allW k (i + 1)).1.length := by
            show _ = ((allW k i).1 ++ nextW k (allW k i).2).length
            rw [List.length_append]
          rw [this]
          exact Nat.le_trans l1 (by decide)
        · have hp0 : H p = none := sm3.free hp
          have hpd : d ≠ p := ne_of_none hd3 hp
          refine ⟨_, rfl, _, _, rfl, p, d, _, _, _, rfl, fun b o z => ?_, hp0, ?_, ?_, hd0⟩
          · rw [upd_ne (ne_of_none z hp0)]
            exact sm3 _ _ z
          · rw [upd_same, ← List.map_append]
            rfl
          · rw [upd_ne hpd]
            exact hd3
    · rintro σ H1 ⟨f, e, y4, y5, y6, rfl, sm, hf0, hf1, he1, he0⟩
      have e0 : (((n : Int)).toNat) = n := by simp
      rw [e0] at hf1
      exact ⟨_, rfl, q H1 f sm hf0 hf1⟩
end
end Wf
namespace Wf
open PySem PySem.Spec PyProof.Rows L2
theorem sqt_same {K : PySem.W.Frag} {H H' : Hp} {a : Addr} {xs : List V} (e : Same H H') (h : SqT K H a xs) : SqT K H' a xs := by
  rcases h with (h | ⟨o, h⟩) | h
  · exact .inl (.inl (e _ _ h))
  · exact .inl (.inr ⟨o, e _ _ h⟩)
  · exact .inr h
mutual
theorem dp_same {K : PySem.W.Frag} {H H' : Hp} (s : Same H H') : ∀ {v : V} {d : PyData}, Dp K H v d → Dp K H' v d
  | _, _, .non => .non
  | _, _, .bl b => .bl b
  | _, _, .int i => .int i
  | _, _, .str x => .str x
  | _, _, .lst h a => .lst (s.seq h) (dpAll_same s a)
  | _, _, .tup h a => .tup (sqt_same s h) (dpAll_same s a)
theorem dpAll_same {K : PySem.W.Frag} {H H' : Hp} (s : Same H H') : ∀ {vs : List V} {ds : List PyData}, DpAll K H vs ds → DpAll K H' vs ds
  | _, _, .nil => .nil
  | _, _, .cons a b => .cons (dp_same s a) (dpAll_same s b)
end
/-- v's data, that can be shown -/
structure Shows (K : PySem.W.Frag) (H : Hp) (v : V) (d : PyData) : Prop where
  dp : Dp K H v d
  sh : d.showable = true
  nd : d.hasDict = false
  dt : d.depth ≤ 50
  sz : d.shown.length ≤ sizeLine
  ok : PyData.strOk d.shown = true
theorem Shows.same {K : PySem.W.Frag} {H H' : Hp} {v : V} {d : PyData} (s : Same H H') (h : Shows K H v d) : Shows K H' v d := ⟨dp_same s h.dp, h.sh, h.nd, h.dt, h.sz, h.ok⟩
section
variable {P : Program} {w : World} {K : PySem.W.Frag} {mg : Str → Option Value} {base : Heap}
@[irreducible] def spSaid (K : PySem.W.Frag) : Sp := fun vs H Q _ => ∃ (x y : V) (dx dy : PyData), vs = [x, y] ∧ AsWord K H x ∧ AsLen K H y ∧ (isWord 4 200 x = false → Shows K H x dx) ∧ (isWord 4 200 x = true → lenOk y = false → Shows K H y dy) ∧
  (isWord 4 200 x = false → ∀ H' p, Same H H' → H p = none → H' p = some (.tup [.str "word", .str dx.shown]) → Q (.ref p) H') ∧
  (isWord 4 200 x = true → lenOk y = false → ∀ H' p, Same H H' → H p = none → H' p = some (.tup [.str "length", .str dy.shown]) → Q (.ref p) H') ∧
  (∀ (z : Str) (L : Nat), isWord 4 200 x = true → x = .str z → y = .int L → L ≤ 4 → ∀ ys H' p, IsSig z L ys → Same H H' → H p = none → H' p = some (.lst (ys.map vW)) → Q (.ref p) H')
theorem ok_law_said (T : Tx K mg) : FnR P w K mg base 7 T.law_said.f T.law_said.fd ["word", "length"] (spSaid K) := by
  have G_signature : FnR P w K mg base 6 T.signature.f T.signature.fd ["word", "length"] (spSig K T.NoWord.C T.NoLength.C) := ok_signature T
  refine fun_ok T.law_said.F sc_law_said (fun vs H Q E h => ?_) (fun cdv A outer s H vs Q E hr h => ?_)
  · unfold spSaid at h
    obtain ⟨_, _, _, _, rfl, _⟩ := h
    rfl
  · unfold spSaid at h
    obtain ⟨x, y, dx, dy, rfl, hx, hy, s1, s2, q1, q2, q3⟩ := h
    refine ⟨_, (pss_one (ps_try_cl rfl rfl takes0 (fun W pn xe tk po => (pss_one (ps_ret (pe_rx G_signature (hr.low (by decide)) (by rfl) T.signature.g T.signature.F.kp T.signature.b tk (pa_cons (pv 0) (pa_cons (pv 1) pa_nil))))))
      (ClOk.named (i := 2) sc_law_said.nd rfl rfl ⟨rfl, by decide, Or.inl T.NoWord.g⟩ (fun a oe cls d pn hz hf => (pss_one (ps_ret (pe_tup (pa_cons pe_str (pa_cons (pe_callB (id := "repr") (r := rReprD K) (call_reprD hr.units hr.gu) (by rfl) T.n_repr (by decide +kernel) (pa_cons (pe_xf T.NoWord.xf T.NoWord.no hz hf (pv 2)) pa_nil)) pa_nil)))))) (ClOk.named (i := 2) sc_law_said.nd rfl rfl ⟨rfl, by decide, Or.inl T.NoLength.g⟩ (fun a oe cls d pn hz hf => (pss_one (ps_ret (pe_tup (pa_cons pe_str (pa_cons (pe_callB (id := "repr") (r := rReprD K) (call_reprD hr.units hr.gu) (by rfl) T.n_repr (by decide +kernel) (pa_cons (pe_xf T.NoLength.xf T.NoLength.no hz hf (pv 2)) pa_nil)) pa_nil)))))) (ClOk.bare ⟨rfl, by decide, Or.inl T.FoldError.g⟩ (fun a oe cls d pn hz hf => (pss_one (ps_ret pe_str))) ClOk.nil))))), ?_⟩
    refine ⟨_, rfl, _, rfl, x, y, rfl, hx, hy, fun hw H' d sm hd => ?_, fun hw hl H' d sm hd => ?_, fun z L hw hz hL hL4 ys H' p hs sm hp hy => q3 z L hw hz hL hL4 ys H' p hs sm hp hy⟩
    · refine ⟨true, T.x_NoWord_NoWord, fun _ a ha => ?_, fun q => nomatch q⟩
      have sm2 : Same H (upd H' d (.xd [("word", x)])) := fun b o q => by
        rw [upd_ne (ne_of_none (sm _ _ q) hd)]
        exact sm _ _ q
      have S := (s1 hw).same sm2
      refine ⟨_, rfl, rfl, rfl, d, _, x, rfl, upd_same, rfl, x, dx, rfl, S.dp, S.sh, S.nd, S.dt, S.sz, (by show 2 ≤ sizeLine; decide), fun p hp => ?_⟩
      refine q1 hw _ p (fun b o q => ?_) (sm2.free hp) upd_same
      rw [upd_ne (ne_of_none (sm2 _ _ q) hp)]
      exact sm2 _ _ q
    · refine ⟨false, T.x_NoLength_NoWord, (fun q => nomatch q), fun _ => ⟨true, T.x_NoLength_NoLength, fun _ a ha => ?_, fun q => nomatch q⟩⟩
      have sm2 : Same H (upd H' d (.xd [("length", y)])) := fun b o q => by
        rw [upd_ne (ne_of_none (sm _ _ q) hd)]
        exact sm _ _ q
      have S := (s2 hw hl).same sm2
      refine ⟨_, rfl, rfl, rfl, d, _, y, rfl, upd_same, rfl, y, dy, rfl, S.dp, S.sh, S.nd, S.dt, S.sz, (by show 2 ≤ sizeLine; decide), fun p hp => ?_⟩
      refine q2 hw hl _ p (fun b o q => ?_) (sm2.free hp) upd_same
      rw [upd_ne (ne_of_none (sm2 _ _ q) hp)]
      exact sm2 _ _ q
end
end Wf
namespace Wf
open PySem PySem.Spec PyProof.Rows L2
/-- what stands but at other places stands -/
def Kept (s : Addr) (H H' : Hp) : Prop := ∀ b o, b ≠ s → H b = some o → H' b = some o
section
variable {P : Program} {w : World} {K : PySem.W.Frag} {mg : Str → Option Value} {base : Heap}
theorem iteC {c : Bool} {a b : Int} {σ : L2.St} {H : Hp} {Q : VK} (h : tC (.int (if c = true then a else b)) σ H Q) : if c = true then tC (.int a) σ H Q else tC (.int b) σ H Q := by
  cases c <;> exact h
theorem shows_str {H : Hp} {z : Str} (h : Asc z) (hz : z.length ≤ 100000) : Shows K H (.str z) (.str z) :=
  ⟨.str z, rfl, rfl, by rw [PyData.depth]; decide, by rw [PyData.shown]; exact Nat.le_trans (repr_len h) (Nat.le_trans (show 10 * z.length + 2 ≤ 1000002 by omega) (by decide)), by rw [PyData.shown]; exact repr_ok h⟩
theorem isW_of {wd : Wd} (h : wd.length ≤ 200) (hw : ∀ c ∈ wd, c ∈ signs 4) : isWord 4 200 (vW wd) = true := by
  show (decide (wd.length ≤ 200) && _) = true
  rw [decide_eq_true h, Bool.true_and]
  refine List.all_eq_true.mpr fun c hc => ?_
  rw [List.contains_iff_mem]
  exact hw c hc
theorem asc_of {wd : Wd} (hw : ∀ c ∈ wd, c ∈ signs 4) : Asc (SW wd) := fun c hc => by
  have : c ∈ [97, 98, 99, 100] := hw c hc
  simp only [List.mem_cons, List.not_mem_nil, or_false] at this
  omega
theorem asWord_str {H : Hp} {z : Str} (hz : z.length ≤ 100000) (ha : Asc z) : AsWord K H (.str z) :=
  ⟨.type "str", true, .base (.str _), by rfl, fun _ => ⟨z, rfl, Nat.le_trans hz (by decide), asc_ok ha⟩, fun q => nomatch q⟩
theorem asLen_int {H : Hp} (i : Int) : AsLen K H (.int i) := ⟨.type "int", true, false, .base (.int _), by rfl, fun _ => by rfl, fun _ => ⟨i, rfl⟩, fun q => nomatch q⟩
theorem said_good {H : Hp} {Q : VK} {E : XK} {wd : Wd} {L : Nat} {y : V} (h : wd.length ≤ 200) (hw : ∀ c ∈ wd, c ∈ signs 4) (hL : L ≤ 4) (hy : y = .int (L : Nat))
    (q : ∀ ys H' p, IsSig (SW wd) L ys → Same H H' → H p = none → H' p = some (.lst (ys.map vW)) → Q (.ref p) H') : spSaid K [vW wd, y] H Q E := by
  subst hy
  have hl : lenOk (.int (L : Nat)) = true := by
    show (decide (0 ≤ (L : Int)) && decide ((L : Int) ≤ 4)) = true
    rw [decide_eq_true (by omega), decide_eq_true (by omega)]
    rfl
  have hb := isW_of h hw
  unfold spSaid
  refine ⟨_, _, .none, .none, rfl, asWord_str (Nat.le_trans h (by decide)) (asc_of hw), asLen_int _, fun e => ?_, fun _ e => ?_, fun e => ?_, fun _ e => ?_, fun z L2 _ e1 e2 _ ys H' p s1 s2 s3 s4 => ?_⟩
  · rw [hb] at e; cases e
  · rw [hl] at e; cases e
  · rw [hb] at e; cases e
  · rw [hl] at e; cases e
  · have e3 : SW wd = z := V.str.inj e1
    have e4 : (L : Int) = L2 := V.int.inj e2
    have e5 : L = L2 := by omega
    subst e3 e5
    exact q ys H' p s1 s2 s3 s4
theorem said_badL {H : Hp} {Q : VK} {E : XK} {wd : Wd} {y : V} {d : PyData} (h : wd.length ≤ 200) (hw : ∀ c ∈ wd, c ∈ signs 4) (hy : AsLen K H y) (hl : lenOk y = false) (hd : Shows K H y d)
    (q : ∀ H' p, Same H H' → H p = none → H' p = some (.tup [.str "length", .str d.shown]) → Q (.ref p) H') : spSaid K [vW wd, y] H Q E := by
  have hb := isW_of h hw
  unfold spSaid
  refine ⟨_, _, .none, d, rfl, asWord_str (Nat.le_trans h (by decide)) (asc_of hw), hy, fun e => ?_, fun _ _ => hd, fun e => ?_, fun _ _ => q, fun z L2 _ e1 e2 e3 ys H' p s1 s2 s3 s4 => ?_⟩
  · rw [hb] at e; cases e
  · rw [hb] at e; cases e
  · rw [e2] at hl
    have : (decide (0 ≤ (L2 : Int)) && decide ((L2 : Int) ≤ 4)) = false := hl
    rw [decide_eq_true (by omega), decide_eq_true (by omega)] at this
    cases this
theorem said_badW {H : Hp} {Q : VK} {E : XK} {x y : V} {d : PyData} (hx : AsWord K H x) (hw : isWord 4 200 x = false) (hy : AsLen K H y) (hd : Shows K H x d)
    (q : ∀ H' p, Same H H' → H p = none → H' p = some (.tup [.str "word", .str d.shown]) → Q (.ref p) H') : spSaid K [x, y] H Q E := by
  unfold spSaid
  refine ⟨_, _, d, .none, rfl, hx, hy, fun _ => hd, fun e => ?_, fun _ => q, fun e => ?_, fun z L2 e => ?_⟩
  · rw [hw] at e; cases e
  · rw [hw] at e; cases e
  · rw [hw] at e; cases e
theorem shows_data {H : Hp} {x : V} {d : PyData} (h : Dp K H x d) (e : (d.showable && !d.hasDict && decide (d.depth ≤ 50) && decide (d.shown.length ≤ 1000) && PyData.strOk d.shown) = true) : Shows K H x d := by
  simp only [Bool.and_eq_true, decide_eq_true_eq, Bool.not_eq_true'] at e
  obtain ⟨⟨⟨⟨a, b⟩, c⟩, f⟩, g⟩ := e
  exact ⟨h, a, b, c, Nat.le_trans f (by decide), g⟩
theorem asLen_same {H H' : Hp} {x : V} (s : Same H H') (h : AsLen K H x) : AsLen K H' x := by
  obtain ⟨t, b1, b2, ty, r⟩ := h
  exact ⟨t, b1, b2, tyx_same s ty, r⟩
theorem asWord_same {H H' : Hp} {x : V} (s : Same H H') (h : AsWord K H x) : AsWord K H' x := by
  obtain ⟨t, b, ty, r⟩ := h
  exact ⟨t, b, tyx_same s ty, r⟩
theorem asLen_non {H : Hp} : AsLen K H .non := ⟨.type "NoneType", false, false, .base .non, by rfl, (fun q => nomatch q), (fun q => nomatch q), fun _ => rfl⟩
theorem asLen_bl {H : Hp} (b : Bool) : AsLen K H (.bl b) := ⟨.type "bool", true, true, .base (.bl b), by rfl, fun _ => by rfl, (fun q => nomatch q), fun _ => rfl⟩
theorem asLen_str {H : Hp} (z : Str) : AsLen K H (.str z) := ⟨.type "str", false, false, .base (.str z), by rfl, (fun q => nomatch q), (fun q => nomatch q), fun _ => rfl⟩
theorem asLen_lst {H : Hp} {a : Addr} {xs : List V} (h : H a = some (.lst xs)) : AsLen K H (.ref a) := ⟨.type "list", false, false, .base (.lst h), by rfl, (fun q => nomatch q), (fun q => nomatch q), fun _ => rfl⟩
theorem asWord_non {H : Hp} : AsWord K H .non := ⟨.type "NoneType", false, .base .non, by rfl, (fun q => nomatch q), fun _ => rfl⟩
theorem asWord_bl {H : Hp} (b : Bool) : AsWord K H (.bl b) := ⟨.type "bool", false, .base (.bl b), by rfl, (fun q => nomatch q), fun _ => rfl⟩
theorem asWord_int {H : Hp} (i : Int) : AsWord K H (.int i) := ⟨.type "int", false, .base (.int i), by rfl, (fun q => nomatch q), fun _ => rfl⟩
theorem asWord_lst {H : Hp} {a : Addr} {xs : List V} (h : H a = some (.lst xs)) : AsWord K H (.ref a) := ⟨.type "list", false, .base (.lst h), by rfl, (fun q => nomatch q), fun _ => rfl⟩
theorem asWord_tup {H : Hp} {a : Addr} {xs : List V} (h : H a = some (.tup xs)) : AsWord K H (.ref a) := ⟨.type "tuple", false, .base (.tup h), by rfl, (fun q => nomatch q), fun _ => rfl⟩
def OddL (K : PySem.W.Frag) (H : Hp) (x : V) : Prop := AsLen K H x ∧ lenOk x = false ∧ ∃ d, Shows K H x d
def OddW (K : PySem.W.Frag) (H : Hp) (x : V) : Prop := AsWord K H x ∧ isWord 4 200 x = false ∧ ∃ d, Shows K H x d
theorem Ext.trans {s : Addr} {A B C : Hp} (h : Ext s A B) (g : Ext s B C) : Ext s A C := ⟨g.1, fun b o n z => g.2 b o n (h.2 b o n z)⟩
theorem Ext.same {s : Addr} {A B C : Hp} (h : Ext s A B) (g : Same B C) : Ext s A C := by
  obtain ⟨⟨a, b, c, q⟩, r⟩ := h
  exact ⟨⟨a, b, c, g _ _ q⟩, fun b o n z => g _ _ (r b o n z)⟩
theorem same_new {A : Hp} {p : Addr} {o : HO} (h : A p = none) : Same A (upd A p o) := fun b q z => by rw [upd_ne (ne_of_none z h)]; exact z
theorem Ext.new {s p : Addr} {A B : Hp} {o : HO} (h : Ext s A B) (hp : B p = none) : Ext s A (upd B p o) := h.same (same_new hp)
theorem Src.ext {s : Addr} {A : Hp} (h : Src A s) : Ext s A A := ⟨h, fun _ _ _ z => z⟩
theorem Src.ne {s p : Addr} {A : Hp} (h : Src A s) (hp : A p = none) : p ≠ s := fun e => by
  obtain ⟨_, _, _, q⟩ := h
  rw [e, q] at hp
  cases hp
theorem oddW_str {H : Hp} {u : Wd} (h : 200 < u.length ∨ ∃ c ∈ u, c ∉ signs 4) (ha : ∀ c ∈ u, c < 128) (hl : u.length ≤ 1000) : OddW K H (vW u) := by
  refine ⟨asWord_str (Nat.le_trans hl (by decide)) ha, ?_, _, shows_str ha (Nat.le_trans hl (by decide))⟩
  show (decide (u.length ≤ 200) && u.all fun c => ([97, 98, 99, 100].take 4).contains c) = false
  rcases h with h | ⟨c, hc, hn⟩
  · rw [decide_eq_false (by omega)]
    rfl
  · rw [Bool.and_eq_false_iff]
    refine .inr ?_
    rw [List.all_eq_false]
    refine ⟨c, hc, fun q => hn ?_⟩
    rw [List.contains_iff_mem] at q
    exact q
def spRight : Sp := fun vs H Q _ => ∃ s, vs = [.ref s] ∧ Src H s ∧ ∀ H', Ext s H H' → Q (.bl true) H'
theorem ok_law_right (T : Tx K mg) : FnR P w K mg base 8 T.law_right.f T.law_right.fd ["source"] spRight := by
  have G_law_draw : FnR P w K mg base 1 T.law_draw.f T.law_draw.fd ["source", "many"] spDraw := ok_law_draw T
  have G_law_pick : FnR P w K mg base 2 T.law_pick.f T.law_pick.fd ["source", "some"] (spPick K) := ok_law_pick T
  have G_law_all_words : FnR P w K mg base 1 T.law_all_words.f T.law_all_words.fd ["letters", "most"] spAll := ok_law_all_words T
  have G_law_is_part : FnR P w K mg base 1 T.law_is_part.f T.law_is_part.fd ["one", "word"] spPart := ok_law_is_part T
  have G_law_said : FnR P w K mg base 7 T.law_said.f T.law_said.fd ["word", "length"] (spSaid K) := ok_law_said T
  refine fun_ok T.law_right.F sc_law_right (fun vs H Q E h => ?_) (fun cdv A outer s H vs Q E hr h => ?_)
  · obtain ⟨_, rfl, _⟩ := h
    rfl
  · obtain ⟨s0, rfl, hs, q⟩ := h
    refine ⟨_, (pss_cons (ps_set (i := 1) sc_law_right.nd rfl (Or.inr rfl) (pe_op op_add pe_int (pe_r G_law_draw (hr.low (by decide)) (by rfl) T.law_draw.g T.law_draw.F.kp T.law_draw.b (pa_cons (pv 0) (pa_cons pe_int pa_nil)))))
      (pss_cons (ps_set (i := 2) sc_law_right.nd rfl (Or.inl rfl) (pe_r G_law_pick (hr.low (by decide)) (by rfl) T.law_pick.g T.law_pick.F.kp T.law_pick.b (pa_cons (pv 0) (pa_cons (pe_lst (pa_cons pe_int (pa_cons pe_int (pa_cons pe_int (pa_cons pe_int (pa_cons pe_int (pa_cons pe_int (pa_cons pe_int (pa_cons pe_int (pa_cons pe_int pa_nil)))))))))) pa_nil))))
      (pss_cons (ps_set (i := 3) sc_law_right.nd rfl (Or.inr rfl) (pe_join pe_str (pe_lc (own := [("turn", 9)]) (g := gName 9) (tt := tYes) rfl sc_law_right.nd (pi_range1 (by rfl) T.n_range (pa_cons (pv 2) pa_nil)) (blkOk_by (own := [("turn", 9)]) (N := N_law_right) (sc := defScope s_law_right) (by decide +kernel)) (fun _ _ _ _ _ => (pg_name (i := 9) sc_law_right.nd rfl (.inl rfl))) (fun _ _ _ _ _ => pts_nil) (fun _ _ _ _ _ => (pe_r G_law_pick (hr.low (by decide)) (by rfl) T.law_pick.g T.law_pick.F.kp T.law_pick.b (pa_cons (pv 0) (pa_cons (pe_callTy (call_listS rfl) (by rfl) T.n_list (by decide +kernel) (pa_cons (pe_slice sl_str pe_str po_none (po_some (pv 1))) pa_nil)) pa_nil)))))))
      (pss_cons (ps_set (i := 4) sc_law_right.nd rfl (Or.inl rfl) (pe_r G_law_all_words (hr.low (by decide)) (by rfl) T.law_all_words.g T.law_all_words.F.kp T.law_all_words.b (pa_cons pe_int (pa_cons (pe_ifExp (pt_cmpR op_lt (pv 2) pe_int (nomark _)) pe_int pe_int) pa_nil))))
      (pss_cons (ps_for PassesOwn.never rfl (pi_range1 (by rfl) T.n_range (pa_cons (pe_ifExp (pt_cmpR op_lt (pv 2) pe_int (nomark _)) pe_int pe_int) pa_nil)) (pg_name (i := 5) sc_law_right.nd rfl (.inr rfl)) (pss_cons (ps_setLc (i := 6) (own := [("one", 10)]) (g := gName 10) rfl sc_law_right.nd rfl rfl (sw_true rfl rfl rfl (by decide +kernel)) (pi_list (pv 4)) (blkOk_by (own := [("one", 10)]) (N := N_law_right) (sc := defScope s_law_right) (by decide +kernel)) (fun _ _ _ _ _ => (pg_name (i := 10) sc_law_right.nd rfl (.inl rfl))) (fun _ _ _ _ _ => pts_one (PW.pt (pw_and (pt_cmpR op_le (pe_callB call_len_str (by rfl) T.n_len PySem.boot_len (pa_cons (pv 10) pa_nil)) (pv 5) (nomark _)) (pw_and1 (pt_val (pe_r G_law_is_part (hr.low (by decide)) (by rfl) T.law_is_part.g T.law_is_part.F.kp T.law_is_part.b (pa_cons (pv 10) (pa_cons (pv 3) pa_nil)))))))) (fun _ _ _ _ _ => (pv 10)))
      (pss_cons (ps_set (i := 7) sc_law_right.nd rfl (Or.inl rfl) (pe_r G_law_said (hr.low (by decide)) (by rfl) T.law_said.g T.law_said.F.kp T.law_said.b (pa_cons (pv 3) (pa_cons (pv 5) pa_nil))))
      (pss_cons (ps_if (PW.pt (pw_or (pt_cmpR (op_neD hr.units) (pv 7) (pv 6) (nomark _)) (pw_or1 (pt_not (pt_val (pe_callB call_isi (by rfl) T.n_isinstance (by decide +kernel) (pa_cons (pv 7) (pa_cons (pe_bltn (v := .ty "list") (u := .type "list") (by rfl) T.n_list (by decide +kernel) rfl) pa_nil)))))))) (pss_one (ps_ret pe_bl)) pss_nil)
      (pss_cons (ps_expr (pe_bm PySem.F.plainAttrs_list PySem.F.slot_list_append PySem.F.type_list_append mt_append (pv 7) (pa_cons pe_non pa_nil)))
      (pss_one (ps_if (pt_cmpR (op_neD hr.units) (pe_r G_law_said (hr.low (by decide)) (by rfl) T.law_said.g T.law_said.F.kp T.law_said.b (pa_cons (pv 3) (pa_cons (pv 5) pa_nil))) (pv 6) (nomark _)) (pss_one (ps_ret pe_bl)) pss_nil)))))))
      (pss_cons (ps_for PassesOwn.never rfl (pi_tup (pe_tup (pa_cons (pe_un un_neg pe_int) (pa_cons pe_int (pa_cons pe_non (pa_cons pe_bl (pa_cons pe_str (pa_cons (pe_op op_pow pe_int pe_int) (pa_cons (pe_lst (pa_cons pe_int pa_nil)) pa_nil))))))))) (pg_name (i := 8) sc_law_right.nd rfl (.inl rfl)) (pss_one (ps_if (pt_cmpR (op_neD hr.units) (pe_r G_law_said (hr.low (by decide)) (by rfl) T.law_said.g T.law_said.F.kp T.law_said.b (pa_cons (pv 3) (pa_cons (pv 8) pa_nil))) (pe_tup (pa_cons pe_str (pa_cons (pe_callB (id := "repr") (r := rReprD K) (call_reprD hr.units hr.gu) (by rfl) T.n_repr (by decide +kernel) (pa_cons (pv 8) pa_nil)) pa_nil))) (nomark _)) (pss_one (ps_ret pe_bl)) pss_nil)))
      (pss_cons (ps_for PassesOwn.never rfl (pi_tup (pe_tup (pa_cons pe_non (pa_cons pe_int (pa_cons (pe_lst (pa_cons pe_str pa_nil)) (pa_cons pe_str (pa_cons (pe_op op_add_str (pv 3) pe_str) (pa_cons pe_str (pa_cons (pe_op op_rep_str pe_str pe_int) (pa_cons (pe_op op_add_str (pv 3) pe_str) (pa_cons pe_bl (pa_cons (pe_tup (pa_cons pe_str pa_nil)) (pa_cons (pe_op op_add_str (pv 3) (pe_op op_rep_str pe_str pe_int)) pa_nil))))))))))))) (pg_name (i := 8) sc_law_right.nd rfl (.inl rfl)) (pss_one (ps_if (pt_cmpR (op_neD hr.units) (pe_r G_law_said (hr.low (by decide)) (by rfl) T.law_said.g T.law_said.F.kp T.law_said.b (pa_cons (pv 8) (pa_cons (pe_r G_law_pick (hr.low (by decide)) (by rfl) T.law_pick.g T.law_pick.F.kp T.law_pick.b (pa_cons (pv 0) (pa_cons (pe_lst (pa_cons pe_int (pa_cons pe_int (pa_cons (pe_un un_neg pe_int) (pa_cons pe_non pa_nil))))) pa_nil))) pa_nil))) (pe_tup (pa_cons pe_str (pa_cons (pe_callB (id := "repr") (r := rReprD K) (call_reprD hr.units hr.gu) (by rfl) T.n_repr (by decide +kernel) (pa_cons (pv 8) pa_nil)) pa_nil))) (nomark _)) (pss_one (ps_ret pe_bl)) pss_nil)))
      (pss_one (ps_ret pe_bl))))))))), ?_⟩
    -- letters
    refine ⟨_, rfl, s0, 4, rfl, by decide, by decide, hs, fun d H1 d0 d4 x1 => ?_⟩
    refine ⟨_, _, rfl, rfl, ?_⟩
    -- many
    refine ⟨_, rfl, (by show 9 ≤ sizeLine; decide), fun l1 hl1 => ?_⟩
    have hs1 := x1.1
    have hne1 : s0 ≠ l1 := fun e => by
      obtain ⟨_, _, _, q⟩ := hs1
      rw [e, hl1] at q
      cases q
    have hs1' : Src (upd H1 l1 (.lst [.int 0, .int 1, .int 2, .int 3, .int 5, .int 8, .int 13, .int 40, .int 200])) s0 := by
      obtain ⟨a, b, c, q⟩ := hs1
      exact ⟨a, b, c, by rw [upd_ne hne1]; exact q⟩
    refine ⟨s0, l1, _, rfl, hs1', .inl (.inl upd_same), hne1.symm, by decide, by decide, fun i v H2 hi x2 => ?_⟩
    obtain ⟨m, rfl, hm⟩ : ∃ m : Nat, v = .int (m : Nat) ∧ m ≤ 200 := by
      have := List.mem_of_getElem? hi
      simp only [List.mem_cons, List.not_mem_nil, or_false] at this
      rcases this with rfl | rfl | rfl | rfl | rfl | rfl | rfl | rfl | rfl
      · exact ⟨0, rfl, by decide⟩
      · exact ⟨1, rfl, by decide⟩
      · exact ⟨2, rfl, by decide⟩
      · exact ⟨3, rfl, by decide⟩
      · exact ⟨5, rfl, by decide⟩
      · exact ⟨8, rfl, by decide⟩
      · exact ⟨13, rfl, by decide⟩
      · exact ⟨40, rfl, by decide⟩
      · exact ⟨200, rfl, by decide⟩
    obtain ⟨n, rfl, hn1, hn4⟩ : ∃ n : Nat, d = (n : Int) ∧ 0 ≤ n ∧ n < 4 := ⟨d.toNat, by omega, by omega, by omega⟩
    -- word
    refine ⟨⟨_, rfl⟩, _, rfl, m, rfl, by omega, by omega, fun D hD => ?_⟩
    refine lc_it (walk_range (lo := 0)) (fun i H3 => ∃ wd : Wd, wd.length = i ∧ (∀ c ∈ wd, c ∈ signs 4) ∧ H3 D = some (.lst (wd.map fun c => V.str ⟨#[c]⟩)) ∧ Ext s0 H2 H3) ⟨[], rfl, (fun _ q => absurd q (by simp)), upd_same, ?_⟩ (fun _ _ _ _ => True.intro) ?_ ?_
    · obtain ⟨a, b, c, q⟩ := x2.1
      exact ⟨⟨a, b, c, by rw [upd_ne (ne_of_none q hD)]; exact q⟩, fun b o _ z => by rw [upd_ne (ne_of_none z hD)]; exact z⟩
    · rintro i x H3 H4 hi3 ⟨wd, hwl, hwd, hl, x3⟩ ⟨rfl, rfl⟩
      refine ⟨rfl, ?_⟩
      unfold tYes
      refine iteT ?_
      have e1n : (1 : Int) + (n : Int) = ((n + 1 : Nat) : Int) := by omega
      refine ⟨_, rfl, _, rfl, _, rfl, "abcd", rfl, by decide, ?_⟩
      have hcut : (cutS "abcd" none (some ((1 : Int) + (n : Int)))).cps.toList = [97, 98, 99, 100].take (n + 1) := by
        rw [e1n]
        exact cut_abcd (by omega)
      have hcl : (cutS "abcd" none (some ((1 : Int) + (n : Int)))).length = n + 1 := by
        show Array.size _ = _
        rw [← Array.length_toList, hcut, List.length_take]
        show min (n + 1) 4 = n + 1
        omega
      refine ⟨_, rfl, ?_, fun l2 hl2 => ?_⟩
      · rw [hcl]
        exact Nat.le_trans (show n + 1 ≤ 4 by omega) (by decide)
      · obtain ⟨⟨a3, b3, c3, q3⟩, x3'⟩ := x3
        have hne2 : s0 ≠ l2 := ne_of_none q3 hl2
        have hDl2 : D ≠ l2 := ne_of_none hl hl2
        have hDs : D ≠ s0 := fun e => by
          obtain ⟨⟨_, _, _, q⟩, _⟩ := x2
          rw [e, q] at hD
          cases hD
        refine ⟨s0, l2, _, rfl, ⟨a3, b3, c3, by rw [upd_ne hne2]; exact q3⟩, .inl (.inl upd_same), hne2.symm, ?_, ?_, fun j v H5 hj x5 => ?_⟩
        · rw [List.length_map, hcut, List.length_take]
          show 0 < min (n + 1) 4
          omega
        · rw [List.length_map, hcut, List.length_take]
          exact Nat.lt_of_le_of_lt (Nat.min_le_right _ _) (by decide)
        · rw [List.getElem?_map, hcut] at hj
          obtain ⟨c, hc, rfl⟩ : ∃ c, c ∈ signs 4 ∧ v = V.str ⟨#[c]⟩ := by
            cases e5 : ([97, 98, 99, 100].take (n + 1))[j]? with
            | none => rw [e5] at hj; cases hj
            | some c =>
              rw [e5] at hj
              exact ⟨c, List.mem_of_mem_take (List.mem_of_getElem? e5), (Option.some.inj hj).symm⟩
          have hl5 : H5 D = some (.lst (wd.map fun c => V.str ⟨#[c]⟩)) := x5.2 _ _ hDs (by rw [upd_ne hDl2]; exact hl)
          refine ⟨_, hl5, ?_, wd ++ [c], by rw [List.length_append, hwl]; rfl, ?_, ?_, ?_⟩
          · rw [List.length_map, hwl]
            have : i < ((m : Int) - 0).toNat := hi3
            exact Nat.lt_of_lt_of_le (show i < 1000 by omega) (by decide)
          · intro x hx
            rcases List.mem_append.mp hx with hx | hx
            · exact hwd x hx
            · rw [List.mem_singleton.mp hx]
              exact hc
          · rw [upd_same, List.map_append]
            rfl
          · obtain ⟨⟨a5, b5, c5, q5⟩, x5'⟩ := x5
            refine ⟨⟨a5, b5, c5, by rw [upd_ne hDs.symm]; exact q5⟩, fun b o hb ho => ?_⟩
            rw [upd_ne (ne_of_none ho hD)]
            have h3 := x3' b o hb ho
            refine x5' b o hb ?_
            rw [upd_ne (ne_of_none h3 hl2)]
            exact h3
    · rintro H3 ⟨wd, hwl, hwd, hl, x3⟩
      refine ⟨"", D, wd.map fun c => (⟨#[c]⟩ : Str), rfl, rfl, .inl (.inl (.inl (by rw [List.map_map]; exact hl))), ?_, ?_⟩
      · have e1 : ((wd.map fun c => (⟨#[c]⟩ : Str)).map (·.length)).sum = wd.length := by
          rw [List.map_map]
          clear hl hwl
          induction wd with
          | nil => rfl
          | cons a wd ih => rw [List.map_cons, List.sum_cons, List.length_cons, ih fun c hc => hwd c (List.mem_cons_of_mem _ hc)]; exact Nat.add_comm 1 _
        rw [e1, List.length_map, show ("" : Str).length = 0 by decide, Nat.mul_zero, hwl]
        simp
        omega
      rw [join_one_is]
      have hwm : wd.length = m := by rw [hwl]; simp
      -- some
      refine ⟨_, rfl, ?_⟩
      obtain ⟨N, hN, hN1, hN4⟩ : ∃ N : Nat, (if decide ((m : Int) < 9) = true then (4 : Int) else 3) = (N : Nat) ∧ (if decide ((m : Int) < 9) = true then (5 : Int) else 4) = ((N + 1 : Nat) : Int) ∧ N ≤ 4 := by
        cases decide ((m : Int) < 9) with
        | true => exact ⟨4, rfl, rfl, by decide⟩
        | false => exact ⟨3, rfl, rfl, by decide⟩
      refine ⟨_, _, rfl, rfl, _, rfl, iteC ?_⟩
      rw [hN]
      refine ⟨4, N, rfl, by decide, by omega, Nat.le_trans (allW_mono 4 hN4) (by rw [all_len]; decide), fun u hu => ?_, fun H4 p sm4 hp hp4 => ?_⟩
      · have := ((mem_all 4 N u).mp hu).1
        omega
      have hwz : ∀ c ∈ wd, c ∈ signs 4 := hwd
      have hps : p ≠ s0 := fun e => by
        obtain ⟨⟨_, _, _, q⟩, _⟩ := x3
        rw [e, q] at hp
        cases hp
      have ex4 : Ext s0 H H4 := by
        obtain ⟨⟨a, b, c, q⟩, x3'⟩ := x3
        refine ⟨⟨a, b, c, sm4 _ _ q⟩, fun b o hb ho => ?_⟩
        have h1 := x1.2 b o hb ho
        have h2 := x2.2 b o hb (by rw [upd_ne (ne_of_none h1 hl1)]; exact h1)
        exact sm4 _ _ (x3' b o hb h2)
      -- for size in range
      refine ⟨_, rfl, ?_⟩
      refine ⟨_, _, rfl, rfl, _, rfl, iteC ?_⟩
      rw [hN1]
      refine ⟨_, rfl, by omega, by omega, ?_⟩
      refine for_it (walk_range (lo := 0)) (fun i σ H5 => ∃ y5 y6 y7, σ = [some (.ref s0), some (.int (1 + (n : Int))), some (.int (m : Nat)), some (vW wd), some (.ref p), y5, y6, y7, none, none, none] ∧ Same H4 H5)
        ⟨none, none, none, rfl, Same.refl _⟩ (fun _ _ _ _ _ => True.intro) ?_ ?_
      · rintro i x σ H5 H6 hi5 ⟨y5, y6, y7, rfl, sm5⟩ ⟨rfl, rfl⟩
        have hi5' : i ≤ N := by
          have : i < (((N + 1 : Nat) : Int) - 0).toNat := hi5
          omega
        refine ⟨_, rfl, p, rfl, ⟨_, .inl (.inl (sm5 _ _ hp4))⟩, fun D2 hD2 => ?_⟩
        refine lc_it (walk_list (K := K) (a := p) (xs := (allW 4 N).1.map vW)) (fun j H7 => Same H6 H7 ∧ H7 D2 = some (.lst ((((allW 4 N).1.take j).filter fun x => decide (x.length ≤ i) && decide (x.Sublist wd)).map vW))) ⟨fun b o z => by rw [upd_ne (ne_of_none z hD2)]; exact z, upd_same⟩ (fun j H7 _ q => .inl (.inl (q.1 _ _ (sm5 _ _ hp4)))) ?_ ?_
        · rintro j x H7 H8 hj ⟨sm7, hl7⟩ ⟨rfl, hx⟩
          obtain ⟨u, hu, rfl⟩ : ∃ u, (allW 4 N).1[j]? = some u ∧ x = vW u := by
            rw [List.getElem?_map] at hx
            cases e2 : (allW 4 N).1[j]? with
            | none => rw [e2] at hx; cases hx
            | some u => rw [e2] at hx; exact ⟨u, rfl, (Option.some.inj hx).symm⟩
          have hul : u.length ≤ N := ((mem_all 4 N u).mp (List.mem_of_getElem? hu)).1
          have hsl : (SW u).length = u.length := rfl
          have hwl' : (SW wd).length = wd.length := rfl
          have htk : (((allW 4 N).1.take (j + 1)).filter fun x => decide (x.length ≤ i) && decide (x.Sublist wd)) = (((allW 4 N).1.take j).filter fun x => decide (x.length ≤ i) && decide (x.Sublist wd)) ++ (if (decide (u.length ≤ i) && decide (u.Sublist wd)) = true then [u] else []) := by
            rw [List.take_add_one, hu, List.filter_append, show (some u).toList = [u] from rfl, List.filter_cons, List.filter_nil]
          have hlt : (((allW 4 N).1.take j).filter fun x => decide (x.length ≤ i) && decide (x.Sublist wd)).length < sizeLine := by
            refine Nat.lt_of_le_of_lt (List.length_filter_le _ _) ?_
            rw [List.length_take]
            exact Nat.lt_of_le_of_lt (Nat.min_le_right _ _) (Nat.lt_of_le_of_lt (allW_mono 4 hN4) (by rw [all_len]; decide))
          refine ⟨rfl, ?_⟩
          refine ⟨_, rfl, SW u, rfl, by rw [hsl]; exact Nat.le_trans (Nat.le_trans hul hN4) (by decide), _, rfl, _, _, rfl, rfl, _, rfl, ?_⟩
          have eb : decide (((SW u).length : Int) ≤ 0 + (i : Int)) = decide (u.length ≤ i) := by
            rw [hsl]
            exact decide_eq_decide.mpr (by omega)
          rw [eb]
          cases hb1 : decide (u.length ≤ i) with
          | false =>
            refine iteF (iteF ⟨sm7, ?_⟩)
            rw [htk, hb1]
            simpa using hl7
          | true =>
            refine iteT ⟨_, rfl, _, rfl, SW u, SW wd, rfl, by rw [hsl]; exact Nat.le_trans (Nat.le_trans hul hN4) (by decide), by rw [hwl', hwm]; exact Nat.le_trans hm (by decide), _, rfl, ?_⟩
            have ep : decide (partAt (SW u).cps.toList (SW wd).cps.toList = (SW u).length) = decide (u.Sublist wd) := decide_eq_decide.mpr (part_all u wd)
            rw [ep]
            cases hb2 : decide (u.Sublist wd) with
            | false =>
              refine iteF ⟨sm7, ?_⟩
              rw [htk, hb1, hb2]
              simpa using hl7
            | true =>
              refine iteT ⟨_, rfl, _, hl7, by rw [List.length_map]; exact hlt, fun b o z => ?_, ?_⟩
              · rw [upd_ne (ne_of_none z hD2)]
                exact sm7 _ _ z
              · rw [upd_same, htk, hb1, hb2, List.map_append]
                rfl
        · rintro H7 ⟨sm7, hl7⟩
          rw [show (allW 4 N).1.take ((allW 4 N).1.map vW).length = (allW 4 N).1 by rw [List.length_map, List.take_length]] at hl7
          generalize hdue : ((allW 4 N).1.filter fun x => decide (x.length ≤ i) && decide (x.Sublist wd)) = due at hl7
          -- found = said
          refine ⟨_, rfl, _, rfl, ?_⟩
          have hwd2 : wd.length ≤ 200 := by rw [hwm]; exact hm
          have ey : V.int (0 + (i : Int)) = .int (i : Nat) := by rw [Int.zero_add]
          have hdw : ∀ x ∈ due.map SW, PyData.strOk x = true := by
            intro x hx
            obtain ⟨u, hu, rfl⟩ := List.mem_map.mp hx
            rw [← hdue] at hu
            exact asc_ok (asc_of ((mem_all 4 N u).mp (List.mem_filter.mp hu).1).2)
          have hmap : due.map vW = (due.map SW).map V.str := by rw [List.map_map]; rfl
          refine said_good hwd2 hwd (by omega) ey fun ys H8 p2 hys sm8 hp2 hp28 => ?_
          have hyd : ys = due := by
            obtain ⟨ks, hk, hperm, hs⟩ := hys
            rw [← hdue]
            exact (due_is hk hwz (by omega) hperm hs).symm
          subst hyd
          have hD2p : D2 ≠ p2 := ne_of_none hl7 hp2
          -- found != due
          refine ⟨_, rfl, _, rfl, _, _, .lst (.inl (.inl hp28)) (by rw [hmap]; exact dp_strs _), .lst (.inl (.inl (sm8 _ _ hl7))) (by rw [hmap]; exact dp_strs _), shaped_strs hdw, shaped_strs hdw, _, rfl, ?_⟩
          have ee : PyData.eqv (.list ((ys.map SW).map PyData.str)) (.list ((ys.map SW).map PyData.str)) = true := by
            rw [PyData.eqv, eqv_strs]
            exact decide_eq_true rfl
          rw [ee]
          refine iteF ?_
          refine ⟨_, rfl, _, _, _, _, true, rfl, .ty "list", .base (.lst hp28), by rfl, true, rfl, iteF ?_⟩
          -- found.append(None)
          refine ⟨_, rfl, .inl ⟨rfl, _, SqL.of hp28⟩, ?_⟩
          refine ⟨p2, _, .non, rfl, rfl, hp28, ?_, ?_⟩
          · rw [List.length_map, ← hdue]
            exact Nat.lt_of_le_of_lt (Nat.le_trans (List.length_filter_le _ _) (allW_mono 4 hN4)) (by rw [all_len]; decide)
          have sm9 : Same H4 (upd H8 p2 (.lst (ys.map vW ++ [.non]))) := fun b o z => by
            have z7 := sm7 _ _ (sm5 _ _ z)
            rw [upd_ne (ne_of_none z7 hp2)]
            exact sm8 _ _ z7
          refine ⟨_, rfl, _, rfl, ?_⟩
          refine said_good hwd2 hwd (by omega) ey fun ys2 H10 p3 hys2 sm10 hp3 hp310 => ?_
          have hyd2 : ys2 = ys := by
            obtain ⟨ks, hk, hperm, hs⟩ := hys2
            rw [← hdue]
            exact (due_is hk hwz (by omega) hperm hs).symm
          subst hyd2
          refine ⟨_, rfl, _, _, .lst (.inl (.inl hp310)) (by rw [hmap]; exact dp_strs _), .lst (.inl (.inl (sm10 _ _ (by rw [upd_ne hD2p]; exact sm8 _ _ hl7)))) (by rw [hmap]; exact dp_strs _), shaped_strs hdw, shaped_strs hdw, _, rfl, ?_⟩
          rw [ee]
          refine iteF ?_
          exact ⟨_, _, _, rfl, fun b o z => sm10 _ _ (sm9 _ _ z)⟩
      · rintro σ H5 ⟨y5, y6, y7, rfl, sm5⟩
        -- what is no length
        refine ⟨_, rfl, _, _, rfl, rfl, ⟨by decide, by decide, by decide⟩, (by show 1 ≤ sizeLine; decide), fun l6 hl6 => ⟨(by show 7 ≤ sizeLine; decide), fun t6 ht6 => ?_⟩⟩
        have hlt6 : l6 ≠ t6 := fun e => by
          rw [← e, upd_same] at ht6
          cases ht6
        generalize hX : upd (upd H5 l6 (.lst [.int 2])) t6 (.tup [.int (-1), .int 5, .non, .bl true, .str "1", .int (10 ^ (20 : Int).toNat), .ref l6]) = X
        have hXt : X t6 = some (.tup [.int (-1), .int 5, .non, .bl true, .str "1", .int (10 ^ (20 : Int).toNat), .ref l6]) := by rw [← hX, upd_same]
        have hXl : X l6 = some (.lst [.int 2]) := by rw [← hX, upd_ne hlt6, upd_same]
        have smX : Same H4 X := fun b o z => by
          have z5 := sm5 _ _ z
          rw [← hX, upd_ne (ne_of_none (by rw [upd_ne (ne_of_none z5 hl6)]; exact z5) ht6), upd_ne (ne_of_none z5 hl6)]
          exact z5
        have hwd2 : wd.length ≤ 200 := by rw [hwm]; exact hm
        have oddX : ∀ x ∈ ([.int (-1), .int 5, .non, .bl true, .str "1", .int (10 ^ (20 : Int).toNat), .ref l6] : List V), OddL K X x := by
          intro x hx
          simp only [List.mem_cons, List.not_mem_nil, or_false] at hx
          rcases hx with rfl | rfl | rfl | rfl | rfl | rfl | rfl
          · exact ⟨asLen_int _, by decide +kernel, _, shows_data (.int _) (by decide +kernel)⟩
          · exact ⟨asLen_int _, by decide +kernel, _, shows_data (.int _) (by decide +kernel)⟩
          · exact ⟨asLen_non, rfl, _, shows_data .non (by decide +kernel)⟩
          · exact ⟨asLen_bl _, rfl, _, shows_data (.bl _) (by decide +kernel)⟩
          · exact ⟨asLen_str _, rfl, _, shows_data (.str _) (by decide +kernel)⟩
          · exact ⟨asLen_int _, by decide +kernel, _, shows_data (.int _) (by decide +kernel)⟩
          · exact ⟨asLen_lst hXl, rfl, .list [.int 2], shows_data (.lst (.inl (.inl hXl)) (.cons (.int 2) .nil)) (by decide +kernel)⟩
        refine ⟨t6, rfl, ⟨_, .inl (.inl hXt)⟩, ?_⟩
        refine for_it (walk_tup (K := K) (a := t6) (xs := [.int (-1), .int 5, .non, .bl true, .str "1", .int (10 ^ (20 : Int).toNat), .ref l6])) (fun i σ H6 => ∃ y8, σ = [some (.ref s0), some (.int (1 + (n : Int))), some (.int (m : Nat)), some (vW wd), some (.ref p), y5, y6, y7, y8, none, none] ∧ Same X H6)
          ⟨none, rfl, Same.refl _⟩ (fun i σ H6 _ z => ?_) ?_ ?_
        · obtain ⟨_, _, z⟩ := z
          exact .inl (.inl (z _ _ hXt))
        · rintro i x σ H6 H7 hi6 ⟨y8, rfl, sm6⟩ ⟨rfl, hx⟩
          obtain ⟨ol, on, dx, ds⟩ := oddX x (List.mem_of_getElem? hx)
          refine ⟨_, rfl, _, rfl, ?_⟩
          refine said_badL hwd2 hwd (asLen_same sm6 ol) on (ds.same sm6) fun H8 p8 sm8 hp8 hp88 => ?_
          refine ⟨_, rfl, _, _, rfl, (ds.same (fun b o z => sm8 _ _ (sm6 _ _ z))).dp, ds.sh, ds.nd, ds.dt, ds.sz, (by show 2 ≤ sizeLine; decide), fun p9 hp9 => ?_⟩
          have h89 : p8 ≠ p9 := ne_of_none hp88 hp9
          refine ⟨_, _, .tup (.inl (.inl (by rw [upd_ne h89]; exact hp88))) (dp_strs ["length", dx.shown]), .tup (.inl (.inl upd_same)) (dp_strs ["length", dx.shown]), shaped_pair (by decide +kernel) ds.ok, shaped_pair (by decide +kernel) ds.ok, _, rfl, ?_⟩
          rw [show (["length", dx.shown] : List Str).map PyData.str = [.str "length", .str dx.shown] from rfl, eqv_pair]
          refine iteF ⟨_, rfl, fun b o z => ?_⟩
          have z8 := sm8 _ _ (sm6 _ _ z)
          rw [upd_ne (ne_of_none z8 hp9)]
          exact z8
        · rintro σ H6 ⟨y8, rfl, sm6⟩
          -- what is no word
          have lwd : (SW wd).length = wd.length := rfl
          have l201 : (repS "a" 201).length = 201 := by decide +kernel
          refine ⟨(by show 1 ≤ sizeLine; decide), fun l7 hl7 => ⟨_, rfl, _, _, rfl, rfl, ?_, _, _, rfl, rfl, by decide, by decide, by decide, by decide, _, rfl, _, _, rfl, rfl, ?_, (by show 1 ≤ sizeLine; decide), fun t7 ht7 => ⟨_, rfl, _, _, rfl, rfl, by decide, by decide, by decide, by decide, _, _, rfl, rfl, ?_, (by show 11 ≤ sizeLine; decide), fun t8 ht8 => ?_⟩⟩⟩
          · rw [lwd]
            exact Nat.le_trans (show wd.length + 1 ≤ 201 by omega) (by decide)
          · rw [lwd]
            exact Nat.le_trans (show wd.length + 1 ≤ 201 by omega) (by decide)
          · rw [lwd, l201]
            exact Nat.le_trans (show wd.length + 201 ≤ 401 by omega) (by decide)
          have exX : Ext s0 H H6 := (ex4.same smX).same sm6
          have hlt7 : l7 ≠ t7 := ne_of_none upd_same ht7
          have hlt8 : l7 ≠ t8 := ne_of_none (show upd (upd H6 l7 (.lst [.str "a"])) t7 (.tup [.str "a"]) l7 = some (.lst [.str "a"]) by rw [upd_ne hlt7, upd_same]) ht8
          have htt8 : t7 ≠ t8 := ne_of_none upd_same ht8
          generalize hY : upd (upd (upd H6 l7 (.lst [.str "a"])) t7 (.tup [.str "a"])) t8 (.tup [.non, .int 5, .ref l7, .str "e", .str (SW wd ++ "e"), .str "A", .str (repS "a" 201), .str (SW wd ++ " "), .bl true, .ref t7, .str (SW wd ++ repS "a" 201)]) = Y
          have hYt : Y t8 = some (.tup [.non, .int 5, .ref l7, .str "e", .str (SW wd ++ "e"), .str "A", .str (repS "a" 201), .str (SW wd ++ " "), .bl true, .ref t7, .str (SW wd ++ repS "a" 201)]) := by rw [← hY, upd_same]
          have hYl : Y l7 = some (.lst [.str "a"]) := by rw [← hY, upd_ne hlt8, upd_ne hlt7, upd_same]
          have hYt7 : Y t7 = some (.tup [.str "a"]) := by rw [← hY, upd_ne htt8, upd_same]
          have exY : Ext s0 H Y := by
            rw [← hY]
            exact ((exX.new hl7).new ht7).new ht8
          have nl7 : l7 ≠ s0 := exX.1.ne hl7
          have nt7 : t7 ≠ s0 := (exX.new hl7).1.ne ht7
          have nt8 : t8 ≠ s0 := ((exX.new hl7).new ht7).1.ne ht8
          have e201 : repS "a" 201 = SW (List.replicate 201 97) := by decide +kernel
          have a128 : ∀ c ∈ wd, c < 128 := asc_of hwd
          have oddY : ∀ H', Ext s0 Y H' → ∀ x ∈ ([.non, .int 5, .ref l7, .str "e", .str (SW wd ++ "e"), .str "A", .str (repS "a" 201), .str (SW wd ++ " "), .bl true, .ref t7, .str (SW wd ++ repS "a" 201)] : List V), OddW K H' x := by
            intro H' ex x hx
            have hl' := ex.2 _ _ nl7 hYl
            have ht' := ex.2 _ _ nt7 hYt7
            simp only [List.mem_cons, List.not_mem_nil, or_false] at hx
            rcases hx with rfl | rfl | rfl | rfl | rfl | rfl | rfl | rfl | rfl | rfl | rfl
            · exact ⟨asWord_non, rfl, _, shows_data .non (by decide +kernel)⟩
            · exact ⟨asWord_int _, rfl, _, shows_data (.int _) (by decide +kernel)⟩
            · exact ⟨asWord_lst hl', rfl, .list [.str "a"], shows_data (.lst (.inl (.inl hl')) (.cons (.str "a") .nil)) (by decide +kernel)⟩
            · exact oddW_str (u := [101]) (.inr ⟨101, by decide, by decide⟩) (by decide) (by decide)
            · rw [show ("e" : Str) = SW [101] by decide +kernel, sw_app]
              refine oddW_str (.inr ⟨101, by simp, by decide⟩) (fun c hc => ?_) (by rw [List.length_append]; exact Nat.add_le_add (Nat.le_trans hwd2 (show 200 ≤ 999 by decide)) (Nat.le_refl _))
              rcases List.mem_append.mp hc with hc | hc
              · exact a128 c hc
              · rw [List.mem_singleton.mp hc]; decide
            · exact oddW_str (u := [65]) (.inr ⟨65, by decide, by decide⟩) (by decide) (by decide)
            · rw [e201]
              exact oddW_str (.inl (by rw [List.length_replicate]; decide)) (fun c hc => by rw [List.eq_of_mem_replicate hc]; decide) (by rw [List.length_replicate]; decide)
            · rw [show (" " : Str) = SW [32] by decide +kernel, sw_app]
              refine oddW_str (.inr ⟨32, by simp, by decide⟩) (fun c hc => ?_) (by rw [List.length_append]; exact Nat.add_le_add (Nat.le_trans hwd2 (show 200 ≤ 999 by decide)) (Nat.le_refl _))
              rcases List.mem_append.mp hc with hc | hc
              · exact a128 c hc
              · rw [List.mem_singleton.mp hc]; decide
            · exact ⟨asWord_bl _, rfl, _, shows_data (.bl _) (by decide +kernel)⟩
            · exact ⟨asWord_tup ht', rfl, .tuple [.str "a"], shows_data (.tup (.inl (.inl ht')) (.cons (.str "a") .nil)) (by decide +kernel)⟩
            · rw [e201, sw_app]
              refine oddW_str (.inl ?_) (fun c hc => ?_) ?_
              · rw [List.length_append, List.length_replicate]
                omega
              · rcases List.mem_append.mp hc with hc | hc
                · exact a128 c hc
                · rw [List.eq_of_mem_replicate hc]; decide
              · rw [List.length_append, List.length_replicate]
                omega
          refine ⟨t8, rfl, ⟨_, .inl (.inl hYt)⟩, ?_⟩
          refine for_it (walk_tup (K := K) (a := t8) (xs := [.non, .int 5, .ref l7, .str "e", .str (SW wd ++ "e"), .str "A", .str (repS "a" 201), .str (SW wd ++ " "), .bl true, .ref t7, .str (SW wd ++ repS "a" 201)])) (fun i σ H7 => ∃ y8, σ = [some (.ref s0), some (.int (1 + (n : Int))), some (.int (m : Nat)), some (vW wd), some (.ref p), y5, y6, y7, y8, none, none] ∧ Ext s0 Y H7)
            ⟨y8, rfl, exY.1.ext⟩ (fun i σ H7 _ z => ?_) ?_ ?_
          · obtain ⟨_, _, z⟩ := z
            exact .inl (.inl (z.2 _ _ nt8 hYt))
          · rintro i x σ H7 H8 hi7 ⟨y8, rfl, ex7⟩ ⟨rfl, hx⟩
            refine ⟨_, rfl, _, rfl, _, rfl, (by show 4 ≤ sizeLine; decide), fun l9 hl9 => ?_⟩
            have nl9 : l9 ≠ s0 := ex7.1.ne hl9
            have ex7' := ex7.new (o := .lst [.int 0, .int 4, .int (-1), .non]) hl9
            refine ⟨s0, l9, _, rfl, ex7'.1, .inl (.inl upd_same), nl9, by decide, by decide, fun j v H9 hj x9 => ?_⟩
            have ex9 : Ext s0 Y H9 := ex7'.trans x9
            obtain ⟨ow, on, dx, ds⟩ := oddY H9 ex9 x (List.mem_of_getElem? hx)
            have hv : AsLen K H9 v := by
              have := List.mem_of_getElem? hj
              simp only [List.mem_cons, List.not_mem_nil, or_false] at this
              rcases this with rfl | rfl | rfl | rfl
              · exact asLen_int _
              · exact asLen_int _
              · exact asLen_int _
              · exact asLen_non
            refine said_badW ow on hv ds fun H10 p8 sm10 hp8 hp88 => ?_
            refine ⟨_, rfl, _, _, rfl, (ds.same sm10).dp, ds.sh, ds.nd, ds.dt, ds.sz, (by show 2 ≤ sizeLine; decide), fun p9 hp9 => ?_⟩
            have h89 : p8 ≠ p9 := ne_of_none hp88 hp9
            refine ⟨_, _, .tup (.inl (.inl (by rw [upd_ne h89]; exact hp88))) (dp_strs ["word", dx.shown]), .tup (.inl (.inl upd_same)) (dp_strs ["word", dx.shown]), shaped_pair (by decide +kernel) ds.ok, shaped_pair (by decide +kernel) ds.ok, _, rfl, ?_⟩
            rw [show (["word", dx.shown] : List Str).map PyData.str = [.str "word", .str dx.shown] from rfl, eqv_pair]
            exact iteF ⟨_, rfl, (ex9.same sm10).new hp9⟩
          · rintro σ H7 ⟨y8, rfl, ex7⟩
            exact q H7 (exY.trans ex7)
end
end Wf
namespace Wf
open PySem PySem.Spec PyProof.Rows L2
section
variable {P : Program} {w : World} {K : PySem.W.Frag} {mg : Str → Option Value} {base : Heap}
theorem sqL_same {H H' : Hp} {a : Addr} {xs : List V} (e : Same H H') (h : SqL K H a xs) : SqL K H' a xs := by
  rcases h with (h | ⟨o, h⟩) | h
  · exact .inl (.inl (e _ _ h))
  · exact .inl (.inr ⟨o, e _ _ h⟩)
  · exact .inr h
def spLaw (K : PySem.W.Frag) : Sp := fun vs H Q _ => ∃ (a : Addr) (ns : List Int), vs = [.ref a] ∧ SqL K H a (ns.map V.int) ∧ ns.length ≤ 1000 ∧ ∀ H', Q (.bl true) H'
theorem ok_law (T : Tx K mg) : FnR P w K mg base 9 T.law.f T.law.fd ["script"] (spLaw K) := by
  have G_law_source : FnR P w K mg base 1 T.law_source.f T.law_source.fd ["cell"] spSource := ok_law_source T
  have G_law_right : FnR P w K mg base 8 T.law_right.f T.law_right.fd ["source"] spRight := ok_law_right T
  refine fun_ok T.law.F sc_law (fun vs H Q E h => ?_) (fun cdv A outer s H vs Q E hr h => ?_)
  · obtain ⟨_, _, rfl, _⟩ := h
    rfl
  · obtain ⟨a, ns, rfl, hs, hn, q⟩ := h
    refine ⟨_, (pss_cons (ps_for PassesOwn.never rfl (pi_list (pe_slice sl_list (pe_op op_catS (pv 0) (pe_lst (pa_cons pe_int pa_nil))) po_none (po_some pe_int))) (pg_name (i := 1) sc_law.nd rfl (.inl rfl)) (pss_cons (ps_set (i := 2) sc_law.nd rfl (Or.inl rfl) (pe_r G_law_source (hr.low (by decide)) (by rfl) T.law_source.g T.law_source.F.kp T.law_source.b (pa_cons (pv 1) pa_nil)))
      (pss_one (ps_for PassesOwn.never rfl (pi_range1 (by rfl) T.n_range (pa_cons pe_int pa_nil)) (pg_name (i := 3) sc_law.nd rfl (.inl rfl)) (pss_one (ps_if (pt_not (pt_val (pe_r G_law_right (hr.low (by decide)) (by rfl) T.law_right.g T.law_right.F.kp T.law_right.b (pa_cons (pv 2) pa_nil)))) (pss_one (ps_ret pe_bl)) pss_nil))))))
      (pss_one (ps_ret pe_bl))), ?_⟩
    refine ⟨_, rfl, (by show 1 ≤ sizeLine; decide), fun l1 hl1 => ?_⟩
    refine ⟨a, l1, ns.map V.int, [.int 0], rfl, rfl, sqL_same (same_new hl1) hs, .inl (.inl upd_same), ?_, fun p hp => ?_⟩
    · rw [List.length_map]
      exact Nat.le_trans (show ns.length + 1 ≤ 1001 by omega) (by decide)
    refine ⟨_, rfl, p, _, rfl, .inl (.inl upd_same), fun c hc => ?_⟩
    generalize hxs : cutV (ns.map V.int ++ [.int 0]) none (some 4) = xs
    have hint : ∀ x ∈ xs, ∃ i : Int, x = .int i := by
      intro x hx
      rw [← hxs] at hx
      unfold cutV at hx
      have h2 := List.mem_of_mem_drop (List.mem_of_mem_take hx)
      rcases List.mem_append.mp h2 with h2 | h2
      · obtain ⟨i, _, rfl⟩ := List.mem_map.mp h2
        exact ⟨i, rfl⟩
      · exact ⟨0, List.mem_singleton.mp h2⟩
    refine ⟨c, rfl, ⟨xs, .inl (.inl upd_same)⟩, ?_⟩
    refine for_it (walk_list (K := K) (a := c) (xs := xs)) (fun i σ H6 => ∃ y1 y2 y3, σ = [some (.ref a), y1, y2, y3] ∧ H6 c = some (.lst xs)) ⟨none, none, none, rfl, upd_same⟩ (fun i σ H6 _ z => ?_) ?_ ?_
    · obtain ⟨_, _, _, _, z⟩ := z
      exact .inl (.inl z)
    · rintro i x σ H6 H7 hi ⟨y1, y2, y3, rfl, h6⟩ ⟨rfl, hx⟩
      obtain ⟨v, rfl⟩ := hint x (List.mem_of_getElem? hx)
      refine ⟨_, rfl, v, rfl, fun s0 H8 hs0 hs8 k8 => ?_⟩
      have hcs : c ≠ s0 := ne_of_none h6 hs0
      refine ⟨_, rfl, by omega, by omega, ?_⟩
      refine for_it (walk_range (lo := 0)) (fun j σ H9 => ∃ y3, σ = [some (.ref a), some (.int v), some (.ref s0), y3] ∧ Src H9 s0 ∧ H9 c = some (.lst xs)) ⟨y3, rfl, hs8, k8 _ _ h6⟩ (fun _ _ _ _ _ => True.intro) ?_ ?_
      · rintro j x σ H9 H10 hj ⟨y3, rfl, h9, h9c⟩ ⟨rfl, rfl⟩
        refine ⟨_, rfl, s0, rfl, h9, fun H11 ex => ⟨_, rfl, iteF ?_⟩⟩
        exact ⟨_, rfl, ex.1, ex.2 _ _ hcs h9c⟩
      · rintro σ H9 ⟨y3, rfl, h9, h9c⟩
        exact ⟨_, _, _, rfl, h9c⟩
    · rintro σ H6 ⟨y1, y2, y3, rfl, h6⟩
      exact q H6
end
end Wf
namespace Wf
open PySem PySem.Spec PyProof.Rows L2
theorem all_mk {l : PySem.W.OpenLaw} {w : World} {K : PySem.W.Frag} {h : Heap} {mg : Str → Option Value} {fa : Addr} (X : K.In h) (G : h.Ns mainGlobals mg) (hfa : mg "law" = some (.ref fa))
    {CB : Addr}
    {CNoWord NNoWord : Addr} {nmNoWord qNoWord : Str} {bsNoWord subNoWord : List Value} {snNoWord : List Str} {abNoWord : Bool} {colNoWord : Option Bool} {ddNoWord : Option Addr} {e0NoWord e1NoWord e2NoWord e3NoWord e5NoWord : Option Value}
    {fNoWord : Addr} {odNoWord anNoWord : Option Addr} {slNoWord : Array (Option Value)} {ocNoWord kVNoWord dcNoWord pmNoWord cdNoWord ctNoWord : Value}
    {CNoLength NNoLength : Addr} {nmNoLength qNoLength : Str} {bsNoLength subNoLength : List Value} {snNoLength : List Str} {abNoLength : Bool} {colNoLength : Option Bool} {ddNoLength : Option Addr} {e0NoLength e1NoLength e2NoLength e3NoLength e5NoLength : Option Value}
    {fNoLength : Addr} {odNoLength anNoLength : Option Addr} {slNoLength : Array (Option Value)} {ocNoLength kVNoLength dcNoLength pmNoLength cdNoLength ctNoLength : Value}
    {fis_number : Addr} {odis_number anis_number : Option Addr} {slis_number : Array (Option Value)} {ocis_number kVis_number dcis_number pmis_number cdis_number ctis_number : Value}
    {fcheck_word : Addr} {odcheck_word ancheck_word : Option Addr} {slcheck_word : Array (Option Value)} {occheck_word kVcheck_word dccheck_word pmcheck_word cdcheck_word ctcheck_word : Value}
    {fby_words : Addr} {odby_words anby_words : Option Addr} {slby_words : Array (Option Value)} {ocby_words kVby_words dcby_words pmby_words cdby_words ctby_words : Value}
    {fsignature : Addr} {odsignature ansignature : Option Addr} {slsignature : Array (Option Value)} {ocsignature kVsignature dcsignature pmsignature cdsignature ctsignature : Value}
    {flaw_source : Addr} {odlaw_source anlaw_source : Option Addr} {sllaw_source : Array (Option Value)} {oclaw_source kVlaw_source dclaw_source pmlaw_source cdlaw_source ctlaw_source : Value}
    {flaw_draw : Addr} {odlaw_draw anlaw_draw : Option Addr} {sllaw_draw : Array (Option Value)} {oclaw_draw kVlaw_draw dclaw_draw pmlaw_draw cdlaw_draw ctlaw_draw : Value}
    {flaw_pick : Addr} {odlaw_pick anlaw_pick : Option Addr} {sllaw_pick : Array (Option Value)} {oclaw_pick kVlaw_pick dclaw_pick pmlaw_pick cdlaw_pick ctlaw_pick : Value}
    {flaw_all_words : Addr} {odlaw_all_words anlaw_all_words : Option Addr} {sllaw_all_words : Array (Option Value)} {oclaw_all_words kVlaw_all_words dclaw_all_words pmlaw_all_words cdlaw_all_words ctlaw_all_words : Value}
    {flaw_is_part : Addr} {odlaw_is_part anlaw_is_part : Option Addr} {sllaw_is_part : Array (Option Value)} {oclaw_is_part kVlaw_is_part dclaw_is_part pmlaw_is_part cdlaw_is_part ctlaw_is_part : Value}
    {flaw_said : Addr} {odlaw_said anlaw_said : Option Addr} {sllaw_said : Array (Option Value)} {oclaw_said kVlaw_said dclaw_said pmlaw_said cdlaw_said ctlaw_said : Value}
    {flaw_right : Addr} {odlaw_right anlaw_right : Option Addr} {sllaw_right : Array (Option Value)} {oclaw_right kVlaw_right dclaw_right pmlaw_right cdlaw_right ctlaw_right : Value}
    {flaw : Addr} {odlaw anlaw : Option Addr} {sllaw : Array (Option Value)} {oclaw kVlaw dclaw pmlaw cdlaw ctlaw : Value}
    {tSIGNS : Tok}
    {tMOST_TESTED : Tok}
    {tMOST_LENGTH : Tok}
    (gB : PySem.W.nsIn K mainGlobals "FoldError" = some (some (.ref CB)))
    (gNoWord : PySem.W.nsIn K mainGlobals "NoWord" = some (some (.ref CNoWord)))
    (xNoWord : K.lookup CNoWord = some (excClassObj nmNoWord qNoWord CNoWord NNoWord bsNoWord [.ref CB, .type "ValueError", .type "Exception", .type "BaseException", .type "object"] true snNoWord subNoWord abNoWord colNoWord ddNoWord e0NoWord e1NoWord e2NoWord e3NoWord e5NoWord "ValueError.__new__"))
    (saNoWord : PySem.W.findIn K (.ref CNoWord) "__setattr__" = some (some (.builtin "object.__setattr__")))
    (gaNoWord : PySem.W.findIn K (.ref CNoWord) "__getattribute__" = some (some (.builtin "BaseException.__getattribute__")))
    (ggNoWord : PySem.W.findIn K (.ref CNoWord) "__getattr__" = some none)
    (nbNoWord : PySem.W.findIn K (.ref CNoWord) "word" = some none)
    (aNoWord : PySem.W.findIn K (.ref CNoWord) "__init__" = some (some (.ref fNoWord)))
    (lNoWord : K.lookup fNoWord = some ⟨ocNoWord, odNoWord, .func (PySem.W.fnOf "__init__" "NoWord.__init__" (defArgs s_NoWord_init) (defBody s_NoWord_init) (defScope s_NoWord_init) .none kVNoWord dcNoWord pmNoWord anNoWord cdNoWord ctNoWord), slNoWord⟩)
    (cNoWord : PySem.W.codeIn K cdNoWord "NoWord.__init__" = true)
    (kNoWord : PySem.W.keepIn K (.ref fNoWord) = true)
    (tINoWord : PySem.W.typeIn K (.ref fNoWord) = some (.type "function"))
    (kCNoWord : PySem.W.keepIn K (.ref CNoWord) = true)
    (eCNoWord : PySem.W.subIn K (.ref CNoWord) (.type "BaseException") = some true)
    (tCNoWord : PySem.W.typeIn K (.ref CNoWord) = some (.type "type"))
    (hCNoWord : PySem.W.hasDictIn K CNoWord = true)
    (iCNoWord : PySem.W.isClsIn K CNoWord = true)
    (gNoLength : PySem.W.nsIn K mainGlobals "NoLength" = some (some (.ref CNoLength)))
    (xNoLength : K.lookup CNoLength = some (excClassObj nmNoLength qNoLength CNoLength NNoLength bsNoLength [.ref CB, .type "ValueError", .type "Exception", .type "BaseException", .type "object"] true snNoLength subNoLength abNoLength colNoLength ddNoLength e0NoLength e1NoLength e2NoLength e3NoLength e5NoLength "ValueError.__new__"))
    (saNoLength : PySem.W.findIn K (.ref CNoLength) "__setattr__" = some (some (.builtin "object.__setattr__")))
    (gaNoLength : PySem.W.findIn K (.ref CNoLength) "__getattribute__" = some (some (.builtin "BaseException.__getattribute__")))
    (ggNoLength : PySem.W.findIn K (.ref CNoLength) "__getattr__" = some none)
    (nbNoLength : PySem.W.findIn K (.ref CNoLength) "length" = some none)
    (aNoLength : PySem.W.findIn K (.ref CNoLength) "__init__" = some (some (.ref fNoLength)))
    (lNoLength : K.lookup fNoLength = some ⟨ocNoLength, odNoLength, .func (PySem.W.fnOf "__init__" "NoLength.__init__" (defArgs s_NoLength_init) (defBody s_NoLength_init) (defScope s_NoLength_init) .none kVNoLength dcNoLength pmNoLength anNoLength cdNoLength ctNoLength), slNoLength⟩)
    (cNoLength : PySem.W.codeIn K cdNoLength "NoLength.__init__" = true)
    (kNoLength : PySem.W.keepIn K (.ref fNoLength) = true)
    (tINoLength : PySem.W.typeIn K (.ref fNoLength) = some (.type "function"))
    (kCNoLength : PySem.W.keepIn K (.ref CNoLength) = true)
    (eCNoLength : PySem.W.subIn K (.ref CNoLength) (.type "BaseException") = some true)
    (tCNoLength : PySem.W.typeIn K (.ref CNoLength) = some (.type "type"))
    (hCNoLength : PySem.W.hasDictIn K CNoLength = true)
    (iCNoLength : PySem.W.isClsIn K CNoLength = true)
    (sNoWord_NoWord : PySem.W.subIn K (.ref CNoWord) (.ref CNoWord) = some true)
    (sNoLength_NoWord : PySem.W.subIn K (.ref CNoLength) (.ref CNoWord) = some false)
    (sNoLength_NoLength : PySem.W.subIn K (.ref CNoLength) (.ref CNoLength) = some true)
    (ais_number : PySem.W.nsIn K mainGlobals "is_number" = some (some (.ref fis_number)))
    (lis_number : K.lookup fis_number = some ⟨ocis_number, odis_number, .func (PySem.W.fnOf "is_number" "is_number" (defArgs s_is_number) (defBody s_is_number) (defScope s_is_number) .none kVis_number dcis_number pmis_number anis_number cdis_number ctis_number), slis_number⟩)
    (cis_number : PySem.W.codeIn K cdis_number "is_number" = true)
    (kis_number : PySem.W.keepIn K (.ref fis_number) = true)
    (acheck_word : PySem.W.nsIn K mainGlobals "check_word" = some (some (.ref fcheck_word)))
    (lcheck_word : K.lookup fcheck_word = some ⟨occheck_word, odcheck_word, .func (PySem.W.fnOf "check_word" "check_word" (defArgs s_check_word) (defBody s_check_word) (defScope s_check_word) .none kVcheck_word dccheck_word pmcheck_word ancheck_word cdcheck_word ctcheck_word), slcheck_word⟩)
    (ccheck_word : PySem.W.codeIn K cdcheck_word "check_word" = true)
    (kcheck_word : PySem.W.keepIn K (.ref fcheck_word) = true)
    (aby_words : PySem.W.nsIn K mainGlobals "by_words" = some (some (.ref fby_words)))
    (lby_words : K.lookup fby_words = some ⟨ocby_words, odby_words, .func (PySem.W.fnOf "by_words" "by_words" (defArgs s_by_words) (defBody s_by_words) (defScope s_by_words) .none kVby_words dcby_words pmby_words anby_words cdby_words ctby_words), slby_words⟩)
    (cby_words : PySem.W.codeIn K cdby_words "by_words" = true)
    (kby_words : PySem.W.keepIn K (.ref fby_words) = true)
    (asignature : PySem.W.nsIn K mainGlobals "signature" = some (some (.ref fsignature)))
    (lsignature : K.lookup fsignature = some ⟨ocsignature, odsignature, .func (PySem.W.fnOf "signature" "signature" (defArgs s_signature) (defBody s_signature) (defScope s_signature) .none kVsignature dcsignature pmsignature ansignature cdsignature ctsignature), slsignature⟩)
    (csignature : PySem.W.codeIn K cdsignature "signature" = true)
    (ksignature : PySem.W.keepIn K (.ref fsignature) = true)
    (alaw_source : PySem.W.nsIn K mainGlobals "_law_source" = some (some (.ref flaw_source)))
    (llaw_source : K.lookup flaw_source = some ⟨oclaw_source, odlaw_source, .func (PySem.W.fnOf "_law_source" "_law_source" (defArgs s_law_source) (defBody s_law_source) (defScope s_law_source) .none kVlaw_source dclaw_source pmlaw_source anlaw_source cdlaw_source ctlaw_source), sllaw_source⟩)
    (claw_source : PySem.W.codeIn K cdlaw_source "_law_source" = true)
    (klaw_source : PySem.W.keepIn K (.ref flaw_source) = true)
    (alaw_draw : PySem.W.nsIn K mainGlobals "_law_draw" = some (some (.ref flaw_draw)))
    (llaw_draw : K.lookup flaw_draw = some ⟨oclaw_draw, odlaw_draw, .func (PySem.W.fnOf "_law_draw" "_law_draw" (defArgs s_law_draw) (defBody s_law_draw) (defScope s_law_draw) .none kVlaw_draw dclaw_draw pmlaw_draw anlaw_draw cdlaw_draw ctlaw_draw), sllaw_draw⟩)
    (claw_draw : PySem.W.codeIn K cdlaw_draw "_law_draw" = true)
    (klaw_draw : PySem.W.keepIn K (.ref flaw_draw) = true)
    (alaw_pick : PySem.W.nsIn K mainGlobals "_law_pick" = some (some (.ref flaw_pick)))
    (llaw_pick : K.lookup flaw_pick = some ⟨oclaw_pick, odlaw_pick, .func (PySem.W.fnOf "_law_pick" "_law_pick" (defArgs s_law_pick) (defBody s_law_pick) (defScope s_law_pick) .none kVlaw_pick dclaw_pick pmlaw_pick anlaw_pick cdlaw_pick ctlaw_pick), sllaw_pick⟩)
    (claw_pick : PySem.W.codeIn K cdlaw_pick "_law_pick" = true)
    (klaw_pick : PySem.W.keepIn K (.ref flaw_pick) = true)
    (alaw_all_words : PySem.W.nsIn K mainGlobals "_law_all_words" = some (some (.ref flaw_all_words)))
    (llaw_all_words : K.lookup flaw_all_words = some ⟨oclaw_all_words, odlaw_all_words, .func (PySem.W.fnOf "_law_all_words" "_law_all_words" (defArgs s_law_all_words) (defBody s_law_all_words) (defScope s_law_all_words) .none kVlaw_all_words dclaw_all_words pmlaw_all_words anlaw_all_words cdlaw_all_words ctlaw_all_words), sllaw_all_words⟩)
    (claw_all_words : PySem.W.codeIn K cdlaw_all_words "_law_all_words" = true)
    (klaw_all_words : PySem.W.keepIn K (.ref flaw_all_words) = true)
    (alaw_is_part : PySem.W.nsIn K mainGlobals "_law_is_part" = some (some (.ref flaw_is_part)))
    (llaw_is_part : K.lookup flaw_is_part = some ⟨oclaw_is_part, odlaw_is_part, .func (PySem.W.fnOf "_law_is_part" "_law_is_part" (defArgs s_law_is_part) (defBody s_law_is_part) (defScope s_law_is_part) .none kVlaw_is_part dclaw_is_part pmlaw_is_part anlaw_is_part cdlaw_is_part ctlaw_is_part), sllaw_is_part⟩)
    (claw_is_part : PySem.W.codeIn K cdlaw_is_part "_law_is_part" = true)
    (klaw_is_part : PySem.W.keepIn K (.ref flaw_is_part) = true)
    (alaw_said : PySem.W.nsIn K mainGlobals "_law_said" = some (some (.ref flaw_said)))
    (llaw_said : K.lookup flaw_said = some ⟨oclaw_said, odlaw_said, .func (PySem.W.fnOf "_law_said" "_law_said" (defArgs s_law_said) (defBody s_law_said) (defScope s_law_said) .none kVlaw_said dclaw_said pmlaw_said anlaw_said cdlaw_said ctlaw_said), sllaw_said⟩)
    (claw_said : PySem.W.codeIn K cdlaw_said "_law_said" = true)
    (klaw_said : PySem.W.keepIn K (.ref flaw_said) = true)
    (alaw_right : PySem.W.nsIn K mainGlobals "_law_right" = some (some (.ref flaw_right)))
    (llaw_right : K.lookup flaw_right = some ⟨oclaw_right, odlaw_right, .func (PySem.W.fnOf "_law_right" "_law_right" (defArgs s_law_right) (defBody s_law_right) (defScope s_law_right) .none kVlaw_right dclaw_right pmlaw_right anlaw_right cdlaw_right ctlaw_right), sllaw_right⟩)
    (claw_right : PySem.W.codeIn K cdlaw_right "_law_right" = true)
    (klaw_right : PySem.W.keepIn K (.ref flaw_right) = true)
    (alaw : PySem.W.nsIn K mainGlobals "law" = some (some (.ref flaw)))
    (llaw : K.lookup flaw = some ⟨oclaw, odlaw, .func (PySem.W.fnOf "law" "law" (defArgs s_law) (defBody s_law) (defScope s_law) .none kVlaw dclaw pmlaw anlaw cdlaw ctlaw), sllaw⟩)
    (claw : PySem.W.codeIn K cdlaw "law" = true)
    (klaw : PySem.W.keepIn K (.ref flaw) = true)
    (n_isinstance : PySem.W.nsIn K mainGlobals "isinstance" = some none)
    (n_int : PySem.W.nsIn K mainGlobals "int" = some none)
    (n_bool : PySem.W.nsIn K mainGlobals "bool" = some none)
    (n_str : PySem.W.nsIn K mainGlobals "str" = some none)
    (n_len : PySem.W.nsIn K mainGlobals "len" = some none)
    (n_dict : PySem.W.nsIn K mainGlobals "dict" = some none)
    (n_sorted : PySem.W.nsIn K mainGlobals "sorted" = some none)
    (n_abs : PySem.W.nsIn K mainGlobals "abs" = some none)
    (n_range : PySem.W.nsIn K mainGlobals "range" = some none)
    (n_list : PySem.W.nsIn K mainGlobals "list" = some none)
    (n_repr : PySem.W.nsIn K mainGlobals "repr" = some none)
    (m_SIGNS : PySem.W.nsIn K mainGlobals "SIGNS" = some (some (.str "abcd" tSIGNS)))
    (m_MOST_TESTED : PySem.W.nsIn K mainGlobals "MOST_TESTED" = some (some (.int 200 tMOST_TESTED)))
    (m_MOST_LENGTH : PySem.W.nsIn K mainGlobals "MOST_LENGTH" = some (some (.int 4 tMOST_LENGTH)))
    : ∃ fd : FuncData, (∀ (s : Shared) (v : Value), BindsTo s fd ⟨[v], []⟩ [("script", v)]) ∧ ∀ base : Heap, K.In base → base.Ns mainGlobals mg → FnR l.prog w K mg base 9 fa fd ["script"] (spLaw K) := by
  have e := hfa.symm.trans (PySem.W.mg_of X G alaw)
  cases e
  have T : Σ' T : Tx K mg, T.law.f = fa ∧ ∀ (s : Shared) (v : Value), BindsTo s T.law.fd ⟨[v], []⟩ [("script", v)] := ⟨{
    is_number := fnAt_mk X G ais_number lis_number cis_number kis_number (fun _ _ _ _ _ _ us hl => match us, hl with | [_], _ => rfl)
    check_word := fnAt_mk X G acheck_word lcheck_word ccheck_word kcheck_word (fun _ _ _ _ _ _ us hl => match us, hl with | [_, _, _], _ => rfl)
    by_words := fnAt_mk X G aby_words lby_words cby_words kby_words (fun _ _ _ _ _ _ us hl => match us, hl with | [_], _ => rfl)
    signature := fnAt_mk X G asignature lsignature csignature ksignature (fun _ _ _ _ _ _ us hl => match us, hl with | [_, _], _ => rfl)
    law_source := fnAt_mk X G alaw_source llaw_source claw_source klaw_source (fun _ _ _ _ _ _ us hl => match us, hl with | [_], _ => rfl)
    law_draw := fnAt_mk X G alaw_draw llaw_draw claw_draw klaw_draw (fun _ _ _ _ _ _ us hl => match us, hl with | [_, _], _ => rfl)
    law_pick := fnAt_mk X G alaw_pick llaw_pick claw_pick klaw_pick (fun _ _ _ _ _ _ us hl => match us, hl with | [_, _], _ => rfl)
    law_all_words := fnAt_mk X G alaw_all_words llaw_all_words claw_all_words klaw_all_words (fun _ _ _ _ _ _ us hl => match us, hl with | [_, _], _ => rfl)
    law_is_part := fnAt_mk X G alaw_is_part llaw_is_part claw_is_part klaw_is_part (fun _ _ _ _ _ _ us hl => match us, hl with | [_, _], _ => rfl)
    law_said := fnAt_mk X G alaw_said llaw_said claw_said klaw_said (fun _ _ _ _ _ _ us hl => match us, hl with | [_, _], _ => rfl)
    law_right := fnAt_mk X G alaw_right llaw_right claw_right klaw_right (fun _ _ _ _ _ _ us hl => match us, hl with | [_], _ => rfl)
    law := fnAt_mk X G alaw llaw claw klaw (fun _ _ _ _ _ _ us hl => match us, hl with | [_], _ => rfl)
    NoWord := ⟨CNoWord, fNoWord, _, fun_mk lNoWord cNoWord kNoWord, PySem.W.mg_of X G gNoWord, ⟨⟨_, _, _, _, _, _, _, _, _, _, _, _, _, _, _, xNoWord, rfl⟩, saNoWord, eCNoWord, tCNoWord, kCNoWord⟩, aNoWord, tINoWord, (fun_mk lNoWord cNoWord kNoWord).binds (fun _ _ _ _ _ _ us hl => match us, hl with | [_, _], _ => rfl), nbNoWord, ⟨gaNoWord, ggNoWord, eCNoWord, hCNoWord⟩⟩
    NoLength := ⟨CNoLength, fNoLength, _, fun_mk lNoLength cNoLength kNoLength, PySem.W.mg_of X G gNoLength, ⟨⟨_, _, _, _, _, _, _, _, _, _, _, _, _, _, _, xNoLength, rfl⟩, saNoLength, eCNoLength, tCNoLength, kCNoLength⟩, aNoLength, tINoLength, (fun_mk lNoLength cNoLength kNoLength).binds (fun _ _ _ _ _ _ us hl => match us, hl with | [_, _], _ => rfl), nbNoLength, ⟨gaNoLength, ggNoLength, eCNoLength, hCNoLength⟩⟩
    FoldError := ⟨CB, PySem.W.mg_of X G gB⟩
    x_NoWord_NoWord := exm_of eCNoWord iCNoWord tCNoWord sNoWord_NoWord
    x_NoLength_NoWord := exm_of eCNoWord iCNoWord tCNoWord sNoLength_NoWord
    x_NoLength_NoLength := exm_of eCNoLength iCNoLength tCNoLength sNoLength_NoLength
    n_isinstance := PySem.W.mg_none_of X G n_isinstance
    n_int := PySem.W.mg_none_of X G n_int
    n_bool := PySem.W.mg_none_of X G n_bool
    n_str := PySem.W.mg_none_of X G n_str
    n_len := PySem.W.mg_none_of X G n_len
    n_dict := PySem.W.mg_none_of X G n_dict
    n_sorted := PySem.W.mg_none_of X G n_sorted
    n_abs := PySem.W.mg_none_of X G n_abs
    n_range := PySem.W.mg_none_of X G n_range
    n_list := PySem.W.mg_none_of X G n_list
    n_repr := PySem.W.mg_none_of X G n_repr
    t_SIGNS := tSIGNS
    m_SIGNS := PySem.W.mg_of X G m_SIGNS
    t_MOST_TESTED := tMOST_TESTED
    m_MOST_TESTED := PySem.W.mg_of X G m_MOST_TESTED
    t_MOST_LENGTH := tMOST_LENGTH
    m_MOST_LENGTH := PySem.W.mg_of X G m_MOST_LENGTH }, rfl, fun s v => .of_eq rfl⟩
  obtain ⟨T, e1, e2⟩ := T
  refine ⟨T.law.fd, e2, fun base _ _ => ?_⟩
  rw [← e1]
  exact ok_law T
end Wf
open PySem PySem.W PyProof.Rows in
set_option maxRecDepth 100000 in
set_option maxHeartbeats 0 in
theorem PySem.Challenge.cw_wordfolds_k78_signatures_of_words_holds : PySem.Challenge.rw_wordfolds_k78_signatures_of_words.Holds := by
  w_on; o_law; k_head; (case hw => w_witness2)
  k_fill
  refine Wf.walkR (l := PySem.Challenge.rw_wordfolds_k78_signatures_of_words) (n := 63) (k := 9) (x := "script") (sp := fun K => Wf.spLaw K) rfl (by decide) rfl (by decide) (fun w h Y => PySem.W.kIn_of Y) ?F (fun _ _ a ns hl hS => ⟨a, ns, rfl, hS, Nat.le_trans hl (by decide), fun _ => rfl⟩)
  case F =>
    intro w mg fa h KX G hmg
    refine' Wf.all_mk KX G hmg ?gB ?gNoWord ?xNoWord ?saNoWord ?gaNoWord ?ggNoWord ?nbNoWord ?aNoWord ?lNoWord ?cNoWord ?kNoWord ?tINoWord ?kCNoWord ?eCNoWord ?tCNoWord ?hCNoWord ?iCNoWord ?gNoLength ?xNoLength ?saNoLength ?gaNoLength ?ggNoLength ?nbNoLength ?aNoLength ?lNoLength ?cNoLength ?kNoLength ?tINoLength ?kCNoLength ?eCNoLength ?tCNoLength ?hCNoLength ?iCNoLength ?sNoWord_NoWord ?sNoLength_NoWord ?sNoLength_NoLength ?ais_number ?lis_number ?cis_number ?kis_number ?acheck_word ?lcheck_word ?ccheck_word ?kcheck_word ?aby_words ?lby_words ?cby_words ?kby_words ?asignature ?lsignature ?csignature ?ksignature ?alaw_source ?llaw_source ?claw_source ?klaw_source ?alaw_draw ?llaw_draw ?claw_draw ?klaw_draw ?alaw_pick ?llaw_pick ?claw_pick ?klaw_pick ?alaw_all_words ?llaw_all_words ?claw_all_words ?klaw_all_words ?alaw_is_part ?llaw_is_part ?claw_is_part ?klaw_is_part ?alaw_said ?llaw_said ?claw_said ?klaw_said ?alaw_right ?llaw_right ?claw_right ?klaw_right ?alaw ?llaw ?claw ?klaw ?n_isinstance ?n_int ?n_bool ?n_str ?n_len ?n_dict ?n_sorted ?n_abs ?n_range ?n_list ?n_repr ?m_SIGNS ?m_MOST_TESTED ?m_MOST_LENGTH
    (case gB => k_is)
    (case gNoWord => k_is)
    (case xNoWord => k_is)
    (case saNoWord => k_is)
    (case gaNoWord => k_is)
    (case ggNoWord => k_is)
    (case nbNoWord => k_is)
    (case aNoWord => k_is)
    (case lNoWord => k_is)
    (case cNoWord => k_is)
    (case kNoWord => k_is)
    (case tINoWord => k_is)
    (case kCNoWord => k_is)
    (case eCNoWord => k_is)
    (case tCNoWord => k_is)
    (case hCNoWord => k_is)
    (case iCNoWord => k_is)
    (case gNoLength => k_is)
    (case xNoLength => k_is)
    (case saNoLength => k_is)
    (case gaNoLength => k_is)
    (case ggNoLength => k_is)
    (case nbNoLength => k_is)
    (case aNoLength => k_is)
    (case lNoLength => k_is)
    (case cNoLength => k_is)
    (case kNoLength => k_is)
    (case tINoLength => k_is)
    (case kCNoLength => k_is)
    (case eCNoLength => k_is)
    (case tCNoLength => k_is)
    (case hCNoLength => k_is)
    (case iCNoLength => k_is)
    (case sNoWord_NoWord => first | rfl | k_is)
    (case sNoLength_NoWord => first | rfl | k_is)
    (case sNoLength_NoLength => first | rfl | k_is)
    (case ais_number => k_is)
    (case lis_number => k_is)
    (case cis_number => k_is)
    (case kis_number => k_is)
    (case acheck_word => k_is)
    (case lcheck_word => k_is)
    (case ccheck_word => k_is)
    (case kcheck_word => k_is)
    (case aby_words => k_is)
    (case lby_words => k_is)
    (case cby_words => k_is)
    (case kby_words => k_is)
    (case asignature => k_is)
    (case lsignature => k_is)
    (case csignature => k_is)
    (case ksignature => k_is)
    (case alaw_source => k_is)
    (case llaw_source => k_is)
    (case claw_source => k_is)
    (case klaw_source => k_is)
    (case alaw_draw => k_is)
    (case llaw_draw => k_is)
    (case claw_draw => k_is)
    (case klaw_draw => k_is)
    (case alaw_pick => k_is)
    (case llaw_pick => k_is)
    (case claw_pick => k_is)
    (case klaw_pick => k_is)
    (case alaw_all_words => k_is)
    (case llaw_all_words => k_is)
    (case claw_all_words => k_is)
    (case klaw_all_words => k_is)
    (case alaw_is_part => k_is)
    (case llaw_is_part => k_is)
    (case claw_is_part => k_is)
    (case klaw_is_part => k_is)
    (case alaw_said => k_is)
    (case llaw_said => k_is)
    (case claw_said => k_is)
    (case klaw_said => k_is)
    (case alaw_right => k_is)
    (case llaw_right => k_is)
    (case claw_right => k_is)
    (case klaw_right => k_is)
    (case alaw => k_is)
    (case llaw => k_is)
    (case claw => k_is)
    (case klaw => k_is)
    (case n_isinstance => k_is)
    (case n_int => k_is)
    (case n_bool => k_is)
    (case n_str => k_is)
    (case n_len => k_is)
    (case n_dict => k_is)
    (case n_sorted => k_is)
    (case n_abs => k_is)
    (case n_range => k_is)
    (case n_list => k_is)
    (case n_repr => k_is)
    (case m_SIGNS => k_is)
    (case m_MOST_TESTED => k_is)
    (case m_MOST_LENGTH => k_is)
