import PyProof.Rows.All
import Wide.All
import OpenK.AllK
import Wide.FinOn
import PyProof.EqAt
import PyProof.EqKinds
import PyProof.TupleCall
import KE.KStateDown
import Lean
import HandS.ForMost
import HandS.Exc
import HandS.TryOnly
import HandS.WordsExc
import HandS.More
import HandS.Flow
import HandS.Wide
import HandS.IsInst
import HandS.Defaults
import HandS.RaiseMore
import HandS.Deep
import HandS.Walk
import HandS.TupAny
import HandS.Head0
import HandS.Head1
import HandS.Head2
import HandS.HeadEnd
import HandS.HeadHook1
import HandS.HeadHook2
import PySem.Challenge.RW_givenback_k01_names_and_numbers
set_option Elab.async false
set_option linter.all false
set_option maxRecDepth 100000
set_option maxHeartbeats 4000000
namespace GB
open PySem PySem.Spec PyProof.Rows L2

/-! ### defs under open guards -/
structure Fn (P : Program) (w : World) (K : PySem.W.Frag) (mg : Str → Option Value) (base : Heap) (CX : CXT)
    (k : Nat) (f : Addr) (fd : FuncData) (ps : List Str) (sp : Sp) : Prop where
  len : ∀ vs H Q E, sp vs H Q E → vs.length = ps.length
  go : ∀ (A : Around) (outer : List Env) (s : Shared) (H : Hp) (args : Args) (us : List Value) (vs : List V)
    (Q : VK) (E : XK), Room k A → A.guards = some [] → Env0 P w K mg base A outer s H →
    BindsTo s fd args (ps.zip us) → Vals vs us → sp vs H Q E →
    codeAny (model P w) A (.call (.ref f) args) (CR CX outer P w H s Q E) s
section
variable {P : Program} {w : World} {K : PySem.W.Frag} {mg : Str → Option Value} {base : Heap} {CX : CXT}
  {j k : Nat} {f : Addr} {fd : FuncData} {ps : List Str} {sp sp' : Sp}
theorem Fn.ofOk (F : FnOk P w K mg base CX k f fd ps sp) : Fn P w K mg base CX k f fd ps sp :=
  ⟨F.len, fun A outer s H args us vs Q E hr _ => F.run A outer s H args us vs Q E hr⟩
theorem Fn.mono (F : Fn P w K mg base CX j f fd ps sp) (h : j ≤ k) : Fn P w K mg base CX k f fd ps sp :=
  ⟨F.len, fun A outer s H args us vs Q E hr => F.go A outer s H args us vs Q E (hr.mono h)⟩
theorem Fn.imp (F : Fn P w K mg base CX k f fd ps sp) (h : ∀ vs H Q E, sp' vs H Q E → sp vs H Q E) :
    Fn P w K mg base CX k f fd ps sp' :=
  ⟨fun vs H Q E q => F.len vs H Q E (h _ _ _ _ q),
    fun A outer s H args us vs Q E hr g he hb hv hs => F.go A outer s H args us vs Q E hr g he hb hv (h _ _ _ _ hs)⟩
end
section
variable {P : Program} {w : World} {K : PySem.W.Frag} {mg : Str → Option Value} {base : Heap} {CX : CXT}
  {x qual : Str} {params : Arguments} {body : List Stmt} {scope : Scope} {dvs : List V} {kws : List (Str × V)}
  {k : Nat} {f : Addr} {fd : FuncData} {N ps : List Str} {sp : Sp}
/-- a def by its body -/
theorem fnG (F : FunD K x qual params body scope dvs kws f fd) (S : FnScope N ps scope)
    (len : ∀ vs H Q E, sp vs H Q E → vs.length = ps.length)
    (hb : ∀ (cdv : Value) (A : Around) (outer : List Env) (s : Shared) (H : Hp) (vs : List V) (Q : VK) (E : XK),
      Room k (A.deeper (envOfC qual scope s.heap.objs.size f cdv)) → A.guards = some [] → sp vs H Q E →
      ∃ t, PSs (cxOf CX P w K mg base N qual scope f cdv A outer s H E) body t ∧
        t { nx := fun _ H' => Q .non H', rt := Q } (start N vs) H) :
    Fn P w K mg base CX (k + 1) f fd ps sp := by
  obtain ⟨oc, od, dV, kV, doc, pm, an, cdv, ct, osl, rfl, lk, hcd, _, _⟩ := F.ex
  refine ⟨len, ?_⟩
  intro A outer s H args us vs Q E hr hg e0 hbi r hsp
  have kb : ∀ b o, base.get? b = some o → s.heap.get? b = some o := fun b o e => (e0.bs b o e).1
  have X0 : K.In s.heap := e0.mod.kin.keeps kb
  have par : ∀ y ∈ ps.zip us, scope.names.lookup y.1 = some .local ∨
      (scope.names.lookup y.1 = some .cell ∧ ((cellsFrom (s.heap.objs.size + 1) scope.names []).lookup y.1).isSome = true) := by
    rintro ⟨n, v⟩ hy
    cases S.par n (List.of_mem_zip hy).1 with
    | inl q => exact .inl q
    | inr q => exact .inr ⟨q, PySem.W.cellsFrom_some _ _ _ (.inl q)⟩
  refine codeAny_call_function hr.depth (X0 _ _ lk) rfl S.co S.gen rfl (PySem.W.codeRec_of X0 hcd) (hbi _ _ _ _ ?_)
  refine wpAny_newFunctionEnv_cells S.kind par ?_
  rintro env rfl s1 x
  refine ⟨(e0.mod.nolimit.keeps kb).keeps x.toInCall.keep, codeAny_func ?_⟩
  obtain ⟨t, ht, hq⟩ := hb cdv A outer s H vs Q E (hr.deeper _) hg hsp
  refine wpAny_mono (ht.run [] s1 (start N vs) H _ (inv_start S hr.hd e0 (len _ _ _ _ hsp) r x) hq) ?_ (fun _ _ z => z)
  intro fl s' hs
  match fl, hs with
  | .ret u, ⟨v, σ', H', J, rv, q⟩ => exact ⟨v, H', J.os, J.bare, J.base, J.hok, rv, q⟩
  | .next, ⟨σ', H', J, q⟩ => exact ⟨V.non, H', J.os, J.bare, J.base, J.hok, rfl, q⟩
  | .brk, ⟨_, _, _, q⟩ => exact q.elim
  | .cont, ⟨_, _, _, q⟩ => exact q.elim
end
/-! ### a def of the top by its name -/
structure Tp (K : PySem.W.Frag) (mg : Str → Option Value) (x : Str) (st : Stmt) (dvs : List V) (kws : List (Str × V)) : Prop where
  ex : ∃ fd, FunD K x x (defArgs st) (defBody st) (defScope st) dvs kws (He.ga K x) fd
  gl : mg x = some (.ref (He.ga K x))
/-- a def with its promise; it may be called -/
structure Cal (P : Program) (w : World) (K : PySem.W.Frag) (mg : Str → Option Value) (base : Heap) (CX : CXT)
    (k : Nat) (x : Str) (ps : List Str) (sp : Sp) : Prop where
  ex : ∃ fd, Binds K fd ps [] ∧ PySem.W.keepIn K (.ref (He.ga K x)) = true ∧ Fn P w K mg base CX k (He.ga K x) fd ps sp
  gl : mg x = some (.ref (He.ga K x))
section
variable {P : Program} {w : World} {K : PySem.W.Frag} {mg : Str → Option Value} {base : Heap} {CX : CXT}
  {x : Str} {st : Stmt} {kws : List (Str × V)} {j k : Nat} {N ps : List Str} {sp sp' : Sp}
theorem Cal.mono (c : Cal P w K mg base CX j x ps sp) (h : j ≤ k) : Cal P w K mg base CX k x ps sp := by
  obtain ⟨fd, b, kp, F⟩ := c.ex
  exact ⟨⟨fd, b, kp, F.mono h⟩, c.gl⟩
theorem Cal.imp (c : Cal P w K mg base CX k x ps sp) (h : ∀ vs H Q E, sp' vs H Q E → sp vs H Q E) : Cal P w K mg base CX k x ps sp' := by
  obtain ⟨fd, b, kp, F⟩ := c.ex
  exact ⟨⟨fd, b, kp, F.imp h⟩, c.gl⟩
/-- a def without defaults -/
theorem Tp.cal (T : Tp K mg x st [] kws) (S : FnScope N ps (defScope st))
    (hbd : ∀ (kV doc pm : Value) (an : Option Addr) (cdv ct : Value) (us : List Value), us.length = ps.length →
      bindArgs (PySem.W.fnOf x x (defArgs st) (defBody st) (defScope st) .none kV doc pm an cdv ct) ⟨us, []⟩ = pure (ps.zip us))
    (len : ∀ vs H Q E, sp vs H Q E → vs.length = ps.length)
    (hb : ∀ (cdv : Value) (A : Around) (outer : List Env) (s : Shared) (H : Hp) (vs : List V) (Q : VK) (E : XK),
      Room k (A.deeper (envOfC x (defScope st) s.heap.objs.size (He.ga K x) cdv)) → A.guards = some [] → sp vs H Q E →
      ∃ t, PSs (cxOf CX P w K mg base N x (defScope st) (He.ga K x) cdv A outer s H E) (defBody st) t ∧
        t { nx := fun _ H' => Q .non H', rt := Q } (start N vs) H) :
    Cal P w K mg base CX (k + 1) x ps sp := by
  obtain ⟨fd, F⟩ := T.ex
  exact ⟨⟨fd, F.bindsN hbd, F.kp, fnG F S len hb⟩, T.gl⟩
/-- the same where nothing is raised -/
theorem Tp.cal0 (T : Tp K mg x st [] kws) (S : FnScope N ps (defScope st))
    (hbd : ∀ (kV doc pm : Value) (an : Option Addr) (cdv ct : Value) (us : List Value), us.length = ps.length →
      bindArgs (PySem.W.fnOf x x (defArgs st) (defBody st) (defScope st) .none kV doc pm an cdv ct) ⟨us, []⟩ = pure (ps.zip us))
    (len : ∀ vs H Q E, sp vs H Q E → vs.length = ps.length)
    (hb : ∀ (cdv : Value) (A : Around) (outer : List Env) (s : Shared) (H : Hp) (vs : List V) (Q : VK) (E : XK),
      Room k (A.deeper (envOfC x (defScope st) s.heap.objs.size (He.ga K x) cdv)) → A.guards = some [] → sp vs H Q E →
      ∃ t, PSs (cxOf CX0 P w K mg base N x (defScope st) (He.ga K x) cdv A outer s H E).nox (defBody st) t ∧
        t { nx := fun _ H' => Q .non H', rt := Q } (start N vs) H) :
    Cal P w K mg base CX0 (k + 1) x ps sp := by
  refine T.cal S hbd len ?_
  intro cdv A outer s H vs Q E hr hg h
  obtain ⟨t, a, b⟩ := hb cdv A outer s H vs Q E hr hg h
  exact ⟨t, a.nox, b⟩
end
section
variable {X : Cx} {CX : CXT} {k : Nat} {ps : List Str} {sp : Sp} {E : XK} {x : Str} {p pos : Pos} {e : Expr} {es : List Expr} {t : TA}
theorem Fn.runs {f : Addr} {fd : FuncData} {pins : List (Addr × Obj)} {σ : L2.St} {H : Hp} {s : Shared} {Q : VK} {us : List Value} {vs : List V}
    (F : Fn X.prog X.w X.K X.mg X.base CX k f fd ps sp) (hr : Room k X.A) (hG : X.A.guards = some []) (hb : Binds X.K fd ps [])
    (hx : Passes CX X E) (I : Inv X pins σ H s) (r : Vals vs us) (h : sp vs H Q E) :
    wpAny (model X.prog X.w) X.A (call (.ref f) us) (EP X pins σ Q) X.xe s := by
  have hl : us.length = ps.length := r.length.symm.trans (F.len _ _ _ _ h)
  have hbi := hb s us I.kIn (by rw [List.append_nil]; exact hl)
  rw [List.append_nil] at hbi
  refine wpAny_call (codeAny_mono (F.go X.A X.stack s H ⟨us, []⟩ us vs Q E hr hG I.env0 hbi r h) ?_)
  intro r s' hq
  match r, hq with
  | .error e, hq => exact hx pins σ H s e s' I hq
  | .ok (.ret u), hq => exact I.after hq
/-- f(e, ..) -/
theorem pe_cal (c : Cal X.prog X.w X.K X.mg X.base CX k x ps sp) (hr : Room k X.A) (hG : X.A.guards = some []) (hg : Gl X x)
    (hx : Passes CX X E) (ha : PA X (e :: es) t) (hdb : (x == ("__debug__" : Str)) = false := by decide)
    (he : starEach (e :: es) X.env = (false, eval e X.env) :: starEach es X.env := by rfl)
    (hpl : (backTo pos (starEach es X.env)).any (·.1) = false := by rfl) :
    PE X (.Call (.Name x p) (e :: es) [] pos) (tCall sp [] E t) := by
  obtain ⟨fd, b, kp, F⟩ := c.ex
  constructor
  intro pins s σ H Q I h
  refine wpAny_Call_Name_kw (ld_glob I hg c.gl ?_ hdb)
  refine PySem.W.callWith_K (h₀ := X.base) I.ok.mod.kin kp (thn (ha.run pos pins s σ H _ I h) ?_) he hpl
  rintro us s1 ⟨vs, H1, I1, r, q⟩
  rw [List.append_nil] at q
  exact ⟨I1.kIn, F.runs hr hG b hx I1 r q⟩
/-- f() -/
theorem pe_cal0 (c : Cal X.prog X.w X.K X.mg X.base CX k x ps sp) (hr : Room k X.A) (hG : X.A.guards = some []) (hg : Gl X x)
    (hx : Passes CX X E) (hdb : (x == ("__debug__" : Str)) = false := by decide) :
    PE X (.Call (.Name x p) [] [] pos) (tCall sp [] E tNil) := by
  obtain ⟨fd, b, kp, F⟩ := c.ex
  constructor
  intro pins s σ H Q I h
  refine wpAny_Call_Name_kw (ld_glob I hg c.gl ?_ hdb)
  exact PySem.W.callWith_K0 I.kIn kp (F.runs (us := []) hr hG b hx I .nil h)
end

/-! ### calls with keywords -/
/-- a def with its promise -/
structure CalF (P : Program) (w : World) (K : PySem.W.Frag) (mg : Str → Option Value) (base : Heap) (CX : CXT)
    (k : Nat) (x : Str) (st : Stmt) (kws : List (Str × V)) (ps : List Str) (sp : Sp) : Prop where
  ex : ∃ fd, FunD K x x (defArgs st) (defBody st) (defScope st) [] kws (He.ga K x) fd ∧ Fn P w K mg base CX k (He.ga K x) fd ps sp
  gl : mg x = some (.ref (He.ga K x))
def picked {α : Type} (xs : List α) (is : List Nat) : List α := is.filterMap fun i => xs[i]?
theorem picked_rel {xs : List V} {us : List Value} (r : Vals xs us) : ∀ is : List Nat, Vals (picked xs is) (picked us is)
  | [] => .nil
  | i :: is => by
    have ih := picked_rel r is
    unfold picked at ih ⊢
    rw [List.filterMap_cons, List.filterMap_cons]
    cases e : xs[i]? with
    | none =>
      rw [Vals.none_of r e]
      exact ih
    | some x =>
      obtain ⟨u, hu, ru⟩ := Vals.get r e
      rw [hu]
      exact .cons ru ih
section
variable {P : Program} {w : World} {K : PySem.W.Frag} {mg : Str → Option Value} {base : Heap} {CX : CXT}
  {x : Str} {st : Stmt} {kws : List (Str × V)} {j k : Nat} {N ps : List Str} {sp sp' : Sp}
theorem CalF.mono (c : CalF P w K mg base CX j x st kws ps sp) (h : j ≤ k) : CalF P w K mg base CX k x st kws ps sp := by
  obtain ⟨fd, F, G⟩ := c.ex
  exact ⟨⟨fd, F, G.mono h⟩, c.gl⟩
theorem CalF.imp (c : CalF P w K mg base CX k x st kws ps sp) (h : ∀ vs H Q E, sp' vs H Q E → sp vs H Q E) : CalF P w K mg base CX k x st kws ps sp' := by
  obtain ⟨fd, F, G⟩ := c.ex
  exact ⟨⟨fd, F, G.imp h⟩, c.gl⟩
theorem CalF.cal (c : CalF P w K mg base CX k x st kws ps sp)
    (hbd : ∀ (kV doc pm : Value) (an : Option Addr) (cdv ct : Value) (us : List Value), us.length = ps.length →
      bindArgs (PySem.W.fnOf x x (defArgs st) (defBody st) (defScope st) .none kV doc pm an cdv ct) ⟨us, []⟩ = pure (ps.zip us)) :
    Cal P w K mg base CX k x ps sp := by
  obtain ⟨fd, F, G⟩ := c.ex
  exact ⟨⟨fd, F.bindsN hbd, F.kp, G⟩, c.gl⟩
theorem Tp.calF (T : Tp K mg x st [] kws) (S : FnScope N ps (defScope st))
    (len : ∀ vs H Q E, sp vs H Q E → vs.length = ps.length)
    (hb : ∀ (cdv : Value) (A : Around) (outer : List Env) (s : Shared) (H : Hp) (vs : List V) (Q : VK) (E : XK),
      Room k (A.deeper (envOfC x (defScope st) s.heap.objs.size (He.ga K x) cdv)) → A.guards = some [] → sp vs H Q E →
      ∃ t, PSs (cxOf CX P w K mg base N x (defScope st) (He.ga K x) cdv A outer s H E) (defBody st) t ∧
        t { nx := fun _ H' => Q .non H', rt := Q } (start N vs) H) :
    CalF P w K mg base CX (k + 1) x st kws ps sp := by
  obtain ⟨fd, F⟩ := T.ex
  exact ⟨⟨fd, F, fnG F S len hb⟩, T.gl⟩
theorem Tp.calF0 (T : Tp K mg x st [] kws) (S : FnScope N ps (defScope st))
    (len : ∀ vs H Q E, sp vs H Q E → vs.length = ps.length)
    (hb : ∀ (cdv : Value) (A : Around) (outer : List Env) (s : Shared) (H : Hp) (vs : List V) (Q : VK) (E : XK),
      Room k (A.deeper (envOfC x (defScope st) s.heap.objs.size (He.ga K x) cdv)) → A.guards = some [] → sp vs H Q E →
      ∃ t, PSs (cxOf CX0 P w K mg base N x (defScope st) (He.ga K x) cdv A outer s H E).nox (defBody st) t ∧
        t { nx := fun _ H' => Q .non H', rt := Q } (start N vs) H) :
    CalF P w K mg base CX0 (k + 1) x st kws ps sp := by
  refine T.calF S len ?_
  intro cdv A outer s H vs Q E hr hg h
  obtain ⟨t, a, b⟩ := hb cdv A outer s H vs Q E hr hg h
  exact ⟨t, a.nox, b⟩
end
/-- the reading of f(e, .., k = v, ..): all values by their turns, picked by is into the parameters' order -/
def tCalK (n m : Nat) (is : List Nat) (sp : Sp) (E : XK) (t tk : TA) : TE := fun σ H Q => t σ H fun vs H1 => tk σ H1 fun zs H2 => vs.length = n ∧ zs.length = m ∧ sp (picked (vs ++ zs) is) H2 Q E
section
variable {X : Cx} {CX : CXT} {k n : Nat} {ps ks : List Str} {sp : Sp} {E : XK} {x : Str} {st : Stmt} {kwd : List (Str × V)} {p pos : Pos} {e : Expr} {es : List Expr} {kws : List Keyword} {t tk : TA} {is : List Nat}
theorem Fn.runsK {f : Addr} {fd : FuncData} {pins : List (Addr × Obj)} {σ : L2.St} {H : Hp} {s : Shared} {Q : VK} {us ws vv : List Value} {vs : List V}
    (F : Fn X.prog X.w X.K X.mg X.base CX k f fd ps sp) (hr : Room k X.A) (hG : X.A.guards = some []) (hb : BindsTo s fd ⟨us, ks.zip ws⟩ (ps.zip vv))
    (hx : Passes CX X E) (I : Inv X pins σ H s) (r : Vals vs vv) (h : sp vs H Q E) :
    wpAny (model X.prog X.w) X.A (call (.ref f) us (ks.zip ws)) (EP X pins σ Q) X.xe s := by
  refine wpAny_call (codeAny_mono (F.go X.A X.stack s H ⟨us, ks.zip ws⟩ vv vs Q E hr hG I.env0 hb r h) ?_)
  intro r s' hq
  match r, hq with
  | .error e, hq => exact hx pins σ H s e s' I hq
  | .ok (.ret u), hq => exact I.after hq
theorem pe_calK (c : CalF X.prog X.w X.K X.mg X.base CX k x st kwd ps sp) (hr : Room k X.A) (hG : X.A.guards = some []) (hg : Gl X x) (hx : Passes CX X E) (n : Nat) (ks : List Str) (is : List Nat)
    (hbd : ∀ (kV doc pm : Value) (an : Option Addr) (cdv ct : Value) (us ws : List Value), us.length = n → ws.length = ks.length →
      bindArgs (PySem.W.fnOf x x (defArgs st) (defBody st) (defScope st) .none kV doc pm an cdv ct) ⟨us, ks.zip ws⟩ = pure (ps.zip (picked (us ++ ws) is)))
    (ha : PA X (e :: es) t) (hkw : PK X kws tk)
    (hall : (backToKw pos (keywordEach kws X.env)).all (·.1.isSome) = true := by rfl) (hks : (backToKw pos (keywordEach kws X.env)).filterMap (·.1) = ks := by rfl)
    (hdb : (x == ("__debug__" : Str)) = false := by decide) (he : starEach (e :: es) X.env = (false, eval e X.env) :: starEach es X.env := by rfl)
    (hpl : ((backTo pos (starEach (e :: es) X.env)).any (·.1) || (backToKw pos (keywordEach kws X.env)).any (·.1.isNone)) = false := by rfl) :
    PE X (.Call (.Name x p) (e :: es) kws pos) (tCalK n ks.length is sp E t tk) := by
  obtain ⟨fd, F, G⟩ := c.ex
  have kp := F.kp
  obtain ⟨oc, od, dV, kV, doc, pm, an, cdv, ct, osl, rfl, lk, hcd, hD, hK⟩ := F.ex
  have hdv : dV = .none := by
    rcases hD with ⟨_, e⟩ | ⟨e, _⟩
    · exact e
    · exact absurd rfl e
  subst hdv
  constructor
  intro pins s σ H Q I h
  refine wpAny_Call_Name_kw (ld_glob I hg c.gl ?_ hdb)
  refine PySem.W.callWith_KW (h₀ := X.base) I.ok.mod.kin kp hall (thn (ha.run pos pins s σ H _ I h) ?_) hpl he
  rintro us s1 ⟨vs, H1, I1, r, q⟩
  refine thn (hkw.run pos pins s1 σ H1 _ I1 q) ?_
  rintro ws s2 ⟨zs, H2, I2, rz, l1, l2, q2⟩
  refine ⟨I2.kIn, ?_⟩
  rw [hks]
  exact G.runsK hr hG (.of_eq (hbd kV doc pm an cdv ct us ws (r.length.symm.trans l1) (rz.length.symm.trans l2))) hx I2 (picked_rel (r.append rz) is) q2
theorem pe_calK0 (c : CalF X.prog X.w X.K X.mg X.base CX k x st kwd ps sp) (hr : Room k X.A) (hG : X.A.guards = some []) (hg : Gl X x) (hx : Passes CX X E) (ks : List Str) (is : List Nat)
    (hbd : ∀ (kV doc pm : Value) (an : Option Addr) (cdv ct : Value) (us ws : List Value), us.length = 0 → ws.length = ks.length →
      bindArgs (PySem.W.fnOf x x (defArgs st) (defBody st) (defScope st) .none kV doc pm an cdv ct) ⟨us, ks.zip ws⟩ = pure (ps.zip (picked (us ++ ws) is)))
    (hkw : PK X kws tk)
    (hall : (backToKw pos (keywordEach kws X.env)).all (·.1.isSome) = true := by rfl) (hks : (backToKw pos (keywordEach kws X.env)).filterMap (·.1) = ks := by rfl)
    (hdb : (x == ("__debug__" : Str)) = false := by decide)
    (hpl : ((backTo pos (starEach [] X.env)).any (·.1) || (backToKw pos (keywordEach kws X.env)).any (·.1.isNone)) = false := by rfl) :
    PE X (.Call (.Name x p) [] kws pos) (tCalK 0 ks.length is sp E tNil tk) := by
  obtain ⟨fd, F, G⟩ := c.ex
  have kp := F.kp
  obtain ⟨oc, od, dV, kV, doc, pm, an, cdv, ct, osl, rfl, lk, hcd, hD, hK⟩ := F.ex
  have hdv : dV = .none := by
    rcases hD with ⟨_, e⟩ | ⟨e, _⟩
    · exact e
    · exact absurd rfl e
  subst hdv
  constructor
  intro pins s σ H Q I h
  refine wpAny_Call_Name_kw (ld_glob I hg c.gl ?_ hdb)
  refine PySem.W.callWith_KW0 (h₀ := X.base) I.ok.mod.kin kp hall (thn (hkw.run pos pins s σ H _ I h) ?_) hpl
  rintro ws s2 ⟨zs, H2, I2, rz, l1, l2, q2⟩
  refine ⟨I2.kIn, ?_⟩
  rw [hks]
  exact G.runsK (us := []) hr hG (.of_eq (hbd kV doc pm an cdv ct [] ws rfl (rz.length.symm.trans l2))) hx I2 (picked_rel rz is) q2
end

/-! ### the end of a law -/
theorem law_runs {P : Program} {w : World} {K : PySem.W.Frag} {mg mb : Str → Option Value} {CX : CXT} {k : Nat} {fa a : Addr}
    {fd : FuncData} {x : Str} {sp : Sp} {s1 : Shared} {vs : List Value} {ns : List Int}
    (KX : K.In s1.heap) (hns : s1.heap.Ns mainGlobals mg) (hb : s1.heap.Ns builtinsNs mb)
    (hbb : ∀ x : Str, x ≠ "__name__" → mb x = bootBuiltins x) (hlim : s1.heap.NoLimit) (hg : s1.gens = #[])
    (ha : s1.heap.get? a = some { cls := .type "list", data := .seq vs.toArray }) (hi : IntsAre vs ns)
    (hl : ns.length ≤ sizeLine) (hr : Room k callerA)
    (F : ∀ base : Heap, K.In base → base.Ns mainGlobals mg → Fn P w K mg base CX k fa fd [x] sp)
    (hbind : ∀ (s : Shared) (u : Value), BindsTo s fd ⟨[u], []⟩ [(x, u)])
    (hsp : ∀ H : Hp, SqL K H a (ns.map V.int) → sp [.ref a] H (fun v _ => v = .bl true) fun _ _ _ => False)
    (hCX : ∀ H e s', CX [] H s1 (fun _ _ _ => False) e s' → False) :
    codeAny (model P w) callerA (.call (.ref fa) ⟨[.ref a], []⟩)
      (fun r s' => r = .ok (.ret (.bool true)) ∧ OldK s1.heap s'.heap ∧ s'.os = s1.os ∧ AllBare s'.gens) s1 := by
  have rv := vals_ints hi
  have lenV := hi.length
  have key : ∀ H : Hp, Only H → SqL K H a (ns.map V.int) → HOk P w H s1.heap → (∀ b, H b ≠ none → b = a ∧ K.lookup a = none) →
      codeAny (model P w) callerA (.call (.ref fa) ⟨[.ref a], []⟩)
        (fun r s' => r = .ok (.ret (.bool true)) ∧ OldK s1.heap s'.heap ∧ s'.os = s1.os ∧ AllBare s'.gens) s1 := by
    intro H hO hS hok hA
    have off : ∀ b, (b ≠ a ∨ K.lookup a ≠ none) → H b = none := fun b hb => by
      cases q : H b with
      | none => rfl
      | some u =>
        have z := hA b (by rw [q]; exact fun h => nomatch h)
        rcases hb with h | h
        · exact absurd z.1 h
        · exact absurd z.2 h
    have nsT : ∀ {b : Addr} {m : Str → Option Value}, s1.heap.Ns b m → (hidT s1.heap H).Ns b m := by
      rintro b m ⟨o, es, ep, e, d, r⟩
      refine ⟨o, es, ep, hidT_get e (off b (.inl ?_)), d, r⟩
      rintro rfl
      rw [ha] at e
      cases e
      have d' : Data.seq vs.toArray _ = Data.dict es ep := d
      cases d'
    have KT : K.In (hidT s1.heap H) := fun b o e => hidT_get (KX b o e) (off b (by
      by_cases h : b = a
      · refine .inr ?_
        rw [← h, e]
        exact fun z => nomatch z
      · exact .inl h))
    obtain ⟨mc, h1, h2⟩ := hlim
    have M0 : Mod K mg (hidT s1.heap H) := ⟨KT, nsT hns, ⟨mb, nsT hb, hbb⟩, ⟨mc, nsT h1, h2⟩⟩
    have e0 : Env0 P w K mg (hidT s1.heap H) callerA [] s1 H :=
      ⟨rfl, M0, fun b o e => of_hidT e, Nat.le_of_eq (hidT_size _ _), trivial, fun b hb => (nomatch (show b ∈ ([] : List Addr) from hb)), hok, .of_eq hg⟩
    refine codeAny_mono ((F _ KT (nsT hns)).go callerA [] s1 H ⟨[.ref a], []⟩ [.ref a] [.ref a] _ _ hr rfl e0 (hbind s1 (.ref a)) (.cons rfl .nil) (hsp H hS)) ?_
    intro r s' h
    match r, h with
    | .error e, h => exact (hCX H e s' h).elim
    | .ok (.ret u), ⟨v, H', os, bare, un, hok', r', q⟩ =>
      cases (show v = V.bl true from q)
      cases (show u = Value.bool true from r')
      refine ⟨rfl, OldK.of_keep ?_, os, bare⟩
      intro b o e
      cases q : H b with
      | none => exact un.keep b o e q (fun z => nomatch (show b ∈ ([] : List Addr) from z)) (fun z => nomatch z)
      | some u =>
        rcases hO b with z | ⟨ob, xs, z⟩
        · rw [q] at z
          cases z
        · have e1 := (hok b _ z).1
          have e2 := (hok' b _ (un.frzs b ob _ z)).1
          rw [e] at e1
          cases e1
          exact e2
  cases hk : K.lookup a with
  | some o =>
    have e := KX a o hk
    rw [ha] at e
    cases e
    refine key (fun _ => none) (fun _ => .inl rfl) (.inr ⟨_, vs.toArray, _, hk, rfl, rfl, rfl, ?_, by simpa using rv⟩) (fun b u z => nomatch z) (fun b z => absurd rfl z)
    rw [List.size_toArray, lenV]
    exact hl
  | none =>
    let H0 : Hp := fun b => if b = a then some (.frz { cls := .type "list", data := .seq vs.toArray } (.lst (ns.map V.int))) else none
    have at0 : H0 a = some (.frz { cls := .type "list", data := .seq vs.toArray } (.lst (ns.map V.int))) := if_pos rfl
    have ne0 : ∀ b, b ≠ a → H0 b = none := fun b h => if_neg h
    refine key H0 ?_ (.inl (.inr ⟨_, at0⟩)) ?_ ?_
    · intro b
      by_cases h : b = a
      · rw [h]
        exact .inr ⟨_, _, at0⟩
      · exact .inl (ne0 b h)
    · intro b u z
      by_cases h : b = a
      · subst h
        rw [at0] at z
        cases z
        exact ⟨ha, by rw [List.length_map]; exact hl, vs, _, rv, ha⟩
      · rw [ne0 b h] at z
        cases z
    · intro b z
      by_cases h : b = a
      · exact ⟨h, hk⟩
      · exact absurd (ne0 b h) z
/-- what a head's end asks of a law -/
theorem walkG {l : PySem.W.OpenLaw} {n k : Nat} {q : Program} {loose : List Str} {XP : (Str → Option Value) → Heap → Prop}
    {YP : World → Heap → Prop} {d : DefRec} {CX : CXT} {x : Str}
    (hn : l.most = some n) (hn2 : n ≤ sizeLine) (hdf : d.params.defaults = []) (hr : Room k callerA)
    (F : ∀ (w : World) (mg : Str → Option Value) (fa : Addr) (h : Heap), YP w h → h.Ns mainGlobals mg → mg d.name = some (.ref fa) →
      ∃ (K : PySem.W.Frag) (fd : FuncData) (sp : Sp), K.In h ∧ (∀ (s : Shared) (u : Value), BindsTo s fd ⟨[u], []⟩ [(x, u)]) ∧
        (∀ (H : Hp) (a : Addr) (ns : List Int), ns.length ≤ n → SqL K H a (ns.map V.int) → sp [.ref a] H (fun v _ => v = .bl true) fun _ _ _ => False) ∧
        ∀ base : Heap, K.In base → base.Ns mainGlobals mg → Fn l.prog w K mg base CX k fa fd [x] sp)
    (hCX : ∀ (H : Hp) (s : Shared) (e : Value) (s' : Shared), CX [] H s (fun _ _ _ => False) e s' → False) :
    PySem.W.WalkO q loose XP YP l.row.toRowW d [] (fun f vs => PySem.call f vs) := by
  refine Att.attach_call hn hdf ?_
  intro w s0 s1 mg mb fa o pm cd doc a vs ns G Y ho hd hcd hmg hobj hints hlen hg
  obtain ⟨K, fd, sp, KX, hb, hsp, hF⟩ := F w mg fa _ Y G.T.g hmg
  exact law_runs KX G.T.g G.T.b G.T.builtins G.T.nolimit hg hobj hints (Nat.le_trans hlen hn2) hr hF hb (fun H hS => hsp H a ns hlen hS) (fun H e s' => hCX H s1 e s')
end GB
namespace GB
open PySem PySem.Spec PyProof.Rows L2

/-! ### what is known of a heap -/
def Has (H : Hp) (L : List (Addr × HO)) : Prop := (∀ p ∈ L, H p.1 = some p.2) ∧ (L.map (·.1)).Nodup
/-- all but w stays -/
def Ext (w : Addr) (H H' : Hp) : Prop := ∀ a o, a ≠ w → H a = some o → H' a = some o
section
variable {H H' H2 : Hp} {L : List (Addr × HO)} {a p w : Addr} {o o' : HO} {i : Nat}
theorem Ext.refl : Ext w H H := fun _ _ _ h => h
theorem Ext.trans (e : Ext w H H') (f : Ext w H' H2) : Ext w H H2 := fun a o n h => f a o n (e a o n h)
theorem Ext.new (h : H p = none) : Ext w H (upd H p o) := fun a u _ e => by
  rw [upd_ne (ne_of_none e h)]
  exact e
theorem Ext.put : Ext w H (upd H w o) := fun a u n e => by
  rw [upd_ne n]
  exact e
theorem Ext.of {H H' : Hp} (e : ∀ a o, H a = some o → H' a = some o) : Ext w H H' := fun a o _ h => e a o h
theorem Has.nil : Has H [] := ⟨fun _ h => (nomatch h), List.nodup_nil⟩
theorem Has.one (h : H a = some o) : Has H [(a, o)] := ⟨fun p hp => by
  cases List.mem_singleton.mp hp
  exact h, by simp⟩
theorem Has.mem (h : Has H L) (m : (a, o) ∈ L) : H a = some o := h.1 _ m
theorem Has.at (h : Has H L) (i : Nat) (m : L[i]? = some (a, o)) : H a = some o := h.1 _ (List.mem_of_getElem? m)
theorem Has.new (h : Has H L) (n : H p = none) : Has (upd H p o) ((p, o) :: L) := by
  refine ⟨fun q hq => ?_, ?_⟩
  · rcases List.mem_cons.mp hq with rfl | hq
    · exact upd_same
    · rw [upd_ne (ne_of_none (h.1 q hq) n)]
      exact h.1 q hq
  · rw [List.map_cons, List.nodup_cons]
    refine ⟨fun z => ?_, h.2⟩
    obtain ⟨q, hq, e⟩ := List.mem_map.mp z
    have z2 := h.1 q hq
    have e2 : q.1 = p := e
    rw [e2, n] at z2
    cases z2
theorem set_fst (i : Nat) (m : L[i]? = some (a, o)) : (L.set i (a, o')).map (·.1) = L.map (·.1) := by
  rw [List.map_set]
  apply List.ext_getElem?
  intro j
  rw [List.getElem?_set]
  split
  · rename_i e
    subst e
    have hi : i < L.length := by
      rcases Nat.lt_or_ge i L.length with h | h
      · exact h
      · rw [List.getElem?_eq_none h] at m
        cases m
    rw [List.length_map, if_pos hi, List.getElem?_map, m]
    rfl
  · rfl
theorem Has.go (h : Has H L) (i : Nat) (m : L[i]? = some (w, o)) (e : Ext w H H') (n : H' w = some o') : Has H' (L.set i (w, o')) := by
  have hi : i < L.length := by
    rcases Nat.lt_or_ge i L.length with h | h
    · exact h
    · rw [List.getElem?_eq_none h] at m
      cases m
  refine ⟨fun q hq => ?_, by rw [set_fst i m]; exact h.2⟩
  obtain ⟨j, hj, rfl⟩ := List.getElem_of_mem hq
  rw [List.length_set] at hj
  by_cases hji : i = j
  · subst hji
    rw [List.getElem_set_self]
    exact n
  · rw [List.getElem_set_ne hji]
    refine e _ _ (fun z => ?_) (h.1 _ (List.getElem_mem hj))
    have hm : L[i] = (w, o) := by
      rw [List.getElem?_eq_getElem hi] at m
      exact Option.some.inj m
    refine hji ((List.getElem?_inj (l := L.map (·.1)) (by rw [List.length_map]; exact hi) h.2).mp ?_)
    rw [List.getElem?_map, List.getElem?_map, List.getElem?_eq_getElem hi, List.getElem?_eq_getElem hj, hm]
    show some w = some L[j].1
    rw [z]
theorem Has.put (h : Has H L) (i : Nat) (m : L[i]? = some (w, o)) : Has (upd H w o') (L.set i (w, o')) := h.go i m Ext.put upd_same
theorem Has.ex (h : Has H L) (e : ∀ a o, H a = some o → H' a = some o) : Has H' L := ⟨fun q hq => e _ _ (h.1 q hq), h.2⟩
theorem Has.drop (h : Has H ((a, o) :: L)) : Has H L := ⟨fun q hq => h.1 q (List.mem_cons_of_mem _ hq), (List.nodup_cons.mp h.2).2⟩
theorem Has.ne (h : Has H L) (i j : Nat) {b : Addr} {u : HO} (hij : i ≠ j) (m : L[i]? = some (a, o)) (m2 : L[j]? = some (b, u)) : a ≠ b := by
  rintro rfl
  have li : i < L.length := by
    rcases Nat.lt_or_ge i L.length with h | h
    · exact h
    · rw [List.getElem?_eq_none h] at m
      cases m
  refine hij ((List.getElem?_inj (l := L.map (·.1)) (by rw [List.length_map]; exact li) h.2).mp ?_)
  rw [List.getElem?_map, List.getElem?_map, m, m2]
  rfl
end
theorem sqL {K : PySem.W.Frag} {H : Hp} {a : Addr} {xs : List V} (h : H a = some (.lst xs)) : SqL K H a xs := .inl (.inl h)
theorem sqT {K : PySem.W.Frag} {H : Hp} {a : Addr} {xs : List V} (h : H a = some (.tup xs)) : SqT K H a xs := .inl (.inl h)

/-! ### readings, one step each -/
section
variable {K : PySem.W.Frag} {σ : L2.St} {H : Hp} {Q : VK} {D : Ends} {ta tb te : TE} {tt tu : TT} {t u : TS} {r : R2} {tA tR : TA} {v : V} {i : Nat}
theorem r_seq (h : t { D with nx := u D } σ H) : tSeq t u D σ H := h
theorem r_next (h : D.nx σ H) : tNext D σ H := h
theorem r_asg {g : TG} (h : te σ H fun x H1 => g x σ H1 D.nx) : tAsg te g D σ H := h
theorem r_name {v : V} {P : L2.St → Hp → Prop} (h : P (σ.set i (some v)) H) : gName i v σ H P := h
theorem r_drop (h : te σ H fun _ H1 => D.nx σ H1) : tDrop te D σ H := h
theorem r_ret (h : te σ H D.rt) : tRet te D σ H := h
theorem r_ifs (h : tt σ H fun b H1 => if b = true then t D σ H1 else u D σ H1) : tIfS tt t u D σ H := h
theorem r_var (h : σ[i]? = some (some v)) (q : Q v H) : tVar i σ H Q := ⟨v, h, q⟩
theorem r_c (q : Q v H) : tC v σ H Q := q
theorem r_op (h : ta σ H fun x H1 => tb σ H1 fun y H2 => r x y H2 Q) : tOp r ta tb σ H Q := h
theorem r_un {r : V → Hp → VK → Prop} (h : ta σ H fun x H1 => r x H1 Q) : tUn r ta σ H Q := h
theorem r_nil {Q : List V → Hp → Prop} (h : Q [] H) : tNil σ H Q := h
theorem r_cons {Q : List V → Hp → Prop} (h : ta σ H fun x H1 => tR σ H1 fun xs H2 => Q (x :: xs) H2) : tCons ta tR σ H Q := h
theorem r_cb {r : List V → Hp → VK → Prop} (h : tA σ H fun vs H1 => r vs H1 Q) : tCB r tA σ H Q := h
theorem r_call {sp : Sp} {E : XK} (h : tA σ H fun vs H1 => sp (vs ++ []) H1 Q E) : tCall sp [] E tA σ H Q := h
theorem r_calK {n m : Nat} {is : List Nat} {sp : Sp} {E : XK} {tk : TA} (h : tA σ H fun vs H1 => tk σ H1 fun zs H2 => vs.length = n ∧ zs.length = m ∧ sp (picked (vs ++ zs) is) H2 Q E) : tCalK n m is sp E tA tk σ H Q := h
theorem r_test {P : Bool → Hp → Prop} (h : te σ H fun x H' => ∃ k, x = .bl k ∧ P k H') : tTest te σ H P := h
theorem r_bl {b : Bool} {P : Bool → Prop} (h : P b) : ∃ k, V.bl b = .bl k ∧ P k := ⟨b, rfl, h⟩
theorem r_tB {P : Bool → Hp → Prop} (h : te σ H fun x H' => ∃ k, x = .bl k ∧ P k H') : tB te σ H P := h
theorem r_and {P : Bool → Hp → Prop} (h : tt σ H fun c H1 => if c = true then tu σ H1 P else P false H1) : tAnd tt tu σ H P := h
theorem r_or {P : Bool → Hp → Prop} (h : tt σ H fun c H1 => if c = true then P true H1 else tu σ H1 P) : tOr tt tu σ H P := h
theorem r_not {P : Bool → Hp → Prop} (h : tt σ H fun c H1 => P (!c) H1) : tNot tt σ H P := h
theorem r_andV (h : ta σ H fun x H1 => ∃ c, x = .bl c ∧ if c = true then tb σ H1 Q else Q (.bl false) H1) : tAndV ta tb σ H Q := h
theorem r_orV (h : ta σ H fun x H1 => ∃ c, x = .bl c ∧ if c = true then Q (.bl true) H1 else tb σ H1 Q) : tOrV ta tb σ H Q := h
theorem r_notV (h : ta σ H fun x H1 => ∃ c, x = .bl c ∧ Q (.bl (!c)) H1) : tNotV ta σ H Q := h
theorem r_ifE (h : tt σ H fun c H1 => if c = true then ta σ H1 Q else tb σ H1 Q) : tIf tt ta tb σ H Q := h
theorem r_chain {r r' : R2} {tc : TE} (h : ta σ H fun x H1 => tb σ H1 fun y H2 => r x y H2 fun z H3 => ∃ k, z = .bl k ∧ if k = true then tc σ H3 fun w H4 => r' y w H4 Q else Q (.bl false) H3) : tChain r r' ta tb tc σ H Q := h
theorem lst_eq : tLst tA = fun σ H Q => tA σ H fun xs H1 => xs.length ≤ sizeLine ∧ ∀ p H2, H1 p = none → H2 = upd H1 p (.lst xs) → Q (.ref p) H2 := by
  funext σ H Q
  have e : (fun (xs : List V) (H1 : Hp) => xs.length ≤ sizeLine ∧ ∀ p, H1 p = none → Q (.ref p) (upd H1 p (.lst xs))) = fun xs H1 => xs.length ≤ sizeLine ∧ ∀ p H2, H1 p = none → H2 = upd H1 p (.lst xs) → Q (.ref p) H2 := by
    funext xs H1
    exact propext ⟨fun h => ⟨h.1, fun p H2 hp e => by rw [e]; exact h.2 p hp⟩, fun h => ⟨h.1, fun p hp => h.2 p _ hp rfl⟩⟩
  show tA σ H _ = tA σ H _
  exact congrArg (tA σ H) e
theorem tup_eq : tTup tA = fun σ H Q => tA σ H fun xs H1 => xs.length ≤ sizeLine ∧ ∀ p H2, H1 p = none → H2 = upd H1 p (.tup xs) → Q (.ref p) H2 := by
  funext σ H Q
  have e : (fun (xs : List V) (H1 : Hp) => xs.length ≤ sizeLine ∧ ∀ p, H1 p = none → Q (.ref p) (upd H1 p (.tup xs))) = fun xs H1 => xs.length ≤ sizeLine ∧ ∀ p H2, H1 p = none → H2 = upd H1 p (.tup xs) → Q (.ref p) H2 := by
    funext xs H1
    exact propext ⟨fun h => ⟨h.1, fun p H2 hp e => by rw [e]; exact h.2 p hp⟩, fun h => ⟨h.1, fun p hp => h.2 p _ hp rfl⟩⟩
  show tA σ H _ = tA σ H _
  exact congrArg (tA σ H) e
theorem r_lst (h : tA σ H fun xs H1 => xs.length ≤ sizeLine ∧ ∀ p H2, H1 p = none → H2 = upd H1 p (.lst xs) → Q (.ref p) H2) : tLst tA σ H Q := by
  rw [lst_eq]
  exact h
theorem r_tup (h : tA σ H fun xs H1 => xs.length ≤ sizeLine ∧ ∀ p H2, H1 p = none → H2 = upd H1 p (.tup xs) → Q (.ref p) H2) : tTup tA σ H Q := by
  rw [tup_eq]
  exact h
theorem r_alloc {n : Nat} {P : Prop} (hn : n ≤ 100000) (h : P) : n ≤ sizeLine ∧ P := ⟨Nat.le_trans hn (by decide), h⟩
theorem r_noPart {Q : Option Int → Hp → Prop} (h : Q none H) : tNoPart σ H Q := h
theorem r_part {Q : Option Int → Hp → Prop} (h : te σ H fun x H1 => ∃ i, x = .int i ∧ Q (some i) H1) : tPart te σ H Q := h
theorem r_int {j : Int} {P : Int → Prop} (h : P j) : ∃ k, V.int j = .int k ∧ P k := ⟨j, rfl, h⟩
theorem r_sl {r : V → Option Int → Option Int → Hp → VK → Prop} {tl th : TO} (h : te σ H fun x H1 => tl σ H1 fun l H2 => th σ H2 fun u H3 => r x l u H3 Q) : tSl r te tl th σ H Q := h
theorem r_bm {T : String} {r : V → List V → Hp → VK → Prop} (h : te σ H fun x H1 => tyV K T x H1 ∧ tA σ H1 fun xs H2 => r x xs H2 Q) : tBM K T r te tA σ H Q := h
theorem r_m1 {r : V → List V → Hp → VK → Prop} (h : ta σ H fun x H1 => (∃ a, x = .str a) ∧ tb σ H1 fun y H2 => r x [y] H2 Q) : tM1 r ta tb σ H Q := h
theorem r_isS {z : Str} {P : Prop} (h : P) : (∃ a, V.str z = .str a) ∧ P := ⟨⟨z, rfl⟩, h⟩
/-- by values -/
theorem v_I0 {g : Int → Int → V} {a b : Int} (q : Q (g a b) H) : rI0 g (.int a) (.int b) H Q := ⟨a, b, rfl, rfl, q⟩
theorem v_I {C : Int → Int → Prop} {g : Int → Int → V} {a b : Int} (c : C a b) (q : Q (g a b) H) : rI C g (.int a) (.int b) H Q := ⟨a, b, rfl, rfl, c, q⟩
theorem v_U {g : Int → V} {a : Int} (q : Q (g a) H) : rU g (.int a) H Q := ⟨a, rfl, q⟩
theorem v_eqI {a b : Int} (q : Q (.bl (decide (a = b))) H) : rEq (.int a) (.int b) H Q := ⟨rfl, by
  have e : decide (V.int a = V.int b) = decide (a = b) := decide_eq_decide.mpr ⟨fun h => V.int.inj h, fun h => by rw [h]⟩
  rw [e]
  exact q⟩
theorem v_neI {a b : Int} (q : Q (.bl (!decide (a = b))) H) : rNe (.int a) (.int b) H Q := ⟨rfl, by
  have e : decide (V.int a = V.int b) = decide (a = b) := decide_eq_decide.mpr ⟨fun h => V.int.inj h, fun h => by rw [h]⟩
  rw [e]
  exact q⟩
theorem v_eqS {a b : Str} (q : Q (.bl (decide (a = b))) H) : rEq (.str a) (.str b) H Q := ⟨rfl, by
  have e : decide (V.str a = V.str b) = decide (a = b) := decide_eq_decide.mpr ⟨fun h => V.str.inj h, fun h => by rw [h]⟩
  rw [e]
  exact q⟩
theorem v_neS {a b : Str} (q : Q (.bl (!decide (a = b))) H) : rNe (.str a) (.str b) H Q := ⟨rfl, by
  have e : decide (V.str a = V.str b) = decide (a = b) := decide_eq_decide.mpr ⟨fun h => V.str.inj h, fun h => by rw [h]⟩
  rw [e]
  exact q⟩
theorem v_ixL {p : Addr} {xs : List V} {j : Int} (s : SqL K H p xs) (a : atI xs j = some v) (q : Q v H) : rIxL K (.ref p) (.int j) H Q := ⟨p, xs, j, v, rfl, rfl, s, a, q⟩
theorem v_ixT {p : Addr} {xs : List V} {j : Int} (s : SqT K H p xs) (a : atI xs j = some v) (q : Q v H) : rIxT K (.ref p) (.int j) H Q := ⟨p, xs, j, v, rfl, rfl, s, a, q⟩
theorem v_ixS {z : Str} {j : Int} {c : Nat} (s : z.length ≤ 100000) (a : atI z.cps.toList j = some c) (q : Q (.str ⟨#[c]⟩) H) : rIxS (.str z) (.int j) H Q := ⟨z, j, c, rfl, rfl, Nat.le_trans s (by decide), a, q⟩
theorem v_slS {z : Str} {lo hi : Option Int} (s : z.length ≤ 100000) (q : Q (.str (cutS z lo hi)) H) : rSlS (.str z) lo hi H Q := ⟨z, rfl, Nat.le_trans s (by decide), q⟩
theorem v_slL {p : Addr} {xs : List V} {lo hi : Option Int} (s : SqL K H p xs) (q : ∀ l H2, H l = none → H2 = upd H l (.lst (cutV xs lo hi)) → Q (.ref l) H2) : rSlL K (.ref p) lo hi H Q := ⟨p, xs, rfl, s, fun l hl => q l _ hl rfl⟩
theorem v_cat {a b : Addr} {xs ys : List V} (ha : H a = some (.lst xs)) (hb : H b = some (.lst ys)) (n : xs.length + ys.length ≤ 100000) (q : ∀ l H2, H l = none → H2 = upd H l (.lst (xs ++ ys)) → Q (.ref l) H2) : rCat (.ref a) (.ref b) H Q :=
  ⟨a, b, xs, ys, rfl, rfl, ha, hb, Nat.le_trans n (by decide), fun l hl => q l _ hl rfl⟩
theorem v_rep {a : Addr} {k : Int} {xs : List V} (ha : H a = some (.lst xs)) (hk : 0 ≤ k ∧ k ≤ 100000) (n : xs.length * k.toNat ≤ 100000) (q : ∀ l H2, H l = none → H2 = upd H l (.lst (List.replicate k.toNat xs).flatten) → Q (.ref l) H2) : rRep (.ref a) (.int k) H Q :=
  ⟨a, k, xs, rfl, rfl, ha, by omega, by omega, Nat.le_trans n (by decide), fun l hl => q l _ hl rfl⟩
theorem ite_dec {p A B : Prop} [Decidable p] (h1 : p → A) (h2 : ¬ p → B) : if decide p = true then A else B := by
  by_cases h : p
  · rw [if_pos (decide_eq_true h)]
    exact h1 h
  · rw [if_neg (by rw [decide_eq_true_eq]; exact h)]
    exact h2 h
theorem ite_nd {p A B : Prop} [Decidable p] (h1 : ¬ p → A) (h2 : p → B) : if (!decide p) = true then A else B := by
  by_cases h : p
  · rw [decide_eq_true h]
    exact h2 h
  · rw [decide_eq_false h]
    exact h1 h
theorem ite_b {b : Bool} {A B : Prop} (h1 : b = true → A) (h2 : b = false → B) : if b = true then A else B := by
  cases b
  · exact h2 rfl
  · exact h1 rfl
end
/-! ### named readings for operators -/
def rAddS : R2 := fun x y H Q => ∃ i j, x = .str i ∧ y = .str j ∧ i.length + j.length ≤ sizeLine ∧ Q (.str (i ++ j)) H
def rInC : R2 := fun x y H Q => ∃ (c : Nat) (z : Str), x = .str ⟨#[c]⟩ ∧ y = .str z ∧ Q (.bl (decide (c ∈ z.cps.toList))) H
def rNiC : R2 := fun x y H Q => ∃ (c : Nat) (z : Str), x = .str ⟨#[c]⟩ ∧ y = .str z ∧ Q (.bl (!decide (c ∈ z.cps.toList))) H
def rLenQ (K : PySem.W.Frag) : List V → Hp → VK → Prop := fun xs H Q => ∃ p ys, xs = [.ref p] ∧ (SqL K H p ys ∨ SqT K H p ys) ∧ Q (.int ys.length) H
def rLenS : List V → Hp → VK → Prop := fun xs H Q => ∃ z : Str, xs = [.str z] ∧ z.length ≤ sizeLine ∧ Q (.int z.length) H
def rInt1 : List V → Hp → VK → Prop := fun xs H Q => (∃ i, xs = [.int i] ∧ Q (.int i) H) ∨ ∃ k, xs = [.bl k] ∧ Q (.int (if k then 1 else 0)) H
def rStrI : List V → Hp → VK → Prop := fun xs H Q => ∃ i, xs = [.int i] ∧ i.natAbs.log2 < 1920 ∧ Q (.str (toString i)) H
def rRepr (K : PySem.W.Frag) : List V → Hp → VK → Prop := fun xs H Q => ∃ (a : Addr) (d : PyData), xs = [.ref a] ∧ Dp K H (.ref a) d ∧ d.showable = true ∧ d.hasDict = false ∧ d.depth ≤ 60 ∧ d.shown.length ≤ sizeLine ∧ Q (.str d.shown) H
section
variable {X : Cx}
theorem op_addS : OpR X (binaryOp .Add) rAddS := op_add_str
theorem op_inC : OpR X (compareOp .In) rInC := op_in_sign
theorem op_niC : OpR X (compareOp .NotIn) rNiC := op_notIn_sign
theorem call_lenQ : CallR X (.builtin "len") (rLenQ X.K) := call_len_seq
theorem call_lenS : CallR X (.builtin "len") rLenS := call_len_str
theorem call_intQ : CallR X (.type "int") rInt1 := call_int1
theorem call_strI : CallR X (.type "str") rStrI := call_str_int
theorem call_repr (hG : X.A.guards = some []) (hu : X.A.units + 64 < cLine) : CallR X (.builtin "repr") (rRepr X.K) := by
  intro pins s σ H xs us Q I r h
  obtain ⟨a, d, rfl, dp, h1, h2, h3, h4, q⟩ := h
  obtain ⟨u, rfl, ru⟩ := vals1 r
  cases (show u = Value.ref a from ru)
  obtain ⟨as, rd⟩ := Dp.reads I d _ _ dp ru
  refine repr_of_reads' rd h1 (PyData.noDict_hsm h2) hG (by omega) (fun _ _ e => e) (fun h' u tk hk => ?_) h4
  exact ⟨.str d.shown, H, I.kept hk, ⟨_, rfl⟩, q⟩
end
section
variable {K : PySem.W.Frag} {H : Hp} {Q : VK}
theorem v_addS {a b : Str} (n : a.length + b.length ≤ 100000) (q : Q (.str (a ++ b)) H) : rAddS (.str a) (.str b) H Q := ⟨a, b, rfl, rfl, Nat.le_trans n (by decide), q⟩
theorem v_inC {c : Nat} {z : Str} (q : Q (.bl (decide (c ∈ z.cps.toList))) H) : rInC (.str ⟨#[c]⟩) (.str z) H Q := ⟨c, z, rfl, rfl, q⟩
theorem v_niC {c : Nat} {z : Str} (q : Q (.bl (!decide (c ∈ z.cps.toList))) H) : rNiC (.str ⟨#[c]⟩) (.str z) H Q := ⟨c, z, rfl, rfl, q⟩
theorem v_lenL {p : Addr} {xs : List V} (s : SqL K H p xs) (q : Q (.int xs.length) H) : rLenQ K [.ref p] H Q := ⟨p, xs, rfl, .inl s, q⟩
theorem v_lenT {p : Addr} {xs : List V} (s : SqT K H p xs) (q : Q (.int xs.length) H) : rLenQ K [.ref p] H Q := ⟨p, xs, rfl, .inr s, q⟩
theorem v_lenS {z : Str} (n : z.length ≤ 100000) (q : Q (.int z.length) H) : rLenS [.str z] H Q := ⟨z, rfl, Nat.le_trans n (by decide), q⟩
theorem v_intI {i : Int} (q : Q (.int i) H) : rInt1 [.int i] H Q := .inl ⟨i, rfl, q⟩
theorem v_intB {b : Bool} (q : Q (.int (if b then 1 else 0)) H) : rInt1 [.bl b] H Q := .inr ⟨b, rfl, q⟩
theorem v_strI {i : Int} (n : i.natAbs.log2 < 1920) (q : Q (.str (toString i)) H) : rStrI [.int i] H Q := ⟨i, rfl, n, q⟩
end

/-! ### a well at w, of at most n draws -/
def Wl (H : Hp) (w : Addr) (n : Nat) : Prop := ∃ a b c : Int, H w = some (.lst [.int a, .int b, .int c]) ∧ 0 ≤ c ∧ c ≤ n
structure Wd (H0 H : Hp) (w : Addr) (n : Nat) (L : List (Addr × HO)) : Prop where
  wl : Wl H w n
  has : Has H L
  off : ∀ p ∈ L, p.1 ≠ w
  ext : Ext w H0 H
section
variable {H0 H H' : Hp} {w p a : Addr} {n m : Nat} {L : List (Addr × HO)} {o o' : HO}
theorem Wl.mono (h : Wl H w n) (e : n ≤ m) : Wl H w m := by
  obtain ⟨a, b, c, h1, h2, h3⟩ := h
  exact ⟨a, b, c, h1, h2, by omega⟩
theorem Wl.fresh (h : Wl H w n) (q : H p = none) : p ≠ w := by
  obtain ⟨a, b, c, h1, _⟩ := h
  exact (ne_of_none h1 q).symm
theorem Wl.new (h : Wl H w n) (q : H p = none) : Wl (upd H p o) w n := by
  obtain ⟨a, b, c, h1, h2⟩ := h
  exact ⟨a, b, c, by rw [upd_ne (ne_of_none h1 q)]; exact h1, h2⟩
theorem Wd.of (h : Wl H w n) : Wd H H w n [] := ⟨h, Has.nil, fun _ z => (nomatch z), Ext.refl⟩
theorem Wd.new (h : Wd H0 H w n L) (q : H p = none) : Wd H0 (upd H p o) w n ((p, o) :: L) :=
  ⟨h.wl.new q, h.has.new q, fun x hx => by
    rcases List.mem_cons.mp hx with rfl | hx
    · exact h.wl.fresh q
    · exact h.off x hx, h.ext.trans (Ext.new q)⟩
theorem Wd.newE (h : Wd H0 H w n L) (q : H p = none) (e : H' = upd H p o) : Wd H0 H' w n ((p, o) :: L) := by
  rw [e]
  exact h.new q
theorem Wd.go (h : Wd H0 H w n L) (e : Ext w H H') (q : Wl H' w m) : Wd H0 H' w m L :=
  ⟨q, ⟨fun x hx => e _ _ (h.off x hx) (h.has.1 x hx), h.has.2⟩, h.off, h.ext.trans e⟩
theorem Wd.mono (h : Wd H0 H w n L) (e : n ≤ m) : Wd H0 H w m L := ⟨h.wl.mono e, h.has, h.off, h.ext⟩
theorem Wd.at (h : Wd H0 H w n L) (i : Nat) (q : L[i]? = some (a, o)) : H a = some o := h.has.at i q
theorem Wd.ne (h : Wd H0 H w n L) (i : Nat) (q : L[i]? = some (a, o)) : a ≠ w := h.off _ (List.mem_of_getElem? q)
/-- an object that is not known ahead of H0 may change -/
theorem Wd.put (h : Wd H0 H w n L) (i : Nat) (q : L[i]? = some (a, o)) (f : H0 a = none) : Wd H0 (upd H a o') w n (L.set i (a, o')) := by
  have ne : a ≠ w := h.off _ (List.mem_of_getElem? q)
  obtain ⟨x, b, c, h1, h2⟩ := h.wl
  refine ⟨⟨x, b, c, by rw [upd_ne ne.symm]; exact h1, h2⟩, h.has.put i q, fun p hp => ?_, fun y u ny hy => ?_⟩
  · rcases List.mem_or_eq_of_mem_set hp with hp | rfl
    · exact h.off p hp
    · exact ne
  · rw [upd_ne (ne_of_none hy f)]
    exact h.ext y u ny hy
theorem Wd.fresh (h : Wd H0 H w n L) (q : H p = none) (ne : p ≠ w) : H0 p = none := by
  cases e : H0 p with
  | none => rfl
  | some o =>
    rw [h.ext p o ne e] at q
    cases q
theorem Wd.fr (h : Wd H0 H w n L) (q : H p = none) : H0 p = none := h.fresh q (h.wl.fresh q)
theorem Wd.add (h : Wd H0 H w n L) (q : H a = some o) (ne : a ≠ w) (nd : ∀ p ∈ L, p.1 ≠ a) : Wd H0 H w n ((a, o) :: L) :=
  ⟨h.wl, ⟨fun x hx => by
    rcases List.mem_cons.mp hx with rfl | hx
    · exact q
    · exact h.has.1 x hx, by
    rw [List.map_cons, List.nodup_cons]
    refine ⟨fun z => ?_, h.has.2⟩
    obtain ⟨y, hy, e⟩ := List.mem_map.mp z
    exact nd y hy e⟩, fun x hx => by
    rcases List.mem_cons.mp hx with rfl | hx
    · exact ne
    · exact h.off x hx, h.ext⟩
end
/-! ### join, comprehensions -/
def rJoinQ (K : PySem.W.Frag) : V → List V → Hp → VK → Prop := fun x xs H Q => ∃ a p, ∃ ys : List Str, x = .str a ∧ xs = [.ref p] ∧
  (SqL K H p (ys.map V.str) ∨ SqT K H p (ys.map V.str)) ∧ (ys.map (·.length)).sum + ys.length * a.length ≤ 16777216 ∧ Q (.str (Txt.join a ys)) H
theorem pe_joinQ {X : Cx} {o e : Expr} {to te : TE} {apos pos : Pos} (ho : PE X o to) (he : PE X e te) (hs : starEach [e] X.env = [(false, eval e X.env)] := by rfl)
    (hbase : attributeBase o "join" X.env (eval o X.env) = eval o X.env := by rfl) (hline : (apos.endLine == pos.line) = true := by rfl) :
    PE X (.Call (.Attribute o "join" apos) [e] [] pos) (tM1 (rJoinQ X.K) to te) := pe_join ho he hs hbase hline
theorem v_joinL {K : PySem.W.Frag} {H : Hp} {Q : VK} {z : Str} {p : Addr} {ys : List Str} (s : SqL K H p (ys.map V.str)) (n : (ys.map (·.length)).sum + ys.length * z.length ≤ 100000) (q : Q (.str (Txt.join z ys)) H) : rJoinQ K (.str z) [.ref p] H Q :=
  ⟨z, p, ys, rfl, rfl, .inl s, Nat.le_trans n (by decide), q⟩
section
variable {K : PySem.W.Frag} {σ : L2.St} {H : Hp} {ta : TA} {te : TE}
theorem r_iR1 {R : It → Hp → Prop} (h : ta σ H fun vs H1 => ∃ j : Int, vs = [.int j] ∧ -(2 ^ 62) ≤ j ∧ j < 2 ^ 62 ∧ R (Itr 0 j.toNat) H1) : iRng1 ta σ H R := h
theorem r_rng {j : Int} {R : Int → Prop} (hj : -100000000 ≤ j ∧ j ≤ 100000000) (h : R j) : ∃ k : Int, [V.int j] = [.int k] ∧ -(2 ^ 62) ≤ k ∧ k < 2 ^ 62 ∧ R k := ⟨j, rfl, by omega, by omega, h⟩
theorem r_iL {R : It → Hp → Prop} (h : te σ H fun x H1 => ∃ a, x = .ref a ∧ (∃ xs, SqL K H1 a xs) ∧ R (Itl K a) H1) : iList K te σ H R := h
theorem r_iLv {a : Addr} {xs : List V} {R : Addr → Prop} (s : SqL K H a xs) (h : R a) : ∃ b, V.ref a = .ref b ∧ (∃ xs, SqL K H b xs) ∧ R b := ⟨a, rfl, ⟨xs, s⟩, h⟩
theorem r_iS {R : It → Hp → Prop} (h : te σ H fun v H1 => ∃ x, v = .str x ∧ R (Its x) H1) : iStr te σ H R := h
theorem r_str {z : Str} {P : Str → Prop} (h : P z) : ∃ x, V.str z = .str x ∧ P x := ⟨z, rfl, h⟩
end
theorem len_of_iso {z : Str} : z.length = z.cps.toList.length := by
  show z.cps.size = _
  simp

section
variable {K : PySem.W.Frag} {σ : L2.St} {H : Hp} {Q : VK} {ta tb : TE} {v : V}
theorem r_sub {t : TSet} {P : L2.St → Hp → Prop} (h : ta σ H fun o H1 => tb σ H1 fun i H2 => t o i v H2 fun H3 => P σ H3) : gSub ta tb t v σ H P := h
theorem v_setL {p : Addr} {xs : List V} {j : Int} {k : Nat} {P : Hp → Prop} (h : H p = some (.lst xs)) (i : ixN xs.length j = some k) (q : P (upd H p (.lst (xs.set k v)))) : rSetL (.ref p) (.int j) v H P :=
  ⟨p, xs, j, k, rfl, rfl, h, i, q⟩
theorem v_app {p : Addr} {xs : List V} (h : H p = some (.lst xs)) (n : xs.length < 100000) (q : Q .non (upd H p (.lst (xs ++ [v])))) :
    rAppend (.ref p) [v] H Q :=
  ⟨p, xs, v, rfl, rfl, h, Nat.lt_of_lt_of_le n (by decide), q⟩
theorem v_ty {p : Addr} {xs : List V} {P : Prop} (h : H p = some (.lst xs)) (q : P) : tyV K "list" (.ref p) H ∧ P := ⟨.inl ⟨rfl, xs, .inl (.inl h)⟩, q⟩
theorem cpow_lit {i j : Int} (h : (decide (0 ≤ j) && decide (j ≤ 1000000) && decide (i.natAbs < 2 ^ 64)) = true) : CPow i j := by
  simp only [Bool.and_eq_true, decide_eq_true_eq] at h
  exact ⟨h.1.1, h.1.2, h.2⟩
end

theorem log_small {n : Nat} (h : n ≤ 1000000) : ((n : Int)).natAbs.log2 < 9000 := by
  rw [Int.natAbs_natCast]
  have h2 : n < 2 ^ 20 := Nat.lt_of_le_of_lt h (by decide)
  exact Nat.lt_of_lt_of_le (PySem.Flt.log2_lt_of (by decide : 0 < 20) h2) (by decide)
theorem log_lt {m : Int} {k : Nat} (h : m.natAbs < 2 ^ k) (h0 : 0 < k) (h9 : k ≤ 9000) : m.natAbs.log2 < 9000 :=
  Nat.lt_of_lt_of_le (PySem.Flt.log2_lt_of h0 h) h9

theorem same_new {H : Hp} {p : Addr} {o : HO} (h : H p = none) : Same H (upd H p o) := fun a u e => by
  rw [upd_ne (ne_of_none e h)]
  exact e

theorem r_lc {wi : TI} {g : TG} {tt : TT} {te : TE} {vs : List Nat} {σ : L2.St} {H : Hp} {Q : VK} (h : wi σ H fun J H1 => ∀ D, H1 D = none → ∃ W : Nat → Nat → Hp → Prop, (∃ m, W 0 m (upd H1 D (.lst []))) ∧ ∀ i m H, W i m H →
    (J.stop i H ∧ Q (.ref D) H) ∨ (J.go i H ∧ ∃ Nx : Hp → Prop, (∀ H', Nx H' → ∃ m', m' < m ∧ W (i + 1) m' H') ∧ ∀ x H', J.yld i H x H' → g x (wipe σ vs) H' fun σ2 H2 => wipe σ2 vs = wipe σ vs ∧ tt σ2 H2 fun b H3 =>
      if b = true then te σ2 H3 fun y H4 => ∃ acc, H4 D = some (.lst acc) ∧ acc.length < sizeLine ∧ Nx (upd H4 D (.lst (acc ++ [y]))) else Nx H3)) : tLc wi g tt te vs σ H Q := h
theorem r_yes {σ : L2.St} {H : Hp} {P : Bool → Hp → Prop} (h : P true H) : tYes σ H P := h
theorem r_acc {H : Hp} {D : Addr} {acc : List V} {P : List V → Prop} (h : H D = some (.lst acc)) (n : acc.length < 100000) (q : P acc) : ∃ xs, H D = some (.lst xs) ∧ xs.length < sizeLine ∧ P xs := ⟨acc, h, Nat.lt_of_lt_of_le n (by decide), q⟩
/-! ### texts -/
theorem str_len (z : Str) : z.length = z.cps.toList.length := by
  show z.cps.size = _
  simp
theorem atI_str {z : Str} {r : Int} (h0 : 0 ≤ r) (h1 : r < z.length) : ∃ c ∈ z.cps.toList, atI z.cps.toList r = some c := by
  obtain ⟨j, rfl⟩ := Int.eq_ofNat_of_zero_le h0
  have hj : j < z.cps.toList.length := by
    rw [← str_len]
    omega
  exact ⟨_, List.getElem_mem hj, atI_nat (j := j) (List.getElem?_eq_getElem hj)⟩
theorem cut_len (z : Str) (lo hi : Option Int) : (cutS z lo hi).length ≤ z.length := by
  rw [str_len, str_len]
  unfold cutS
  simp
  omega
theorem joinL_nil : ∀ ps : List (List Nat), TL.joinL [] ps = ps.flatten
  | [] => rfl
  | [p] => by simp [TL.joinL]
  | p :: q :: r => by
    rw [TL.joinL, joinL_nil (q :: r)]
    simp
theorem join_tl (ys : List Str) : (Txt.join "" ys).cps.toList = (ys.map fun y => y.cps.toList).flatten := by
  rw [TL.join_eq]
  exact (TL.tl_join "" ys).trans (joinL_nil _)
theorem join_len (ys : List Str) : (Txt.join "" ys).length = (ys.map (·.length)).sum := by
  rw [str_len, join_tl, List.length_flatten, List.map_map]
  rfl
theorem add_len (a b : Str) : (a ++ b).length = a.length + b.length := by
  show (a.cps ++ b.cps).size = _
  rw [Array.size_append]
  rfl
theorem sum_ones : ∀ {ys : List Str}, (∀ y ∈ ys, y.length = 1) → (ys.map (·.length)).sum = ys.length
  | [], _ => rfl
  | y :: r, h => by
    rw [List.map_cons, List.sum_cons, h y List.mem_cons_self, sum_ones fun z hz => h z (List.mem_cons_of_mem _ hz), List.length_cons, Nat.add_comm]

/-! ### comprehensions whose turns leave the heap as it is -/
theorem lc_filt {J : It} {xs : List V} {G : Hp → Prop} (wk : Walk J xs.length G (YAt xs)) {g : TG} {tt : TT} {te : TE} {vs : List Nat} {σ : L2.St} {H : Hp} {D : Addr} {Qd : Hp → Prop} (hD : H D = none)
    (hG : ∀ H', Same H H' → G H') (hn : xs.length ≤ 50000) (P : V → Bool) (f : V → V)
    (step : ∀ x ∈ xs, ∀ (H' : Hp) (R : Hp → Prop) (Ra : VK), Same H H' → (P x = false → R H') → (P x = true → Ra (f x) H') →
      g x (wipe σ vs) H' fun σ2 H2 => wipe σ2 vs = wipe σ vs ∧ tt σ2 H2 fun b H3 => if b = true then te σ2 H3 Ra else R H3)
    (hd : ∀ H', Same H H' → H' D = some (.lst ((xs.filter P).map f)) → Qd H') :
    ∃ W : Nat → Nat → Hp → Prop, (∃ m, W 0 m (upd H D (.lst []))) ∧ ∀ i m H, W i m H →
      (J.stop i H ∧ Qd H) ∨ (J.go i H ∧ ∃ Nx : Hp → Prop, (∀ H', Nx H' → ∃ m', m' < m ∧ W (i + 1) m' H') ∧ ∀ x H', J.yld i H x H' → g x (wipe σ vs) H' fun σ2 H2 => wipe σ2 vs = wipe σ vs ∧ tt σ2 H2 fun b H3 =>
        if b = true then te σ2 H3 fun y H4 => ∃ acc, H4 D = some (.lst acc) ∧ acc.length < sizeLine ∧ Nx (upd H4 D (.lst (acc ++ [y]))) else Nx H3) := by
  refine lc_it wk (fun i H' => Same H H' ∧ H' D = some (.lst (((xs.take i).filter P).map f))) ⟨same_new hD, upd_same⟩ (fun i H' _ h => hG H' h.1) (fun i x H1 H2 hi hP hY => ?_) (fun H' h => hd H' h.1 (by rw [h.2, List.take_length]))
  obtain ⟨rfl, hx⟩ := hY
  obtain ⟨hs, hd1⟩ := hP
  have hx2 : xs.take (i + 1) = xs.take i ++ [x] := by rw [List.take_add_one, hx]; rfl
  refine step x (List.mem_of_getElem? hx) H2 (fun H3 => Same H H3 ∧ H3 D = some (.lst (((xs.take (i + 1)).filter P).map f))) _ hs (fun hp => ⟨hs, ?_⟩) (fun hp => ⟨_, hd1, ?_, fun a o ha => ?_, ?_⟩)
  · rw [hd1, hx2, List.filter_append]
    simp [hp]
  · rw [List.length_map]
    refine Nat.lt_of_le_of_lt (List.length_filter_le _ _) ?_
    rw [List.length_take]
    exact Nat.lt_of_le_of_lt (Nat.min_le_right _ _) (Nat.lt_of_le_of_lt hn (by decide))
  · rw [upd_ne (ne_of_none ha hD)]
    exact hs a o ha
  · rw [upd_same, hx2, List.filter_append]
    simp [hp]
/-- the signs of a text, each as a text -/
def signs (z : Str) : List V := z.cps.toList.map fun c => V.str ⟨#[c]⟩
theorem walk_signs (z : Str) : Walk (Its z) (signs z).length (fun _ => True) (YAt (signs z)) := by
  have e : (signs z).length = z.cps.size := by
    unfold signs
    simp
  have h := walk_str (z := z)
  rw [← e] at h
  refine h.mono (fun _ h => h) (fun i H x H' hi _ hy => ?_)
  obtain ⟨e1, c, hc, e2⟩ := hy
  refine ⟨e1, ?_⟩
  unfold signs
  rw [List.getElem?_map, Array.getElem?_toList, hc, e2]
  rfl
theorem mem_signs {c : Nat} {z : Str} : decide (V.str ⟨#[c]⟩ ∈ signs z) = decide (c ∈ z.cps.toList) := by
  refine decide_eq_decide.mpr ⟨fun h => ?_, fun h => ?_⟩
  · obtain ⟨d, hd, e⟩ := List.mem_map.mp h
    have e2 : (⟨#[d]⟩ : Str) = ⟨#[c]⟩ := V.str.inj e
    injection e2 with e3
    have e4 : d = c := by simpa using e3
    rw [← e4]
    exact hd
  · exact List.mem_map.mpr ⟨c, h, rfl⟩

/-! ### texts of signs -/
def okS (z : Str) : Prop := ∀ c ∈ z.cps.toList, c < 0x110000
theorem ok_lit (s : String) : okS (Str.ofString s) := by
  intro c hc
  rw [Str.ofString_eq_toList] at hc
  simp only [List.mem_map] at hc
  obtain ⟨d, _, rfl⟩ := hc
  have h := d.valid
  have h2 : d.toNat = d.val.toNat := rfl
  rw [h2]
  rcases h with h | h
  · exact Nat.lt_trans h (by decide)
  · exact h.2
theorem ok_one {c : Nat} (h : c < 0x110000) : okS ⟨#[c]⟩ := fun d hd => by
  have e : d = c := by simpa using hd
  rw [e]
  exact h
theorem ok_cut {z : Str} (h : okS z) (lo hi : Option Int) : okS (cutS z lo hi) := fun c hc => by
  refine h c ?_
  unfold cutS at hc
  have hc2 : c ∈ ((z.cps.toList.drop (HT.sIx z.length 0 lo)).take (HT.sIx z.length z.length hi - HT.sIx z.length 0 lo)) := by simpa using hc
  exact List.mem_of_mem_drop (List.mem_of_mem_take hc2)
theorem tl_add (a b : Str) : (a ++ b).cps.toList = a.cps.toList ++ b.cps.toList := by
  show (a.cps ++ b.cps).toList = _
  simp
theorem ok_add {a b : Str} (ha : okS a) (hb : okS b) : okS (a ++ b) := fun c hc => by
  rw [tl_add] at hc
  rcases List.mem_append.mp hc with h | h
  · exact ha c h
  · exact hb c h
theorem ok_join {ys : List Str} (h : ∀ y ∈ ys, okS y) : okS (Txt.join "" ys) := fun c hc => by
  rw [join_tl] at hc
  obtain ⟨l, hl, hc⟩ := List.mem_flatten.mp hc
  obtain ⟨y, hy, rfl⟩ := List.mem_map.mp hl
  exact h y hy c hc
theorem ok_str {z : Str} (h : okS z) : PyData.strOk z = true := by
  unfold PyData.strOk
  rw [Array.all_eq_true]
  intro i hi
  exact decide_eq_true (h _ (by simp))
/-! ### comparing data -/
theorem dp_strs {K : PySem.W.Frag} {H : Hp} : ∀ ys : List Str, DpAll K H (ys.map V.str) (ys.map PyData.str)
  | [] => .nil
  | y :: r => .cons (.str y) (dp_strs r)
theorem dp_bls {K : PySem.W.Frag} {H : Hp} : ∀ ys : List Bool, DpAll K H (ys.map V.bl) (ys.map PyData.bool)
  | [] => .nil
  | y :: r => .cons (.bl y) (dp_bls r)
theorem can_strs : ∀ {ys : List Str}, (∀ y ∈ ys, okS y) → PyData.canLayAll0 (ys.map PyData.str) = true
  | [], _ => rfl
  | y :: r, h => by
    rw [List.map_cons]
    unfold PyData.canLayAll0
    rw [show PyData.canLay0 (.str y) = PyData.strOk y by unfold PyData.canLay0; rfl, ok_str (h y List.mem_cons_self), can_strs fun z hz => h z (List.mem_cons_of_mem _ hz)]
    rfl
theorem depth_strs : ∀ ys : List Str, PyData.depthAll (ys.map PyData.str) ≤ 1
  | [] => by simp [PyData.depthAll]
  | y :: r => by
    have := depth_strs r
    rw [List.map_cons]
    unfold PyData.depthAll
    have e : PyData.depth (.str y) ≤ 1 := by simp [PyData.depth]
    omega
theorem shaped_strs {ys : List Str} (h : ∀ y ∈ ys, okS y) : SeqAt.shaped (.list (ys.map PyData.str)) = true := by
  unfold SeqAt.shaped
  rw [show PyData.canLay0 (.list (ys.map PyData.str)) = PyData.canLayAll0 (ys.map PyData.str) by unfold PyData.canLay0; rfl, can_strs h]
  have h1 := depth_strs ys
  rw [show PyData.depth (.list (ys.map PyData.str)) = PyData.depthAll (ys.map PyData.str) + 1 by simp [PyData.depth]]
  exact decide_eq_true (by omega)
theorem eqv_nil (ds : List PyData) : PyData.eqv (.list ds) (.list []) = ds.isEmpty := by
  cases ds with
  | nil => unfold PyData.eqv PyData.eqvAll; rfl
  | cons x r => unfold PyData.eqv PyData.eqvAll; rfl
theorem v_eqD {K : PySem.W.Frag} {H : Hp} {Q : VK} {x y : V} {d e : PyData} (h1 : Dp K H x d) (h2 : Dp K H y e) (s1 : SeqAt.shaped d = true) (s2 : SeqAt.shaped e = true) (q : Q (.bl (PyData.eqv d e)) H) : rEqD K x y H Q := ⟨d, e, h1, h2, s1, s2, q⟩
theorem v_neD {K : PySem.W.Frag} {H : Hp} {Q : VK} {x y : V} {d e : PyData} (h1 : Dp K H x d) (h2 : Dp K H y e) (s1 : SeqAt.shaped d = true) (s2 : SeqAt.shaped e = true) (q : Q (.bl (!PyData.eqv d e)) H) : rNeD K x y H Q := ⟨d, e, h1, h2, s1, s2, q⟩
theorem filter_not_empty {α : Type} {p : α → Bool} : ∀ {l : List α}, (l.filter fun c => !p c).isEmpty = l.all p
  | [] => rfl
  | a :: r => by
    rw [List.filter_cons, List.all_cons]
    cases p a with
    | true => exact filter_not_empty
    | false => rfl

theorem r_dnew {σ : L2.St} {H : Hp} {Q : VK} (h : ∀ p H2, H p = none → H2 = upd H p (.dK []) → Q (.ref p) H2) : tDNewK σ H Q := fun p hp => h p _ hp rfl
theorem r_for {wi : TI} {g : TG} {tb : TS} {D : Ends} {σ : L2.St} {H : Hp} (h : wi σ H fun J H1 => ∃ W : Nat → Nat → L2.St → Hp → Prop, (∃ m, W 0 m σ H1) ∧ ∀ i m σ H, W i m σ H →
  (J.stop i H ∧ D.nx σ H) ∨ (J.go i H ∧ ∃ N : L2.St → Hp → Prop, (∀ σ' H', N σ' H' → ∃ m', m' < m ∧ W (i + 1) m' σ' H') ∧ ∀ x H', J.yld i H x H' → g x σ H' fun σ2 H2 => tb { D with nx := N, ct := N, bk := D.nx } σ2 H2)) : tFor wi g tb D σ H := h
theorem r_dict {σ : L2.St} {H : Hp} {Q : VK} (h : ∀ p H2, H p = none → H2 = upd H p (.dK []) → Q (.ref p) H2) : tDNewK σ H Q := r_dnew h
/-- a value's type stays -/
theorem ty_ext {K : PySem.W.Frag} {H H' : Hp} {v : V} {t : Value} {w : Addr} (h : TyX K H v t) (e : Ext w H H') (n : v ≠ .ref w) : TyX K H' v t := by
  have ne : ∀ {a : Addr}, V.ref a ≠ .ref w → a ≠ w := fun h z => h (by rw [z])
  cases h with
  | base b =>
    refine .base ?_
    cases b with
    | non => exact .non
    | bl y => exact .bl y
    | int i => exact .int i
    | str y => exact .str y
    | flt y => exact .flt y
    | lst ea => exact .lst (e _ _ (ne n) ea)
    | frz ea => exact .frz (e _ _ (ne n) ea)
    | tup ea => exact .tup (e _ _ (ne n) ea)
    | dK ea => exact .dK (e _ _ (ne n) ea)
    | dT ea => exact .dT (e _ _ (ne n) ea)
    | ins ea cl ha hn htk hm => exact .ins (e _ _ (ne n) ea) cl ha hn htk hm
  | byt y => exact .byt y
  | set ea => exact .set (e _ _ (ne n) ea)
  | kList ea c => exact .kList ea c
  | kTuple ea c => exact .kTuple ea c
  | kDict ea c => exact .kDict ea c
  | fTuple ea => exact .fTuple (e _ _ (ne n) ea)
  | fDict ea => exact .fDict (e _ _ (ne n) ea)

theorem Wd.same {H0 H H' : Hp} {w : Addr} {n : Nat} {L : List (Addr × HO)} (h : Wd H0 H w n L) (e : Same H H') : Wd H0 H' w n L := by
  obtain ⟨a, b, c, h1, h2⟩ := h.wl
  exact h.go (Ext.of e) ⟨a, b, c, e _ _ h1, h2⟩
theorem same_shown : ∀ b1 b2 b3 b4 : Bool, (PyData.list [.bool b1, .bool b2, .bool b3, .bool b4]).shown.length ≤ sizeLine := by decide +kernel

theorem Has.sub {H : Hp} {L M : List (Addr × HO)} (h : Has H L) (s : M.Sublist L) : Has H M := ⟨fun p hp => h.1 p (s.subset hp), h.2.sublist (s.map _)⟩
theorem Wd.drop {H0 H : Hp} {w : Addr} {n : Nat} {L : List (Addr × HO)} (h : Wd H0 H w n L) (k : Nat) : Wd H0 H w n (L.drop k) :=
  ⟨h.wl, h.has.sub (List.drop_sublist k L), fun p hp => h.off p ((List.drop_sublist k L).subset hp), h.ext⟩
end GB
local macro_rules | `(tactic| walk_at "hp") => `(tactic| first | assumption | exact GB.Wd.at (by assumption) 0 rfl | exact GB.Wd.at (by assumption) 1 rfl | exact GB.Wd.at (by assumption) 2 rfl | exact GB.Wd.at (by assumption) 3 rfl | exact GB.Wd.at (by assumption) 4 rfl | exact GB.Wd.at (by assumption) 5 rfl | exact GB.Wd.at (by assumption) 6 rfl | exact GB.Wd.at (by assumption) 7 rfl | exact GB.Wd.at (by assumption) 8 rfl)
local macro_rules | `(tactic| walk_at "side") => `(tactic| first | decide | omega | exact ⟨by decide, by decide⟩ | exact ⟨by omega, by omega⟩ | exact GB.cpow_lit (by decide) | exact .inl ⟨by omega, by omega⟩ | exact .inr ⟨by omega, by omega⟩)
local macro_rules | `(tactic| walk_at "len") => `(tactic| first | assumption | decide | omega | (simp only [List.length_cons, List.length_nil, List.length_append, List.length_map]; first | done | omega))
local macro_rules | `(tactic| walk_at "s") => `(tactic| first
  | with_reducible refine GB.r_seq ?_
  | with_reducible refine GB.r_next ?_
  | with_reducible refine GB.r_asg ?_
  | with_reducible refine GB.r_name ?_
  | with_reducible refine GB.r_drop ?_
  | with_reducible refine GB.r_ret ?_
  | with_reducible refine GB.r_ifs ?_
  | ((with_reducible refine' GB.r_var ?a ?_); (case a => exact rfl))
  | with_reducible refine GB.r_c ?_
  | with_reducible refine GB.r_op ?_
  | with_reducible refine GB.r_un ?_
  | with_reducible refine GB.r_nil ?_
  | with_reducible refine GB.r_cons ?_
  | with_reducible refine GB.r_cb ?_
  | with_reducible refine GB.r_call ?_
  | with_reducible refine GB.r_calK ?_
  | with_reducible refine GB.r_test ?_
  | with_reducible refine GB.r_bl ?_
  | with_reducible refine GB.r_tB ?_
  | with_reducible refine GB.r_and ?_
  | with_reducible refine GB.r_or ?_
  | with_reducible refine GB.r_not ?_
  | with_reducible refine GB.r_andV ?_
  | with_reducible refine GB.r_orV ?_
  | with_reducible refine GB.r_notV ?_
  | with_reducible refine GB.r_ifE ?_
  | with_reducible refine GB.r_chain ?_
  | with_reducible refine GB.r_lst ?_
  | with_reducible refine GB.r_tup ?_
  | with_reducible refine GB.r_noPart ?_
  | with_reducible refine GB.r_part ?_
  | with_reducible refine GB.r_int ?_
  | with_reducible refine GB.r_sl ?_
  | with_reducible refine GB.r_bm ?_
  | with_reducible refine GB.r_m1 ?_
  | with_reducible refine GB.r_isS ?_
  | with_reducible refine GB.v_I0 ?_
  | with_reducible refine GB.v_U ?_
  | with_reducible refine GB.v_eqI ?_
  | with_reducible refine GB.v_neI ?_
  | with_reducible refine GB.v_eqS ?_
  | with_reducible refine GB.v_neS ?_
  | with_reducible refine GB.v_inC ?_
  | with_reducible refine GB.v_niC ?_
  | with_reducible refine GB.v_intI ?_
  | with_reducible refine GB.v_intB ?_
  | with_reducible refine GB.r_iR1 ?_
  | with_reducible refine GB.r_iL ?_
  | with_reducible refine GB.r_iS ?_
  | with_reducible refine GB.r_str ?_
  | with_reducible refine GB.r_sub ?_
  | with_reducible refine GB.r_lc ?_
  | with_reducible refine GB.r_for ?_
  | with_reducible refine GB.r_dnew ?_
  | with_reducible refine GB.r_yes ?_
  | ((with_reducible refine' GB.v_setL ?a ?b ?_); (case a => walk_at "hp"); (case b => exact rfl))
  | ((with_reducible refine' GB.v_ty ?a ?_); (case a => walk_at "hp"))
  | ((with_reducible refine' GB.v_app ?a ?b ?_); (case a => walk_at "hp"); (case b => walk_at "len"))
  | ((with_reducible refine' GB.v_I ?a ?_); (case a => walk_at "side"))
  | ((with_reducible refine' GB.v_ixL ?a ?b ?_); (case a => exact GB.sqL (by walk_at "hp")); (case b => exact rfl))
  | ((with_reducible refine' GB.v_ixT ?a ?b ?_); (case a => exact GB.sqT (by walk_at "hp")); (case b => exact rfl))
  | ((with_reducible refine' GB.v_lenL ?a ?_); (case a => exact GB.sqL (by walk_at "hp")))
  | ((with_reducible refine' GB.v_lenT ?a ?_); (case a => exact GB.sqT (by walk_at "hp")))
  | ((with_reducible refine' GB.r_iLv ?a ?_); (case a => exact GB.sqL (by walk_at "hp")))
  | ((with_reducible refine' GB.v_lenS ?a ?_); (case a => walk_at "len"))
  | ((with_reducible refine' GB.v_addS ?a ?_); (case a => walk_at "len"))
  | ((with_reducible refine' GB.v_slS ?a ?_); (case a => walk_at "len")))
local macro_rules | `(tactic| walk_at "r") => `(tactic| repeat walk_at "s")
local macro_rules | `(tactic| walk_at "st") => `(tactic| try dsimp only [L2.cxOf, L2.Cx.nox, L2.Cx.wish])


namespace K01
open PySem PySem.Spec PyProof.Rows L2
def top (i : Nat) : Stmt := PySem.Challenge.pw_givenback_k01_names_and_numbers.main.body.getD i (.Pass ⟨0, 0, 0, 0⟩)
abbrev s_is_name : Stmt := top 3
abbrev s_is_whole : Stmt := top 4
abbrev s_is_number : Stmt := top 5
abbrev s_l_cell_at : Stmt := top 7
abbrev s_l_well : Stmt := top 8
abbrev s_l_draw : Stmt := top 9
abbrev s_l_pick : Stmt := top 10
abbrev s_l_text : Stmt := top 11
abbrev s_l_number : Stmt := top 12
abbrev s_l_is_name : Stmt := top 13
abbrev s_l_is_whole : Stmt := top 14
abbrev s_law : Stmt := top 15
theorem sc_is_name : FnScope ["thing", "sign"] ["thing"] (defScope s_is_name) := ⟨rfl, rfl, rfl, by decide +kernel, rfl, by decide +kernel, by decide +kernel⟩
theorem sc_is_whole : FnScope ["thing", "least", "most"] ["thing", "least", "most"] (defScope s_is_whole) := ⟨rfl, rfl, rfl, by decide +kernel, rfl, by decide +kernel, by decide +kernel⟩
theorem sc_is_number : FnScope ["thing"] ["thing"] (defScope s_is_number) := ⟨rfl, rfl, rfl, by decide +kernel, rfl, by decide +kernel, by decide +kernel⟩
theorem sc_l_cell_at : FnScope ["_law_script", "_law_k"] ["_law_script", "_law_k"] (defScope s_l_cell_at) := ⟨rfl, rfl, rfl, by decide +kernel, rfl, by decide +kernel, by decide +kernel⟩
theorem sc_l_well : FnScope ["_law_cell"] ["_law_cell"] (defScope s_l_well) := ⟨rfl, rfl, rfl, by decide +kernel, rfl, by decide +kernel, by decide +kernel⟩
theorem sc_l_draw : FnScope ["_law_well_here", "_law_many", "_law_salt", "_law_number_here", "_law_found"] ["_law_well_here", "_law_many"] (defScope s_l_draw) := ⟨rfl, rfl, rfl, by decide +kernel, rfl, by decide +kernel, by decide +kernel⟩
theorem sc_l_pick : FnScope ["_law_well_here", "_law_some"] ["_law_well_here", "_law_some"] (defScope s_l_pick) := ⟨rfl, rfl, rfl, by decide +kernel, rfl, by decide +kernel, by decide +kernel⟩
theorem sc_l_text : FnScope ["_law_well_here", "_law_many", "_law_text_here", "_law_at", "_law_odd", "_law_k"] ["_law_well_here"] (defScope s_l_text) := ⟨rfl, rfl, rfl, by decide +kernel, rfl, by decide +kernel, by decide +kernel⟩
theorem sc_l_number : FnScope ["_law_well_here", "_law_far", "_law_number_here"] ["_law_well_here"] (defScope s_l_number) := ⟨rfl, rfl, rfl, by decide +kernel, rfl, by decide +kernel, by decide +kernel⟩
theorem sc_l_is_name : FnScope ["_law_item", "_law_sign"] ["_law_item"] (defScope s_l_is_name) := ⟨rfl, rfl, rfl, by decide +kernel, rfl, by decide +kernel, by decide +kernel⟩
theorem sc_l_is_whole : FnScope ["_law_item", "_law_low", "_law_high"] ["_law_item", "_law_low", "_law_high"] (defScope s_l_is_whole) := ⟨rfl, rfl, rfl, by decide +kernel, rfl, by decide +kernel, by decide +kernel⟩
theorem sc_law : FnScope ["_law_script", "_law_cell", "_law_well_here", "_law_text_here", "_law_number_here", "_law_odd", "_law_item", "_law_low", "_law_high", "_law_told", "_law_due"] ["_law_script"] (defScope s_law) := ⟨rfl, rfl, rfl, by decide +kernel, rfl, by decide +kernel, by decide +kernel⟩
structure Top (K : PySem.W.Frag) (mg : Str → Option Value) : Prop where
  d_is_name : GB.Tp K mg "is_name" s_is_name [] []
  d_is_whole : GB.Tp K mg "is_whole" s_is_whole [] []
  d_is_number : GB.Tp K mg "is_number" s_is_number [] []
  d_l_cell_at : GB.Tp K mg "_law_cell_at" s_l_cell_at [] []
  d_l_well : GB.Tp K mg "_law_well" s_l_well [] []
  d_l_draw : GB.Tp K mg "_law_draw" s_l_draw [] []
  d_l_pick : GB.Tp K mg "_law_pick" s_l_pick [] []
  d_l_text : GB.Tp K mg "_law_text" s_l_text [] []
  d_l_number : GB.Tp K mg "_law_number" s_l_number [] []
  d_l_is_name : GB.Tp K mg "_law_is_name" s_l_is_name [] []
  d_l_is_whole : GB.Tp K mg "_law_is_whole" s_l_is_whole [] []
  d_law : GB.Tp K mg "law" s_law [] []
  m_all : mg "all" = none
  m_bool : mg "bool" = none
  m_int : mg "int" = none
  m_isinstance : mg "isinstance" = none
  m_len : mg "len" = none
  m_range : mg "range" = none
  m_repr : mg "repr" = none
  m_str : mg "str" = none
  c_LETTERS : ∃ t, mg "LETTERS" = some (.str "abcdefghijklmnopqrstuvwxyz" t)
  c_LONGEST : ∃ t, mg "LONGEST" = some (.int 8 t)
def fn : List He.DefD := [⟨("is_name", none), "is_name", "is_name", defArgs s_is_name, defBody s_is_name, defScope s_is_name, [], []⟩,
  ⟨("is_whole", none), "is_whole", "is_whole", defArgs s_is_whole, defBody s_is_whole, defScope s_is_whole, [], []⟩,
  ⟨("is_number", none), "is_number", "is_number", defArgs s_is_number, defBody s_is_number, defScope s_is_number, [], []⟩,
  ⟨("_law_cell_at", none), "_law_cell_at", "_law_cell_at", defArgs s_l_cell_at, defBody s_l_cell_at, defScope s_l_cell_at, [], []⟩,
  ⟨("_law_well", none), "_law_well", "_law_well", defArgs s_l_well, defBody s_l_well, defScope s_l_well, [], []⟩,
  ⟨("_law_draw", none), "_law_draw", "_law_draw", defArgs s_l_draw, defBody s_l_draw, defScope s_l_draw, [], []⟩,
  ⟨("_law_pick", none), "_law_pick", "_law_pick", defArgs s_l_pick, defBody s_l_pick, defScope s_l_pick, [], []⟩,
  ⟨("_law_text", none), "_law_text", "_law_text", defArgs s_l_text, defBody s_l_text, defScope s_l_text, [], []⟩,
  ⟨("_law_number", none), "_law_number", "_law_number", defArgs s_l_number, defBody s_l_number, defScope s_l_number, [], []⟩,
  ⟨("_law_is_name", none), "_law_is_name", "_law_is_name", defArgs s_l_is_name, defBody s_l_is_name, defScope s_l_is_name, [], []⟩,
  ⟨("_law_is_whole", none), "_law_is_whole", "_law_is_whole", defArgs s_l_is_whole, defBody s_l_is_whole, defScope s_l_is_whole, [], []⟩,
  ⟨("law", none), "law", "law", defArgs s_law, defBody s_law, defScope s_law, [], []⟩]
def fa : List He.Fa := [.glo "is_name", .glo "is_whole", .glo "is_number", .glo "_law_cell_at", .glo "_law_well", .glo "_law_draw", .glo "_law_pick", .glo "_law_text", .glo "_law_number", .glo "_law_is_name", .glo "_law_is_whole", .glo "law", .free "all", .free "bool", .free "int", .free "isinstance", .free "len", .free "range", .free "repr", .free "str", .str "LETTERS" "abcdefghijklmnopqrstuvwxyz", .int "LONGEST" 8]
theorem top_of {K : PySem.W.Frag} {h : Heap} {mg : Str → Option Value} (X : K.In h) (G : h.Ns mainGlobals mg) (c : He.SaysD fa fn K) : Top K mg :=
  ⟨⟨c.def_ 0 rfl, He.glo_ok X G (c.fact 0 (f := .glo "is_name") rfl)⟩,
  ⟨c.def_ 1 rfl, He.glo_ok X G (c.fact 1 (f := .glo "is_whole") rfl)⟩,
  ⟨c.def_ 2 rfl, He.glo_ok X G (c.fact 2 (f := .glo "is_number") rfl)⟩,
  ⟨c.def_ 3 rfl, He.glo_ok X G (c.fact 3 (f := .glo "_law_cell_at") rfl)⟩,
  ⟨c.def_ 4 rfl, He.glo_ok X G (c.fact 4 (f := .glo "_law_well") rfl)⟩,
  ⟨c.def_ 5 rfl, He.glo_ok X G (c.fact 5 (f := .glo "_law_draw") rfl)⟩,
  ⟨c.def_ 6 rfl, He.glo_ok X G (c.fact 6 (f := .glo "_law_pick") rfl)⟩,
  ⟨c.def_ 7 rfl, He.glo_ok X G (c.fact 7 (f := .glo "_law_text") rfl)⟩,
  ⟨c.def_ 8 rfl, He.glo_ok X G (c.fact 8 (f := .glo "_law_number") rfl)⟩,
  ⟨c.def_ 9 rfl, He.glo_ok X G (c.fact 9 (f := .glo "_law_is_name") rfl)⟩,
  ⟨c.def_ 10 rfl, He.glo_ok X G (c.fact 10 (f := .glo "_law_is_whole") rfl)⟩,
  ⟨c.def_ 11 rfl, He.glo_ok X G (c.fact 11 (f := .glo "law") rfl)⟩,
  He.free_ok X G (c.fact 12 (f := .free "all") rfl),
  He.free_ok X G (c.fact 13 (f := .free "bool") rfl),
  He.free_ok X G (c.fact 14 (f := .free "int") rfl),
  He.free_ok X G (c.fact 15 (f := .free "isinstance") rfl),
  He.free_ok X G (c.fact 16 (f := .free "len") rfl),
  He.free_ok X G (c.fact 17 (f := .free "range") rfl),
  He.free_ok X G (c.fact 18 (f := .free "repr") rfl),
  He.free_ok X G (c.fact 19 (f := .free "str") rfl),
  He.str_ok X G (c.fact 20 (f := .str "LETTERS" "abcdefghijklmnopqrstuvwxyz") rfl),
  He.int_ok X G (c.fact 21 (f := .int "LONGEST" 8) rfl)⟩
section
variable {P : Program} {w : World} {K : PySem.W.Frag} {mg : Str → Option Value} {base : Heap}
/-! ### the wells -/
def spCell (K : PySem.W.Frag) : Sp := fun vs H Q _ => ∃ (a : Addr) (ns : List Int), vs = [.ref a, .int 0] ∧ SqL K H a (ns.map V.int) ∧ ∀ n, Q (.int n) H
theorem ok_cell (T : Top K mg) : GB.Cal P w K mg base CX0 1 "_law_cell_at" ["_law_script", "_law_k"] (spCell K) := by
  refine T.d_l_cell_at.cal0 sc_l_cell_at (fun _ _ _ _ _ _ us hl => match us, hl with | [_, _], _ => rfl) (fun vs H Q E h => ?_) (fun cdv A outer s H vs Q E hr hG h => ?_)
  · obtain ⟨a, ns, rfl, _⟩ := h
    rfl
  · obtain ⟨a, ns, rfl, hS, q⟩ := h
    refine ⟨_, (pss_cons (ps_if (pt_cmpR op_lt (pv 1) (pe_callB GB.call_lenQ (by rfl) T.m_len (by decide +kernel) (pa_cons (pv 0) pa_nil)) (nomark _)) (pss_one (ps_ret (pe_ix ix_list (pv 0) (pv 1) (fun _ _ => rfl)))) pss_nil)
      (pss_one (ps_ret pe_int))), ?_⟩
    show (_ : TS) _ [some (.ref a), some (.int 0)] _
    walk_at "st"
    walk_at "r"
    refine GB.v_lenL hS ?_
    walk_at "r"
    refine GB.ite_dec (fun h => ?_) (fun h => ?_)
    · walk_at "r"
      cases ns with
      | nil => exact absurd h (by simp)
      | cons n r => exact GB.v_ixL hS (atI_nat (j := 0) rfl) (q n)
    · walk_at "r"
      exact q 0
def spWell : Sp := fun vs H Q _ => ∃ n : Int, vs = [.int n] ∧ ∀ H' p, Same H H' → H p = none → GB.Wl H' p 0 → Q (.ref p) H'
theorem ok_well (T : Top K mg) : GB.Cal P w K mg base CX0 1 "_law_well" ["_law_cell"] spWell := by
  refine T.d_l_well.cal0 sc_l_well (fun _ _ _ _ _ _ us hl => match us, hl with | [_], _ => rfl) (fun vs H Q E h => ?_) (fun cdv A outer s H vs Q E hr hG h => ?_)
  · obtain ⟨a, rfl, _⟩ := h
    rfl
  · obtain ⟨n, rfl, q⟩ := h
    refine ⟨_, (pss_one (ps_ret (pe_lst (pa_cons (pe_ix ix_list (pe_lst (pa_cons pe_int (pa_cons (pv 0) pa_nil))) (pe_callTy GB.call_intQ (by rfl) T.m_int (by decide +kernel) (pa_cons (pe_cmpR op_ge (pv 0) (pe_op op_pow pe_int pe_int) (nomark _)) pa_nil)) (fun _ _ => rfl)) (pa_cons (pv 0) (pa_cons pe_int pa_nil)))))), ?_⟩
    show (_ : TS) _ [some (.int n)] _
    walk_at "st"
    walk_at "r"
    refine GB.r_alloc (by simp) fun p H1 hp e1 => ?_
    have hp1 : H1 p = some (HO.lst [V.int 0, V.int n]) := by
      rw [e1]
      exact upd_same
    walk_at "r"
    have e : ∃ v : Int, atI [V.int 0, V.int n] (if decide (10 ^ (18 : Int).toNat ≤ n) = true then 1 else 0) = some (V.int v) := by
      by_cases h : 10 ^ (18 : Int).toNat ≤ n
      · rw [if_pos (decide_eq_true h)]
        exact ⟨n, rfl⟩
      · rw [if_neg (by rw [decide_eq_true_eq]; exact h)]
        exact ⟨0, rfl⟩
    obtain ⟨v, e⟩ := e
    refine GB.v_ixL (GB.sqL hp1) e ?_
    walk_at "r"
    refine GB.r_alloc (by simp) fun p2 H2 hp2 e2 => ?_
    have s1 : Same H H1 := by
      rw [e1]
      exact GB.same_new hp
    have s2 : Same H1 H2 := by
      rw [e2]
      exact GB.same_new hp2
    refine q _ p2 (s1.trans s2) (s1.free hp2) ⟨v, n, 0, ?_, by decide, by decide⟩
    rw [e2]
    exact upd_same
def spDraw : Sp := fun vs H Q _ => ∃ (w : Addr) (m : Int) (n : Nat), vs = [.ref w, .int m] ∧ GB.Wl H w n ∧ n ≤ 100000000 ∧ 0 < m ∧ m.natAbs.log2 < 9000 ∧
  ∀ H' r, 0 ≤ r → r < m → GB.Ext w H H' → GB.Wl H' w (n + 1) → Q (.int r) H'
theorem ok_draw (T : Top K mg) : GB.Cal P w K mg base CX0 1 "_law_draw" ["_law_well_here", "_law_many"] spDraw := by
  refine T.d_l_draw.cal0 sc_l_draw (fun _ _ _ _ _ _ us hl => match us, hl with | [_, _], _ => rfl) (fun vs H Q E h => ?_) (fun cdv A outer s H vs Q E hr hG h => ?_)
  · obtain ⟨_, _, _, rfl, _⟩ := h
    rfl
  · obtain ⟨w, m, n, rfl, ⟨a, b, c, hw, h0, hn⟩, hn2, hm, hml, q⟩ := h
    refine ⟨_, (pss_cons (ps_if (pt_cmpR op_gt (pe_ix ix_list (pv 0) pe_int (fun _ _ => rfl)) pe_int (nomark _)) (pss_cons (ps_set (i := 4) sc_l_draw.nd rfl (by first | exact Or.inl rfl | exact Or.inr rfl) (pe_op op_mod (pe_ix ix_list (pv 0) pe_int (fun _ _ => rfl)) (pv 1)))
        (pss_cons (ps_asg (pe_op op_fdivW (pe_ix ix_list (pv 0) pe_int (fun _ _ => rfl)) (pv 1)) (pg_sub (pv 0) pe_int set_list))
        (pss_one (ps_ret (pv 4))))) pss_nil)
      (pss_cons (ps_asg (pe_op op_add (pe_ix ix_list (pv 0) pe_int (fun _ _ => rfl)) pe_int) (pg_sub (pv 0) pe_int set_list))
      (pss_cons (ps_set (i := 2) sc_l_draw.nd rfl (by first | exact Or.inl rfl | exact Or.inr rfl) (pe_op op_mod (pe_op op_fdivW (pe_ix ix_list (pv 0) pe_int (fun _ _ => rfl)) pe_int) pe_int))
      (pss_cons (ps_set (i := 3) sc_l_draw.nd rfl (by first | exact Or.inl rfl | exact Or.inr rfl) (pe_op op_mod (pe_op op_pow (pe_op op_add (pe_op op_add (pe_op op_add (pe_op op_mod (pe_ix ix_list (pv 0) pe_int (fun _ _ => rfl)) pe_int) (pe_op op_mul pe_int (pe_ix ix_list (pv 0) pe_int (fun _ _ => rfl)))) (pv 2)) pe_int) pe_int) pe_int))
      (pss_cons (ps_set (i := 3) sc_l_draw.nd rfl (by first | exact Or.inl rfl | exact Or.inr rfl) (pe_op op_mod (pe_op op_mul (pv 3) (pe_op op_add (pe_op op_add (pe_op op_fdiv (pv 3) pe_int) pe_int) (pe_ix ix_list (pv 0) pe_int (fun _ _ => rfl)))) pe_int))
      (pss_one (ps_ret (pe_op op_mod (pe_op op_mod (pe_op op_mul (pv 3) (pe_op op_add (pe_op op_fdiv (pv 3) pe_int) pe_int)) pe_int) (pv 1))))))))), ?_⟩
    show (_ : TS) _ [some (.ref w), some (.int m), none, none, none] _
    walk_at "st"
    walk_at "r"
    refine GB.ite_dec (fun h => ?_) (fun h => ?_)
    · walk_at "r"
      exact q _ _ (Int.emod_nonneg _ (by omega)) (Int.emod_lt_of_pos _ hm) GB.Ext.put ⟨_, b, c, upd_same, h0, by omega⟩
    · walk_at "r"
      have hw2 : (upd H w (HO.lst [V.int a, V.int b, V.int (c + 1)])) w = some (HO.lst [V.int a, V.int b, V.int (c + 1)]) := upd_same
      walk_at "r"
      exact q _ _ (Int.emod_nonneg _ (by omega)) (Int.emod_lt_of_pos _ hm) GB.Ext.put ⟨_, b, c + 1, upd_same, by omega, by omega⟩
def spPick (K : PySem.W.Frag) : Sp := fun vs H Q _ => ∃ (w l : Addr) (xs : List V) (n : Nat), vs = [.ref w, .ref l] ∧ GB.Wl H w n ∧ n ≤ 100000000 ∧ H l = some (.lst xs) ∧ l ≠ w ∧ xs ≠ [] ∧ xs.length ≤ 1000 ∧
  ∀ H' x, x ∈ xs → GB.Ext w H H' → GB.Wl H' w (n + 1) → Q x H'
theorem ok_pick (T : Top K mg) : GB.Cal P w K mg base CX0 2 "_law_pick" ["_law_well_here", "_law_some"] (spPick K) := by
  have c_l_draw := ok_draw (P := P) (w := w) (base := base) T
  refine T.d_l_pick.cal0 sc_l_pick (fun _ _ _ _ _ _ us hl => match us, hl with | [_, _], _ => rfl) (fun vs H Q E h => ?_) (fun cdv A outer s H vs Q E hr hG h => ?_)
  · obtain ⟨_, _, _, _, rfl, _⟩ := h
    rfl
  · obtain ⟨w, l, xs, n, rfl, hw, hn, hl, hne, hx, hxl, q⟩ := h
    refine ⟨_, (pss_one (ps_ret (pe_ix ix_list (pv 1) (GB.pe_cal c_l_draw hr hG (by rfl) pass0 (pa_cons (pv 0) (pa_cons (pe_callB GB.call_lenQ (by rfl) T.m_len (by decide +kernel) (pa_cons (pv 1) pa_nil)) pa_nil))) (fun _ _ => rfl)))), ?_⟩
    show (_ : TS) _ [some (.ref w), some (.ref l)] _
    walk_at "st"
    walk_at "r"
    have hpos : 0 < xs.length := List.length_pos_iff.mpr hx
    refine ⟨w, _, n, rfl, hw, hn, by omega, ?_, fun H' r h0 h1 e hw' => ?_⟩
    · exact GB.log_small (by omega)
    · obtain ⟨j, rfl⟩ := Int.eq_ofNat_of_zero_le h0
      have hj : j < xs.length := by omega
      refine GB.v_ixL (GB.sqL (e _ _ hne hl)) (atI_nat (j := j) (List.getElem?_eq_getElem hj)) ?_
      exact q _ _ (List.getElem_mem hj) e hw'
def spNumber : Sp := fun vs H Q _ => ∃ (w : Addr) (n : Nat), vs = [.ref w] ∧ GB.Wl H w n ∧ n ≤ 10000000 ∧
  ∀ H' r, r.natAbs < 10 ^ 61 → GB.Ext w H H' → GB.Wl H' w (n + 10) → Q (.int r) H'
theorem ok_number (T : Top K mg) : GB.Cal P w K mg base CX0 3 "_law_number" ["_law_well_here"] spNumber := by
  have c_l_draw := (ok_draw (P := P) (w := w) (base := base) T).mono (k := 2) (by decide)
  have c_l_pick := ok_pick (P := P) (w := w) (base := base) T
  refine T.d_l_number.cal0 sc_l_number (fun _ _ _ _ _ _ us hl => match us, hl with | [_], _ => rfl) (fun vs H Q E h => ?_) (fun cdv A outer s H vs Q E hr hG h => ?_)
  · obtain ⟨_, _, rfl, _⟩ := h
    rfl
  · obtain ⟨w, n, rfl, hw, hn, q⟩ := h
    refine ⟨_, (pss_cons (ps_set (i := 1) sc_l_number.nd rfl (by first | exact Or.inl rfl | exact Or.inr rfl) (GB.pe_cal c_l_pick hr hG (by rfl) pass0 (pa_cons (pv 0) (pa_cons (pe_lst (pa_cons (pe_op op_pow pe_int pe_int) (pa_cons (pe_op op_pow pe_int pe_int) (pa_cons (pe_op op_pow pe_int pe_int) (pa_cons pe_int pa_nil))))) pa_nil))))
      (pss_cons (ps_set (i := 2) sc_l_number.nd rfl (by first | exact Or.inl rfl | exact Or.inr rfl) (GB.pe_cal c_l_pick hr hG (by rfl) pass0 (pa_cons (pv 0) (pa_cons (pe_lst (pa_cons (pe_op op_sub (pv 1) pe_int) (pa_cons (pv 1) (pa_cons (pe_op op_add (pv 1) pe_int) (pa_cons (GB.pe_cal c_l_draw hr hG (by rfl) pass0 (pa_cons (pv 0) (pa_cons (pv 1) pa_nil))) (pa_cons pe_int (pa_cons pe_int pa_nil))))))) pa_nil))))
      (pss_one (ps_ret (pe_ix ix_list (pe_lst (pa_cons (pv 2) (pa_cons (pe_op op_sub pe_int (pv 2)) pa_nil))) (GB.pe_cal c_l_draw hr hG (by rfl) pass0 (pa_cons (pv 0) (pa_cons pe_int pa_nil))) (fun _ _ => rfl)))))), ?_⟩
    show (_ : TS) _ [some (.ref w), none, none] _
    walk_at "st"
    have h0 := GB.Wd.of hw
    walk_at "r"
    refine GB.r_alloc (by simp) fun p H1 hp e1 => ?_
    have h1 := h0.newE hp e1
    walk_at "r"
    refine ⟨w, p, _, n, rfl, h1.wl, by omega, h1.at 0 rfl, h1.ne 0 rfl, by simp, by simp, fun H2 x hx e hw2 => ?_⟩
    have h2 := h1.go e hw2
    obtain ⟨far, rfl, hf1, hf2⟩ : ∃ far : Int, x = .int far ∧ 30 ≤ far ∧ far ≤ 10 ^ 60 := by
      simp only [List.mem_cons, List.mem_nil_iff, or_false] at hx
      rcases hx with rfl | rfl | rfl | rfl
      · exact ⟨_, rfl, by decide, by decide⟩
      · exact ⟨_, rfl, by decide, by decide⟩
      · exact ⟨_, rfl, by decide, by decide⟩
      · exact ⟨_, rfl, by decide, by decide⟩
    clear hx
    walk_at "r"
    refine ⟨w, far, n + 1, rfl, h2.wl, by omega, by omega, GB.log_lt (k := 200) (by omega) (by decide) (by decide), fun H3 r hr0 hr1 e hw3 => ?_⟩
    have h3 := h2.go e hw3
    walk_at "r"
    refine GB.r_alloc (by simp) fun p4 H4 hp4 e4 => ?_
    have h4 := h3.newE hp4 e4
    walk_at "r"
    refine ⟨w, p4, _, n + 2, rfl, h4.wl, by omega, h4.at 0 rfl, h4.ne 0 rfl, by simp, by simp, fun H5 x hx e hw5 => ?_⟩
    have h5 := h4.go e hw5
    obtain ⟨v, rfl, hv⟩ : ∃ v : Int, x = .int v ∧ v.natAbs < 10 ^ 61 := by
      simp only [List.mem_cons, List.mem_nil_iff, or_false] at hx
      rcases hx with rfl | rfl | rfl | rfl | rfl | rfl
      · exact ⟨_, rfl, by omega⟩
      · exact ⟨_, rfl, by omega⟩
      · exact ⟨_, rfl, by omega⟩
      · exact ⟨_, rfl, by omega⟩
      · exact ⟨_, rfl, by decide⟩
      · exact ⟨_, rfl, by decide⟩
    clear hx
    walk_at "r"
    refine GB.r_alloc (by simp) fun p6 H6 hp6 e6 => ?_
    have h6 := h5.newE hp6 e6
    walk_at "r"
    refine ⟨w, 2, n + 3, rfl, h6.wl, by omega, by omega, by decide, fun H7 r hr0 hr1 e hw7 => ?_⟩
    have h7 := h6.go e hw7
    have e2 : ∃ z : Int, atI [V.int v, V.int (0 - v)] r = some (.int z) ∧ z.natAbs < 10 ^ 61 := by
      rcases (by omega : r = 0 ∨ r = 1) with rfl | rfl
      · exact ⟨v, rfl, hv⟩
      · exact ⟨0 - v, rfl, by omega⟩
    obtain ⟨z, ez, hz⟩ := e2
    refine GB.v_ixL (GB.sqL (h7.at 0 rfl)) ez ?_
    exact q _ _ hz h7.ext (h7.wl.mono (by omega))
def spText : Sp := fun vs H Q _ => ∃ (w : Addr) (n : Nat), vs = [.ref w] ∧ GB.Wl H w n ∧ n ≤ 10000000 ∧
  ∀ H' (z : Str), z.length ≤ 30 → GB.okS z → GB.Ext w H H' → GB.Wl H' w (n + 30) → Q (.str z) H'
theorem ok_text (T : Top K mg) : GB.Cal P w K mg base CX0 3 "_law_text" ["_law_well_here"] spText := by
  have c_l_draw := (ok_draw (P := P) (w := w) (base := base) T).mono (k := 2) (by decide)
  have c_l_pick := ok_pick (P := P) (w := w) (base := base) T
  refine T.d_l_text.cal0 sc_l_text (fun _ _ _ _ _ _ us hl => match us, hl with | [_], _ => rfl) (fun vs H Q E h => ?_) (fun cdv A outer s H vs Q E hr hG h => ?_)
  · obtain ⟨_, _, rfl, _⟩ := h
    rfl
  · obtain ⟨w, n, rfl, hw, hn, q⟩ := h
    refine ⟨_, (pss_cons (ps_set (i := 1) sc_l_text.nd rfl (by first | exact Or.inl rfl | exact Or.inr rfl) (GB.pe_cal c_l_pick hr hG (by rfl) pass0 (pa_cons (pv 0) (pa_cons (pe_lst (pa_cons pe_int (pa_cons pe_int (pa_cons pe_int (pa_cons pe_int (pa_cons (GB.pe_cal c_l_draw hr hG (by rfl) pass0 (pa_cons (pv 0) (pa_cons pe_int pa_nil))) pa_nil)))))) pa_nil))))
      (pss_cons (ps_set (i := 2) sc_l_text.nd rfl (by first | exact Or.inl rfl | exact Or.inr rfl) (GB.pe_joinQ pe_str (pe_lc (own := [("_law_k", 5)]) (g := gName 5) rfl sc_l_text.nd (pi_range1 (by rfl) T.m_range (pa_cons (pv 1) pa_nil)) (blkOk_by (N := ["_law_well_here", "_law_many", "_law_text_here", "_law_at", "_law_odd", "_law_k"]) (sc := defScope s_l_text) (by decide +kernel)) (fun _ _ _ _ _ => (pg_name (i := 5) sc_l_text.nd rfl (by first | exact Or.inl rfl | exact Or.inr rfl))) (fun _ _ _ _ _ => pts_nil) (fun _ _ _ _ _ => (pe_ix ix_str pe_str (GB.pe_cal c_l_draw hr hG (by rfl) pass0 (pa_cons (pv 0) (pa_cons pe_int pa_nil))) (fun _ _ => rfl))))))
      (pss_cons (ps_if (pt_cmpR op_eq (GB.pe_cal c_l_draw hr hG (by rfl) pass0 (pa_cons (pv 0) (pa_cons pe_int pa_nil))) pe_int (nomark _)) (pss_cons (ps_set (i := 3) sc_l_text.nd rfl (by first | exact Or.inl rfl | exact Or.inr rfl) (GB.pe_cal c_l_draw hr hG (by rfl) pass0 (pa_cons (pv 0) (pa_cons (pe_op op_add (pe_callB GB.call_lenS (by rfl) T.m_len (by decide +kernel) (pa_cons (pv 2) pa_nil)) pe_int) pa_nil))))
        (pss_cons (ps_set (i := 4) sc_l_text.nd rfl (by first | exact Or.inl rfl | exact Or.inr rfl) pe_str)
        (pss_one (ps_set (i := 2) sc_l_text.nd rfl (by first | exact Or.inl rfl | exact Or.inr rfl) (pe_op GB.op_addS (pe_op GB.op_addS (pe_slice sl_str (pv 2) po_none (po_some (pv 3))) (pe_ix ix_str (pv 4) (GB.pe_cal c_l_draw hr hG (by rfl) pass0 (pa_cons (pv 0) (pa_cons (pe_callB GB.call_lenS (by rfl) T.m_len (by decide +kernel) (pa_cons (pv 4) pa_nil)) pa_nil))) (fun _ _ => rfl))) (pe_slice sl_str (pv 2) (po_some (pe_op op_add (pv 3) (GB.pe_cal c_l_draw hr hG (by rfl) pass0 (pa_cons (pv 0) (pa_cons pe_int pa_nil))))) po_none)))))) pss_nil)
      (pss_one (ps_ret (pv 2)))))), ?_⟩
    show (_ : TS) _ [some (.ref w), none, none, none, none, none] _
    walk_at "st"
    have h0 := GB.Wd.of hw
    walk_at "r"
    refine ⟨w, 11, n, rfl, h0.wl, by omega, by decide, by decide, fun H1 r1 ha hb e hw1 => ?_⟩
    have h1 := h0.go e hw1
    walk_at "r"
    refine GB.r_alloc (by simp) fun p2 H2 hp2 e2 => ?_
    have h2 := h1.newE hp2 e2
    walk_at "r"
    refine ⟨w, p2, _, n + 1, rfl, h2.wl, by omega, h2.at 0 rfl, h2.ne 0 rfl, by simp, by simp, fun H3 x hx e hw3 => ?_⟩
    have h3 := h2.go e hw3
    obtain ⟨m, rfl, hm⟩ : ∃ m : Nat, x = .int m ∧ m ≤ 10 := by
      simp only [List.mem_cons, List.mem_nil_iff, or_false] at hx
      rcases hx with rfl | rfl | rfl | rfl | rfl
      · exact ⟨0, rfl, by omega⟩
      · exact ⟨1, rfl, by omega⟩
      · exact ⟨8, rfl, by omega⟩
      · exact ⟨9, rfl, by omega⟩
      · exact ⟨r1.toNat, by rw [Int.toNat_of_nonneg ha], by omega⟩
    clear hx
    walk_at "r"
    refine GB.r_rng (by omega) fun D hD => ?_
    refine lc_range (lo := 0) (n := (m : Int).toNat) (fun i H4 => ∃ ys : List Str, GB.Wd H H4 w (n + 2 + i) [(D, .lst (ys.map V.str))] ∧ ys.length = i ∧ ∀ y ∈ ys, y.length = 1 ∧ GB.okS y) ⟨[], ⟨?_, ?_, ?_, ?_⟩, rfl, fun _ z => (nomatch z)⟩ (fun i H4 hi hP => ?_) (fun H4 hP => ?_)
    · exact h3.wl.new hD
    · exact GB.Has.nil.new hD
    · intro p hp
      cases List.mem_singleton.mp hp
      exact h3.wl.fresh hD
    · exact h3.ext.trans (GB.Ext.new hD)
    · obtain ⟨ys, h4, hl, hy⟩ := hP
      walk_at "r"
      refine ⟨rfl, ?_⟩
      walk_at "r"
      refine iteT ?_
      walk_at "r"
      refine ⟨w, 26, n + 2 + i, rfl, h4.wl, by omega, by decide, by decide, fun H5 r ha hb e hw5 => ?_⟩
      have h5 := h4.go e hw5
      obtain ⟨c, hcm, hc⟩ := GB.atI_str (z := "abcdefghijklmnopqrstuvwxyz") ha hb
      refine GB.v_ixS (by decide) hc ?_
      refine GB.r_acc (h5.at 0 rfl) (by rw [List.length_map]; omega) ?_
      refine ⟨ys ++ [⟨#[c]⟩], ?_, by rw [List.length_append, hl]; rfl, fun y hy' => ?_⟩
      · have h6 := h5.put (o' := .lst (ys.map V.str ++ [V.str ⟨#[c]⟩])) 0 rfl (h3.fr hD)
        rw [List.map_append]
        exact h6
      · rcases List.mem_append.mp hy' with h | h
        · exact hy y h
        · cases List.mem_singleton.mp h
          exact ⟨rfl, GB.ok_one (GB.ok_lit _ c hcm)⟩
    · obtain ⟨ys, h4, hl, hy⟩ := hP
      have hsum := GB.sum_ones fun y h => (hy y h).1
      have hok := GB.ok_join fun y h => (hy y h).2
      walk_at "r"
      refine GB.v_joinL (GB.sqL (h4.at 0 rfl)) (by rw [hsum, hl]; show _ + _ * 0 ≤ _; omega) ?_
      have hz : (Txt.join "" ys).length ≤ 10 := by
        rw [GB.join_len, hsum, hl]
        omega
      generalize Txt.join "" ys = z at hz hok
      walk_at "r"
      refine ⟨w, 3, _, rfl, h4.wl, by omega, by decide, by decide, fun H5 r ha hb e hw5 => ?_⟩
      have h5 := h4.go e hw5
      walk_at "r"
      refine GB.ite_dec (fun hc => ?_) (fun hc => ?_)
      · walk_at "r"
        refine ⟨w, _, _, rfl, h5.wl, by omega, by omega, GB.log_lt (k := 20) (by omega) (by decide) (by decide), fun H6 r6 ha6 hb6 e6 hw6 => ?_⟩
        have h6 := h5.go e6 hw6
        walk_at "r"
        refine ⟨w, _, _, rfl, h6.wl, by omega, by decide, by decide, fun H7 r7 ha7 hb7 e7 hw7 => ?_⟩
        have h7 := h6.go e7 hw7
        obtain ⟨c, hcm, hc⟩ := GB.atI_str ha7 hb7
        refine GB.v_ixS (by decide) hc ?_
        have hk := GB.cut_len z none (some r6)
        refine GB.v_addS (by show _ + 1 ≤ _; omega) ?_
        walk_at "r"
        refine ⟨w, _, _, rfl, h7.wl, by omega, by decide, by decide, fun H8 r8 ha8 hb8 e8 hw8 => ?_⟩
        have h8 := h7.go e8 hw8
        walk_at "r"
        have hk2 := GB.cut_len z (some (r6 + r8)) none
        have hk3 : (cutS z none (some r6) ++ (⟨#[c]⟩ : Str)).length ≤ 11 := by
          rw [GB.add_len]
          show _ + 1 ≤ _
          omega
        refine GB.v_addS (by omega) ?_
        walk_at "r"
        exact q _ _ (by rw [GB.add_len]; omega) (GB.ok_add (GB.ok_add (GB.ok_cut hok _ _) (GB.ok_one (GB.ok_lit _ c hcm))) (GB.ok_cut hok _ _)) h8.ext (h8.wl.mono (by omega))
      · walk_at "r"
        exact q _ _ (by omega) hok h5.ext (h5.wl.mono (by omega))
end
end K01
namespace K01
open PySem PySem.Spec PyProof.Rows L2
section
variable {P : Program} {w : World} {K : PySem.W.Frag} {mg : Str → Option Value} {base : Heap}
/-! ### names and numbers -/
def isS : V → Bool
  | .str _ => true
  | _ => false
def isI : V → Bool
  | .int _ => true
  | .bl _ => true
  | _ => false
def isB : V → Bool
  | .bl _ => true
  | _ => false
/-- a thing that may be asked of -/
def Item (K : PySem.W.Frag) (H : Hp) (v : V) : Prop := ∃ t, TyX K H v t ∧ PySem.W.kitOne K t (.type "str") = some (isS v) ∧ PySem.W.kitOne K t (.type "int") = some (isI v) ∧ PySem.W.kitOne K t (.type "bool") = some (isB v) ∧ ∀ z, v = .str z → z.length ≤ 2000 ∧ GB.okS z
def letters : Str := "abcdefghijklmnopqrstuvwxyz"
def nameB : V → Bool
  | .str z => decide (1 ≤ z.length) && decide (z.length ≤ 8) && z.cps.toList.all fun c => decide (c ∈ letters.cps.toList)
  | _ => false
def wholeB (lo hi : Int) : V → Bool
  | .int i => decide (lo ≤ i) && decide (i ≤ hi)
  | _ => false
theorem isS_str : ∀ {v : V}, isS v = true → ∃ z, v = .str z
  | .str z, _ => ⟨z, rfl⟩
theorem nameB_no : ∀ {v : V}, isS v = false → nameB v = false
  | .non, _ => rfl
  | .bl _, _ => rfl
  | .int _, _ => rfl
  | .byt _, _ => rfl
  | .flt _, _ => rfl
  | .ref _, _ => rfl
  | .ty _, _ => rfl
theorem whole_int : ∀ {v : V}, isI v = true → isB v = false → ∃ i, v = .int i
  | .int i, _, _ => ⟨i, rfl⟩
theorem wholeB_no {lo hi : Int} : ∀ {v : V}, isI v = false ∨ isB v = true → wholeB lo hi v = false
  | .non, _ => rfl
  | .bl _, _ => rfl
  | .int _, h => by rcases h with h | h <;> cases h
  | .str _, _ => rfl
  | .byt _, _ => rfl
  | .flt _, _ => rfl
  | .ref _, _ => rfl
  | .ty _, _ => rfl
def spName (K : PySem.W.Frag) : Sp := fun vs H Q _ => ∃ v, vs = [v] ∧ Item K H v ∧ ∀ H', Same H H' → Q (.bl (nameB v)) H'
theorem ok_is_name (T : Top K mg) : GB.Cal P w K mg base CX0 1 "is_name" ["thing"] (spName K) := by
  obtain ⟨t1, hc_LETTERS⟩ := T.c_LETTERS
  obtain ⟨t2, hc_LONGEST⟩ := T.c_LONGEST
  refine T.d_is_name.cal0 sc_is_name (fun _ _ _ _ _ _ us hl => match us, hl with | [_], _ => rfl) (fun vs H Q E h => ?_) (fun cdv A outer s H vs Q E hr hG h => ?_)
  · obtain ⟨_, rfl, _⟩ := h
    rfl
  · obtain ⟨v, rfl, ⟨t, ty, k1, k2, k3, hz⟩, q⟩ := h
    refine ⟨_, (pss_one (ps_ret (pe_and (pe_callB call_isi (by rfl) T.m_isinstance (by decide +kernel) (pa_cons (pv 0) (pa_cons (pe_bltn (v := .ty "str") (by rfl) T.m_str (by decide +kernel) rfl) pa_nil))) (pe_and (pe_chain op_le op_le pe_int (pe_callB GB.call_lenS (by rfl) T.m_len (by decide +kernel) (pa_cons (pv 0) pa_nil)) (pe_glob (v := .int 8) (by rfl) hc_LONGEST ⟨_, rfl⟩)) (pe_one (pe_callB (cr_all rfl) (by rfl) T.m_all (by decide +kernel) (pa_cons (pe_lc (own := [("sign", 1)]) (g := gName 1) rfl sc_is_name.nd (pi_str (pv 0)) (blkOk_by (N := ["thing", "sign"]) (sc := defScope s_is_name) (by decide +kernel)) (fun _ _ _ _ _ => (pg_name (i := 1) sc_is_name.nd rfl (by first | exact Or.inl rfl | exact Or.inr rfl))) (fun _ _ _ _ _ => pts_nil) (fun _ _ _ _ _ => (pe_cmpR GB.op_inC (pv 1) (pe_glob (v := .str "abcdefghijklmnopqrstuvwxyz") (by rfl) hc_LETTERS ⟨_, rfl⟩) (by rfl)))) pa_nil))))))), ?_⟩
    show (_ : TS) _ [some (v), none] _
    walk_at "st"
    walk_at "r"
    refine ⟨v, .ty "str", t, _, _, rfl, ClsV.ty _, ty, k1, ?_⟩
    walk_at "r"
    refine GB.ite_b (fun hs => ?_) (fun hs => ?_)
    · obtain ⟨z, rfl⟩ := isS_str hs
      have hzl := (hz z rfl).1
      walk_at "r"
      have key : nameB (.str z) = (decide ((1 : Int) ≤ z.length) && (decide ((z.length : Int) ≤ 8) && z.cps.toList.all fun c => decide (c ∈ letters.cps.toList))) := by
        show (decide (1 ≤ z.length) && decide (z.length ≤ 8) && _) = _
        rw [Bool.and_assoc]
        congr 1
        · exact decide_eq_decide.mpr (by omega)
        · congr 1
          exact decide_eq_decide.mpr (by omega)
      rw [key] at q
      refine GB.ite_b (fun h1 => ?_) (fun h1 => ?_)
      · walk_at "r"
        rw [h1, Bool.true_and] at q
        refine GB.ite_b (fun h2 => ?_) (fun h2 => ?_)
        · rw [h2, Bool.true_and] at q
          walk_at "r"
          intro D hD
          refine GB.lc_filt (GB.walk_signs z) hD (fun _ _ => trivial) ?_ (fun _ => true) (fun v => .bl (decide (v ∈ GB.signs letters))) ?_ ?_
          · unfold GB.signs
            rw [List.length_map, ← GB.str_len]
            omega
          · intro x hx H' R Ra hS hR hRa
            obtain ⟨c, _, rfl⟩ := List.mem_map.mp hx
            walk_at "r"
            refine ⟨rfl, ?_⟩
            walk_at "r"
            refine iteT ?_
            walk_at "r"
            have e : decide (V.str ⟨#[c]⟩ ∈ GB.signs letters) = decide (c ∈ letters.cps.toList) := GB.mem_signs
            rw [e] at hRa
            exact hRa rfl
          · intro H' hS hD'
            walk_at "r"
            refine ⟨D, z.cps.toList.map fun c => decide (c ∈ letters.cps.toList), rfl, GB.sqL ?_, ?_⟩
            · rw [hD', List.filter_eq_self.mpr (fun _ _ => rfl)]
              unfold GB.signs
              rw [List.map_map, List.map_map]
              congr 2
              apply List.map_congr_left
              intro c _
              exact congrArg V.bl GB.mem_signs
            · have e : (z.cps.toList.map fun c => decide (c ∈ letters.cps.toList)).all id = z.cps.toList.all fun c => decide (c ∈ letters.cps.toList) := by
                rw [List.all_map]
                rfl
              rw [e]
              exact q _ hS
        · rw [h2] at q
          walk_at "r"
          exact q _ (Same.refl _)
      · rw [h1] at q
        walk_at "r"
        exact q _ (Same.refl _)
    · rw [nameB_no hs] at q
      exact q _ (Same.refl _)
def spWhole (K : PySem.W.Frag) : Sp := fun vs H Q _ => ∃ v lo hi, vs = [v, .int lo, .int hi] ∧ Item K H v ∧ Q (.bl (wholeB lo hi v)) H
theorem ok_is_whole (T : Top K mg) : GB.CalF P w K mg base CX0 1 "is_whole" s_is_whole [] ["thing", "least", "most"] (spWhole K) := by
  refine T.d_is_whole.calF0 sc_is_whole (fun vs H Q E h => ?_) (fun cdv A outer s H vs Q E hr hG h => ?_)
  · obtain ⟨_, _, _, rfl, _⟩ := h
    rfl
  · obtain ⟨v, lo, hi, rfl, ⟨t, ty, k1, k2, k3, hz⟩, q⟩ := h
    refine ⟨_, (pss_one (ps_ret (pe_and (pe_callB call_isi (by rfl) T.m_isinstance (by decide +kernel) (pa_cons (pv 0) (pa_cons (pe_bltn (v := .ty "int") (by rfl) T.m_int (by decide +kernel) rfl) pa_nil))) (pe_and (pe_not (pe_callB call_isi (by rfl) T.m_isinstance (by decide +kernel) (pa_cons (pv 0) (pa_cons (pe_bltn (v := .ty "bool") (by rfl) T.m_bool (by decide +kernel) rfl) pa_nil)))) (pe_one (pe_chain op_le op_le (pv 1) (pv 0) (pv 2))))))), ?_⟩
    show (_ : TS) _ [some (v), some (.int lo), some (.int hi)] _
    walk_at "st"
    walk_at "r"
    refine ⟨v, .ty "int", t, _, _, rfl, ClsV.ty _, ty, k2, ?_⟩
    walk_at "r"
    refine GB.ite_b (fun h1 => ?_) (fun h1 => ?_)
    · walk_at "r"
      refine ⟨v, .ty "bool", t, _, _, rfl, ClsV.ty _, ty, k3, ?_⟩
      walk_at "r"
      cases h2 : isB v with
      | true =>
        rw [wholeB_no (.inr h2)] at q
        exact iteF q
      | false =>
        refine iteT ?_
        obtain ⟨i, rfl⟩ := whole_int h1 h2
        walk_at "r"
        have key : wholeB lo hi (.int i) = (decide (lo ≤ i) && decide (i ≤ hi)) := rfl
        rw [key] at q
        refine GB.ite_b (fun h3 => ?_) (fun h3 => ?_)
        · rw [h3] at q
          walk_at "r"
          exact q
        · rw [h3] at q
          exact q
    · rw [wholeB_no (.inl h1)] at q
      exact q
def spNum (K : PySem.W.Frag) : Sp := fun vs H Q _ => ∃ v, vs = [v] ∧ Item K H v ∧ Q (.bl (wholeB (1 - 10 ^ 40) (10 ^ 40 - 1) v)) H
theorem ok_is_number (T : Top K mg) : GB.Cal P w K mg base CX0 2 "is_number" ["thing"] (spNum K) := by
  have k_is_whole := ok_is_whole (P := P) (w := w) (base := base) T
  refine T.d_is_number.cal0 sc_is_number (fun _ _ _ _ _ _ us hl => match us, hl with | [_], _ => rfl) (fun vs H Q E h => ?_) (fun cdv A outer s H vs Q E hr hG h => ?_)
  · obtain ⟨_, rfl, _⟩ := h
    rfl
  · obtain ⟨v, rfl, hI, q⟩ := h
    refine ⟨_, (pss_one (ps_ret (GB.pe_calK k_is_whole hr hG (by rfl) pass0 1 ["least", "most"] [0, 1, 2] (fun _ _ _ _ _ _ us ws h1 h2 => match us, ws, h1, h2 with | [_], [_, _], _, _ => rfl) (pa_cons (pv 0) pa_nil) (pk_cons (pe_op op_sub pe_int (pe_op op_pow pe_int pe_int)) (pk_cons (pe_op op_sub (pe_op op_pow pe_int pe_int) pe_int) pk_nil))))), ?_⟩
    show (_ : TS) _ [some (v)] _
    walk_at "st"
    walk_at "r"
    refine ⟨rfl, rfl, v, _, _, rfl, hI, q⟩
def spNameL (K : PySem.W.Frag) : Sp := spName K
theorem ok_l_is_name (T : Top K mg) : GB.Cal P w K mg base CX0 1 "_law_is_name" ["_law_item"] (spName K) := by
  refine T.d_l_is_name.cal0 sc_l_is_name (fun _ _ _ _ _ _ us hl => match us, hl with | [_], _ => rfl) (fun vs H Q E h => ?_) (fun cdv A outer s H vs Q E hr hG h => ?_)
  · obtain ⟨_, rfl, _⟩ := h
    rfl
  · obtain ⟨v, rfl, ⟨t, ty, k1, k2, k3, hz⟩, q⟩ := h
    refine ⟨_, (pss_cons (ps_if (PW.pt (pw_or (pt_not (pt_val (pe_callB call_isi (by rfl) T.m_isinstance (by decide +kernel) (pa_cons (pv 0) (pa_cons (pe_bltn (v := .ty "str") (by rfl) T.m_str (by decide +kernel) rfl) pa_nil))))) (pw_or1 (pt_not (pt_chain op_le op_le pe_int (pe_callB GB.call_lenS (by rfl) T.m_len (by decide +kernel) (pa_cons (pv 0) pa_nil)) pe_int))))) (pss_one (ps_ret pe_bl)) pss_nil)
      (pss_one (ps_ret (pe_cmpR (op_eqD hr.units) (pe_lc (own := [("_law_sign", 1)]) (g := gName 1) rfl sc_l_is_name.nd (pi_str (pv 0)) (blkOk_by (N := ["_law_item", "_law_sign"]) (sc := defScope s_l_is_name) (by decide +kernel)) (fun _ _ _ _ _ => (pg_name (i := 1) sc_l_is_name.nd rfl (by first | exact Or.inl rfl | exact Or.inr rfl))) (fun _ _ _ _ _ => (pts_one (pt_cmpR GB.op_niC (pv 1) pe_str (by rfl)))) (fun _ _ _ _ _ => (pv 1))) (pe_lst pa_nil) (nomark _))))), ?_⟩
    show (_ : TS) _ [some (v), none] _
    walk_at "st"
    walk_at "r"
    refine ⟨v, .ty "str", t, _, _, rfl, ClsV.ty _, ty, k1, ?_⟩
    walk_at "r"
    cases hs : isS v with
    | false =>
      refine iteT (iteT ?_)
      walk_at "r"
      rw [nameB_no hs] at q
      exact q _ (Same.refl _)
    | true =>
      refine iteF ?_
      obtain ⟨z, rfl⟩ := isS_str hs
      have hzl := (hz z rfl).1
      have hzo := (hz z rfl).2
      walk_at "r"
      have key : nameB (.str z) = (decide ((1 : Int) ≤ z.length) && (decide ((z.length : Int) ≤ 8) && z.cps.toList.all fun c => decide (c ∈ letters.cps.toList))) := by
        show (decide (1 ≤ z.length) && decide (z.length ≤ 8) && _) = _
        rw [Bool.and_assoc]
        congr 1
        · exact decide_eq_decide.mpr (by omega)
        · congr 1
          exact decide_eq_decide.mpr (by omega)
      rw [key] at q
      refine GB.ite_b (fun h1 => ?_) (fun h1 => ?_)
      · walk_at "r"
        rw [h1, Bool.true_and] at q
        cases h2 : decide ((z.length : Int) ≤ 8) with
        | true =>
          rw [h2, Bool.true_and] at q
          refine iteF ?_
          walk_at "r"
          intro D hD
          refine GB.lc_filt (GB.walk_signs z) hD (fun _ _ => trivial) ?_ (fun v => !decide (v ∈ GB.signs letters)) id ?_ ?_
          · unfold GB.signs
            rw [List.length_map, ← GB.str_len]
            omega
          · intro x hx H' R Ra hS hR hRa
            obtain ⟨c, _, rfl⟩ := List.mem_map.mp hx
            walk_at "r"
            refine ⟨rfl, ?_⟩
            walk_at "r"
            have e : decide (V.str ⟨#[c]⟩ ∈ GB.signs letters) = decide (c ∈ letters.cps.toList) := GB.mem_signs
            rw [e] at hRa hR
            refine GB.ite_b (fun h => ?_) (fun h => ?_)
            · walk_at "r"
              exact hRa h
            · exact hR h
          · intro H' hS hD'
            walk_at "r"
            refine GB.r_alloc (by simp) fun p2 H2 hp2 e2 => ?_
            have hD2 : H2 D = some (.lst (((z.cps.toList.filter fun c => !decide (c ∈ letters.cps.toList)).map fun c => (⟨#[c]⟩ : Str)).map V.str)) := by
              rw [e2, upd_ne (ne_of_none hD' hp2), hD', List.map_id]
              unfold GB.signs
              rw [List.filter_map, List.map_map]
              congr 3
              apply List.filter_congr
              intro c _
              exact congrArg (!·) GB.mem_signs
            have hp3 : H2 p2 = some (.lst []) := by
              rw [e2]
              exact upd_same
            refine GB.v_eqD (.lst (GB.sqL hD2) (GB.dp_strs _)) (.lst (GB.sqL hp3) .nil) (GB.shaped_strs ?_) (by decide +kernel) ?_
            · intro y hy
              obtain ⟨c, hc, rfl⟩ := List.mem_map.mp hy
              exact GB.ok_one (hzo c (List.mem_filter.mp hc).1)
            · have e : PyData.eqv (.list (((z.cps.toList.filter fun c => !decide (c ∈ letters.cps.toList)).map fun c => (⟨#[c]⟩ : Str)).map PyData.str)) (.list []) = z.cps.toList.all fun c => decide (c ∈ letters.cps.toList) := by
                rw [GB.eqv_nil, List.isEmpty_map, List.isEmpty_map, GB.filter_not_empty]
              rw [e]
              exact q _ (hS.trans (by rw [e2]; exact GB.same_new hp2))
        | false =>
          rw [h2] at q
          refine iteT ?_
          walk_at "r"
          exact q _ (Same.refl _)
      · rw [h1] at q
        walk_at "r"
        exact q _ (Same.refl _)
theorem ok_l_is_whole (T : Top K mg) : GB.Cal P w K mg base CX0 1 "_law_is_whole" ["_law_item", "_law_low", "_law_high"] (spWhole K) := by
  refine T.d_l_is_whole.cal0 sc_l_is_whole (fun _ _ _ _ _ _ us hl => match us, hl with | [_, _, _], _ => rfl) (fun vs H Q E h => ?_) (fun cdv A outer s H vs Q E hr hG h => ?_)
  · obtain ⟨_, _, _, rfl, _⟩ := h
    rfl
  · obtain ⟨v, lo, hi, rfl, ⟨t, ty, k1, k2, k3, hz⟩, q⟩ := h
    refine ⟨_, (pss_one (ps_ret (pe_and (pe_callB call_isi (by rfl) T.m_isinstance (by decide +kernel) (pa_cons (pv 0) (pa_cons (pe_bltn (v := .ty "int") (by rfl) T.m_int (by decide +kernel) rfl) pa_nil))) (pe_and (pe_not (pe_callB call_isi (by rfl) T.m_isinstance (by decide +kernel) (pa_cons (pv 0) (pa_cons (pe_bltn (v := .ty "bool") (by rfl) T.m_bool (by decide +kernel) rfl) pa_nil)))) (pe_one (pe_chain op_le op_le (pv 1) (pv 0) (pv 2))))))), ?_⟩
    show (_ : TS) _ [some (v), some (.int lo), some (.int hi)] _
    walk_at "st"
    walk_at "r"
    refine ⟨v, .ty "int", t, _, _, rfl, ClsV.ty _, ty, k2, ?_⟩
    walk_at "r"
    refine GB.ite_b (fun h1 => ?_) (fun h1 => ?_)
    · walk_at "r"
      refine ⟨v, .ty "bool", t, _, _, rfl, ClsV.ty _, ty, k3, ?_⟩
      walk_at "r"
      cases h2 : isB v with
      | true =>
        rw [wholeB_no (.inr h2)] at q
        exact iteF q
      | false =>
        refine iteT ?_
        obtain ⟨i, rfl⟩ := whole_int h1 h2
        walk_at "r"
        have key : wholeB lo hi (.int i) = (decide (lo ≤ i) && decide (i ≤ hi)) := rfl
        rw [key] at q
        refine GB.ite_b (fun h3 => ?_) (fun h3 => ?_)
        · rw [h3] at q
          walk_at "r"
          exact q
        · rw [h3] at q
          exact q
    · rw [wholeB_no (.inl h1)] at q
      exact q
end
end K01
namespace K01
open PySem PySem.Spec PyProof.Rows L2
section
variable {P : Program} {w : World} {K : PySem.W.Frag} {mg : Str → Option Value} {base : Heap}
theorem Item.ext {H H' : Hp} {v : V} {w : Addr} (h : Item K H v) (e : GB.Ext w H H') (n : v ≠ .ref w) : Item K H' v := by
  obtain ⟨t, ty, r⟩ := h
  exact ⟨t, GB.ty_ext ty e n, r⟩
theorem item_non {H : Hp} : Item K H .non := ⟨_, .base .non, kit_ty (show kitB "NoneType" "str" = some false from by decide +kernel), kit_ty (show kitB "NoneType" "int" = some false from by decide +kernel), kit_ty (show kitB "NoneType" "bool" = some false from by decide +kernel), fun _ h => (nomatch h)⟩
theorem item_bl {H : Hp} (b : Bool) : Item K H (.bl b) := ⟨_, .base (.bl b), kit_ty (show kitB "bool" "str" = some false from by decide +kernel), kit_ty (show kitB "bool" "int" = some true from by decide +kernel), kit_ty (show kitB "bool" "bool" = some true from by decide +kernel), fun _ h => (nomatch h)⟩
theorem item_int {H : Hp} (i : Int) : Item K H (.int i) := ⟨_, .base (.int i), kit_ty (show kitB "int" "str" = some false from by decide +kernel), kit_ty (show kitB "int" "int" = some true from by decide +kernel), kit_ty (show kitB "int" "bool" = some false from by decide +kernel), fun _ h => (nomatch h)⟩
theorem item_str {H : Hp} {z : Str} (h1 : z.length ≤ 2000) (h2 : GB.okS z) : Item K H (.str z) := ⟨_, .base (.str z), kit_ty (show kitB "str" "str" = some true from by decide +kernel), kit_ty (show kitB "str" "int" = some false from by decide +kernel), kit_ty (show kitB "str" "bool" = some false from by decide +kernel), fun _ h => by
  cases h
  exact ⟨h1, h2⟩⟩
theorem item_lst {H : Hp} {a : Addr} {xs : List V} (h : H a = some (.lst xs)) : Item K H (.ref a) := ⟨_, .base (.lst h), kit_ty (show kitB "list" "str" = some false from by decide +kernel), kit_ty (show kitB "list" "int" = some false from by decide +kernel), kit_ty (show kitB "list" "bool" = some false from by decide +kernel), fun _ h => (nomatch h)⟩
theorem item_tup {H : Hp} {a : Addr} {xs : List V} (h : H a = some (.tup xs)) : Item K H (.ref a) := ⟨_, .base (.tup h), kit_ty (show kitB "tuple" "str" = some false from by decide +kernel), kit_ty (show kitB "tuple" "int" = some false from by decide +kernel), kit_ty (show kitB "tuple" "bool" = some false from by decide +kernel), fun _ h => (nomatch h)⟩
theorem item_dK {H : Hp} {a : Addr} {kvs : List (Key × V)} (h : H a = some (.dK kvs)) : Item K H (.ref a) := ⟨_, .base (.dK h), kit_ty (show kitB "dict" "str" = some false from by decide +kernel), kit_ty (show kitB "dict" "int" = some false from by decide +kernel), kit_ty (show kitB "dict" "bool" = some false from by decide +kernel), fun _ h => (nomatch h)⟩
def spLaw (K : PySem.W.Frag) : Sp := fun vs H Q _ => ∃ (a : Addr) (ns : List Int), vs = [.ref a] ∧ ns.length ≤ 63 ∧ SqL K H a (ns.map V.int) ∧ ∀ H', Q (.bl true) H'
theorem cut_ints (ns : List Int) (lo hi : Option Int) : ∃ ms : List Int, cutV (ns.map V.int) lo hi = ms.map V.int ∧ ms.length ≤ ns.length := by
  refine ⟨(ns.drop (HT.sIx (ns.map V.int).length 0 lo)).take (HT.sIx (ns.map V.int).length (ns.map V.int).length hi - HT.sIx (ns.map V.int).length 0 lo), ?_, ?_⟩
  · unfold cutV
    rw [List.map_take, List.map_drop]
  · rw [List.length_take, List.length_drop]
    omega
theorem fn_law {fd : FuncData} (T : Top K mg) (F : FunD K "law" "law" (defArgs s_law) (defBody s_law) (defScope s_law) [] [] (He.ga K "law") fd) : GB.Fn P w K mg base CX0 4 (He.ga K "law") fd ["_law_script"] (spLaw K) := by
  have c_l_cell_at := (ok_cell (P := P) (w := w) (base := base) T).mono (k := 3) (by decide)
  have c_l_well := (ok_well (P := P) (w := w) (base := base) T).mono (k := 3) (by decide)
  have c_l_text := (ok_text (P := P) (w := w) (base := base) T).mono (k := 3) (by decide)
  have c_l_number := (ok_number (P := P) (w := w) (base := base) T).mono (k := 3) (by decide)
  have c_l_pick := (ok_pick (P := P) (w := w) (base := base) T).mono (k := 3) (by decide)
  have c_is_name := (ok_is_name (P := P) (w := w) (base := base) T).mono (k := 3) (by decide)
  have c_is_number := (ok_is_number (P := P) (w := w) (base := base) T).mono (k := 3) (by decide)
  have k_is_whole := (ok_is_whole (P := P) (w := w) (base := base) T).mono (k := 3) (by decide)
  have c_l_is_name := (ok_l_is_name (P := P) (w := w) (base := base) T).mono (k := 3) (by decide)
  have c_l_is_whole := (ok_l_is_whole (P := P) (w := w) (base := base) T).mono (k := 3) (by decide)
  refine GB.fnG F sc_law (fun vs H Q E h => ?_) (fun cdv A outer s H vs Q E hr hG h => ?_)
  · obtain ⟨_, _, rfl, _⟩ := h
    rfl
  · obtain ⟨a, ns, rfl, hns, hS, q⟩ := h
    refine ⟨_, PSs.nox (pss_cons (ps_for PassesOwn.never rfl (pi_list (pe_op op_cat (pe_lst (pa_cons (GB.pe_cal c_l_cell_at hr hG (by rfl) pass0 (pa_cons (pv 0) (pa_cons pe_int pa_nil))) pa_nil)) (pe_slice sl_list (pv 0) (po_some pe_int) (po_some pe_int)))) (pg_name (i := 1) sc_law.nd rfl (by first | exact Or.inl rfl | exact Or.inr rfl)) (pss_cons (ps_set (i := 2) sc_law.nd rfl (by first | exact Or.inl rfl | exact Or.inr rfl) (GB.pe_cal c_l_well hr hG (by rfl) pass0 (pa_cons (pv 1) pa_nil)))
        (pss_cons (ps_set (i := 3) sc_law.nd rfl (by first | exact Or.inl rfl | exact Or.inr rfl) (GB.pe_cal c_l_text hr hG (by rfl) pass0 (pa_cons (pv 2) pa_nil)))
        (pss_cons (ps_set (i := 4) sc_law.nd rfl (by first | exact Or.inl rfl | exact Or.inr rfl) (GB.pe_cal c_l_number hr hG (by rfl) pass0 (pa_cons (pv 2) pa_nil)))
        (pss_cons (ps_set (i := 5) sc_law.nd rfl (by first | exact Or.inl rfl | exact Or.inr rfl) (pe_lst (pa_cons pe_non (pa_cons pe_bl (pa_cons pe_bl (pa_cons (pe_lst (pa_cons (pv 3) pa_nil)) (pa_cons (pe_tup (pa_cons (pv 3) pa_nil)) (pa_cons (pe_tup pa_nil) (pa_cons (pe_lst pa_nil) (pa_cons pe_dnewK (pa_cons (pe_callTy GB.call_strI (by rfl) T.m_str (by decide +kernel) (pa_cons (pv 4) pa_nil)) (pa_cons (pe_tup (pa_cons (pv 4) pa_nil)) (pa_cons (pe_lst (pa_cons (pv 4) pa_nil)) pa_nil)))))))))))))
        (pss_one (ps_for PassesOwn.never rfl (pi_list (pe_lst (pa_cons (pv 3) (pa_cons (pv 4) (pa_cons (GB.pe_cal c_l_pick hr hG (by rfl) pass0 (pa_cons (pv 2) (pa_cons (pv 5) pa_nil))) (pa_cons (GB.pe_cal c_l_pick hr hG (by rfl) pass0 (pa_cons (pv 2) (pa_cons (pv 5) pa_nil))) pa_nil)))))) (pg_name (i := 6) sc_law.nd rfl (by first | exact Or.inl rfl | exact Or.inr rfl)) (pss_cons (ps_set (i := 7) sc_law.nd rfl (by first | exact Or.inl rfl | exact Or.inr rfl) (GB.pe_cal c_l_pick hr hG (by rfl) pass0 (pa_cons (pv 2) (pa_cons (pe_lst (pa_cons pe_int (pa_cons (pv 4) (pa_cons (pe_op op_add (pv 4) pe_int) (pa_cons (pe_un un_neg pe_int) (pa_cons (GB.pe_cal c_l_number hr hG (by rfl) pass0 (pa_cons (pv 2) pa_nil)) pa_nil)))))) pa_nil))))
          (pss_cons (ps_set (i := 8) sc_law.nd rfl (by first | exact Or.inl rfl | exact Or.inr rfl) (GB.pe_cal c_l_pick hr hG (by rfl) pass0 (pa_cons (pv 2) (pa_cons (pe_lst (pa_cons (pv 4) (pa_cons (pe_op op_sub (pv 4) pe_int) (pa_cons (pv 7) (pa_cons pe_int (pa_cons (GB.pe_cal c_l_number hr hG (by rfl) pass0 (pa_cons (pv 2) pa_nil)) pa_nil)))))) pa_nil))))
          (pss_cons (ps_set (i := 9) sc_law.nd rfl (by first | exact Or.inl rfl | exact Or.inr rfl) (pe_lst (pa_cons (GB.pe_cal c_is_name hr hG (by rfl) pass0 (pa_cons (pv 6) pa_nil)) (pa_cons (GB.pe_cal c_is_number hr hG (by rfl) pass0 (pa_cons (pv 6) pa_nil)) (pa_cons (GB.pe_calK k_is_whole hr hG (by rfl) pass0 1 ["least", "most"] [0, 1, 2] (fun _ _ _ _ _ _ us ws h1 h2 => match us, ws, h1, h2 with | [_], [_, _], _, _ => rfl) (pa_cons (pv 6) pa_nil) (pk_cons (pv 7) (pk_cons (pv 8) pk_nil))) pa_nil)))))
          (pss_cons (ps_expr (pe_bm PySem.F.plainAttrs_list PySem.F.slot_list_append PySem.F.type_list_append mt_append (pv 9) (pa_cons (GB.pe_calK0 k_is_whole hr hG (by rfl) pass0 ["most", "thing", "least"] [1, 2, 0] (fun _ _ _ _ _ _ us ws h1 h2 => match us, ws, h1, h2 with | [], [_, _, _], _, _ => rfl) (pk_cons (pv 8) (pk_cons (pv 6) (pk_cons (pv 7) pk_nil)))) pa_nil)))
          (pss_cons (ps_set (i := 10) sc_law.nd rfl (by first | exact Or.inl rfl | exact Or.inr rfl) (pe_lst (pa_cons (GB.pe_cal c_l_is_name hr hG (by rfl) pass0 (pa_cons (pv 6) pa_nil)) (pa_cons (GB.pe_cal c_l_is_whole hr hG (by rfl) pass0 (pa_cons (pv 6) (pa_cons (pe_op op_sub pe_int (pe_op op_pow pe_int pe_int)) (pa_cons (pe_op op_sub (pe_op op_pow pe_int pe_int) pe_int) pa_nil)))) pa_nil))))
          (pss_cons (ps_set (i := 10) sc_law.nd rfl (by first | exact Or.inl rfl | exact Or.inr rfl) (pe_op op_cat (pv 10) (pe_op op_rep (pe_lst (pa_cons (GB.pe_cal c_l_is_whole hr hG (by rfl) pass0 (pa_cons (pv 6) (pa_cons (pv 7) (pa_cons (pv 8) pa_nil)))) pa_nil)) pe_int)))
          (pss_one (ps_if (pt_cmpR op_ne (pe_callB (GB.call_repr hG hr.units) (by rfl) T.m_repr (by decide +kernel) (pa_cons (pv 9) pa_nil)) (pe_callB (GB.call_repr hG hr.units) (by rfl) T.m_repr (by decide +kernel) (pa_cons (pv 10) pa_nil)) (nomark _)) (pss_one (ps_ret pe_bl)) pss_nil)))))))))))))))
      (pss_one (ps_ret pe_bl))), ?_⟩
    show (_ : TS) _ [some (.ref a), none, none, none, none, none, none, none, none, none, none] _
    walk_at "st"
    walk_at "r"
    refine ⟨a, ns, rfl, hS, fun n0 => ?_⟩
    walk_at "r"
    refine GB.r_alloc (by simp) fun p1 H1 q1 e1 => ?_
    have s1 : Same H H1 := by
      rw [e1]
      exact GB.same_new q1
    have a1 : H1 p1 = some (.lst [.int n0]) := by
      rw [e1]
      exact upd_same
    walk_at "r"
    refine GB.v_slL (s1.seq hS) fun p2 H2 q2 e2 => ?_
    obtain ⟨ms, ems, hms⟩ := cut_ints ns (some 1) (some 12)
    rw [ems] at e2
    have a2 : H2 p1 = some (.lst [.int n0]) := by
      rw [e2]
      exact GB.same_new q2 _ _ a1
    have b2 : H2 p2 = some (.lst (ms.map V.int)) := by
      rw [e2]
      exact upd_same
    refine GB.v_cat a2 b2 (by simp; omega) fun p3 H3 q3 e3 => ?_
    have a3 : H3 p3 = some (.lst ((n0 :: ms).map V.int)) := by
      rw [e3]
      exact upd_same
    clear e3 e2 e1 a1 a2 b2 q1 q2 q3
    walk_at "r"
    refine for_it (walk_list (xs := (n0 :: ms).map V.int)) (fun i σ' H' => ∃ y1 y2 y3 y4 y5 y6 y7 y8 y9 y10 : Option V, σ' = [some (.ref a), y1, y2, y3, y4, y5, y6, y7, y8, y9, y10] ∧ H' p3 = some (.lst ((n0 :: ms).map V.int)))
      ⟨none, none, none, none, none, none, none, none, none, none, rfl, a3⟩ (fun i σ' H' _ h => ?_) (fun i x σ' H' H'' hi hP hY => ?_) (fun σ' H' hP => ?_)
    · obtain ⟨_, _, _, _, _, _, _, _, _, _, _, h⟩ := h
      exact GB.sqL h
    · obtain ⟨y1, y2, y3, y4, y5, y6, y7, y8, y9, y10, rfl, h3⟩ := hP
      obtain ⟨rfl, hx⟩ := hY
      obtain ⟨cell, _, rfl⟩ := List.mem_map.mp (List.mem_of_getElem? hx)
      walk_at "r"
      refine ⟨cell, rfl, fun H4 wa s4 f4 w4 => ?_⟩
      have k4 : GB.Wd H4 H4 wa 0 [(p3, .lst ((n0 :: ms).map V.int))] := (GB.Wd.of w4).add (s4 _ _ h3) (ne_of_none h3 f4) (fun _ z => (nomatch z))
      walk_at "r"
      refine ⟨wa, 0, rfl, k4.wl, by omega, fun H5 z hz hzo x5 w5 => ?_⟩
      have k5 := k4.go x5 w5
      walk_at "r"
      refine ⟨wa, _, rfl, k5.wl, by omega, fun H6 n hn x6 w6 => ?_⟩
      have k6 := k5.go x6 w6
      walk_at "r"
      refine GB.r_alloc (by simp) fun b1 G1 f1 e1 => ?_
      have g1 := k6.newE f1 e1
      walk_at "r"
      refine GB.r_alloc (by simp) fun b2 G2 f2 e2 => ?_
      have g2 := g1.newE f2 e2
      walk_at "r"
      refine GB.r_alloc (by simp) fun b3 G3 f3 e3 => ?_
      have g3 := g2.newE f3 e3
      walk_at "r"
      refine GB.r_alloc (by simp) fun b4 G4 f4 e4 => ?_
      have g4 := g3.newE f4 e4
      walk_at "r"
      intro b5 G5 f5 e5
      have g5 := g4.newE f5 e5
      walk_at "r"
      have hlog : n.natAbs.log2 < 1920 := Nat.lt_of_lt_of_le (PySem.Flt.log2_lt_of (by decide : 0 < 250) (Nat.lt_trans hn (by decide))) (by decide)
      refine GB.v_strI hlog ?_
      walk_at "r"
      refine GB.r_alloc (by simp) fun b6 G6 f6 e6 => ?_
      have g6 := g5.newE f6 e6
      walk_at "r"
      refine GB.r_alloc (by simp) fun b7 G7 f7 e7 => ?_
      have g7 := g6.newE f7 e7
      walk_at "r"
      refine GB.r_alloc (by simp) fun b8 G8 f8 e8 => ?_
      have g8 := g7.newE f8 e8
      clear e1 e2 e3 e4 e5 e6 e7 e8
      have odd : ∀ (G : Hp), GB.Ext wa G8 G → ∀ x ∈ [V.non, V.bl true, V.bl false, V.ref b1, V.ref b2, V.ref b3, V.ref b4, V.ref b5, V.str (Str.ofString (toString n)), V.ref b6, V.ref b7], Item K G x ∧ x ≠ .ref wa := by
        intro G e x hx
        have rne : ∀ {b : Addr}, b ≠ wa → V.ref b ≠ .ref wa := fun h z => h (V.ref.inj z)
        have sne : V.ref wa ≠ V.ref wa → False := fun h => h rfl
        simp only [List.mem_cons, List.mem_nil_iff, or_false] at hx
        rcases hx with rfl | rfl | rfl | rfl | rfl | rfl | rfl | rfl | rfl | rfl | rfl
        · exact ⟨item_non, fun z => nomatch z⟩
        · exact ⟨item_bl _, fun z => nomatch z⟩
        · exact ⟨item_bl _, fun z => nomatch z⟩
        · exact ⟨item_lst (e _ _ (g8.ne 7 rfl) (g8.at 7 rfl)), rne (g8.ne 7 rfl)⟩
        · exact ⟨item_tup (e _ _ (g8.ne 6 rfl) (g8.at 6 rfl)), rne (g8.ne 6 rfl)⟩
        · exact ⟨item_tup (e _ _ (g8.ne 5 rfl) (g8.at 5 rfl)), rne (g8.ne 5 rfl)⟩
        · exact ⟨item_lst (e _ _ (g8.ne 4 rfl) (g8.at 4 rfl)), rne (g8.ne 4 rfl)⟩
        · exact ⟨item_dK (e _ _ (g8.ne 3 rfl) (g8.at 3 rfl)), rne (g8.ne 3 rfl)⟩
        · exact ⟨item_str (Nat.le_trans (int_text_len_1921 hlog) (by decide)) (GB.ok_lit _), fun z => nomatch z⟩
        · exact ⟨item_tup (e _ _ (g8.ne 2 rfl) (g8.at 2 rfl)), rne (g8.ne 2 rfl)⟩
        · exact ⟨item_lst (e _ _ (g8.ne 1 rfl) (g8.at 1 rfl)), rne (g8.ne 1 rfl)⟩
      walk_at "r"
      refine ⟨wa, b8, _, _, rfl, g8.wl, by omega, g8.at 0 rfl, g8.ne 0 rfl, by simp, by simp, fun G9 x3 hx3 e9 w9 => ?_⟩
      have g9 := g8.go e9 w9
      walk_at "r"
      refine ⟨wa, b8, _, _, rfl, g9.wl, by omega, g9.at 0 rfl, g9.ne 0 rfl, by simp, by simp, fun G10 x4 hx4 e10 w10 => ?_⟩
      have g10 := g9.go e10 w10
      walk_at "r"
      refine GB.r_alloc (by simp) fun b9 G11 f11 e11 => ?_
      have g11 := g10.newE f11 e11
      have x11 : GB.Ext wa G8 G11 := (e9.trans e10).trans (by rw [e11]; exact GB.Ext.new f11)
      have items : ∀ x ∈ [V.str z, V.int n, x3, x4], Item K G11 x ∧ x ≠ .ref wa := by
        intro x hx
        simp only [List.mem_cons, List.mem_nil_iff, or_false] at hx
        rcases hx with rfl | rfl | rfl | rfl
        · exact ⟨item_str (by omega) hzo, fun z => nomatch z⟩
        · exact ⟨item_int _, fun z => nomatch z⟩
        · exact odd _ x11 _ hx3
        · exact odd _ x11 _ hx4
      clear odd hx3 hx4 e9 e10 e11
      walk_at "r"
      have start : GB.Wd G11 G11 wa (0 + 30 + 10 + 1 + 1) [(b9, .lst [V.str z, V.int n, x3, x4]), (p3, .lst ((n0 :: ms).map V.int))] :=
        ((GB.Wd.of g11.wl).add (g11.at 9 rfl) (g11.ne 9 rfl) (fun _ z => (nomatch z))).add (g11.at 0 rfl) (g11.ne 0 rfl) (fun p hp => by
          cases List.mem_singleton.mp hp
          exact g11.has.ne 9 0 (by decide) rfl rfl)
      refine for_it (walk_list (xs := [V.str z, V.int n, x3, x4])) (fun i σ' H' => ∃ y6 y7 y8 y9 y10 : Option V, σ' = [some (.ref a), some (.int cell), some (.ref wa), some (.str z), some (.int n), some (.ref b8), y6, y7, y8, y9, y10] ∧
          GB.Wd G11 H' wa (42 + 30 * i) [(b9, .lst [V.str z, V.int n, x3, x4]), (p3, .lst ((n0 :: ms).map V.int))])
        ⟨_, _, _, _, _, rfl, start⟩ (fun i σ' H' _ h => ?_) (fun i x σ' H' H'' hi hP hY => ?_) (fun σ' H' hP => ?_)
      · obtain ⟨_, _, _, _, _, _, h⟩ := h
        exact GB.sqL (h.at 0 rfl)
      · obtain ⟨z6, z7, z8, z9, z10, rfl, k0⟩ := hP
        obtain ⟨rfl, hx⟩ := hY
        have hi4 : i < 4 := hi
        obtain ⟨hI, hxw⟩ := items x (List.mem_of_getElem? hx)
        walk_at "r"
        refine ⟨wa, _, rfl, k0.wl, by omega, fun J1 r1 hr1 j1 v1 => ?_⟩
        have k1 := k0.go j1 v1
        walk_at "r"
        refine GB.r_alloc (by simp) fun c1 J2 f2 e2 => ?_
        have k2 := k1.newE f2 e2
        walk_at "r"
        refine ⟨wa, c1, _, _, rfl, k2.wl, by omega, k2.at 0 rfl, k2.ne 0 rfl, by simp, by simp, fun J3 lo hlo j3 v3 => ?_⟩
        have k3 := k2.go j3 v3
        obtain ⟨lo, rfl⟩ : ∃ i : Int, lo = .int i := by
          simp only [List.mem_cons, List.mem_nil_iff, or_false] at hlo
          rcases hlo with rfl | rfl | rfl | rfl | rfl <;> exact ⟨_, rfl⟩
        walk_at "r"
        refine ⟨wa, _, rfl, k3.wl, by omega, fun J4 r4 hr4 j4 v4 => ?_⟩
        have k4 := k3.go j4 v4
        walk_at "r"
        refine GB.r_alloc (by simp) fun c5 J5 f5 e5 => ?_
        have k5 := k4.newE f5 e5
        walk_at "r"
        refine ⟨wa, c5, _, _, rfl, k5.wl, by omega, k5.at 0 rfl, k5.ne 0 rfl, by simp, by simp, fun J6 hi hhi j6 v6 => ?_⟩
        have k6 := k5.go j6 v6
        obtain ⟨hi, rfl⟩ : ∃ i : Int, hi = .int i := by
          simp only [List.mem_cons, List.mem_nil_iff, or_false] at hhi
          rcases hhi with rfl | rfl | rfl | rfl | rfl <;> exact ⟨_, rfl⟩
        clear hlo hhi
        walk_at "r"
        refine ⟨x, rfl, hI.ext k6.ext hxw, fun J7 s7 => ?_⟩
        have k7 := k6.same s7
        walk_at "r"
        refine ⟨x, rfl, hI.ext k7.ext hxw, ?_⟩
        walk_at "r"
        refine ⟨rfl, rfl, x, lo, hi, rfl, hI.ext k7.ext hxw, ?_⟩
        walk_at "r"
        refine GB.r_alloc (by simp) fun c8 J8 f8 e8 => ?_
        have k8 := k7.newE f8 e8
        walk_at "r"
        refine ⟨rfl, rfl, x, lo, hi, rfl, hI.ext k8.ext hxw, ?_⟩
        walk_at "r"
        have k9 := k8.put (o' := .lst ([V.bl (nameB x), V.bl (wholeB (1 - 10 ^ 40) (10 ^ 40 - 1) x), V.bl (wholeB lo hi x)] ++ [V.bl (wholeB lo hi x)])) 0 rfl (k7.fr f8)
        generalize upd J8 c8 (.lst ([V.bl (nameB x), V.bl (wholeB (1 - 10 ^ 40) (10 ^ 40 - 1) x), V.bl (wholeB lo hi x)] ++ [V.bl (wholeB lo hi x)])) = J9 at k9
        walk_at "r"
        refine ⟨x, rfl, hI.ext k9.ext hxw, fun J10 s10 => ?_⟩
        have k10 := k9.same s10
        walk_at "r"
        refine ⟨x, _, _, rfl, hI.ext k10.ext hxw, ?_⟩
        walk_at "r"
        refine GB.r_alloc (by simp) fun c11 J11 f11 e11 => ?_
        have k11 := k10.newE f11 e11
        walk_at "r"
        refine ⟨x, lo, hi, rfl, hI.ext k11.ext hxw, ?_⟩
        walk_at "r"
        refine GB.r_alloc (by simp) fun c12 J12 f12 e12 => ?_
        have k12 := k11.newE f12 e12
        walk_at "r"
        refine GB.v_rep (k12.at 0 rfl) ⟨by decide, by decide⟩ (by simp) fun c13 J13 f13 e13 => ?_
        have k13 := k12.newE f13 e13
        refine GB.v_cat (k13.at 2 rfl) (k13.at 0 rfl) (by simp) fun c14 J14 f14 e14 => ?_
        have k14 := k13.newE f14 e14
        walk_at "r"
        have d1 : Dp K J14 (.ref c8) (.list [.bool (nameB x), .bool (wholeB (1 - 10 ^ 40) (10 ^ 40 - 1) x), .bool (wholeB lo hi x), .bool (wholeB lo hi x)]) :=
          .lst (GB.sqL (k14.at 4 rfl)) (.cons (.bl _) (.cons (.bl _) (.cons (.bl _) (.cons (.bl _) .nil))))
        have d2 : Dp K J14 (.ref c14) (.list [.bool (nameB x), .bool (wholeB (1 - 10 ^ 40) (10 ^ 40 - 1) x), .bool (wholeB lo hi x), .bool (wholeB lo hi x)]) :=
          .lst (GB.sqL (k14.at 0 rfl)) (.cons (.bl _) (.cons (.bl _) (.cons (.bl _) (.cons (.bl _) .nil))))
        refine ⟨c8, _, rfl, d1, rfl, rfl, by simp [PyData.depth, PyData.depthAll], GB.same_shown _ _ _ _, ?_⟩
        walk_at "r"
        refine ⟨c14, _, rfl, d2, rfl, rfl, by simp [PyData.depth, PyData.depthAll], GB.same_shown _ _ _ _, ?_⟩
        walk_at "r"
        refine GB.ite_nd (fun h => absurd rfl h) (fun _ => ?_)
        walk_at "r"
        exact ⟨_, _, _, _, _, rfl, (k14.drop 7).mono (by omega)⟩
      · obtain ⟨z6, z7, z8, z9, z10, rfl, h⟩ := hP
        exact ⟨_, _, _, _, _, _, _, _, _, _, rfl, h.at 1 rfl⟩
    · obtain ⟨y1, y2, y3, y4, y5, y6, y7, y8, y9, y10, rfl, h3⟩ := hP
      walk_at "r"
      exact q _
theorem law_binds {fd : FuncData} (F : FunD K "law" "law" (defArgs s_law) (defBody s_law) (defScope s_law) [] [] (He.ga K "law") fd) (s : Shared) (v : Value) : BindsTo s fd ⟨[v], []⟩ [("_law_script", v)] :=
  FunD.bindsA (ps := ["_law_script"]) F (fun _ _ _ _ _ _ us hl => match us, hl with | [_], _ => rfl) s [v] rfl
end

abbrev R : PySem.W.OpenRow := PySem.W.OpenLaw.row PySem.Challenge.rw_givenback_k01_names_and_numbers
abbrev hk : PySem.W.Hook := He.hookD 4 fa fn
def ob (s : PySem.W.SharedT) : He.AlD := He.obsDG 4 fa fn (HandSHeadRun.getT s)
theorem ob_eq (s : PySem.W.SharedT) : ob s = hk.obs s.abs := He.obsDG_eq (HandSHeadRun.getT_eq s)
def others : List PySem.Str := ["is_name", "is_whole", "is_number", "_law_cell_at", "_law_well", "_law_draw", "_law_pick", "_law_text", "_law_number", "_law_is_name", "_law_is_whole", "LETTERS", "LONGEST"]
set_option maxHeartbeats 0 in
theorem run (w : World) : HandSHeadRun.RunEq R (PySem.W.view R.prog [15]) hk ob 2000 others w := by
  intro os
  kernel_rfl
end K01
open PySem PySem.W PySem.Calls PyProof.Rows
set_option maxHeartbeats 0 in
theorem PySem.Challenge.cw_givenback_k01_names_and_numbers_holds : PySem.Challenge.rw_givenback_k01_names_and_numbers.Holds := by
  w_on; o_law
  refine HandSHeadRun.head_any (r := OpenLaw.row PySem.Challenge.rw_givenback_k01_names_and_numbers) (q := view (OpenLaw.row PySem.Challenge.rw_givenback_k01_names_and_numbers).prog [15]) (H := K01.hk) (ob := K01.ob) (M := 2000) (loose := K01.others) (d := HandSHeadRun.topDef (OpenLaw.row PySem.Challenge.rw_givenback_k01_names_and_numbers).prog 15) (kwd := []) K01.ob_eq
    (by kernel_rfl) (fun s => by kernel_rfl) K01.run (by kernel_rfl) (by kernel_rfl) (by kernel_rfl) (by rfl) (by first | assumption | decide +kernel) (by decide +kernel) ⟨rfl, rfl, rfl, rfl, rfl, by decide +kernel⟩ ?hw ?hc
  case hw => w_witness2
  case hc =>
    refine GB.walkG (l := PySem.Challenge.rw_givenback_k01_names_and_numbers) (n := 63) (k := 4) (x := "_law_script") (CX := L2.CX0) rfl (by decide) (by kernel_rfl) ⟨rfl, by decide, by decide⟩ ?F (fun _ _ _ _ z => z)
    intro w mg fa h Y G hmg0
    obtain ⟨K, KX, c⟩ := Y
    have hmg : mg ("law" : PySem.Str) = some (.ref fa) := by
      have e : (HandSHeadRun.topDef (OpenLaw.row PySem.Challenge.rw_givenback_k01_names_and_numbers).prog 15).name = ("law" : PySem.Str) := by kernel_rfl
      rw [← e]
      exact hmg0
    have T := K01.top_of KX G c
    have e := hmg.symm.trans T.d_law.gl
    cases e
    obtain ⟨fd, F⟩ := T.d_law.ex
    exact ⟨K, fd, K01.spLaw K, KX, fun s v => K01.law_binds F s v, fun H a ns hl hS => ⟨a, ns, rfl, hl, hS, fun _ => rfl⟩, fun base _ _ => K01.fn_law T F⟩
