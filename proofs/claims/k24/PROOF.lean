import PyProof.Rows.All
import Wide.All
import OpenK.AllK
import Wide.FinOn
import PyProof.EqAt
import PyProof.EqKinds
import PyProof.TupleCall
import KE.KStateDown
import Lean
import HandS.ForMost
import HandS.Exc
import HandS.TryOnly
import HandS.WordsExc
import HandS.More
import HandS.Flow
import HandS.Wide
import HandS.IsInst
import HandS.Defaults
import HandS.RaiseMore
import HandS.Deep
import HandS.Walk
import HandS.TupAny
import HandS.Head0
import HandS.Head1
import HandS.Head2
import HandS.HeadEnd
import HandS.HeadHook1
import HandS.HeadHook2
import HandS.ExcInit
import HandS.ExcField
import HandS.ExcIs
import HandS.TryMany
import HandS.ClsMeth
import HandS.CallLocal
import HandS.HeadHook3
import HandS.SortKw
import HandS.MakeKw
import HandS.MakeKwOnly
import KE.DatumOrd
import KE.KExcInit
import HandS.ExcOwn
import HandS.TupMul
import HandS.FStr
import HandS.SortRule
import HandS.OwnEq
import KE.KCallOwn
import KE.KUnpackStar
import HandS.Zip
import KE.GoesMore
import HandS.Style
import KE.KTryMore
import PyProof.NeKinds
import PyProof.P3Eq
import HandS.Iter
import HandS.Finally
import PyProof.AssignAttr
import KE.KDictWalk
import HandS.Text
import PySem.Challenge.RW_givenback_k24_lasts_failures_and_ends
set_option Elab.async false
set_option linter.all false
set_option maxRecDepth 100000
set_option maxHeartbeats 4000000
namespace GB
open PySem PySem.Spec PyProof.Rows L2
structure Fn (P : Program) (w : World) (K : PySem.W.Frag) (mg : Str → Option Value) (base : Heap) (CX : CXT)
    (k : Nat) (f : Addr) (fd : FuncData) (ps : List Str) (sp : Sp) : Prop where
  len : ∀ vs H Q E, sp vs H Q E → vs.length = ps.length
  go : ∀ (A : Around) (outer : List Env) (s : Shared) (H : Hp) (args : Args) (us : List Value) (vs : List V)
    (Q : VK) (E : XK), Room k A → A.guards = some [] → Env0 P w K mg base A outer s H →
    BindsTo s fd args (ps.zip us) → Vals vs us → sp vs H Q E →
    codeAny (model P w) A (.call (.ref f) args) (CR CX outer P w H s Q E) s
section
variable {P : Program} {w : World} {K : PySem.W.Frag} {mg : Str → Option Value} {base : Heap} {CX : CXT}
  {j k : Nat} {f : Addr} {fd : FuncData} {ps : List Str} {sp sp' : Sp}
theorem Fn.akD (F : FnOk P w K mg base CX k f fd ps sp) : Fn P w K mg base CX k f fd ps sp :=
  ⟨F.len, fun A outer s H args us vs Q E hr _ => F.run A outer s H args us vs Q E hr⟩
theorem Fn.mono (F : Fn P w K mg base CX j f fd ps sp) (h : j ≤ k) : Fn P w K mg base CX k f fd ps sp :=
  ⟨F.len, fun A outer s H args us vs Q E hr => F.go A outer s H args us vs Q E (hr.mono h)⟩
theorem Fn.imp (F : Fn P w K mg base CX k f fd ps sp) (h : ∀ vs H Q E, sp' vs H Q E → sp vs H Q E) :
    Fn P w K mg base CX k f fd ps sp' :=
  ⟨fun vs H Q E q => F.len vs H Q E (h _ _ _ _ q),
    fun A outer s H args us vs Q E hr g he hb hv hs => F.go A outer s H args us vs Q E hr g he hb hv (h _ _ _ _ hs)⟩
end
section
variable {P : Program} {w : World} {K : PySem.W.Frag} {mg : Str → Option Value} {base : Heap} {CX : CXT}
  {x qual : Str} {params : Arguments} {body : List Stmt} {scope : Scope} {dvs : List V} {kws : List (Str × V)}
  {k : Nat} {f : Addr} {fd : FuncData} {N ps : List Str} {sp : Sp}
theorem fnG (F : FunD K x qual params body scope dvs kws f fd) (S : FnScope N ps scope)
    (len : ∀ vs H Q E, sp vs H Q E → vs.length = ps.length)
    (hb : ∀ (cdv : Value) (A : Around) (outer : List Env) (s : Shared) (H : Hp) (vs : List V) (Q : VK) (E : XK),
      Room k (A.deeper (envOfC qual scope s.heap.objs.size f cdv)) → A.guards = some [] → sp vs H Q E →
      ∃ t, PSs (cxOf CX P w K mg base N qual scope f cdv A outer s H E) body t ∧
        t { nx := fun _ H' => Q .non H', rt := Q } (start N vs) H) :
    Fn P w K mg base CX (k + 1) f fd ps sp := by
  obtain ⟨oc, od, dV, kV, doc, pm, an, cdv, ct, osl, rfl, lk, hcd, _, _⟩ := F.ex
  refine ⟨len, ?_⟩
  intro A outer s H args us vs Q E hr hg e0 hbi r hsp
  have kb : ∀ b o, base.get? b = some o → s.heap.get? b = some o := fun b o e => (e0.bs b o e).1
  have X0 : K.In s.heap := e0.mod.kin.keeps kb
  have par : ∀ y ∈ ps.zip us, scope.names.lookup y.1 = some .local ∨
      (scope.names.lookup y.1 = some .cell ∧ ((cellsFrom (s.heap.objs.size + 1) scope.names []).lookup y.1).isSome = true) := by
    rintro ⟨n, v⟩ hy
    cases S.par n (List.of_mem_zip hy).1 with
    | inl q => exact .inl q
    | inr q => exact .inr ⟨q, PySem.W.cellsFrom_some _ _ _ (.inl q)⟩
  refine codeAny_call_function hr.depth (X0 _ _ lk) rfl S.co S.gen rfl (PySem.W.codeRec_of X0 hcd) (hbi _ _ _ _ ?_)
  refine wpAny_newFunctionEnv_cells S.kind par ?_
  rintro env rfl s1 x
  refine ⟨(e0.mod.nolimit.keeps kb).keeps x.toInCall.keep, codeAny_func ?_⟩
  obtain ⟨t, ht, hq⟩ := hb cdv A outer s H vs Q E (hr.deeper _) hg hsp
  refine wpAny_mono (ht.run [] s1 (start N vs) H _ (inv_start S hr.hd e0 (len _ _ _ _ hsp) r x) hq) ?_ (fun _ _ z => z)
  intro fl s' hs
  match fl, hs with
  | .ret u, ⟨v, σ', H', J, rv, q⟩ => exact ⟨v, H', J.os, J.bare, J.base, J.hok, rv, q⟩
  | .next, ⟨σ', H', J, q⟩ => exact ⟨V.non, H', J.os, J.bare, J.base, J.hok, rfl, q⟩
  | .brk, ⟨_, _, _, q⟩ => exact q.elim
  | .cont, ⟨_, _, _, q⟩ => exact q.elim
end
structure Tp (K : PySem.W.Frag) (mg : Str → Option Value) (x : Str) (st : Stmt) (dvs : List V) (kws : List (Str × V)) : Prop where
  ex : ∃ fd, FunD K x x (defArgs st) (defBody st) (defScope st) dvs kws (He.ga K x) fd
  gl : mg x = some (.ref (He.ga K x))
structure Cal (P : Program) (w : World) (K : PySem.W.Frag) (mg : Str → Option Value) (base : Heap) (CX : CXT)
    (k : Nat) (x : Str) (ps : List Str) (sp : Sp) : Prop where
  ex : ∃ fd, Binds K fd ps [] ∧ PySem.W.keepIn K (.ref (He.ga K x)) = true ∧ Fn P w K mg base CX k (He.ga K x) fd ps sp
  gl : mg x = some (.ref (He.ga K x))
section
variable {P : Program} {w : World} {K : PySem.W.Frag} {mg : Str → Option Value} {base : Heap} {CX : CXT}
  {x : Str} {st : Stmt} {kws : List (Str × V)} {j k : Nat} {N ps : List Str} {sp sp' : Sp}
theorem Cal.mono (c : Cal P w K mg base CX j x ps sp) (h : j ≤ k) : Cal P w K mg base CX k x ps sp := by
  obtain ⟨fd, b, kp, F⟩ := c.ex
  exact ⟨⟨fd, b, kp, F.mono h⟩, c.gl⟩
theorem Cal.imp (c : Cal P w K mg base CX k x ps sp) (h : ∀ vs H Q E, sp' vs H Q E → sp vs H Q E) : Cal P w K mg base CX k x ps sp' := by
  obtain ⟨fd, b, kp, F⟩ := c.ex
  exact ⟨⟨fd, b, kp, F.imp h⟩, c.gl⟩
theorem Tp.cal (T : Tp K mg x st [] kws) (S : FnScope N ps (defScope st))
    (hbd : ∀ (kV doc pm : Value) (an : Option Addr) (cdv ct : Value) (us : List Value), us.length = ps.length →
      bindArgs (PySem.W.fnOf x x (defArgs st) (defBody st) (defScope st) .none kV doc pm an cdv ct) ⟨us, []⟩ = pure (ps.zip us))
    (len : ∀ vs H Q E, sp vs H Q E → vs.length = ps.length)
    (hb : ∀ (cdv : Value) (A : Around) (outer : List Env) (s : Shared) (H : Hp) (vs : List V) (Q : VK) (E : XK),
      Room k (A.deeper (envOfC x (defScope st) s.heap.objs.size (He.ga K x) cdv)) → A.guards = some [] → sp vs H Q E →
      ∃ t, PSs (cxOf CX P w K mg base N x (defScope st) (He.ga K x) cdv A outer s H E) (defBody st) t ∧
        t { nx := fun _ H' => Q .non H', rt := Q } (start N vs) H) :
    Cal P w K mg base CX (k + 1) x ps sp := by
  obtain ⟨fd, F⟩ := T.ex
  exact ⟨⟨fd, F.bindsN hbd, F.kp, fnG F S len hb⟩, T.gl⟩
end
section
variable {X : Cx} {CX : CXT} {k : Nat} {ps : List Str} {sp : Sp} {E : XK} {x : Str} {p pos : Pos} {e : Expr} {es : List Expr} {t : TA}
end
structure Bh (P : Program) (w : World) (K : PySem.W.Frag) (mg : Str → Option Value) (base : Heap) (CX : CXT)
    (k : Nat) (x : Str) (st : Stmt) (kws : List (Str × V)) (ps : List Str) (sp : Sp) : Prop where
  ex : ∃ fd, FunD K x x (defArgs st) (defBody st) (defScope st) [] kws (He.ga K x) fd ∧ Fn P w K mg base CX k (He.ga K x) fd ps sp
  gl : mg x = some (.ref (He.ga K x))
def picked {α : Type} (xs : List α) (is : List Nat) : List α := is.filterMap fun i => xs[i]?
theorem zm {xs : List V} {us : List Value} (r : Vals xs us) : ∀ is : List Nat, Vals (picked xs is) (picked us is)
  | [] => .nil
  | i :: is => by
    have ih := zm r is
    unfold picked at ih ⊢
    rw [List.filterMap_cons, List.filterMap_cons]
    cases e : xs[i]? with
    | none =>
      rw [Vals.none_of r e]
      exact ih
    | some x =>
      obtain ⟨u, hu, ru⟩ := Vals.get r e
      rw [hu]
      exact .cons ru ih
section
variable {P : Program} {w : World} {K : PySem.W.Frag} {mg : Str → Option Value} {base : Heap} {CX : CXT}
  {x : Str} {st : Stmt} {kws : List (Str × V)} {j k : Nat} {N ps : List Str} {sp sp' : Sp}
theorem Bh.mono (c : Bh P w K mg base CX j x st kws ps sp) (h : j ≤ k) : Bh P w K mg base CX k x st kws ps sp := by
  obtain ⟨fd, F, G⟩ := c.ex
  exact ⟨⟨fd, F, G.mono h⟩, c.gl⟩
theorem Bh.imp (c : Bh P w K mg base CX k x st kws ps sp) (h : ∀ vs H Q E, sp' vs H Q E → sp vs H Q E) : Bh P w K mg base CX k x st kws ps sp' := by
  obtain ⟨fd, F, G⟩ := c.ex
  exact ⟨⟨fd, F, G.imp h⟩, c.gl⟩
theorem Bh.cal (c : Bh P w K mg base CX k x st kws ps sp)
    (hbd : ∀ (kV doc pm : Value) (an : Option Addr) (cdv ct : Value) (us : List Value), us.length = ps.length →
      bindArgs (PySem.W.fnOf x x (defArgs st) (defBody st) (defScope st) .none kV doc pm an cdv ct) ⟨us, []⟩ = pure (ps.zip us)) :
    Cal P w K mg base CX k x ps sp := by
  obtain ⟨fd, F, G⟩ := c.ex
  exact ⟨⟨fd, F.bindsN hbd, F.kp, G⟩, c.gl⟩
end
def aiO (n m : Nat) (is : List Nat) (sp : Sp) (E : XK) (t tk : TA) : TE := fun σ H Q => t σ H fun vs H1 => tk σ H1 fun zs H2 => vs.length = n ∧ zs.length = m ∧ sp (picked (vs ++ zs) is) H2 Q E
section
variable {X : Cx} {CX : CXT} {k n : Nat} {ps ks : List Str} {sp : Sp} {E : XK} {x : Str} {st : Stmt} {kwd : List (Str × V)} {p pos : Pos} {e : Expr} {es : List Expr} {kws : List Keyword} {t tk : TA} {is : List Nat}
end
theorem aen {P : Program} {w : World} {K : PySem.W.Frag} {mg mb : Str → Option Value} {CX : CXT} {k : Nat} {fa a : Addr}
    {fd : FuncData} {x : Str} {sp : Sp} {s1 : Shared} {vs : List Value} {ns : List Int}
    (KX : K.In s1.heap) (hns : s1.heap.Ns mainGlobals mg) (hb : s1.heap.Ns builtinsNs mb)
    (hbb : ∀ x : Str, x ≠ "__name__" → mb x = bootBuiltins x) (hlim : s1.heap.NoLimit) (hg : s1.gens = #[])
    (ha : s1.heap.get? a = some { cls := .type "list", data := .seq vs.toArray }) (hi : IntsAre vs ns)
    (hl : ns.length ≤ sizeLine) (hr : Room k callerA)
    (F : ∀ base : Heap, K.In base → base.Ns mainGlobals mg → Fn P w K mg base CX k fa fd [x] sp)
    (hbind : ∀ (s : Shared) (u : Value), BindsTo s fd ⟨[u], []⟩ [(x, u)])
    (hsp : ∀ H : Hp, SqL K H a (ns.map V.int) → sp [.ref a] H (fun v _ => v = .bl true) fun _ _ _ => False)
    (hCX : ∀ H e s', CX [] H s1 (fun _ _ _ => False) e s' → False) :
    codeAny (model P w) callerA (.call (.ref fa) ⟨[.ref a], []⟩)
      (fun r s' => r = .ok (.ret (.bool true)) ∧ OldK s1.heap s'.heap ∧ s'.os = s1.os ∧ AllBare s'.gens) s1 := by
  have rv := vals_ints hi
  have lenV := hi.length
  have key : ∀ H : Hp, Only H → SqL K H a (ns.map V.int) → HOk P w H s1.heap → (∀ b, H b ≠ none → b = a ∧ K.lookup a = none) →
      codeAny (model P w) callerA (.call (.ref fa) ⟨[.ref a], []⟩)
        (fun r s' => r = .ok (.ret (.bool true)) ∧ OldK s1.heap s'.heap ∧ s'.os = s1.os ∧ AllBare s'.gens) s1 := by
    intro H hO hS hok hA
    have off : ∀ b, (b ≠ a ∨ K.lookup a ≠ none) → H b = none := fun b hb => by
      cases q : H b with
      | none => rfl
      | some u =>
        have z := hA b (by rw [q]; exact fun h => nomatch h)
        rcases hb with h | h
        · exact absurd z.1 h
        · exact absurd z.2 h
    have nsT : ∀ {b : Addr} {m : Str → Option Value}, s1.heap.Ns b m → (hidT s1.heap H).Ns b m := by
      rintro b m ⟨o, es, ep, e, d, r⟩
      refine ⟨o, es, ep, hidT_get e (off b (.inl ?_)), d, r⟩
      rintro rfl
      rw [ha] at e
      cases e
      have d' : Data.seq vs.toArray _ = Data.dict es ep := d
      cases d'
    have KT : K.In (hidT s1.heap H) := fun b o e => hidT_get (KX b o e) (off b (by
      by_cases h : b = a
      · refine .inr ?_
        rw [← h, e]
        exact fun z => nomatch z
      · exact .inl h))
    obtain ⟨mc, h1, h2⟩ := hlim
    have M0 : Mod K mg (hidT s1.heap H) := ⟨KT, nsT hns, ⟨mb, nsT hb, hbb⟩, ⟨mc, nsT h1, h2⟩⟩
    have e0 : Env0 P w K mg (hidT s1.heap H) callerA [] s1 H :=
      ⟨rfl, M0, fun b o e => of_hidT e, Nat.le_of_eq (hidT_size _ _), trivial, fun b hb => (nomatch (show b ∈ ([] : List Addr) from hb)), hok, .of_eq hg⟩
    refine codeAny_mono ((F _ KT (nsT hns)).go callerA [] s1 H ⟨[.ref a], []⟩ [.ref a] [.ref a] _ _ hr rfl e0 (hbind s1 (.ref a)) (.cons rfl .nil) (hsp H hS)) ?_
    intro r s' h
    match r, h with
    | .error e, h => exact (hCX H e s' h).elim
    | .ok (.ret u), ⟨v, H', os, bare, un, hok', r', q⟩ =>
      cases (show v = V.bl true from q)
      cases (show u = Value.bool true from r')
      refine ⟨rfl, OldK.of_keep ?_, os, bare⟩
      intro b o e
      cases q : H b with
      | none => exact un.keep b o e q (fun z => nomatch (show b ∈ ([] : List Addr) from z)) (fun z => nomatch z)
      | some u =>
        rcases hO b with z | ⟨ob, xs, z⟩
        · rw [q] at z
          cases z
        · have e1 := (hok b _ z).1
          have e2 := (hok' b _ (un.frzs b ob _ z)).1
          rw [e] at e1
          cases e1
          exact e2
  cases hk : K.lookup a with
  | some o =>
    have e := KX a o hk
    rw [ha] at e
    cases e
    refine key (fun _ => none) (fun _ => .inl rfl) (.inr ⟨_, vs.toArray, _, hk, rfl, rfl, rfl, ?_, by simpa using rv⟩) (fun b u z => nomatch z) (fun b z => absurd rfl z)
    rw [List.size_toArray, lenV]
    exact hl
  | none =>
    let H0 : Hp := fun b => if b = a then some (.frz { cls := .type "list", data := .seq vs.toArray } (.lst (ns.map V.int))) else none
    have at0 : H0 a = some (.frz { cls := .type "list", data := .seq vs.toArray } (.lst (ns.map V.int))) := if_pos rfl
    have ne0 : ∀ b, b ≠ a → H0 b = none := fun b h => if_neg h
    refine key H0 ?_ (.inl (.inr ⟨_, at0⟩)) ?_ ?_
    · intro b
      by_cases h : b = a
      · rw [h]
        exact .inr ⟨_, _, at0⟩
      · exact .inl (ne0 b h)
    · intro b u z
      by_cases h : b = a
      · subst h
        rw [at0] at z
        cases z
        exact ⟨ha, by rw [List.length_map]; exact hl, vs, _, rv, ha⟩
      · rw [ne0 b h] at z
        cases z
    · intro b z
      by_cases h : b = a
      · exact ⟨h, hk⟩
      · exact absurd (ne0 b h) z
theorem aiP {l : PySem.W.OpenLaw} {n k : Nat} {q : Program} {loose : List Str} {XP : (Str → Option Value) → Heap → Prop}
    {YP : World → Heap → Prop} {d : DefRec} {CX : CXT} {x : Str}
    (hn : l.most = some n) (hn2 : n ≤ sizeLine) (hdf : d.params.defaults = []) (hr : Room k callerA)
    (F : ∀ (w : World) (mg : Str → Option Value) (fa : Addr) (h : Heap), YP w h → h.Ns mainGlobals mg → mg d.name = some (.ref fa) →
      ∃ (K : PySem.W.Frag) (fd : FuncData) (sp : Sp), K.In h ∧ (∀ (s : Shared) (u : Value), BindsTo s fd ⟨[u], []⟩ [(x, u)]) ∧
        (∀ (H : Hp) (a : Addr) (ns : List Int), ns.length ≤ n → SqL K H a (ns.map V.int) → sp [.ref a] H (fun v _ => v = .bl true) fun _ _ _ => False) ∧
        ∀ base : Heap, K.In base → base.Ns mainGlobals mg → Fn l.prog w K mg base CX k fa fd [x] sp)
    (hCX : ∀ (H : Hp) (s : Shared) (e : Value) (s' : Shared), CX [] H s (fun _ _ _ => False) e s' → False) :
    PySem.W.WalkO q loose XP YP l.row.toRowW d [] (fun f vs => PySem.call f vs) := by
  refine Att.attach_call hn hdf ?_
  intro w s0 s1 mg mb fa o pm cd doc a vs ns G Y ho hd hcd hmg hobj hints hlen hg
  obtain ⟨K, fd, sp, KX, hb, hsp, hF⟩ := F w mg fa _ Y G.T.g hmg
  exact aen KX G.T.g G.T.b G.T.builtins G.T.nolimit hg hobj hints (Nat.le_trans hlen hn2) hr hF hb (fun H hS => hsp H a ns hlen hS) (fun H e s' => hCX H s1 e s')
end GB
namespace GB
open PySem PySem.Spec PyProof.Rows L2
def Has (H : Hp) (L : List (Addr × HO)) : Prop := (∀ p ∈ L, H p.1 = some p.2) ∧ (L.map (·.1)).Nodup
def Ext (w : Addr) (H H' : Hp) : Prop := ∀ a o, a ≠ w → H a = some o → H' a = some o
section
variable {H H' H2 : Hp} {L : List (Addr × HO)} {a p w : Addr} {o o' : HO} {i : Nat}
theorem Ext.refl : Ext w H H := fun _ _ _ h => h
theorem Ext.trans (e : Ext w H H') (f : Ext w H' H2) : Ext w H H2 := fun a o n h => f a o n (e a o n h)
theorem Ext.new (h : H p = none) : Ext w H (upd H p o) := fun a u _ e => by
  rw [upd_ne (ne_of_none e h)]
  exact e
theorem Ext.put : Ext w H (upd H w o) := fun a u n e => by
  rw [upd_ne n]
  exact e
theorem Ext.of {H H' : Hp} (e : ∀ a o, H a = some o → H' a = some o) : Ext w H H' := fun a o _ h => e a o h
theorem Has.nil : Has H [] := ⟨fun _ h => (nomatch h), List.nodup_nil⟩
theorem Has.one (h : H a = some o) : Has H [(a, o)] := ⟨fun p hp => by
  cases List.mem_singleton.mp hp
  exact h, by simp⟩
theorem Has.mem (h : Has H L) (m : (a, o) ∈ L) : H a = some o := h.1 _ m
theorem Has.at (h : Has H L) (i : Nat) (m : L[i]? = some (a, o)) : H a = some o := h.1 _ (List.mem_of_getElem? m)
theorem Has.new (h : Has H L) (n : H p = none) : Has (upd H p o) ((p, o) :: L) := by
  refine ⟨fun q hq => ?_, ?_⟩
  · rcases List.mem_cons.mp hq with rfl | hq
    · exact upd_same
    · rw [upd_ne (ne_of_none (h.1 q hq) n)]
      exact h.1 q hq
  · rw [List.map_cons, List.nodup_cons]
    refine ⟨fun z => ?_, h.2⟩
    obtain ⟨q, hq, e⟩ := List.mem_map.mp z
    have z2 := h.1 q hq
    have e2 : q.1 = p := e
    rw [e2, n] at z2
    cases z2
theorem af7 (i : Nat) (m : L[i]? = some (a, o)) : (L.set i (a, o')).map (·.1) = L.map (·.1) := by
  rw [List.map_set]
  apply List.ext_getElem?
  intro j
  rw [List.getElem?_set]
  split
  · rename_i e
    subst e
    have hi : i < L.length := by
      rcases Nat.lt_or_ge i L.length with h | h
      · exact h
      · rw [List.getElem?_eq_none h] at m
        cases m
    rw [List.length_map, if_pos hi, List.getElem?_map, m]
    rfl
  · rfl
theorem Has.go (h : Has H L) (i : Nat) (m : L[i]? = some (w, o)) (e : Ext w H H') (n : H' w = some o') : Has H' (L.set i (w, o')) := by
  have hi : i < L.length := by
    rcases Nat.lt_or_ge i L.length with h | h
    · exact h
    · rw [List.getElem?_eq_none h] at m
      cases m
  refine ⟨fun q hq => ?_, by rw [af7 i m]; exact h.2⟩
  obtain ⟨j, hj, rfl⟩ := List.getElem_of_mem hq
  rw [List.length_set] at hj
  by_cases hji : i = j
  · subst hji
    rw [List.getElem_set_self]
    exact n
  · rw [List.getElem_set_ne hji]
    refine e _ _ (fun z => ?_) (h.1 _ (List.getElem_mem hj))
    have hm : L[i] = (w, o) := by
      rw [List.getElem?_eq_getElem hi] at m
      exact Option.some.inj m
    refine hji ((List.getElem?_inj (l := L.map (·.1)) (by rw [List.length_map]; exact hi) h.2).mp ?_)
    rw [List.getElem?_map, List.getElem?_map, List.getElem?_eq_getElem hi, List.getElem?_eq_getElem hj, hm]
    show some w = some L[j].1
    rw [z]
theorem Has.put (h : Has H L) (i : Nat) (m : L[i]? = some (w, o)) : Has (upd H w o') (L.set i (w, o')) := h.go i m Ext.put upd_same
theorem Has.ex (h : Has H L) (e : ∀ a o, H a = some o → H' a = some o) : Has H' L := ⟨fun q hq => e _ _ (h.1 q hq), h.2⟩
theorem Has.drop (h : Has H ((a, o) :: L)) : Has H L := ⟨fun q hq => h.1 q (List.mem_cons_of_mem _ hq), (List.nodup_cons.mp h.2).2⟩
theorem Has.ne (h : Has H L) (i j : Nat) {b : Addr} {u : HO} (hij : i ≠ j) (m : L[i]? = some (a, o)) (m2 : L[j]? = some (b, u)) : a ≠ b := by
  rintro rfl
  have li : i < L.length := by
    rcases Nat.lt_or_ge i L.length with h | h
    · exact h
    · rw [List.getElem?_eq_none h] at m
      cases m
  refine hij ((List.getElem?_inj (l := L.map (·.1)) (by rw [List.length_map]; exact li) h.2).mp ?_)
  rw [List.getElem?_map, List.getElem?_map, m, m2]
  rfl
end
theorem sqL {K : PySem.W.Frag} {H : Hp} {a : Addr} {xs : List V} (h : H a = some (.lst xs)) : SqL K H a xs := .inl (.inl h)
theorem sqT {K : PySem.W.Frag} {H : Hp} {a : Addr} {xs : List V} (h : H a = some (.tup xs)) : SqT K H a xs := .inl (.inl h)
section
variable {K : PySem.W.Frag} {σ : L2.St} {H : Hp} {Q : VK} {D : Ends} {ta tb te : TE} {tt tu : TT} {t u : TS} {r : R2} {tA tR : TA} {v : V} {i : Nat}
theorem aiQ (h : t { D with nx := u D } σ H) : tSeq t u D σ H := h
theorem agW (h : D.nx σ H) : tNext D σ H := h
theorem aiR {g : TG} (h : te σ H fun x H1 => g x σ H1 D.nx) : tAsg te g D σ H := h
theorem agX {v : V} {P : L2.St → Hp → Prop} (h : P (σ.set i (some v)) H) : gName i v σ H P := h
theorem agY (h : te σ H fun _ H1 => D.nx σ H1) : tDrop te D σ H := h
theorem aiS (h : te σ H D.rt) : tRet te D σ H := h
theorem aiT (h : tt σ H fun b H1 => if b = true then t D σ H1 else u D σ H1) : tIfS tt t u D σ H := h
theorem aiU (h : σ[i]? = some (some v)) (q : Q v H) : tVar i σ H Q := ⟨v, h, q⟩
theorem r_c (q : Q v H) : tC v σ H Q := q
theorem akE (h : ta σ H fun x H1 => tb σ H1 fun y H2 => r x y H2 Q) : tOp r ta tb σ H Q := h
theorem akF {r : V → Hp → VK → Prop} (h : ta σ H fun x H1 => r x H1 Q) : tUn r ta σ H Q := h
theorem aiV {Q : List V → Hp → Prop} (h : Q [] H) : tNil σ H Q := h
theorem agZ {Q : List V → Hp → Prop} (h : ta σ H fun x H1 => tR σ H1 fun xs H2 => Q (x :: xs) H2) : tCons ta tR σ H Q := h
theorem akG {r : List V → Hp → VK → Prop} (h : tA σ H fun vs H1 => r vs H1 Q) : tCB r tA σ H Q := h
theorem ag0 {sp : Sp} {E : XK} (h : tA σ H fun vs H1 => sp (vs ++ []) H1 Q E) : tCall sp [] E tA σ H Q := h
theorem ag1 {n m : Nat} {is : List Nat} {sp : Sp} {E : XK} {tk : TA} (h : tA σ H fun vs H1 => tk σ H1 fun zs H2 => vs.length = n ∧ zs.length = m ∧ sp (picked (vs ++ zs) is) H2 Q E) : aiO n m is sp E tA tk σ H Q := h
theorem ag3 {P : Bool → Hp → Prop} (h : te σ H fun x H' => ∃ k, x = .bl k ∧ P k H') : tTest te σ H P := h
theorem akH {b : Bool} {P : Bool → Prop} (h : P b) : ∃ k, V.bl b = .bl k ∧ P k := ⟨b, rfl, h⟩
theorem akI {P : Bool → Hp → Prop} (h : te σ H fun x H' => ∃ k, x = .bl k ∧ P k H') : tB te σ H P := h
theorem aiW {P : Bool → Hp → Prop} (h : tt σ H fun c H1 => if c = true then tu σ H1 P else P false H1) : tAnd tt tu σ H P := h
theorem akJ {P : Bool → Hp → Prop} (h : tt σ H fun c H1 => if c = true then P true H1 else tu σ H1 P) : tOr tt tu σ H P := h
theorem aiX {P : Bool → Hp → Prop} (h : tt σ H fun c H1 => P (!c) H1) : tNot tt σ H P := h
theorem ag4 (h : ta σ H fun x H1 => ∃ c, x = .bl c ∧ if c = true then tb σ H1 Q else Q (.bl false) H1) : tAndV ta tb σ H Q := h
theorem aiY (h : ta σ H fun x H1 => ∃ c, x = .bl c ∧ if c = true then Q (.bl true) H1 else tb σ H1 Q) : tOrV ta tb σ H Q := h
theorem ag5 (h : ta σ H fun x H1 => ∃ c, x = .bl c ∧ Q (.bl (!c)) H1) : tNotV ta σ H Q := h
theorem aiZ (h : tt σ H fun c H1 => if c = true then ta σ H1 Q else tb σ H1 Q) : tIf tt ta tb σ H Q := h
theorem af8 {r r' : R2} {tc : TE} (h : ta σ H fun x H1 => tb σ H1 fun y H2 => r x y H2 fun z H3 => ∃ k, z = .bl k ∧ if k = true then tc σ H3 fun w H4 => r' y w H4 Q else Q (.bl false) H3) : tChain r r' ta tb tc σ H Q := h
theorem ag6 : tLst tA = fun σ H Q => tA σ H fun xs H1 => xs.length ≤ sizeLine ∧ ∀ p H2, H1 p = none → H2 = upd H1 p (.lst xs) → Q (.ref p) H2 := by
  funext σ H Q
  have e : (fun (xs : List V) (H1 : Hp) => xs.length ≤ sizeLine ∧ ∀ p, H1 p = none → Q (.ref p) (upd H1 p (.lst xs))) = fun xs H1 => xs.length ≤ sizeLine ∧ ∀ p H2, H1 p = none → H2 = upd H1 p (.lst xs) → Q (.ref p) H2 := by
    funext xs H1
    exact propext ⟨fun h => ⟨h.1, fun p H2 hp e => by rw [e]; exact h.2 p hp⟩, fun h => ⟨h.1, fun p hp => h.2 p _ hp rfl⟩⟩
  show tA σ H _ = tA σ H _
  exact congrArg (tA σ H) e
theorem ag7 : tTup tA = fun σ H Q => tA σ H fun xs H1 => xs.length ≤ sizeLine ∧ ∀ p H2, H1 p = none → H2 = upd H1 p (.tup xs) → Q (.ref p) H2 := by
  funext σ H Q
  have e : (fun (xs : List V) (H1 : Hp) => xs.length ≤ sizeLine ∧ ∀ p, H1 p = none → Q (.ref p) (upd H1 p (.tup xs))) = fun xs H1 => xs.length ≤ sizeLine ∧ ∀ p H2, H1 p = none → H2 = upd H1 p (.tup xs) → Q (.ref p) H2 := by
    funext xs H1
    exact propext ⟨fun h => ⟨h.1, fun p H2 hp e => by rw [e]; exact h.2 p hp⟩, fun h => ⟨h.1, fun p hp => h.2 p _ hp rfl⟩⟩
  show tA σ H _ = tA σ H _
  exact congrArg (tA σ H) e
theorem ai0 (h : tA σ H fun xs H1 => xs.length ≤ sizeLine ∧ ∀ p H2, H1 p = none → H2 = upd H1 p (.lst xs) → Q (.ref p) H2) : tLst tA σ H Q := by
  rw [ag6]
  exact h
theorem ai1 (h : tA σ H fun xs H1 => xs.length ≤ sizeLine ∧ ∀ p H2, H1 p = none → H2 = upd H1 p (.tup xs) → Q (.ref p) H2) : tTup tA σ H Q := by
  rw [ag7]
  exact h
theorem aeo {Q : Option Int → Hp → Prop} (h : Q none H) : tNoPart σ H Q := h
theorem ag8 {Q : Option Int → Hp → Prop} (h : te σ H fun x H1 => ∃ i, x = .int i ∧ Q (some i) H1) : tPart te σ H Q := h
theorem ai2 {j : Int} {P : Int → Prop} (h : P j) : ∃ k, V.int j = .int k ∧ P k := ⟨j, rfl, h⟩
theorem akK {r : V → Option Int → Option Int → Hp → VK → Prop} {tl th : TO} (h : te σ H fun x H1 => tl σ H1 fun l H2 => th σ H2 fun u H3 => r x l u H3 Q) : tSl r te tl th σ H Q := h
theorem akL {T : String} {r : V → List V → Hp → VK → Prop} (h : te σ H fun x H1 => tyV K T x H1 ∧ tA σ H1 fun xs H2 => r x xs H2 Q) : tBM K T r te tA σ H Q := h
theorem akM {r : V → List V → Hp → VK → Prop} (h : ta σ H fun x H1 => (∃ a, x = .str a) ∧ tb σ H1 fun y H2 => r x [y] H2 Q) : tM1 r ta tb σ H Q := h
theorem ai3 {z : Str} {P : Prop} (h : P) : (∃ a, V.str z = .str a) ∧ P := ⟨⟨z, rfl⟩, h⟩
theorem akN {g : Int → Int → V} {a b : Int} (q : Q (g a b) H) : rI0 g (.int a) (.int b) H Q := ⟨a, b, rfl, rfl, q⟩
theorem v_I {C : Int → Int → Prop} {g : Int → Int → V} {a b : Int} (c : C a b) (q : Q (g a b) H) : rI C g (.int a) (.int b) H Q := ⟨a, b, rfl, rfl, c, q⟩
theorem v_U {g : Int → V} {a : Int} (q : Q (g a) H) : rU g (.int a) H Q := ⟨a, rfl, q⟩
theorem ai4 {a b : Int} (q : Q (.bl (decide (a = b))) H) : rEq (.int a) (.int b) H Q := ⟨rfl, by
  have e : decide (V.int a = V.int b) = decide (a = b) := decide_eq_decide.mpr ⟨fun h => V.int.inj h, fun h => by rw [h]⟩
  rw [e]
  exact q⟩
theorem ai5 {a b : Int} (q : Q (.bl (!decide (a = b))) H) : rNe (.int a) (.int b) H Q := ⟨rfl, by
  have e : decide (V.int a = V.int b) = decide (a = b) := decide_eq_decide.mpr ⟨fun h => V.int.inj h, fun h => by rw [h]⟩
  rw [e]
  exact q⟩
theorem ai6 {a b : Str} (q : Q (.bl (decide (a = b))) H) : rEq (.str a) (.str b) H Q := ⟨rfl, by
  have e : decide (V.str a = V.str b) = decide (a = b) := decide_eq_decide.mpr ⟨fun h => V.str.inj h, fun h => by rw [h]⟩
  rw [e]
  exact q⟩
theorem ai7 {a b : Str} (q : Q (.bl (!decide (a = b))) H) : rNe (.str a) (.str b) H Q := ⟨rfl, by
  have e : decide (V.str a = V.str b) = decide (a = b) := decide_eq_decide.mpr ⟨fun h => V.str.inj h, fun h => by rw [h]⟩
  rw [e]
  exact q⟩
theorem ai8 {p : Addr} {xs : List V} {j : Int} (s : SqL K H p xs) (a : atI xs j = some v) (q : Q v H) : rIxL K (.ref p) (.int j) H Q := ⟨p, xs, j, v, rfl, rfl, s, a, q⟩
theorem ai9 {p : Addr} {xs : List V} {j : Int} (s : SqT K H p xs) (a : atI xs j = some v) (q : Q v H) : rIxT K (.ref p) (.int j) H Q := ⟨p, xs, j, v, rfl, rfl, s, a, q⟩
theorem aja {z : Str} {lo hi : Option Int} (s : z.length ≤ 100000) (q : Q (.str (cutS z lo hi)) H) : rSlS (.str z) lo hi H Q := ⟨z, rfl, Nat.le_trans s (by decide), q⟩
end
def rAddS : R2 := fun x y H Q => ∃ i j, x = .str i ∧ y = .str j ∧ i.length + j.length ≤ sizeLine ∧ Q (.str (i ++ j)) H
def akO : R2 := fun x y H Q => ∃ (c : Nat) (z : Str), x = .str ⟨#[c]⟩ ∧ y = .str z ∧ Q (.bl (decide (c ∈ z.cps.toList))) H
def akP : R2 := fun x y H Q => ∃ (c : Nat) (z : Str), x = .str ⟨#[c]⟩ ∧ y = .str z ∧ Q (.bl (!decide (c ∈ z.cps.toList))) H
def afn (K : PySem.W.Frag) : List V → Hp → VK → Prop := fun xs H Q => ∃ p ys, xs = [.ref p] ∧ (SqL K H p ys ∨ SqT K H p ys) ∧ Q (.int ys.length) H
def rLenS : List V → Hp → VK → Prop := fun xs H Q => ∃ z : Str, xs = [.str z] ∧ z.length ≤ sizeLine ∧ Q (.int z.length) H
def afo : List V → Hp → VK → Prop := fun xs H Q => (∃ i, xs = [.int i] ∧ Q (.int i) H) ∨ ∃ k, xs = [.bl k] ∧ Q (.int (if k then 1 else 0)) H
section
variable {X : Cx}
end
section
variable {K : PySem.W.Frag} {H : Hp} {Q : VK}
theorem ag9 {a b : Str} (n : a.length + b.length ≤ 100000) (q : Q (.str (a ++ b)) H) : rAddS (.str a) (.str b) H Q := ⟨a, b, rfl, rfl, Nat.le_trans n (by decide), q⟩
theorem ajb {c : Nat} {z : Str} (q : Q (.bl (decide (c ∈ z.cps.toList))) H) : akO (.str ⟨#[c]⟩) (.str z) H Q := ⟨c, z, rfl, rfl, q⟩
theorem ajc {c : Nat} {z : Str} (q : Q (.bl (!decide (c ∈ z.cps.toList))) H) : akP (.str ⟨#[c]⟩) (.str z) H Q := ⟨c, z, rfl, rfl, q⟩
theorem aha {p : Addr} {xs : List V} (s : SqL K H p xs) (q : Q (.int xs.length) H) : afn K [.ref p] H Q := ⟨p, xs, rfl, .inl s, q⟩
theorem ahb {p : Addr} {xs : List V} (s : SqT K H p xs) (q : Q (.int xs.length) H) : afn K [.ref p] H Q := ⟨p, xs, rfl, .inr s, q⟩
theorem ahc {z : Str} (n : z.length ≤ 100000) (q : Q (.int z.length) H) : rLenS [.str z] H Q := ⟨z, rfl, Nat.le_trans n (by decide), q⟩
theorem ahd {i : Int} (q : Q (.int i) H) : afo [.int i] H Q := .inl ⟨i, rfl, q⟩
theorem ahe {b : Bool} (q : Q (.int (if b then 1 else 0)) H) : afo [.bl b] H Q := .inr ⟨b, rfl, q⟩
end
def Wl (H : Hp) (w : Addr) (n : Nat) : Prop := ∃ a b c : Int, H w = some (.lst [.int a, .int b, .int c]) ∧ 0 ≤ c ∧ c ≤ n
structure Wd (H0 H : Hp) (w : Addr) (n : Nat) (L : List (Addr × HO)) : Prop where
  wl : Wl H w n
  has : Has H L
  off : ∀ p ∈ L, p.1 ≠ w
  ext : Ext w H0 H
section
variable {H0 H H' : Hp} {w p a : Addr} {n m : Nat} {L : List (Addr × HO)} {o o' : HO}
theorem Wl.mono (h : Wl H w n) (e : n ≤ m) : Wl H w m := by
  obtain ⟨a, b, c, h1, h2, h3⟩ := h
  exact ⟨a, b, c, h1, h2, by omega⟩
theorem Wl.fresh (h : Wl H w n) (q : H p = none) : p ≠ w := by
  obtain ⟨a, b, c, h1, _⟩ := h
  exact (ne_of_none h1 q).symm
theorem Wl.new (h : Wl H w n) (q : H p = none) : Wl (upd H p o) w n := by
  obtain ⟨a, b, c, h1, h2⟩ := h
  exact ⟨a, b, c, by rw [upd_ne (ne_of_none h1 q)]; exact h1, h2⟩
theorem Wd.of (h : Wl H w n) : Wd H H w n [] := ⟨h, Has.nil, fun _ z => (nomatch z), Ext.refl⟩
theorem Wd.new (h : Wd H0 H w n L) (q : H p = none) : Wd H0 (upd H p o) w n ((p, o) :: L) :=
  ⟨h.wl.new q, h.has.new q, fun x hx => by
    rcases List.mem_cons.mp hx with rfl | hx
    · exact h.wl.fresh q
    · exact h.off x hx, h.ext.trans (Ext.new q)⟩
theorem Wd.go (h : Wd H0 H w n L) (e : Ext w H H') (q : Wl H' w m) : Wd H0 H' w m L :=
  ⟨q, ⟨fun x hx => e _ _ (h.off x hx) (h.has.1 x hx), h.has.2⟩, h.off, h.ext.trans e⟩
theorem Wd.mono (h : Wd H0 H w n L) (e : n ≤ m) : Wd H0 H w m L := ⟨h.wl.mono e, h.has, h.off, h.ext⟩
theorem Wd.at (h : Wd H0 H w n L) (i : Nat) (q : L[i]? = some (a, o)) : H a = some o := h.has.at i q
theorem Wd.ne (h : Wd H0 H w n L) (i : Nat) (q : L[i]? = some (a, o)) : a ≠ w := h.off _ (List.mem_of_getElem? q)
theorem Wd.put (h : Wd H0 H w n L) (i : Nat) (q : L[i]? = some (a, o)) (f : H0 a = none) : Wd H0 (upd H a o') w n (L.set i (a, o')) := by
  have ne : a ≠ w := h.off _ (List.mem_of_getElem? q)
  obtain ⟨x, b, c, h1, h2⟩ := h.wl
  refine ⟨⟨x, b, c, by rw [upd_ne ne.symm]; exact h1, h2⟩, h.has.put i q, fun p hp => ?_, fun y u ny hy => ?_⟩
  · rcases List.mem_or_eq_of_mem_set hp with hp | rfl
    · exact h.off p hp
    · exact ne
  · rw [upd_ne (ne_of_none hy f)]
    exact h.ext y u ny hy
theorem Wd.fresh (h : Wd H0 H w n L) (q : H p = none) (ne : p ≠ w) : H0 p = none := by
  cases e : H0 p with
  | none => rfl
  | some o =>
    rw [h.ext p o ne e] at q
    cases q
theorem Wd.fr (h : Wd H0 H w n L) (q : H p = none) : H0 p = none := h.fresh q (h.wl.fresh q)
theorem Wd.add (h : Wd H0 H w n L) (q : H a = some o) (ne : a ≠ w) (nd : ∀ p ∈ L, p.1 ≠ a) : Wd H0 H w n ((a, o) :: L) :=
  ⟨h.wl, ⟨fun x hx => by
    rcases List.mem_cons.mp hx with rfl | hx
    · exact q
    · exact h.has.1 x hx, by
    rw [List.map_cons, List.nodup_cons]
    refine ⟨fun z => ?_, h.has.2⟩
    obtain ⟨y, hy, e⟩ := List.mem_map.mp z
    exact nd y hy e⟩, fun x hx => by
    rcases List.mem_cons.mp hx with rfl | hx
    · exact ne
    · exact h.off x hx, h.ext⟩
end
section
variable {K : PySem.W.Frag} {σ : L2.St} {H : Hp} {ta : TA} {te : TE}
theorem ajd {R : It → Hp → Prop} (h : ta σ H fun vs H1 => ∃ j : Int, vs = [.int j] ∧ -(2 ^ 62) ≤ j ∧ j < 2 ^ 62 ∧ R (Itr 0 j.toNat) H1) : iRng1 ta σ H R := h
theorem akQ {R : It → Hp → Prop} (h : te σ H fun x H1 => ∃ a, x = .ref a ∧ (∃ xs, SqL K H1 a xs) ∧ R (Itl K a) H1) : iList K te σ H R := h
theorem aje {a : Addr} {xs : List V} {R : Addr → Prop} (s : SqL K H a xs) (h : R a) : ∃ b, V.ref a = .ref b ∧ (∃ xs, SqL K H b xs) ∧ R b := ⟨a, rfl, ⟨xs, s⟩, h⟩
theorem akR {R : It → Hp → Prop} (h : te σ H fun v H1 => ∃ x, v = .str x ∧ R (Its x) H1) : iStr te σ H R := h
theorem ajf {z : Str} {P : Str → Prop} (h : P z) : ∃ x, V.str z = .str x ∧ P x := ⟨z, rfl, h⟩
end
section
variable {K : PySem.W.Frag} {σ : L2.St} {H : Hp} {Q : VK} {ta tb : TE} {v : V}
theorem ajg {t : TSet} {P : L2.St → Hp → Prop} (h : ta σ H fun o H1 => tb σ H1 fun i H2 => t o i v H2 fun H3 => P σ H3) : gSub ta tb t v σ H P := h
theorem ahf {p : Addr} {xs : List V} {j : Int} {k : Nat} {P : Hp → Prop} (h : H p = some (.lst xs)) (i : ixN xs.length j = some k) (q : P (upd H p (.lst (xs.set k v)))) : rSetL (.ref p) (.int j) v H P :=
  ⟨p, xs, j, k, rfl, rfl, h, i, q⟩
theorem ajh {p : Addr} {xs : List V} (h : H p = some (.lst xs)) (n : xs.length < 100000) (q : Q .non (upd H p (.lst (xs ++ [v])))) :
    rAppend (.ref p) [v] H Q :=
  ⟨p, xs, v, rfl, rfl, h, Nat.lt_of_lt_of_le n (by decide), q⟩
theorem akS {p : Addr} {xs : List V} {P : Prop} (h : H p = some (.lst xs)) (q : P) : tyV K "list" (.ref p) H ∧ P := ⟨.inl ⟨rfl, xs, .inl (.inl h)⟩, q⟩
theorem aep {i j : Int} (h : (decide (0 ≤ j) && decide (j ≤ 1000000) && decide (i.natAbs < 2 ^ 64)) = true) : CPow i j := by
  simp only [Bool.and_eq_true, decide_eq_true_eq] at h
  exact ⟨h.1.1, h.1.2, h.2⟩
end
theorem same_new {H : Hp} {p : Addr} {o : HO} (h : H p = none) : Same H (upd H p o) := fun a u e => by
  rw [upd_ne (ne_of_none e h)]
  exact e
theorem akT {wi : TI} {g : TG} {tt : TT} {te : TE} {vs : List Nat} {σ : L2.St} {H : Hp} {Q : VK} (h : wi σ H fun J H1 => ∀ D, H1 D = none → ∃ W : Nat → Nat → Hp → Prop, (∃ m, W 0 m (upd H1 D (.lst []))) ∧ ∀ i m H, W i m H →
    (J.stop i H ∧ Q (.ref D) H) ∨ (J.go i H ∧ ∃ Nx : Hp → Prop, (∀ H', Nx H' → ∃ m', m' < m ∧ W (i + 1) m' H') ∧ ∀ x H', J.yld i H x H' → g x (wipe σ vs) H' fun σ2 H2 => wipe σ2 vs = wipe σ vs ∧ tt σ2 H2 fun b H3 =>
      if b = true then te σ2 H3 fun y H4 => ∃ acc, H4 D = some (.lst acc) ∧ acc.length < sizeLine ∧ Nx (upd H4 D (.lst (acc ++ [y]))) else Nx H3)) : tLc wi g tt te vs σ H Q := h
theorem aji {σ : L2.St} {H : Hp} {P : Bool → Hp → Prop} (h : P true H) : tYes σ H P := h
theorem str_len (z : Str) : z.length = z.cps.toList.length := by
  show z.cps.size = _
  simp
theorem RM : ∀ ps : List (List Nat), TL.joinL [] ps = ps.flatten
  | [] => rfl
  | [p] => by simp [TL.joinL]
  | p :: q :: r => by
    rw [TL.joinL, RM (q :: r)]
    simp
theorem abl (ys : List Str) : (Txt.join "" ys).cps.toList = (ys.map fun y => y.cps.toList).flatten := by
  rw [TL.join_eq]
  exact (TL.tl_join "" ys).trans (RM _)
theorem aer (ys : List Str) : (Txt.join "" ys).length = (ys.map (·.length)).sum := by
  rw [str_len, abl, List.length_flatten, List.map_map]
  rfl
theorem Vg : ∀ {ys : List Str}, (∀ y ∈ ys, y.length = 1) → (ys.map (·.length)).sum = ys.length
  | [], _ => rfl
  | y :: r, h => by
    rw [List.map_cons, List.sum_cons, h y List.mem_cons_self, Vg fun z hz => h z (List.mem_cons_of_mem _ hz), List.length_cons, Nat.add_comm]
def qJ (z : Str) : Prop := ∀ c ∈ z.cps.toList, c < 0x110000
theorem cA (s : String) : qJ (Str.ofString s) := by
  intro c hc
  rw [Str.ofString_eq_toList] at hc
  simp only [List.mem_map] at hc
  obtain ⟨d, _, rfl⟩ := hc
  have h := d.valid
  have h2 : d.toNat = d.val.toNat := rfl
  rw [h2]
  rcases h with h | h
  · exact Nat.lt_trans h (by decide)
  · exact h.2
theorem ju {z : Str} (h : qJ z) : PyData.strOk z = true := by
  unfold PyData.strOk
  rw [Array.all_eq_true]
  intro i hi
  exact decide_eq_true (h _ (by simp))
theorem ahg {σ : L2.St} {H : Hp} {Q : VK} (h : ∀ p H2, H p = none → H2 = upd H p (.dK []) → Q (.ref p) H2) : tDNewK σ H Q := fun p hp => h p _ hp rfl
theorem ajj {wi : TI} {g : TG} {tb : TS} {D : Ends} {σ : L2.St} {H : Hp} (h : wi σ H fun J H1 => ∃ W : Nat → Nat → L2.St → Hp → Prop, (∃ m, W 0 m σ H1) ∧ ∀ i m σ H, W i m σ H →
  (J.stop i H ∧ D.nx σ H) ∨ (J.go i H ∧ ∃ N : L2.St → Hp → Prop, (∀ σ' H', N σ' H' → ∃ m', m' < m ∧ W (i + 1) m' σ' H') ∧ ∀ x H', J.yld i H x H' → g x σ H' fun σ2 H2 => tb { D with nx := N, ct := N, bk := D.nx } σ2 H2)) : tFor wi g tb D σ H := h
theorem Wd.same {H0 H H' : Hp} {w : Addr} {n : Nat} {L : List (Addr × HO)} (h : Wd H0 H w n L) (e : Same H H') : Wd H0 H' w n L := by
  obtain ⟨a, b, c, h1, h2⟩ := h.wl
  exact h.go (Ext.of e) ⟨a, b, c, e _ _ h1, h2⟩
theorem Has.sub {H : Hp} {L M : List (Addr × HO)} (h : Has H L) (s : M.Sublist L) : Has H M := ⟨fun p hp => h.1 p (s.subset hp), h.2.sublist (s.map _)⟩
theorem Wd.drop {H0 H : Hp} {w : Addr} {n : Nat} {L : List (Addr × HO)} (h : Wd H0 H w n L) (k : Nat) : Wd H0 H w n (L.drop k) :=
  ⟨h.wl, h.has.sub (List.drop_sublist k L), fun p hp => h.off p ((List.drop_sublist k L).subset hp), h.ext⟩
end GB
namespace GB
open PySem PySem.Spec PyProof.Rows L2
def Dn (K : PySem.W.Frag) (f : Addr) (x q : Str) (st : Stmt) (dvs : List V) (kws : List (Str × V)) : Prop :=
  ∃ fd, FunD K x q (defArgs st) (defBody st) (defScope st) dvs kws f fd
structure FO (P : Program) (w : World) (K : PySem.W.Frag) (mg : Str → Option Value) (base : Heap) (CX : CXT) (k : Nat) (f : Addr) (ps : List Str) (sp : Sp) : Prop where
  ex : ∃ fd, Binds K fd ps [] ∧ PySem.W.keepIn K (.ref f) = true ∧ FnOk P w K mg base CX k f fd ps sp
section
variable {P : Program} {w : World} {K : PySem.W.Frag} {mg : Str → Option Value} {base : Heap} {CX : CXT} {j k : Nat} {f : Addr} {x q : Str} {st : Stmt} {dvs : List V} {kws : List (Str × V)} {N ps : List Str} {sp sp' : Sp}
theorem FO.mono (c : FO P w K mg base CX j f ps sp) (h : j ≤ k) : FO P w K mg base CX k f ps sp := by
  obtain ⟨fd, b, kp, F⟩ := c.ex
  exact ⟨fd, b, kp, F.mono h⟩
theorem FO.imp (c : FO P w K mg base CX k f ps sp) (h : ∀ vs H Q E, sp' vs H Q E → sp vs H Q E) : FO P w K mg base CX k f ps sp' := by
  obtain ⟨fd, b, kp, F⟩ := c.ex
  exact ⟨fd, b, kp, F.imp h⟩
theorem FO.cal (c : FO P w K mg base CX k (He.ga K x) ps sp) (g : mg x = some (.ref (He.ga K x))) : Cal P w K mg base CX k x ps sp := by
  obtain ⟨fd, b, kp, F⟩ := c.ex
  exact ⟨⟨fd, b, kp, .akD F⟩, g⟩
abbrev afp (x q : Str) (st : Stmt) (ps : List Str) : Prop := ∀ (kV doc pm : Value) (an : Option Addr) (cdv ct : Value) (us : List Value), us.length = ps.length →
  bindArgs (PySem.W.fnOf x q (defArgs st) (defBody st) (defScope st) .none kV doc pm an cdv ct) ⟨us, []⟩ = pure (ps.zip us)
theorem Dn.fo (T : Dn K f x q st [] kws) (S : FnScope N ps (defScope st)) (hbd : afp x q st ps) (len : ∀ vs H Q E, sp vs H Q E → vs.length = ps.length)
    (hb : ∀ (cdv : Value) (A : Around) (outer : List Env) (s : Shared) (H : Hp) (vs : List V) (Q : VK) (E : XK), Room k (A.deeper (envOfC q (defScope st) s.heap.objs.size f cdv)) → sp vs H Q E →
      ∃ t, PSs (cxOf CX P w K mg base N q (defScope st) f cdv A outer s H E) (defBody st) t ∧ t { nx := fun _ H' => Q .non H', rt := Q } (start N vs) H) :
    FO P w K mg base CX (k + 1) f ps sp := by
  obtain ⟨fd, F⟩ := T
  exact ⟨fd, F.bindsN hbd, F.kp, F.ok S len hb⟩
theorem Dn.fo0 (T : Dn K f x q st [] kws) (S : FnScope N ps (defScope st)) (hbd : afp x q st ps) (len : ∀ vs H Q E, sp vs H Q E → vs.length = ps.length)
    (hb : ∀ (cdv : Value) (A : Around) (outer : List Env) (s : Shared) (H : Hp) (vs : List V) (Q : VK) (E : XK), Room k (A.deeper (envOfC q (defScope st) s.heap.objs.size f cdv)) → sp vs H Q E →
      ∃ t, PSs (cxOf CX0 P w K mg base N q (defScope st) f cdv A outer s H E).nox (defBody st) t ∧ t { nx := fun _ H' => Q .non H', rt := Q } (start N vs) H) :
    FO P w K mg base CX0 (k + 1) f ps sp := by
  refine T.fo S hbd len ?_
  intro cdv A outer s H vs Q E hr h
  obtain ⟨t, a, b⟩ := hb cdv A outer s H vs Q E hr h
  exact ⟨t, a.nox, b⟩
end
section
variable {X : Cx} {CX : CXT} {k : Nat} {f C : Addr} {ps : List Str} {sp : Sp} {E : XK} {x m : Str} {p p1 p2 pos : Pos} {e : Expr} {es : List Expr} {t : TA}
theorem aes {mc : Value} {pl : Sem Bool} (c : FO X.prog X.w X.K X.mg X.base CX k f ps sp) (hr : Room k X.A) (hg : Gl X x) (hm : X.mg x = some (.ref C)) (r : ClX.CRead X.K C mc) (v : ClX.CVal X.K C mc m (.ref f) (.ref f)) (hx : Passes CX X E) (ha : PA X (e :: es) t)
    (hc : eval (.Call (.Attribute (.Name x p1) m p2) (e :: es) [] pos) X.env = (do
      let ov ← eval (.Name x p1) X.env
      standAt p2.atName
      let (f, first) ← holding [ov] (getMethod ov m pl)
      callWith pos f first (backTo pos (starEach (e :: es) X.env)) (backToKw pos (keywordEach [] X.env))) := by rfl)
    (hdb : (x == ("__debug__" : Str)) = false := by decide) (he : starEach (e :: es) X.env = (false, eval e X.env) :: starEach es X.env := by rfl)
    (hpl : (backTo pos (starEach es X.env)).any (·.1) = false := by rfl) :
    PE X (.Call (.Attribute (.Name x p1) m p2) (e :: es) [] pos) (tCall sp [] E t) := by
  obtain ⟨fd, b, kp, F⟩ := c.ex
  constructor
  intro pins s σ H Q I h
  refine PySem.W.methodCall_KW (ld_glob I hg hm ?_ hdb) hc
  refine PySem.W.method_cls I.kIn r.ga (ClX.getcval_ok I r v ?_)
  intro s' J
  show wpAny _ _ (callWith pos (Value.ref f) [] (backTo pos (starEach (e :: es) X.env)) []) _ _ _
  refine PySem.W.callWith_K (h₀ := X.base) J.ok.mod.kin kp (thn (ha.run pos pins s' σ H _ J h) ?_) he hpl
  rintro us s1 ⟨vs, H1, I1, r1, q⟩
  exact ⟨I1.kIn, run_fn F hr b .nil hx I1 r1 q⟩
end
def clA (ta : TA) : TA := fun σ H Q => ∃ P : List V → Hp → Prop, ta σ H P ∧ ∀ vs H1, P vs H1 → Q vs H1
theorem PA.cl {X : Cx} {es : List Expr} {ta : TA} (h : PA X es ta) : PA X es (clA ta) := by
  constructor
  rintro pos pins s σ H Q I ⟨P, hP, imp⟩
  refine thn (h.run pos pins s σ H P I hP) ?_
  rintro us s' ⟨vs, H', I', r, q⟩
  exact ⟨vs, H', I', r, imp _ _ q⟩
def clE (te : TE) : TE := fun σ H Q => ∃ P : VK, te σ H P ∧ ∀ v H1, P v H1 → Q v H1
theorem PE.cl {X : Cx} {e : Expr} {te : TE} (h : PE X e te) : PE X e (clE te) := by
  constructor
  rintro pins s σ H Q I ⟨P, hP, imp⟩
  refine thn (h.run pins s σ H P I hP) ?_
  rintro u s' ⟨v, H', I', r, q⟩
  exact ⟨v, H', I', r, imp _ _ q⟩
def spInit (K : PySem.W.Frag) (names : List Str) (mk : List V → Option (List (Str × V))) : Sp := fun vs H Q _ => ∃ (a C : Addr) (args : List V) (fs : List (Str × V)), vs = .ref a :: args ∧ mk args = some fs ∧ OexC K C ∧
  (∀ n ∈ names, PySem.W.findIn K (.ref C) n = some none) ∧ H a = some (exo a C none) ∧ ∀ dx H', H dx = none → dx ≠ a → H' = upd (upd H dx (exd dx fs)) a (exo a C (some dx)) → Q .non H'
structure Fp (P : Program) (w : World) (K : PySem.W.Frag) (mg : Str → Option Value) (base : Heap) (k : Nat) (x : Str) (ps names : List Str) (mk : List V → Option (List (Str × V))) : Prop where
  oex : OexC K (He.ga K x)
  gl : mg x = some (.ref (He.ga K x))
  at_ : PySem.W.findIn K (.ref (He.ga K x)) "__init__" = some (some (.ref (He.ma K (He.ga K x) "__init__")))
  ty : PySem.W.typeIn K (.ref (He.ma K (He.ga K x) "__init__")) = some (.type "function")
  no : ∀ n ∈ names, PySem.W.findIn K (.ref (He.ga K x)) n = some none
  fo : FO P w K mg base CX0 k (He.ma K (He.ga K x) "__init__") ps (spInit K names mk)
theorem Fp.mono {P : Program} {w : World} {K : PySem.W.Frag} {mg : Str → Option Value} {base : Heap} {j k : Nat} {x : Str} {ps names : List Str} {mk : List V → Option (List (Str × V))} (c : Fp P w K mg base j x ps names mk) (h : j ≤ k) : Fp P w K mg base k x ps names mk :=
  ⟨c.oex, c.gl, c.at_, c.ty, c.no, c.fo.mono h⟩
def aeu (C : Addr) (mk : List V → Option (List (Str × V))) (ta : TA) : L2.St → Hp → XK → Prop := fun σ H Q => ta σ H fun vs H1 => vs.length ≤ 1000 ∧ ∃ fs, mk vs = some fs ∧ ∀ d H2, H1 d = none → H2 = upd H1 d (.xd fs) → Q (.ref C) (some d) H2
theorem ajk {X : Cx} {k : Nat} {x : Str} {ps names : List Str} {mk : List V → Option (List (Str × V))} {e : Expr} {es : List Expr} {ta : TA} {p pos : Pos} (c : Fp X.prog X.w X.K X.mg X.base k x ps names mk) (hr : Room (k + 1) X.A) (hg : Gl X x) (ha : PA X (e :: es) ta)
    (hdb : (x == ("__debug__" : Str)) = false := by decide) (he : starEach (e :: es) X.env = (false, eval e X.env) :: starEach es X.env := by rfl) (hpl : (backTo pos (starEach es X.env)).any (·.1) = false := by rfl) :
    PMk X (.Call (.Name x p) (e :: es) [] pos) (aeu (He.ga X.K x) mk ta) := by
  obtain ⟨fd, b, kp, F⟩ := c.fo.ex
  intro pins s σ H Q I h
  refine pmk_oex c.oex c.at_ c.ty F hr b .nil (fun _ _ _ _ _ _ _ z => z.elim) hg c.gl (PA.cl ha) hdb he hpl pins s σ H Q I ?_
  refine ⟨_, h, ?_⟩
  rintro vs H1 ⟨hl, fs, hm, q⟩
  refine ⟨hl, fun a ha0 => ?_⟩
  rw [List.append_nil]
  refine ⟨a, _, vs, fs, rfl, hm, c.oex, c.no, upd_same, ?_⟩
  intro dx H' hdx hne e'
  subst e'
  have ahi : H1 dx = none := by
    rw [upd_ne hne] at hdx
    exact hdx
  refine ⟨rfl, dx, fs, upd_same, ?_, ahi, q dx _ ahi ?_⟩
  · rw [upd_ne hne, upd_same]
  · funext b
    by_cases hb : b = dx
    · rw [hb, upd_same, upd_same]
    · rw [upd_ne hb, upd_ne hb]
      by_cases hba : b = a
      · rw [hba, del_same, ha0]
      · rw [del_ne hba, upd_ne hba, upd_ne hb, upd_ne hba]
theorem acS {X : Cx} {W : WX} {k : Nat} {x : Str} {ps names : List Str} {mk : List V → Option (List (Str × V))} {e : Expr} {es : List Expr} {ta : TA} {p pos pos2 : Pos} (c : Fp X.prog X.w X.K X.mg X.base k x ps names mk) (hr : Room (k + 1) X.A) (hc : X.calm = true) (tk : Takes X W) (hg : Gl X x) (ha : PA X (e :: es) ta)
    (hdb : (x == ("__debug__" : Str)) = false := by decide) (he : starEach (e :: es) X.env = (false, eval e X.env) :: starEach es X.env := by rfl) (hpl : (backTo pos (starEach es X.env)).any (·.1) = false := by rfl) :
    PS X (.Raise (some (.Call (.Name x p) (e :: es) [] pos)) none pos2) (fun _ σ H => aeu (He.ga X.K x) mk ta σ H fun cls d H' => W cls d σ H') := ps_raise hc tk (ajk c hr hg ha hdb he hpl)
section
variable {K : PySem.W.Frag} {σ : L2.St} {H : Hp} {Q : VK} {D : Ends} {ta : TA} {to te : TE} {a C : Addr} {f : Str}
theorem ajl (h : ta σ H fun vs H1 => ∃ (a C : Addr) (ws : List V), vs = .ref a :: ws ∧ ws.length ≤ 1000 ∧ OexC K C ∧ H1 a = some (exo a C none) ∧ Q .non H1) : tVeI K ta σ H Q := h
theorem afr (h : te σ H fun y H1 => to σ H1 fun x H2 => ∃ a C : Addr, x = .ref a ∧ OexC K C ∧ PySem.W.findIn K (.ref C) f = some none ∧
  ((H2 a = some (exo a C none) ∧ ∀ dx, H2 dx = none → dx ≠ a → D.nx σ (upd (upd H2 dx (exd dx [(f, y)])) a (exo a C (some dx)))) ∨
    ∃ (dx : Addr) (fs : List (Str × V)), H2 a = some (exo a C (some dx)) ∧ H2 dx = some (exd dx fs) ∧ fs.length ≤ 900 ∧ D.nx σ (upd H2 dx (exd dx ((f, y) :: fs))))) : tOst K f to te D σ H := h
end
end GB
namespace GB
open PySem PySem.Spec PyProof.Rows L2
def Bj (K : PySem.W.Frag) (C : Addr) : Bool := (match K.lookup C with
  | some ⟨.type "type", _, .cls cd, sl⟩ => (match cd.mro, sl.toList with
    | .ref C' :: bm, [_, _, _, _, some (.builtin n), _] => C' == C && (n == "ValueError.__new__" && (!cd.hasDel && (cd.hasDict && PySem.HandSPX.refsVE bm)))
    | _, _ => false)
  | _ => false) && (decide (PySem.W.findIn K (.ref C) "__setattr__" = some (some (.builtin "object.__setattr__"))) && (decide (PySem.W.subIn K (.ref C) (.type "BaseException") = some true) &&
    (decide (PySem.W.typeIn K (.ref C) = some (.type "type")) && PySem.W.keepIn K (.ref C))))
theorem abm {K : PySem.W.Frag} {C : Addr} (h : Bj K C = true) : OexC K C := by
  unfold Bj at h
  obtain ⟨h1, h⟩ := Bool.and_eq_true_iff.mp h
  obtain ⟨h2, h⟩ := Bool.and_eq_true_iff.mp h
  obtain ⟨h3, h⟩ := Bool.and_eq_true_iff.mp h
  obtain ⟨h4, h5⟩ := Bool.and_eq_true_iff.mp h
  refine ⟨?_, of_decide_eq_true h2, of_decide_eq_true h3, of_decide_eq_true h4, h5⟩
  split at h1
  · rename_i dd cd sl ho
    split at h1
    · rename_i C' bm k0 k1 k2 k3 n k5 hm hs
      simp only [Bool.and_eq_true, beq_iff_eq, Bool.not_eq_true'] at h1
      obtain ⟨rfl, rfl, hd, hh, hr⟩ := h1
      obtain ⟨nm, bs, mro, ns, qn, hdd, sn, sb, ab, col, del⟩ := cd
      dsimp only at hm hd hh
      subst hm hd hh
      have hsl : sl = #[k0, k1, k2, k3, some (.builtin "ValueError.__new__"), k5] := by
        rw [← Array.toArray_toList (xs := sl), hs]
      subst hsl
      exact ⟨nm, qn, ns, bs, bm, sn, sb, ab, col, dd, k0, k1, k2, k3, k5, ho, hr⟩
    · cases h1
  · cases h1
def Uu (K : PySem.W.Frag) (C : Addr) (m : Str) (f : Addr) : Bool := PySem.W.readsIn K C (.type "type") && (decide (PySem.W.specialIn K (.ref C) "__getattribute__" = some (some (.builtin "type.__getattribute__"))) &&
  (match PySem.W.findCls K (.ref C) (.type "type") m with
  | some (.val (.ref g)) => g == f
  | _ => false))
theorem Vh {K : PySem.W.Frag} {C f : Addr} {m : Str} (h : Uu K C m f = true) : ClX.CRead K C (.type "type") ∧ ClX.CVal K C (.type "type") m (.ref f) (.ref f) := by
  unfold Uu at h
  obtain ⟨h1, h⟩ := Bool.and_eq_true_iff.mp h
  obtain ⟨h2, h3⟩ := Bool.and_eq_true_iff.mp h
  refine ⟨⟨h1, of_decide_eq_true h2⟩, ⟨?_, rfl⟩⟩
  split at h3
  · rename_i g hg
    rw [hg, beq_iff_eq.mp h3]
  · cases h3
def zp (K : PySem.W.Frag) (C : Addr) (m : Str) : Bool := decide (PySem.W.findIn K (.ref C) m = some (some (.ref (He.ma K C m)))) && decide (PySem.W.typeIn K (.ref (He.ma K C m)) = some (.type "function"))
theorem zq {K : PySem.W.Frag} {C : Addr} {m : Str} (h : zp K C m = true) : PySem.W.findIn K (.ref C) m = some (some (.ref (He.ma K C m))) ∧ PySem.W.typeIn K (.ref (He.ma K C m)) = some (.type "function") := by
  obtain ⟨h1, h2⟩ := Bool.and_eq_true_iff.mp h
  exact ⟨of_decide_eq_true h1, of_decide_eq_true h2⟩
def Vi (K : PySem.W.Frag) (C : Addr) (names : List Str) : Bool := names.all fun n => decide (PySem.W.findIn K (.ref C) n = some none)
theorem Vj {K : PySem.W.Frag} {C : Addr} {names : List Str} (h : Vi K C names = true) : ∀ n ∈ names, PySem.W.findIn K (.ref C) n = some none := fun n hn => of_decide_eq_true (List.all_eq_true.mp h n hn)
def xJ (K : PySem.W.Frag) (D : Addr) : Bool := decide (PySem.W.findIn K (.ref D) "__getattribute__" = some (some (.builtin "BaseException.__getattribute__"))) && (decide (PySem.W.findIn K (.ref D) "__getattr__" = some none) &&
  (decide (PySem.W.subIn K (.ref D) (.type "BaseException") = some true) && (PySem.W.hasDictIn K D && (decide (PySem.W.findIn K (.ref D) "__class__" = some (some (.builtin "object.__class__"))) &&
  (decide (PySem.W.specialIn K (.builtin "object.__class__") "__get__" = some (some (.builtin "getset_descriptor.__get__"))) && (decide (PySem.W.takesIn K (.builtin "object.__class__") = some true) && decide (PySem.W.mroIn K D (.type "object") = some true)))))))
theorem Vk {K : PySem.W.Frag} {D : Addr} (h : xJ K D = true) : ExcC K D ∧ XfC K D := by
  unfold xJ at h
  obtain ⟨h1, h⟩ := Bool.and_eq_true_iff.mp h
  obtain ⟨h2, h⟩ := Bool.and_eq_true_iff.mp h
  obtain ⟨h3, h⟩ := Bool.and_eq_true_iff.mp h
  obtain ⟨h4, h⟩ := Bool.and_eq_true_iff.mp h
  obtain ⟨h5, h⟩ := Bool.and_eq_true_iff.mp h
  obtain ⟨h6, h⟩ := Bool.and_eq_true_iff.mp h
  obtain ⟨h7, h8⟩ := Bool.and_eq_true_iff.mp h
  exact ⟨⟨of_decide_eq_true h1, of_decide_eq_true h2, of_decide_eq_true h3, h4, of_decide_eq_true h5, of_decide_eq_true h6, of_decide_eq_true h7, of_decide_eq_true h8⟩, ⟨of_decide_eq_true h1, of_decide_eq_true h2, of_decide_eq_true h3, h4⟩⟩
def tupB (K : PySem.W.Frag) (a : Addr) (vs : List V) : Bool := match K.lookup a with
  | some ⟨.type "tuple", _, .seq its _, _⟩ => decide (its.size ≤ 1000) && He.relAll vs its.toList
  | _ => false
theorem tupB_ok {K : PySem.W.Frag} {a : Addr} {vs : List V} (h : tupB K a vs = true) (H : Hp) : SqT K H a vs := by
  unfold tupB at h
  split at h
  · rename_i od its n sl ho
    obtain ⟨h1, h2⟩ := Bool.and_eq_true_iff.mp h
    have r := He.relAll_ok h2
    refine .inr ?_
    exact ⟨_, its, n, ho, rfl, rfl, Nat.le_trans (of_decide_eq_true h1) (by decide), r⟩
  · cases h
abbrev Vl : Type := He.AlT × Bool
def obsE (fa : List He.Fa) (fn : List He.DefD) (ts : List He.Tab) (ex : List (PySem.W.Frag → Bool)) (K : PySem.W.Frag) : Vl := (He.obsT fa fn ts K, ex.all fun f => f K)
def valE (fn : List He.DefD) (ts : List He.Tab) (w : World) : Vl := (He.valT fn ts w, true)
def SaysE (fa : List He.Fa) (fn : List He.DefD) (ts : List He.Tab) (ex : List (PySem.W.Frag → Bool)) (w : World) (K : PySem.W.Frag) : Prop := obsE fa fn ts ex K = valE fn ts w
def Bl (r : PySem.W.OpenRow) {α : Type} (ob : PySem.W.SharedT → α) (M : Nat) (v : World → α) (w : World) : Prop := ∀ os : OsState, (HandSHeadRun.endF (HandSHeadRun.stepQ (HandSHeadRun.denQ HandSHeadRun.tabQ) r.prog w) M r.prog w os).map ob = some (v w)
theorem Bl.row {r : PySem.W.OpenRow} {α : Type} {ob : PySem.W.SharedT → α} {M : Nat} {v : World → α} (hf : ∀ w : World, Bl r ob M v (w.withFollow "special-get-raises" false)) (ht : ∀ w : World, Bl r ob M v (w.withFollow "special-get-raises" true)) (w : World) : Bl r ob M v w :=
  PySem.W.byRow2 "special-get-raises" (P := fun w => Bl r ob M v w) hf ht w
theorem Bl.map {r : PySem.W.OpenRow} {α β : Type} {ob : PySem.W.SharedT → α} {oc : PySem.W.SharedT → β} {M : Nat} {v : World → α} {u : World → β} {w : World} (h : Bl r ob M v w) (f : ∀ s, ob s = v w → oc s = u w) : Bl r oc M u w := by
  intro os
  have a := h os
  cases e : HandSHeadRun.endF (HandSHeadRun.stepQ (HandSHeadRun.denQ HandSHeadRun.tabQ) r.prog w) M r.prog w os with
  | none =>
    rw [e] at a
    cases a
  | some s =>
    rw [e] at a
    show some (oc s) = _
    rw [f s (Option.some.inj a)]
abbrev Part : Type := List He.Fa × List He.DefD × List (PySem.W.Frag → Bool)
def Vm (ps : List Part) (w : World) : List Vl := ps.map fun p => valE p.2.1 [] w
abbrev AlP : Type := Vl × List Vl
structure afs (fa : List He.Fa) (ts : List He.Tab) (ps : List Part) (w : World) (K : PySem.W.Frag) : Prop where
  b : SaysE fa [] ts [] w K
  p : ∀ (i : Nat) (q : Part), ps[i]? = some q → SaysE q.1 q.2.1 [] q.2.2 w K
section
variable {fa : List He.Fa} {fn : List He.DefD} {ts : List He.Tab} {ex : List (PySem.W.Frag → Bool)} {w : World} {K : PySem.W.Frag}
theorem SaysE.t (c : SaysE fa fn ts ex w K) : He.SaysT fa fn ts w K := congrArg (fun z : Vl => z.1) c
theorem SaysE.x (c : SaysE fa fn ts ex w K) (i : Nat) {f : PySem.W.Frag → Bool} (h : ex[i]? = some f := by rfl) : f K = true := by
  have c1 : (ex.all fun f => f K) = true := congrArg (fun z : Vl => z.2) c
  exact List.all_eq_true.mp c1 f (List.mem_of_getElem? h)
end
end GB
namespace GB
open PySem PySem.Spec PyProof.Rows L2
def zu (K : PySem.W.Frag) (C : Addr) : Bool := decide (PySem.W.findIn K (.ref C) "__class__" = some (some (.builtin "object.__class__"))) && (decide (PySem.W.specialIn K (.builtin "object.__class__") "__get__" = some (some (.builtin "getset_descriptor.__get__"))) &&
  (decide (PySem.W.takesIn K (.builtin "object.__class__") = some true) && decide (PySem.W.mroIn K C (.type "object") = some true)))
theorem abn {K : PySem.W.Frag} {H : Hp} {a C dx : Addr} {fs : List (Str × V)} (h : zu K C = true) (cl : Cls K C) (e : H a = some (.ins C dx fs)) : TyX K H (.ref a) (.ref C) := by
  unfold zu at h
  obtain ⟨h1, h⟩ := Bool.and_eq_true_iff.mp h
  obtain ⟨h2, h⟩ := Bool.and_eq_true_iff.mp h
  obtain ⟨h3, h4⟩ := Bool.and_eq_true_iff.mp h
  exact .base (.ins e cl (of_decide_eq_true h1) (of_decide_eq_true h2) (of_decide_eq_true h3) (of_decide_eq_true h4))
def veB (K : PySem.W.Frag) : Bool := match PySem.W.findCls K (.type "ValueError") (.type "type") "__init__" with
  | some (.val (.builtin n)) => n == "ValueError.__init__"
  | _ => false
theorem ahj {K : PySem.W.Frag} (h : veB K = true) : PySem.W.findCls K (.type "ValueError") (.type "type") "__init__" = some (.val (.builtin "ValueError.__init__")) := by
  unfold veB at h
  split at h
  · rename_i n hn
    rw [hn, beq_iff_eq.mp h]
  · cases h
end GB
noncomputable section
namespace HP
open PySem PySem.W PySem.Calls PyProof.Rows
def acT : List Stmt → Env → Sem Flow := PySem.W.Fast.tw12563942051412417395
theorem acU : @PySem.execs = acT := PySem.W.Fast.te12563942051412417395
abbrev RN (p : Program) (w : World) : SharedT → Thread → Option (SharedT × Thread) := HandSHeadRun.stepQ (HandSHeadRun.denQ HandSHeadRun.tabQ) p w
theorem Hf (p : Program) (w : World) : stepT (denote treeTable) p w = RN p w := by
  unfold RN
  rw [HandSHeadRun.stepQ_eq, HandSHeadRun.denQ_eq, HandSHeadRun.tabQ_eq]
section
variable (st : SharedT → Thread → Option (SharedT × Thread)) (n0 : Nat) (ann : Option Value)
def QJ : Nat → SharedT → Thread → Option (Flow × SharedT × Code × Pos)
  | 0, _, _ => none
  | m + 1, s, t => match endAt 1 t with
    | some f => some (f, s, t.code, t.pos)
    | none => match stepOk n0 ann t with
      | false => none
      | true => match st s t with
        | some (s', t') => HandSHeadRun.frS s' fun s' => QJ m s' t'
        | none => none
def goP : Nat → SharedT → Thread → Option (SharedT × Thread)
  | 0, s, t => some (s, t)
  | m + 1, s, t => match through t with
    | true => none
    | false => match stepOk n0 ann t with
      | false => none
      | true => match st s t with
        | some (s', t') => HandSHeadRun.frS s' fun s' => goP m s' t'
        | none => none
end
theorem QK {tb : String → Option Builtin} {p : Program} {w : World} {n0 : Nat} {ann : Option Value} : ∀ (m : Nat) (s : SharedT) (t : Thread), QJ (stepT (denote tb) p w) n0 ann m s t = segRunT tb p w n0 ann 1 m s t
  | 0, _, _ => rfl
  | m + 1, s, t => by
    unfold QJ segRunT
    cases endAt 1 t with
    | some f => rfl
    | none =>
      cases stepOk n0 ann t with
      | false => rfl
      | true =>
        cases h : stepT (denote tb) p w s t with
        | none => rfl
        | some r =>
          dsimp only
          rw [HandSHeadRun.frS_eq]
          exact QK m r.1 r.2
theorem acV {tb : String → Option Builtin} {p : Program} {w : World} {n0 : Nat} {ann : Option Value} : ∀ {m : Nat} {s s' : SharedT} {t t' : Thread}, goP (stepT (denote tb) p w) n0 ann m s t = some (s', t') → topGo tb p w n0 ann m s.abs t = some (s'.abs, t')
  | 0, s, s', t, t', h => by
    have h1 : some (s, t) = some (s', t') := h
    cases h1
    rfl
  | m + 1, s, s', t, t', h => by
    unfold goP at h
    unfold topGo
    cases h1 : through t with
    | true => rw [h1] at h; cases h
    | false =>
      rw [h1] at h
      cases h2 : stepOk n0 ann t with
      | false => rw [h2] at h; cases h
      | true =>
        rw [h2] at h
        cases h3 : stepT (denote tb) p w s t with
        | none => rw [h3] at h; cases h
        | some r =>
          rw [h3] at h
          dsimp only at h
          rw [HandSHeadRun.frS_eq] at h
          rw [stepT_spec h3]
          exact acV h
section
variable {p : Program} {w : World} {n0 : Nat} {ann : Option Value} {env : Env} {q : Pos} {c : Code} {pos pos' : Pos} {s s' : SharedT} {r : Shared} {n N i m : Nat} {b : List Stmt}
def Piece (p : Program) (w : World) (n0 : Nat) (ann : Option Value) (env : Env) (q : Pos) (c : Code) (b : List Stmt) (i m n : Nat) (s s' : SharedT) (pos pos' : Pos) : Prop :=
  QJ (RN p w) n0 ann n s ⟨(acT ((b.drop i).take m) env).wrap doneF deadEnd id id, c, pos, [topFrame q]⟩ = some (.next, s', c, pos')
theorem Piece.app (h : Piece p w n0 ann env q c b i m n s s' pos pos') (k : topRun treeTable p w n0 ann N s'.abs (restOf (b.drop (i + m)) env c pos' [topFrame q]) = some r) :
    topRun treeTable p w n0 ann (n + N) s.abs (restOf (b.drop i) env c pos [topFrame q]) = some r := by
  unfold Piece at h
  rw [← Hf, QK, ← acU] at h
  have e : b.drop i = (b.drop i).take m ++ b.drop (i + m) := by
    rw [← List.drop_drop, List.take_append_drop]
  rw [e]
  exact piece_app (segRun_of h) k
theorem abY (hl : b.length ≤ i) (k : HandSHeadRun.goF (RN p w) n0 ann N s ⟨doneF .next, c, pos, [topFrame q]⟩ = some s') : topRun treeTable p w n0 ann N s.abs (restOf (b.drop i) env c pos [topFrame q]) = some s'.abs := by
  rw [List.drop_of_length_le hl]
  rw [← Hf] at k
  exact piece_nil (HandSHeadRun.goF_ok k)
theorem block_start (h : QJ (RN p w) n0 ann n s (blockOf b env c pos [topFrame q]) = some (.next, s', c, pos')) (k : topRun treeTable p w n0 ann N s'.abs (restOf (b.drop 0) env c pos' [topFrame q]) = some r) :
    topRun treeTable p w n0 ann (n + N) s.abs ⟨denote treeTable (.body b env), c, pos, [topFrame q]⟩ = some r := by
  rw [← Hf, QK] at h
  exact piece_block (segRun_of h) k
def Dg (p : Program) (w : World) (os : OsState) (n : Nat) (r : SharedT × Thread) : Prop := (match HandSHeadRun.putAll (boot_heap w.params).objs.toList .nil 0 with
  | some (t, k) => HandSHeadRun.frNat k fun k => goP (RN p w) k (HandSHeadRun.bootAnn w) n (HandSHeadRun.bootT w os (t, k)) (topStub p)
  | none => none) = some r
theorem Dg.top {os : OsState} {t : Thread} (h : Dg p w os n (s, t)) (k : topRun treeTable p w (boot_heap w.params).objs.size (HandSHeadRun.bootAnn w) N s.abs t = some r) :
    topRun treeTable p w (boot_heap w.params).objs.size (HandSHeadRun.bootAnn w) (n + N) ⟨boot_heap w.params, #[], boot_drawn, boot_toks, os⟩ (topStub p) = some r := by
  unfold Dg at h
  cases e : HandSHeadRun.putAll (boot_heap w.params).objs.toList .nil 0 with
  | none => rw [e] at h; cases h
  | some x =>
    obtain ⟨T, j⟩ := x
    rw [e] at h
    dsimp only at h
    rw [HandSHeadRun.frNat_eq, ← Hf] at h
    have hh := HandSHeadRun.putAll_heap e
    have hj : (boot_heap w.params).objs.size = j := by
      rw [← hh]
      exact absHeap_size T j _
    have g := acV h
    have eb : (HandSHeadRun.bootT w os (T, j)).abs = ⟨boot_heap w.params, #[], boot_drawn, boot_toks, os⟩ := by
      show (⟨absHeap T j (boot_heap w.params).life, #[], boot_drawn, boot_toks, os⟩ : Shared) = _
      rw [hh]
    rw [eb] at g
    rw [← hj] at g
    exact go_top g k
end
structure Ends (p q : Program) (loose : List PySem.Str) (Xt : Shared → Bool) {α : Type} (Yf : Shared → α) (Ya : World → α) (M : Nat) (w : World) (os : OsState) (s : SharedT) : Prop where
  run : topRun treeTable p w (boot_heap w.params).objs.size (HandSHeadRun.bootAnn w) M ⟨boot_heap w.params, #[], boot_drawn, boot_toks, os⟩ (topStub p) = some s.abs
  looks : HandSHeadRun.looksF p (boot_heap w.params) s.abs = true
  seen : HandSHeadRun.seenQ q loose (importedModules p.main.body) Xt s.abs = openGood q loose
  says : Yf s.abs = Ya w
theorem af9 {p q : Program} {loose : List PySem.Str} {Xt : Shared → Bool} {α : Type} {Yf : Shared → α} {Ya : World → α} {M : Nat} (e : opening p = plainProg p.main.scope.names) (f : ∀ s, fenceModules? p s = some s)
    (h : ∀ w os, ∃ s, Ends p q loose Xt Yf Ya M w os s) : LeftO p q loose Xt Yf Ya (M + 600) true := by
  intro w
  obtain ⟨⟨hp, gs, dr, tk, os⟩, a, a'⟩ := Option.map_eq_some_iff.mp (boot_open (N := M + 600) e (Nat.ble_eq_true_of_le (by omega)) f w)
  obtain ⟨rfl, rfl, rfl, rfl⟩ : hp = boot_heap w.params ∧ gs = Array.mk [] ∧ dr = boot_drawn ∧ tk = boot_toks := by simpa using a'
  obtain ⟨s, E⟩ := h w os
  have r := topRun_mono 600 _ _ _ _ E.run
  have t : topFrom treeTable p w (M + 600) ⟨boot_heap w.params, Array.mk [], boot_drawn, boot_toks, os⟩ = some s.abs := by
    unfold topFrom
    dsimp only
    rw [HandSHeadRun.boot_ns]
    show Option.bind (topRun treeTable p w (boot_heap w.params).objs.size (HandSHeadRun.bootAnn w) (M + 600) ⟨boot_heap w.params, #[], boot_drawn, boot_toks, os⟩ (topStub p)) _ = some s.abs
    rw [r]
    have l := E.looks
    unfold HandSHeadRun.looksF at l
    show (match staticsOk (importedModules p.main.body) (boot_heap w.params) s.abs.heap && namesBound p s.abs.heap && gensDone s.abs && laidKept (boot_heap w.params) s.abs.heap with | true => some s.abs | false => none) = some s.abs
    rw [l]
  have sn := E.seen
  rw [← HandSHeadRun.seenQ_eq] at sn
  unfold openEnds
  rw [a]
  show Option.map _ (topFrom treeTable p w (M + 600) _) = _
  rw [t]
  exact congrArg some (Prod.ext sn E.says)
theorem head {r : OpenRow} {q : Program} {H : Hook} {M : Nat} {loose : List PySem.Str} {d : DefRec} {kwd : List (PySem.Str × PySem.Expr)}
    (e : opening r.prog = plainProg r.prog.main.scope.names) (f : ∀ s, fenceModules? r.prog s = some s) (h : ∀ w os, ∃ s, Ends r.prog q loose (fun s => xlAt q [] s && recOk r.toRowW.records s) H.obs H.val M w os s)
    (hdef : defOf q r.name = some (d, kwd)) (hp : r.prog.theDef r.name = some (d.params, d.body, d.scope)) (hk : kwWritten? d.params.kwonlyargs d.params.kw_defaults = some kwd)
    (hwr : (!r.writes || r.records.isEmpty) = true) (k1 : r.wellSaid = true) (ok : (chainsOk q && opensWell r.prog && (frees r.toRowW && r.within.isEmpty)) = true) (hb : r.prog.bare) (hw : r.toRowW.promised)
    (call : WalkO q loose (XL q []) H.says r.toRowW d kwd fun f vs => PySem.call f vs) : r.Holds :=
  holds_open (r := r) (q := q) (loose := loose) (XP := XL q []) (YP := H.says) (d := d) (kwd := kwd) (af9 e f h) H.of H.keeps (fun s z => xl_of s (Bool.and_eq_true_iff.mp z).1) XL.keeps hdef hp hk
    (fun s z => recFacts_of (Bool.and_eq_true_iff.mp z).2) hwr k1 ok hb hw call
end HP
end
namespace PD
open PySem PySem.Spec PyProof.Rows L2
def keyB (K : PySem.W.Frag) (a : Addr) (ks : List Str) : Bool := match K.lookup a with
  | some ⟨_, _, .dict es _, _⟩ => es.toList.all fun e => !e.refKey && ks.any fun k => e.key.isStr k
  | _ => false
inductive Tv where
  | int (i : Int) | str (x : Str) | tup (l : List Tv)
mutual
def QL (K : PySem.W.Frag) : Value → Tv → Bool
  | u, .int i => match u with
    | .int j _ => decide (j = i)
    | _ => false
  | u, .str x => match u with
    | .str y _ => decide (y = x)
    | _ => false
  | u, .tup l => match u with
    | .ref b => (match K.lookup b with
      | some ⟨.type "tuple", _, .seq its _, _⟩ => decide (its.size ≤ 1000) && Vn K its.toList l
      | _ => false)
    | _ => false
def Vn (K : PySem.W.Frag) : List Value → List Tv → Bool
  | us, [] => us.isEmpty
  | us, t :: ts => match us with
    | u :: us => QL K u t && Vn K us ts
    | [] => false
end
def aev (K : PySem.W.Frag) (a : Addr) (kvs : List (Str × Tv)) : Bool := kvs.all fun q => match PySem.W.nsIn K a q.1 with
  | some (some u) => QL K u q.2
  | _ => false
def yj (K : PySem.W.Frag) : List DictEntry → List (Int × Str) → Bool
  | [], [] => true
  | e :: es, q :: qs => (match e.key with
      | .int i _ => decide (i = q.1)
      | _ => false) && decide (e.hash = hashInt q.1) && decide (e.val = .ref (He.ga K q.2)) && yj K es qs
  | _, _ => false
def afv (K : PySem.W.Frag) (x : Str) (qs : List (Int × Str)) : Bool := match K.lookup (He.ga K x) with
  | some ⟨.type "dict", none, .dict es _, sl⟩ => decide (sl = #[]) && !(He.ga K x == sysModules) && yj K es.toList qs
  | _ => false
end PD
namespace HP
open PySem PySem.W PySem.Calls PyProof.Rows
theorem aga {p q : Program} {loose : List PySem.Str} {Xt : Shared → Bool} {α : Type} {Yf : Shared → α} {Ya : World → α} {M0 : Nat} {w : World} {os : OsState} {s : SharedT}
    (h : ∃ M, M ≤ M0 ∧ topRun treeTable p w (boot_heap w.params).objs.size (HandSHeadRun.bootAnn w) M ⟨boot_heap w.params, #[], boot_drawn, boot_toks, os⟩ (topStub p) = some s.abs)
    (h1 : HandSHeadRun.looksF p (boot_heap w.params) s.abs = true) (h2 : HandSHeadRun.seenQ q loose (importedModules p.main.body) Xt s.abs = openGood q loose) (h3 : Yf s.abs = Ya w) : ∃ s, Ends p q loose Xt Yf Ya M0 w os s := by
  obtain ⟨M, hM, h⟩ := h
  obtain ⟨k, hk⟩ := Nat.exists_eq_add_of_le hM
  refine ⟨s, ?_, h1, h2, h3⟩
  rw [hk]
  exact topRun_mono k _ _ _ _ h
def aew (as : List Addr) (fa : List He.Fa) (ts : List He.Tab) (ps : List GB.Part) (g : Addr → Option Obj) : GB.AlP := (GB.obsE fa [] ts [] (He.frG g as), ps.map fun p => GB.obsE p.1 p.2.1 [] p.2.2 (He.frG g as))
def abZ (as : List Addr) (fa : List He.Fa) (ts : List He.Tab) (ps : List GB.Part) : PySem.W.Hook where
  α := GB.AlP
  obs := fun s => aew as fa ts ps s.heap.get?
  val := fun w => (GB.valE [] ts w, GB.Vm ps w)
  says := fun w h => ∃ K : PySem.W.Frag, K.In h ∧ GB.afs fa ts ps w K
  of := fun w s e => by
    have e1 : GB.obsE fa [] ts [] (He.frG s.heap.get? as) = GB.valE [] ts w := congrArg Prod.fst e
    have e2 : (ps.map fun p => GB.obsE p.1 p.2.1 [] p.2.2 (He.frG s.heap.get? as)) = ps.map fun p => GB.valE p.2.1 [] w := congrArg Prod.snd e
    refine ⟨_, He.frG_in, e1, fun i q hq => ?_⟩
    have e3 := congrArg (fun l => l[i]?) e2
    rw [List.getElem?_map, List.getElem?_map, hq] at e3
    exact Option.some.inj e3
  keeps := fun _ _ _ ⟨K, hK, c⟩ k => ⟨K, PySem.W.Frag.In.keeps hK k, c⟩
theorem aex {as : List Addr} {fa : List He.Fa} {ts : List He.Tab} {ps : List GB.Part} {s : SharedT} {w : World} {K : PySem.W.Frag} (hK : He.frG (HandSHeadRun.getT s) as = K) (hb : GB.obsE fa [] ts [] K = GB.valE [] ts w) (hq : (ps.map fun p => GB.obsE p.1 p.2.1 [] p.2.2 K) = GB.Vm ps w) :
    (abZ as fa ts ps).obs s.abs = (abZ as fa ts ps).val w := by
  have e : s.abs.heap.get? = HandSHeadRun.getT s := funext fun a => (HandSHeadRun.getT_eq s a).symm
  show aew as fa ts ps s.abs.heap.get? = (GB.valE [] ts w, GB.Vm ps w)
  unfold aew
  rw [e, hK, hb, hq]
end HP
namespace GB
open PySem PySem.Spec PyProof.Rows L2
mutual
inductive Im (K : PySem.W.Frag) (H : Hp) : V → PyData → Prop
  | non : Im K H .non .none
  | bl (b : Bool) : Im K H (.bl b) (.bool b)
  | int (i : Int) : Im K H (.int i) (.int i)
  | str (z : Str) : Im K H (.str z) (.str z)
  | tup {a : Addr} {xs : List V} {ds : List PyData} : SqT K H a xs → iJ K H xs ds → Im K H (.ref a) (.tuple ds)
inductive iJ (K : PySem.W.Frag) (H : Hp) : List V → List PyData → Prop
  | nil : iJ K H [] []
  | cons {v : V} {vs : List V} {d : PyData} {ds : List PyData} : Im K H v d → iJ K H vs ds → iJ K H (v :: vs) (d :: ds)
end
structure Kp (H H' : Hp) : Prop where
  tup : ∀ a xs, H a = some (.tup xs) → H' a = some (.tup xs)
  frz : ∀ a o u, H a = some (.frz o u) → H' a = some (.frz o u)
section
variable {K : PySem.W.Frag} {H H' H2 : Hp}
theorem Kp.refl : Kp H H := ⟨fun _ _ h => h, fun _ _ _ h => h⟩
theorem Kp.trans (a : Kp H H') (b : Kp H' H2) : Kp H H2 := ⟨fun x y h => b.tup x y (a.tup x y h), fun x y z h => b.frz x y z (a.frz x y z h)⟩
theorem Kp.same (s : Same H H') : Kp H H' := ⟨fun a _ h => s a _ h, fun a _ _ h => s a _ h⟩
theorem Kp.new {p : Addr} {o : HO} (h : H p = none) : Kp H (upd H p o) := .same (same_new h)
theorem Kp.put {p : Addr} {o u : HO} (h : H p = some u) (m : Mut (some u)) : Kp H (upd H p o) := by
  refine ⟨fun a xs e => ?_, fun a ob x e => ?_⟩
  · have ne : a ≠ p := fun z => by
      rw [z, h] at e
      cases e
      exact m
    rw [upd_ne ne]
    exact e
  · have ne : a ≠ p := fun z => by
      rw [z, h] at e
      cases e
      exact m
    rw [upd_ne ne]
    exact e
theorem Kp.ext {w : Addr} {u : HO} (e : Ext w H H') (h : H w = some u) (m : Mut (some u)) : Kp H H' := by
  refine ⟨fun a xs q => e a _ (fun z => ?_) q, fun a ob x q => e a _ (fun z => ?_) q⟩
  · rw [z, h] at q
    cases q
    exact m
  · rw [z, h] at q
    cases q
    exact m
theorem Kp.sq (k : Kp H H') {a : Addr} {xs : List V} (h : SqT K H a xs) : SqT K H' a xs := by
  rcases h with (h | ⟨o, h⟩) | h
  · exact .inl (.inl (k.tup _ _ h))
  · exact .inl (.inr ⟨o, k.frz _ _ _ h⟩)
  · exact .inr h
mutual
theorem Im.kp (k : Kp H H') : ∀ {v : V} {d : PyData}, Im K H v d → Im K H' v d
  | _, _, .non => .non
  | _, _, .bl b => .bl b
  | _, _, .int i => .int i
  | _, _, .str z => .str z
  | _, _, .tup h a => .tup (k.sq h) (iJ.kp k a)
theorem iJ.kp (k : Kp H H') : ∀ {vs : List V} {ds : List PyData}, iJ K H vs ds → iJ K H' vs ds
  | _, _, .nil => .nil
  | _, _, .cons a b => .cons (Im.kp k a) (iJ.kp k b)
end
mutual
theorem Im.dp : ∀ {v : V} {d : PyData}, Im K H v d → Dp K H v d
  | _, _, .non => .non
  | _, _, .bl b => .bl b
  | _, _, .int i => .int i
  | _, _, .str z => .str z
  | _, _, .tup h a => .tup h (iJ.dp a)
theorem iJ.dp : ∀ {vs : List V} {ds : List PyData}, iJ K H vs ds → DpAll K H vs ds
  | _, _, .nil => .nil
  | _, _, .cons a b => .cons (Im.dp a) (iJ.dp b)
end
theorem iJ.length : ∀ {vs : List V} {ds : List PyData}, iJ K H vs ds → vs.length = ds.length
  | _, _, .nil => rfl
  | _, _, .cons _ b => by rw [List.length_cons, List.length_cons, iJ.length b]
theorem iJ.get : ∀ {vs : List V} {ds : List PyData} {i : Nat} {v : V}, iJ K H vs ds → vs[i]? = some v → ∃ d, ds[i]? = some d ∧ Im K H v d
  | _, _, _, _, .nil, e => by cases e
  | _, _, 0, _, .cons a _, e => by
    cases e
    exact ⟨_, rfl, a⟩
  | _, _, i + 1, _, .cons _ b, e => by
    rw [List.getElem?_cons_succ] at e
    obtain ⟨d, h1, h2⟩ := iJ.get b e
    exact ⟨d, by rw [List.getElem?_cons_succ]; exact h1, h2⟩
theorem iJ.app : ∀ {vs us : List V} {ds es : List PyData}, iJ K H vs ds → iJ K H us es → iJ K H (vs ++ us) (ds ++ es)
  | _, _, _, _, .nil, b => b
  | _, _, _, _, .cons a r, b => .cons a (iJ.app r b)
def isTup : PyData → Bool
  | .tuple _ => true
  | _ => false
def isRef : V → Bool
  | .ref _ => true
  | _ => false
theorem Im.ref : ∀ {v : V} {d : PyData}, Im K H v d → isRef v = isTup d
  | _, _, .non => rfl
  | _, _, .bl _ => rfl
  | _, _, .int _ => rfl
  | _, _, .str _ => rfl
  | _, _, .tup _ _ => rfl
end
mutual
def cnt : PyData → Nat
  | .tuple ds => 1 + acW ds
  | _ => 0
def acW : List PyData → Nat
  | [] => 0
  | d :: r => cnt d + acW r
end
mutual
def dep : PyData → Nat
  | .tuple ds => 1 + acX ds
  | _ => 0
def acX : List PyData → Nat
  | [] => 0
  | d :: r => max (dep d) (acX r)
end
mutual
def sz : PyData → Nat
  | .tuple ds => 1 + afw ds
  | _ => 1
def afw : List PyData → Nat
  | [] => 0
  | d :: r => sz d + afw r
end
theorem Paired.len {α β : Type} {F : α → β → Prop} : ∀ {l : List α} {m : List β}, Paired F l m → l.length = m.length
  | _, _, .nil => rfl
  | _, _, .cons _ t => by rw [List.length_cons, List.length_cons, Paired.len t]
theorem Paired.snoc {α β : Type} {F : α → β → Prop} {a : α} {b : β} (h : F a b) : ∀ {l : List α} {m : List β}, Paired F l m → Paired F (l ++ [a]) (m ++ [b])
  | _, _, .nil => .cons h .nil
  | _, _, .cons r t => .cons r (Paired.snoc h t)
end GB
namespace GB
open PySem PySem.Spec PyProof.Rows L2
def afx (K : PySem.W.Frag) (w : World) (td ty tx : TE) : TE := fun σ H Q => td σ H fun x H1 => ∃ a es n, x = .ref a ∧ KDict K w a es n ∧ ty σ H1 fun y H2 => tx σ H2 fun z H3 => ∃ (k : Str), y = .str k ∧
  ((∃ u v, PySem.W.nsIn K a k = some (some u) ∧ RelV v u ∧ Q v H3) ∨ (PySem.W.nsIn K a k = some none ∧ Q z H3))
theorem agb {X : Cx} {o e f : Expr} {apos cpos : Pos} {td ty tx : TE} (ho : PE X o td) (he : PE X e ty) (hf : PE X f tx) (m : M2 X o "get" apos e f cpos) : PE X (.Call (.Attribute o "get" apos) [e, f] [] cpos) (afx X.K X.w td ty tx) := by
  refine ⟨fun pins s σ H Q I h => ?_⟩
  refine wpAny_Call_method m.base m.few m.line PySem.F.plainAttrs_dict PySem.F.slot_dict_get PySem.F.type_dict_get (thn (ho.run pins s σ H _ I h) fun u s1 ⟨x, H1, I1, rx, a, es, n, ex, D, q1⟩ => ?_)
  subst ex
  obtain rfl : u = Value.ref a := rx
  refine ⟨kd_type D I1, fun b hb => ?_, ?_⟩
  · cases hb
    exact ⟨_, I1.kIn a _ D.at_, rfl⟩
  rw [m.trees]
  refine Calls.callWith_builtin rfl (Calls.evalArgs_plain (Calls.spliced_cons (thn (he.run pins s1 σ H1 _ I1 q1) fun iv s2 ⟨y, H2, I2, ry, q2⟩ =>
    Calls.spliced_cons (thn (hf.run pins s2 σ H2 _ I2 q2) fun fv s3 ⟨z, H3, I3, rz, k, ek, q3⟩ => Calls.spliced_nil ?_))))
  subst ek
  obtain ⟨t, rfl⟩ := (show ∃ t, iv = Value.str k t from ry)
  refine call_meetsIn PySem.F.slot_dict_get (kd_type D I3) PySem.F.entry_dict_get (PySem.F.args_dict_get_3 _ _ _) (meets_dict_get_default (PySem.strKind X.prog X.w) a (PySem.strKind_is X.prog X.w k t) D.low fv) ⟨_, PySem.W.mapOf_K (prog := X.prog) I3.kIn D.at_ D.lit, ?_⟩
  rcases q3 with ⟨u, v, e1, r1, q⟩ | ⟨e1, q⟩
  · rw [PySem.W.find_K D.at_ e1]
    exact ⟨v, H3, I3.tok _, r1, q⟩
  · rw [PySem.W.find_K D.at_ e1]
    exact ⟨z, H3, I3.tok _, rz, q⟩
def tCallS (i : Nat) (S : Addr → Sp → Prop) (E : XK) (t : TA) : TE := fun σ H Q => ∃ f sp, σ[i]? = some (some (.ref f)) ∧ S f sp ∧ t σ H fun vs H1 => sp vs H1 Q E
section
variable {X : Cx} {CX : CXT} {k i : Nat} {f C : Addr} {ps : List Str} {sp : Sp} {E : XK} {x m : Str} {p pos apos : Pos} {e o : Expr} {es : List Expr} {ta : TE} {t : TA}
def tMethS (S : Addr → Prop) (m : Str) (sp : Sp) (E : XK) (ta : TE) (t : TA) : TE := fun σ H Q => ta σ H fun x H1 => ∃ a C dx fs, x = .ref a ∧ S C ∧ H1 a = some (.ins C dx fs) ∧ fs.lookup m = none ∧ t σ H1 fun vs H2 => sp (x :: vs) H2 Q E
end
structure FOd (P : Program) (w : World) (K : PySem.W.Frag) (mg : Str → Option Value) (base : Heap) (CX : CXT) (k : Nat) (f : Addr) (x q : Str) (st : Stmt) (kws : List (Str × V)) (ps : List Str) (sp : Sp) : Prop where
  ex : ∃ fd, FunD K x q (defArgs st) (defBody st) (defScope st) [] kws f fd ∧ FnOk P w K mg base CX k f fd ps sp
section
variable {P : Program} {w : World} {K : PySem.W.Frag} {mg : Str → Option Value} {base : Heap} {CX : CXT} {j k : Nat} {f : Addr} {x q : Str} {st : Stmt} {dvs : List V} {kws : List (Str × V)} {N ps : List Str} {sp sp' : Sp}
theorem FOd.mono (c : FOd P w K mg base CX j f x q st kws ps sp) (h : j ≤ k) : FOd P w K mg base CX k f x q st kws ps sp := by
  obtain ⟨fd, F, G⟩ := c.ex
  exact ⟨fd, F, G.mono h⟩
end
section
variable {X : Cx} {CX : CXT} {k : Nat} {f C : Addr} {ps : List Str} {sp : Sp} {E : XK} {x y q : Str} {st : Stmt} {kwd : List (Str × V)} {p pos apos : Pos} {e o : Expr} {es : List Expr} {t tk : TA} {kws : List Keyword}
end
theorem Tp.dn {K : PySem.W.Frag} {mg : Str → Option Value} {x : Str} {st : Stmt} {dvs : List V} {kws : List (Str × V)} (T : Tp K mg x st dvs kws) : Dn K (He.ga K x) x x st dvs kws := T.ex
theorem Dn.foD {P : Program} {w : World} {K : PySem.W.Frag} {mg : Str → Option Value} {base : Heap} {CX : CXT} {k : Nat} {f : Addr} {x q : Str} {st : Stmt} {dvs : List V} {kws : List (Str × V)} {N ps : List Str} {sp : Sp}
    (T : Dn K f x q st dvs kws) (S : FnScope N ps (defScope st)) (hd : dvs ≠ [])
    (hbd : ∀ (T : Addr) (kV doc pm : Value) (an : Option Addr) (cdv ct : Value) (us its : List Value), us.length = ps.length → its.length = dvs.length →
      ∃ k, bindArgs (PySem.W.fnOf x q (defArgs st) (defBody st) (defScope st) (.ref T) kV doc pm an cdv ct) ⟨us, []⟩ = seqItems? (.ref T) >>= k ∧ k (some its.toArray) = pure (ps.zip us))
    (len : ∀ vs H Q E, sp vs H Q E → vs.length = ps.length)
    (hb : ∀ (cdv : Value) (A : Around) (outer : List Env) (s : Shared) (H : Hp) (vs : List V) (Q : VK) (E : XK), Room k (A.deeper (envOfC q (defScope st) s.heap.objs.size f cdv)) → sp vs H Q E →
      ∃ t, PSs (cxOf CX P w K mg base N q (defScope st) f cdv A outer s H E) (defBody st) t ∧ t { nx := fun _ H' => Q .non H', rt := Q } (start N vs) H) :
    FO P w K mg base CX (k + 1) f ps sp := by
  obtain ⟨fd, F⟩ := T
  obtain ⟨ds, v, b⟩ := F.binds1 (ps := ps) ps.length dvs.length hd (by omega) (fun T kV doc pm an cdv ct us its h1 h2 => by
    obtain ⟨k, e1, e2⟩ := hbd T kV doc pm an cdv ct us its h1 h2
    refine ⟨k, e1, ?_⟩
    rw [e2, List.drop_of_length_le (by omega), List.append_nil])
  rw [List.drop_of_length_le (Nat.le_refl _)] at v
  cases v
  exact ⟨fd, b, F.kp, F.ok S len hb⟩
theorem Dn.akU {P : Program} {w : World} {K : PySem.W.Frag} {mg : Str → Option Value} {base : Heap} {k : Nat} {f : Addr} {x q : Str} {st : Stmt} {dvs : List V} {kws : List (Str × V)} {N ps : List Str} {sp : Sp}
    (T : Dn K f x q st dvs kws) (S : FnScope N ps (defScope st)) (hd : dvs ≠ [])
    (hbd : ∀ (T : Addr) (kV doc pm : Value) (an : Option Addr) (cdv ct : Value) (us its : List Value), us.length = ps.length → its.length = dvs.length →
      ∃ k, bindArgs (PySem.W.fnOf x q (defArgs st) (defBody st) (defScope st) (.ref T) kV doc pm an cdv ct) ⟨us, []⟩ = seqItems? (.ref T) >>= k ∧ k (some its.toArray) = pure (ps.zip us))
    (len : ∀ vs H Q E, sp vs H Q E → vs.length = ps.length)
    (hb : ∀ (cdv : Value) (A : Around) (outer : List Env) (s : Shared) (H : Hp) (vs : List V) (Q : VK) (E : XK), Room k (A.deeper (envOfC q (defScope st) s.heap.objs.size f cdv)) → sp vs H Q E →
      ∃ t, PSs (cxOf CX0 P w K mg base N q (defScope st) f cdv A outer s H E).nox (defBody st) t ∧ t { nx := fun _ H' => Q .non H', rt := Q } (start N vs) H) :
    FO P w K mg base CX0 (k + 1) f ps sp := by
  refine T.foD S hd hbd len ?_
  intro cdv A outer s H vs Q E hr h
  obtain ⟨t, a, b⟩ := hb cdv A outer s H vs Q E hr h
  exact ⟨t, a.nox, b⟩
end GB
namespace GB
open PySem PySem.Spec PyProof.Rows L2
inductive Slot
  | work | name | num | many | mark
  deriving DecidableEq
def slots (w : Str) : Option (List Slot) :=
  if w = "skip" then some [] else if w = "tell" then some [.num] else if w = "add" then some [.name, .num] else if w = "when" then some [.name, .num] else if w = "then" then some [.work, .work]
  else if w = "times" then some [.work, .many] else if w = "fail" then some [.name] else if w = "try" then some [.work, .work, .mark] else if w = "hold" then some [.name, .work]
  else if w = "behind" then some [.work, .work] else if w = "mask" then some [.work] else if w = "open" then some [.work] else if w = "room" then some [.work] else if w = "fork" then some [.name, .work]
  else if w = "kill" then some [.name] else if w = "wait" then some [.name] else if w = "get" then some [.name] else if w = "give" then some [.name] else none
def aey : Str := "abcdefghijklmnopqrstuvwxyz"
def nameS (z : Str) : Bool := decide (1 ≤ z.length) && decide (z.length ≤ 8) && z.cps.toList.all fun c => decide (c ∈ aey.cps.toList)
def afy : PyData → Bool
  | .str z => nameS z
  | _ => false
def acY (lo hi : Int) : PyData → Bool
  | .int i => decide (lo ≤ i) && decide (i ≤ hi)
  | _ => false
def akV : PyData → Bool := acY (1 - 10 ^ 40) (10 ^ 40 - 1)
def ajm : PyData → Bool := acY 0 1000
def markD : PyData → Bool
  | .none => true
  | d => afy d
def ajn : Slot → PyData → Bool
  | .work, _ => true
  | .name, d => afy d
  | .num, d => akV d
  | .many, d => ajm d
  | .mark, d => markD d
def Vo : List Slot → List PyData → Bool
  | [], [] => true
  | s :: ss, d :: ds => ajn s d && Vo ss ds
  | _, _ => false
mutual
def shp : PyData → Bool
  | .tuple (.str w :: ds) => match slots w with
    | some ss => Vo ss ds && acZ ss ds
    | none => false
  | _ => false
def acZ : List Slot → List PyData → Bool
  | [], [] => true
  | s :: ss, d :: ds => (match s with | .work => shp d | _ => true) && acZ ss ds
  | _, _ => false
end
def waiting (w : Str) : Bool := decide (w ∈ (["when", "wait", "hold", "room"] : List Str))
def setting (w : Str) (i : Nat) (h o : Bool) : Bool × Bool :=
  if w = "mask" then (true, h) else if w = "open" then (o, o) else if w = "behind" then (if i = 0 then (h, o) else (true, true)) else if w = "fork" then (false, false) else (h, o)
mutual
def waits : PyData → Bool → Bool → Bool
  | .tuple (.str w :: ds), h, o => (h && waiting w) || Vp w 0 ds h o
  | _, _, _ => false
def Vp (w : Str) : Nat → List PyData → Bool → Bool → Bool
  | _, [], _, _ => false
  | i, d :: r, h, o => (isTup d && waits d (setting w i h o).1 (setting w i h o).2) || Vp w (i + 1) r h o
end
def refuse (d : PyData) : Option Str := if 60 < cnt d then some "parts" else if 12 < dep d then some "deep" else if waits d false false = true then some "waits" else none
mutual
def why : PyData → Option Str
  | .tuple (.str w :: ds) => match slots w with
    | some ss => if ss.length = ds.length then (match Vq ss ds with
      | some r => some r
      | none => if Vo ss ds = true then refuse (.tuple (.str w :: ds)) else some "kind") else some "kind"
    | none => some "kind"
  | _ => some "kind"
def Vq : List Slot → List PyData → Option Str
  | s :: ss, d :: ds => match s with
    | .work => (match why d with
      | some r => some r
      | none => Vq ss ds)
    | _ => Vq ss ds
  | _, _ => none
end
theorem ahl {K : PySem.W.Frag} {H : Hp} {a : Addr} {xs : List V} (h : SqT K H a xs) : TyX K H (.ref a) (.type "tuple") := by
  rcases h with (h | ⟨o, h⟩) | ⟨o, its, n, h, c, _⟩
  · exact .base (.tup h)
  · exact .fTuple h
  · exact .kTuple h c
def tyD : PyData → String
  | .none => "NoneType"
  | .bool _ => "bool"
  | .int _ => "int"
  | .str _ => "str"
  | .tuple _ => "tuple"
  | .list _ => "list"
  | .dict _ => "dict"
theorem Im.ty {K : PySem.W.Frag} {H : Hp} : ∀ {v : V} {d : PyData}, Im K H v d → TyX K H v (.type (tyD d))
  | _, _, .non => .base .non
  | _, _, .bl b => .base (.bl b)
  | _, _, .int i => .base (.int i)
  | _, _, .str z => .base (.str z)
  | _, _, .tup h _ => ahl h
section
variable {K : PySem.W.Frag} {σ : L2.St} {H : Hp} {Q : VK} {D : Ends} {ta tk : TA} {te to tx : TE} {a : Addr}
theorem akW {R : It → Hp → Prop} (h : te σ H fun x H1 => ∃ a, x = .ref a ∧ (∃ xs, SqT K H1 a xs) ∧ R (Itt K a) H1) : iTup K te σ H R := h
theorem ajo {a : Addr} {xs : List V} {R : Addr → Prop} (s : SqT K H a xs) (h : R a) : ∃ b, V.ref a = .ref b ∧ (∃ xs, SqT K H b xs) ∧ R b := ⟨a, rfl, ⟨xs, s⟩, h⟩
theorem ajp {r : List V → List V → Hp → VK → Prop} (h : ta σ H fun vs H1 => tk σ H1 fun zs H2 => r vs zs H2 Q) : tCKw r ta tk σ H Q := h
theorem akX {C : Addr} {sp : Sp} {dvs : List V} {E : XK} (h : ta σ H fun vs H1 => ∀ x dx, H1 x = none → H1 dx = none → dx ≠ x → sp (.ref x :: (vs ++ dvs)) (upd (upd H1 dx (.own x)) x (.ins C dx [])) (fun v H2 => v = .non ∧ Q (.ref x) H2) E) : tMake C sp dvs E ta σ H Q := h
theorem ajq {C : Addr} {n m : Nat} {sp : Sp} {gV : List V → List V → List V} {E : XK} (h : ta σ H fun vs H1 => tk σ H1 fun zs H2 => vs.length = n ∧ zs.length = m ∧ ∀ x dx, H2 x = none → H2 dx = none → dx ≠ x → sp (gV (.ref x :: vs) zs) (upd (upd H2 dx (.own x)) x (.ins C dx [])) (fun v H3 => v = .non ∧ Q (.ref x) H3) E) : tMakeK C n m sp gV E ta tk σ H Q := h
theorem agc {S : Addr → Prop} {m : Str} {sp : Sp} {E : XK} (h : te σ H fun x H1 => ∃ a C dx fs, x = .ref a ∧ S C ∧ H1 a = some (.ins C dx fs) ∧ fs.lookup m = none ∧ ta σ H1 fun vs H2 => sp (x :: vs) H2 Q E) : tMethS S m sp E te ta σ H Q := h
theorem ajr {C : Addr} {mk : List V → Option (List (Str × V))} {Q : XK} (h : ta σ H fun vs H1 => vs.length ≤ 1000 ∧ ∃ fs, mk vs = some fs ∧ ∀ d H2, H1 d = none → H2 = upd H1 d (.xd fs) → Q (.ref C) (some d) H2) : aeu C mk ta σ H Q := h
theorem ajs {f : Str} (h : te σ H fun x H1 => ∃ a C dx fs v, x = .ref a ∧ H1 a = some (.ins C dx fs) ∧ Cls K C ∧ NoAttr K C f ∧ fs.lookup f = some v ∧ Q v H1) : tFld K te f σ H Q := h
theorem ahm {f : Str} (h : tx σ H fun y H1 => te σ H1 fun x H2 => ∃ a C dx fs, x = .ref a ∧ H2 a = some (.ins C dx fs) ∧ Cls K C ∧ NoAttr K C f ∧ fs.length < 1000 ∧ D.nx σ (upd H2 a (.ins C dx (putF f y fs)))) : sFld K te tx f D σ H := h
theorem agd {i : Nat} {S : Addr → Sp → Prop} {E : XK} (h : ∃ f sp, σ[i]? = some (some (.ref f)) ∧ S f sp ∧ ta σ H fun vs H1 => sp vs H1 Q E) : tCallS i S E ta σ H Q := h
theorem ahn {w : World} (h : te σ H fun x H1 => ∃ a es n, x = .ref a ∧ KDict K w a es n ∧ to σ H1 fun y H2 => tx σ H2 fun z H3 => ∃ (k : Str), y = .str k ∧
  ((∃ u v, PySem.W.nsIn K a k = some (some u) ∧ RelV v u ∧ Q v H3) ∨ (PySem.W.nsIn K a k = some none ∧ Q z H3))) : afx K w te to tx σ H Q := h
theorem same_upd {H H' : Hp} {p : Addr} {o : HO} (s : Same H H') (h : H' p = none) : Same H (upd H' p o) := s.trans (same_new h)
end
def isB : V → Bool
  | .bl _ => true
  | _ => false
def NL (H1 H2 : Hp) : Prop := ∀ a o, H1 a = some o → (∀ xs, o ≠ .lst xs) → H2 a = some o
theorem NL.kp {H1 H2 : Hp} (n : NL H1 H2) : Kp H1 H2 := ⟨fun a xs h => n a _ h (fun _ e => by cases e), fun a o u h => n a _ h (fun _ e => by cases e)⟩
theorem NL.same {H1 H2 : Hp} (s : Same H1 H2) : NL H1 H2 := fun a o h _ => s a o h
theorem NL.trans {H1 H2 H3 : Hp} (a : NL H1 H2) (b : NL H2 H3) : NL H1 H3 := fun x o h n => b x o (a x o h n) n
theorem NL.refl {H1 : Hp} : NL H1 H1 := fun _ _ h _ => h
theorem NL.put {H : Hp} {p : Addr} {xs : List V} {o : HO} (h : H p = some (.lst xs)) : NL H (upd H p o) := fun a u e n => by
  have ne : a ≠ p := fun z => by
    rw [z, h] at e
    cases e
    exact n xs rfl
  rw [upd_ne ne]
  exact e
theorem ajt {α : Type} {x : α} {xr : List α} : atI (x :: xr) 0 = some x := by
  unfold atI ixN
  rw [if_pos (by decide), if_pos (by rw [List.length_cons]; omega)]
  rfl
theorem Paired.at {α β : Type} {F : α → β → Prop} : ∀ {l : List α} {m : List β} {i : Nat} {a : α} {b : β}, Paired F l m → l[i]? = some a → m[i]? = some b → F a b
  | _, _, _, _, _, .nil, h, _ => by cases h
  | _, _, 0, _, _, .cons r _, h1, h2 => by
    cases h1
    cases h2
    exact r
  | _, _, i + 1, _, _, .cons _ t, h1, h2 => by
    rw [List.getElem?_cons_succ] at h1 h2
    exact Paired.at t h1 h2
end GB
namespace GB
open PySem PySem.Spec PyProof.Rows L2
structure aho (newId : String) (bmB : List Value) (K : PySem.W.Frag) (C : Addr) : Prop where
  lay : ∃ nm q N bs bm sn sub ab col dd k0 k1 k2 k3 k5, K.lookup C = some (excClassObj nm q C N bs bm true sn sub ab col dd k0 k1 k2 k3 k5 newId) ∧ PySem.W.excTail bmB bm = true
  ov : PySem.W.excOver K C bmB = true
  st : PySem.W.findIn K (.ref C) "__setattr__" = some (some (.builtin "object.__setattr__"))
  be : PySem.W.subIn K (.ref C) (.type "BaseException") = some true
  ty : PySem.W.typeIn K (.ref C) = some (.type "type")
  kp : PySem.W.keepIn K (.ref C) = true
section
open Builtin Builtin.ObjectAttr
variable {prog : Program} {w : World} {A : Around} {R : Result → Shared → Prop} {hp : Heap} {g : Array GenState} {d : Drawn} {t : Nat} {os : OsState} {B newId initId : String} {bmB : List Value}
end
section
variable {X : Cx} {pins : List (Addr × Obj)} {σ : L2.St} {H : Hp} {s : Shared} {a C dx : Addr} {f : Str} {y : V} {u : Value} {E : Value → Shared → Prop} {A : Around} {B newId initId : String} {bmB : List Value}
end
section
variable {X : Cx} {o e : Expr} {es : List Expr} {to te : TE} {ta : TA} {f x : Str} {p p' p1 p2 pos : Pos} {B newId initId : String} {bmB : List Value}
end
def ahp (newId : String) (bmB : List Value) (K : PySem.W.Frag) (names : List Str) (mk : List V → Option (List (Str × V))) : Sp := fun vs H Q _ => ∃ (a C : Addr) (args : List V) (fs : List (Str × V)), vs = .ref a :: args ∧ mk args = some fs ∧ aho newId bmB K C ∧
  (∀ n ∈ names, PySem.W.findIn K (.ref C) n = some none) ∧ H a = some (exo a C none) ∧ ∀ dx H', H dx = none → dx ≠ a → H' = upd (upd H dx (exd dx fs)) a (exo a C (some dx)) → Q .non H'
structure ExG (newId : String) (bmB : List Value) (P : Program) (w : World) (K : PySem.W.Frag) (mg : Str → Option Value) (base : Heap) (k : Nat) (x : Str) (ps names : List Str) (mk : List V → Option (List (Str × V))) : Prop where
  cl : aho newId bmB K (He.ga K x)
  here : mg x = some (.ref (He.ga K x))
  ini : PySem.W.findIn K (.ref (He.ga K x)) "__init__" = some (some (.ref (He.ma K (He.ga K x) "__init__")))
  fn : PySem.W.typeIn K (.ref (He.ma K (He.ga K x) "__init__")) = some (.type "function")
  no : ∀ n ∈ names, PySem.W.findIn K (.ref (He.ga K x)) n = some none
  fo : FO P w K mg base CX0 k (He.ma K (He.ga K x) "__init__") ps (ahp newId bmB K names mk)
section
variable {X : Cx} {x : Str} {k : Nat} {ps names : List Str} {mk : List V → Option (List (Str × V))} {e : Expr} {es : List Expr} {ta : TA} {p pos pos2 : Pos} {B newId initId : String} {bmB : List Value}
end
end GB
namespace dN
open PySem PySem.Spec PyProof.Rows L2
def top (i : Nat) : Stmt := PySem.Challenge.pw_givenback_k24_lasts_failures_and_ends.main.body.getD i (.Pass ⟨0, 0, 0, 0⟩)
abbrev nu : Stmt := top 7
abbrev nJ : Stmt := top 8
abbrev lK : Stmt := top 9
abbrev jX : Stmt := top 12
abbrev nM : Stmt := top 13
abbrev pF : Stmt := top 14
abbrev jw : Stmt := top 15
abbrev pG : Stmt := top 16
abbrev iT : Stmt := top 18
abbrev nO : Stmt := top 25
abbrev lM : Stmt := top 26
abbrev lN : Stmt := top 27
abbrev nQ : Stmt := top 28
abbrev vq : Stmt := top 29
abbrev rQ : Stmt := top 30
abbrev xK : Stmt := top 31
abbrev uD : Stmt := top 32
abbrev jY : Stmt := top 33
abbrev jZ : Stmt := top 34
abbrev j5 : Stmt := top 35
abbrev nU : Stmt := top 36
abbrev j6 : Stmt := top 37
abbrev jG : Stmt := top 38
abbrev jP : Stmt := top 39
abbrev lO : Stmt := top 43
abbrev qZ : Stmt := top 44
abbrev rA : Stmt := top 45
abbrev tH : Stmt := top 46
abbrev pH : Stmt := top 47
abbrev j7 : Stmt := top 48
abbrev lQ : Stmt := top 49
abbrev tK : Stmt := top 50
abbrev rB : Stmt := top 51
abbrev tL : Stmt := top 52
abbrev rC : Stmt := top 53
abbrev qd : Stmt := top 54
abbrev j8 : Stmt := inClass (top 1) 0
abbrev oF : Stmt := inClass (top 3) 0
abbrev lU : Stmt := inClass (top 24) 0
abbrev jx : Stmt := inClass (top 41) 0
abbrev lV : Stmt := inClass (top 41) 1
abbrev j9 : Stmt := inClass (top 41) 2
abbrev iz : Stmt := inClass (top 41) 3
abbrev gH : Stmt := inClass (top 41) 4
abbrev pA : Stmt := inClass (top 41) 5
abbrev fZ : Stmt := inClass (top 41) 6
abbrev kh : Stmt := inClass (top 41) 7
abbrev pJ : Stmt := inClass (top 41) 8
abbrev kJ : Stmt := inClass (top 41) 9
abbrev jH : Stmt := inClass (top 41) 10
theorem zA : FnScope ["thing", "sign"] ["thing"] (defScope nu) := ⟨rfl, rfl, rfl, by decide +kernel, rfl, by decide +kernel, by decide +kernel⟩
theorem aaY : FnScope ["thing", "least", "most"] ["thing", "least", "most"] (defScope nJ) := ⟨rfl, rfl, rfl, by decide +kernel, rfl, by decide +kernel, by decide +kernel⟩
theorem Vr : FnScope ["thing"] ["thing"] (defScope lK) := ⟨rfl, rfl, rfl, by decide +kernel, rfl, by decide +kernel, by decide +kernel⟩
theorem Tq : FnScope ["thing"] ["thing"] (defScope jX) := ⟨rfl, rfl, rfl, by decide +kernel, rfl, by decide +kernel, by decide +kernel⟩
theorem aaZ : FnScope ["thing"] ["thing"] (defScope nM) := ⟨rfl, rfl, rfl, by decide +kernel, rfl, by decide +kernel, by decide +kernel⟩
theorem ab0 : FnScope ["kind", "thing"] ["kind", "thing"] (defScope pF) := ⟨rfl, rfl, rfl, by decide +kernel, rfl, by decide +kernel, by decide +kernel⟩
theorem oG : FnScope ["thing", "kinds", "kind", "part"] ["thing"] (defScope jw) := ⟨rfl, rfl, rfl, by decide +kernel, rfl, by decide +kernel, by decide +kernel⟩
theorem ab1 : FnScope ["row"] ["row"] (defScope pG) := ⟨rfl, rfl, rfl, by decide +kernel, rfl, by decide +kernel, by decide +kernel⟩
theorem jJ : FnScope ["things", "cells", "name", "many", "worth"] ["things", "cells"] (defScope iT) := ⟨rfl, rfl, rfl, by decide +kernel, rfl, by decide +kernel, by decide +kernel⟩
theorem yq : FnScope ["rows", "word", "is_so"] ["rows"] (defScope nO) := ⟨rfl, rfl, rfl, by decide +kernel, rfl, by decide +kernel, by decide +kernel⟩
theorem Vs : FnScope ["watch", "task", "row"] ["watch", "task", "row"] (defScope lM) := ⟨rfl, rfl, rfl, by decide +kernel, rfl, by decide +kernel, by decide +kernel⟩
theorem vR : FnScope ["watch", "task", "row", "wrong", "home"] ["watch", "task", "row"] (defScope lN) := ⟨rfl, rfl, rfl, by decide +kernel, rfl, by decide +kernel, by decide +kernel⟩
theorem qK : FnScope ["watch", "task", "row", "other", "over", "own", "unwinds"] ["watch", "task", "row"] (defScope nQ) := ⟨rfl, rfl, rfl, by decide +kernel, rfl, by decide +kernel, by decide +kernel⟩
theorem Tr : FnScope ["watch", "task", "row"] ["watch", "task", "row"] (defScope jY) := ⟨rfl, rfl, rfl, by decide +kernel, rfl, by decide +kernel, by decide +kernel⟩
theorem Tt : FnScope ["watch", "task", "row"] ["watch", "task", "row"] (defScope jZ) := ⟨rfl, rfl, rfl, by decide +kernel, rfl, by decide +kernel, by decide +kernel⟩
theorem Tw : FnScope ["watch", "task", "row"] ["watch", "task", "row"] (defScope j5) := ⟨rfl, rfl, rfl, by decide +kernel, rfl, by decide +kernel, by decide +kernel⟩
theorem aa0 : FnScope ["watch", "task", "row"] ["watch", "task", "row"] (defScope nU) := ⟨rfl, rfl, rfl, by decide +kernel, rfl, by decide +kernel, by decide +kernel⟩
theorem Tz : FnScope ["watch", "task", "row"] ["watch", "task", "row"] (defScope j6) := ⟨rfl, rfl, rfl, by decide +kernel, rfl, by decide +kernel, by decide +kernel⟩
theorem QM : FnScope ["watch", "task", "row"] ["watch", "task", "row"] (defScope jG) := ⟨rfl, rfl, rfl, by decide +kernel, rfl, by decide +kernel, by decide +kernel⟩
theorem iU : FnScope ["watch", "task", "row", "outlives", "keeps", "rows", "right", "one"] ["watch", "task", "row"] (defScope jP) := ⟨rfl, rfl, rfl, by decide +kernel, rfl, by decide +kernel, by decide +kernel⟩
theorem Vt : FnScope ["_law_script", "_law_k"] ["_law_script", "_law_k"] (defScope lO) := ⟨rfl, rfl, rfl, by decide +kernel, rfl, by decide +kernel, by decide +kernel⟩
theorem ac0 : FnScope ["_law_cell"] ["_law_cell"] (defScope qZ) := ⟨rfl, rfl, rfl, by decide +kernel, rfl, by decide +kernel, by decide +kernel⟩
theorem xM : FnScope ["_law_well_here", "_law_many", "_law_number", "_law_digit"] ["_law_well_here", "_law_many"] (defScope rA) := ⟨rfl, rfl, rfl, by decide +kernel, rfl, by decide +kernel, by decide +kernel⟩
theorem aez : FnScope ["_law_well_here", "_law_some"] ["_law_well_here", "_law_some"] (defScope tH) := ⟨rfl, rfl, rfl, by decide +kernel, rfl, by decide +kernel, by decide +kernel⟩
theorem xO : FnScope ["_law_well_here", "_law_letters", "_law_k"] ["_law_well_here"] (defScope pH) := ⟨rfl, rfl, rfl, by decide +kernel, rfl, by decide +kernel, by decide +kernel⟩
theorem TF : FnScope ["_law_m", "_law_mark"] ["_law_m", "_law_mark"] (defScope j7) := ⟨rfl, rfl, rfl, by decide +kernel, rfl, by decide +kernel, by decide +kernel⟩
theorem vU : FnScope ["_law_m", "_law_outcome", "_law_right"] ["_law_m", "_law_outcome"] (defScope lQ) := ⟨rfl, rfl, rfl, by decide +kernel, rfl, by decide +kernel, by decide +kernel⟩
theorem aeA : FnScope ["_law_m", "_law_row_here"] ["_law_m", "_law_row_here"] (defScope tK) := ⟨rfl, rfl, rfl, by decide +kernel, rfl, by decide +kernel, by decide +kernel⟩
theorem Bm : FnScope ["_law_m", "_law_row_here", "_law_goes", "_law_shut"] ["_law_m", "_law_row_here"] (defScope rB) := ⟨rfl, rfl, rfl, by decide +kernel, rfl, by decide +kernel, by decide +kernel⟩
theorem FW : FnScope ["_law_well_here", "_law_m", "_law_marks", "_law_some", "_law_word_here"] ["_law_well_here", "_law_m", "_law_marks"] (defScope tL) := ⟨rfl, rfl, rfl, by decide +kernel, rfl, by decide +kernel, by decide +kernel⟩
theorem RP : FnScope ["_law_watch", "_law_row_here", "e"] ["_law_watch", "_law_row_here"] (defScope rC) := ⟨rfl, rfl, rfl, by decide +kernel, rfl, by decide +kernel, by decide +kernel⟩
theorem oH : FnScope ["_law_script", "_law_well_here", "_law_marks", "_law_watch", "_law_m", "_law_ahead", "_law_cell", "_law_row_here", "_law_why"] ["_law_script"] (defScope qd) := ⟨rfl, rfl, rfl, by decide +kernel, rfl, by decide +kernel, by decide +kernel⟩
theorem Fl : FnScope ["self", "why"] ["self", "why"] (defScope j8) := ⟨rfl, rfl, rfl, by decide +kernel, rfl, by decide +kernel, by decide +kernel⟩
theorem QS : FnScope ["self", "at", "why"] ["self", "at", "why"] (defScope oF) := ⟨rfl, rfl, rfl, by decide +kernel, rfl, by decide +kernel, by decide +kernel⟩
theorem Vu : FnScope ["self", "beginner", "called"] ["self", "beginner", "called"] (defScope lU) := ⟨rfl, rfl, rfl, by decide +kernel, rfl, by decide +kernel, by decide +kernel⟩
theorem TJ : FnScope ["self", "things", "raw"] ["self", "things", "raw"] (defScope jx) := ⟨rfl, rfl, rfl, by decide +kernel, rfl, by decide +kernel, by decide +kernel⟩
theorem Bo : FnScope ["self", "row", "why"] ["self", "row"] (defScope lV) := ⟨rfl, rfl, rfl, by decide +kernel, rfl, by decide +kernel, by decide +kernel⟩
theorem TQ : FnScope ["self"] ["self"] (defScope j9) := ⟨rfl, rfl, rfl, by decide +kernel, rfl, by decide +kernel, by decide +kernel⟩
theorem gJ : FnScope ["self", "row", "doer", "others", "task", "asking", "number"] ["self", "row"] (defScope iz) := ⟨rfl, rfl, rfl, by decide +kernel, rfl, by decide +kernel, by decide +kernel⟩
theorem Bp : FnScope ["self", "number"] ["self", "number"] (defScope gH) := ⟨rfl, rfl, rfl, by decide +kernel, rfl, by decide +kernel, by decide +kernel⟩
theorem mD : FnScope ["self", "number", "mark", "state", "handed", "one"] ["self", "number", "mark"] (defScope fZ) := ⟨rfl, rfl, rfl, by decide +kernel, rfl, by decide +kernel, by decide +kernel⟩
theorem Av : FnScope ["self", "row", "doer"] ["self", "row"] (defScope kh) := ⟨rfl, rfl, rfl, by decide +kernel, rfl, by decide +kernel, by decide +kernel⟩
theorem uZ : FnScope ["self", "task", "row", "state", "shut"] ["self", "task", "row"] (defScope kJ) := ⟨rfl, rfl, rfl, by decide +kernel, rfl, by decide +kernel, by decide +kernel⟩
theorem QT : FnScope ["self", "task", "row"] ["self", "task", "row"] (defScope jH) := ⟨rfl, rfl, rfl, by decide +kernel, rfl, by decide +kernel, by decide +kernel⟩
structure Top (w : World) (K : PySem.W.Frag) (mg : Str → Option Value) : Prop where
  lB : GB.Tp K mg "is_name" nu [] []
  rR : GB.Tp K mg "is_whole" nJ [] []
  lW : GB.Tp K mg "is_number" lK [] []
  vW : GB.Tp K mg "is_outcome" jX [] []
  zB : GB.Tp K mg "is_count" nM [] []
  Bq : GB.Tp K mg "is_part" pF [] []
  vX : GB.Tp K mg "is_log_row" jw [] []
  uL : GB.Tp K mg "doer_of" pG [] []
  vY : GB.Tp K mg "check_told" iT [] []
  dD : GB.Tp K mg "first_so" nO [] []
  Fq : GB.Tp K mg "ask_doing" lM [] []
  Ft : GB.Tp K mg "ask_begun" lN [] []
  Hg : GB.Tp K mg "ask_kill" nQ [] []
  aju : GB.Tp K mg "ask_late" vq [] []
  ahq : GB.Tp K mg "ask_nobody" rQ [] []
  aj6 : GB.Tp K mg "ask_got" xK [] []
  aiM : GB.Tp K mg "ask_given" uD [] []
  Br : GB.Tp K mg "ask_landed" jY [] []
  Bs : GB.Tp K mg "ask_masked" jZ [] []
  Bt : GB.Tp K mg "ask_opened" j5 [] []
  Hh : GB.Tp K mg "ask_last" nU [] []
  Bu : GB.Tp K mg "ask_lasted" j6 [] []
  Ax : GB.Tp K mg "ask_rescued" jG [] []
  Fv : GB.Tp K mg "ask_ended" jP [] []
  yr : GB.Tp K mg "_law_cell_at" lO [] []
  vZ : GB.Tp K mg "_law_well" qZ [] []
  gW : GB.Tp K mg "_law_draw" rA [] []
  qj : GB.Tp K mg "_law_one" tH [] []
  rD : GB.Tp K mg "_law_word" pH [] []
  pK : GB.Tp K mg "_law_can_fail" j7 [] []
  yt : GB.Tp K mg "_law_end_due" lQ [] []
  QV : GB.Tp K mg "_law_due" tK [] []
  FZ : GB.Tp K mg "_law_done" rB [] []
  QW : GB.Tp K mg "_law_row" tL [] []
  v7 : GB.Tp K mg "_law_seen" rC [] []
  ab2 : GB.Tp K mg "law" qd [] []
  Ge : GB.Dn K (He.ma K (He.ga K "WorkError") "__init__") "__init__" "WorkError.__init__" j8 [.str "refused"] []
  TV : GB.Dn K (He.ma K (He.ga K "Broken") "__init__") "__init__" "Broken.__init__" oF [] []
  aa1 : GB.Dn K (He.ma K (He.ga K "Seen") "__init__") "__init__" "Seen.__init__" lU [] []
  Vv : GB.Dn K (He.ma K (He.ga K "Watch") "__init__") "__init__" "Watch.__init__" jx [] [("things", .non), ("raw", .bl false)]
  aa2 : GB.Dn K (He.ma K (He.ga K "Watch") "see") "see" "Watch.see" lV [] []
  Vw : GB.Dn K (He.ma K (He.ga K "Watch") "seen") "seen" "Watch.seen" j9 [] []
  QX : GB.Dn K (He.ma K (He.ga K "Watch") "reason") "reason" "Watch.reason" iz [] []
  Fo : GB.Dn K (He.ma K (He.ga K "Watch") "is_latest") "is_latest" "Watch.is_latest" gH [] []
  afz : GB.Dn K (He.ma K (He.ga K "Watch") "is_full") "is_full" "Watch.is_full" pA [] []
  Gf : GB.Dn K (He.ma K (He.ga K "Watch") "may_fail") "may_fail" "Watch.may_fail" fZ [] []
  Vx : GB.Dn K (He.ma K (He.ga K "Watch") "take") "take" "Watch.take" kh [] []
  Vy : GB.Dn K (He.ma K (He.ga K "Watch") "hold") "hold" "Watch.hold" pJ [] []
  Vz : GB.Dn K (He.ma K (He.ga K "Watch") "turn") "turn" "Watch.turn" kJ [] []
  TX : GB.Dn K (He.ma K (He.ga K "Watch") "go_on") "go_on" "Watch.go_on" jH [] []
  aa3 : mg "WorkError" = some (.ref (He.ga K "WorkError"))
  aiN : GB.Bj K (He.ga K "WorkError") = true ∧ GB.zp K (He.ga K "WorkError") "__init__" = true ∧ GB.Vi K (He.ga K "WorkError") ["why"] = true ∧ GB.xJ K (He.ga K "WorkError") = true
  v8 : GB.Uu K (He.ga K "WorkError") "__init__" (He.ma K (He.ga K "WorkError") "__init__") = true
  aeB : mg "BadRun" = some (.ref (He.ga K "BadRun"))
  Gg : GB.Bj K (He.ga K "BadRun") = true ∧ GB.zp K (He.ga K "BadRun") "__init__" = true ∧ GB.Vi K (He.ga K "BadRun") ["why"] = true ∧ GB.xJ K (He.ga K "BadRun") = true
  TY : He.ma K (He.ga K "BadRun") "__init__" = He.ma K (He.ga K "WorkError") "__init__"
  VB : mg "Broken" = some (.ref (He.ga K "Broken"))
  zE : GB.Bj K (He.ga K "Broken") = true ∧ GB.zp K (He.ga K "Broken") "__init__" = true ∧ GB.Vi K (He.ga K "Broken") ["at", "why"] = true ∧ GB.xJ K (He.ga K "Broken") = true
  ac1 : mg "Seen" = some (.ref (He.ga K "Seen"))
  uM : Cls K (He.ga K "Seen")
  Hi : Mk K (He.ga K "Seen") (He.ma K (He.ga K "Seen") "__init__")
  Hj : NoAttr K (He.ga K "Seen") "beginner"
  T5 : NoAttr K (He.ga K "Seen") "called"
  T6 : NoAttr K (He.ga K "Seen") "ending"
  aa4 : NoAttr K (He.ga K "Seen") "owed"
  aa5 : NoAttr K (He.ga K "Seen") "shut"
  VD : NoAttr K (He.ga K "Seen") "state"
  ab3 : NoAttr K (He.ga K "Seen") "had"
  VF : NoAttr K (He.ga K "Seen") "lasts"
  alv : GB.zu K (He.ga K "Seen") = true
  agf : mg "Watch" = some (.ref (He.ga K "Watch"))
  jc : Cls K (He.ga K "Watch")
  abo : Mk K (He.ga K "Watch") (He.ma K (He.ga K "Watch") "__init__")
  T7 : NoAttr K (He.ga K "Watch") "sizes"
  aa6 : NoAttr K (He.ga K "Watch") "raw"
  T8 : NoAttr K (He.ga K "Watch") "tasks"
  QZ : NoAttr K (He.ga K "Watch") "latest"
  T9 : NoAttr K (He.ga K "Watch") "homes"
  VG : NoAttr K (He.ga K "Watch") "must"
  VH : NoAttr K (He.ga K "Watch") "many"
  dG : Meth K (He.ga K "Watch") "see" (He.ma K (He.ga K "Watch") "see")
  jy : Meth K (He.ga K "Watch") "seen" (He.ma K (He.ga K "Watch") "seen")
  cO : Meth K (He.ga K "Watch") "reason" (He.ma K (He.ga K "Watch") "reason")
  mH : Meth K (He.ga K "Watch") "is_latest" (He.ma K (He.ga K "Watch") "is_latest")
  Hl : Meth K (He.ga K "Watch") "is_full" (He.ma K (He.ga K "Watch") "is_full")
  dB : Meth K (He.ga K "Watch") "may_fail" (He.ma K (He.ga K "Watch") "may_fail")
  cM : Meth K (He.ga K "Watch") "take" (He.ma K (He.ga K "Watch") "take")
  rW : Meth K (He.ga K "Watch") "hold" (He.ma K (He.ga K "Watch") "hold")
  gM : Meth K (He.ga K "Watch") "turn" (He.ma K (He.ga K "Watch") "turn")
  dY : Meth K (He.ga K "Watch") "go_on" (He.ma K (He.ga K "Watch") "go_on")
  alj : GB.zu K (He.ga K "Watch") = true
  acR : PySem.W.exmOne K (.ref (He.ga K "WorkError")) (.ref (He.ga K "Broken")) = some false
  aeC : PySem.W.exmOne K (.ref (He.ga K "BadRun")) (.ref (He.ga K "Broken")) = some false
  Gh : PySem.W.exmOne K (.ref (He.ga K "Broken")) (.ref (He.ga K "Broken")) = some true
  ve : GB.veB K = true
  VJ : mg "ValueError" = none
  Ho : mg "all" = none
  ajv : mg "any" = none
  ahr : mg "bool" = none
  ahs : mg "dict" = none
  mJ : mg "int" = none
  mV : mg "isinstance" = none
  xP : mg "len" = none
  agg : mg "range" = none
  afA : mg "str" = none
  al8 : mg "sum" = none
  abp : mg "tuple" = none
  ajw : mg "zip" = none
  ac2 : ∃ t, mg "LETTERS" = some (.str "abcdefghijklmnopqrstuvwxyz" t)
  ac3 : ∃ t, mg "LONGEST" = some (.int 8 t)
  agh : mg "FORMS" = some (.ref (He.ga K "FORMS"))
  agi : ∃ es n, KDict K w (He.ga K "FORMS") es n
  agj : PD.aev K (He.ga K "FORMS") [("tell", .tup [.str "task", .str "number"]), ("add", .tup [.str "task", .str "name", .str "number"]), ("failed", .tup [.str "task", .str "name"]), ("rescued", .tup [.str "task", .str "name"]), ("got", .tup [.str "task", .str "name"]), ("given", .tup [.str "task", .str "name"]), ("masked", .tup [.str "task"]), ("opened", .tup [.str "task"]), ("last", .tup [.str "task"]), ("lasted", .tup [.str "task"]), ("begun", .tup [.str "task", .str "task", .str "name", .str "task"]), ("kill", .tup [.str "doer", .str "task"]), ("late", .tup [.str "doer", .str "task"]), ("nobody", .tup [.str "task", .str "name"]), ("landed", .tup [.str "task"]), ("ended", .tup [.str "task", .str "outcome"])] = true
  agk : PD.keyB K (He.ga K "FORMS") ["tell", "add", "failed", "rescued", "got", "given", "masked", "opened", "last", "lasted", "begun", "kill", "late", "nobody", "landed", "ended"] = true
  Bv : mg "ON" = some (.ref (He.ga K "ON"))
  akY : GB.tupB K (He.ga K "ON") [.str "on"] = true
  zF : mg "KILLED" = some (.ref (He.ga K "KILLED"))
  aeD : GB.tupB K (He.ga K "KILLED") [.str "killed"] = true
  VL : ∃ t, mg "MOST_TASKS" = some (.int 12 t)
  aht : ∃ t, mg "PLAIN_SIZE" = some (.int 1 t)
  aeE : mg "ASKING" = some (.ref (He.ga K "ASKING"))
  aeF : ∃ es n, KDict K w (He.ga K "ASKING") es n
  aeG : He.valsB K (He.ga K "ASKING") [("tell", .glo "ask_doing"), ("add", .glo "ask_doing"), ("failed", .glo "ask_doing"), ("rescued", .glo "ask_rescued"), ("got", .glo "ask_got"), ("given", .glo "ask_given"), ("masked", .glo "ask_masked"), ("opened", .glo "ask_opened"), ("last", .glo "ask_last"), ("lasted", .glo "ask_lasted"), ("begun", .glo "ask_begun"), ("kill", .glo "ask_kill"), ("late", .glo "ask_late"), ("nobody", .glo "ask_nobody"), ("landed", .glo "ask_landed"), ("ended", .glo "ask_ended")] = true
  aeH : PD.keyB K (He.ga K "ASKING") ["tell", "add", "failed", "rescued", "got", "given", "masked", "opened", "last", "lasted", "begun", "kill", "late", "nobody", "landed", "ended"] = true
def fa0 : List He.Fa := []
def tabs : List He.Tab := [(fun K => He.ga K "FORMS", ["tell", "add", "failed", "rescued", "got", "given", "masked", "opened", "last", "lasted", "begun", "kill", "late", "nobody", "landed", "ended"]), (fun K => He.ga K "ASKING", ["tell", "add", "failed", "rescued", "got", "given", "masked", "opened", "last", "lasted", "begun", "kill", "late", "nobody", "landed", "ended"])]
def fa1 : List He.Fa := [.glo "is_name", .glo "is_whole", .glo "is_number", .glo "is_outcome", .glo "is_count", .glo "is_part", .glo "is_log_row", .glo "doer_of", .glo "check_told", .glo "first_so", .glo "ask_doing", .glo "ask_begun", .glo "ask_kill", .glo "ask_late", .glo "ask_nobody", .glo "ask_got", .glo "ask_given", .glo "ask_landed", .glo "ask_masked", .glo "ask_opened"]
def fn0 : List He.DefD := [⟨("is_name", none), "is_name", "is_name", defArgs nu, defBody nu, defScope nu, [], []⟩,
  ⟨("is_whole", none), "is_whole", "is_whole", defArgs nJ, defBody nJ, defScope nJ, [], []⟩,
  ⟨("is_number", none), "is_number", "is_number", defArgs lK, defBody lK, defScope lK, [], []⟩,
  ⟨("is_outcome", none), "is_outcome", "is_outcome", defArgs jX, defBody jX, defScope jX, [], []⟩,
  ⟨("is_count", none), "is_count", "is_count", defArgs nM, defBody nM, defScope nM, [], []⟩,
  ⟨("is_part", none), "is_part", "is_part", defArgs pF, defBody pF, defScope pF, [], []⟩,
  ⟨("is_log_row", none), "is_log_row", "is_log_row", defArgs jw, defBody jw, defScope jw, [], []⟩,
  ⟨("doer_of", none), "doer_of", "doer_of", defArgs pG, defBody pG, defScope pG, [], []⟩,
  ⟨("check_told", none), "check_told", "check_told", defArgs iT, defBody iT, defScope iT, [], []⟩,
  ⟨("first_so", none), "first_so", "first_so", defArgs nO, defBody nO, defScope nO, [], []⟩,
  ⟨("ask_doing", none), "ask_doing", "ask_doing", defArgs lM, defBody lM, defScope lM, [], []⟩,
  ⟨("ask_begun", none), "ask_begun", "ask_begun", defArgs lN, defBody lN, defScope lN, [], []⟩,
  ⟨("ask_kill", none), "ask_kill", "ask_kill", defArgs nQ, defBody nQ, defScope nQ, [], []⟩,
  ⟨("ask_late", none), "ask_late", "ask_late", defArgs vq, defBody vq, defScope vq, [], []⟩,
  ⟨("ask_nobody", none), "ask_nobody", "ask_nobody", defArgs rQ, defBody rQ, defScope rQ, [], []⟩,
  ⟨("ask_got", none), "ask_got", "ask_got", defArgs xK, defBody xK, defScope xK, [], []⟩,
  ⟨("ask_given", none), "ask_given", "ask_given", defArgs uD, defBody uD, defScope uD, [], []⟩,
  ⟨("ask_landed", none), "ask_landed", "ask_landed", defArgs jY, defBody jY, defScope jY, [], []⟩,
  ⟨("ask_masked", none), "ask_masked", "ask_masked", defArgs jZ, defBody jZ, defScope jZ, [], []⟩,
  ⟨("ask_opened", none), "ask_opened", "ask_opened", defArgs j5, defBody j5, defScope j5, [], []⟩]
def ex0 : List (PySem.W.Frag → Bool) := [fun K => GB.Bj K (He.ga K "WorkError"),
  fun K => GB.zp K (He.ga K "WorkError") "__init__",
  fun K => GB.Vi K (He.ga K "WorkError") ["why"],
  fun K => GB.xJ K (He.ga K "WorkError"),
  fun K => GB.Uu K (He.ga K "WorkError") "__init__" (He.ma K (He.ga K "WorkError") "__init__"),
  fun K => GB.Bj K (He.ga K "BadRun"),
  fun K => GB.zp K (He.ga K "BadRun") "__init__",
  fun K => GB.Vi K (He.ga K "BadRun") ["why"],
  fun K => GB.xJ K (He.ga K "BadRun"),
  fun K => decide (He.ma K (He.ga K "BadRun") "__init__" = He.ma K (He.ga K "WorkError") "__init__"),
  fun K => GB.Bj K (He.ga K "Broken"),
  fun K => GB.zp K (He.ga K "Broken") "__init__",
  fun K => GB.Vi K (He.ga K "Broken") ["at", "why"],
  fun K => GB.xJ K (He.ga K "Broken"),
  fun K => GB.zu K (He.ga K "Seen"),
  fun K => GB.zu K (He.ga K "Watch"),
  fun K => decide (PySem.W.exmOne K (.ref (He.ga K "WorkError")) (.ref (He.ga K "Broken")) = some false),
  fun K => decide (PySem.W.exmOne K (.ref (He.ga K "BadRun")) (.ref (He.ga K "Broken")) = some false),
  fun K => decide (PySem.W.exmOne K (.ref (He.ga K "Broken")) (.ref (He.ga K "Broken")) = some true),
  fun K => GB.veB K]
def fa2 : List He.Fa := [.glo "ask_last", .glo "ask_lasted", .glo "ask_rescued", .glo "ask_ended", .glo "_law_cell_at", .glo "_law_well", .glo "_law_draw", .glo "_law_one", .glo "_law_word", .glo "_law_can_fail", .glo "_law_end_due", .glo "_law_due", .glo "_law_done", .glo "_law_row", .glo "_law_seen", .glo "law", .glo "WorkError", .glo "BadRun", .glo "Broken", .glo "Seen"]
def fn1 : List He.DefD := [⟨("ask_last", none), "ask_last", "ask_last", defArgs nU, defBody nU, defScope nU, [], []⟩,
  ⟨("ask_lasted", none), "ask_lasted", "ask_lasted", defArgs j6, defBody j6, defScope j6, [], []⟩,
  ⟨("ask_rescued", none), "ask_rescued", "ask_rescued", defArgs jG, defBody jG, defScope jG, [], []⟩,
  ⟨("ask_ended", none), "ask_ended", "ask_ended", defArgs jP, defBody jP, defScope jP, [], []⟩,
  ⟨("_law_cell_at", none), "_law_cell_at", "_law_cell_at", defArgs lO, defBody lO, defScope lO, [], []⟩,
  ⟨("_law_well", none), "_law_well", "_law_well", defArgs qZ, defBody qZ, defScope qZ, [], []⟩,
  ⟨("_law_draw", none), "_law_draw", "_law_draw", defArgs rA, defBody rA, defScope rA, [], []⟩,
  ⟨("_law_one", none), "_law_one", "_law_one", defArgs tH, defBody tH, defScope tH, [], []⟩,
  ⟨("_law_word", none), "_law_word", "_law_word", defArgs pH, defBody pH, defScope pH, [], []⟩,
  ⟨("_law_can_fail", none), "_law_can_fail", "_law_can_fail", defArgs j7, defBody j7, defScope j7, [], []⟩,
  ⟨("_law_end_due", none), "_law_end_due", "_law_end_due", defArgs lQ, defBody lQ, defScope lQ, [], []⟩,
  ⟨("_law_due", none), "_law_due", "_law_due", defArgs tK, defBody tK, defScope tK, [], []⟩,
  ⟨("_law_done", none), "_law_done", "_law_done", defArgs rB, defBody rB, defScope rB, [], []⟩,
  ⟨("_law_row", none), "_law_row", "_law_row", defArgs tL, defBody tL, defScope tL, [], []⟩,
  ⟨("_law_seen", none), "_law_seen", "_law_seen", defArgs rC, defBody rC, defScope rC, [], []⟩,
  ⟨("law", none), "law", "law", defArgs qd, defBody qd, defScope qd, [], []⟩,
  ⟨("WorkError", some "__init__"), "__init__", "WorkError.__init__", defArgs j8, defBody j8, defScope j8, [.str "refused"], []⟩,
  ⟨("Broken", some "__init__"), "__init__", "Broken.__init__", defArgs oF, defBody oF, defScope oF, [], []⟩,
  ⟨("Seen", some "__init__"), "__init__", "Seen.__init__", defArgs lU, defBody lU, defScope lU, [], []⟩,
  ⟨("Watch", some "__init__"), "__init__", "Watch.__init__", defArgs jx, defBody jx, defScope jx, [], [("things", .non), ("raw", .bl false)]⟩]
def ex1 : List (PySem.W.Frag → Bool) := [fun K => PD.aev K (He.ga K "FORMS") [("tell", .tup [.str "task", .str "number"]), ("add", .tup [.str "task", .str "name", .str "number"]), ("failed", .tup [.str "task", .str "name"]), ("rescued", .tup [.str "task", .str "name"]), ("got", .tup [.str "task", .str "name"]), ("given", .tup [.str "task", .str "name"]), ("masked", .tup [.str "task"]), ("opened", .tup [.str "task"]), ("last", .tup [.str "task"]), ("lasted", .tup [.str "task"]), ("begun", .tup [.str "task", .str "task", .str "name", .str "task"]), ("kill", .tup [.str "doer", .str "task"]), ("late", .tup [.str "doer", .str "task"]), ("nobody", .tup [.str "task", .str "name"]), ("landed", .tup [.str "task"]), ("ended", .tup [.str "task", .str "outcome"])],
  fun K => PD.keyB K (He.ga K "FORMS") ["tell", "add", "failed", "rescued", "got", "given", "masked", "opened", "last", "lasted", "begun", "kill", "late", "nobody", "landed", "ended"],
  fun K => GB.tupB K (He.ga K "ON") [.str "on"],
  fun K => GB.tupB K (He.ga K "KILLED") [.str "killed"],
  fun K => He.valsB K (He.ga K "ASKING") [("tell", .glo "ask_doing"), ("add", .glo "ask_doing"), ("failed", .glo "ask_doing"), ("rescued", .glo "ask_rescued"), ("got", .glo "ask_got"), ("given", .glo "ask_given"), ("masked", .glo "ask_masked"), ("opened", .glo "ask_opened"), ("last", .glo "ask_last"), ("lasted", .glo "ask_lasted"), ("begun", .glo "ask_begun"), ("kill", .glo "ask_kill"), ("late", .glo "ask_late"), ("nobody", .glo "ask_nobody"), ("landed", .glo "ask_landed"), ("ended", .glo "ask_ended")],
  fun K => PD.keyB K (He.ga K "ASKING") ["tell", "add", "failed", "rescued", "got", "given", "masked", "opened", "last", "lasted", "begun", "kill", "late", "nobody", "landed", "ended"]]
def fa3 : List He.Fa := [.cls "Seen", .mkr "Seen", .noat "Seen" "beginner", .noat "Seen" "called", .noat "Seen" "ending", .noat "Seen" "owed", .noat "Seen" "shut", .noat "Seen" "state", .noat "Seen" "had", .noat "Seen" "lasts", .glo "Watch", .cls "Watch", .mkr "Watch", .noat "Watch" "sizes", .noat "Watch" "raw", .noat "Watch" "tasks", .noat "Watch" "latest", .noat "Watch" "homes", .noat "Watch" "must", .noat "Watch" "many"]
def fn2 : List He.DefD := [⟨("Watch", some "see"), "see", "Watch.see", defArgs lV, defBody lV, defScope lV, [], []⟩,
  ⟨("Watch", some "seen"), "seen", "Watch.seen", defArgs j9, defBody j9, defScope j9, [], []⟩,
  ⟨("Watch", some "reason"), "reason", "Watch.reason", defArgs iz, defBody iz, defScope iz, [], []⟩,
  ⟨("Watch", some "is_latest"), "is_latest", "Watch.is_latest", defArgs gH, defBody gH, defScope gH, [], []⟩,
  ⟨("Watch", some "is_full"), "is_full", "Watch.is_full", defArgs pA, defBody pA, defScope pA, [], []⟩,
  ⟨("Watch", some "may_fail"), "may_fail", "Watch.may_fail", defArgs fZ, defBody fZ, defScope fZ, [], []⟩,
  ⟨("Watch", some "take"), "take", "Watch.take", defArgs kh, defBody kh, defScope kh, [], []⟩,
  ⟨("Watch", some "hold"), "hold", "Watch.hold", defArgs pJ, defBody pJ, defScope pJ, [], []⟩,
  ⟨("Watch", some "turn"), "turn", "Watch.turn", defArgs kJ, defBody kJ, defScope kJ, [], []⟩,
  ⟨("Watch", some "go_on"), "go_on", "Watch.go_on", defArgs jH, defBody jH, defScope jH, [], []⟩]
def ex2 : List (PySem.W.Frag → Bool) := []
def fa4 : List He.Fa := [.meth "Watch" "see", .meth "Watch" "seen", .meth "Watch" "reason", .meth "Watch" "is_latest", .meth "Watch" "is_full", .meth "Watch" "may_fail", .meth "Watch" "take", .meth "Watch" "hold", .meth "Watch" "turn", .meth "Watch" "go_on", .free "ValueError", .free "all", .free "any", .free "bool", .free "dict", .free "int", .free "isinstance", .free "len", .free "range", .free "str"]
def fn3 : List He.DefD := []
def ex3 : List (PySem.W.Frag → Bool) := []
def fa5 : List He.Fa := [.free "sum", .free "tuple", .free "zip", .str "LETTERS" "abcdefghijklmnopqrstuvwxyz", .int "LONGEST" 8, .glo "FORMS", .glo "ON", .glo "KILLED", .int "MOST_TASKS" 12, .int "PLAIN_SIZE" 1, .glo "ASKING"]
def fn4 : List He.DefD := []
def ex4 : List (PySem.W.Frag → Bool) := []
def pt0 : List GB.Part := [(fa1, fn0, ex0), (fa2, fn1, ex1), (fa3, fn2, ex2), (fa4, fn3, ex3), (fa5, fn4, ex4)]
def parts : List GB.Part := pt0
theorem ahH {w : World} {K : PySem.W.Frag} {h : Heap} {mg : Str → Option Value} (X : K.In h) (G : h.Ns mainGlobals mg) (c : GB.afs fa0 tabs parts w K) : Top w K mg := by
  have c0 : GB.SaysE fa1 fn0 [] ex0 w K := c.p 0 (fa1, fn0, ex0) rfl
  have c1 : GB.SaysE fa2 fn1 [] ex1 w K := c.p 1 (fa2, fn1, ex1) rfl
  have c2 : GB.SaysE fa3 fn2 [] ex2 w K := c.p 2 (fa3, fn2, ex2) rfl
  have c3 : GB.SaysE fa4 fn3 [] ex3 w K := c.p 3 (fa4, fn3, ex3) rfl
  have c4 : GB.SaysE fa5 fn4 [] ex4 w K := c.p 4 (fa5, fn4, ex4) rfl
  exact ⟨⟨c0.t.d.def_ 0 rfl, He.glo_ok X G (c0.t.d.fact 0 (f := .glo "is_name") rfl)⟩,
  ⟨c0.t.d.def_ 1 rfl, He.glo_ok X G (c0.t.d.fact 1 (f := .glo "is_whole") rfl)⟩,
  ⟨c0.t.d.def_ 2 rfl, He.glo_ok X G (c0.t.d.fact 2 (f := .glo "is_number") rfl)⟩,
  ⟨c0.t.d.def_ 3 rfl, He.glo_ok X G (c0.t.d.fact 3 (f := .glo "is_outcome") rfl)⟩,
  ⟨c0.t.d.def_ 4 rfl, He.glo_ok X G (c0.t.d.fact 4 (f := .glo "is_count") rfl)⟩,
  ⟨c0.t.d.def_ 5 rfl, He.glo_ok X G (c0.t.d.fact 5 (f := .glo "is_part") rfl)⟩,
  ⟨c0.t.d.def_ 6 rfl, He.glo_ok X G (c0.t.d.fact 6 (f := .glo "is_log_row") rfl)⟩,
  ⟨c0.t.d.def_ 7 rfl, He.glo_ok X G (c0.t.d.fact 7 (f := .glo "doer_of") rfl)⟩,
  ⟨c0.t.d.def_ 8 rfl, He.glo_ok X G (c0.t.d.fact 8 (f := .glo "check_told") rfl)⟩,
  ⟨c0.t.d.def_ 9 rfl, He.glo_ok X G (c0.t.d.fact 9 (f := .glo "first_so") rfl)⟩,
  ⟨c0.t.d.def_ 10 rfl, He.glo_ok X G (c0.t.d.fact 10 (f := .glo "ask_doing") rfl)⟩,
  ⟨c0.t.d.def_ 11 rfl, He.glo_ok X G (c0.t.d.fact 11 (f := .glo "ask_begun") rfl)⟩,
  ⟨c0.t.d.def_ 12 rfl, He.glo_ok X G (c0.t.d.fact 12 (f := .glo "ask_kill") rfl)⟩,
  ⟨c0.t.d.def_ 13 rfl, He.glo_ok X G (c0.t.d.fact 13 (f := .glo "ask_late") rfl)⟩,
  ⟨c0.t.d.def_ 14 rfl, He.glo_ok X G (c0.t.d.fact 14 (f := .glo "ask_nobody") rfl)⟩,
  ⟨c0.t.d.def_ 15 rfl, He.glo_ok X G (c0.t.d.fact 15 (f := .glo "ask_got") rfl)⟩,
  ⟨c0.t.d.def_ 16 rfl, He.glo_ok X G (c0.t.d.fact 16 (f := .glo "ask_given") rfl)⟩,
  ⟨c0.t.d.def_ 17 rfl, He.glo_ok X G (c0.t.d.fact 17 (f := .glo "ask_landed") rfl)⟩,
  ⟨c0.t.d.def_ 18 rfl, He.glo_ok X G (c0.t.d.fact 18 (f := .glo "ask_masked") rfl)⟩,
  ⟨c0.t.d.def_ 19 rfl, He.glo_ok X G (c0.t.d.fact 19 (f := .glo "ask_opened") rfl)⟩,
  ⟨c1.t.d.def_ 0 rfl, He.glo_ok X G (c1.t.d.fact 0 (f := .glo "ask_last") rfl)⟩,
  ⟨c1.t.d.def_ 1 rfl, He.glo_ok X G (c1.t.d.fact 1 (f := .glo "ask_lasted") rfl)⟩,
  ⟨c1.t.d.def_ 2 rfl, He.glo_ok X G (c1.t.d.fact 2 (f := .glo "ask_rescued") rfl)⟩,
  ⟨c1.t.d.def_ 3 rfl, He.glo_ok X G (c1.t.d.fact 3 (f := .glo "ask_ended") rfl)⟩,
  ⟨c1.t.d.def_ 4 rfl, He.glo_ok X G (c1.t.d.fact 4 (f := .glo "_law_cell_at") rfl)⟩,
  ⟨c1.t.d.def_ 5 rfl, He.glo_ok X G (c1.t.d.fact 5 (f := .glo "_law_well") rfl)⟩,
  ⟨c1.t.d.def_ 6 rfl, He.glo_ok X G (c1.t.d.fact 6 (f := .glo "_law_draw") rfl)⟩,
  ⟨c1.t.d.def_ 7 rfl, He.glo_ok X G (c1.t.d.fact 7 (f := .glo "_law_one") rfl)⟩,
  ⟨c1.t.d.def_ 8 rfl, He.glo_ok X G (c1.t.d.fact 8 (f := .glo "_law_word") rfl)⟩,
  ⟨c1.t.d.def_ 9 rfl, He.glo_ok X G (c1.t.d.fact 9 (f := .glo "_law_can_fail") rfl)⟩,
  ⟨c1.t.d.def_ 10 rfl, He.glo_ok X G (c1.t.d.fact 10 (f := .glo "_law_end_due") rfl)⟩,
  ⟨c1.t.d.def_ 11 rfl, He.glo_ok X G (c1.t.d.fact 11 (f := .glo "_law_due") rfl)⟩,
  ⟨c1.t.d.def_ 12 rfl, He.glo_ok X G (c1.t.d.fact 12 (f := .glo "_law_done") rfl)⟩,
  ⟨c1.t.d.def_ 13 rfl, He.glo_ok X G (c1.t.d.fact 13 (f := .glo "_law_row") rfl)⟩,
  ⟨c1.t.d.def_ 14 rfl, He.glo_ok X G (c1.t.d.fact 14 (f := .glo "_law_seen") rfl)⟩,
  ⟨c1.t.d.def_ 15 rfl, He.glo_ok X G (c1.t.d.fact 15 (f := .glo "law") rfl)⟩,
  c1.t.d.def_ 16 rfl,
  c1.t.d.def_ 17 rfl,
  c1.t.d.def_ 18 rfl,
  c1.t.d.def_ 19 rfl,
  c2.t.d.def_ 0 rfl,
  c2.t.d.def_ 1 rfl,
  c2.t.d.def_ 2 rfl,
  c2.t.d.def_ 3 rfl,
  c2.t.d.def_ 4 rfl,
  c2.t.d.def_ 5 rfl,
  c2.t.d.def_ 6 rfl,
  c2.t.d.def_ 7 rfl,
  c2.t.d.def_ 8 rfl,
  c2.t.d.def_ 9 rfl,
  He.glo_ok X G (c1.t.d.fact 16 (f := .glo "WorkError") rfl),
  ⟨c0.x 0, c0.x 1, c0.x 2, c0.x 3⟩,
  c0.x 4,
  He.glo_ok X G (c1.t.d.fact 17 (f := .glo "BadRun") rfl),
  ⟨c0.x 5, c0.x 6, c0.x 7, c0.x 8⟩,
  of_decide_eq_true (c0.x 9),
  He.glo_ok X G (c1.t.d.fact 18 (f := .glo "Broken") rfl),
  ⟨c0.x 10, c0.x 11, c0.x 12, c0.x 13⟩,
  He.glo_ok X G (c1.t.d.fact 19 (f := .glo "Seen") rfl),
  He.cls_ok (c2.t.d.fact 0 (f := .cls "Seen") rfl),
  He.mkr_ok (c2.t.d.fact 1 (f := .mkr "Seen") rfl),
  He.noat_ok (c2.t.d.fact 2 (f := .noat "Seen" "beginner") rfl),
  He.noat_ok (c2.t.d.fact 3 (f := .noat "Seen" "called") rfl),
  He.noat_ok (c2.t.d.fact 4 (f := .noat "Seen" "ending") rfl),
  He.noat_ok (c2.t.d.fact 5 (f := .noat "Seen" "owed") rfl),
  He.noat_ok (c2.t.d.fact 6 (f := .noat "Seen" "shut") rfl),
  He.noat_ok (c2.t.d.fact 7 (f := .noat "Seen" "state") rfl),
  He.noat_ok (c2.t.d.fact 8 (f := .noat "Seen" "had") rfl),
  He.noat_ok (c2.t.d.fact 9 (f := .noat "Seen" "lasts") rfl),
  c0.x 14,
  He.glo_ok X G (c2.t.d.fact 10 (f := .glo "Watch") rfl),
  He.cls_ok (c2.t.d.fact 11 (f := .cls "Watch") rfl),
  He.mkr_ok (c2.t.d.fact 12 (f := .mkr "Watch") rfl),
  He.noat_ok (c2.t.d.fact 13 (f := .noat "Watch" "sizes") rfl),
  He.noat_ok (c2.t.d.fact 14 (f := .noat "Watch" "raw") rfl),
  He.noat_ok (c2.t.d.fact 15 (f := .noat "Watch" "tasks") rfl),
  He.noat_ok (c2.t.d.fact 16 (f := .noat "Watch" "latest") rfl),
  He.noat_ok (c2.t.d.fact 17 (f := .noat "Watch" "homes") rfl),
  He.noat_ok (c2.t.d.fact 18 (f := .noat "Watch" "must") rfl),
  He.noat_ok (c2.t.d.fact 19 (f := .noat "Watch" "many") rfl),
  He.meth_ok (c3.t.d.fact 0 (f := .meth "Watch" "see") rfl),
  He.meth_ok (c3.t.d.fact 1 (f := .meth "Watch" "seen") rfl),
  He.meth_ok (c3.t.d.fact 2 (f := .meth "Watch" "reason") rfl),
  He.meth_ok (c3.t.d.fact 3 (f := .meth "Watch" "is_latest") rfl),
  He.meth_ok (c3.t.d.fact 4 (f := .meth "Watch" "is_full") rfl),
  He.meth_ok (c3.t.d.fact 5 (f := .meth "Watch" "may_fail") rfl),
  He.meth_ok (c3.t.d.fact 6 (f := .meth "Watch" "take") rfl),
  He.meth_ok (c3.t.d.fact 7 (f := .meth "Watch" "hold") rfl),
  He.meth_ok (c3.t.d.fact 8 (f := .meth "Watch" "turn") rfl),
  He.meth_ok (c3.t.d.fact 9 (f := .meth "Watch" "go_on") rfl),
  c0.x 15,
  of_decide_eq_true (c0.x 16),
  of_decide_eq_true (c0.x 17),
  of_decide_eq_true (c0.x 18),
  c0.x 19,
  He.free_ok X G (c3.t.d.fact 10 (f := .free "ValueError") rfl),
  He.free_ok X G (c3.t.d.fact 11 (f := .free "all") rfl),
  He.free_ok X G (c3.t.d.fact 12 (f := .free "any") rfl),
  He.free_ok X G (c3.t.d.fact 13 (f := .free "bool") rfl),
  He.free_ok X G (c3.t.d.fact 14 (f := .free "dict") rfl),
  He.free_ok X G (c3.t.d.fact 15 (f := .free "int") rfl),
  He.free_ok X G (c3.t.d.fact 16 (f := .free "isinstance") rfl),
  He.free_ok X G (c3.t.d.fact 17 (f := .free "len") rfl),
  He.free_ok X G (c3.t.d.fact 18 (f := .free "range") rfl),
  He.free_ok X G (c3.t.d.fact 19 (f := .free "str") rfl),
  He.free_ok X G (c4.t.d.fact 0 (f := .free "sum") rfl),
  He.free_ok X G (c4.t.d.fact 1 (f := .free "tuple") rfl),
  He.free_ok X G (c4.t.d.fact 2 (f := .free "zip") rfl),
  He.str_ok X G (c4.t.d.fact 3 (f := .str "LETTERS" "abcdefghijklmnopqrstuvwxyz") rfl),
  He.int_ok X G (c4.t.d.fact 4 (f := .int "LONGEST" 8) rfl),
  He.glo_ok X G (c4.t.d.fact 5 (f := .glo "FORMS") rfl),
  c.b.t.tab 0,
  c1.x 0,
  c1.x 1,
  He.glo_ok X G (c4.t.d.fact 6 (f := .glo "ON") rfl),
  c1.x 2,
  He.glo_ok X G (c4.t.d.fact 7 (f := .glo "KILLED") rfl),
  c1.x 3,
  He.int_ok X G (c4.t.d.fact 8 (f := .int "MOST_TASKS" 12) rfl),
  He.int_ok X G (c4.t.d.fact 9 (f := .int "PLAIN_SIZE" 1) rfl),
  He.glo_ok X G (c4.t.d.fact 10 (f := .glo "ASKING") rfl),
  c.b.t.tab 1,
  c1.x 4,
  c1.x 5⟩
end dN
noncomputable section
namespace Gi
open PySem PySem.W PySem.Calls PyProof.Rows dN
abbrev S (x : String) : PySem.Str := PySem.Str.ofString x
def E (P : Params) (x : String) (t : Tok) (v : Value) : DictEntry := ⟨PyData.keyHash P (S x), .str (S x) t, v⟩
def env0 : Env := { scope := PySem.Challenge.pw_givenback_k24_lasts_failures_and_ends.main.scope, locals := mainNs, globals := mainNs, cells := [], code := (.ref 13), frame := some 14 }
def nW : List Stmt := behindTheImports PySem.Challenge.pw_givenback_k24_lasts_failures_and_ends
def c0 : Code := .body nW env0
def zG (P : Params) : Obj := ⟨(.type "dict"), none, (.dict [E P "__name__" 1 (.str (S "builtins") 160), E P "__doc__" 2 (.builtin "builtins.__doc__:str#opaque"), E P "__package__" 3 (.builtin "builtins.__package__:str#opaque"), E P "__loader__" 4 (.builtin "builtins.__loader__:shared#opaque"), E P "__spec__" 5 (.builtin "builtins.__spec__#opaque"), E P "__build_class__" 6 (.builtin "__build_class__"), E P "__import__" 7 (.builtin "__import__"), E P "abs" 8 (.builtin "abs"), E P "all" 9 (.builtin "all"), E P "any" 10 (.builtin "any"), E P "ascii" 11 (.builtin "ascii"), E P "bin" 12 (.builtin "bin"), E P "breakpoint" 13 (.builtin "breakpoint"), E P "callable" 14 (.builtin "callable"), E P "chr" 15 (.builtin "chr"), E P "compile" 16 (.builtin "compile"), E P "delattr" 17 (.builtin "delattr"), E P "dir" 18 (.builtin "dir"), E P "divmod" 19 (.builtin "divmod"), E P "eval" 20 (.builtin "eval"), E P "exec" 21 (.builtin "exec"), E P "format" 22 (.builtin "format"), E P "getattr" 23 (.builtin "getattr"), E P "globals" 24 (.builtin "globals"), E P "hasattr" 25 (.builtin "hasattr"), E P "hash" 26 (.builtin "hash"), E P "hex" 27 (.builtin "hex"), E P "id" 28 (.builtin "id"), E P "input" 29 (.builtin "input"), E P "isinstance" 30 (.builtin "isinstance"), E P "issubclass" 31 (.builtin "issubclass"), E P "iter" 32 (.builtin "iter"), E P "aiter" 33 (.builtin "aiter"), E P "len" 34 (.builtin "len"), E P "locals" 35 (.builtin "locals"), E P "max" 36 (.builtin "max"), E P "min" 37 (.builtin "min"), E P "next" 38 (.builtin "next"), E P "anext" 39 (.builtin "anext"), E P "oct" 40 (.builtin "oct"), E P "ord" 41 (.builtin "ord"), E P "pow" 42 (.builtin "pow"), E P "print" 43 (.builtin "print"), E P "repr" 44 (.builtin "repr"), E P "round" 45 (.builtin "round"), E P "setattr" 46 (.builtin "setattr"), E P "sorted" 47 (.builtin "sorted"), E P "sum" 48 (.builtin "sum"), E P "vars" 49 (.builtin "vars"), E P "None" 50 .none, E P "Ellipsis" 51 .ellipsis, E P "NotImplemented" 52 .notImplemented, E P "False" 53 (.bool false), E P "True" 54 (.bool true), E P "bool" 55 (.type "bool"), E P "memoryview" 56 (.type "memoryview"), E P "bytearray" 57 (.type "bytearray"), E P "bytes" 58 (.type "bytes"), E P "classmethod" 59 (.type "classmethod"), E P "complex" 60 (.type "complex"), E P "dict" 61 (.type "dict"), E P "enumerate" 62 (.type "enumerate"), E P "filter" 63 (.type "filter"), E P "float" 64 (.type "float"), E P "frozenset" 65 (.type "frozenset"), E P "property" 66 (.type "property"), E P "int" 67 (.type "int"), E P "list" 68 (.type "list"), E P "map" 69 (.type "map"), E P "object" 70 (.type "object"), E P "range" 71 (.type "range"), E P "reversed" 72 (.type "reversed"), E P "set" 73 (.type "set"), E P "slice" 74 (.type "slice"), E P "staticmethod" 75 (.type "staticmethod"), E P "str" 76 (.type "str"), E P "super" 77 (.type "super"), E P "tuple" 78 (.type "tuple"), E P "type" 79 (.type "type"), E P "zip" 80 (.type "zip"), E P "__debug__" 81 (.bool true), E P "BaseException" 82 (.type "BaseException"), E P "BaseExceptionGroup" 83 (.type "BaseExceptionGroup"), E P "Exception" 84 (.type "Exception"), E P "GeneratorExit" 85 (.type "GeneratorExit"), E P "KeyboardInterrupt" 86 (.type "KeyboardInterrupt"), E P "SystemExit" 87 (.type "SystemExit"), E P "ArithmeticError" 88 (.type "ArithmeticError"), E P "AssertionError" 89 (.type "AssertionError"), E P "AttributeError" 90 (.type "AttributeError"), E P "BufferError" 91 (.type "BufferError"), E P "EOFError" 92 (.type "EOFError"), E P "ImportError" 93 (.type "ImportError"), E P "LookupError" 94 (.type "LookupError"), E P "MemoryError" 95 (.type "MemoryError"), E P "NameError" 96 (.type "NameError"), E P "OSError" 97 (.type "OSError"), E P "ReferenceError" 98 (.type "ReferenceError"), E P "RuntimeError" 99 (.type "RuntimeError"), E P "StopAsyncIteration" 100 (.type "StopAsyncIteration"), E P "StopIteration" 101 (.type "StopIteration"), E P "SyntaxError" 102 (.type "SyntaxError"), E P "SystemError" 103 (.type "SystemError"), E P "TypeError" 104 (.type "TypeError"), E P "ValueError" 105 (.type "ValueError"), E P "Warning" 106 (.type "Warning"), E P "FloatingPointError" 107 (.type "FloatingPointError"), E P "OverflowError" 108 (.type "OverflowError"), E P "ZeroDivisionError" 109 (.type "ZeroDivisionError"), E P "BytesWarning" 110 (.type "BytesWarning"), E P "DeprecationWarning" 111 (.type "DeprecationWarning"), E P "EncodingWarning" 112 (.type "EncodingWarning"), E P "FutureWarning" 113 (.type "FutureWarning"), E P "ImportWarning" 114 (.type "ImportWarning"), E P "PendingDeprecationWarning" 115 (.type "PendingDeprecationWarning"), E P "ResourceWarning" 116 (.type "ResourceWarning"), E P "RuntimeWarning" 117 (.type "RuntimeWarning"), E P "SyntaxWarning" 118 (.type "SyntaxWarning"), E P "UnicodeWarning" 119 (.type "UnicodeWarning"), E P "UserWarning" 120 (.type "UserWarning"), E P "BlockingIOError" 121 (.type "BlockingIOError"), E P "ChildProcessError" 122 (.type "ChildProcessError"), E P "ConnectionError" 123 (.type "ConnectionError"), E P "FileExistsError" 124 (.type "FileExistsError"), E P "FileNotFoundError" 125 (.type "FileNotFoundError"), E P "InterruptedError" 126 (.type "InterruptedError"), E P "IsADirectoryError" 127 (.type "IsADirectoryError"), E P "NotADirectoryError" 128 (.type "NotADirectoryError"), E P "PermissionError" 129 (.type "PermissionError"), E P "ProcessLookupError" 130 (.type "ProcessLookupError"), E P "TimeoutError" 131 (.type "TimeoutError"), E P "IndentationError" 132 (.type "IndentationError"), E P "_IncompleteInputError" 133 (.type "_IncompleteInputError"), E P "IndexError" 134 (.type "IndexError"), E P "KeyError" 135 (.type "KeyError"), E P "ModuleNotFoundError" 136 (.type "ModuleNotFoundError"), E P "NotImplementedError" 137 (.type "NotImplementedError"), E P "PythonFinalizationError" 138 (.type "PythonFinalizationError"), E P "RecursionError" 139 (.type "RecursionError"), E P "UnboundLocalError" 140 (.type "UnboundLocalError"), E P "UnicodeError" 141 (.type "UnicodeError"), E P "BrokenPipeError" 142 (.type "BrokenPipeError"), E P "ConnectionAbortedError" 143 (.type "ConnectionAbortedError"), E P "ConnectionRefusedError" 144 (.type "ConnectionRefusedError"), E P "ConnectionResetError" 145 (.type "ConnectionResetError"), E P "TabError" 146 (.type "TabError"), E P "UnicodeDecodeError" 147 (.type "UnicodeDecodeError"), E P "UnicodeEncodeError" 148 (.type "UnicodeEncodeError"), E P "UnicodeTranslateError" 149 (.type "UnicodeTranslateError"), E P "ExceptionGroup" 150 (.type "ExceptionGroup"), E P "EnvironmentError" 151 (.type "OSError"), E P "IOError" 152 (.type "OSError"), E P "open" 153 (.builtin "open"), E P "quit" 154 (.builtin "builtins.quit#opaque"), E P "exit" 155 (.builtin "builtins.exit#opaque"), E P "copyright" 156 (.builtin "builtins.copyright#opaque"), E P "credits" 157 (.builtin "builtins.credits#opaque"), E P "license" 158 (.builtin "builtins.license#opaque"), E P "help" 159 (.builtin "builtins.help#opaque")].toArray 159), [].toArray⟩
def Bw (P : Params) : Obj := ⟨(.type "dict"), none, (.dict [E P "builtins" 162 (.ref 4), E P "__main__" 163 (.ref 5)].toArray 2), [].toArray⟩
def Bx (P : Params) : Obj := ⟨.none, none, (.dict [].toArray 0), [].toArray⟩
def ahI (P : Params) : Obj := ⟨(.type "dict"), none, (.dict [E P "__name__" 165 (.str (S "__main__") 164), E P "__doc__" 166 .none, E P "__package__" 167 .none, E P "__loader__" 168 (.builtin "__main__.__loader__#opaque"), E P "__spec__" 169 .none, E P "__annotations__" 170 (.ref 6), E P "__builtins__" 171 (.ref 4), E P "__file__" 173 (.str (S "/claim/cut.py") 172), E P "__cached__" 174 .none].toArray 9), [].toArray⟩
def BJ (P : Params) : Obj := ⟨(.type "module"), (some 0), .plain, [].toArray⟩
def Gj (P : Params) : Obj := ⟨(.type "module"), (some 3), .plain, [].toArray⟩
def BK (P : Params) : Obj := ⟨(.type "dict"), none, (.dict [].toArray 0), [].toArray⟩
def Gk (P : Params) : Obj := ⟨(.type "tuple"), none, (.seq [].toArray 0), [].toArray⟩
def Gm (P : Params) : Obj := ⟨.none, none, (.fields [].toArray), [].toArray⟩
def Gn (P : Params) : Obj := ⟨(.type "code"), none, (.fields [(.str (S "<module>") 176), (.str (S "<module>") 177), (.str (S "/claim/cut.py") 178), (.int (1) 0), (.int (0) 0), (.int (0) 0), (.int (0) 0), (.int (0) 0), (.ref 7), (.bool false), (.int (175) 0), (.ref 8), .none, .none, .none, .none, (.int (179) 0), (.int (1) 0), (.str (S "/claim/cut.py") 180)].toArray), [].toArray⟩
def zH (P : Params) : Obj := ⟨(.type "frame"), none, .plain, [(some (.ref 9)), (some (.ref 3)), (some (.ref 3)), none, (some (.str (S "__main__") 164)), none, (some (.ref 0))].toArray⟩
def xQ (P : Params) : Obj := ⟨(.type "tuple"), none, (.seq [].toArray 0), [].toArray⟩
def afB (P : Params) : Obj := ⟨.none, none, (.fields [].toArray), [].toArray⟩
def zJ (P : Params) : Obj := ⟨(.type "code"), none, (.fields [(.str (S "<module>") 182), (.str (S "<module>") 183), (.str (S "/claim/cut.py") 184), (.int (1) 0), (.int (0) 0), (.int (0) 0), (.int (0) 0), (.int (0) 0), (.ref 11), (.bool false), (.int (181) 0), (.ref 12), .none, .none, .none, .none, (.int (185) 0), (.int (1) 0), (.str (S "/claim/cut.py") 186)].toArray), [].toArray⟩
def zK (P : Params) : Obj := ⟨(.type "frame"), none, .plain, [(some (.ref 13)), (some (.ref 3)), (some (.ref 3)), none, (some (.str (S "__main__") 164)), none, (some (.ref 0))].toArray⟩
def au (o : Obj) : BT := .node o .nil .nil
def t0 (P : Params) : BT := (.node (zG P) (.node (Bw P) (.node (ahI P) (au (Gk P)) (au (xQ P))) (.node (Gj P) (au (Gn P)) (au (zJ P)))) (.node (Bx P) (.node (BJ P) (au (Gm P)) (au (afB P))) (.node (BK P) (au (zH P)) (au (zK P)))))
def S0 (w : World) (os : OsState) : SharedT := ⟨t0 w.params, 15, ⟨[], [], [], 0, [], [], false, [].toArray, [], 0, false, false, false, 0, [2000, 10, 10], false, 0, true, [], [], 0, false⟩, #[], ⟨0, 0, 0, 0⟩, 187, os⟩
abbrev n0 : Nat := 11
abbrev xR : Option Value := (some (.ref 6))
abbrev q0 : Pos := ⟨0, 0, 0, 0⟩
theorem hb (w : World) (os : OsState) : HP.Dg PySem.Challenge.pw_givenback_k24_lasts_failures_and_ends w os 12 (S0 w os, ⟨HandSHeadRun.denQ HandSHeadRun.tabQ c0, c0, ⟨0, 0, 0, 0⟩, [topFrame q0]⟩) := by
  unfold HP.Dg
  kernel_rfl
def t1 (P : Params) : BT := (.node (zG P) (.node (Bw P) (.node (ahI P) (au (Gk P)) (au (xQ P))) (.node (Gj P) (au (Gn P)) (au (zJ P)))) (.node (Bx P) (.node (BJ P) (au (Gm P)) (au (afB P))) (.node (BK P) (au (zH P)) (au (zK P)))))
def S1 (w : World) (os : OsState) : SharedT := ⟨t1 w.params, 15, ⟨[], [], [], 0, [], [], false, [].toArray, [], 0, false, false, false, 0, [2000, 10, 10], false, 0, true, [], [], 0, false⟩, #[], ⟨0, 0, 0, 0⟩, 187, os⟩
theorem hs (w : World) (os : OsState) : HP.QJ (HP.RN PySem.Challenge.pw_givenback_k24_lasts_failures_and_ends w) n0 xR 1 (S0 w os) (blockOf nW env0 c0 ⟨0, 0, 0, 0⟩ [topFrame q0]) = some (.next, S1 w os, c0, ⟨0, 0, 0, 0⟩) := by kernel_rfl
def akZ (P : Params) : Obj := ⟨(.type "dict"), none, (.dict [E P "__name__" 165 (.str (S "givenback.rowforms") 287), E P "__doc__" 166 .none, E P "__package__" 167 .none, E P "__loader__" 168 (.builtin "__main__.__loader__#opaque"), E P "__spec__" 169 .none, E P "__annotations__" 170 (.ref 6), E P "__builtins__" 171 (.ref 4), E P "__file__" 173 (.str (S "/claim/cut.py") 172), E P "__cached__" 174 .none, E P "WorkError" 216 (.ref 32), E P "BadRun" 232 (.ref 45), E P "Broken" 258 (.ref 64), E P "LETTERS" 262 (.str (S "abcdefghijklmnopqrstuvwxyz") 261), E P "LONGEST" 264 (.int (8) 263), E P "is_name" 270 (.ref 71), E P "is_whole" 279 (.ref 78), E P "is_number" 286 (.ref 85)].toArray 17), [].toArray⟩
def afC (P : Params) : Obj := ⟨.none, none, (.fields [(.int (2) 0), (.int (0) 0), (.ref 20), (.int (7) 0), (.int (0) 0), (.ref 41), (.int (9) 0), (.int (0) 0), (.ref 53), (.int (17) 0), (.int (0) 0), (.ref 70), (.int (19) 0), (.int (0) 0), (.ref 77), (.int (21) 0), (.int (0) 0), (.ref 84)].toArray), [].toArray⟩
def Hq (P : Params) : Obj := ⟨(.type "tuple"), none, (.seq [(.type "ValueError")].toArray 0), [].toArray⟩
def Hr (P : Params) : Obj := ⟨(.type "builtin_function_or_method"), none, (.fields [(.builtin "type.__prepare__"), (.type "type")].toArray), [].toArray⟩
def Ht (P : Params) : Obj := ⟨(.type "dict"), none, (.dict [E P "__module__" 196 (.str (S "givenback.errors") 187), E P "__qualname__" 198 (.str (S "WorkError") 197), E P "__firstlineno__" 200 (.int (2) 199), E P "__init__" 209 (.ref 29), E P "__static_attributes__" 211 (.ref 30)].toArray 5), [].toArray⟩
def Hu (P : Params) : Obj := ⟨(.type "tuple"), none, (.seq [].toArray 0), [].toArray⟩
def Hv (P : Params) : Obj := ⟨.none, none, (.fields [(.int (4) 0), (.int (4) 0), (.ref 28)].toArray), [].toArray⟩
def Hw (P : Params) : Obj := ⟨(.type "code"), none, (.fields [(.str (S "WorkError") 191), (.str (S "WorkError") 192), (.str (S "/claim/cut.py") 193), (.int (2) 0), (.int (0) 0), (.int (0) 0), (.int (0) 0), (.int (0) 0), (.ref 18), (.bool false), (.int (181) 0), (.ref 19), .none, .none, .none, .none, (.int (194) 0), (.int (2) 0), (.str (S "/claim/cut.py") 195)].toArray), [].toArray⟩
def Hz (P : Params) : Obj := ⟨(.type "frame"), none, .plain, [(some (.ref 20)), (some (.ref 3)), (some (.ref 17)), none, (some (.str (S "givenback.errors") 187)), none, (some (.ref 0))].toArray⟩
def Dh (P : Params) : Obj := ⟨(.type "tuple"), none, (.seq [(.str (S "refused") 201)].toArray 0), [].toArray⟩
def Di (P : Params) : Obj := ⟨(.type "tuple"), none, (.seq [].toArray 0), [].toArray⟩
def Dj (P : Params) : Obj := ⟨.none, none, (.fields [].toArray), [].toArray⟩
def Dk (P : Params) : Obj := ⟨(.type "tuple"), none, (.seq [(.str (S "self") 205), (.str (S "why") 206)].toArray 0), [].toArray⟩
def Dm (P : Params) : Obj := ⟨(.type "tuple"), none, (.seq [].toArray 0), [].toArray⟩
def zM (P : Params) : Obj := ⟨.none, none, (.func ⟨(S "__init__"), (S "WorkError.__init__"), L2.defArgs (L2.inClass (top 1) 0), .stmts (L2.defBody (L2.inClass (top 1) 0)), L2.defScope (L2.inClass (top 1) 0), 0, [], .none, .none, .none, .none, none, .none, .none, 0⟩), [].toArray⟩
def Dq (P : Params) : Obj := ⟨(.type "code"), none, (.fields [(.str (S "__init__") 202), (.str (S "WorkError.__init__") 203), (.str (S "/claim/cut.py") 204), (.int (4) 0), (.int (2) 0), (.int (0) 0), (.int (0) 0), (.int (3) 0), (.ref 23), (.bool true), (.int (181) 0), (.ref 24), .none, (.ref 25), (.ref 26), (.ref 27), (.int (207) 0), (.int (4) 0), (.str (S "/claim/cut.py") 208)].toArray), [].toArray⟩
def Dr (P : Params) : Obj := ⟨(.type "function"), none, (.func ⟨(S "__init__"), (S "WorkError.__init__"), L2.defArgs (L2.inClass (top 1) 0), .stmts (L2.defBody (L2.inClass (top 1) 0)), L2.defScope (L2.inClass (top 1) 0), 3, [], (.ref 22), .none, .none, (.str (S "givenback.errors") 187), none, (.ref 28), .none, 0⟩), [].toArray⟩
def Ds (P : Params) : Obj := ⟨(.type "tuple"), none, (.seq [(.str (S "why") 210)].toArray 0), [].toArray⟩
def Dt (P : Params) : Obj := ⟨(.type "dict"), none, (.dict [E P "__module__" 196 (.str (S "givenback.errors") 187), E P "__firstlineno__" 200 (.int (2) 199), E P "__init__" 209 (.ref 29), E P "__static_attributes__" 211 (.ref 30), E P "__weakref__" 213 (.ref 33), E P "__doc__" 214 .none].toArray 3), [].toArray⟩
def Du (P : Params) : Obj := ⟨(.type "type"), none, (.cls ⟨(S "WorkError"), [(.type "ValueError")], [(.ref 32), (.type "ValueError"), (.type "Exception"), (.type "BaseException"), (.type "object")], 31, (S "WorkError"), true, [], [(.ref 45), (.ref 64)], false, none, false⟩), [(some (.ref 15)), none, (some (.str (S "WorkError") 189)), (some (.str (S "WorkError") 197)), (some (.builtin "ValueError.__new__")), (some (.bool true))].toArray⟩
def Dy (P : Params) : Obj := ⟨(.type "getset_descriptor"), none, (.fields [(.str (S "__weakref__") 212), (.ref 32), (.builtin "ExceptionGroup.__weakref__"), .none].toArray), [].toArray⟩
def HD (P : Params) : Obj := ⟨(.type "super"), none, (.fields [(.ref 32), (.ref 32), (.ref 32)].toArray), [].toArray⟩
def HF (P : Params) : Obj := ⟨(.type "builtin_function_or_method"), none, (.fields [(.builtin "object.__init_subclass__"), (.ref 32)].toArray), [].toArray⟩
def HJ (P : Params) : Obj := ⟨(.type "tuple"), none, (.seq [(.ref 32)].toArray 0), [].toArray⟩
def HS (P : Params) : Obj := ⟨(.type "builtin_function_or_method"), none, (.fields [(.builtin "type.__prepare__"), (.type "type")].toArray), [].toArray⟩
def HW (P : Params) : Obj := ⟨(.type "dict"), none, (.dict [E P "__module__" 224 (.str (S "givenback.errors") 187), E P "__qualname__" 226 (.str (S "BadRun") 225), E P "__firstlineno__" 228 (.int (7) 227), E P "__static_attributes__" 229 (.ref 43)].toArray 4), [].toArray⟩
def Uv (P : Params) : Obj := ⟨(.type "tuple"), none, (.seq [].toArray 0), [].toArray⟩
def Uw (P : Params) : Obj := ⟨.none, none, (.fields [].toArray), [].toArray⟩
def Ux (P : Params) : Obj := ⟨(.type "code"), none, (.fields [(.str (S "BadRun") 219), (.str (S "BadRun") 220), (.str (S "/claim/cut.py") 221), (.int (7) 0), (.int (0) 0), (.int (0) 0), (.int (0) 0), (.int (0) 0), (.ref 39), (.bool false), (.int (181) 0), (.ref 40), .none, .none, .none, .none, (.int (222) 0), (.int (7) 0), (.str (S "/claim/cut.py") 223)].toArray), [].toArray⟩
def Uy (P : Params) : Obj := ⟨(.type "frame"), none, .plain, [(some (.ref 41)), (some (.ref 3)), (some (.ref 38)), none, (some (.str (S "givenback.errors") 187)), none, (some (.ref 0))].toArray⟩
def Dz (P : Params) : Obj := ⟨(.type "tuple"), none, (.seq [].toArray 0), [].toArray⟩
def HX (P : Params) : Obj := ⟨(.type "dict"), none, (.dict [E P "__module__" 224 (.str (S "givenback.errors") 187), E P "__firstlineno__" 228 (.int (7) 227), E P "__static_attributes__" 229 (.ref 43), E P "__doc__" 230 .none].toArray 2), [].toArray⟩
def HY (P : Params) : Obj := ⟨(.type "type"), none, (.cls ⟨(S "BadRun"), [(.ref 32)], [(.ref 45), (.ref 32), (.type "ValueError"), (.type "Exception"), (.type "BaseException"), (.type "object")], 44, (S "BadRun"), true, [], [], false, none, false⟩), [(some (.ref 36)), none, (some (.str (S "BadRun") 217)), (some (.str (S "BadRun") 225)), (some (.builtin "ValueError.__new__")), (some (.bool true))].toArray⟩
def Uz (P : Params) : Obj := ⟨(.type "super"), none, (.fields [(.ref 45), (.ref 45), (.ref 45)].toArray), [].toArray⟩
def UG (P : Params) : Obj := ⟨(.type "builtin_function_or_method"), none, (.fields [(.builtin "object.__init_subclass__"), (.ref 45)].toArray), [].toArray⟩
def UJ (P : Params) : Obj := ⟨(.type "tuple"), none, (.seq [(.ref 32)].toArray 0), [].toArray⟩
def UL (P : Params) : Obj := ⟨(.type "builtin_function_or_method"), none, (.fields [(.builtin "type.__prepare__"), (.type "type")].toArray), [].toArray⟩
def UW (P : Params) : Obj := ⟨(.type "dict"), none, (.dict [E P "__module__" 240 (.str (S "givenback.errors") 187), E P "__qualname__" 242 (.str (S "Broken") 241), E P "__firstlineno__" 244 (.int (9) 243), E P "__init__" 253 (.ref 61), E P "__static_attributes__" 255 (.ref 62)].toArray 5), [].toArray⟩
def U0 (P : Params) : Obj := ⟨(.type "tuple"), none, (.seq [].toArray 0), [].toArray⟩
def U3 (P : Params) : Obj := ⟨.none, none, (.fields [(.int (11) 0), (.int (4) 0), (.ref 60)].toArray), [].toArray⟩
def U4 (P : Params) : Obj := ⟨(.type "code"), none, (.fields [(.str (S "Broken") 235), (.str (S "Broken") 236), (.str (S "/claim/cut.py") 237), (.int (9) 0), (.int (0) 0), (.int (0) 0), (.int (0) 0), (.int (0) 0), (.ref 51), (.bool false), (.int (181) 0), (.ref 52), .none, .none, .none, .none, (.int (238) 0), (.int (9) 0), (.str (S "/claim/cut.py") 239)].toArray), [].toArray⟩
def Ib (P : Params) : Obj := ⟨(.type "frame"), none, .plain, [(some (.ref 53)), (some (.ref 3)), (some (.ref 50)), none, (some (.str (S "givenback.errors") 187)), none, (some (.ref 0))].toArray⟩
def DG (P : Params) : Obj := ⟨(.type "tuple"), none, (.seq [].toArray 0), [].toArray⟩
def DK (P : Params) : Obj := ⟨.none, none, (.fields [].toArray), [].toArray⟩
def DN (P : Params) : Obj := ⟨(.type "tuple"), none, (.seq [(.str (S "self") 248), (.str (S "at") 249), (.str (S "why") 250)].toArray 0), [].toArray⟩
def DP (P : Params) : Obj := ⟨(.type "tuple"), none, (.seq [].toArray 0), [].toArray⟩
def DQ (P : Params) : Obj := ⟨.none, none, (.func ⟨(S "__init__"), (S "Broken.__init__"), L2.defArgs (L2.inClass (top 3) 0), .stmts (L2.defBody (L2.inClass (top 3) 0)), L2.defScope (L2.inClass (top 3) 0), 0, [], .none, .none, .none, .none, none, .none, .none, 0⟩), [].toArray⟩
def DR (P : Params) : Obj := ⟨(.type "code"), none, (.fields [(.str (S "__init__") 245), (.str (S "Broken.__init__") 246), (.str (S "/claim/cut.py") 247), (.int (11) 0), (.int (3) 0), (.int (0) 0), (.int (0) 0), (.int (3) 0), (.ref 55), (.bool true), (.int (181) 0), (.ref 56), .none, (.ref 57), (.ref 58), (.ref 59), (.int (251) 0), (.int (11) 0), (.str (S "/claim/cut.py") 252)].toArray), [].toArray⟩
def DW (P : Params) : Obj := ⟨(.type "function"), none, (.func ⟨(S "__init__"), (S "Broken.__init__"), L2.defArgs (L2.inClass (top 3) 0), .stmts (L2.defBody (L2.inClass (top 3) 0)), L2.defScope (L2.inClass (top 3) 0), 3, [], .none, .none, .none, (.str (S "givenback.errors") 187), none, (.ref 60), .none, 0⟩), [].toArray⟩
def DY (P : Params) : Obj := ⟨(.type "tuple"), none, (.seq [(.str (S "at") 254)].toArray 0), [].toArray⟩
def Ea (P : Params) : Obj := ⟨(.type "dict"), none, (.dict [E P "__module__" 240 (.str (S "givenback.errors") 187), E P "__firstlineno__" 244 (.int (9) 243), E P "__init__" 253 (.ref 61), E P "__static_attributes__" 255 (.ref 62), E P "__doc__" 256 .none].toArray 2), [].toArray⟩
def Eb (P : Params) : Obj := ⟨(.type "type"), none, (.cls ⟨(S "Broken"), [(.ref 32)], [(.ref 64), (.ref 32), (.type "ValueError"), (.type "Exception"), (.type "BaseException"), (.type "object")], 63, (S "Broken"), true, [], [], false, none, false⟩), [(some (.ref 48)), none, (some (.str (S "Broken") 233)), (some (.str (S "Broken") 241)), (some (.builtin "ValueError.__new__")), (some (.bool true))].toArray⟩
def Ie (P : Params) : Obj := ⟨(.type "super"), none, (.fields [(.ref 64), (.ref 64), (.ref 64)].toArray), [].toArray⟩
def Ig (P : Params) : Obj := ⟨(.type "builtin_function_or_method"), none, (.fields [(.builtin "object.__init_subclass__"), (.ref 64)].toArray), [].toArray⟩
def Ec (P : Params) : Obj := ⟨(.type "tuple"), none, (.seq [].toArray 0), [].toArray⟩
def Ed (P : Params) : Obj := ⟨.none, none, (.fields [].toArray), [].toArray⟩
def Ef (P : Params) : Obj := ⟨.none, none, (.func ⟨(S "is_name"), (S "is_name"), L2.defArgs (top 7), .stmts (L2.defBody (top 7)), L2.defScope (top 7), 0, [], .none, .none, .none, .none, none, .none, .none, 0⟩), [].toArray⟩
def Eh (P : Params) : Obj := ⟨(.type "code"), none, (.fields [(.str (S "is_name") 265), (.str (S "is_name") 266), (.str (S "/claim/cut.py") 267), (.int (17) 0), (.int (1) 0), (.int (0) 0), (.int (0) 0), (.int (3) 0), (.ref 67), (.bool true), (.int (181) 0), (.ref 68), .none, .none, .none, (.ref 69), (.int (268) 0), (.int (17) 0), (.str (S "/claim/cut.py") 269)].toArray), [].toArray⟩
def Ih (P : Params) : Obj := ⟨(.type "function"), none, (.func ⟨(S "is_name"), (S "is_name"), L2.defArgs (top 7), .stmts (L2.defBody (top 7)), L2.defScope (top 7), 3, [], .none, .none, .none, (.str (S "givenback.words") 259), none, (.ref 70), .none, 0⟩), [].toArray⟩
def Ii (P : Params) : Obj := ⟨(.type "tuple"), none, (.seq [].toArray 0), [].toArray⟩
def Ij (P : Params) : Obj := ⟨.none, none, (.fields [].toArray), [].toArray⟩
def Ik (P : Params) : Obj := ⟨(.type "tuple"), none, (.seq [(.str (S "thing") 274), (.str (S "least") 275), (.str (S "most") 276)].toArray 0), [].toArray⟩
def Ei (P : Params) : Obj := ⟨(.type "tuple"), none, (.seq [].toArray 0), [].toArray⟩
def Il (P : Params) : Obj := ⟨.none, none, (.func ⟨(S "is_whole"), (S "is_whole"), L2.defArgs (top 8), .stmts (L2.defBody (top 8)), L2.defScope (top 8), 0, [], .none, .none, .none, .none, none, .none, .none, 0⟩), [].toArray⟩
def Io (P : Params) : Obj := ⟨(.type "code"), none, (.fields [(.str (S "is_whole") 271), (.str (S "is_whole") 272), (.str (S "/claim/cut.py") 273), (.int (19) 0), (.int (1) 0), (.int (0) 0), (.int (2) 0), (.int (3) 0), (.ref 72), (.bool true), (.int (181) 0), (.ref 73), .none, (.ref 74), (.ref 75), (.ref 76), (.int (277) 0), (.int (19) 0), (.str (S "/claim/cut.py") 278)].toArray), [].toArray⟩
def Ip (P : Params) : Obj := ⟨(.type "function"), none, (.func ⟨(S "is_whole"), (S "is_whole"), L2.defArgs (top 8), .stmts (L2.defBody (top 8)), L2.defScope (top 8), 3, [], .none, .none, .none, (.str (S "givenback.words") 259), none, (.ref 77), .none, 0⟩), [].toArray⟩
def Ir (P : Params) : Obj := ⟨(.type "tuple"), none, (.seq [].toArray 0), [].toArray⟩
def Iu (P : Params) : Obj := ⟨.none, none, (.fields [].toArray), [].toArray⟩
def Iw (P : Params) : Obj := ⟨(.type "tuple"), none, (.seq [(.str (S "thing") 283)].toArray 0), [].toArray⟩
def Iz (P : Params) : Obj := ⟨(.type "tuple"), none, (.seq [].toArray 0), [].toArray⟩
def IK (P : Params) : Obj := ⟨.none, none, (.func ⟨(S "is_number"), (S "is_number"), L2.defArgs (top 9), .stmts (L2.defBody (top 9)), L2.defScope (top 9), 0, [], .none, .none, .none, .none, none, .none, .none, 0⟩), [].toArray⟩
def IV (P : Params) : Obj := ⟨(.type "code"), none, (.fields [(.str (S "is_number") 280), (.str (S "is_number") 281), (.str (S "/claim/cut.py") 282), (.int (21) 0), (.int (1) 0), (.int (0) 0), (.int (0) 0), (.int (3) 0), (.ref 79), (.bool true), (.int (181) 0), (.ref 80), .none, (.ref 81), (.ref 82), (.ref 83), (.int (284) 0), (.int (21) 0), (.str (S "/claim/cut.py") 285)].toArray), [].toArray⟩
def IW (P : Params) : Obj := ⟨(.type "function"), none, (.func ⟨(S "is_number"), (S "is_number"), L2.defArgs (top 9), .stmts (L2.defBody (top 9)), L2.defScope (top 9), 3, [], .none, .none, .none, (.str (S "givenback.words") 259), none, (.ref 84), .none, 0⟩), [].toArray⟩
def b3 (P : Params) : BT := (.node (UG P) (au (Ir P)) .nil)
def b4 (P : Params) : BT := (.node (Uv P) (au (Ih P)) .nil)
def b5 (P : Params) : BT := (.node (U0 P) (au (IK P)) .nil)
def b6 (P : Params) : BT := (.node (Dz P) (au (Ei P)) .nil)
def b7 (P : Params) : BT := (.node (UL P) (au (Iw P)) .nil)
def b8 (P : Params) : BT := (.node (Ux P) (au (Ij P)) .nil)
def b9 (P : Params) : BT := (.node (U4 P) (au (IW P)) .nil)
def b10 (P : Params) : BT := (.node (HY P) (au (Io P)) .nil)
def b11 (P : Params) : BT := (.node (UJ P) (au (Iu P)) .nil)
def b12 (P : Params) : BT := (.node (Uw P) (au (Ii P)) .nil)
def b13 (P : Params) : BT := (.node (U3 P) (au (IV P)) .nil)
def b14 (P : Params) : BT := (.node (HX P) (au (Il P)) .nil)
def b15 (P : Params) : BT := (.node (UW P) (au (Iz P)) .nil)
def b16 (P : Params) : BT := (.node (Uy P) (au (Ik P)) .nil)
def b17 (P : Params) : BT := (.node (Uz P) (au (Ip P)) .nil)
def t2 (P : Params) : BT := (.node (zG P) (.node (Bw P) (.node (akZ P) (.node (Gk P) (.node (Hq P) (.node (Dt P) (au (Ea P)) .nil) (b3 P)) (.node (Di P) (b4 P) (au (DG P)))) (.node (xQ P) (.node (Hv P) (.node (HF P) (au (Ec P)) .nil) (b5 P)) (.node (zM P) (b6 P) (au (DQ P))))) (.node (Gj P) (.node (Gn P) (.node (Ht P) (.node (Dy P) (au (Ie P)) .nil) (b7 P)) (.node (Dk P) (b8 P) (au (DN P)))) (.node (zJ P) (.node (Hz P) (.node (HS P) (au (Ef P)) .nil) (b9 P)) (.node (Dr P) (b10 P) (au (DW P)))))) (.node (Bx P) (.node (BJ P) (.node (Gm P) (.node (Hr P) (.node (Du P) (au (Eb P)) .nil) (b11 P)) (.node (Dj P) (b12 P) (au (DK P)))) (.node (afC P) (.node (Hw P) (.node (HJ P) (au (Ed P)) .nil) (b13 P)) (.node (Dq P) (b14 P) (au (DR P))))) (.node (BK P) (.node (zH P) (.node (Hu P) (.node (HD P) (au (Ig P)) .nil) (b15 P)) (.node (Dm P) (b16 P) (au (DP P)))) (.node (zK P) (.node (Dh P) (.node (HW P) (au (Eh P)) .nil) (au (Ib P))) (.node (Ds P) (b17 P) (au (DY P)))))))
def S2 (w : World) (os : OsState) : SharedT := ⟨t2 w.params, 86, ⟨[], [], [], 0, [], [], false, [].toArray, [], 0, false, false, false, 0, [2000, 10, 10], false, 0, true, [], [], 0, false⟩, #[], ⟨0, 0, 0, 0⟩, 289, os⟩
theorem p2 (w : World) : ∀ os : OsState, HP.Piece PySem.Challenge.pw_givenback_k24_lasts_failures_and_ends w n0 xR env0 q0 c0 nW 0 11 811 (S1 w os) (S2 w os) ⟨0, 0, 0, 0⟩ ⟨23, 0, 23, 8⟩ := by
  intro os
  unfold HP.Piece
  kernel_rfl
def ak0 (P : Params) : Obj := ⟨(.type "dict"), none, (.dict [E P "__name__" 165 (.str (S "givenback.rowforms") 287), E P "__doc__" 166 .none, E P "__package__" 167 .none, E P "__loader__" 168 (.builtin "__main__.__loader__#opaque"), E P "__spec__" 169 .none, E P "__annotations__" 170 (.ref 6), E P "__builtins__" 171 (.ref 4), E P "__file__" 173 (.str (S "/claim/cut.py") 172), E P "__cached__" 174 .none, E P "WorkError" 216 (.ref 32), E P "BadRun" 232 (.ref 45), E P "Broken" 258 (.ref 64), E P "LETTERS" 262 (.str (S "abcdefghijklmnopqrstuvwxyz") 261), E P "LONGEST" 264 (.int (8) 263), E P "is_name" 270 (.ref 71), E P "is_whole" 279 (.ref 78), E P "is_number" 286 (.ref 85), E P "FORMS" 351 (.ref 86)].toArray 18), [].toArray⟩
def Ja (P : Params) : Obj := ⟨(.type "dict"), none, (.dict [E P "tell" 289 (.ref 87), E P "add" 293 (.ref 88), E P "failed" 298 (.ref 89), E P "rescued" 302 (.ref 90), E P "got" 306 (.ref 91), E P "given" 310 (.ref 92), E P "masked" 314 (.ref 93), E P "opened" 317 (.ref 94), E P "last" 320 (.ref 95), E P "lasted" 323 (.ref 96), E P "begun" 326 (.ref 97), E P "kill" 332 (.ref 98), E P "late" 336 (.ref 99), E P "nobody" 340 (.ref 100), E P "landed" 344 (.ref 101), E P "ended" 347 (.ref 102)].toArray 16), [].toArray⟩
def Jb (P : Params) : Obj := ⟨(.type "tuple"), none, (.seq [(.str (S "task") 290), (.str (S "number") 291)].toArray 0), [].toArray⟩
def Jc (P : Params) : Obj := ⟨(.type "tuple"), none, (.seq [(.str (S "task") 294), (.str (S "name") 295), (.str (S "number") 296)].toArray 0), [].toArray⟩
def Jd (P : Params) : Obj := ⟨(.type "tuple"), none, (.seq [(.str (S "task") 299), (.str (S "name") 300)].toArray 0), [].toArray⟩
def Je (P : Params) : Obj := ⟨(.type "tuple"), none, (.seq [(.str (S "task") 303), (.str (S "name") 304)].toArray 0), [].toArray⟩
def Jf (P : Params) : Obj := ⟨(.type "tuple"), none, (.seq [(.str (S "task") 307), (.str (S "name") 308)].toArray 0), [].toArray⟩
def Jg (P : Params) : Obj := ⟨(.type "tuple"), none, (.seq [(.str (S "task") 311), (.str (S "name") 312)].toArray 0), [].toArray⟩
def Jh (P : Params) : Obj := ⟨(.type "tuple"), none, (.seq [(.str (S "task") 315)].toArray 0), [].toArray⟩
def Ji (P : Params) : Obj := ⟨(.type "tuple"), none, (.seq [(.str (S "task") 318)].toArray 0), [].toArray⟩
def Jj (P : Params) : Obj := ⟨(.type "tuple"), none, (.seq [(.str (S "task") 321)].toArray 0), [].toArray⟩
def Jk (P : Params) : Obj := ⟨(.type "tuple"), none, (.seq [(.str (S "task") 324)].toArray 0), [].toArray⟩
def Jl (P : Params) : Obj := ⟨(.type "tuple"), none, (.seq [(.str (S "task") 327), (.str (S "task") 328), (.str (S "name") 329), (.str (S "task") 330)].toArray 0), [].toArray⟩
def Jm (P : Params) : Obj := ⟨(.type "tuple"), none, (.seq [(.str (S "doer") 333), (.str (S "task") 334)].toArray 0), [].toArray⟩
def Jo (P : Params) : Obj := ⟨(.type "tuple"), none, (.seq [(.str (S "doer") 337), (.str (S "task") 338)].toArray 0), [].toArray⟩
def BL (P : Params) : Obj := ⟨(.type "tuple"), none, (.seq [(.str (S "task") 341), (.str (S "name") 342)].toArray 0), [].toArray⟩
def BP (P : Params) : Obj := ⟨(.type "tuple"), none, (.seq [(.str (S "task") 345)].toArray 0), [].toArray⟩
def BR (P : Params) : Obj := ⟨(.type "tuple"), none, (.seq [(.str (S "task") 348), (.str (S "outcome") 349)].toArray 0), [].toArray⟩
def t3 (P : Params) : BT := (.node (zG P) (.node (Bw P) (.node (ak0 P) (.node (Gk P) (.node (Hq P) (.node (Dt P) (au (Ea P)) (au (Jj P))) (b3 P)) (.node (Di P) (b4 P) (.node (DG P) (au (Jb P)) .nil))) (.node (xQ P) (.node (Hv P) (.node (HF P) (au (Ec P)) (au (Jo P))) (b5 P)) (.node (zM P) (b6 P) (.node (DQ P) (au (Jf P)) .nil)))) (.node (Gj P) (.node (Gn P) (.node (Ht P) (.node (Dy P) (au (Ie P)) (au (Jl P))) (b7 P)) (.node (Dk P) (b8 P) (.node (DN P) (au (Jd P)) .nil))) (.node (zJ P) (.node (Hz P) (.node (HS P) (au (Ef P)) (au (BP P))) (b9 P)) (.node (Dr P) (b10 P) (.node (DW P) (au (Jh P)) .nil))))) (.node (Bx P) (.node (BJ P) (.node (Gm P) (.node (Hr P) (.node (Du P) (au (Eb P)) (au (Jk P))) (b11 P)) (.node (Dj P) (b12 P) (.node (DK P) (au (Jc P)) .nil))) (.node (afC P) (.node (Hw P) (.node (HJ P) (au (Ed P)) (au (BL P))) (b13 P)) (.node (Dq P) (b14 P) (.node (DR P) (au (Jg P)) .nil)))) (.node (BK P) (.node (zH P) (.node (Hu P) (.node (HD P) (au (Ig P)) (au (Jm P))) (b15 P)) (.node (Dm P) (b16 P) (.node (DP P) (au (Je P)) .nil))) (.node (zK P) (.node (Dh P) (.node (HW P) (au (Eh P)) (au (BR P))) (.node (Ib P) (au (Ja P)) .nil)) (.node (Ds P) (b17 P) (.node (DY P) (au (Ji P)) .nil))))))
def S3 (w : World) (os : OsState) : SharedT := ⟨t3 w.params, 103, ⟨[], [], [], 0, [], [], false, [].toArray, [], 0, false, false, false, 0, [2000, 10, 10], false, 0, true, [], [], 0, false⟩, #[], ⟨0, 0, 0, 0⟩, 352, os⟩
theorem ak1 (w : World) : ∀ os : OsState, HP.Piece PySem.Challenge.pw_givenback_k24_lasts_failures_and_ends (w.withFollow "special-get-raises" false) n0 xR env0 q0 c0 nW 11 1 298 (S2 (w.withFollow "special-get-raises" false) os) (S3 (w.withFollow "special-get-raises" false) os) ⟨23, 0, 23, 8⟩ ⟨24, 0, 24, 5⟩ := by
  intro os
  unfold HP.Piece
  kernel_rfl
theorem ak2 (w : World) : ∀ os : OsState, HP.Piece PySem.Challenge.pw_givenback_k24_lasts_failures_and_ends (w.withFollow "special-get-raises" true) n0 xR env0 q0 c0 nW 11 1 298 (S2 (w.withFollow "special-get-raises" true) os) (S3 (w.withFollow "special-get-raises" true) os) ⟨23, 0, 23, 8⟩ ⟨24, 0, 24, 5⟩ := by
  intro os
  unfold HP.Piece
  kernel_rfl
theorem p3 (w : World) : ∀ os : OsState, HP.Piece PySem.Challenge.pw_givenback_k24_lasts_failures_and_ends w n0 xR env0 q0 c0 nW 11 1 298 (S2 w os) (S3 w os) ⟨23, 0, 23, 8⟩ ⟨24, 0, 24, 5⟩ := byRow2 "special-get-raises" (P := fun w => ∀ os : OsState, HP.Piece PySem.Challenge.pw_givenback_k24_lasts_failures_and_ends w n0 xR env0 q0 c0 nW 11 1 298 (S2 w os) (S3 w os) ⟨23, 0, 23, 8⟩ ⟨24, 0, 24, 5⟩) ak1 ak2 w
def ak3 (P : Params) : Obj := ⟨(.type "dict"), none, (.dict [E P "__name__" 165 (.str (S "givenback.watch") 395), E P "__doc__" 166 .none, E P "__package__" 167 .none, E P "__loader__" 168 (.builtin "__main__.__loader__#opaque"), E P "__spec__" 169 .none, E P "__annotations__" 170 (.ref 6), E P "__builtins__" 171 (.ref 4), E P "__file__" 173 (.str (S "/claim/cut.py") 172), E P "__cached__" 174 .none, E P "WorkError" 216 (.ref 32), E P "BadRun" 232 (.ref 45), E P "Broken" 258 (.ref 64), E P "LETTERS" 262 (.str (S "abcdefghijklmnopqrstuvwxyz") 261), E P "LONGEST" 264 (.int (8) 263), E P "is_name" 270 (.ref 71), E P "is_whole" 279 (.ref 78), E P "is_number" 286 (.ref 85), E P "FORMS" 351 (.ref 86), E P "is_outcome" 358 (.ref 109), E P "is_count" 365 (.ref 116), E P "is_part" 373 (.ref 123), E P "is_log_row" 379 (.ref 128), E P "doer_of" 386 (.ref 135), E P "check_told" 394 (.ref 140), E P "ON" 398 (.ref 141), E P "KILLED" 400 (.ref 142), E P "MOST_TASKS" 402 (.int (12) 401), E P "PLAIN_SIZE" 404 (.int (1) 403), E P "Seen" 441 (.ref 159), E P "first_so" 450 (.ref 170), E P "ask_doing" 459 (.ref 177), E P "ask_begun" 470 (.ref 184), E P "ask_kill" 483 (.ref 191), E P "ask_late" 493 (.ref 198), E P "ask_nobody" 502 (.ref 205), E P "ask_got" 512 (.ref 212), E P "ask_given" 521 (.ref 219), E P "ask_landed" 530 (.ref 226), E P "ask_masked" 539 (.ref 233), E P "ask_opened" 548 (.ref 240), E P "ask_last" 557 (.ref 247), E P "ask_lasted" 566 (.ref 254), E P "ask_rescued" 575 (.ref 261), E P "ask_ended" 581 (.ref 266)].toArray 44), [].toArray⟩
def ajx (P : Params) : Obj := ⟨.none, none, (.fields [(.int (2) 0), (.int (0) 0), (.ref 20), (.int (7) 0), (.int (0) 0), (.ref 41), (.int (9) 0), (.int (0) 0), (.ref 53), (.int (17) 0), (.int (0) 0), (.ref 70), (.int (19) 0), (.int (0) 0), (.ref 77), (.int (21) 0), (.int (0) 0), (.ref 84), (.int (25) 0), (.int (0) 0), (.ref 108), (.int (29) 0), (.int (0) 0), (.ref 115), (.int (31) 0), (.int (0) 0), (.ref 122), (.int (41) 0), (.int (0) 0), (.ref 127), (.int (48) 0), (.int (0) 0), (.ref 134), (.int (53) 0), (.int (0) 0), (.ref 139), (.int (63) 0), (.int (0) 0), (.ref 148), (.int (73) 0), (.int (0) 0), (.ref 169), (.int (78) 0), (.int (0) 0), (.ref 176), (.int (80) 0), (.int (0) 0), (.ref 183), (.int (84) 0), (.int (0) 0), (.ref 190), (.int (92) 0), (.int (0) 0), (.ref 197), (.int (97) 0), (.int (0) 0), (.ref 204), (.int (99) 0), (.int (0) 0), (.ref 211), (.int (102) 0), (.int (0) 0), (.ref 218), (.int (106) 0), (.int (0) 0), (.ref 225), (.int (108) 0), (.int (0) 0), (.ref 232), (.int (110) 0), (.int (0) 0), (.ref 239), (.int (112) 0), (.int (0) 0), (.ref 246), (.int (114) 0), (.int (0) 0), (.ref 253), (.int (116) 0), (.int (0) 0), (.ref 260), (.int (118) 0), (.int (0) 0), (.ref 265)].toArray), [].toArray⟩
def Jp (P : Params) : Obj := ⟨(.type "tuple"), none, (.seq [].toArray 0), [].toArray⟩
def Jq (P : Params) : Obj := ⟨.none, none, (.fields [].toArray), [].toArray⟩
def Jr (P : Params) : Obj := ⟨(.type "tuple"), none, (.seq [(.str (S "thing") 355)].toArray 0), [].toArray⟩
def Jt (P : Params) : Obj := ⟨(.type "tuple"), none, (.seq [].toArray 0), [].toArray⟩
def Ju (P : Params) : Obj := ⟨.none, none, (.func ⟨(S "is_outcome"), (S "is_outcome"), L2.defArgs (top 12), .stmts (L2.defBody (top 12)), L2.defScope (top 12), 0, [], .none, .none, .none, .none, none, .none, .none, 0⟩), [].toArray⟩
def Jv (P : Params) : Obj := ⟨(.type "code"), none, (.fields [(.str (S "is_outcome") 352), (.str (S "is_outcome") 353), (.str (S "/claim/cut.py") 354), (.int (25) 0), (.int (1) 0), (.int (0) 0), (.int (0) 0), (.int (3) 0), (.ref 103), (.bool true), (.int (181) 0), (.ref 104), .none, (.ref 105), (.ref 106), (.ref 107), (.int (356) 0), (.int (25) 0), (.str (S "/claim/cut.py") 357)].toArray), [].toArray⟩
def Jw (P : Params) : Obj := ⟨(.type "function"), none, (.func ⟨(S "is_outcome"), (S "is_outcome"), L2.defArgs (top 12), .stmts (L2.defBody (top 12)), L2.defScope (top 12), 3, [], .none, .none, .none, (.str (S "givenback.rowforms") 287), none, (.ref 108), .none, 0⟩), [].toArray⟩
def Jx (P : Params) : Obj := ⟨(.type "tuple"), none, (.seq [].toArray 0), [].toArray⟩
def Jy (P : Params) : Obj := ⟨.none, none, (.fields [].toArray), [].toArray⟩
def Jz (P : Params) : Obj := ⟨(.type "tuple"), none, (.seq [(.str (S "thing") 362)].toArray 0), [].toArray⟩
def JB (P : Params) : Obj := ⟨(.type "tuple"), none, (.seq [].toArray 0), [].toArray⟩
def JC (P : Params) : Obj := ⟨.none, none, (.func ⟨(S "is_count"), (S "is_count"), L2.defArgs (top 13), .stmts (L2.defBody (top 13)), L2.defScope (top 13), 0, [], .none, .none, .none, .none, none, .none, .none, 0⟩), [].toArray⟩
def JD (P : Params) : Obj := ⟨(.type "code"), none, (.fields [(.str (S "is_count") 359), (.str (S "is_count") 360), (.str (S "/claim/cut.py") 361), (.int (29) 0), (.int (1) 0), (.int (0) 0), (.int (0) 0), (.int (3) 0), (.ref 110), (.bool true), (.int (181) 0), (.ref 111), .none, (.ref 112), (.ref 113), (.ref 114), (.int (363) 0), (.int (29) 0), (.str (S "/claim/cut.py") 364)].toArray), [].toArray⟩
def JF (P : Params) : Obj := ⟨(.type "function"), none, (.func ⟨(S "is_count"), (S "is_count"), L2.defArgs (top 13), .stmts (L2.defBody (top 13)), L2.defScope (top 13), 3, [], .none, .none, .none, (.str (S "givenback.rowforms") 287), none, (.ref 115), .none, 0⟩), [].toArray⟩
def JG (P : Params) : Obj := ⟨(.type "tuple"), none, (.seq [].toArray 0), [].toArray⟩
def JH (P : Params) : Obj := ⟨.none, none, (.fields [].toArray), [].toArray⟩
def JK (P : Params) : Obj := ⟨(.type "tuple"), none, (.seq [(.str (S "kind") 369), (.str (S "thing") 370)].toArray 0), [].toArray⟩
def JL (P : Params) : Obj := ⟨(.type "tuple"), none, (.seq [].toArray 0), [].toArray⟩
def JM (P : Params) : Obj := ⟨.none, none, (.func ⟨(S "is_part"), (S "is_part"), L2.defArgs (top 14), .stmts (L2.defBody (top 14)), L2.defScope (top 14), 0, [], .none, .none, .none, .none, none, .none, .none, 0⟩), [].toArray⟩
def JN (P : Params) : Obj := ⟨(.type "code"), none, (.fields [(.str (S "is_part") 366), (.str (S "is_part") 367), (.str (S "/claim/cut.py") 368), (.int (31) 0), (.int (2) 0), (.int (0) 0), (.int (0) 0), (.int (3) 0), (.ref 117), (.bool true), (.int (181) 0), (.ref 118), .none, (.ref 119), (.ref 120), (.ref 121), (.int (371) 0), (.int (31) 0), (.str (S "/claim/cut.py") 372)].toArray), [].toArray⟩
def JQ (P : Params) : Obj := ⟨(.type "function"), none, (.func ⟨(S "is_part"), (S "is_part"), L2.defArgs (top 14), .stmts (L2.defBody (top 14)), L2.defScope (top 14), 3, [], .none, .none, .none, (.str (S "givenback.rowforms") 287), none, (.ref 122), .none, 0⟩), [].toArray⟩
def JR (P : Params) : Obj := ⟨(.type "tuple"), none, (.seq [].toArray 0), [].toArray⟩
def JT (P : Params) : Obj := ⟨.none, none, (.fields [].toArray), [].toArray⟩
def JV (P : Params) : Obj := ⟨.none, none, (.func ⟨(S "is_log_row"), (S "is_log_row"), L2.defArgs (top 15), .stmts (L2.defBody (top 15)), L2.defScope (top 15), 0, [], .none, .none, .none, .none, none, .none, .none, 0⟩), [].toArray⟩
def JW (P : Params) : Obj := ⟨(.type "code"), none, (.fields [(.str (S "is_log_row") 374), (.str (S "is_log_row") 375), (.str (S "/claim/cut.py") 376), (.int (41) 0), (.int (1) 0), (.int (0) 0), (.int (0) 0), (.int (3) 0), (.ref 124), (.bool true), (.int (181) 0), (.ref 125), .none, .none, .none, (.ref 126), (.int (377) 0), (.int (41) 0), (.str (S "/claim/cut.py") 378)].toArray), [].toArray⟩
def JX (P : Params) : Obj := ⟨(.type "function"), none, (.func ⟨(S "is_log_row"), (S "is_log_row"), L2.defArgs (top 15), .stmts (L2.defBody (top 15)), L2.defScope (top 15), 3, [], .none, .none, .none, (.str (S "givenback.rowforms") 287), none, (.ref 127), .none, 0⟩), [].toArray⟩
def JZ (P : Params) : Obj := ⟨(.type "tuple"), none, (.seq [].toArray 0), [].toArray⟩
def J8 (P : Params) : Obj := ⟨.none, none, (.fields [].toArray), [].toArray⟩
def J9 (P : Params) : Obj := ⟨(.type "tuple"), none, (.seq [(.str (S "row") 383)].toArray 0), [].toArray⟩
def Ka (P : Params) : Obj := ⟨(.type "tuple"), none, (.seq [].toArray 0), [].toArray⟩
def Kc (P : Params) : Obj := ⟨.none, none, (.func ⟨(S "doer_of"), (S "doer_of"), L2.defArgs (top 16), .stmts (L2.defBody (top 16)), L2.defScope (top 16), 0, [], .none, .none, .none, .none, none, .none, .none, 0⟩), [].toArray⟩
def Kd (P : Params) : Obj := ⟨(.type "code"), none, (.fields [(.str (S "doer_of") 380), (.str (S "doer_of") 381), (.str (S "/claim/cut.py") 382), (.int (48) 0), (.int (1) 0), (.int (0) 0), (.int (0) 0), (.int (3) 0), (.ref 129), (.bool true), (.int (181) 0), (.ref 130), .none, (.ref 131), (.ref 132), (.ref 133), (.int (384) 0), (.int (48) 0), (.str (S "/claim/cut.py") 385)].toArray), [].toArray⟩
def Ke (P : Params) : Obj := ⟨(.type "function"), none, (.func ⟨(S "doer_of"), (S "doer_of"), L2.defArgs (top 16), .stmts (L2.defBody (top 16)), L2.defScope (top 16), 3, [], .none, .none, .none, (.str (S "givenback.rowforms") 287), none, (.ref 134), .none, 0⟩), [].toArray⟩
def Kf (P : Params) : Obj := ⟨(.type "tuple"), none, (.seq [].toArray 0), [].toArray⟩
def Kg (P : Params) : Obj := ⟨.none, none, (.fields [].toArray), [].toArray⟩
def Kh (P : Params) : Obj := ⟨.none, none, (.func ⟨(S "check_told"), (S "check_told"), L2.defArgs (top 18), .stmts (L2.defBody (top 18)), L2.defScope (top 18), 0, [], .none, .none, .none, .none, none, .none, .none, 0⟩), [].toArray⟩
def BW (P : Params) : Obj := ⟨(.type "code"), none, (.fields [(.str (S "check_told") 389), (.str (S "check_told") 390), (.str (S "/claim/cut.py") 391), (.int (53) 0), (.int (2) 0), (.int (0) 0), (.int (0) 0), (.int (3) 0), (.ref 136), (.bool true), (.int (181) 0), (.ref 137), .none, .none, .none, (.ref 138), (.int (392) 0), (.int (53) 0), (.str (S "/claim/cut.py") 393)].toArray), [].toArray⟩
def Km (P : Params) : Obj := ⟨(.type "function"), none, (.func ⟨(S "check_told"), (S "check_told"), L2.defArgs (top 18), .stmts (L2.defBody (top 18)), L2.defScope (top 18), 3, [], .none, .none, .none, (.str (S "givenback.run") 387), none, (.ref 139), .none, 0⟩), [].toArray⟩
def Ko (P : Params) : Obj := ⟨(.type "tuple"), none, (.seq [(.str (S "on") 397)].toArray 0), [].toArray⟩
def Kr (P : Params) : Obj := ⟨(.type "tuple"), none, (.seq [(.str (S "killed") 399)].toArray 0), [].toArray⟩
def VN (P : Params) : Obj := ⟨(.type "tuple"), none, (.seq [].toArray 0), [].toArray⟩
def VP (P : Params) : Obj := ⟨(.type "builtin_function_or_method"), none, (.fields [(.builtin "type.__prepare__"), (.type "type")].toArray), [].toArray⟩
def VR (P : Params) : Obj := ⟨(.type "dict"), none, (.dict [E P "__module__" 412 (.str (S "givenback.watch") 395), E P "__qualname__" 414 (.str (S "Seen") 413), E P "__firstlineno__" 416 (.int (63) 415), E P "__init__" 425 (.ref 156), E P "__static_attributes__" 434 (.ref 157)].toArray 5), [].toArray⟩
def V1 (P : Params) : Obj := ⟨(.type "tuple"), none, (.seq [].toArray 0), [].toArray⟩
def V2 (P : Params) : Obj := ⟨.none, none, (.fields [(.int (65) 0), (.int (4) 0), (.ref 155)].toArray), [].toArray⟩
def V3 (P : Params) : Obj := ⟨(.type "code"), none, (.fields [(.str (S "Seen") 407), (.str (S "Seen") 408), (.str (S "/claim/cut.py") 409), (.int (63) 0), (.int (0) 0), (.int (0) 0), (.int (0) 0), (.int (0) 0), (.ref 146), (.bool false), (.int (181) 0), (.ref 147), .none, .none, .none, .none, (.int (410) 0), (.int (63) 0), (.str (S "/claim/cut.py") 411)].toArray), [].toArray⟩
def V4 (P : Params) : Obj := ⟨(.type "frame"), none, .plain, [(some (.ref 148)), (some (.ref 3)), (some (.ref 145)), none, (some (.str (S "givenback.watch") 395)), none, (some (.ref 0))].toArray⟩
def Ks (P : Params) : Obj := ⟨(.type "tuple"), none, (.seq [].toArray 0), [].toArray⟩
def Ku (P : Params) : Obj := ⟨.none, none, (.fields [].toArray), [].toArray⟩
def Kv (P : Params) : Obj := ⟨(.type "tuple"), none, (.seq [(.str (S "self") 420), (.str (S "beginner") 421), (.str (S "called") 422)].toArray 0), [].toArray⟩
def Kw (P : Params) : Obj := ⟨(.type "tuple"), none, (.seq [].toArray 0), [].toArray⟩
def Ky (P : Params) : Obj := ⟨.none, none, (.func ⟨(S "__init__"), (S "Seen.__init__"), L2.defArgs (L2.inClass (top 24) 0), .stmts (L2.defBody (L2.inClass (top 24) 0)), L2.defScope (L2.inClass (top 24) 0), 0, [], .none, .none, .none, .none, none, .none, .none, 0⟩), [].toArray⟩
def Kz (P : Params) : Obj := ⟨(.type "code"), none, (.fields [(.str (S "__init__") 417), (.str (S "Seen.__init__") 418), (.str (S "/claim/cut.py") 419), (.int (65) 0), (.int (3) 0), (.int (0) 0), (.int (0) 0), (.int (3) 0), (.ref 150), (.bool true), (.int (181) 0), (.ref 151), .none, (.ref 152), (.ref 153), (.ref 154), (.int (423) 0), (.int (65) 0), (.str (S "/claim/cut.py") 424)].toArray), [].toArray⟩
def KC (P : Params) : Obj := ⟨(.type "function"), none, (.func ⟨(S "__init__"), (S "Seen.__init__"), L2.defArgs (L2.inClass (top 24) 0), .stmts (L2.defBody (L2.inClass (top 24) 0)), L2.defScope (L2.inClass (top 24) 0), 3, [], .none, .none, .none, (.str (S "givenback.watch") 395), none, (.ref 155), .none, 0⟩), [].toArray⟩
def KD (P : Params) : Obj := ⟨(.type "tuple"), none, (.seq [(.str (S "beginner") 426), (.str (S "called") 427), (.str (S "ending") 428), (.str (S "had") 429), (.str (S "lasts") 430), (.str (S "owed") 431), (.str (S "shut") 432), (.str (S "state") 433)].toArray 0), [].toArray⟩
def KH (P : Params) : Obj := ⟨(.type "dict"), none, (.dict [E P "__module__" 412 (.str (S "givenback.watch") 395), E P "__firstlineno__" 416 (.int (63) 415), E P "__init__" 425 (.ref 156), E P "__static_attributes__" 434 (.ref 157), E P "__dict__" 436 (.ref 160), E P "__weakref__" 438 (.ref 161), E P "__doc__" 439 .none].toArray 4), [].toArray⟩
def KJ (P : Params) : Obj := ⟨(.type "type"), none, (.cls ⟨(S "Seen"), [(.type "object")], [(.ref 159), (.type "object")], 158, (S "Seen"), true, [], [], false, none, false⟩), [none, none, (some (.str (S "Seen") 405)), (some (.str (S "Seen") 413)), (some (.builtin "object.__new__")), (some (.bool true))].toArray⟩
def KN (P : Params) : Obj := ⟨(.type "getset_descriptor"), none, (.fields [(.str (S "__dict__") 435), (.ref 159), (.builtin "function.__dict__"), (.builtin "function.__dict__#set")].toArray), [].toArray⟩
def KQ (P : Params) : Obj := ⟨(.type "getset_descriptor"), none, (.fields [(.str (S "__weakref__") 437), (.ref 159), (.builtin "ExceptionGroup.__weakref__"), .none].toArray), [].toArray⟩
def V5 (P : Params) : Obj := ⟨(.type "super"), none, (.fields [(.ref 159), (.ref 159), (.ref 159)].toArray), [].toArray⟩
def V6 (P : Params) : Obj := ⟨(.type "builtin_function_or_method"), none, (.fields [(.builtin "object.__init_subclass__"), (.ref 159)].toArray), [].toArray⟩
def KY (P : Params) : Obj := ⟨(.type "tuple"), none, (.seq [].toArray 0), [].toArray⟩
def KZ (P : Params) : Obj := ⟨.none, none, (.fields [].toArray), [].toArray⟩
def K6 (P : Params) : Obj := ⟨(.type "tuple"), none, (.seq [(.str (S "rows") 445), (.str (S "word") 446), (.str (S "is_so") 447)].toArray 0), [].toArray⟩
def K7 (P : Params) : Obj := ⟨(.type "tuple"), none, (.seq [].toArray 0), [].toArray⟩
def K8 (P : Params) : Obj := ⟨.none, none, (.func ⟨(S "first_so"), (S "first_so"), L2.defArgs (top 25), .stmts (L2.defBody (top 25)), L2.defScope (top 25), 0, [], .none, .none, .none, .none, none, .none, .none, 0⟩), [].toArray⟩
def K9 (P : Params) : Obj := ⟨(.type "code"), none, (.fields [(.str (S "first_so") 442), (.str (S "first_so") 443), (.str (S "/claim/cut.py") 444), (.int (73) 0), (.int (1) 0), (.int (0) 0), (.int (0) 0), (.int (3) 0), (.ref 164), (.bool true), (.int (181) 0), (.ref 165), .none, (.ref 166), (.ref 167), (.ref 168), (.int (448) 0), (.int (73) 0), (.str (S "/claim/cut.py") 449)].toArray), [].toArray⟩
def La (P : Params) : Obj := ⟨(.type "function"), none, (.func ⟨(S "first_so"), (S "first_so"), L2.defArgs (top 25), .stmts (L2.defBody (top 25)), L2.defScope (top 25), 3, [], .none, .none, .none, (.str (S "givenback.watch") 395), none, (.ref 169), .none, 0⟩), [].toArray⟩
def Ld (P : Params) : Obj := ⟨(.type "tuple"), none, (.seq [].toArray 0), [].toArray⟩
def Lf (P : Params) : Obj := ⟨.none, none, (.fields [].toArray), [].toArray⟩
def Lg (P : Params) : Obj := ⟨(.type "tuple"), none, (.seq [(.str (S "watch") 454), (.str (S "task") 455), (.str (S "row") 456)].toArray 0), [].toArray⟩
def Lh (P : Params) : Obj := ⟨(.type "tuple"), none, (.seq [].toArray 0), [].toArray⟩
def Lj (P : Params) : Obj := ⟨.none, none, (.func ⟨(S "ask_doing"), (S "ask_doing"), L2.defArgs (top 26), .stmts (L2.defBody (top 26)), L2.defScope (top 26), 0, [], .none, .none, .none, .none, none, .none, .none, 0⟩), [].toArray⟩
def Lk (P : Params) : Obj := ⟨(.type "code"), none, (.fields [(.str (S "ask_doing") 451), (.str (S "ask_doing") 452), (.str (S "/claim/cut.py") 453), (.int (78) 0), (.int (3) 0), (.int (0) 0), (.int (0) 0), (.int (3) 0), (.ref 171), (.bool true), (.int (181) 0), (.ref 172), .none, (.ref 173), (.ref 174), (.ref 175), (.int (457) 0), (.int (78) 0), (.str (S "/claim/cut.py") 458)].toArray), [].toArray⟩
def Ln (P : Params) : Obj := ⟨(.type "function"), none, (.func ⟨(S "ask_doing"), (S "ask_doing"), L2.defArgs (top 26), .stmts (L2.defBody (top 26)), L2.defScope (top 26), 3, [], .none, .none, .none, (.str (S "givenback.watch") 395), none, (.ref 176), .none, 0⟩), [].toArray⟩
def Lp (P : Params) : Obj := ⟨(.type "tuple"), none, (.seq [].toArray 0), [].toArray⟩
def Lq (P : Params) : Obj := ⟨.none, none, (.fields [].toArray), [].toArray⟩
def Lr (P : Params) : Obj := ⟨(.type "tuple"), none, (.seq [(.str (S "watch") 463), (.str (S "task") 464), (.str (S "row") 465), (.str (S "wrong") 466), (.str (S "home") 467)].toArray 0), [].toArray⟩
def Ly (P : Params) : Obj := ⟨(.type "tuple"), none, (.seq [].toArray 0), [].toArray⟩
def Lz (P : Params) : Obj := ⟨.none, none, (.func ⟨(S "ask_begun"), (S "ask_begun"), L2.defArgs (top 27), .stmts (L2.defBody (top 27)), L2.defScope (top 27), 0, [], .none, .none, .none, .none, none, .none, .none, 0⟩), [].toArray⟩
def LC (P : Params) : Obj := ⟨(.type "code"), none, (.fields [(.str (S "ask_begun") 460), (.str (S "ask_begun") 461), (.str (S "/claim/cut.py") 462), (.int (80) 0), (.int (3) 0), (.int (0) 0), (.int (0) 0), (.int (3) 0), (.ref 178), (.bool true), (.int (181) 0), (.ref 179), .none, (.ref 180), (.ref 181), (.ref 182), (.int (468) 0), (.int (80) 0), (.str (S "/claim/cut.py") 469)].toArray), [].toArray⟩
def LK (P : Params) : Obj := ⟨(.type "function"), none, (.func ⟨(S "ask_begun"), (S "ask_begun"), L2.defArgs (top 27), .stmts (L2.defBody (top 27)), L2.defScope (top 27), 3, [], .none, .none, .none, (.str (S "givenback.watch") 395), none, (.ref 183), .none, 0⟩), [].toArray⟩
def LQ (P : Params) : Obj := ⟨(.type "tuple"), none, (.seq [].toArray 0), [].toArray⟩
def LR (P : Params) : Obj := ⟨.none, none, (.fields [].toArray), [].toArray⟩
def Ma (P : Params) : Obj := ⟨(.type "tuple"), none, (.seq [(.str (S "watch") 474), (.str (S "task") 475), (.str (S "row") 476), (.str (S "other") 477), (.str (S "over") 478), (.str (S "own") 479), (.str (S "unwinds") 480)].toArray 0), [].toArray⟩
def Mf (P : Params) : Obj := ⟨(.type "tuple"), none, (.seq [].toArray 0), [].toArray⟩
def Mg (P : Params) : Obj := ⟨.none, none, (.func ⟨(S "ask_kill"), (S "ask_kill"), L2.defArgs (top 28), .stmts (L2.defBody (top 28)), L2.defScope (top 28), 0, [], .none, .none, .none, .none, none, .none, .none, 0⟩), [].toArray⟩
def Mh (P : Params) : Obj := ⟨(.type "code"), none, (.fields [(.str (S "ask_kill") 471), (.str (S "ask_kill") 472), (.str (S "/claim/cut.py") 473), (.int (84) 0), (.int (3) 0), (.int (0) 0), (.int (0) 0), (.int (3) 0), (.ref 185), (.bool true), (.int (181) 0), (.ref 186), .none, (.ref 187), (.ref 188), (.ref 189), (.int (481) 0), (.int (84) 0), (.str (S "/claim/cut.py") 482)].toArray), [].toArray⟩
def Mi (P : Params) : Obj := ⟨(.type "function"), none, (.func ⟨(S "ask_kill"), (S "ask_kill"), L2.defArgs (top 28), .stmts (L2.defBody (top 28)), L2.defScope (top 28), 3, [], .none, .none, .none, (.str (S "givenback.watch") 395), none, (.ref 190), .none, 0⟩), [].toArray⟩
def Mj (P : Params) : Obj := ⟨(.type "tuple"), none, (.seq [].toArray 0), [].toArray⟩
def Ml (P : Params) : Obj := ⟨.none, none, (.fields [].toArray), [].toArray⟩
def Mp (P : Params) : Obj := ⟨(.type "tuple"), none, (.seq [(.str (S "watch") 487), (.str (S "task") 488), (.str (S "row") 489), (.str (S "lives") 490)].toArray 0), [].toArray⟩
def Mq (P : Params) : Obj := ⟨(.type "tuple"), none, (.seq [].toArray 0), [].toArray⟩
def Mr (P : Params) : Obj := ⟨.none, none, (.func ⟨(S "ask_late"), (S "ask_late"), L2.defArgs (top 29), .stmts (L2.defBody (top 29)), L2.defScope (top 29), 0, [], .none, .none, .none, .none, none, .none, .none, 0⟩), [].toArray⟩
def Ms (P : Params) : Obj := ⟨(.type "code"), none, (.fields [(.str (S "ask_late") 484), (.str (S "ask_late") 485), (.str (S "/claim/cut.py") 486), (.int (92) 0), (.int (3) 0), (.int (0) 0), (.int (0) 0), (.int (3) 0), (.ref 192), (.bool true), (.int (181) 0), (.ref 193), .none, (.ref 194), (.ref 195), (.ref 196), (.int (491) 0), (.int (92) 0), (.str (S "/claim/cut.py") 492)].toArray), [].toArray⟩
def Mu (P : Params) : Obj := ⟨(.type "function"), none, (.func ⟨(S "ask_late"), (S "ask_late"), L2.defArgs (top 29), .stmts (L2.defBody (top 29)), L2.defScope (top 29), 3, [], .none, .none, .none, (.str (S "givenback.watch") 395), none, (.ref 197), .none, 0⟩), [].toArray⟩
def Mv (P : Params) : Obj := ⟨(.type "tuple"), none, (.seq [].toArray 0), [].toArray⟩
def Mw (P : Params) : Obj := ⟨.none, none, (.fields [].toArray), [].toArray⟩
def Mx (P : Params) : Obj := ⟨(.type "tuple"), none, (.seq [(.str (S "watch") 497), (.str (S "task") 498), (.str (S "row") 499)].toArray 0), [].toArray⟩
def Mz (P : Params) : Obj := ⟨(.type "tuple"), none, (.seq [].toArray 0), [].toArray⟩
def BX (P : Params) : Obj := ⟨.none, none, (.func ⟨(S "ask_nobody"), (S "ask_nobody"), L2.defArgs (top 30), .stmts (L2.defBody (top 30)), L2.defScope (top 30), 0, [], .none, .none, .none, .none, none, .none, .none, 0⟩), [].toArray⟩
def MF (P : Params) : Obj := ⟨(.type "code"), none, (.fields [(.str (S "ask_nobody") 494), (.str (S "ask_nobody") 495), (.str (S "/claim/cut.py") 496), (.int (97) 0), (.int (3) 0), (.int (0) 0), (.int (0) 0), (.int (3) 0), (.ref 199), (.bool true), (.int (181) 0), (.ref 200), .none, (.ref 201), (.ref 202), (.ref 203), (.int (500) 0), (.int (97) 0), (.str (S "/claim/cut.py") 501)].toArray), [].toArray⟩
def MJ (P : Params) : Obj := ⟨(.type "function"), none, (.func ⟨(S "ask_nobody"), (S "ask_nobody"), L2.defArgs (top 30), .stmts (L2.defBody (top 30)), L2.defScope (top 30), 3, [], .none, .none, .none, (.str (S "givenback.watch") 395), none, (.ref 204), .none, 0⟩), [].toArray⟩
def MK (P : Params) : Obj := ⟨(.type "tuple"), none, (.seq [].toArray 0), [].toArray⟩
def MN (P : Params) : Obj := ⟨.none, none, (.fields [].toArray), [].toArray⟩
def MP (P : Params) : Obj := ⟨(.type "tuple"), none, (.seq [(.str (S "watch") 506), (.str (S "task") 507), (.str (S "row") 508), (.str (S "held") 509)].toArray 0), [].toArray⟩
def M4 (P : Params) : Obj := ⟨(.type "tuple"), none, (.seq [].toArray 0), [].toArray⟩
def M5 (P : Params) : Obj := ⟨.none, none, (.func ⟨(S "ask_got"), (S "ask_got"), L2.defArgs (top 31), .stmts (L2.defBody (top 31)), L2.defScope (top 31), 0, [], .none, .none, .none, .none, none, .none, .none, 0⟩), [].toArray⟩
def M6 (P : Params) : Obj := ⟨(.type "code"), none, (.fields [(.str (S "ask_got") 503), (.str (S "ask_got") 504), (.str (S "/claim/cut.py") 505), (.int (99) 0), (.int (3) 0), (.int (0) 0), (.int (0) 0), (.int (3) 0), (.ref 206), (.bool true), (.int (181) 0), (.ref 207), .none, (.ref 208), (.ref 209), (.ref 210), (.int (510) 0), (.int (99) 0), (.str (S "/claim/cut.py") 511)].toArray), [].toArray⟩
def M7 (P : Params) : Obj := ⟨(.type "function"), none, (.func ⟨(S "ask_got"), (S "ask_got"), L2.defArgs (top 31), .stmts (L2.defBody (top 31)), L2.defScope (top 31), 3, [], .none, .none, .none, (.str (S "givenback.watch") 395), none, (.ref 211), .none, 0⟩), [].toArray⟩
def M8 (P : Params) : Obj := ⟨(.type "tuple"), none, (.seq [].toArray 0), [].toArray⟩
def M9 (P : Params) : Obj := ⟨.none, none, (.fields [].toArray), [].toArray⟩
def Nb (P : Params) : Obj := ⟨(.type "tuple"), none, (.seq [(.str (S "watch") 516), (.str (S "task") 517), (.str (S "row") 518)].toArray 0), [].toArray⟩
def Nf (P : Params) : Obj := ⟨(.type "tuple"), none, (.seq [].toArray 0), [].toArray⟩
def Nh (P : Params) : Obj := ⟨.none, none, (.func ⟨(S "ask_given"), (S "ask_given"), L2.defArgs (top 32), .stmts (L2.defBody (top 32)), L2.defScope (top 32), 0, [], .none, .none, .none, .none, none, .none, .none, 0⟩), [].toArray⟩
def Nk (P : Params) : Obj := ⟨(.type "code"), none, (.fields [(.str (S "ask_given") 513), (.str (S "ask_given") 514), (.str (S "/claim/cut.py") 515), (.int (102) 0), (.int (3) 0), (.int (0) 0), (.int (0) 0), (.int (3) 0), (.ref 213), (.bool true), (.int (181) 0), (.ref 214), .none, (.ref 215), (.ref 216), (.ref 217), (.int (519) 0), (.int (102) 0), (.str (S "/claim/cut.py") 520)].toArray), [].toArray⟩
def Np (P : Params) : Obj := ⟨(.type "function"), none, (.func ⟨(S "ask_given"), (S "ask_given"), L2.defArgs (top 32), .stmts (L2.defBody (top 32)), L2.defScope (top 32), 3, [], .none, .none, .none, (.str (S "givenback.watch") 395), none, (.ref 218), .none, 0⟩), [].toArray⟩
def Nq (P : Params) : Obj := ⟨(.type "tuple"), none, (.seq [].toArray 0), [].toArray⟩
def Nr (P : Params) : Obj := ⟨.none, none, (.fields [].toArray), [].toArray⟩
def Nt (P : Params) : Obj := ⟨(.type "tuple"), none, (.seq [(.str (S "watch") 525), (.str (S "task") 526), (.str (S "row") 527)].toArray 0), [].toArray⟩
def Nu (P : Params) : Obj := ⟨(.type "tuple"), none, (.seq [].toArray 0), [].toArray⟩
def Nv (P : Params) : Obj := ⟨.none, none, (.func ⟨(S "ask_landed"), (S "ask_landed"), L2.defArgs (top 33), .stmts (L2.defBody (top 33)), L2.defScope (top 33), 0, [], .none, .none, .none, .none, none, .none, .none, 0⟩), [].toArray⟩
def Ny (P : Params) : Obj := ⟨(.type "code"), none, (.fields [(.str (S "ask_landed") 522), (.str (S "ask_landed") 523), (.str (S "/claim/cut.py") 524), (.int (106) 0), (.int (3) 0), (.int (0) 0), (.int (0) 0), (.int (3) 0), (.ref 220), (.bool true), (.int (181) 0), (.ref 221), .none, (.ref 222), (.ref 223), (.ref 224), (.int (528) 0), (.int (106) 0), (.str (S "/claim/cut.py") 529)].toArray), [].toArray⟩
def Nz (P : Params) : Obj := ⟨(.type "function"), none, (.func ⟨(S "ask_landed"), (S "ask_landed"), L2.defArgs (top 33), .stmts (L2.defBody (top 33)), L2.defScope (top 33), 3, [], .none, .none, .none, (.str (S "givenback.watch") 395), none, (.ref 225), .none, 0⟩), [].toArray⟩
def NK (P : Params) : Obj := ⟨(.type "tuple"), none, (.seq [].toArray 0), [].toArray⟩
def NP (P : Params) : Obj := ⟨.none, none, (.fields [].toArray), [].toArray⟩
def NQ (P : Params) : Obj := ⟨(.type "tuple"), none, (.seq [(.str (S "watch") 534), (.str (S "task") 535), (.str (S "row") 536)].toArray 0), [].toArray⟩
def NT (P : Params) : Obj := ⟨(.type "tuple"), none, (.seq [].toArray 0), [].toArray⟩
def NZ (P : Params) : Obj := ⟨.none, none, (.func ⟨(S "ask_masked"), (S "ask_masked"), L2.defArgs (top 34), .stmts (L2.defBody (top 34)), L2.defScope (top 34), 0, [], .none, .none, .none, .none, none, .none, .none, 0⟩), [].toArray⟩
def N5 (P : Params) : Obj := ⟨(.type "code"), none, (.fields [(.str (S "ask_masked") 531), (.str (S "ask_masked") 532), (.str (S "/claim/cut.py") 533), (.int (108) 0), (.int (3) 0), (.int (0) 0), (.int (0) 0), (.int (3) 0), (.ref 227), (.bool true), (.int (181) 0), (.ref 228), .none, (.ref 229), (.ref 230), (.ref 231), (.int (537) 0), (.int (108) 0), (.str (S "/claim/cut.py") 538)].toArray), [].toArray⟩
def N6 (P : Params) : Obj := ⟨(.type "function"), none, (.func ⟨(S "ask_masked"), (S "ask_masked"), L2.defArgs (top 34), .stmts (L2.defBody (top 34)), L2.defScope (top 34), 3, [], .none, .none, .none, (.str (S "givenback.watch") 395), none, (.ref 232), .none, 0⟩), [].toArray⟩
def N7 (P : Params) : Obj := ⟨(.type "tuple"), none, (.seq [].toArray 0), [].toArray⟩
def N8 (P : Params) : Obj := ⟨.none, none, (.fields [].toArray), [].toArray⟩
def Oa (P : Params) : Obj := ⟨(.type "tuple"), none, (.seq [(.str (S "watch") 543), (.str (S "task") 544), (.str (S "row") 545)].toArray 0), [].toArray⟩
def Oc (P : Params) : Obj := ⟨(.type "tuple"), none, (.seq [].toArray 0), [].toArray⟩
def Od (P : Params) : Obj := ⟨.none, none, (.func ⟨(S "ask_opened"), (S "ask_opened"), L2.defArgs (top 35), .stmts (L2.defBody (top 35)), L2.defScope (top 35), 0, [], .none, .none, .none, .none, none, .none, .none, 0⟩), [].toArray⟩
def Oe (P : Params) : Obj := ⟨(.type "code"), none, (.fields [(.str (S "ask_opened") 540), (.str (S "ask_opened") 541), (.str (S "/claim/cut.py") 542), (.int (110) 0), (.int (3) 0), (.int (0) 0), (.int (0) 0), (.int (3) 0), (.ref 234), (.bool true), (.int (181) 0), (.ref 235), .none, (.ref 236), (.ref 237), (.ref 238), (.int (546) 0), (.int (110) 0), (.str (S "/claim/cut.py") 547)].toArray), [].toArray⟩
def Og (P : Params) : Obj := ⟨(.type "function"), none, (.func ⟨(S "ask_opened"), (S "ask_opened"), L2.defArgs (top 35), .stmts (L2.defBody (top 35)), L2.defScope (top 35), 3, [], .none, .none, .none, (.str (S "givenback.watch") 395), none, (.ref 239), .none, 0⟩), [].toArray⟩
def Oh (P : Params) : Obj := ⟨(.type "tuple"), none, (.seq [].toArray 0), [].toArray⟩
def Oi (P : Params) : Obj := ⟨.none, none, (.fields [].toArray), [].toArray⟩
def Oj (P : Params) : Obj := ⟨(.type "tuple"), none, (.seq [(.str (S "watch") 552), (.str (S "task") 553), (.str (S "row") 554)].toArray 0), [].toArray⟩
def Ol (P : Params) : Obj := ⟨(.type "tuple"), none, (.seq [].toArray 0), [].toArray⟩
def Om (P : Params) : Obj := ⟨.none, none, (.func ⟨(S "ask_last"), (S "ask_last"), L2.defArgs (top 36), .stmts (L2.defBody (top 36)), L2.defScope (top 36), 0, [], .none, .none, .none, .none, none, .none, .none, 0⟩), [].toArray⟩
def Oo (P : Params) : Obj := ⟨(.type "code"), none, (.fields [(.str (S "ask_last") 549), (.str (S "ask_last") 550), (.str (S "/claim/cut.py") 551), (.int (112) 0), (.int (3) 0), (.int (0) 0), (.int (0) 0), (.int (3) 0), (.ref 241), (.bool true), (.int (181) 0), (.ref 242), .none, (.ref 243), (.ref 244), (.ref 245), (.int (555) 0), (.int (112) 0), (.str (S "/claim/cut.py") 556)].toArray), [].toArray⟩
def Oq (P : Params) : Obj := ⟨(.type "function"), none, (.func ⟨(S "ask_last"), (S "ask_last"), L2.defArgs (top 36), .stmts (L2.defBody (top 36)), L2.defScope (top 36), 3, [], .none, .none, .none, (.str (S "givenback.watch") 395), none, (.ref 246), .none, 0⟩), [].toArray⟩
def Ou (P : Params) : Obj := ⟨(.type "tuple"), none, (.seq [].toArray 0), [].toArray⟩
def Ov (P : Params) : Obj := ⟨.none, none, (.fields [].toArray), [].toArray⟩
def Ow (P : Params) : Obj := ⟨(.type "tuple"), none, (.seq [(.str (S "watch") 561), (.str (S "task") 562), (.str (S "row") 563)].toArray 0), [].toArray⟩
def Ox (P : Params) : Obj := ⟨(.type "tuple"), none, (.seq [].toArray 0), [].toArray⟩
def Oz (P : Params) : Obj := ⟨.none, none, (.func ⟨(S "ask_lasted"), (S "ask_lasted"), L2.defArgs (top 37), .stmts (L2.defBody (top 37)), L2.defScope (top 37), 0, [], .none, .none, .none, .none, none, .none, .none, 0⟩), [].toArray⟩
def OD (P : Params) : Obj := ⟨(.type "code"), none, (.fields [(.str (S "ask_lasted") 558), (.str (S "ask_lasted") 559), (.str (S "/claim/cut.py") 560), (.int (114) 0), (.int (3) 0), (.int (0) 0), (.int (0) 0), (.int (3) 0), (.ref 248), (.bool true), (.int (181) 0), (.ref 249), .none, (.ref 250), (.ref 251), (.ref 252), (.int (564) 0), (.int (114) 0), (.str (S "/claim/cut.py") 565)].toArray), [].toArray⟩
def OJ (P : Params) : Obj := ⟨(.type "function"), none, (.func ⟨(S "ask_lasted"), (S "ask_lasted"), L2.defArgs (top 37), .stmts (L2.defBody (top 37)), L2.defScope (top 37), 3, [], .none, .none, .none, (.str (S "givenback.watch") 395), none, (.ref 253), .none, 0⟩), [].toArray⟩
def O4 (P : Params) : Obj := ⟨(.type "tuple"), none, (.seq [].toArray 0), [].toArray⟩
def O5 (P : Params) : Obj := ⟨.none, none, (.fields [].toArray), [].toArray⟩
def O6 (P : Params) : Obj := ⟨(.type "tuple"), none, (.seq [(.str (S "watch") 570), (.str (S "task") 571), (.str (S "row") 572)].toArray 0), [].toArray⟩
def O7 (P : Params) : Obj := ⟨(.type "tuple"), none, (.seq [].toArray 0), [].toArray⟩
def O8 (P : Params) : Obj := ⟨.none, none, (.func ⟨(S "ask_rescued"), (S "ask_rescued"), L2.defArgs (top 38), .stmts (L2.defBody (top 38)), L2.defScope (top 38), 0, [], .none, .none, .none, .none, none, .none, .none, 0⟩), [].toArray⟩
def O9 (P : Params) : Obj := ⟨(.type "code"), none, (.fields [(.str (S "ask_rescued") 567), (.str (S "ask_rescued") 568), (.str (S "/claim/cut.py") 569), (.int (116) 0), (.int (3) 0), (.int (0) 0), (.int (0) 0), (.int (3) 0), (.ref 255), (.bool true), (.int (181) 0), (.ref 256), .none, (.ref 257), (.ref 258), (.ref 259), (.int (573) 0), (.int (116) 0), (.str (S "/claim/cut.py") 574)].toArray), [].toArray⟩
def Pa (P : Params) : Obj := ⟨(.type "function"), none, (.func ⟨(S "ask_rescued"), (S "ask_rescued"), L2.defArgs (top 38), .stmts (L2.defBody (top 38)), L2.defScope (top 38), 3, [], .none, .none, .none, (.str (S "givenback.watch") 395), none, (.ref 260), .none, 0⟩), [].toArray⟩
def Pb (P : Params) : Obj := ⟨(.type "tuple"), none, (.seq [].toArray 0), [].toArray⟩
def Pg (P : Params) : Obj := ⟨.none, none, (.fields [].toArray), [].toArray⟩
def Ph (P : Params) : Obj := ⟨.none, none, (.func ⟨(S "ask_ended"), (S "ask_ended"), L2.defArgs (top 39), .stmts (L2.defBody (top 39)), L2.defScope (top 39), 0, [], .none, .none, .none, .none, none, .none, .none, 0⟩), [].toArray⟩
def Pj (P : Params) : Obj := ⟨(.type "code"), none, (.fields [(.str (S "ask_ended") 576), (.str (S "ask_ended") 577), (.str (S "/claim/cut.py") 578), (.int (118) 0), (.int (3) 0), (.int (0) 0), (.int (0) 0), (.int (3) 0), (.ref 262), (.bool true), (.int (181) 0), (.ref 263), .none, .none, .none, (.ref 264), (.int (579) 0), (.int (118) 0), (.str (S "/claim/cut.py") 580)].toArray), [].toArray⟩
def Pk (P : Params) : Obj := ⟨(.type "function"), none, (.func ⟨(S "ask_ended"), (S "ask_ended"), L2.defArgs (top 39), .stmts (L2.defBody (top 39)), L2.defScope (top 39), 3, [], .none, .none, .none, (.str (S "givenback.watch") 395), none, (.ref 265), .none, 0⟩), [].toArray⟩
def b18 (P : Params) : BT := (.node (Gk P) (.node (Hq P) (.node (Dt P) (.node (Ea P) (.node (JW P) (au (O4 P)) .nil) (au (Mi P))) (.node (Jj P) (au (KJ P)) (au (Nu P)))) (.node (UG P) (.node (Ir P) (au (VN P)) (au (MN P))) (.node (Jy P) (au (Lj P)) (au (Oe P))))) (.node (Di P) (.node (Uv P) (.node (Ih P) (.node (Ke P) (au (Pg P)) .nil) (au (Mv P))) (.node (Jp P) (au (K7 P)) (au (NZ P)))) (.node (DG P) (.node (Jb P) (au (Ku P)) (au (Nb P))) (.node (JK P) (au (LC P)) (au (Oq P))))))
def b19 (P : Params) : BT := (.node (Hv P) (.node (HF P) (.node (Ec P) (.node (J9 P) (au (O8 P)) .nil) (au (Mq P))) (.node (Jo P) (au (V6 P)) (au (NK P)))) (.node (U0 P) (.node (IK P) (au (V2 P)) (au (M6 P))) (.node (JD P) (au (Lq P)) (au (Oj P)))))
def b20 (P : Params) : BT := (.node (Ju P) (au (Ld P)) (au (N8 P)))
def b21 (P : Params) : BT := (.node (DQ P) (.node (Jf P) (au (Kz P)) (au (Np P))) (.node (JQ P) (au (Ma P)) (au (Ox P))))
def b22 (P : Params) : BT := (.node (Gj P) (.node (Gn P) (.node (Ht P) (.node (Dy P) (.node (Ie P) (.node (JZ P) (au (O6 P)) .nil) (au (Ml P))) (.node (Jl P) (au (KQ P)) (au (Ny P)))) (.node (UL P) (.node (Iw P) (au (VR P)) (au (M4 P))) (.node (JB P) (au (Ln P)) (au (Oh P))))) (.node (Dk P) (.node (Ux P) (.node (Ij P) (.node (Kg P) (au (Pj P)) .nil) (au (Mx P))) (.node (Jr P) (au (K9 P)) (au (N6 P)))) (.node (DN P) (.node (Jd P) (au (Kw P)) (au (Nh P))) (.node (JM P) (au (LQ P)) (au (Ov P)))))) (.node (zJ P) (.node (Hz P) (.node (HS P) (.node (Ef P) (.node (Kc P) (au (Pa P)) .nil) (au (Ms P))) (.node (BP P) (au (KZ P)) (au (NQ P)))) (.node (U4 P) (.node (IW P) (au (V4 P)) (au (M8 P))) (.node (JG P) (au (Ly P)) (au (Om P))))) (.node (Dr P) (.node (HY P) (.node (Io P) (au (Ko P)) (au (MJ P))) (.node (Jw P) (au (Lg P)) (au (Oc P)))) (.node (DW P) (.node (Jh P) (au (KD P)) (au (Nr P))) (.node (JT P) (au (Mg P)) (au (OD P)))))))
def b23 (P : Params) : BT := (.node (Bx P) (.node (BJ P) (.node (Gm P) (.node (Hr P) (.node (Du P) (.node (Eb P) (.node (JX P) (au (O5 P)) .nil) (au (Mj P))) (.node (Jk P) (au (KN P)) (au (Nv P)))) (.node (UJ P) (.node (Iu P) (au (VP P)) (au (MP P))) (.node (Jz P) (au (Lk P)) (au (Og P))))) (.node (Dj P) (.node (Uw P) (.node (Ii P) (.node (Kf P) (au (Ph P)) .nil) (au (Mw P))) (.node (Jq P) (au (K8 P)) (au (N5 P)))) (.node (DK P) (.node (Jc P) (au (Kv P)) (au (Nf P))) (.node (JL P) (au (LK P)) (au (Ou P)))))) (.node (ajx P) (.node (Hw P) (.node (HJ P) (.node (Ed P) (.node (Ka P) (au (O9 P)) .nil) (au (Mr P))) (.node (BL P) (au (KY P)) (au (NP P)))) (.node (U3 P) (.node (IV P) (au (V3 P)) (au (M7 P))) (.node (JF P) (au (Lr P)) (au (Ol P))))) (.node (Dq P) (.node (HX P) (.node (Il P) (au (Km P)) (au (MF P))) (.node (Jv P) (au (Lf P)) (au (Oa P)))) (.node (DR P) (.node (Jg P) (au (KC P)) (au (Nq P))) (.node (JR P) (au (Mf P)) (au (Oz P))))))) (.node (BK P) (.node (zH P) (.node (Hu P) (.node (HD P) (.node (Ig P) (.node (J8 P) (au (O7 P)) .nil) (au (Mp P))) (.node (Jm P) (au (V5 P)) (au (Nz P)))) (.node (UW P) (.node (Iz P) (au (V1 P)) (au (M5 P))) (.node (JC P) (au (Lp P)) (au (Oi P))))) (.node (Dm P) (.node (Uy P) (.node (Ik P) (.node (Kh P) (au (Pk P)) .nil) (au (Mz P))) (.node (Jt P) (au (La P)) (au (N7 P)))) (.node (DP P) (.node (Je P) (au (Ky P)) (au (Nk P))) (.node (JN P) (au (LR P)) (au (Ow P)))))) (.node (zK P) (.node (Dh P) (.node (HW P) (.node (Eh P) (.node (Kd P) (au (Pb P)) .nil) (au (Mu P))) (.node (BR P) (au (K6 P)) (au (NT P)))) (.node (Ib P) (.node (Ja P) (au (Ks P)) (au (M9 P))) (.node (JH P) (au (Lz P)) (au (Oo P))))) (.node (Ds P) (.node (Uz P) (.node (Ip P) (au (Kr P)) (au (MK P))) (.node (Jx P) (au (Lh P)) (au (Od P)))) (.node (DY P) (.node (Ji P) (au (KH P)) (au (Nt P))) (.node (JV P) (au (Mh P)) (au (OJ P))))))))
def t4 (P : Params) : BT := (.node (zG P) (.node (Bw P) (.node (ak3 P) (b18 P) (.node (xQ P) (b19 P) (.node (zM P) (.node (Dz P) (.node (Ei P) (au (BW P)) (au (BX P))) (b20 P)) (b21 P)))) (b22 P)) (b23 P))
def S4 (w : World) (os : OsState) : SharedT := ⟨t4 w.params, 267, ⟨[], [], [], 0, [], [], false, [].toArray, [], 0, false, false, false, 0, [2000, 10, 10], false, 0, true, [], [], 0, false⟩, #[], ⟨0, 0, 0, 0⟩, 582, os⟩
theorem p4 (w : World) : ∀ os : OsState, HP.Piece PySem.Challenge.pw_givenback_k24_lasts_failures_and_ends w n0 xR env0 q0 c0 nW 12 28 926 (S3 w os) (S4 w os) ⟨24, 0, 24, 5⟩ ⟨118, 0, 128, 70⟩ := by
  intro os
  unfold HP.Piece
  kernel_rfl
def ak4 (P : Params) : Obj := ⟨(.type "dict"), none, (.dict [E P "__name__" 165 (.str (S "givenback.watch") 395), E P "__doc__" 166 .none, E P "__package__" 167 .none, E P "__loader__" 168 (.builtin "__main__.__loader__#opaque"), E P "__spec__" 169 .none, E P "__annotations__" 170 (.ref 6), E P "__builtins__" 171 (.ref 4), E P "__file__" 173 (.str (S "/claim/cut.py") 172), E P "__cached__" 174 .none, E P "WorkError" 216 (.ref 32), E P "BadRun" 232 (.ref 45), E P "Broken" 258 (.ref 64), E P "LETTERS" 262 (.str (S "abcdefghijklmnopqrstuvwxyz") 261), E P "LONGEST" 264 (.int (8) 263), E P "is_name" 270 (.ref 71), E P "is_whole" 279 (.ref 78), E P "is_number" 286 (.ref 85), E P "FORMS" 351 (.ref 86), E P "is_outcome" 358 (.ref 109), E P "is_count" 365 (.ref 116), E P "is_part" 373 (.ref 123), E P "is_log_row" 379 (.ref 128), E P "doer_of" 386 (.ref 135), E P "check_told" 394 (.ref 140), E P "ON" 398 (.ref 141), E P "KILLED" 400 (.ref 142), E P "MOST_TASKS" 402 (.int (12) 401), E P "PLAIN_SIZE" 404 (.int (1) 403), E P "Seen" 441 (.ref 159), E P "first_so" 450 (.ref 170), E P "ask_doing" 459 (.ref 177), E P "ask_begun" 470 (.ref 184), E P "ask_kill" 483 (.ref 191), E P "ask_late" 493 (.ref 198), E P "ask_nobody" 502 (.ref 205), E P "ask_got" 512 (.ref 212), E P "ask_given" 521 (.ref 219), E P "ask_landed" 530 (.ref 226), E P "ask_masked" 539 (.ref 233), E P "ask_opened" 548 (.ref 240), E P "ask_last" 557 (.ref 247), E P "ask_lasted" 566 (.ref 254), E P "ask_rescued" 575 (.ref 261), E P "ask_ended" 581 (.ref 266), E P "ASKING" 614 (.ref 267)].toArray 45), [].toArray⟩
def Pn (P : Params) : Obj := ⟨(.type "dict"), none, (.dict [E P "tell" 582 (.ref 177), E P "add" 584 (.ref 177), E P "failed" 586 (.ref 177), E P "rescued" 588 (.ref 261), E P "got" 590 (.ref 212), E P "given" 592 (.ref 219), E P "masked" 594 (.ref 233), E P "opened" 596 (.ref 240), E P "last" 598 (.ref 247), E P "lasted" 600 (.ref 254), E P "begun" 602 (.ref 184), E P "kill" 604 (.ref 191), E P "late" 606 (.ref 198), E P "nobody" 608 (.ref 205), E P "landed" 610 (.ref 226), E P "ended" 612 (.ref 266)].toArray 16), [].toArray⟩
def t5 (P : Params) : BT := (.node (zG P) (.node (Bw P) (.node (ak4 P) (b18 P) (.node (xQ P) (b19 P) (.node (zM P) (.node (Dz P) (.node (Ei P) (.node (BW P) (au (Pn P)) .nil) (au (BX P))) (b20 P)) (b21 P)))) (b22 P)) (b23 P))
def S5 (w : World) (os : OsState) : SharedT := ⟨t5 w.params, 268, ⟨[], [], [], 0, [], [], false, [].toArray, [], 0, false, false, false, 0, [2000, 10, 10], false, 0, true, [], [], 0, false⟩, #[], ⟨0, 0, 0, 0⟩, 615, os⟩
theorem ak5 (w : World) : ∀ os : OsState, HP.Piece PySem.Challenge.pw_givenback_k24_lasts_failures_and_ends (w.withFollow "special-get-raises" false) n0 xR env0 q0 c0 nW 40 1 268 (S4 (w.withFollow "special-get-raises" false) os) (S5 (w.withFollow "special-get-raises" false) os) ⟨118, 0, 128, 70⟩ ⟨129, 0, 129, 6⟩ := by
  intro os
  unfold HP.Piece
  kernel_rfl
theorem ak6 (w : World) : ∀ os : OsState, HP.Piece PySem.Challenge.pw_givenback_k24_lasts_failures_and_ends (w.withFollow "special-get-raises" true) n0 xR env0 q0 c0 nW 40 1 268 (S4 (w.withFollow "special-get-raises" true) os) (S5 (w.withFollow "special-get-raises" true) os) ⟨118, 0, 128, 70⟩ ⟨129, 0, 129, 6⟩ := by
  intro os
  unfold HP.Piece
  kernel_rfl
theorem p5 (w : World) : ∀ os : OsState, HP.Piece PySem.Challenge.pw_givenback_k24_lasts_failures_and_ends w n0 xR env0 q0 c0 nW 40 1 268 (S4 w os) (S5 w os) ⟨118, 0, 128, 70⟩ ⟨129, 0, 129, 6⟩ := byRow2 "special-get-raises" (P := fun w => ∀ os : OsState, HP.Piece PySem.Challenge.pw_givenback_k24_lasts_failures_and_ends w n0 xR env0 q0 c0 nW 40 1 268 (S4 w os) (S5 w os) ⟨118, 0, 128, 70⟩ ⟨129, 0, 129, 6⟩) ak5 ak6 w
def aeI (P : Params) : Obj := ⟨(.type "dict"), none, (.dict [E P "__name__" 165 (.str (S "law_givenback_k24_lasts_failures_and_ends") 733), E P "__doc__" 166 .none, E P "__package__" 167 .none, E P "__loader__" 168 (.builtin "__main__.__loader__#opaque"), E P "__spec__" 169 .none, E P "__annotations__" 170 (.ref 6), E P "__builtins__" 171 (.ref 4), E P "__file__" 173 (.str (S "/claim/cut.py") 172), E P "__cached__" 174 .none, E P "WorkError" 216 (.ref 32), E P "BadRun" 232 (.ref 45), E P "Broken" 258 (.ref 64), E P "LETTERS" 262 (.str (S "abcdefghijklmnopqrstuvwxyz") 261), E P "LONGEST" 264 (.int (8) 263), E P "is_name" 270 (.ref 71), E P "is_whole" 279 (.ref 78), E P "is_number" 286 (.ref 85), E P "FORMS" 351 (.ref 86), E P "is_outcome" 358 (.ref 109), E P "is_count" 365 (.ref 116), E P "is_part" 373 (.ref 123), E P "is_log_row" 379 (.ref 128), E P "doer_of" 386 (.ref 135), E P "check_told" 394 (.ref 140), E P "ON" 398 (.ref 141), E P "KILLED" 400 (.ref 142), E P "MOST_TASKS" 402 (.int (12) 401), E P "PLAIN_SIZE" 404 (.int (1) 403), E P "Seen" 441 (.ref 159), E P "first_so" 450 (.ref 170), E P "ask_doing" 459 (.ref 177), E P "ask_begun" 470 (.ref 184), E P "ask_kill" 483 (.ref 191), E P "ask_late" 493 (.ref 198), E P "ask_nobody" 502 (.ref 205), E P "ask_got" 512 (.ref 212), E P "ask_given" 521 (.ref 219), E P "ask_landed" 530 (.ref 226), E P "ask_masked" 539 (.ref 233), E P "ask_opened" 548 (.ref 240), E P "ask_last" 557 (.ref 247), E P "ask_lasted" 566 (.ref 254), E P "ask_rescued" 575 (.ref 261), E P "ask_ended" 581 (.ref 266), E P "ASKING" 614 (.ref 267), E P "Watch" 732 (.ref 349), E P "_law_cell_at" 742 (.ref 360), E P "_law_well" 749 (.ref 367), E P "_law_draw" 759 (.ref 374), E P "_law_one" 767 (.ref 381), E P "_law_word" 773 (.ref 386), E P "_law_can_fail" 781 (.ref 393), E P "_law_end_due" 790 (.ref 400), E P "_law_due" 798 (.ref 407), E P "_law_done" 808 (.ref 414), E P "_law_row" 819 (.ref 421), E P "_law_seen" 828 (.ref 428), E P "law" 843 (.ref 435)].toArray 58), [].toArray⟩
def afD (P : Params) : Obj := ⟨.none, none, (.fields [(.int (2) 0), (.int (0) 0), (.ref 20), (.int (7) 0), (.int (0) 0), (.ref 41), (.int (9) 0), (.int (0) 0), (.ref 53), (.int (17) 0), (.int (0) 0), (.ref 70), (.int (19) 0), (.int (0) 0), (.ref 77), (.int (21) 0), (.int (0) 0), (.ref 84), (.int (25) 0), (.int (0) 0), (.ref 108), (.int (29) 0), (.int (0) 0), (.ref 115), (.int (31) 0), (.int (0) 0), (.ref 122), (.int (41) 0), (.int (0) 0), (.ref 127), (.int (48) 0), (.int (0) 0), (.ref 134), (.int (53) 0), (.int (0) 0), (.ref 139), (.int (63) 0), (.int (0) 0), (.ref 148), (.int (73) 0), (.int (0) 0), (.ref 169), (.int (78) 0), (.int (0) 0), (.ref 176), (.int (80) 0), (.int (0) 0), (.ref 183), (.int (84) 0), (.int (0) 0), (.ref 190), (.int (92) 0), (.int (0) 0), (.ref 197), (.int (97) 0), (.int (0) 0), (.ref 204), (.int (99) 0), (.int (0) 0), (.ref 211), (.int (102) 0), (.int (0) 0), (.ref 218), (.int (106) 0), (.int (0) 0), (.ref 225), (.int (108) 0), (.int (0) 0), (.ref 232), (.int (110) 0), (.int (0) 0), (.ref 239), (.int (112) 0), (.int (0) 0), (.ref 246), (.int (114) 0), (.int (0) 0), (.ref 253), (.int (116) 0), (.int (0) 0), (.ref 260), (.int (118) 0), (.int (0) 0), (.ref 265), (.int (130) 0), (.int (0) 0), (.ref 273), (.int (235) 0), (.int (0) 0), (.ref 359), (.int (239) 0), (.int (0) 0), (.ref 366), (.int (241) 0), (.int (0) 0), (.ref 373), (.int (250) 0), (.int (0) 0), (.ref 380), (.int (252) 0), (.int (0) 0), (.ref 385), (.int (255) 0), (.int (0) 0), (.ref 392), (.int (257) 0), (.int (0) 0), (.ref 399), (.int (268) 0), (.int (0) 0), (.ref 406), (.int (290) 0), (.int (0) 0), (.ref 413), (.int (313) 0), (.int (0) 0), (.ref 420), (.int (327) 0), (.int (0) 0), (.ref 427), (.int (334) 0), (.int (0) 0), (.ref 434)].toArray), [].toArray⟩
def ac4 (P : Params) : Obj := ⟨(.type "tuple"), none, (.seq [].toArray 0), [].toArray⟩
def ac5 (P : Params) : Obj := ⟨(.type "builtin_function_or_method"), none, (.fields [(.builtin "type.__prepare__"), (.type "type")].toArray), [].toArray⟩
def ac6 (P : Params) : Obj := ⟨(.type "dict"), none, (.dict [E P "__module__" 622 (.str (S "givenback.watch") 395), E P "__qualname__" 624 (.str (S "Watch") 623), E P "__firstlineno__" 626 (.int (130) 625), E P "__init__" 637 (.ref 282), E P "see" 646 (.ref 289), E P "seen" 653 (.ref 296), E P "reason" 659 (.ref 301), E P "is_latest" 667 (.ref 308), E P "is_full" 673 (.ref 313), E P "may_fail" 679 (.ref 318), E P "take" 688 (.ref 325), E P "hold" 697 (.ref 332), E P "turn" 708 (.ref 339), E P "go_on" 717 (.ref 346), E P "__static_attributes__" 725 (.ref 347)].toArray 15), [].toArray⟩
def ac7 (P : Params) : Obj := ⟨(.type "tuple"), none, (.seq [].toArray 0), [].toArray⟩
def ac8 (P : Params) : Obj := ⟨.none, none, (.fields [(.int (132) 0), (.int (4) 0), (.ref 281), (.int (142) 0), (.int (4) 0), (.ref 288), (.int (151) 0), (.int (4) 0), (.ref 295), (.int (154) 0), (.int (4) 0), (.ref 300), (.int (171) 0), (.int (4) 0), (.ref 307), (.int (174) 0), (.int (4) 0), (.ref 312), (.int (178) 0), (.int (4) 0), (.ref 317), (.int (185) 0), (.int (4) 0), (.ref 324), (.int (203) 0), (.int (4) 0), (.ref 331), (.int (211) 0), (.int (4) 0), (.ref 338), (.int (224) 0), (.int (4) 0), (.ref 345)].toArray), [].toArray⟩
def ac9 (P : Params) : Obj := ⟨(.type "code"), none, (.fields [(.str (S "Watch") 617), (.str (S "Watch") 618), (.str (S "/claim/cut.py") 619), (.int (130) 0), (.int (0) 0), (.int (0) 0), (.int (0) 0), (.int (0) 0), (.ref 271), (.bool false), (.int (181) 0), (.ref 272), .none, .none, .none, .none, (.int (620) 0), (.int (130) 0), (.str (S "/claim/cut.py") 621)].toArray), [].toArray⟩
def ada (P : Params) : Obj := ⟨(.type "frame"), none, .plain, [(some (.ref 273)), (some (.ref 3)), (some (.ref 270)), none, (some (.str (S "givenback.watch") 395)), none, (some (.ref 0))].toArray⟩
def V7 (P : Params) : Obj := ⟨(.type "dict"), none, (.dict [E P "things" 627 .none, E P "raw" 628 (.bool false)].toArray 2), [].toArray⟩
def V8 (P : Params) : Obj := ⟨(.type "tuple"), none, (.seq [].toArray 0), [].toArray⟩
def V9 (P : Params) : Obj := ⟨.none, none, (.fields [].toArray), [].toArray⟩
def Wb (P : Params) : Obj := ⟨(.type "tuple"), none, (.seq [(.str (S "self") 632), (.str (S "things") 633), (.str (S "raw") 634)].toArray 0), [].toArray⟩
def Wc (P : Params) : Obj := ⟨(.type "tuple"), none, (.seq [].toArray 0), [].toArray⟩
def Wf (P : Params) : Obj := ⟨.none, none, (.func ⟨(S "__init__"), (S "Watch.__init__"), L2.defArgs (L2.inClass (top 41) 0), .stmts (L2.defBody (L2.inClass (top 41) 0)), L2.defScope (L2.inClass (top 41) 0), 0, [], .none, .none, .none, .none, none, .none, .none, 0⟩), [].toArray⟩
def Wh (P : Params) : Obj := ⟨(.type "code"), none, (.fields [(.str (S "__init__") 629), (.str (S "Watch.__init__") 630), (.str (S "/claim/cut.py") 631), (.int (132) 0), (.int (1) 0), (.int (0) 0), (.int (2) 0), (.int (3) 0), (.ref 276), (.bool true), (.int (181) 0), (.ref 277), .none, (.ref 278), (.ref 279), (.ref 280), (.int (635) 0), (.int (132) 0), (.str (S "/claim/cut.py") 636)].toArray), [].toArray⟩
def Wi (P : Params) : Obj := ⟨(.type "function"), none, (.func ⟨(S "__init__"), (S "Watch.__init__"), L2.defArgs (L2.inClass (top 41) 0), .stmts (L2.defBody (L2.inClass (top 41) 0)), L2.defScope (L2.inClass (top 41) 0), 3, [], .none, (.ref 275), .none, (.str (S "givenback.watch") 395), none, (.ref 281), .none, 0⟩), [].toArray⟩
def Wj (P : Params) : Obj := ⟨(.type "tuple"), none, (.seq [].toArray 0), [].toArray⟩
def Wk (P : Params) : Obj := ⟨.none, none, (.fields [].toArray), [].toArray⟩
def Wm (P : Params) : Obj := ⟨(.type "tuple"), none, (.seq [(.str (S "self") 641), (.str (S "row") 642), (.str (S "why") 643)].toArray 0), [].toArray⟩
def Wn (P : Params) : Obj := ⟨(.type "tuple"), none, (.seq [].toArray 0), [].toArray⟩
def Wq (P : Params) : Obj := ⟨.none, none, (.func ⟨(S "see"), (S "Watch.see"), L2.defArgs (L2.inClass (top 41) 1), .stmts (L2.defBody (L2.inClass (top 41) 1)), L2.defScope (L2.inClass (top 41) 1), 0, [], .none, .none, .none, .none, none, .none, .none, 0⟩), [].toArray⟩
def Wr (P : Params) : Obj := ⟨(.type "code"), none, (.fields [(.str (S "see") 638), (.str (S "Watch.see") 639), (.str (S "/claim/cut.py") 640), (.int (142) 0), (.int (2) 0), (.int (0) 0), (.int (0) 0), (.int (3) 0), (.ref 283), (.bool true), (.int (181) 0), (.ref 284), .none, (.ref 285), (.ref 286), (.ref 287), (.int (644) 0), (.int (142) 0), (.str (S "/claim/cut.py") 645)].toArray), [].toArray⟩
def Ws (P : Params) : Obj := ⟨(.type "function"), none, (.func ⟨(S "see"), (S "Watch.see"), L2.defArgs (L2.inClass (top 41) 1), .stmts (L2.defBody (L2.inClass (top 41) 1)), L2.defScope (L2.inClass (top 41) 1), 3, [], .none, .none, .none, (.str (S "givenback.watch") 395), none, (.ref 288), .none, 0⟩), [].toArray⟩
def Wt (P : Params) : Obj := ⟨(.type "tuple"), none, (.seq [].toArray 0), [].toArray⟩
def Wu (P : Params) : Obj := ⟨.none, none, (.fields [].toArray), [].toArray⟩
def Wv (P : Params) : Obj := ⟨(.type "tuple"), none, (.seq [(.str (S "self") 650)].toArray 0), [].toArray⟩
def Ww (P : Params) : Obj := ⟨(.type "tuple"), none, (.seq [].toArray 0), [].toArray⟩
def Wx (P : Params) : Obj := ⟨.none, none, (.func ⟨(S "seen"), (S "Watch.seen"), L2.defArgs (L2.inClass (top 41) 2), .stmts (L2.defBody (L2.inClass (top 41) 2)), L2.defScope (L2.inClass (top 41) 2), 0, [], .none, .none, .none, .none, none, .none, .none, 0⟩), [].toArray⟩
def Wy (P : Params) : Obj := ⟨(.type "code"), none, (.fields [(.str (S "seen") 647), (.str (S "Watch.seen") 648), (.str (S "/claim/cut.py") 649), (.int (151) 0), (.int (1) 0), (.int (0) 0), (.int (0) 0), (.int (3) 0), (.ref 290), (.bool true), (.int (181) 0), (.ref 291), .none, (.ref 292), (.ref 293), (.ref 294), (.int (651) 0), (.int (151) 0), (.str (S "/claim/cut.py") 652)].toArray), [].toArray⟩
def Wz (P : Params) : Obj := ⟨(.type "function"), none, (.func ⟨(S "seen"), (S "Watch.seen"), L2.defArgs (L2.inClass (top 41) 2), .stmts (L2.defBody (L2.inClass (top 41) 2)), L2.defScope (L2.inClass (top 41) 2), 3, [], .none, .none, .none, (.str (S "givenback.watch") 395), none, (.ref 295), .none, 0⟩), [].toArray⟩
def WD (P : Params) : Obj := ⟨(.type "tuple"), none, (.seq [].toArray 0), [].toArray⟩
def WK (P : Params) : Obj := ⟨.none, none, (.fields [].toArray), [].toArray⟩
def WL (P : Params) : Obj := ⟨.none, none, (.func ⟨(S "reason"), (S "Watch.reason"), L2.defArgs (L2.inClass (top 41) 3), .stmts (L2.defBody (L2.inClass (top 41) 3)), L2.defScope (L2.inClass (top 41) 3), 0, [], .none, .none, .none, .none, none, .none, .none, 0⟩), [].toArray⟩
def WM (P : Params) : Obj := ⟨(.type "code"), none, (.fields [(.str (S "reason") 654), (.str (S "Watch.reason") 655), (.str (S "/claim/cut.py") 656), (.int (154) 0), (.int (2) 0), (.int (0) 0), (.int (0) 0), (.int (3) 0), (.ref 297), (.bool true), (.int (181) 0), (.ref 298), .none, .none, .none, (.ref 299), (.int (657) 0), (.int (154) 0), (.str (S "/claim/cut.py") 658)].toArray), [].toArray⟩
def WQ (P : Params) : Obj := ⟨(.type "function"), none, (.func ⟨(S "reason"), (S "Watch.reason"), L2.defArgs (L2.inClass (top 41) 3), .stmts (L2.defBody (L2.inClass (top 41) 3)), L2.defScope (L2.inClass (top 41) 3), 3, [], .none, .none, .none, (.str (S "givenback.watch") 395), none, (.ref 300), .none, 0⟩), [].toArray⟩
def WR (P : Params) : Obj := ⟨(.type "tuple"), none, (.seq [].toArray 0), [].toArray⟩
def WT (P : Params) : Obj := ⟨.none, none, (.fields [].toArray), [].toArray⟩
def WW (P : Params) : Obj := ⟨(.type "tuple"), none, (.seq [(.str (S "self") 663), (.str (S "number") 664)].toArray 0), [].toArray⟩
def WY (P : Params) : Obj := ⟨(.type "tuple"), none, (.seq [].toArray 0), [].toArray⟩
def W3 (P : Params) : Obj := ⟨.none, none, (.func ⟨(S "is_latest"), (S "Watch.is_latest"), L2.defArgs (L2.inClass (top 41) 4), .stmts (L2.defBody (L2.inClass (top 41) 4)), L2.defScope (L2.inClass (top 41) 4), 0, [], .none, .none, .none, .none, none, .none, .none, 0⟩), [].toArray⟩
def W6 (P : Params) : Obj := ⟨(.type "code"), none, (.fields [(.str (S "is_latest") 660), (.str (S "Watch.is_latest") 661), (.str (S "/claim/cut.py") 662), (.int (171) 0), (.int (2) 0), (.int (0) 0), (.int (0) 0), (.int (3) 0), (.ref 302), (.bool true), (.int (181) 0), (.ref 303), .none, (.ref 304), (.ref 305), (.ref 306), (.int (665) 0), (.int (171) 0), (.str (S "/claim/cut.py") 666)].toArray), [].toArray⟩
def W7 (P : Params) : Obj := ⟨(.type "function"), none, (.func ⟨(S "is_latest"), (S "Watch.is_latest"), L2.defArgs (L2.inClass (top 41) 4), .stmts (L2.defBody (L2.inClass (top 41) 4)), L2.defScope (L2.inClass (top 41) 4), 3, [], .none, .none, .none, (.str (S "givenback.watch") 395), none, (.ref 307), .none, 0⟩), [].toArray⟩
def W8 (P : Params) : Obj := ⟨(.type "tuple"), none, (.seq [].toArray 0), [].toArray⟩
def W9 (P : Params) : Obj := ⟨.none, none, (.fields [].toArray), [].toArray⟩
def Xa (P : Params) : Obj := ⟨.none, none, (.func ⟨(S "is_full"), (S "Watch.is_full"), L2.defArgs (L2.inClass (top 41) 5), .stmts (L2.defBody (L2.inClass (top 41) 5)), L2.defScope (L2.inClass (top 41) 5), 0, [], .none, .none, .none, .none, none, .none, .none, 0⟩), [].toArray⟩
def Xb (P : Params) : Obj := ⟨(.type "code"), none, (.fields [(.str (S "is_full") 668), (.str (S "Watch.is_full") 669), (.str (S "/claim/cut.py") 670), (.int (174) 0), (.int (2) 0), (.int (0) 0), (.int (0) 0), (.int (3) 0), (.ref 309), (.bool true), (.int (181) 0), (.ref 310), .none, .none, .none, (.ref 311), (.int (671) 0), (.int (174) 0), (.str (S "/claim/cut.py") 672)].toArray), [].toArray⟩
def Xc (P : Params) : Obj := ⟨(.type "function"), none, (.func ⟨(S "is_full"), (S "Watch.is_full"), L2.defArgs (L2.inClass (top 41) 5), .stmts (L2.defBody (L2.inClass (top 41) 5)), L2.defScope (L2.inClass (top 41) 5), 3, [], .none, .none, .none, (.str (S "givenback.watch") 395), none, (.ref 312), .none, 0⟩), [].toArray⟩
def Xd (P : Params) : Obj := ⟨(.type "tuple"), none, (.seq [].toArray 0), [].toArray⟩
def Xe (P : Params) : Obj := ⟨.none, none, (.fields [].toArray), [].toArray⟩
def Xf (P : Params) : Obj := ⟨.none, none, (.func ⟨(S "may_fail"), (S "Watch.may_fail"), L2.defArgs (L2.inClass (top 41) 6), .stmts (L2.defBody (L2.inClass (top 41) 6)), L2.defScope (L2.inClass (top 41) 6), 0, [], .none, .none, .none, .none, none, .none, .none, 0⟩), [].toArray⟩
def Xg (P : Params) : Obj := ⟨(.type "code"), none, (.fields [(.str (S "may_fail") 674), (.str (S "Watch.may_fail") 675), (.str (S "/claim/cut.py") 676), (.int (178) 0), (.int (3) 0), (.int (0) 0), (.int (0) 0), (.int (3) 0), (.ref 314), (.bool true), (.int (181) 0), (.ref 315), .none, .none, .none, (.ref 316), (.int (677) 0), (.int (178) 0), (.str (S "/claim/cut.py") 678)].toArray), [].toArray⟩
def Xh (P : Params) : Obj := ⟨(.type "function"), none, (.func ⟨(S "may_fail"), (S "Watch.may_fail"), L2.defArgs (L2.inClass (top 41) 6), .stmts (L2.defBody (L2.inClass (top 41) 6)), L2.defScope (L2.inClass (top 41) 6), 3, [], .none, .none, .none, (.str (S "givenback.watch") 395), none, (.ref 317), .none, 0⟩), [].toArray⟩
def Xi (P : Params) : Obj := ⟨(.type "tuple"), none, (.seq [].toArray 0), [].toArray⟩
def Xj (P : Params) : Obj := ⟨.none, none, (.fields [].toArray), [].toArray⟩
def Xk (P : Params) : Obj := ⟨(.type "tuple"), none, (.seq [(.str (S "self") 683), (.str (S "row") 684), (.str (S "doer") 685)].toArray 0), [].toArray⟩
def Xl (P : Params) : Obj := ⟨(.type "tuple"), none, (.seq [].toArray 0), [].toArray⟩
def Xm (P : Params) : Obj := ⟨.none, none, (.func ⟨(S "take"), (S "Watch.take"), L2.defArgs (L2.inClass (top 41) 7), .stmts (L2.defBody (L2.inClass (top 41) 7)), L2.defScope (L2.inClass (top 41) 7), 0, [], .none, .none, .none, .none, none, .none, .none, 0⟩), [].toArray⟩
def Xn (P : Params) : Obj := ⟨(.type "code"), none, (.fields [(.str (S "take") 680), (.str (S "Watch.take") 681), (.str (S "/claim/cut.py") 682), (.int (185) 0), (.int (2) 0), (.int (0) 0), (.int (0) 0), (.int (3) 0), (.ref 319), (.bool true), (.int (181) 0), (.ref 320), .none, (.ref 321), (.ref 322), (.ref 323), (.int (686) 0), (.int (185) 0), (.str (S "/claim/cut.py") 687)].toArray), [].toArray⟩
def Xo (P : Params) : Obj := ⟨(.type "function"), none, (.func ⟨(S "take"), (S "Watch.take"), L2.defArgs (L2.inClass (top 41) 7), .stmts (L2.defBody (L2.inClass (top 41) 7)), L2.defScope (L2.inClass (top 41) 7), 3, [], .none, .none, .none, (.str (S "givenback.watch") 395), none, (.ref 324), .none, 0⟩), [].toArray⟩
def Xp (P : Params) : Obj := ⟨(.type "tuple"), none, (.seq [].toArray 0), [].toArray⟩
def Xq (P : Params) : Obj := ⟨.none, none, (.fields [].toArray), [].toArray⟩
def Xr (P : Params) : Obj := ⟨(.type "tuple"), none, (.seq [(.str (S "self") 692), (.str (S "had") 693), (.str (S "row") 694)].toArray 0), [].toArray⟩
def Xu (P : Params) : Obj := ⟨(.type "tuple"), none, (.seq [].toArray 0), [].toArray⟩
def Xv (P : Params) : Obj := ⟨.none, none, (.func ⟨(S "hold"), (S "Watch.hold"), L2.defArgs (L2.inClass (top 41) 8), .stmts (L2.defBody (L2.inClass (top 41) 8)), L2.defScope (L2.inClass (top 41) 8), 0, [], .none, .none, .none, .none, none, .none, .none, 0⟩), [].toArray⟩
def Xw (P : Params) : Obj := ⟨(.type "code"), none, (.fields [(.str (S "hold") 689), (.str (S "Watch.hold") 690), (.str (S "/claim/cut.py") 691), (.int (203) 0), (.int (3) 0), (.int (0) 0), (.int (0) 0), (.int (3) 0), (.ref 326), (.bool true), (.int (181) 0), (.ref 327), .none, (.ref 328), (.ref 329), (.ref 330), (.int (695) 0), (.int (203) 0), (.str (S "/claim/cut.py") 696)].toArray), [].toArray⟩
def Xx (P : Params) : Obj := ⟨(.type "function"), none, (.func ⟨(S "hold"), (S "Watch.hold"), L2.defArgs (L2.inClass (top 41) 8), .stmts (L2.defBody (L2.inClass (top 41) 8)), L2.defScope (L2.inClass (top 41) 8), 3, [], .none, .none, .none, (.str (S "givenback.watch") 395), none, (.ref 331), .none, 0⟩), [].toArray⟩
def Xy (P : Params) : Obj := ⟨(.type "tuple"), none, (.seq [].toArray 0), [].toArray⟩
def Xz (P : Params) : Obj := ⟨.none, none, (.fields [].toArray), [].toArray⟩
def XC (P : Params) : Obj := ⟨(.type "tuple"), none, (.seq [(.str (S "self") 701), (.str (S "task") 702), (.str (S "row") 703), (.str (S "state") 704), (.str (S "shut") 705)].toArray 0), [].toArray⟩
def XD (P : Params) : Obj := ⟨(.type "tuple"), none, (.seq [].toArray 0), [].toArray⟩
def XF (P : Params) : Obj := ⟨.none, none, (.func ⟨(S "turn"), (S "Watch.turn"), L2.defArgs (L2.inClass (top 41) 9), .stmts (L2.defBody (L2.inClass (top 41) 9)), L2.defScope (L2.inClass (top 41) 9), 0, [], .none, .none, .none, .none, none, .none, .none, 0⟩), [].toArray⟩
def XH (P : Params) : Obj := ⟨(.type "code"), none, (.fields [(.str (S "turn") 698), (.str (S "Watch.turn") 699), (.str (S "/claim/cut.py") 700), (.int (211) 0), (.int (3) 0), (.int (0) 0), (.int (0) 0), (.int (3) 0), (.ref 333), (.bool true), (.int (181) 0), (.ref 334), .none, (.ref 335), (.ref 336), (.ref 337), (.int (706) 0), (.int (211) 0), (.str (S "/claim/cut.py") 707)].toArray), [].toArray⟩
def XJ (P : Params) : Obj := ⟨(.type "function"), none, (.func ⟨(S "turn"), (S "Watch.turn"), L2.defArgs (L2.inClass (top 41) 9), .stmts (L2.defBody (L2.inClass (top 41) 9)), L2.defScope (L2.inClass (top 41) 9), 3, [], .none, .none, .none, (.str (S "givenback.watch") 395), none, (.ref 338), .none, 0⟩), [].toArray⟩
def XM (P : Params) : Obj := ⟨(.type "tuple"), none, (.seq [].toArray 0), [].toArray⟩
def XQ (P : Params) : Obj := ⟨.none, none, (.fields [].toArray), [].toArray⟩
def XR (P : Params) : Obj := ⟨(.type "tuple"), none, (.seq [(.str (S "self") 712), (.str (S "task") 713), (.str (S "row") 714)].toArray 0), [].toArray⟩
def XS (P : Params) : Obj := ⟨(.type "tuple"), none, (.seq [].toArray 0), [].toArray⟩
def X3 (P : Params) : Obj := ⟨.none, none, (.func ⟨(S "go_on"), (S "Watch.go_on"), L2.defArgs (L2.inClass (top 41) 10), .stmts (L2.defBody (L2.inClass (top 41) 10)), L2.defScope (L2.inClass (top 41) 10), 0, [], .none, .none, .none, .none, none, .none, .none, 0⟩), [].toArray⟩
def X4 (P : Params) : Obj := ⟨(.type "code"), none, (.fields [(.str (S "go_on") 709), (.str (S "Watch.go_on") 710), (.str (S "/claim/cut.py") 711), (.int (224) 0), (.int (3) 0), (.int (0) 0), (.int (0) 0), (.int (3) 0), (.ref 340), (.bool true), (.int (181) 0), (.ref 341), .none, (.ref 342), (.ref 343), (.ref 344), (.int (715) 0), (.int (224) 0), (.str (S "/claim/cut.py") 716)].toArray), [].toArray⟩
def X5 (P : Params) : Obj := ⟨(.type "function"), none, (.func ⟨(S "go_on"), (S "Watch.go_on"), L2.defArgs (L2.inClass (top 41) 10), .stmts (L2.defBody (L2.inClass (top 41) 10)), L2.defScope (L2.inClass (top 41) 10), 3, [], .none, .none, .none, (.str (S "givenback.watch") 395), none, (.ref 345), .none, 0⟩), [].toArray⟩
def X6 (P : Params) : Obj := ⟨(.type "tuple"), none, (.seq [(.str (S "homes") 718), (.str (S "latest") 719), (.str (S "many") 720), (.str (S "must") 721), (.str (S "raw") 722), (.str (S "sizes") 723), (.str (S "tasks") 724)].toArray 0), [].toArray⟩
def X7 (P : Params) : Obj := ⟨(.type "dict"), none, (.dict [E P "__module__" 622 (.str (S "givenback.watch") 395), E P "__firstlineno__" 626 (.int (130) 625), E P "__init__" 637 (.ref 282), E P "see" 646 (.ref 289), E P "seen" 653 (.ref 296), E P "reason" 659 (.ref 301), E P "is_latest" 667 (.ref 308), E P "is_full" 673 (.ref 313), E P "may_fail" 679 (.ref 318), E P "take" 688 (.ref 325), E P "hold" 697 (.ref 332), E P "turn" 708 (.ref 339), E P "go_on" 717 (.ref 346), E P "__static_attributes__" 725 (.ref 347), E P "__dict__" 727 (.ref 350), E P "__weakref__" 729 (.ref 351), E P "__doc__" 730 .none].toArray 4), [].toArray⟩
def X8 (P : Params) : Obj := ⟨(.type "type"), none, (.cls ⟨(S "Watch"), [(.type "object")], [(.ref 349), (.type "object")], 348, (S "Watch"), true, [], [], false, none, false⟩), [none, none, (some (.str (S "Watch") 615)), (some (.str (S "Watch") 623)), (some (.builtin "object.__new__")), (some (.bool true))].toArray⟩
def Yb (P : Params) : Obj := ⟨(.type "getset_descriptor"), none, (.fields [(.str (S "__dict__") 726), (.ref 349), (.builtin "function.__dict__"), (.builtin "function.__dict__#set")].toArray), [].toArray⟩
def Yc (P : Params) : Obj := ⟨(.type "getset_descriptor"), none, (.fields [(.str (S "__weakref__") 728), (.ref 349), (.builtin "ExceptionGroup.__weakref__"), .none].toArray), [].toArray⟩
def adb (P : Params) : Obj := ⟨(.type "super"), none, (.fields [(.ref 349), (.ref 349), (.ref 349)].toArray), [].toArray⟩
def ade (P : Params) : Obj := ⟨(.type "builtin_function_or_method"), none, (.fields [(.builtin "object.__init_subclass__"), (.ref 349)].toArray), [].toArray⟩
def Yd (P : Params) : Obj := ⟨(.type "tuple"), none, (.seq [].toArray 0), [].toArray⟩
def Ye (P : Params) : Obj := ⟨.none, none, (.fields [].toArray), [].toArray⟩
def Yg (P : Params) : Obj := ⟨(.type "tuple"), none, (.seq [(.str (S "_law_script") 738), (.str (S "_law_k") 739)].toArray 0), [].toArray⟩
def Yh (P : Params) : Obj := ⟨(.type "tuple"), none, (.seq [].toArray 0), [].toArray⟩
def Yi (P : Params) : Obj := ⟨.none, none, (.func ⟨(S "_law_cell_at"), (S "_law_cell_at"), L2.defArgs (top 43), .stmts (L2.defBody (top 43)), L2.defScope (top 43), 0, [], .none, .none, .none, .none, none, .none, .none, 0⟩), [].toArray⟩
def Yj (P : Params) : Obj := ⟨(.type "code"), none, (.fields [(.str (S "_law_cell_at") 735), (.str (S "_law_cell_at") 736), (.str (S "/claim/cut.py") 737), (.int (235) 0), (.int (2) 0), (.int (0) 0), (.int (0) 0), (.int (3) 0), (.ref 354), (.bool true), (.int (181) 0), (.ref 355), .none, (.ref 356), (.ref 357), (.ref 358), (.int (740) 0), (.int (235) 0), (.str (S "/claim/cut.py") 741)].toArray), [].toArray⟩
def Yk (P : Params) : Obj := ⟨(.type "function"), none, (.func ⟨(S "_law_cell_at"), (S "_law_cell_at"), L2.defArgs (top 43), .stmts (L2.defBody (top 43)), L2.defScope (top 43), 3, [], .none, .none, .none, (.str (S "law_givenback_k24_lasts_failures_and_ends") 733), none, (.ref 359), .none, 0⟩), [].toArray⟩
def Yl (P : Params) : Obj := ⟨(.type "tuple"), none, (.seq [].toArray 0), [].toArray⟩
def Ym (P : Params) : Obj := ⟨.none, none, (.fields [].toArray), [].toArray⟩
def Yn (P : Params) : Obj := ⟨(.type "tuple"), none, (.seq [(.str (S "_law_cell") 746)].toArray 0), [].toArray⟩
def Yo (P : Params) : Obj := ⟨(.type "tuple"), none, (.seq [].toArray 0), [].toArray⟩
def Yp (P : Params) : Obj := ⟨.none, none, (.func ⟨(S "_law_well"), (S "_law_well"), L2.defArgs (top 44), .stmts (L2.defBody (top 44)), L2.defScope (top 44), 0, [], .none, .none, .none, .none, none, .none, .none, 0⟩), [].toArray⟩
def Yq (P : Params) : Obj := ⟨(.type "code"), none, (.fields [(.str (S "_law_well") 743), (.str (S "_law_well") 744), (.str (S "/claim/cut.py") 745), (.int (239) 0), (.int (1) 0), (.int (0) 0), (.int (0) 0), (.int (3) 0), (.ref 361), (.bool true), (.int (181) 0), (.ref 362), .none, (.ref 363), (.ref 364), (.ref 365), (.int (747) 0), (.int (239) 0), (.str (S "/claim/cut.py") 748)].toArray), [].toArray⟩
def Yr (P : Params) : Obj := ⟨(.type "function"), none, (.func ⟨(S "_law_well"), (S "_law_well"), L2.defArgs (top 44), .stmts (L2.defBody (top 44)), L2.defScope (top 44), 3, [], .none, .none, .none, (.str (S "law_givenback_k24_lasts_failures_and_ends") 733), none, (.ref 366), .none, 0⟩), [].toArray⟩
def Ys (P : Params) : Obj := ⟨(.type "tuple"), none, (.seq [].toArray 0), [].toArray⟩
def Yt (P : Params) : Obj := ⟨.none, none, (.fields [].toArray), [].toArray⟩
def Yu (P : Params) : Obj := ⟨(.type "tuple"), none, (.seq [(.str (S "_law_well_here") 753), (.str (S "_law_many") 754), (.str (S "_law_digit") 755), (.str (S "_law_number") 756)].toArray 0), [].toArray⟩
def Yv (P : Params) : Obj := ⟨(.type "tuple"), none, (.seq [].toArray 0), [].toArray⟩
def Yw (P : Params) : Obj := ⟨.none, none, (.func ⟨(S "_law_draw"), (S "_law_draw"), L2.defArgs (top 45), .stmts (L2.defBody (top 45)), L2.defScope (top 45), 0, [], .none, .none, .none, .none, none, .none, .none, 0⟩), [].toArray⟩
def Yx (P : Params) : Obj := ⟨(.type "code"), none, (.fields [(.str (S "_law_draw") 750), (.str (S "_law_draw") 751), (.str (S "/claim/cut.py") 752), (.int (241) 0), (.int (2) 0), (.int (0) 0), (.int (0) 0), (.int (3) 0), (.ref 368), (.bool true), (.int (181) 0), (.ref 369), .none, (.ref 370), (.ref 371), (.ref 372), (.int (757) 0), (.int (241) 0), (.str (S "/claim/cut.py") 758)].toArray), [].toArray⟩
def Yy (P : Params) : Obj := ⟨(.type "function"), none, (.func ⟨(S "_law_draw"), (S "_law_draw"), L2.defArgs (top 45), .stmts (L2.defBody (top 45)), L2.defScope (top 45), 3, [], .none, .none, .none, (.str (S "law_givenback_k24_lasts_failures_and_ends") 733), none, (.ref 373), .none, 0⟩), [].toArray⟩
def Yz (P : Params) : Obj := ⟨(.type "tuple"), none, (.seq [].toArray 0), [].toArray⟩
def YB (P : Params) : Obj := ⟨.none, none, (.fields [].toArray), [].toArray⟩
def YC (P : Params) : Obj := ⟨(.type "tuple"), none, (.seq [(.str (S "_law_well_here") 763), (.str (S "_law_some") 764)].toArray 0), [].toArray⟩
def YD (P : Params) : Obj := ⟨(.type "tuple"), none, (.seq [].toArray 0), [].toArray⟩
def YF (P : Params) : Obj := ⟨.none, none, (.func ⟨(S "_law_one"), (S "_law_one"), L2.defArgs (top 46), .stmts (L2.defBody (top 46)), L2.defScope (top 46), 0, [], .none, .none, .none, .none, none, .none, .none, 0⟩), [].toArray⟩
def YG (P : Params) : Obj := ⟨(.type "code"), none, (.fields [(.str (S "_law_one") 760), (.str (S "_law_one") 761), (.str (S "/claim/cut.py") 762), (.int (250) 0), (.int (2) 0), (.int (0) 0), (.int (0) 0), (.int (3) 0), (.ref 375), (.bool true), (.int (181) 0), (.ref 376), .none, (.ref 377), (.ref 378), (.ref 379), (.int (765) 0), (.int (250) 0), (.str (S "/claim/cut.py") 766)].toArray), [].toArray⟩
def YH (P : Params) : Obj := ⟨(.type "function"), none, (.func ⟨(S "_law_one"), (S "_law_one"), L2.defArgs (top 46), .stmts (L2.defBody (top 46)), L2.defScope (top 46), 3, [], .none, .none, .none, (.str (S "law_givenback_k24_lasts_failures_and_ends") 733), none, (.ref 380), .none, 0⟩), [].toArray⟩
def YJ (P : Params) : Obj := ⟨(.type "tuple"), none, (.seq [].toArray 0), [].toArray⟩
def YK (P : Params) : Obj := ⟨.none, none, (.fields [].toArray), [].toArray⟩
def YL (P : Params) : Obj := ⟨.none, none, (.func ⟨(S "_law_word"), (S "_law_word"), L2.defArgs (top 47), .stmts (L2.defBody (top 47)), L2.defScope (top 47), 0, [], .none, .none, .none, .none, none, .none, .none, 0⟩), [].toArray⟩
def YM (P : Params) : Obj := ⟨(.type "code"), none, (.fields [(.str (S "_law_word") 768), (.str (S "_law_word") 769), (.str (S "/claim/cut.py") 770), (.int (252) 0), (.int (1) 0), (.int (0) 0), (.int (0) 0), (.int (3) 0), (.ref 382), (.bool true), (.int (181) 0), (.ref 383), .none, .none, .none, (.ref 384), (.int (771) 0), (.int (252) 0), (.str (S "/claim/cut.py") 772)].toArray), [].toArray⟩
def YQ (P : Params) : Obj := ⟨(.type "function"), none, (.func ⟨(S "_law_word"), (S "_law_word"), L2.defArgs (top 47), .stmts (L2.defBody (top 47)), L2.defScope (top 47), 3, [], .none, .none, .none, (.str (S "law_givenback_k24_lasts_failures_and_ends") 733), none, (.ref 385), .none, 0⟩), [].toArray⟩
def YS (P : Params) : Obj := ⟨(.type "tuple"), none, (.seq [].toArray 0), [].toArray⟩
def YT (P : Params) : Obj := ⟨.none, none, (.fields [].toArray), [].toArray⟩
def YW (P : Params) : Obj := ⟨(.type "tuple"), none, (.seq [(.str (S "_law_m") 777), (.str (S "_law_mark") 778)].toArray 0), [].toArray⟩
def YX (P : Params) : Obj := ⟨(.type "tuple"), none, (.seq [].toArray 0), [].toArray⟩
def YZ (P : Params) : Obj := ⟨.none, none, (.func ⟨(S "_law_can_fail"), (S "_law_can_fail"), L2.defArgs (top 48), .stmts (L2.defBody (top 48)), L2.defScope (top 48), 0, [], .none, .none, .none, .none, none, .none, .none, 0⟩), [].toArray⟩
def Y0 (P : Params) : Obj := ⟨(.type "code"), none, (.fields [(.str (S "_law_can_fail") 774), (.str (S "_law_can_fail") 775), (.str (S "/claim/cut.py") 776), (.int (255) 0), (.int (2) 0), (.int (0) 0), (.int (0) 0), (.int (3) 0), (.ref 387), (.bool true), (.int (181) 0), (.ref 388), .none, (.ref 389), (.ref 390), (.ref 391), (.int (779) 0), (.int (255) 0), (.str (S "/claim/cut.py") 780)].toArray), [].toArray⟩
def Y4 (P : Params) : Obj := ⟨(.type "function"), none, (.func ⟨(S "_law_can_fail"), (S "_law_can_fail"), L2.defArgs (top 48), .stmts (L2.defBody (top 48)), L2.defScope (top 48), 3, [], .none, .none, .none, (.str (S "law_givenback_k24_lasts_failures_and_ends") 733), none, (.ref 392), .none, 0⟩), [].toArray⟩
def Y5 (P : Params) : Obj := ⟨(.type "tuple"), none, (.seq [].toArray 0), [].toArray⟩
def Y6 (P : Params) : Obj := ⟨.none, none, (.fields [].toArray), [].toArray⟩
def Y7 (P : Params) : Obj := ⟨(.type "tuple"), none, (.seq [(.str (S "_law_m") 785), (.str (S "_law_outcome") 786), (.str (S "_law_right") 787)].toArray 0), [].toArray⟩
def Y8 (P : Params) : Obj := ⟨(.type "tuple"), none, (.seq [].toArray 0), [].toArray⟩
def Y9 (P : Params) : Obj := ⟨.none, none, (.func ⟨(S "_law_end_due"), (S "_law_end_due"), L2.defArgs (top 49), .stmts (L2.defBody (top 49)), L2.defScope (top 49), 0, [], .none, .none, .none, .none, none, .none, .none, 0⟩), [].toArray⟩
def Za (P : Params) : Obj := ⟨(.type "code"), none, (.fields [(.str (S "_law_end_due") 782), (.str (S "_law_end_due") 783), (.str (S "/claim/cut.py") 784), (.int (257) 0), (.int (2) 0), (.int (0) 0), (.int (0) 0), (.int (3) 0), (.ref 394), (.bool true), (.int (181) 0), (.ref 395), .none, (.ref 396), (.ref 397), (.ref 398), (.int (788) 0), (.int (257) 0), (.str (S "/claim/cut.py") 789)].toArray), [].toArray⟩
def Zb (P : Params) : Obj := ⟨(.type "function"), none, (.func ⟨(S "_law_end_due"), (S "_law_end_due"), L2.defArgs (top 49), .stmts (L2.defBody (top 49)), L2.defScope (top 49), 3, [], .none, .none, .none, (.str (S "law_givenback_k24_lasts_failures_and_ends") 733), none, (.ref 399), .none, 0⟩), [].toArray⟩
def Zd (P : Params) : Obj := ⟨(.type "tuple"), none, (.seq [].toArray 0), [].toArray⟩
def Ze (P : Params) : Obj := ⟨.none, none, (.fields [].toArray), [].toArray⟩
def Zf (P : Params) : Obj := ⟨(.type "tuple"), none, (.seq [(.str (S "_law_m") 794), (.str (S "_law_row_here") 795)].toArray 0), [].toArray⟩
def Zg (P : Params) : Obj := ⟨(.type "tuple"), none, (.seq [].toArray 0), [].toArray⟩
def Zh (P : Params) : Obj := ⟨.none, none, (.func ⟨(S "_law_due"), (S "_law_due"), L2.defArgs (top 50), .stmts (L2.defBody (top 50)), L2.defScope (top 50), 0, [], .none, .none, .none, .none, none, .none, .none, 0⟩), [].toArray⟩
def Zi (P : Params) : Obj := ⟨(.type "code"), none, (.fields [(.str (S "_law_due") 791), (.str (S "_law_due") 792), (.str (S "/claim/cut.py") 793), (.int (268) 0), (.int (2) 0), (.int (0) 0), (.int (0) 0), (.int (3) 0), (.ref 401), (.bool true), (.int (181) 0), (.ref 402), .none, (.ref 403), (.ref 404), (.ref 405), (.int (796) 0), (.int (268) 0), (.str (S "/claim/cut.py") 797)].toArray), [].toArray⟩
def Zj (P : Params) : Obj := ⟨(.type "function"), none, (.func ⟨(S "_law_due"), (S "_law_due"), L2.defArgs (top 50), .stmts (L2.defBody (top 50)), L2.defScope (top 50), 3, [], .none, .none, .none, (.str (S "law_givenback_k24_lasts_failures_and_ends") 733), none, (.ref 406), .none, 0⟩), [].toArray⟩
def Zk (P : Params) : Obj := ⟨(.type "tuple"), none, (.seq [].toArray 0), [].toArray⟩
def Zm (P : Params) : Obj := ⟨.none, none, (.fields [].toArray), [].toArray⟩
def Zo (P : Params) : Obj := ⟨(.type "tuple"), none, (.seq [(.str (S "_law_m") 802), (.str (S "_law_row_here") 803), (.str (S "_law_goes") 804), (.str (S "_law_shut") 805)].toArray 0), [].toArray⟩
def Zq (P : Params) : Obj := ⟨(.type "tuple"), none, (.seq [].toArray 0), [].toArray⟩
def Zr (P : Params) : Obj := ⟨.none, none, (.func ⟨(S "_law_done"), (S "_law_done"), L2.defArgs (top 51), .stmts (L2.defBody (top 51)), L2.defScope (top 51), 0, [], .none, .none, .none, .none, none, .none, .none, 0⟩), [].toArray⟩
def Zt (P : Params) : Obj := ⟨(.type "code"), none, (.fields [(.str (S "_law_done") 799), (.str (S "_law_done") 800), (.str (S "/claim/cut.py") 801), (.int (290) 0), (.int (2) 0), (.int (0) 0), (.int (0) 0), (.int (3) 0), (.ref 408), (.bool true), (.int (181) 0), (.ref 409), .none, (.ref 410), (.ref 411), (.ref 412), (.int (806) 0), (.int (290) 0), (.str (S "/claim/cut.py") 807)].toArray), [].toArray⟩
def Zu (P : Params) : Obj := ⟨(.type "function"), none, (.func ⟨(S "_law_done"), (S "_law_done"), L2.defArgs (top 51), .stmts (L2.defBody (top 51)), L2.defScope (top 51), 3, [], .none, .none, .none, (.str (S "law_givenback_k24_lasts_failures_and_ends") 733), none, (.ref 413), .none, 0⟩), [].toArray⟩
def Zv (P : Params) : Obj := ⟨(.type "tuple"), none, (.seq [].toArray 0), [].toArray⟩
def Zw (P : Params) : Obj := ⟨.none, none, (.fields [].toArray), [].toArray⟩
def Zx (P : Params) : Obj := ⟨(.type "tuple"), none, (.seq [(.str (S "_law_well_here") 812), (.str (S "_law_m") 813), (.str (S "_law_marks") 814), (.str (S "_law_some") 815), (.str (S "_law_word_here") 816)].toArray 0), [].toArray⟩
def Zy (P : Params) : Obj := ⟨(.type "tuple"), none, (.seq [].toArray 0), [].toArray⟩
def Zz (P : Params) : Obj := ⟨.none, none, (.func ⟨(S "_law_row"), (S "_law_row"), L2.defArgs (top 52), .stmts (L2.defBody (top 52)), L2.defScope (top 52), 0, [], .none, .none, .none, .none, none, .none, .none, 0⟩), [].toArray⟩
def ZC (P : Params) : Obj := ⟨(.type "code"), none, (.fields [(.str (S "_law_row") 809), (.str (S "_law_row") 810), (.str (S "/claim/cut.py") 811), (.int (313) 0), (.int (3) 0), (.int (0) 0), (.int (0) 0), (.int (3) 0), (.ref 415), (.bool true), (.int (181) 0), (.ref 416), .none, (.ref 417), (.ref 418), (.ref 419), (.int (817) 0), (.int (313) 0), (.str (S "/claim/cut.py") 818)].toArray), [].toArray⟩
def ZD (P : Params) : Obj := ⟨(.type "function"), none, (.func ⟨(S "_law_row"), (S "_law_row"), L2.defArgs (top 52), .stmts (L2.defBody (top 52)), L2.defScope (top 52), 3, [], .none, .none, .none, (.str (S "law_givenback_k24_lasts_failures_and_ends") 733), none, (.ref 420), .none, 0⟩), [].toArray⟩
def ZF (P : Params) : Obj := ⟨(.type "tuple"), none, (.seq [].toArray 0), [].toArray⟩
def ZG (P : Params) : Obj := ⟨.none, none, (.fields [].toArray), [].toArray⟩
def ZJ (P : Params) : Obj := ⟨(.type "tuple"), none, (.seq [(.str (S "_law_watch") 823), (.str (S "_law_row_here") 824), (.str (S "e") 825)].toArray 0), [].toArray⟩
def ZK (P : Params) : Obj := ⟨(.type "tuple"), none, (.seq [].toArray 0), [].toArray⟩
def ZL (P : Params) : Obj := ⟨.none, none, (.func ⟨(S "_law_seen"), (S "_law_seen"), L2.defArgs (top 53), .stmts (L2.defBody (top 53)), L2.defScope (top 53), 0, [], .none, .none, .none, .none, none, .none, .none, 0⟩), [].toArray⟩
def ZM (P : Params) : Obj := ⟨(.type "code"), none, (.fields [(.str (S "_law_seen") 820), (.str (S "_law_seen") 821), (.str (S "/claim/cut.py") 822), (.int (327) 0), (.int (2) 0), (.int (0) 0), (.int (0) 0), (.int (3) 0), (.ref 422), (.bool true), (.int (181) 0), (.ref 423), .none, (.ref 424), (.ref 425), (.ref 426), (.int (826) 0), (.int (327) 0), (.str (S "/claim/cut.py") 827)].toArray), [].toArray⟩
def ZP (P : Params) : Obj := ⟨(.type "function"), none, (.func ⟨(S "_law_seen"), (S "_law_seen"), L2.defArgs (top 53), .stmts (L2.defBody (top 53)), L2.defScope (top 53), 3, [], .none, .none, .none, (.str (S "law_givenback_k24_lasts_failures_and_ends") 733), none, (.ref 427), .none, 0⟩), [].toArray⟩
def ZQ (P : Params) : Obj := ⟨(.type "tuple"), none, (.seq [].toArray 0), [].toArray⟩
def ZR (P : Params) : Obj := ⟨.none, none, (.fields [].toArray), [].toArray⟩
def ZV (P : Params) : Obj := ⟨(.type "tuple"), none, (.seq [(.str (S "_law_script") 832), (.str (S "_law_well_here") 833), (.str (S "_law_marks") 834), (.str (S "_law_watch") 835), (.str (S "_law_m") 836), (.str (S "_law_ahead") 837), (.str (S "_law_row_here") 838), (.str (S "_law_cell") 839), (.str (S "_law_why") 840)].toArray 0), [].toArray⟩
def ZW (P : Params) : Obj := ⟨(.type "tuple"), none, (.seq [].toArray 0), [].toArray⟩
def ZX (P : Params) : Obj := ⟨.none, none, (.func ⟨(S "law"), (S "law"), L2.defArgs (top 54), .stmts (L2.defBody (top 54)), L2.defScope (top 54), 0, [], .none, .none, .none, .none, none, .none, .none, 0⟩), [].toArray⟩
def Z0 (P : Params) : Obj := ⟨(.type "code"), none, (.fields [(.str (S "law") 829), (.str (S "law") 830), (.str (S "/claim/cut.py") 831), (.int (334) 0), (.int (1) 0), (.int (0) 0), (.int (0) 0), (.int (3) 0), (.ref 429), (.bool true), (.int (181) 0), (.ref 430), .none, (.ref 431), (.ref 432), (.ref 433), (.int (841) 0), (.int (334) 0), (.str (S "/claim/cut.py") 842)].toArray), [].toArray⟩
def Z4 (P : Params) : Obj := ⟨(.type "function"), none, (.func ⟨(S "law"), (S "law"), L2.defArgs (top 54), .stmts (L2.defBody (top 54)), L2.defScope (top 54), 3, [], .none, .none, .none, (.str (S "law_givenback_k24_lasts_failures_and_ends") 733), none, (.ref 434), .none, 0⟩), [].toArray⟩
def t6 (P : Params) : BT := (.node (zG P) (.node (Bw P) (.node (aeI P) (.node (Gk P) (.node (Hq P) (.node (Dt P) (.node (Ea P) (.node (JW P) (au (O4 P)) (au (YK P))) (.node (Mi P) (au (Xi P)) .nil)) (.node (Jj P) (.node (KJ P) (au (Wq P)) (au (Zv P))) (.node (Nu P) (au (Yc P)) .nil))) (.node (UG P) (.node (Ir P) (.node (VN P) (au (ac7 P)) (au (Za P))) (.node (MN P) (au (XC P)) .nil)) (.node (Jy P) (.node (Lj P) (au (WT P)) (au (ZV P))) (.node (Oe P) (au (Yr P)) .nil)))) (.node (Di P) (.node (Uv P) (.node (Ih P) (.node (Ke P) (au (Pg P)) (au (YZ P))) (.node (Mv P) (au (Xq P)) .nil)) (.node (Jp P) (.node (K7 P) (au (Wy P)) (au (ZG P))) (.node (NZ P) (au (Yj P)) .nil))) (.node (DG P) (.node (Jb P) (.node (Ku P) (au (Wc P)) (au (Zj P))) (.node (Nb P) (au (XS P)) .nil)) (.node (JK P) (.node (LC P) (au (Xa P)) .nil) (.node (Oq P) (au (Yz P)) .nil))))) (.node (xQ P) (.node (Hv P) (.node (HF P) (.node (Ec P) (.node (J9 P) (au (O8 P)) (au (YS P))) (.node (Mq P) (au (Xm P)) .nil)) (.node (Jo P) (.node (V6 P) (au (Wu P)) (au (Zz P))) (.node (NK P) (au (Ye P)) .nil))) (.node (U0 P) (.node (IK P) (.node (V2 P) (au (V7 P)) (au (Zf P))) (.node (M6 P) (au (XJ P)) .nil)) (.node (JD P) (.node (Lq P) (au (W6 P)) (au (Z4 P))) (.node (Oj P) (au (Yv P)) .nil)))) (.node (zM P) (.node (Dz P) (.node (Ei P) (.node (BW P) (au (Pn P)) (au (Y6 P))) (.node (BX P) (au (Xw P)) .nil)) (.node (Ju P) (.node (Ld P) (au (WL P)) (au (ZM P))) (.node (N8 P) (au (Yn P)) .nil))) (.node (DQ P) (.node (Jf P) (.node (Kz P) (au (Wj P)) (au (Zq P))) (.node (Np P) (au (X6 P)) .nil)) (.node (JQ P) (.node (Ma P) (au (Xe P)) .nil) (.node (Ox P) (au (YF P)) .nil)))))) (.node (Gj P) (.node (Gn P) (.node (Ht P) (.node (Dy P) (.node (Ie P) (.node (JZ P) (au (O6 P)) (au (YM P))) (.node (Ml P) (au (Xk P)) .nil)) (.node (Jl P) (.node (KQ P) (au (Ws P)) (au (Zx P))) (.node (Ny P) (au (ade P)) .nil))) (.node (UL P) (.node (Iw P) (.node (VR P) (au (ac9 P)) (au (Zd P))) (.node (M4 P) (au (XF P)) .nil)) (.node (JB P) (.node (Ln P) (au (WY P)) (au (ZX P))) (.node (Oh P) (au (Yt P)) .nil)))) (.node (Dk P) (.node (Ux P) (.node (Ij P) (.node (Kg P) (au (Pj P)) (au (Y4 P))) (.node (Mx P) (au (Xu P)) .nil)) (.node (Jr P) (.node (K9 P) (au (WD P)) (au (ZK P))) (.node (N6 P) (au (Yl P)) .nil))) (.node (DN P) (.node (Jd P) (.node (Kw P) (au (Wh P)) (au (Zm P))) (.node (Nh P) (au (X4 P)) .nil)) (.node (JM P) (.node (LQ P) (au (Xc P)) .nil) (.node (Ov P) (au (YC P)) .nil))))) (.node (zJ P) (.node (Hz P) (.node (HS P) (.node (Ef P) (.node (Kc P) (au (Pa P)) (au (YW P))) (.node (Ms P) (au (Xo P)) .nil)) (.node (BP P) (.node (KZ P) (au (Ww P)) (au (ZD P))) (.node (NQ P) (au (Yh P)) .nil))) (.node (U4 P) (.node (IW P) (.node (V4 P) (au (V9 P)) (au (Zh P))) (.node (M8 P) (au (XQ P)) .nil)) (.node (JG P) (.node (Ly P) (au (W8 P)) .nil) (.node (Om P) (au (Yx P)) .nil)))) (.node (Dr P) (.node (HY P) (.node (Io P) (.node (Ko P) (au (ac5 P)) (au (Y8 P))) (.node (MJ P) (au (Xy P)) .nil)) (.node (Jw P) (.node (Lg P) (au (WQ P)) (au (ZQ P))) (.node (Oc P) (au (Yp P)) .nil))) (.node (DW P) (.node (Jh P) (.node (KD P) (au (Wm P)) (au (Zt P))) (.node (Nr P) (au (X8 P)) .nil)) (.node (JT P) (.node (Mg P) (au (Xg P)) .nil) (.node (OD P) (au (YH P)) .nil))))))) (.node (Bx P) (.node (BJ P) (.node (Gm P) (.node (Hr P) (.node (Du P) (.node (Eb P) (.node (JX P) (au (O5 P)) (au (YL P))) (.node (Mj P) (au (Xj P)) .nil)) (.node (Jk P) (.node (KN P) (au (Wr P)) (au (Zw P))) (.node (Nv P) (au (adb P)) .nil))) (.node (UJ P) (.node (Iu P) (.node (VP P) (au (ac8 P)) (au (Zb P))) (.node (MP P) (au (XD P)) .nil)) (.node (Jz P) (.node (Lk P) (au (WW P)) (au (ZW P))) (.node (Og P) (au (Ys P)) .nil)))) (.node (Dj P) (.node (Uw P) (.node (Ii P) (.node (Kf P) (au (Ph P)) (au (Y0 P))) (.node (Mw P) (au (Xr P)) .nil)) (.node (Jq P) (.node (K8 P) (au (Wz P)) (au (ZJ P))) (.node (N5 P) (au (Yk P)) .nil))) (.node (DK P) (.node (Jc P) (.node (Kv P) (au (Wf P)) (au (Zk P))) (.node (Nf P) (au (X3 P)) .nil)) (.node (JL P) (.node (LK P) (au (Xb P)) .nil) (.node (Ou P) (au (YB P)) .nil))))) (.node (afD P) (.node (Hw P) (.node (HJ P) (.node (Ed P) (.node (Ka P) (au (O9 P)) (au (YT P))) (.node (Mr P) (au (Xn P)) .nil)) (.node (BL P) (.node (KY P) (au (Wv P)) (au (ZC P))) (.node (NP P) (au (Yg P)) .nil))) (.node (U3 P) (.node (IV P) (.node (V3 P) (au (V8 P)) (au (Zg P))) (.node (M7 P) (au (XM P)) .nil)) (.node (JF P) (.node (Lr P) (au (W7 P)) .nil) (.node (Ol P) (au (Yw P)) .nil)))) (.node (Dq P) (.node (HX P) (.node (Il P) (.node (Km P) (au (ac4 P)) (au (Y7 P))) (.node (MF P) (au (Xx P)) .nil)) (.node (Jv P) (.node (Lf P) (au (WM P)) (au (ZP P))) (.node (Oa P) (au (Yo P)) .nil))) (.node (DR P) (.node (Jg P) (.node (KC P) (au (Wk P)) (au (Zr P))) (.node (Nq P) (au (X7 P)) .nil)) (.node (JR P) (.node (Mf P) (au (Xf P)) .nil) (.node (Oz P) (au (YG P)) .nil)))))) (.node (BK P) (.node (zH P) (.node (Hu P) (.node (HD P) (.node (Ig P) (.node (J8 P) (au (O7 P)) (au (YQ P))) (.node (Mp P) (au (Xl P)) .nil)) (.node (Jm P) (.node (V5 P) (au (Wt P)) (au (Zy P))) (.node (Nz P) (au (Yd P)) .nil))) (.node (UW P) (.node (Iz P) (.node (V1 P) (au (ada P)) (au (Ze P))) (.node (M5 P) (au (XH P)) .nil)) (.node (JC P) (.node (Lp P) (au (W3 P)) (au (Z0 P))) (.node (Oi P) (au (Yu P)) .nil)))) (.node (Dm P) (.node (Uy P) (.node (Ik P) (.node (Kh P) (au (Pk P)) (au (Y5 P))) (.node (Mz P) (au (Xv P)) .nil)) (.node (Jt P) (.node (La P) (au (WK P)) (au (ZL P))) (.node (N7 P) (au (Ym P)) .nil))) (.node (DP P) (.node (Je P) (.node (Ky P) (au (Wi P)) (au (Zo P))) (.node (Nk P) (au (X5 P)) .nil)) (.node (JN P) (.node (LR P) (au (Xd P)) .nil) (.node (Ow P) (au (YD P)) .nil))))) (.node (zK P) (.node (Dh P) (.node (HW P) (.node (Eh P) (.node (Kd P) (au (Pb P)) (au (YX P))) (.node (Mu P) (au (Xp P)) .nil)) (.node (BR P) (.node (K6 P) (au (Wx P)) (au (ZF P))) (.node (NT P) (au (Yi P)) .nil))) (.node (Ib P) (.node (Ja P) (.node (Ks P) (au (Wb P)) (au (Zi P))) (.node (M9 P) (au (XR P)) .nil)) (.node (JH P) (.node (Lz P) (au (W9 P)) .nil) (.node (Oo P) (au (Yy P)) .nil)))) (.node (Ds P) (.node (Uz P) (.node (Ip P) (.node (Kr P) (au (ac6 P)) (au (Y9 P))) (.node (MK P) (au (Xz P)) .nil)) (.node (Jx P) (.node (Lh P) (au (WR P)) (au (ZR P))) (.node (Od P) (au (Yq P)) .nil))) (.node (DY P) (.node (Ji P) (.node (KH P) (au (Wn P)) (au (Zu P))) (.node (Nt P) (au (Yb P)) .nil)) (.node (JV P) (.node (Mh P) (au (Xh P)) .nil) (.node (OJ P) (au (YJ P)) .nil))))))))
def S6 (w : World) (os : OsState) : SharedT := ⟨t6 w.params, 436, ⟨[], [], [], 0, [], [], false, [].toArray, [], 0, false, false, false, 0, [2000, 10, 10], false, 0, true, [], [], 0, false⟩, #[], ⟨0, 0, 0, 0⟩, 844, os⟩
theorem p6 (w : World) : ∀ os : OsState, HP.Piece PySem.Challenge.pw_givenback_k24_lasts_failures_and_ends w n0 xR env0 q0 c0 nW 41 14 933 (S5 w os) (S6 w os) ⟨129, 0, 129, 6⟩ ⟨334, 0, 354, 42⟩ := by
  intro os
  unfold HP.Piece
  kernel_rfl
def t7 (P : Params) : BT := (.node (zG P) (.node (Bw P) (.node (aeI P) (.node (Gk P) (.node (Hq P) (.node (Dt P) (.node (Ea P) (.node (JW P) (au (O4 P)) (au (YK P))) (.node (Mi P) (au (Xi P)) .nil)) (.node (Jj P) (.node (KJ P) (au (Wq P)) (au (Zv P))) (.node (Nu P) (au (Yc P)) .nil))) (.node (UG P) (.node (Ir P) (.node (VN P) (au (ac7 P)) (au (Za P))) (.node (MN P) (au (XC P)) .nil)) (.node (Jy P) (.node (Lj P) (au (WT P)) (au (ZV P))) (.node (Oe P) (au (Yr P)) .nil)))) (.node (Di P) (.node (Uv P) (.node (Ih P) (.node (Ke P) (au (Pg P)) (au (YZ P))) (.node (Mv P) (au (Xq P)) .nil)) (.node (Jp P) (.node (K7 P) (au (Wy P)) (au (ZG P))) (.node (NZ P) (au (Yj P)) .nil))) (.node (DG P) (.node (Jb P) (.node (Ku P) (au (Wc P)) (au (Zj P))) (.node (Nb P) (au (XS P)) .nil)) (.node (JK P) (.node (LC P) (au (Xa P)) .nil) (.node (Oq P) (au (Yz P)) .nil))))) (.node (xQ P) (.node (Hv P) (.node (HF P) (.node (Ec P) (.node (J9 P) (au (O8 P)) (au (YS P))) (.node (Mq P) (au (Xm P)) .nil)) (.node (Jo P) (.node (V6 P) (au (Wu P)) (au (Zz P))) (.node (NK P) (au (Ye P)) .nil))) (.node (U0 P) (.node (IK P) (.node (V2 P) (au (V7 P)) (au (Zf P))) (.node (M6 P) (au (XJ P)) .nil)) (.node (JD P) (.node (Lq P) (au (W6 P)) (au (Z4 P))) (.node (Oj P) (au (Yv P)) .nil)))) (.node (zM P) (.node (Dz P) (.node (Ei P) (.node (BW P) (au (Pn P)) (au (Y6 P))) (.node (BX P) (au (Xw P)) .nil)) (.node (Ju P) (.node (Ld P) (au (WL P)) (au (ZM P))) (.node (N8 P) (au (Yn P)) .nil))) (.node (DQ P) (.node (Jf P) (.node (Kz P) (au (Wj P)) (au (Zq P))) (.node (Np P) (au (X6 P)) .nil)) (.node (JQ P) (.node (Ma P) (au (Xe P)) .nil) (.node (Ox P) (au (YF P)) .nil)))))) (.node (Gj P) (.node (Gn P) (.node (Ht P) (.node (Dy P) (.node (Ie P) (.node (JZ P) (au (O6 P)) (au (YM P))) (.node (Ml P) (au (Xk P)) .nil)) (.node (Jl P) (.node (KQ P) (au (Ws P)) (au (Zx P))) (.node (Ny P) (au (ade P)) .nil))) (.node (UL P) (.node (Iw P) (.node (VR P) (au (ac9 P)) (au (Zd P))) (.node (M4 P) (au (XF P)) .nil)) (.node (JB P) (.node (Ln P) (au (WY P)) (au (ZX P))) (.node (Oh P) (au (Yt P)) .nil)))) (.node (Dk P) (.node (Ux P) (.node (Ij P) (.node (Kg P) (au (Pj P)) (au (Y4 P))) (.node (Mx P) (au (Xu P)) .nil)) (.node (Jr P) (.node (K9 P) (au (WD P)) (au (ZK P))) (.node (N6 P) (au (Yl P)) .nil))) (.node (DN P) (.node (Jd P) (.node (Kw P) (au (Wh P)) (au (Zm P))) (.node (Nh P) (au (X4 P)) .nil)) (.node (JM P) (.node (LQ P) (au (Xc P)) .nil) (.node (Ov P) (au (YC P)) .nil))))) (.node (zJ P) (.node (Hz P) (.node (HS P) (.node (Ef P) (.node (Kc P) (au (Pa P)) (au (YW P))) (.node (Ms P) (au (Xo P)) .nil)) (.node (BP P) (.node (KZ P) (au (Ww P)) (au (ZD P))) (.node (NQ P) (au (Yh P)) .nil))) (.node (U4 P) (.node (IW P) (.node (V4 P) (au (V9 P)) (au (Zh P))) (.node (M8 P) (au (XQ P)) .nil)) (.node (JG P) (.node (Ly P) (au (W8 P)) .nil) (.node (Om P) (au (Yx P)) .nil)))) (.node (Dr P) (.node (HY P) (.node (Io P) (.node (Ko P) (au (ac5 P)) (au (Y8 P))) (.node (MJ P) (au (Xy P)) .nil)) (.node (Jw P) (.node (Lg P) (au (WQ P)) (au (ZQ P))) (.node (Oc P) (au (Yp P)) .nil))) (.node (DW P) (.node (Jh P) (.node (KD P) (au (Wm P)) (au (Zt P))) (.node (Nr P) (au (X8 P)) .nil)) (.node (JT P) (.node (Mg P) (au (Xg P)) .nil) (.node (OD P) (au (YH P)) .nil))))))) (.node (Bx P) (.node (BJ P) (.node (Gm P) (.node (Hr P) (.node (Du P) (.node (Eb P) (.node (JX P) (au (O5 P)) (au (YL P))) (.node (Mj P) (au (Xj P)) .nil)) (.node (Jk P) (.node (KN P) (au (Wr P)) (au (Zw P))) (.node (Nv P) (au (adb P)) .nil))) (.node (UJ P) (.node (Iu P) (.node (VP P) (au (ac8 P)) (au (Zb P))) (.node (MP P) (au (XD P)) .nil)) (.node (Jz P) (.node (Lk P) (au (WW P)) (au (ZW P))) (.node (Og P) (au (Ys P)) .nil)))) (.node (Dj P) (.node (Uw P) (.node (Ii P) (.node (Kf P) (au (Ph P)) (au (Y0 P))) (.node (Mw P) (au (Xr P)) .nil)) (.node (Jq P) (.node (K8 P) (au (Wz P)) (au (ZJ P))) (.node (N5 P) (au (Yk P)) .nil))) (.node (DK P) (.node (Jc P) (.node (Kv P) (au (Wf P)) (au (Zk P))) (.node (Nf P) (au (X3 P)) .nil)) (.node (JL P) (.node (LK P) (au (Xb P)) .nil) (.node (Ou P) (au (YB P)) .nil))))) (.node (afD P) (.node (Hw P) (.node (HJ P) (.node (Ed P) (.node (Ka P) (au (O9 P)) (au (YT P))) (.node (Mr P) (au (Xn P)) .nil)) (.node (BL P) (.node (KY P) (au (Wv P)) (au (ZC P))) (.node (NP P) (au (Yg P)) .nil))) (.node (U3 P) (.node (IV P) (.node (V3 P) (au (V8 P)) (au (Zg P))) (.node (M7 P) (au (XM P)) .nil)) (.node (JF P) (.node (Lr P) (au (W7 P)) .nil) (.node (Ol P) (au (Yw P)) .nil)))) (.node (Dq P) (.node (HX P) (.node (Il P) (.node (Km P) (au (ac4 P)) (au (Y7 P))) (.node (MF P) (au (Xx P)) .nil)) (.node (Jv P) (.node (Lf P) (au (WM P)) (au (ZP P))) (.node (Oa P) (au (Yo P)) .nil))) (.node (DR P) (.node (Jg P) (.node (KC P) (au (Wk P)) (au (Zr P))) (.node (Nq P) (au (X7 P)) .nil)) (.node (JR P) (.node (Mf P) (au (Xf P)) .nil) (.node (Oz P) (au (YG P)) .nil)))))) (.node (BK P) (.node (zH P) (.node (Hu P) (.node (HD P) (.node (Ig P) (.node (J8 P) (au (O7 P)) (au (YQ P))) (.node (Mp P) (au (Xl P)) .nil)) (.node (Jm P) (.node (V5 P) (au (Wt P)) (au (Zy P))) (.node (Nz P) (au (Yd P)) .nil))) (.node (UW P) (.node (Iz P) (.node (V1 P) (au (ada P)) (au (Ze P))) (.node (M5 P) (au (XH P)) .nil)) (.node (JC P) (.node (Lp P) (au (W3 P)) (au (Z0 P))) (.node (Oi P) (au (Yu P)) .nil)))) (.node (Dm P) (.node (Uy P) (.node (Ik P) (.node (Kh P) (au (Pk P)) (au (Y5 P))) (.node (Mz P) (au (Xv P)) .nil)) (.node (Jt P) (.node (La P) (au (WK P)) (au (ZL P))) (.node (N7 P) (au (Ym P)) .nil))) (.node (DP P) (.node (Je P) (.node (Ky P) (au (Wi P)) (au (Zo P))) (.node (Nk P) (au (X5 P)) .nil)) (.node (JN P) (.node (LR P) (au (Xd P)) .nil) (.node (Ow P) (au (YD P)) .nil))))) (.node (zK P) (.node (Dh P) (.node (HW P) (.node (Eh P) (.node (Kd P) (au (Pb P)) (au (YX P))) (.node (Mu P) (au (Xp P)) .nil)) (.node (BR P) (.node (K6 P) (au (Wx P)) (au (ZF P))) (.node (NT P) (au (Yi P)) .nil))) (.node (Ib P) (.node (Ja P) (.node (Ks P) (au (Wb P)) (au (Zi P))) (.node (M9 P) (au (XR P)) .nil)) (.node (JH P) (.node (Lz P) (au (W9 P)) .nil) (.node (Oo P) (au (Yy P)) .nil)))) (.node (Ds P) (.node (Uz P) (.node (Ip P) (.node (Kr P) (au (ac6 P)) (au (Y9 P))) (.node (MK P) (au (Xz P)) .nil)) (.node (Jx P) (.node (Lh P) (au (WR P)) (au (ZR P))) (.node (Od P) (au (Yq P)) .nil))) (.node (DY P) (.node (Ji P) (.node (KH P) (au (Wn P)) (au (Zu P))) (.node (Nt P) (au (Yb P)) .nil)) (.node (JV P) (.node (Mh P) (au (Xh P)) .nil) (.node (OJ P) (au (YJ P)) .nil))))))))
def S7 (w : World) (os : OsState) : SharedT := ⟨t7 w.params, 436, ⟨[], [], [], 0, [], [], false, [].toArray, [], 0, false, false, false, 0, [2000, 10, 10], false, 0, true, [], [], 0, false⟩, #[], ⟨0, 0, 0, 0⟩, 844, os⟩
theorem hf (w : World) (os : OsState) : HandSHeadRun.goF (HP.RN PySem.Challenge.pw_givenback_k24_lasts_failures_and_ends w) n0 xR 3 (S6 w os) ⟨doneF .next, c0, ⟨334, 0, 354, 42⟩, [topFrame q0]⟩ = some (S7 w os) := by kernel_rfl
abbrev SF (w : World) (os : OsState) : SharedT := S7 w os
def as0 : List Addr := [3, 2, 6, 4, 32, 45, 64, 71, 78, 85, 86, 109, 116, 123, 128, 135, 140, 141, 142, 159, 170, 177, 184, 191, 198, 205, 212, 219, 226, 233, 240, 247, 254, 261, 266, 267, 349, 360, 367, 374, 381, 386, 393, 400, 407, 414, 421, 428, 435, 0, 31, 44, 63, 70, 77, 84, 87, 88, 89, 90, 91, 92, 93, 94, 95, 96, 97, 98, 99, 100, 101, 102, 108, 115, 122, 127, 134, 139, 158, 169, 176, 183, 190, 197, 204, 211, 218, 225, 232, 239, 246, 253, 260, 265, 348, 359, 366, 373, 380, 385, 392, 399, 406, 413, 420, 427, 434, 29, 30, 33, 43, 61, 62, 67, 68, 69, 72, 73, 74, 75, 76, 79, 80, 81, 82, 83, 103, 104, 105, 106, 107, 110, 111, 112, 113, 114, 117, 118, 119, 120, 121, 124, 125, 126, 129, 130, 131, 132, 133, 136, 137, 138, 156, 157, 160, 161, 164, 165, 166, 167, 168, 171, 172, 173, 174, 175, 178, 179, 180, 181, 182, 185, 186, 187, 188, 189, 192, 193, 194, 195, 196, 199, 200, 201, 202, 203, 206, 207, 208, 209, 210, 213, 214, 215, 216, 217, 220, 221, 222, 223, 224, 227, 228, 229, 230, 231, 234, 235, 236, 237, 238, 241, 242, 243, 244, 245, 248, 249, 250, 251, 252, 255, 256, 257, 258, 259, 262, 263, 264, 282, 289, 296, 301, 308, 313, 318, 325, 332, 339, 346, 347, 350, 351, 354, 355, 356, 357, 358, 361, 362, 363, 364, 365, 368, 369, 370, 371, 372, 375, 376, 377, 378, 379, 382, 383, 384, 387, 388, 389, 390, 391, 394, 395, 396, 397, 398, 401, 402, 403, 404, 405, 408, 409, 410, 411, 412, 415, 416, 417, 418, 419, 422, 423, 424, 425, 426, 429, 430, 431, 432, 433, 28, 22, 60, 155, 281, 275, 288, 295, 300, 307, 312, 317, 324, 331, 338, 345, 23, 24, 25, 26, 27, 55, 56, 57, 58, 59, 150, 151, 152, 153, 154, 276, 277, 278, 279, 280, 283, 284, 285, 286, 287, 290, 291, 292, 293, 294, 297, 298, 299, 302, 303, 304, 305, 306, 309, 310, 311, 314, 315, 316, 319, 320, 321, 322, 323, 326, 327, 328, 329, 330, 333, 334, 335, 336, 337, 340, 341, 342, 343, 344]
def KF (P : Params) : PySem.W.Frag := [(3, aeI P), (2, Bx P), (6, BK P), (4, BJ P), (32, Du P), (45, HY P), (64, Eb P), (71, Ih P), (78, Ip P), (85, IW P), (86, Ja P), (109, Jw P), (116, JF P), (123, JQ P), (128, JX P), (135, Ke P), (140, Km P), (141, Ko P), (142, Kr P), (159, KJ P), (170, La P), (177, Ln P), (184, LK P), (191, Mi P), (198, Mu P), (205, MJ P), (212, M7 P), (219, Np P), (226, Nz P), (233, N6 P), (240, Og P), (247, Oq P), (254, OJ P), (261, Pa P), (266, Pk P), (267, Pn P), (349, X8 P), (360, Yk P), (367, Yr P), (374, Yy P), (381, YH P), (386, YQ P), (393, Y4 P), (400, Zb P), (407, Zj P), (414, Zu P), (421, ZD P), (428, ZP P), (435, Z4 P), (0, zG P), (31, Dt P), (44, HX P), (63, Ea P), (70, Eh P), (77, Io P), (84, IV P), (87, Jb P), (88, Jc P), (89, Jd P), (90, Je P), (91, Jf P), (92, Jg P), (93, Jh P), (94, Ji P), (95, Jj P), (96, Jk P), (97, Jl P), (98, Jm P), (99, Jo P), (100, BL P), (101, BP P), (102, BR P), (108, Jv P), (115, JD P), (122, JN P), (127, JW P), (134, Kd P), (139, BW P), (158, KH P), (169, K9 P), (176, Lk P), (183, LC P), (190, Mh P), (197, Ms P), (204, MF P), (211, M6 P), (218, Nk P), (225, Ny P), (232, N5 P), (239, Oe P), (246, Oo P), (253, OD P), (260, O9 P), (265, Pj P), (348, X7 P), (359, Yj P), (366, Yq P), (373, Yx P), (380, YG P), (385, YM P), (392, Y0 P), (399, Za P), (406, Zi P), (413, Zt P), (420, ZC P), (427, ZM P), (434, Z0 P), (29, Dr P), (30, Ds P), (33, Dy P), (43, Dz P), (61, DW P), (62, DY P), (67, Ec P), (68, Ed P), (69, Ef P), (72, Ii P), (73, Ij P), (74, Ik P), (75, Ei P), (76, Il P), (79, Ir P), (80, Iu P), (81, Iw P), (82, Iz P), (83, IK P), (103, Jp P), (104, Jq P), (105, Jr P), (106, Jt P), (107, Ju P), (110, Jx P), (111, Jy P), (112, Jz P), (113, JB P), (114, JC P), (117, JG P), (118, JH P), (119, JK P), (120, JL P), (121, JM P), (124, JR P), (125, JT P), (126, JV P), (129, JZ P), (130, J8 P), (131, J9 P), (132, Ka P), (133, Kc P), (136, Kf P), (137, Kg P), (138, Kh P), (156, KC P), (157, KD P), (160, KN P), (161, KQ P), (164, KY P), (165, KZ P), (166, K6 P), (167, K7 P), (168, K8 P), (171, Ld P), (172, Lf P), (173, Lg P), (174, Lh P), (175, Lj P), (178, Lp P), (179, Lq P), (180, Lr P), (181, Ly P), (182, Lz P), (185, LQ P), (186, LR P), (187, Ma P), (188, Mf P), (189, Mg P), (192, Mj P), (193, Ml P), (194, Mp P), (195, Mq P), (196, Mr P), (199, Mv P), (200, Mw P), (201, Mx P), (202, Mz P), (203, BX P), (206, MK P), (207, MN P), (208, MP P), (209, M4 P), (210, M5 P), (213, M8 P), (214, M9 P), (215, Nb P), (216, Nf P), (217, Nh P), (220, Nq P), (221, Nr P), (222, Nt P), (223, Nu P), (224, Nv P), (227, NK P), (228, NP P), (229, NQ P), (230, NT P), (231, NZ P), (234, N7 P), (235, N8 P), (236, Oa P), (237, Oc P), (238, Od P), (241, Oh P), (242, Oi P), (243, Oj P), (244, Ol P), (245, Om P), (248, Ou P), (249, Ov P), (250, Ow P), (251, Ox P), (252, Oz P), (255, O4 P), (256, O5 P), (257, O6 P), (258, O7 P), (259, O8 P), (262, Pb P), (263, Pg P), (264, Ph P), (282, Wi P), (289, Ws P), (296, Wz P), (301, WQ P), (308, W7 P), (313, Xc P), (318, Xh P), (325, Xo P), (332, Xx P), (339, XJ P), (346, X5 P), (347, X6 P), (350, Yb P), (351, Yc P), (354, Yd P), (355, Ye P), (356, Yg P), (357, Yh P), (358, Yi P), (361, Yl P), (362, Ym P), (363, Yn P), (364, Yo P), (365, Yp P), (368, Ys P), (369, Yt P), (370, Yu P), (371, Yv P), (372, Yw P), (375, Yz P), (376, YB P), (377, YC P), (378, YD P), (379, YF P), (382, YJ P), (383, YK P), (384, YL P), (387, YS P), (388, YT P), (389, YW P), (390, YX P), (391, YZ P), (394, Y5 P), (395, Y6 P), (396, Y7 P), (397, Y8 P), (398, Y9 P), (401, Zd P), (402, Ze P), (403, Zf P), (404, Zg P), (405, Zh P), (408, Zk P), (409, Zm P), (410, Zo P), (411, Zq P), (412, Zr P), (415, Zv P), (416, Zw P), (417, Zx P), (418, Zy P), (419, Zz P), (422, ZF P), (423, ZG P), (424, ZJ P), (425, ZK P), (426, ZL P), (429, ZQ P), (430, ZR P), (431, ZV P), (432, ZW P), (433, ZX P), (28, Dq P), (22, Dh P), (60, DR P), (155, Kz P), (281, Wh P), (275, V7 P), (288, Wr P), (295, Wy P), (300, WM P), (307, W6 P), (312, Xb P), (317, Xg P), (324, Xn P), (331, Xw P), (338, XH P), (345, X4 P), (23, Di P), (24, Dj P), (25, Dk P), (26, Dm P), (27, zM P), (55, DG P), (56, DK P), (57, DN P), (58, DP P), (59, DQ P), (150, Ks P), (151, Ku P), (152, Kv P), (153, Kw P), (154, Ky P), (276, V8 P), (277, V9 P), (278, Wb P), (279, Wc P), (280, Wf P), (283, Wj P), (284, Wk P), (285, Wm P), (286, Wn P), (287, Wq P), (290, Wt P), (291, Wu P), (292, Wv P), (293, Ww P), (294, Wx P), (297, WD P), (298, WK P), (299, WL P), (302, WR P), (303, WT P), (304, WW P), (305, WY P), (306, W3 P), (309, W8 P), (310, W9 P), (311, Xa P), (314, Xd P), (315, Xe P), (316, Xf P), (319, Xi P), (320, Xj P), (321, Xk P), (322, Xl P), (323, Xm P), (326, Xp P), (327, Xq P), (328, Xr P), (329, Xu P), (330, Xv P), (333, Xy P), (334, Xz P), (335, XC P), (336, XD P), (337, XF P), (340, XM P), (341, XQ P), (342, XR P), (343, XS P), (344, X3 P)]
theorem hK (w : World) (os : OsState) : He.frG (HandSHeadRun.getT (SF w os)) as0 = KF w.params := by kernel_rfl
theorem hn (w : World) : (boot_heap w.params).objs.size = n0 := by kernel_rfl
theorem ha (w : World) : HandSHeadRun.bootAnn w = xR := by kernel_rfl
theorem run (w : World) (os : OsState) : ∃ M, M ≤ 200000 ∧ topRun treeTable PySem.Challenge.pw_givenback_k24_lasts_failures_and_ends w (boot_heap w.params).objs.size (HandSHeadRun.bootAnn w) M ⟨boot_heap w.params, #[], boot_drawn, boot_toks, os⟩ (topStub PySem.Challenge.pw_givenback_k24_lasts_failures_and_ends) = some (SF w os).abs := by
  have h1 := (HP.Piece.app (p2 w os) (HP.Piece.app (p3 w os) (HP.Piece.app (p4 w os) (HP.Piece.app (p5 w os) (HP.Piece.app (p6 w os) (HP.abY (env := env0) (b := nW) (by decide +kernel) (hf w os)))))))
  have h2 := HP.block_start (hs w os) h1
  rw [← hn w, ← ha w] at h2
  have e : HandSHeadRun.denQ HandSHeadRun.tabQ c0 = denote treeTable (.body nW env0) := by
    rw [← HandSHeadRun.denQ_eq, ← HandSHeadRun.tabQ_eq]
    rfl
  have h0 := hb w os
  rw [e] at h0
  exact ⟨_, by decide, HP.Dg.top h0 h2⟩
end Gi
end
noncomputable section
namespace Gi
open PySem PySem.W PyProof.Rows L2 dN
abbrev R : PySem.W.OpenRow := PySem.W.OpenLaw.row PySem.Challenge.rw_givenback_k24_lasts_failures_and_ends
abbrev hk : PySem.W.Hook := HP.abZ as0 fa0 tabs parts
def others : List PySem.Str := ((["is_name", "is_whole", "is_number", "is_outcome", "is_count", "is_part", "is_log_row", "doer_of", "check_told", "first_so", "ask_doing", "ask_begun", "ask_kill", "ask_late", "ask_nobody", "ask_got", "ask_given", "ask_landed", "ask_masked", "ask_opened"] : List PySem.Str) ++ (["ask_last", "ask_lasted", "ask_rescued", "ask_ended", "_law_cell_at", "_law_well", "_law_draw", "_law_one", "_law_word", "_law_can_fail", "_law_end_due", "_law_due", "_law_done", "_law_row", "_law_seen", "LETTERS", "LONGEST", "FORMS", "ON", "KILLED"] : List PySem.Str) ++ (["MOST_TASKS", "PLAIN_SIZE", "ASKING", "WorkError", "BadRun", "Broken", "Seen", "Watch"] : List PySem.Str))
abbrev Q : Program := PySem.W.view R.prog [54]
abbrev xt : Shared → Bool := fun s => PySem.W.xlAt Q [] s && PySem.W.recOk R.toRowW.records s
theorem agl (w : World) (os : OsState) : HandSHeadRun.looksF R.prog (PySem.W.boot_heap w.params) (SF w os).abs = true := by kernel_rfl
theorem ahJ (w : World) (os : OsState) : HandSHeadRun.seenQ Q others (importedModules R.prog.main.body) xt (SF w os).abs = PySem.W.openGood Q others := by kernel_rfl
theorem ahK (w : World) : GB.obsE fa0 [] tabs [] (KF w.params) = GB.valE [] tabs w := by kernel_rfl
theorem ak7 (w : World) : (pt0.map fun p => GB.obsE p.1 p.2.1 [] p.2.2 (KF w.params)) = GB.Vm pt0 w := by kernel_rfl
theorem agm (w : World) : (parts.map fun p => GB.obsE p.1 p.2.1 [] p.2.2 (KF w.params)) = GB.Vm parts w := ak7 w
theorem ends (w : World) (os : OsState) : ∃ s, HP.Ends R.prog Q others xt hk.obs hk.val 200000 w os s :=
  HP.aga (run w os) (agl w os) (ahJ w os) (HP.aex (hK w os) (ahK w) (agm w))
end Gi
end
section
open PySem PySem.W PySem.Calls PyProof.Rows
set_option maxHeartbeats 0 in
theorem hold0 (call : PySem.W.WalkO Gi.Q Gi.others (XL Gi.Q []) (Hook.says Gi.hk) (OpenRow.toRowW (OpenLaw.row PySem.Challenge.rw_givenback_k24_lasts_failures_and_ends)) (HandSHeadRun.topDef (OpenLaw.row PySem.Challenge.rw_givenback_k24_lasts_failures_and_ends).prog 54) [] fun f vs => PySem.call f vs) : PySem.Challenge.rw_givenback_k24_lasts_failures_and_ends.Holds := by
  w_on; o_law
  refine HP.head (r := OpenLaw.row PySem.Challenge.rw_givenback_k24_lasts_failures_and_ends) (q := Gi.Q) (H := Gi.hk) (M := 200000) (loose := Gi.others) (d := HandSHeadRun.topDef (OpenLaw.row PySem.Challenge.rw_givenback_k24_lasts_failures_and_ends).prog 54) (kwd := [])
    (by kernel_rfl) (fun s => by kernel_rfl) Gi.ends (by kernel_rfl) (by kernel_rfl) (by kernel_rfl) (by rfl) (by first | assumption | decide +kernel) (by decide +kernel) ⟨rfl, rfl, rfl, rfl, rfl, by decide +kernel⟩ ?hw call
  case hw => w_witness2
end
namespace PD
open PySem PySem.Spec PyProof.Rows L2
inductive D where
  | non | bl (b : Bool) | int (i : Int) | str (x : Str) | tup (ds : List D) | lst (ds : List D) | dW (ds : List D)
  | obj (c : Str) (fs : List (Str × D)) | ref (n : Nat) | glo (x : Str) | ty (n : String)
  deriving Inhabited
inductive Cell where
  | lst (ds : List D) | dict (kvs : List (Key × D)) | ins (c : Str) (fs : List (Str × D)) | dO (kvs : List (Key × D))
abbrev AH := List Cell
inductive Res (β : Type) where
  | ok (b : β) (h : AH) | exc (c : Str) (fs : List (Str × D)) (h : AH) | stuck
def Res.bind {β γ : Type} : Res β → (β → AH → Res γ) → Res γ
  | .ok b h, g => g b h
  | .exc c fs h, _ => .exc c fs h
  | .stuck, _ => .stuck
@[simp] theorem Res.tM {β γ : Type} {b : β} {h : AH} {g : β → AH → Res γ} : (Res.ok b h).bind g = g b h := rfl
@[simp] theorem Res.tO {β γ : Type} {c : Str} {fs : List (Str × D)} {h : AH} {g : β → AH → Res γ} : (Res.exc c fs h).bind g = .exc c fs h := rfl
@[simp] theorem Res.ajy {β γ : Type} {g : β → AH → Res γ} : (Res.stuck : Res β).bind g = .stuck := rfl
def BZ {β : Type} : Option (β × AH) → Res β
  | some p => .ok p.1 p.2
  | none => .stuck
@[simp] theorem tQ {β : Type} {p : β × AH} : BZ (some p) = .ok p.1 p.2 := rfl
@[simp] theorem ak8 {β : Type} : BZ (none : Option (β × AH)) = .stuck := rfl
abbrev En := List (Option D)
abbrev ME := En → AH → Res D
abbrev MT := En → AH → Res Bool
abbrev MA := En → AH → Res (List D)
inductive RS where
  | nx (e : En) (h : AH) | rt (d : D) (h : AH) | bk (e : En) (h : AH) | ct (e : En) (h : AH)
  | exc (c : Str) (fs : List (Str × D)) (e : En) (h : AH) | stuck
abbrev MS := En → AH → RS
abbrev MG := D → En → AH → Res En
def Res.st {β : Type} (e : En) : Res β → (β → AH → RS) → RS
  | .ok b h, g => g b h
  | .exc c fs h, _ => .exc c fs e h
  | .stuck, _ => .stuck
@[simp] theorem Res.xT {β : Type} {e : En} {b : β} {h : AH} {g : β → AH → RS} : (Res.ok b h).st e g = g b h := rfl
@[simp] theorem Res.yM {β : Type} {e : En} {c : Str} {fs : List (Str × D)} {h : AH} {g : β → AH → RS} : (Res.exc c fs h).st e g = .exc c fs e h := rfl
@[simp] theorem Res.ak9 {β : Type} {e : En} {g : β → AH → RS} : (Res.stuck : Res β).st e g = .stuck := rfl
def RS.seq : RS → (En → AH → RS) → RS
  | .nx e h, g => g e h
  | r, _ => r
@[simp] theorem RS.yN {e : En} {h : AH} {g : En → AH → RS} : (RS.nx e h).seq g = g e h := rfl
@[simp] theorem RS.yO {d : D} {h : AH} {g : En → AH → RS} : (RS.rt d h).seq g = .rt d h := rfl
@[simp] theorem RS.vH {c : Str} {fs : List (Str × D)} {e : En} {h : AH} {g : En → AH → RS} : (RS.exc c fs e h).seq g = .exc c fs e h := rfl
@[simp] theorem RS.akl {g : En → AH → RS} : RS.stuck.seq g = .stuck := rfl
@[simp] theorem RS.alw {e : En} {h : AH} {g : En → AH → RS} : (RS.bk e h).seq g = .bk e h := rfl
@[simp] theorem RS.alx {e : En} {h : AH} {g : En → AH → RS} : (RS.ct e h).seq g = .ct e h := rfl
def aq (i : Nat) : ME := fun e h => match e[i]? with
  | some (some d) => .ok d h
  | _ => .stuck
def eC (d : D) : ME := fun _ h => .ok d h
abbrev O1 := D → AH → Option (D × AH)
abbrev O2 := D → D → AH → Option (D × AH)
abbrev ON := List D → AH → Option (D × AH)
def eUn (o : O1) (fa : ME) : ME := fun e h => (fa e h).bind fun a h1 => BZ (o a h1)
def aQ (o : O2) (fa fb : ME) : ME := fun e h => (fa e h).bind fun a h1 => (fb e h1).bind fun b h2 => BZ (o a b h2)
def aN : MA := fun _ h => .ok [] h
def ak (fa : ME) (fr : MA) : MA := fun e h => (fa e h).bind fun a h1 => (fr e h1).bind fun r h2 => .ok (a :: r) h2
def bx (o : ON) (fa : MA) : ME := fun e h => (fa e h).bind fun as h1 => BZ (o as h1)
def truth : D → AH → Option Bool
  | .non, _ => some false
  | .bl b, _ => some b
  | .int i, _ => some (i != 0)
  | .str x, _ => if x.length ≤ 16777216 then some ((x.length : Int) != 0) else none
  | .lst ds, _ => some (!ds.isEmpty)
  | .dW ds, _ => some (!ds.isEmpty)
  | .tup ds, _ => some (!ds.isEmpty)
  | .ref n, h => match h[n]? with
    | some (.lst ds) => some (!ds.isEmpty)
    | some (.dict kvs) => some (!kvs.isEmpty)
    | _ => none
  | _, _ => none
def tTru (d : D) (h : AH) : Res Bool := match truth d h with
  | some b => .ok b h
  | none => .stuck
def jN (fa fb : ME) : ME := fun e h => (fa e h).bind fun a h1 => (tTru a h1).bind fun b h1 => if b = true then fb e h1 else .ok a h1
def Ay (fa fb : ME) : ME := fun e h => (fa e h).bind fun a h1 => (tTru a h1).bind fun b h1 => if b = true then .ok a h1 else fb e h1
def pN (fa : ME) : ME := fun e h => (fa e h).bind fun a h1 => (tTru a h1).bind fun b h1 => .ok (.bl (!b)) h1
def RQ (c : MT) (fa fb : ME) : ME := fun e h => (c e h).bind fun b h1 => if b = true then fa e h1 else fb e h1
def qL (o o' : O2) (fa fb fc : ME) : ME := fun e h => (fa e h).bind fun a h1 => (fb e h1).bind fun b h2 => (BZ (o a b h2)).bind fun z h3 => match z with
  | .bl k => if k = true then (fc e h3).bind fun c h4 => BZ (o' b c h4) else .ok (.bl false) h3
  | _ => .stuck
def mW (fa : ME) : MT := fun e h => (fa e h).bind fun a h1 => tTru a h1
def isB : D → AH → Res Bool
  | .bl b, h => .ok b h
  | _, _ => .stuck
@[simp] theorem yP {b : Bool} {h : AH} : isB (.bl b) h = .ok b h := rfl
def dh (fa : ME) : MT := fun e h => (fa e h).bind fun a h1 => isB a h1
def u5 (c d : MT) : MT := fun e h => (c e h).bind fun b h1 => if b = true then d e h1 else .ok false h1
def Ca (c d : MT) : MT := fun e h => (c e h).bind fun b h1 => if b = true then .ok true h1 else d e h1
def rE (c : MT) : MT := fun e h => (c e h).bind fun b h1 => .ok (!b) h1
def cD : MS := fun e h => .nx e h
def aZ (f g : MS) : MS := fun e h => (f e h).seq g
def mK (fa : ME) : MS := fun e h => (fa e h).st e fun _ h1 => .nx e h1
def bU (fa : ME) : MS := fun e h => (fa e h).st e fun d h1 => .rt d h1
def xU : MS := fun _ h => .rt .non h
def cX (c : MT) (f g : MS) : MS := fun e h => (c e h).st e fun b h1 => if b = true then f e h1 else g e h1
def bW (fa : ME) (g : MG) : MS := fun e h => (fa e h).st e fun d h1 => (g d e h1).st e fun e' h2 => .nx e' h2
def gName (i : Nat) : MG := fun d e h => .ok (e.set i (some d)) h
def gNil : List D → En → AH → Res En := fun ds e h => match ds with
  | [] => .ok e h
  | _ => .stuck
def gCons (g : MG) (r : List D → En → AH → Res En) : List D → En → AH → Res En := fun ds e h => match ds with
  | d :: ds => (g d e h).bind fun e' h1 => r ds e' h1
  | _ => .stuck
def forL (g : MG) (b : MS) : List D → En → AH → RS
  | [], e, h => .nx e h
  | d :: ds, e, h => (g d e h).st e fun e1 h1 => match b e1 h1 with
    | .nx e2 h2 => forL g b ds e2 h2
    | .ct e2 h2 => forL g b ds e2 h2
    | .bk e2 h2 => .nx e2 h2
    | r => r
def u6 (it : En → AH → Res (List D)) (g : MG) (b : MS) : MS := fun e h => (it e h).st e fun ds h1 => forL g b ds e h1
def lC (e : En) : List Nat → En
  | [] => e
  | i :: is => (lC e is).set i none
def cY (g : MG) (t : MT) (f : ME) (own : List Nat) (e : En) : List D → List D → AH → Res (List D)
  | acc, [], h => .ok acc h
  | acc, d :: ds, h => match g d (lC e own) h with
    | .ok e1 h1 => match t e1 h1 with
      | .ok true h2 => match f e1 h2 with
        | .ok x h3 => if acc.length < 16777216 then cY g t f own e (acc ++ [x]) ds h3 else .stuck
        | _ => .stuck
      | .ok false h2 => cY g t f own e acc ds h2
      | _ => .stuck
    | _ => .stuck
def uN (it : En → AH → Res (List D)) (g : MG) (t : MT) (f : ME) (own : List Nat) : ME := fun e h => (it e h).bind fun ds h1 => (cY g t f own e [] ds h1).bind fun r h2 => .ok (.lst r) h2
def nY : MT := fun _ h => .ok true h
def body (n N : Nat) (f : MS) : List D → AH → Res D := fun ds h => if ds.length = n then match f (ds.map some ++ List.replicate (N - n) none) h with
  | .nx _ h' => .ok .non h'
  | .rt d h' => .ok d h'
  | .exc c fs _ h' => .exc c fs h'
  | _ => .stuck
  else .stuck
def bf (n k : Nat) (m : List D → AH → Res D) (fa fk : MA) : ME := fun e h => (fa e h).bind fun ds h1 => (fk e h1).bind fun es h2 => if ds.length = n ∧ es.length = k then m (ds ++ es) h2 else .stuck
end PD
namespace PD
open PySem PySem.Spec PyProof.Rows L2
structure Al where
  c : List Addr
  r : List Addr
def Al.has (al : Al) (a : Addr) : Prop := a ∈ al.c ∨ a ∈ al.r
def Ls (H : Hp) (al : Al) (a : Addr) (vs : List V) : Prop := H a = some (.lst vs) ∧ ¬ al.has a
def Kl (K : PySem.W.Frag) (H : Hp) (al : Al) (a : Addr) (vs : List V) : Prop :=
  (∃ o, H a = some (.frz o (.lst vs)) ∧ ¬ al.has a) ∨
    ∃ (o : Obj) (its : Array Value) (n : Nat), K.lookup a = some o ∧ o.cls = .type "list" ∧ o.dict = none ∧ o.data = .seq its n ∧ its.size ≤ sizeLine ∧ Vals vs its.toList
theorem Ls.sq {K : PySem.W.Frag} {H : Hp} {al : Al} {a : Addr} {vs : List V} (h : Ls H al a vs) : SqL K H a vs := .inl (.inl h.1)
theorem Kl.sq {K : PySem.W.Frag} {H : Hp} {al : Al} {a : Addr} {vs : List V} (h : Kl K H al a vs) : SqL K H a vs := by
  rcases h with ⟨o, h, _⟩ | h
  · exact .inl (.inr ⟨o, h⟩)
  · exact .inr h
mutual
inductive Rp (K : PySem.W.Frag) (H : Hp) (al : Al) : D → V → Prop
  | non : Rp K H al .non .non
  | bl (b : Bool) : Rp K H al (.bl b) (.bl b)
  | int (i : Int) : Rp K H al (.int i) (.int i)
  | str (x : Str) : Rp K H al (.str x) (.str x)
  | ty (n : String) : Rp K H al (.ty n) (.ty n)
  | glo (x : Str) : Rp K H al (.glo x) (.ref (He.ga K x))
  | ref {n : Nat} {a : Addr} : al.c[n]? = some a → Rp K H al (.ref n) (.ref a)
  | tup {a : Addr} {ds : List D} {vs : List V} : SqT K H a vs → bD K H al ds vs → Rp K H al (.tup ds) (.ref a)
  | lst {a : Addr} {ds : List D} {vs : List V} : Ls H al a vs → bD K H al ds vs → Rp K H al (.lst ds) (.ref a)
  | dW {a : Addr} {ds : List D} {vs : List V} : Kl K H al a vs → bD K H al ds vs → Rp K H al (.dW ds) (.ref a)
  | obj {c : Str} {a dx : Addr} {fs : List (Str × D)} {gs : List (Str × V)} : H a = some (.ins (He.ga K c) dx gs) → ¬ al.has a → eE K H al fs gs → Rp K H al (.obj c fs) (.ref a)
inductive bD (K : PySem.W.Frag) (H : Hp) (al : Al) : List D → List V → Prop
  | nil : bD K H al [] []
  | cons {d : D} {v : V} {ds : List D} {vs : List V} : Rp K H al d v → bD K H al ds vs → bD K H al (d :: ds) (v :: vs)
inductive eE (K : PySem.W.Frag) (H : Hp) (al : Al) : List (Str × D) → List (Str × V) → Prop
  | nil : eE K H al [] []
  | cons {f : Str} {d : D} {v : V} {ds : List (Str × D)} {vs : List (Str × V)} : Rp K H al d v → eE K H al ds vs → eE K H al ((f, d) :: ds) ((f, v) :: vs)
end
structure Le (H : Hp) (al : Al) (H' : Hp) (aU : Al) : Prop where
  pre : ∃ t, aU.c = al.c ++ t
  v9 : aU.r = al.r
  keep : ∀ a o, H a = some o → ¬ al.has a → H' a = some o
  res : ∀ a ∈ al.r, H' a = H a
  new : ∀ a ∈ aU.c, a ∈ al.c ∨ H a = none
  lk : ∀ a o u, H a = some (.frz o u) → H' a = some (.frz o u)
section
variable {K : PySem.W.Frag} {H H' H2 : Hp} {al aU dU : Al} {a : Addr} {vs : List V}
theorem Le.refl : Le H al H al := ⟨⟨[], by simp⟩, rfl, fun _ _ h _ => h, fun _ _ => rfl, fun _ h => .inl h, fun _ _ _ h => h⟩
theorem Le.out (l : Le H al H' aU) {o : HO} (h : H a = some o) (n : ¬ al.has a) : ¬ aU.has a := fun z => by
  rcases z with z | z
  · rcases l.new a z with q | q
    · exact n (.inl q)
    · rw [h] at q
      cases q
  · rw [l.v9] at z
    exact n (.inr z)
theorem Le.trans (l : Le H al H' aU) (m : Le H' aU H2 dU) : Le H al H2 dU := by
  obtain ⟨t, ht⟩ := l.pre
  obtain ⟨u, hu⟩ := m.pre
  refine ⟨⟨t ++ u, by rw [hu, ht, List.append_assoc]⟩, m.v9.trans l.v9, fun a o e n => m.keep a o (l.keep a o e n) (l.out e n), fun a ha => (m.res a (by rw [l.v9]; exact ha)).trans (l.res a ha), fun a ha => ?_, fun a o u e => m.lk a o u (l.lk a o u e)⟩
  rcases m.new a ha with h | h
  · exact l.new a h
  · by_cases q : al.has a
    · rcases q with q | q
      · exact .inl q
      · rw [l.res a q] at h
        exact .inr h
    · cases e : H a with
      | none => exact .inr rfl
      | some o =>
        rw [l.keep a o e q] at h
        cases h
structure jk (H : Hp) (al : Al) (H' : Hp) (aU : Al) : Prop where
  pre : ∃ t, aU.c = al.c ++ t
  keep : ∀ a o, H a = some o → ¬ al.has a → H' a = some o
  out : ∀ a o, H a = some o → ¬ al.has a → ¬ aU.has a
  lk : ∀ a o u, H a = some (.frz o u) → H' a = some (.frz o u)
theorem Le.Cd (l : Le H al H' aU) : jk H al H' aU := ⟨l.pre, l.keep, fun _ _ h n => l.out h n, l.lk⟩
theorem jk.get (l : jk H al H' aU) {n : Nat} (h : al.c[n]? = some a) : aU.c[n]? = some a := by
  obtain ⟨t, ht⟩ := l.pre
  rw [ht, List.getElem?_append_left]
  · exact h
  · exact (List.getElem?_eq_some_iff.mp h).1
theorem Ls.dF (h : Ls H al a vs) (l : jk H al H' aU) : Ls H' aU a vs := ⟨l.keep _ _ h.1 h.2, l.out _ _ h.1 h.2⟩
theorem Kl.dF (h : Kl K H al a vs) (l : jk H al H' aU) : Kl K H' aU a vs := by
  rcases h with ⟨o, h, n⟩ | h
  · exact .inl ⟨o, l.keep _ _ h n, l.out _ _ h n⟩
  · exact .inr h
end
def fQ (K : PySem.W.Frag) (H : Hp) (al : Al) (a : Addr) : Cell → Prop
  | .lst ds => ∃ vs, H a = some (.lst vs) ∧ bD K H al ds vs
  | .dict kvs => ∃ ws, H a = some (.dK ws) ∧ ws.map (·.1) = kvs.map (·.1) ∧ bD K H al (kvs.map (·.2)) (ws.map (·.2))
  | .ins c fs => ∃ dx gs, H a = some (.ins (He.ga K c) dx gs) ∧ eE K H al fs gs
  | .dO kvs => ∃ o ws, H a = some (.frz o (.dK ws)) ∧ ws.map (·.1) = kvs.map (·.1) ∧ bD K H al (kvs.map (·.2)) (ws.map (·.2))
theorem fQ.some {K : PySem.W.Frag} {H : Hp} {al : Al} {a : Addr} {c : Cell} (h : fQ K H al a c) : ∃ o, H a = some o ∧ ∀ xs, o ≠ .tup xs := by
  cases c with
  | lst ds =>
    obtain ⟨vs, e, _⟩ := h
    exact ⟨_, e, fun _ z => nomatch z⟩
  | dict kvs =>
    obtain ⟨vs, e, _⟩ := h
    exact ⟨_, e, fun _ z => nomatch z⟩
  | ins c fs =>
    obtain ⟨dx, gs, e, _⟩ := h
    exact ⟨_, e, fun _ z => nomatch z⟩
  | dO kvs =>
    obtain ⟨o, ws, e, _⟩ := h
    exact ⟨_, e, fun _ z => nomatch z⟩
structure HR (K : PySem.W.Frag) (H : Hp) (al : Al) (h : AH) : Prop where
  nd : al.c.Nodup
  len : al.c.length = h.length
  dis : ∀ a ∈ al.c, a ∉ al.r
  rs : ∀ a ∈ al.r, ∃ vs, H a = some (.lst vs)
  at_ : ∀ (n : Nat) (c : Cell) (a : Addr), h[n]? = some c → al.c[n]? = some a → fQ K H al a c
section
variable {K : PySem.W.Frag} {H H' H2 : Hp} {al aU dU : Al} {a p : Addr} {vs : List V} {h h' : AH} {n : Nat} {c : Cell}
theorem HR.addr (r : HR K H al h) (e : h[n]? = some c) : ∃ a, al.c[n]? = some a ∧ fQ K H al a c := by
  have hl : n < al.c.length := by
    rw [r.len]
    exact (List.getElem?_eq_some_iff.mp e).1
  exact ⟨al.c[n], by simp [hl], r.at_ n c _ e (by simp [hl])⟩
theorem HR.cell (r : HR K H al h) (e : al.c[n]? = some a) : ∃ c, h[n]? = some c ∧ fQ K H al a c := by
  have hl : n < h.length := by
    rw [← r.len]
    exact (List.getElem?_eq_some_iff.mp e).1
  exact ⟨h[n], by simp [hl], r.at_ n _ a (by simp [hl]) e⟩
theorem HR.here (r : HR K H al h) (m : a ∈ al.c) : ∃ o, H a = some o ∧ ∀ xs, o ≠ .tup xs := by
  obtain ⟨n, e⟩ := List.getElem?_of_mem m
  obtain ⟨c, _, q⟩ := r.cell e
  exact q.some
theorem HR.adf (r : HR K H al h) {xs : List V} (e : Rd H a (.tup xs)) : ¬ al.has a := fun m => by
  rcases m with m | m
  · obtain ⟨n, e2⟩ := List.getElem?_of_mem m
    obtain ⟨c, _, q⟩ := r.cell e2
    cases c with
    | lst ds =>
      obtain ⟨vs, q, _⟩ := q
      rcases e with e | ⟨o, e⟩ <;> rw [q] at e <;> cases e
    | dict kvs =>
      obtain ⟨vs, q, _⟩ := q
      rcases e with e | ⟨o, e⟩ <;> rw [q] at e <;> cases e
    | ins c fs =>
      obtain ⟨dx, gs, q, _⟩ := q
      rcases e with e | ⟨o, e⟩ <;> rw [q] at e <;> cases e
    | dO kvs =>
      obtain ⟨o2, ws, q, _⟩ := q
      rcases e with e | ⟨o, e⟩ <;> rw [q] at e <;> cases e
  · obtain ⟨vs, q⟩ := r.rs a m
    rcases e with e | ⟨o, e⟩ <;> rw [q] at e <;> cases e
theorem Gp {xs : List V} (r : HR K H al h) (s : SqT K H a xs) (l : jk H al H' aU) : SqT K H' a xs := by
  rcases s with s | s
  · have n := r.adf s
    rcases s with s | ⟨o, s⟩
    · exact .inl (.inl (l.keep _ _ s n))
    · exact .inl (.inr ⟨o, l.keep _ _ s n⟩)
  · exact .inr s
mutual
theorem Rp.dF (r : HR K H al h) (l : jk H al H' aU) : ∀ {d : D} {v : V}, Rp K H al d v → Rp K H' aU d v
  | _, _, .non => .non
  | _, _, .bl b => .bl b
  | _, _, .int i => .int i
  | _, _, .str x => .str x
  | _, _, .ty n => .ty n
  | _, _, .glo x => .glo x
  | _, _, .ref e => .ref (l.get e)
  | _, _, .tup s q => .tup (Gp r s l) (bD.dF r l q)
  | _, _, .lst s q => .lst (s.dF l) (bD.dF r l q)
  | _, _, .dW s q => .dW (s.dF l) (bD.dF r l q)
  | _, _, .obj e n q => .obj (l.keep _ _ e n) (l.out _ _ e n) (eE.dF r l q)
theorem bD.dF (r : HR K H al h) (l : jk H al H' aU) : ∀ {ds : List D} {vs : List V}, bD K H al ds vs → bD K H' aU ds vs
  | _, _, .nil => .nil
  | _, _, .cons q qs => .cons (Rp.dF r l q) (bD.dF r l qs)
theorem eE.dF (r : HR K H al h) (l : jk H al H' aU) : ∀ {ds : List (Str × D)} {vs : List (Str × V)}, eE K H al ds vs → eE K H' aU ds vs
  | _, _, .nil => .nil
  | _, _, .cons q qs => .cons (Rp.dF r l q) (eE.dF r l qs)
end
theorem Rp.mono (r : HR K H al h) (l : Le H al H' aU) {d : D} {v : V} (q : Rp K H al d v) : Rp K H' aU d v := q.dF r l.Cd
theorem bD.mono (r : HR K H al h) (l : Le H al H' aU) {d : List D} {v : List V} (q : bD K H al d v) : bD K H' aU d v := q.dF r l.Cd
theorem eE.mono (r : HR K H al h) (l : Le H al H' aU) {d : List (Str × D)} {v : List (Str × V)} (q : eE K H al d v) : eE K H' aU d v := q.dF r l.Cd
theorem bD.length {ds : List D} : ∀ {vs : List V}, bD K H al ds vs → ds.length = vs.length := by
  induction ds with
  | nil => intro vs h; cases h; rfl
  | cons d ds ih => intro vs h; cases h with | cons _ q => simp [ih q]
theorem bD.get {ds : List D} {vs : List V} (q : bD K H al ds vs) {i : Nat} {d : D} (e : ds[i]? = some d) : ∃ v, vs[i]? = some v ∧ Rp K H al d v := by
  induction ds generalizing vs i with
  | nil => simp at e
  | cons x ds ih =>
    cases q with
    | cons q qs =>
      cases i with
      | zero => simp at e; subst e; exact ⟨_, rfl, q⟩
      | succ i => simpa using ih qs (by simpa using e)
theorem bD.get' {ds : List D} {vs : List V} (q : bD K H al ds vs) {i : Nat} {v : V} (e : vs[i]? = some v) : ∃ d, ds[i]? = some d ∧ Rp K H al d v := by
  induction ds generalizing vs i with
  | nil => cases q; simp at e
  | cons x ds ih =>
    cases q with
    | cons q qs =>
      cases i with
      | zero => simp at e; subst e; exact ⟨_, rfl, q⟩
      | succ i => simpa using ih qs (by simpa using e)
theorem bD.append {ds es : List D} {vs ws : List V} (q : bD K H al ds vs) (r : bD K H al es ws) : bD K H al (ds ++ es) (vs ++ ws) := by
  induction ds generalizing vs with
  | nil => cases q; exact r
  | cons d ds ih => cases q with | cons q qs => exact .cons q (ih qs)
theorem bD.set {ds : List D} {vs : List V} (q : bD K H al ds vs) {d : D} {v : V} (r : Rp K H al d v) (i : Nat) : bD K H al (ds.set i d) (vs.set i v) := by
  induction ds generalizing vs i with
  | nil => cases q; exact .nil
  | cons x ds ih =>
    cases q with
    | cons q qs =>
      cases i with
      | zero => exact .cons r qs
      | succ i => exact .cons q (ih qs i)
theorem bD.take {ds : List D} {vs : List V} (q : bD K H al ds vs) (n : Nat) : bD K H al (ds.take n) (vs.take n) := by
  induction ds generalizing vs n with
  | nil => cases q; simp; exact .nil
  | cons x ds ih =>
    cases q with
    | cons q qs =>
      cases n with
      | zero => exact .nil
      | succ n => exact .cons q (ih qs n)
theorem bD.drop {ds : List D} {vs : List V} (q : bD K H al ds vs) (n : Nat) : bD K H al (ds.drop n) (vs.drop n) := by
  induction ds generalizing vs n with
  | nil => cases q; simp; exact .nil
  | cons x ds ih =>
    cases q with
    | cons q qs =>
      cases n with
      | zero => exact .cons q qs
      | succ n => exact ih qs n
theorem fQ.dF (r : HR K H al h) (l : jk H al H' aU) (q : fQ K H al a c) (e : H' a = H a) : fQ K H' aU a c := by
  cases c with
  | lst ds =>
    obtain ⟨vs, z, q⟩ := q
    exact ⟨vs, e.trans z, q.dF r l⟩
  | dict kvs =>
    obtain ⟨ws, z, k, q⟩ := q
    exact ⟨ws, e.trans z, k, q.dF r l⟩
  | ins c fs =>
    obtain ⟨dx, gs, z, q⟩ := q
    exact ⟨dx, gs, e.trans z, q.dF r l⟩
  | dO kvs =>
    obtain ⟨o, ws, z, k, q⟩ := q
    exact ⟨o, ws, e.trans z, k, q.dF r l⟩
theorem fQ.mono (r : HR K H al h) (l : Le H al H' aU) (q : fQ K H al a c) (e : H' a = H a) : fQ K H' aU a c := q.dF r l.Cd e
theorem Le.same (r : HR K H al h) (s : Same H H') : Le H al H' al := ⟨⟨[], by simp⟩, rfl, fun a u q _ => s a u q, fun a ha => by
  obtain ⟨vs, e⟩ := r.rs a ha
  rw [e]
  exact s _ _ e, fun _ z => .inl z, fun a o u e => s _ _ e⟩
theorem HR.same (r : HR K H al h) (s : Same H H') : HR K H' al h := ⟨r.nd, r.len, r.dis, fun a ha => by
  obtain ⟨vs, e⟩ := r.rs a ha
  exact ⟨vs, s _ _ e⟩, fun n c a e1 e2 => by
  have q := r.at_ n c a e1 e2
  obtain ⟨o, z, _⟩ := q.some
  exact q.mono r (Le.same r s) ((s _ _ z).trans z.symm)⟩
theorem same_upd {o : HO} (e : H p = none) : Same H (upd H p o) := fun a u q => by
  rw [upd_ne (ne_of_none q e)]
  exact q
theorem Le.fresh {o : HO} (r : HR K H al h) (e : H p = none) : Le H al (upd H p o) al := Le.same r (same_upd e)
theorem HR.fresh {o : HO} (r : HR K H al h) (e : H p = none) : HR K (upd H p o) al h := r.same (same_upd e)
theorem HR.U5 (r : HR K H al h) (e : H p = none) : ¬ al.has p := fun m => by
  rcases m with m | m
  · obtain ⟨o, z, _⟩ := r.here m
    rw [e] at z
    cases z
  · obtain ⟨vs, z⟩ := r.rs p m
    rw [e] at z
    cases z
theorem HR.push {o : HO} (r : HR K H al h) (e : H p = none) (q : ∀ H' aU, Le H al H' aU → H' p = some o → fQ K H' aU p c) : HR K (upd H p o) ⟨al.c ++ [p], al.r⟩ (h ++ [c]) ∧ Le H al (upd H p o) ⟨al.c ++ [p], al.r⟩ := by
  have np := r.U5 e
  have l : Le H al (upd H p o) ⟨al.c ++ [p], al.r⟩ := ⟨⟨[p], rfl⟩, rfl, fun a u q _ => by
    rw [upd_ne (ne_of_none q e)]
    exact q, fun a ha => upd_ne fun z => np (.inr (z ▸ ha)), fun b hb => by
    rcases List.mem_append.mp hb with z | z
    · exact .inl z
    · cases List.mem_singleton.mp z
      exact .inr e, fun b o' u q => by
    rw [upd_ne (ne_of_none q e)]
    exact q⟩
  refine ⟨⟨?_, by simp [r.len], fun a ha => ?_, fun a ha => ?_, fun n c' a e1 e2 => ?_⟩, l⟩
  · rw [List.nodup_append]
    refine ⟨r.nd, by simp, fun x hx y hy => ?_⟩
    cases List.mem_singleton.mp hy
    intro z
    subst z
    exact np (.inl hx)
  · rcases List.mem_append.mp ha with z | z
    · exact r.dis a z
    · cases List.mem_singleton.mp z
      exact fun w => np (.inr w)
  · obtain ⟨vs, z⟩ := r.rs a ha
    exact ⟨vs, (l.res a ha).trans z⟩
  · have e2 : (al.c ++ [p])[n]? = some a := e2
    by_cases hn : n < h.length
    · rw [List.getElem?_append_left hn] at e1
      rw [List.getElem?_append_left (by rw [r.len]; exact hn)] at e2
      have q := r.at_ n c' a e1 e2
      obtain ⟨o, z, _⟩ := q.some
      exact q.mono r l (upd_ne (ne_of_none z e))
    · have hn' : n = h.length := by
        rw [List.getElem?_append_right (by omega)] at e1
        have := (List.getElem?_eq_some_iff.mp e1).1
        simp at this
        omega
      subst hn'
      simp at e1
      rw [← r.len] at e2
      simp at e2
      subst e1 e2
      exact q _ _ l upd_same
theorem HR.nofrz (r : HR K H al h) (e : al.c[n]? = some a) (hn : ∀ kvs, h[n]? ≠ some (.dO kvs)) : ∀ o u, H a ≠ some (.frz o u) := fun o u z => by
  obtain ⟨c, hc, q⟩ := r.cell e
  cases c with
  | lst ds =>
    obtain ⟨vs, q, _⟩ := q
    rw [z] at q
    cases q
  | dict kvs =>
    obtain ⟨vs, q, _⟩ := q
    rw [z] at q
    cases q
  | ins c fs =>
    obtain ⟨dx, gs, q, _⟩ := q
    rw [z] at q
    cases q
  | dO kvs => exact hn kvs hc
theorem HR.put {o : HO} (r : HR K H al h) (e : al.c[n]? = some a) (q : ∀ H' aU, Le H al H' aU → H' a = some o → fQ K H' aU a c) (hn : ∀ kvs, h[n]? ≠ some (.dO kvs) := by intro kvs w; simp_all) : HR K (upd H a o) al (h.set n c) ∧ Le H al (upd H a o) al := by
  have ha : a ∈ al.c := List.mem_of_getElem? e
  have l : Le H al (upd H a o) al := ⟨⟨[], by simp⟩, rfl, fun b u q n => by
    rw [upd_ne fun z => n (.inl (by rw [z]; exact ha))]
    exact q, fun b hb => upd_ne fun z => r.dis a ha (z ▸ hb), fun b hb => .inl hb, fun b o' u q => by
    have ne : b ≠ a := fun z => r.nofrz e hn o' u (by rw [← z]; exact q)
    rw [upd_ne ne]
    exact q⟩
  refine ⟨⟨r.nd, by simp [r.len], r.dis, fun b hb => ?_, fun m c' b e1 e2 => ?_⟩, l⟩
  · obtain ⟨vs, z⟩ := r.rs b hb
    exact ⟨vs, (l.res b hb).trans z⟩
  by_cases hm : n = m
  · subst hm
    rw [e] at e2
    cases e2
    have hn : n < h.length := by
      rw [← r.len]
      exact (List.getElem?_eq_some_iff.mp e).1
    rw [List.getElem?_set_self hn] at e1
    cases e1
    exact q _ _ l upd_same
  · rw [List.getElem?_set_ne hm] at e1
    have z := r.at_ m c' b e1 e2
    refine z.mono r l (upd_ne fun z2 => hm ?_)
    subst z2
    have l1 := (List.getElem?_eq_some_iff.mp e).1
    exact (List.getElem?_inj l1 r.nd).mp (e.trans e2.symm)
theorem jk.Z5 {o : HO} (e : a ∈ al.r) (hl : ∃ ws, H a = some (.lst ws)) : jk H al (upd H a o) al := ⟨⟨[], by simp⟩, fun b u q n => by
  have ne : b ≠ a := fun z => n (.inr (by rw [z]; exact e))
  rw [upd_ne ne]
  exact q, fun _ _ _ n => n, fun b o' u q => by
  have ne : b ≠ a := fun z => by
    obtain ⟨ws, hl⟩ := hl
    rw [z, hl] at q
    cases q
  rw [upd_ne ne]
  exact q⟩
theorem HR.Z5 {ws : List V} (r : HR K H al h) (e : a ∈ al.r) : HR K (upd H a (.lst ws)) al h := by
  refine ⟨r.nd, r.len, r.dis, fun b hb => ?_, fun n c b e1 e2 => ?_⟩
  · by_cases z : b = a
    · subst z
      exact ⟨ws, upd_same⟩
    · rw [upd_ne z]
      exact r.rs b hb
  · exact (r.at_ n c b e1 e2).dF r (jk.Z5 e (r.rs a e)) (upd_ne fun z => r.dis b (List.mem_of_getElem? e2) (z ▸ e))
theorem jk.hold {o : HO} (e : H p = none) : jk H al (upd H p o) ⟨al.c, p :: al.r⟩ := ⟨⟨[], by simp⟩, fun b u q _ => by
  rw [upd_ne (ne_of_none q e)]
  exact q, fun b u q n z => by
  rcases z with z | z
  · exact n (.inl z)
  · rcases List.mem_cons.mp z with z | z
    · exact ne_of_none q e z
    · exact n (.inr z), fun b o' u q => by
  rw [upd_ne (ne_of_none q e)]
  exact q⟩
theorem HR.hold {ws : List V} (r : HR K H al h) (e : H p = none) : HR K (upd H p (.lst ws)) ⟨al.c, p :: al.r⟩ h := by
  have np := r.U5 e
  refine ⟨r.nd, r.len, fun a ha z => ?_, fun b hb => ?_, fun n c b e1 e2 => ?_⟩
  · rcases List.mem_cons.mp z with z | z
    · exact np (.inl (z ▸ ha))
    · exact r.dis a ha z
  · rcases List.mem_cons.mp hb with z | z
    · subst z
      exact ⟨ws, upd_same⟩
    · have ne : b ≠ p := fun w => np (.inr (by rw [← w]; exact z))
      rw [upd_ne ne]
      exact r.rs b z
  · exact (r.at_ n c b e1 e2).dF r (jk.hold e) (upd_ne fun z => np (.inl (z ▸ List.mem_of_getElem? e2)))
theorem jk.free {q : Addr} : jk H ⟨al.c, q :: al.r⟩ H al := ⟨⟨[], by simp⟩, fun _ _ h _ => h, fun _ _ _ n z => n (z.elim .inl fun w => .inr (List.mem_cons_of_mem _ w)), fun _ _ _ h => h⟩
theorem HR.free {q : Addr} (r : HR K H ⟨al.c, q :: al.r⟩ h) : HR K H al h :=
  ⟨r.nd, r.len, fun a ha z => r.dis a ha (List.mem_cons_of_mem _ z), fun b hb => r.rs b (List.mem_cons_of_mem _ hb), fun n c b e1 e2 => (r.at_ n c b e1 e2).dF r jk.free rfl⟩
end
def bL (K : PySem.W.Frag) {β γ : Type} (R : Hp → Al → β → γ → Prop) (H : Hp) (al : Al) (E : XK) (Q : γ → Hp → Prop) : Res β → Prop
  | .ok d h' => ∀ v H' aU, Le H al H' aU → HR K H' aU h' → R H' aU d v → Q v H'
  | .exc c fs h' => ∀ a H' aU gs, Le H al H' aU → HR K H' aU h' → H' a = some (.xd gs) → eE K H' aU fs gs → E (.ref (He.ga K c)) (some a) H'
  | .stuck => False
abbrev qQ (K : PySem.W.Frag) : Hp → Al → XK → VK → Res D → Prop := bL K (fun H al d v => Rp K H al d v)
abbrev ajz (K : PySem.W.Frag) : Hp → Al → XK → (List V → Hp → Prop) → Res (List D) → Prop := bL K (fun H al d v => bD K H al d v)
abbrev afE (K : PySem.W.Frag) : Hp → Al → XK → (Bool → Hp → Prop) → Res Bool → Prop := bL K (fun _ _ b c => b = c)
def dJ (K : PySem.W.Frag) (H : Hp) (al : Al) (Q : VK) : Option (D × AH) → Prop
  | some p => ∀ v H' aU, Le H al H' aU → HR K H' aU p.2 → Rp K H' aU p.1 v → Q v H'
  | none => False
section
variable {K : PySem.W.Frag} {H H' : Hp} {al aU : Al} {E : XK} {Q : VK} {β γ : Type} {R : Hp → Al → β → γ → Prop}
theorem bL.mono {Q Q' : γ → Hp → Prop} {m : Res β} (p : bL K R H al E Q m) (i : ∀ v H', Q v H' → Q' v H') : bL K R H al E Q' m := by
  cases m with
  | ok d h => exact fun v H' aU l r q => i _ _ (p v H' aU l r q)
  | exc c fs h => exact p
  | stuck => exact p
theorem bL.le {Q : γ → Hp → Prop} {m : Res β} (p : bL K R H al E Q m) (l : Le H al H' aU) : bL K R H' aU E Q m := by
  cases m with
  | ok d h => exact fun v H2 dU l2 r q => p v H2 dU (l.trans l2) r q
  | exc c fs h => exact fun a H2 dU gs l2 r e q => p a H2 dU gs (l.trans l2) r e q
  | stuck => exact p
theorem bL.bind {δ ε : Type} {R' : Hp → Al → δ → ε → Prop} {Q : ε → Hp → Prop} {m : Res β} {g : β → AH → Res δ} (p : bL K R' H al E Q (m.bind g)) :
    bL K R H al E (fun v H1 => ∃ d bB h1, Le H al H1 bB ∧ HR K H1 bB h1 ∧ R H1 bB d v ∧ bL K R' H1 bB E Q (g d h1)) m := by
  cases m with
  | ok d h => exact fun v H' aU l r q => ⟨d, aU, h, l, r, q, bL.le p l⟩
  | exc c fs h => exact p
  | stuck => exact p
theorem dJ.of {m : Option (D × AH)} (p : qQ K H al E Q (BZ m)) : dJ K H al Q m := by
  cases m with
  | none => exact p
  | some q => exact p
theorem dJ.le {m : Option (D × AH)} (p : dJ K H al Q m) (l : Le H al H' aU) : dJ K H' aU Q m := by
  cases m with
  | none => exact p
  | some q => exact fun v H2 dU l2 r q => p v H2 dU (l.trans l2) r q
end
def iQ (K : PySem.W.Frag) (H : Hp) (al : Al) (e : En) (st : L2.St) : Prop := e.length = st.length ∧ ∀ (i : Nat) (d : D), e[i]? = some (some d) → ∃ v, st[i]? = some (some v) ∧ Rp K H al d v
theorem iQ.dF {K : PySem.W.Frag} {H H' : Hp} {al aU : Al} {e : En} {st : L2.St} {h : AH} (r : HR K H al h) (l : jk H al H' aU) (q : iQ K H al e st) : iQ K H' aU e st := ⟨q.1, fun i d z => by
  obtain ⟨v, e1, e2⟩ := q.2 i d z
  exact ⟨v, e1, e2.dF r l⟩⟩
theorem iQ.mono {K : PySem.W.Frag} {H H' : Hp} {al aU : Al} {e : En} {st : L2.St} {h : AH} (r : HR K H al h) (l : Le H al H' aU) (q : iQ K H al e st) : iQ K H' aU e st := q.dF r l.Cd
theorem iQ.set {K : PySem.W.Frag} {H : Hp} {al : Al} {e : En} {st : L2.St} {d : D} {v : V} (q : iQ K H al e st) (r : Rp K H al d v) (i : Nat) : iQ K H al (e.set i (some d)) (st.set i (some v)) := by
  refine ⟨by simp [q.1], fun j d' z => ?_⟩
  by_cases hj : i = j
  · subst hj
    by_cases hl : i < e.length
    · rw [List.getElem?_set_self hl] at z
      cases z
      exact ⟨v, by rw [List.getElem?_set_self (by rw [← q.1]; exact hl)], r⟩
    · rw [List.getElem?_eq_none (by simp; omega)] at z
      cases z
  · rw [List.getElem?_set_ne hj] at z ⊢
    exact q.2 j d' z
def rd (K : PySem.W.Frag) (W : WX) (f : ME) : TE := fun st H Q => ∃ e al h, HR K H al h ∧ iQ K H al e st ∧ qQ K H al (fun c d H' => W c d st H') Q (f e h)
def pO (K : PySem.W.Frag) (W : WX) (f : MT) : TT := fun st H Q => ∃ e al h, HR K H al h ∧ iQ K H al e st ∧ afE K H al (fun c d H' => W c d st H') Q (f e h)
def mj (K : PySem.W.Frag) (W : WX) (f : MA) : TA := fun st H Q => ∃ e al h, HR K H al h ∧ iQ K H al e st ∧ ajz K H al (fun c d H' => W c d st H') Q (f e h)
def lD (K : PySem.W.Frag) (W : WX) (H : Hp) (al : Al) (N : Ends) : RS → Prop
  | .nx e h' => ∀ st H' aU, Le H al H' aU → HR K H' aU h' → iQ K H' aU e st → N.nx st H'
  | .bk e h' => ∀ st H' aU, Le H al H' aU → HR K H' aU h' → iQ K H' aU e st → N.bk st H'
  | .ct e h' => ∀ st H' aU, Le H al H' aU → HR K H' aU h' → iQ K H' aU e st → N.ct st H'
  | .rt d h' => ∀ v H' aU, Le H al H' aU → HR K H' aU h' → Rp K H' aU d v → N.rt v H'
  | .exc c fs e h' => ∀ a st H' aU gs, Le H al H' aU → HR K H' aU h' → iQ K H' aU e st → H' a = some (.xd gs) → eE K H' aU fs gs → W (.ref (He.ga K c)) (some a) st H'
  | .stuck => False
def lu (K : PySem.W.Frag) (W : WX) (f : MS) : TS := fun N st H => ∃ e al h, HR K H al h ∧ iQ K H al e st ∧ lD K W H al N (f e h)
def Ce (K : PySem.W.Frag) (W : WX) (g : MG) : TG := fun v st H Q => ∃ d e al h, HR K H al h ∧ iQ K H al e st ∧ Rp K H al d v ∧
  bL K (fun H al e st => iQ K H al e st) H al (fun c d H' => W c d st H') Q (g d e h)
def Cg (K : PySem.W.Frag) (f : List D → AH → Res D) : Sp := fun vs H Q E => ∃ ds al h, HR K H al h ∧ bD K H al ds vs ∧ qQ K H al E Q (f ds h)
section
variable {X : Cx} {e : Expr} {st : Stmt} {sts : List Stmt}
theorem _root_.L2.PE.weak {t t' : TE} (h : PE X e t) (i : ∀ σ H Q, t' σ H Q → t σ H Q) : PE X e t' := ⟨fun pins s σ H Q I q => h.run pins s σ H Q I (i _ _ _ q)⟩
theorem _root_.L2.PT.weak {t t' : TT} (h : PT X e t) (i : ∀ σ H Q, t' σ H Q → t σ H Q) : PT X e t' := ⟨fun pins s σ H Q I q => h.run pins s σ H Q I (i _ _ _ q)⟩
theorem _root_.L2.PW.weak {t t' : TT} (h : PW X e t) (i : ∀ σ H Q, t' σ H Q → t σ H Q) : PW X e t' := ⟨fun wh pins s σ H Q I q => h.run wh pins s σ H Q I (i _ _ _ q)⟩
theorem _root_.L2.PA.weak {es : List Expr} {t t' : TA} (h : PA X es t) (i : ∀ σ H Q, t' σ H Q → t σ H Q) : PA X es t' := ⟨fun pos pins s σ H Q I q => h.run pos pins s σ H Q I (i _ _ _ q)⟩
theorem _root_.L2.PK.weak {es : List Keyword} {t t' : TA} (h : PK X es t) (i : ∀ σ H Q, t' σ H Q → t σ H Q) : PK X es t' := ⟨fun pos pins s σ H Q I q => h.run pos pins s σ H Q I (i _ _ _ q)⟩
theorem _root_.L2.PS.weak {t t' : TS} (h : PS X st t) (i : ∀ D σ H, t' D σ H → t D σ H) : PS X st t' := ⟨fun pins s σ H D I q => h.run pins s σ H D I (i _ _ _ q)⟩
theorem _root_.L2.PSs.weak {t t' : TS} (h : PSs X sts t) (i : ∀ D σ H, t' D σ H → t D σ H) : PSs X sts t' := ⟨fun pins s σ H D I q => h.run pins s σ H D I (i _ _ _ q)⟩
theorem _root_.L2.PG.weak {t t' : TG} (h : PG X e t) (i : ∀ v σ H Q, t' v σ H Q → t v σ H Q) : PG X e t' := ⟨fun pins s σ H v u Q I r q => h.run pins s σ H v u Q I r (i _ _ _ _ q)⟩
theorem _root_.L2.PI.weak {tg : Expr} {t t' : TI} (h : PI X tg e t) (i : ∀ σ H Q, t' σ H Q → t σ H Q) : PI X tg e t' := ⟨fun pins s σ H Q I q => h.run pins s σ H Q I (i _ _ _ q)⟩
theorem _root_.L2.OpR.weak {f : Value → Value → Sem Value} {r r' : R2} (h : OpR X f r) (i : ∀ x y H Q, r' x y H Q → r x y H Q) : OpR X f r' := fun pins s σ H x y v u Q I rx ry q => h pins s σ H x y v u Q I rx ry (i _ _ _ _ q)
end
end PD
namespace PD
open PySem PySem.Spec PyProof.Rows L2
section
variable {X : Cx} {W : WX} {a b c e : Expr} {es : List Expr} {fa fb fc : ME} {fr : MA} {pos p1 p2 : Pos} {i : Nat} {x : Str}
theorem ao (hN : X.N[i]? = some x) (hv : Vis X.env.scope x) (hd : (x == ("__debug__" : Str)) = false := by decide) (hcd : (x == ("__classdict__" : Str)) = false := by decide) : PE X (.Name x pos) (rd X.K W (aq i)) :=
  (pe_var hN hv hd hcd).weak fun σ H Q ⟨e, al, h, r, re, p⟩ => by
    unfold aq at p
    split at p
    · rename_i d hd
      obtain ⟨v, hv, q⟩ := re.2 i d hd
      exact ⟨v, hv, p v H al .refl r q⟩
    · exact p.elim
theorem RW {d : D} {v : V} (h : PE X e (tC v)) (q : ∀ H al, Rp X.K H al d v) : PE X e (rd X.K W (eC d)) :=
  h.weak fun σ H Q ⟨e, al, h, r, re, p⟩ => p v H al .refl r (q H al)
theorem aR {i : Int} {j} : PE X (.Constant (.int i) j pos) (rd X.K W (eC (.int i))) := RW pe_int fun _ _ => .int i
theorem rY {b : Bool} {j} : PE X (.Constant (.bool b) j pos) (rd X.K W (eC (.bl b))) := RW pe_bl fun _ _ => .bl b
theorem jm {j} : PE X (.Constant .none j pos) (rd X.K W (eC .non)) := RW pe_non fun _ _ => .non
theorem aP {x : Str} {j} : PE X (.Constant (.str x) j pos) (rd X.K W (eC (.str x))) := RW pe_str fun _ _ => .str x
theorem adg {i : Int} {t : Tok} (hg : Gl X x) (hm : X.mg x = some (.int i t)) (hd : (x == ("__debug__" : Str)) = false := by decide) : PE X (.Name x pos) (rd X.K W (eC (.int i))) :=
  RW (pe_glob (v := .int i) hg hm ⟨t, rfl⟩ hd) fun _ _ => .int i
theorem ahL {s : Str} {t : Tok} (hg : Gl X x) (hm : X.mg x = some (.str s t)) (hd : (x == ("__debug__" : Str)) = false := by decide) : PE X (.Name x pos) (rd X.K W (eC (.str s))) :=
  RW (pe_glob (v := .str s) hg hm ⟨t, rfl⟩ hd) fun _ _ => .str s
theorem oJ {d : D} (hg : Gl X x) (hm : X.mg x = some (.ref (He.ga X.K x))) (q : ∀ H al, Rp X.K H al d (.ref (He.ga X.K x))) (hd : (x == ("__debug__" : Str)) = false := by decide) : PE X (.Name x pos) (rd X.K W (eC d)) :=
  RW (pe_glob (v := .ref (He.ga X.K x)) hg hm rfl hd) q
theorem Q5 {n : String} (hg : Gl X x) (hm : X.mg x = none) (hv : bootBuiltins x = some (.type n)) (hn : x ≠ "__name__" := by decide) (hd : (x == ("__debug__" : Str)) = false := by decide) : PE X (.Name x pos) (rd X.K W (eC (.ty n))) :=
  RW (pe_bltn (v := .ty n) hg hm hv rfl hn hd) fun _ _ => .ty n
def r1 (K : PySem.W.Frag) (o : O1) : V → Hp → VK → Prop := fun x H Q => ∃ d al h, HR K H al h ∧ Rp K H al d x ∧ dJ K H al Q (o d h)
def r2 (K : PySem.W.Frag) (o : O2) : R2 := fun x y H Q => ∃ d e al h, HR K H al h ∧ Rp K H al d x ∧ Rp K H al e y ∧ dJ K H al Q (o d e h)
def rN (K : PySem.W.Frag) (o : ON) : List V → Hp → VK → Prop := fun xs H Q => ∃ ds al h, HR K H al h ∧ bD K H al ds xs ∧ dJ K H al Q (o ds h)
theorem Pq {o : O2} {σ : L2.St} {H : Hp} {Q : VK} {K : PySem.W.Frag} : rd K W (aQ o fa fb) σ H Q → tOp (r2 K o) (rd K W fa) (rd K W fb) σ H Q := by
  rintro ⟨e, al, h, r, re, p⟩
  refine ⟨e, al, h, r, re, (bL.bind p).mono ?_⟩
  rintro v H1 ⟨d, bB, h1, l, r1, q, p1⟩
  refine ⟨e, bB, h1, r1, re.mono r l, (bL.bind p1).mono ?_⟩
  rintro u H2 ⟨d2, dU, h2, l2, r2, q2, p2⟩
  exact ⟨d, d2, dU, h2, r2, q.mono r1 l2, q2, dJ.of p2⟩
theorem fL {op : Operator} {o : O2} (ho : OpR X (binaryOp op) (r2 X.K o)) (ha : PE X a (rd X.K W fa)) (hb : PE X b (rd X.K W fb)) : PE X (.BinOp a op b pos) (rd X.K W (aQ o fa fb)) :=
  (pe_op ho ha hb).weak fun σ H Q h => Pq h
theorem dR {op : CmpOp} {o : O2} (ho : OpR X (compareOp op) (r2 X.K o)) (ha : PE X a (rd X.K W fa)) (hb : PE X b (rd X.K W fb)) (hm : behindInMarks op b = false) : PE X (.Compare a [op] [b] pos) (rd X.K W (aQ o fa fb)) :=
  (pe_cmpR ho ha hb hm).weak fun σ H Q h => Pq h
theorem bQ {op : CmpOp} {o : O2} (ho : OpR X (compareOp op) (r2 X.K o)) (ha : PE X a (rd X.K W fa)) (hb : PE X b (rd X.K W fb)) (hm : behindInMarks op b = false) : PT X (.Compare a [op] [b] pos) (pO X.K W (dh (aQ o fa fb))) :=
  (pt_cmpR ho ha hb hm).weak fun σ H Q ⟨e, al, h, r, re, p⟩ => by
    refine Pq (W := W) ⟨e, al, h, r, re, (bL.bind p).mono ?_⟩
    rintro v H1 ⟨d, bB, h1, l, r1, q, p1⟩
    cases q with
    | bl k => exact ⟨k, rfl, p1 _ _ _ .refl r1 rfl⟩
    | _ => exact p1.elim
theorem Z6 {K : PySem.W.Frag} {H : Hp} {al : Al} {h : AH} {d : D} {v : V} {b : Bool} (r : HR K H al h) (q : Rp K H al d v) (e : truth d h = some b) : TruV K v H b := by
  have hs : sizeLine = 16777216 := sizeLine_eq
  cases q with
  | non => cases e; rfl
  | bl k => cases e; rfl
  | int i => cases e; rfl
  | str x =>
    simp only [truth] at e
    split at e
    · cases e
      rename_i hz
      exact ⟨by rw [hs]; exact hz, rfl⟩
    · cases e
  | ty n => cases e
  | glo x => cases e
  | tup s q =>
    cases e
    exact .inr (.inl ⟨_, s, by cases q <;> rfl⟩)
  | lst s q =>
    cases e
    exact .inl ⟨_, s.sq, by cases q <;> rfl⟩
  | dW s q =>
    cases e
    exact .inl ⟨_, s.sq, by cases q <;> rfl⟩
  | obj _ _ _ => cases e
  | ref z =>
    obtain ⟨c, hc, ok⟩ := r.cell z
    simp only [truth, hc] at e
    cases c with
    | lst ds =>
      cases e
      obtain ⟨vs, z, q⟩ := ok
      exact .inl ⟨vs, SqL.of z, by cases q <;> rfl⟩
    | dict kvs =>
      cases e
      obtain ⟨ws, z, k, q⟩ := ok
      refine .inr (.inr ⟨ws, z, ?_⟩)
      have := congrArg List.length k
      simp only [List.length_map] at this
      cases kvs <;> cases ws <;> simp_all
    | ins c fs => cases e
    | dO kvs => cases e
theorem Q6 {K : PySem.W.Frag} {H : Hp} {al : Al} {h : AH} {d : D} {v : V} {E : XK} {β γ : Type} {R : Hp → Al → β → γ → Prop} {Q : γ → Hp → Prop} {g : Bool → AH → Res β} (r : HR K H al h) (q : Rp K H al d v) (p : bL K R H al E Q ((tTru d h).bind g)) :
    ∃ k, TruV K v H k ∧ bL K R H al E Q (g k h) := by
  unfold tTru at p
  cases e : truth d h with
  | none =>
    rw [e] at p
    exact p.elim
  | some b =>
    rw [e] at p
    exact ⟨b, Z6 r q e, p⟩
theorem qR (ha : PE X a (rd X.K W fa)) (he : ∀ whole, isTrue a X.env whole = (do let v ← whole; standAt a.pos; holding [v] (truthy v))) : PT X a (pO X.K W (mW fa)) :=
  (pt_truth ha he).weak fun σ H Q ⟨e, al, h, r, re, p⟩ => by
    refine ⟨e, al, h, r, re, (bL.bind p).mono ?_⟩
    rintro v H1 ⟨d, bB, h1, l, r1, q, p1⟩
    unfold tTru at p1
    cases e : truth d h1 with
    | none =>
      rw [e] at p1
      exact p1.elim
    | some b =>
      rw [e] at p1
      exact ⟨b, Z6 r1 q e, p1 _ _ _ .refl r1 rfl⟩
variable {rest : List Expr}
theorem jh {op} (ha : PE X a (rd X.K W fa)) : PE X (.BoolOp op [a] pos) (rd X.K W fa) := pe_one ha
theorem lE (ha : PE X a (rd X.K W fa)) (hb : PE X (.BoolOp .And (b :: rest) pos) (rd X.K W fb)) : PE X (.BoolOp .And (a :: b :: rest) pos) (rd X.K W (jN fa fb)) :=
  (pe_andT ha hb).weak fun σ H Q ⟨e, al, h, r, re, p⟩ => by
    refine ⟨e, al, h, r, re, (bL.bind p).mono ?_⟩
    rintro v H1 ⟨d, bB, h1, l, r1, q, p1⟩
    obtain ⟨k, t, p2⟩ := Q6 r1 q p1
    refine ⟨k, t, ?_⟩
    cases k with
    | true => exact ⟨e, bB, h1, r1, re.mono r l, p2⟩
    | false => exact p2 _ _ _ .refl r1 q
theorem Z7 (ha : PE X a (rd X.K W fa)) (hb : PE X (.BoolOp .Or (b :: rest) pos) (rd X.K W fb)) : PE X (.BoolOp .Or (a :: b :: rest) pos) (rd X.K W (Ay fa fb)) :=
  (pe_orT ha hb).weak fun σ H Q ⟨e, al, h, r, re, p⟩ => by
    refine ⟨e, al, h, r, re, (bL.bind p).mono ?_⟩
    rintro v H1 ⟨d, bB, h1, l, r1, q, p1⟩
    obtain ⟨k, t, p2⟩ := Q6 r1 q p1
    refine ⟨k, t, ?_⟩
    cases k with
    | false => exact ⟨e, bB, h1, r1, re.mono r l, p2⟩
    | true => exact p2 _ _ _ .refl r1 q
theorem uE (ha : PE X a (rd X.K W fa)) : PE X (.UnaryOp .Not a pos) (rd X.K W (pN fa)) :=
  (pe_notT ha).weak fun σ H Q ⟨e, al, h, r, re, p⟩ => by
    refine ⟨e, al, h, r, re, (bL.bind p).mono ?_⟩
    rintro v H1 ⟨d, bB, h1, l, r1, q, p1⟩
    obtain ⟨k, t, p2⟩ := Q6 r1 q p1
    exact ⟨k, t, p2 _ _ _ .refl r1 (.bl _)⟩
variable {ta tb : MT}
theorem U6 {K : PySem.W.Frag} {H : Hp} {al : Al} {E : XK} {β γ : Type} {R : Hp → Al → β → γ → Prop} {Q : γ → Hp → Prop} {m : Res Bool} {g : Bool → AH → Res β} (p : bL K R H al E Q (m.bind g)) :
    afE K H al E (fun b H1 => ∃ bB h1, Le H al H1 bB ∧ HR K H1 bB h1 ∧ bL K R H1 bB E Q (g b h1)) m := (bL.bind p).mono fun b H1 ⟨d, bB, h1, l, r, q, p1⟩ => by
  subst q
  exact ⟨bB, h1, l, r, p1⟩
theorem Ci (ha : PT X a (pO X.K W ta)) : PW X (.BoolOp .And [a] pos) (pO X.K W ta) := pw_and1 ha
theorem ab4 (ha : PT X a (pO X.K W ta)) : PW X (.BoolOp .Or [a] pos) (pO X.K W ta) := pw_or1 ha
theorem Pr (ha : PT X a (pO X.K W ta)) (hb : PW X (.BoolOp .And (b :: rest) pos) (pO X.K W tb)) : PW X (.BoolOp .And (a :: b :: rest) pos) (pO X.K W (u5 ta tb)) :=
  (pw_and ha hb).weak fun σ H Q ⟨e, al, h, r, re, p⟩ => by
    refine ⟨e, al, h, r, re, (U6 p).mono ?_⟩
    rintro v H1 ⟨bB, h1, l, r1, p1⟩
    cases v with
    | true => exact ⟨e, bB, h1, r1, re.mono r l, p1⟩
    | false => exact p1 _ _ _ .refl r1 rfl
theorem ab5 (ha : PT X a (pO X.K W ta)) (hb : PW X (.BoolOp .Or (b :: rest) pos) (pO X.K W tb)) : PW X (.BoolOp .Or (a :: b :: rest) pos) (pO X.K W (Ca ta tb)) :=
  (pw_or ha hb).weak fun σ H Q ⟨e, al, h, r, re, p⟩ => by
    refine ⟨e, al, h, r, re, (U6 p).mono ?_⟩
    rintro v H1 ⟨bB, h1, l, r1, p1⟩
    cases v with
    | false => exact ⟨e, bB, h1, r1, re.mono r l, p1⟩
    | true => exact p1 _ _ _ .refl r1 rfl
theorem xV (ha : PT X a (pO X.K W ta)) : PT X (.UnaryOp .Not a pos) (pO X.K W (rE ta)) :=
  (pt_not ha).weak fun σ H Q ⟨e, al, h, r, re, p⟩ => by
    refine ⟨e, al, h, r, re, (U6 p).mono ?_⟩
    rintro v H1 ⟨bB, h1, l, r1, p1⟩
    exact p1 _ _ _ .refl r1 rfl
theorem ala (hc : PT X c (pO X.K W ta)) (ha : PE X a (rd X.K W fa)) (hb : PE X b (rd X.K W fb)) : PE X (.IfExp c a b pos) (rd X.K W (RQ ta fa fb)) :=
  (pe_ifExp hc ha hb).weak fun σ H Q ⟨e, al, h, r, re, p⟩ => by
    refine ⟨e, al, h, r, re, (U6 p).mono ?_⟩
    rintro v H1 ⟨bB, h1, l, r1, p1⟩
    cases v with
    | true => exact ⟨e, bB, h1, r1, re.mono r l, p1⟩
    | false => exact ⟨e, bB, h1, r1, re.mono r l, p1⟩
theorem aO : PA X [] (mj X.K W aN) := pa_nil.weak fun σ H Q ⟨e, al, h, r, re, p⟩ => p [] H al .refl r .nil
theorem afF {σ : L2.St} {H : Hp} {Q : List V → Hp → Prop} {K : PySem.W.Frag} : mj K W (ak fa fr) σ H Q → tCons (rd K W fa) (mj K W fr) σ H Q := by
  rintro ⟨e, al, h, r, re, p⟩
  refine ⟨e, al, h, r, re, (bL.bind p).mono ?_⟩
  rintro v H1 ⟨d, bB, h1, l, r1, q, p1⟩
  refine ⟨e, bB, h1, r1, re.mono r l, (bL.bind p1).mono ?_⟩
  rintro vs H2 ⟨ds, dU, h2, l2, r2, q2, p2⟩
  exact p2 _ _ _ .refl r2 (.cons (q.mono r1 l2) q2)
theorem aj (ha : PE X e (rd X.K W fa)) (hr : PA X es (mj X.K W fr)) (hs : starEach (e :: es) X.env = (false, eval e X.env) :: starEach es X.env := by rfl) : PA X (e :: es) (mj X.K W (ak fa fr)) :=
  (pa_cons ha hr hs).weak fun σ H Q h => afF h
theorem afG : PK X [] (mj X.K W aN) := pk_nil.weak fun σ H Q ⟨e, al, h, r, re, p⟩ => p [] H al .refl r .nil
theorem Pu {nm : Option Str} {kpos : Pos} {kws : List Keyword} (ha : PE X e (rd X.K W fa)) (hr : PK X kws (mj X.K W fr)) : PK X (⟨nm, e, kpos⟩ :: kws) (mj X.K W (ak fa fr)) :=
  (pk_cons ha hr).weak fun σ H Q h => afF h
def bM : ON := fun ds h => if ds.length ≤ 16777216 then some (.tup ds, h) else none
def cW : ON := fun ds h => if ds.length ≤ 16777216 then some (.lst ds, h) else none
def jA : ON := fun ds h => if ds.length ≤ 16777216 then some (.ref h.length, h ++ [.lst ds]) else none
section
variable {K : PySem.W.Frag} {H : Hp} {al : Al} {h : AH} {Q : VK} {ds : List D} {vs : List V} {p : Addr}
theorem dJ.Px (r : HR K H al h) (q : bD K H al ds vs) (po : dJ K H al Q (some (.tup ds, h))) (n : H p = none) : Q (.ref p) (upd H p (.tup vs)) :=
  po _ _ _ (Le.fresh r n) (r.fresh n) (.tup (SqT.of upd_same) (q.mono r (Le.fresh r n)))
theorem dJ.rZ (r : HR K H al h) (q : bD K H al ds vs) (po : dJ K H al Q (some (.lst ds, h))) (n : H p = none) : Q (.ref p) (upd H p (.lst vs)) :=
  po _ _ _ (Le.fresh r n) (r.fresh n) (.lst ⟨upd_same, r.U5 n⟩ (q.mono r (Le.fresh r n)))
theorem dJ.abr (r : HR K H al h) (q : bD K H al ds vs) (po : dJ K H al Q (some (.ref h.length, h ++ [.lst ds]))) (n : H p = none) : Q (.ref p) (upd H p (.lst vs)) := by
  obtain ⟨r', l⟩ := r.push (o := .lst vs) (c := .lst ds) n fun H' aU l e => ⟨vs, e, q.mono r l⟩
  exact po _ _ _ l r' (.ref (by rw [← r.len]; simp))
theorem adh (r : HR K H al h) (q : bD K H al ds vs) (po : dJ K H al Q (bM ds h)) : vs.length ≤ sizeLine ∧ ∀ p, H p = none → Q (.ref p) (upd H p (.tup vs)) := by
  unfold bM at po
  split at po
  · rename_i hl
    exact ⟨by rw [← q.length, sizeLine_eq]; exact hl, fun p n => po.Px r q n⟩
  · exact po.elim
theorem adi (r : HR K H al h) (q : bD K H al ds vs) (po : dJ K H al Q (cW ds h)) : vs.length ≤ sizeLine ∧ ∀ p, H p = none → Q (.ref p) (upd H p (.lst vs)) := by
  unfold cW at po
  split at po
  · rename_i hl
    exact ⟨by rw [← q.length, sizeLine_eq]; exact hl, fun p n => po.rZ r q n⟩
  · exact po.elim
theorem ab6 (r : HR K H al h) (q : bD K H al ds vs) (po : dJ K H al Q (jA ds h)) : vs.length ≤ sizeLine ∧ ∀ p, H p = none → Q (.ref p) (upd H p (.lst vs)) := by
  unfold jA at po
  split at po
  · rename_i hl
    exact ⟨by rw [← q.length, sizeLine_eq]; exact hl, fun p n => po.abr r q n⟩
  · exact po.elim
end
theorem Cj {o : ON} {K : PySem.W.Frag} {σ : L2.St} {H : Hp} {Q : VK} : rd K W (bx o fr) σ H Q → mj K W fr σ H fun vs H1 => rN K o vs H1 Q := by
  rintro ⟨e, al, h, r, re, p⟩
  refine ⟨e, al, h, r, re, (bL.bind p).mono ?_⟩
  rintro v H1 ⟨d, bB, h1, l, r1, q, p1⟩
  exact ⟨d, bB, h1, r1, q, dJ.of p1⟩
theorem bZ {x1} (ha : PA X es (mj X.K W fr)) : PE X (.Tuple es x1 pos) (rd X.K W (bx bM fr)) :=
  (pe_tup (GB.PA.cl ha)).weak fun σ H Q h => ⟨_, Cj h, fun vs H1 ⟨ds, al, h, r, q, p⟩ => adh r q p⟩
theorem dX (ha : PA X es (mj X.K W fr)) : PE X (.List es pos) (rd X.K W (bx cW fr)) :=
  (pe_lst (GB.PA.cl ha)).weak fun σ H Q h => ⟨_, Cj h, fun vs H1 ⟨ds, al, h, r, q, p⟩ => adi r q p⟩
theorem Py (ha : PA X es (mj X.K W fr)) : PE X (.List es pos) (rd X.K W (bx jA fr)) :=
  (pe_lst (GB.PA.cl ha)).weak fun σ H Q h => ⟨_, Cj h, fun vs H1 ⟨ds, al, h, r, q, p⟩ => ab6 r q p⟩
theorem mX {id : String} {o : ON} (hc : CallR X (.builtin id) (rN X.K o)) (hg : Gl X x) (hm : X.mg x = none) (hv : bootBuiltins x = some (.builtin id)) (ha : PA X (e :: es) (mj X.K W fr))
    (hn : x ≠ "__name__" := by decide) (hdb : (x == ("__debug__" : Str)) = false := by decide) (he : starEach (e :: es) X.env = (false, eval e X.env) :: starEach es X.env := by rfl) (hpl : (backTo pos (starEach es X.env)).any (·.1) = false := by rfl) :
    PE X (.Call (.Name x p1) (e :: es) [] pos) (rd X.K W (bx o fr)) := (pe_callB hc hg hm hv (GB.PA.cl ha) hn hdb he hpl).weak fun σ H Q h => ⟨_, Cj h, fun _ _ z => z⟩
theorem mO {T : String} {o : ON} (hc : CallR X (.type T) (rN X.K o)) (hg : Gl X x) (hm : X.mg x = none) (hv : bootBuiltins x = some (.type T)) (ha : PA X (e :: es) (mj X.K W fr))
    (hn : x ≠ "__name__" := by decide) (hdb : (x == ("__debug__" : Str)) = false := by decide) (he : starEach (e :: es) X.env = (false, eval e X.env) :: starEach es X.env := by rfl) (hpl : (backTo pos (starEach es X.env)).any (·.1) = false := by rfl) :
    PE X (.Call (.Name x p1) (e :: es) [] pos) (rd X.K W (bx o fr)) := (pe_callTy hc hg hm hv (GB.PA.cl ha) hn hdb he hpl).weak fun σ H Q h => ⟨_, Cj h, fun _ _ z => z⟩
end
end PD
namespace PD
open PySem PySem.Spec PyProof.Rows L2
section
variable {K : PySem.W.Frag} {W : WX} {H H' : Hp} {al aU : Al} {N N' : Ends}
theorem lD.le {m : RS} (p : lD K W H al N m) (l : Le H al H' aU) : lD K W H' aU N m := by
  cases m with
  | nx e h => exact fun st H2 dU l2 r q => p st H2 dU (l.trans l2) r q
  | bk e h => exact fun st H2 dU l2 r q => p st H2 dU (l.trans l2) r q
  | ct e h => exact fun st H2 dU l2 r q => p st H2 dU (l.trans l2) r q
  | rt d h => exact fun v H2 dU l2 r q => p v H2 dU (l.trans l2) r q
  | exc c fs e h => exact fun a st H2 dU gs l2 r re e q => p a st H2 dU gs (l.trans l2) r re e q
  | stuck => exact p
theorem jM {β γ : Type} {R : Hp → Al → β → γ → Prop} {m : Res β} {g : β → AH → RS} {e : En} {st : L2.St} {h : AH} (r : HR K H al h) (re : iQ K H al e st) (p : lD K W H al N (m.st e g)) :
    bL K R H al (fun c d H' => W c d st H') (fun v H1 => ∃ d bB h1, Le H al H1 bB ∧ HR K H1 bB h1 ∧ R H1 bB d v ∧ lD K W H1 bB N (g d h1)) m := by
  cases m with
  | ok d h => exact fun v H' aU l r q => ⟨d, aU, h, l, r, q, lD.le p l⟩
  | exc c fs h => exact fun a H' aU gs l r' x q => p a st H' aU gs l r' (re.mono r l) x q
  | stuck => exact p
end
section
variable {X : Cx} {W : WX} {a b c e : Expr} {es : List Expr} {fa fb fc : ME} {fr : MA} {tc : MT} {f g : MS} {gt : MG} {pos p1 p2 : Pos} {i : Nat} {x : Str} {st : Stmt} {sts aeJ : List Stmt}
theorem bY : PSs X [] (lu X.K W cD) := pss_nil.weak fun N σ H ⟨e, al, h, r, re, p⟩ => p σ H al .refl r re
theorem aX (h : PS X st (lu X.K W f)) : PSs X [st] (lu X.K W f) := pss_one h
theorem aV (h1 : PS X st (lu X.K W f)) (h2 : PSs X sts (lu X.K W g)) : PSs X (st :: sts) (lu X.K W (aZ f g)) :=
  (pss_cons h1 h2).weak fun N σ H ⟨e, al, h, r, re, p⟩ => by
    refine ⟨e, al, h, r, re, ?_⟩
    unfold aZ at p
    cases q : f e h with
    | nx e' h' =>
      rw [q] at p
      exact fun st H' aU l r' uO => ⟨e', aU, h', r', uO, lD.le p l⟩
    | rt d h' => rw [q] at p; exact p
    | bk e' h' => rw [q] at p; exact p
    | ct e' h' => rw [q] at p; exact p
    | exc c fs e' h' => rw [q] at p; exact p
    | stuck => rw [q] at p; exact p
theorem uP (he : PE X e (rd X.K W fa)) (hs : swapsWith e none pos.line X.env = pure false := by rfl) : PS X (.Expr e pos) (lu X.K W (mK fa)) :=
  (ps_expr he hs).weak fun N σ H ⟨e, al, h, r, re, p⟩ => by
    refine ⟨e, al, h, r, re, (jM r re p).mono ?_⟩
    rintro v H1 ⟨d, bB, h1, l, r1, q, p1⟩
    exact p1 σ H1 bB .refl r1 (re.mono r l)
theorem s_ret (he : PE X e (rd X.K W fa)) : PS X (.Return (some e) pos) (lu X.K W (bU fa)) :=
  (ps_ret he).weak fun N σ H ⟨e, al, h, r, re, p⟩ => by
    refine ⟨e, al, h, r, re, (jM r re p).mono ?_⟩
    rintro v H1 ⟨d, bB, h1, l, r1, q, p1⟩
    exact p1 v H1 bB .refl r1 q
theorem ahM : PS X (.Return none pos) (lu X.K W xU) := ps_retN.weak fun N σ H ⟨e, al, h, r, re, p⟩ => p .non H al .refl r .non
theorem s_if (hc : PT X c (pO X.K W tc)) (ha : PSs X sts (lu X.K W f)) (hb : PSs X aeJ (lu X.K W g)) : PS X (.If c sts aeJ pos) (lu X.K W (cX tc f g)) :=
  (ps_if hc ha hb).weak fun N σ H ⟨e, al, h, r, re, p⟩ => by
    refine ⟨e, al, h, r, re, (jM r re p).mono ?_⟩
    rintro v H1 ⟨d, bB, h1, l, r1, q, p1⟩
    subst q
    cases d with
    | true => exact ⟨e, bB, h1, r1, re.mono r l, p1⟩
    | false => exact ⟨e, bB, h1, r1, re.mono r l, p1⟩
theorem cI (hN : X.N.Nodup) (hi : X.N[i]? = some x) (hx : Loc X.env.scope x) (hf : X.fn x = true ∨ X.env.scope.names.lookup x = some .local := by first | exact .inl rfl | exact .inr rfl | assumption) : PG X (.Name x pos) (Ce X.K W (gName i)) :=
  (pg_name hN hi hx hf).weak fun v σ H Q ⟨d, e, al, h, r, re, q, p⟩ => p _ H al .refl r (re.set q i)
def ab7 (K : PySem.W.Frag) (W : WX) (g : List D → En → AH → Res En) : TGs := fun vs st H Q => ∃ ds e al h, HR K H al h ∧ iQ K H al e st ∧ bD K H al ds vs ∧
  bL K (fun H al e st => iQ K H al e st) H al (fun c d H' => W c d st H') Q (g ds e h)
theorem PGs.weak {t t' : TGs} (h : PGs X es t) (i : ∀ v σ H Q, t' v σ H Q → t v σ H Q) : PGs X es t' := ⟨fun pins s σ H v u Q I r q => h.run pins s σ H v u Q I r (i _ _ _ _ q)⟩
theorem Z8 : PGs X [] (ab7 X.K W gNil) := PGs.weak pgs_nil fun v σ H Q ⟨ds, e, al, h, r, re, q, p⟩ => by
  cases q with
  | nil => exact ⟨rfl, p _ H al .refl r re⟩
  | cons _ _ => exact p.elim
theorem vI {gr : List D → En → AH → Res En} (h1 : PG X e (Ce X.K (fun _ _ _ _ => False) gt)) (h2 : PGs X es (ab7 X.K (fun _ _ _ _ => False) gr))
    (hs : (assignEach (e :: es) X.env).map (·.2) = assign e X.env :: (assignEach es X.env).map (·.2) := by rfl) : PGs X (e :: es) (ab7 X.K (fun _ _ _ _ => False) (gCons gt gr)) := PGs.weak (pgs_cons h1 h2 hs) fun v σ H Q ⟨ds, e, al, h, r, re, q, p⟩ => by
  cases q with
  | nil => exact p.elim
  | cons q qs =>
    refine ⟨_, _, rfl, _, e, al, h, r, re, q, (bL.bind p).mono ?_⟩
    rintro st H1 ⟨e1, bB, h1, l, r1, RX, p1⟩
    exact ⟨_, e1, bB, h1, r1, RX, qs.mono r l, p1⟩
def lF (n : Nat) (r : List D → En → AH → Res En) : MG := fun d e h => match d with
  | .tup ds => if ds.length = n then r ds e h else .stuck
  | _ => .stuck
theorem ab8 {k n : Nat} {gr : List D → En → AH → Res En} (hc : X.calm = true) (h : PGs X es (ab7 X.K (fun _ _ _ _ => False) gr))
    (hn : (assignEach es X.env).length = n := by rfl) (hst : (assignEach es X.env).findIdx? (·.1) = none := by rfl) : PG X (.Tuple es k pos) (Ce X.K (fun _ _ _ _ => False) (lF n gr)) :=
  (pg_tup hc h hn hst).weak fun v σ H Q ⟨d, e, al, h, r, re, q, p⟩ => by
    cases q with
    | tup s q =>
      simp only [lF] at p
      split at p
      · rename_i hl
        exact ⟨_, _, rfl, s, by rw [← q.length]; exact hl, _, e, al, h, r, re, q, p⟩
      · exact p.elim
    | _ => exact p.elim
def qT (g : MG) : MG := fun d e h => match g d e h with
  | .ok e' h' => .ok e' h'
  | _ => .stuck
theorem ab9 (h : PG X e (Ce X.K (fun _ _ _ _ => False) gt)) : PG X e (Ce X.K W (qT gt)) := h.weak fun v σ H Q ⟨d, e, al, h, r, re, q, p⟩ => by
  refine ⟨d, e, al, h, r, re, q, ?_⟩
  unfold qT at p
  cases z : gt d e h with
  | ok e' h' => rw [z] at p; exact p
  | exc c fs h' => rw [z] at p; exact p.elim
  | stuck => rw [z] at p; exact p.elim
theorem s_asg {tg : Expr} (he : PE X e (rd X.K W fa)) (hg : PG X tg (Ce X.K W gt)) (hs : swapsWithSole [tg] e pos.line X.env = pure false := by rfl) (hw : swappedStores [tg] e X.env = pure none := by rfl)
    (h1 : (assignEach [tg] X.env).map (·.2) = [assign tg X.env] := by rfl) : PS X (.Assign [tg] e pos) (lu X.K W (bW fa gt)) :=
  (ps_asg he hg hs hw h1).weak fun N σ H ⟨e, al, h, r, re, p⟩ => by
    refine ⟨e, al, h, r, re, (jM r re p).mono ?_⟩
    rintro v H1 ⟨d, bB, h1, l, r1, q, p1⟩
    refine ⟨d, e, bB, h1, r1, re.mono r l, q, (jM r1 (re.mono r l) p1).mono ?_⟩
    rintro st H2 ⟨e2, dU, h2, l2, r2, yQ, p2⟩
    exact p2 st H2 dU .refl r2 yQ
def pB (K : PySem.W.Frag) (J : It) (ds : List D) (H0 : Hp) (al0 : Al) : Prop := ∀ H al h, jk H0 al0 H al → HR K H al h →
  (∀ i, i < ds.length → J.go i H) ∧ J.stop ds.length H ∧ ∀ i x H', i < ds.length → J.yld i H x H' → Le H al H' al ∧ HR K H' al h ∧ ∃ d, ds[i]? = some d ∧ Rp K H' al d x
def Ck (K : PySem.W.Frag) (W : WX) (it : En → AH → Res (List D)) : TI := fun st H R => ∃ e al h, HR K H al h ∧ iQ K H al e st ∧
  bL K (fun H al ds J => pB K J ds H al) H al (fun c d H' => W c d st H') R (it e h)
theorem jk.trans {H H' H2 : Hp} {al aU dU : Al} (l : jk H al H' aU) (m : jk H' aU H2 dU) : jk H al H2 dU := by
  obtain ⟨t, ht⟩ := l.pre
  obtain ⟨u, hu⟩ := m.pre
  exact ⟨⟨t ++ u, by rw [hu, ht, List.append_assoc]⟩, fun a o e n => m.keep a o (l.keep a o e n) (l.out a o e n), fun a o e n => m.out a o (l.keep a o e n) (l.out a o e n), fun a o u e => m.lk a o u (l.lk a o u e)⟩
theorem pB.le {K : PySem.W.Frag} {J : It} {ds : List D} {H H' : Hp} {al aU : Al} (w : pB K J ds H al) (l : jk H al H' aU) : pB K J ds H' aU := fun H2 dU h l2 r => w H2 dU h (l.trans l2) r
theorem acd {tg iter : Expr} {it : En → AH → Res (List D)} {body : List Stmt} (hp : PassesOwn (model X.prog X.w) X.A X.env X.xe) (hc : X.calm = true) (hi : PI X tg iter (Ck X.K W it)) (hg : PG X tg (Ce X.K W gt)) (hb : PSs X body (lu X.K W f))
    (hs : ∀ x, foldedSetIterable iter X.env x = pure x := by intro _; rfl) : PS X (.For tg iter body [] pos) (lu X.K W (u6 it gt f)) :=
  (ps_for hp hc hi hg hb hs).weak fun N σ H ⟨e, al, h, r, re, p⟩ => by
    refine ⟨e, al, h, r, re, (jM r re p).mono ?_⟩
    rintro J H1 ⟨ds, bB, h1, l, r1, w, p1⟩
    refine ⟨fun i m σ' H' => m = ds.length - i ∧ i ≤ ds.length ∧ ∃ e' aU h', Le H1 bB H' aU ∧ HR X.K H' aU h' ∧ iQ X.K H' aU e' σ' ∧ lD X.K W H' aU N (forL gt f (ds.drop i) e' h'), ⟨ds.length, by omega, Nat.zero_le _, e, bB, h1, .refl, r1, re.mono r l, p1⟩, ?_⟩
    rintro i m σ' H' ⟨rfl, hle, e', aU, h', l', r', uO, p'⟩
    obtain ⟨w1, w2, w3⟩ := w H' aU h' l'.Cd r'
    by_cases hlt : i < ds.length
    · refine .inr ⟨w1 i hlt, fun σ2 H2 => i + 1 ≤ ds.length ∧ ∃ e' aU h', Le H1 bB H2 aU ∧ HR X.K H2 aU h' ∧ iQ X.K H2 aU e' σ2 ∧ lD X.K W H2 aU N (forL gt f (ds.drop (i + 1)) e' h'), ?_, ?_⟩
      · rintro σ2 H2 ⟨hl2, z⟩
        exact ⟨ds.length - (i + 1), by omega, rfl, hl2, z⟩
      · intro x H2 y
        obtain ⟨l2, r2, d, hd, rp⟩ := w3 i x H2 hlt y
        have ed : ds.drop i = d :: ds.drop (i + 1) := by
          rw [List.drop_eq_getElem_cons hlt]
          congr 1
          rw [List.getElem?_eq_getElem hlt] at hd
          exact Option.some.inj hd
        rw [ed, forL] at p'
        have yQ := uO.mono r' l2
        refine ⟨d, e', aU, h', r2, yQ, rp, (jM r2 yQ (lD.le p' l2)).mono ?_⟩
        rintro st H3 ⟨e3, R4, h3, l3, r3, re3, p3⟩
        refine ⟨e3, R4, h3, r3, re3, ?_⟩
        cases q : f e3 h3 with
        | nx e4 h4 =>
          rw [q] at p3
          exact fun st' H4 al4 l4 r4 re4 => ⟨hlt, e4, al4, h4, ((l'.trans l2).trans l3).trans l4, r4, re4, lD.le p3 l4⟩
        | ct e4 h4 =>
          rw [q] at p3
          exact fun st' H4 al4 l4 r4 re4 => ⟨hlt, e4, al4, h4, ((l'.trans l2).trans l3).trans l4, r4, re4, lD.le p3 l4⟩
        | bk e4 h4 =>
          rw [q] at p3
          exact p3
        | rt d h4 => rw [q] at p3; exact p3
        | exc c fs e4 h4 => rw [q] at p3; exact p3
        | stuck => rw [q] at p3; exact p3
    · have hi' : i = ds.length := by omega
      subst hi'
      rw [List.drop_length] at p'
      exact .inl ⟨w2, p' σ' H' aU .refl r' uO⟩
def items : D → AH → Res (List D)
  | .lst ds, h => .ok ds h
  | .dW ds, h => .ok ds h
  | .tup ds, h => .ok ds h
  | .str x, h => .ok (x.cps.toList.map fun c => .str ⟨#[c]⟩) h
  | _, _ => .stuck
def nZ (fa : ME) : En → AH → Res (List D) := fun e h => (fa e h).bind fun d h1 => items d h1
theorem Z9 {K : PySem.W.Frag} {H : Hp} {al : Al} {ds : List D} {vs : List V} {a : Addr} (s : ∀ H' aU, jk H al H' aU → SqL K H' a vs) {h : AH} (r : HR K H al h) (q : bD K H al ds vs) : pB K (Itl K a) ds H al := by
  intro H' aU h' l r'
  have s' := s H' aU l
  have q' := q.dF r l
  have w := walk_list (K := K) (a := a) (xs := vs)
  rw [← q.length] at w
  refine ⟨fun i hi => w.goes i H' hi s', w.stops H' s', fun i x H2 hi y => ?_⟩
  obtain ⟨rfl, e⟩ := w.yields i H' x H2 hi s' y
  obtain ⟨d, hd, rp⟩ := q'.get' e
  exact ⟨.refl, r', d, hd, rp⟩
theorem ace {K : PySem.W.Frag} {H : Hp} {al : Al} {ds : List D} {vs : List V} {a : Addr} (s : Ls H al a vs) {h : AH} (r : HR K H al h) (q : bD K H al ds vs) : pB K (Itl K a) ds H al := Z9 (fun _ _ l => (s.dF l).sq) r q
theorem aa7 {K : PySem.W.Frag} {H : Hp} {al : Al} {ds : List D} {vs : List V} {a : Addr} (s : Kl K H al a vs) {h : AH} (r : HR K H al h) (q : bD K H al ds vs) : pB K (Itl K a) ds H al := Z9 (fun _ _ l => (s.dF l).sq) r q
theorem adl {K : PySem.W.Frag} {H : Hp} {al : Al} {ds : List D} {vs : List V} {a : Addr} (s : SqT K H a vs) {h : AH} (r : HR K H al h) (q : bD K H al ds vs) : pB K (Itt K a) ds H al := by
  intro H' aU h' l r'
  have s' := Gp r s l
  have q' := q.dF r l
  have w := walk_tup (K := K) (a := a) (xs := vs)
  rw [← q.length] at w
  refine ⟨fun i hi => w.goes i H' hi s', w.stops H' s', fun i x H2 hi y => ?_⟩
  obtain ⟨rfl, e⟩ := w.yields i H' x H2 hi s' y
  obtain ⟨d, hd, rp⟩ := q'.get' e
  exact ⟨.refl, r', d, hd, rp⟩
theorem adn {K : PySem.W.Frag} {H : Hp} {al : Al} {z : Str} : pB K (Its z) (z.cps.toList.map fun c => .str ⟨#[c]⟩) H al := by
  intro H' aU h' l r'
  have w := walk_str (z := z)
  have hl : (z.cps.toList.map fun c => D.str ⟨#[c]⟩).length = z.cps.size := by simp
  rw [hl]
  refine ⟨fun i hi => w.goes i H' hi trivial, w.stops H' trivial, fun i x H2 hi y => ?_⟩
  obtain ⟨rfl, c, e, rfl⟩ := w.yields i H' x H2 hi trivial y
  exact ⟨.refl, r', _, by rw [List.getElem?_map, Array.getElem?_toList, e]; rfl, .str _⟩
theorem PB {tg : Expr} (he : PE X e (rd X.K W fa)) : PI X tg e (Ck X.K W (nZ fa)) := by
  constructor
  rintro pins s σ H R I ⟨e, al, h, r, re, p⟩
  have p' := bL.bind (R := fun H al d v => Rp X.K H al d v) p
  cases q : fa e h with
  | exc c fs h' =>
    refine (pi_list (tg := tg) he).run pins s σ H R I ⟨e, al, h, r, re, ?_⟩
    rw [q] at p' ⊢
    exact p'
  | stuck =>
    rw [q] at p'
    exact p'.elim
  | ok d h' =>
    rw [q] at p'
    cases d with
    | lst ds =>
      refine (pi_list (tg := tg) he).run pins s σ H R I ⟨e, al, h, r, re, ?_⟩
      rw [q]
      intro v H' aU l r' rp
      obtain ⟨d, bB, h1, l1, r1, q1, p1⟩ := p' v H' aU l r' rp
      unfold nZ at p
      rw [q] at p
      cases rp with
      | lst s rl => exact ⟨_, rfl, ⟨_, s.sq⟩, p _ H' aU l r' (ace s r' rl)⟩
    | dW ds =>
      refine (pi_list (tg := tg) he).run pins s σ H R I ⟨e, al, h, r, re, ?_⟩
      rw [q]
      intro v H' aU l r' rp
      unfold nZ at p
      rw [q] at p
      cases rp with
      | dW s rl => exact ⟨_, rfl, ⟨_, s.sq⟩, p _ H' aU l r' (aa7 s r' rl)⟩
    | tup ds =>
      refine (pi_tup (tg := tg) he).run pins s σ H R I ⟨e, al, h, r, re, ?_⟩
      rw [q]
      intro v H' aU l r' rp
      unfold nZ at p
      rw [q] at p
      cases rp with
      | tup s rl => exact ⟨_, rfl, ⟨_, s⟩, p _ H' aU l r' (adl s r' rl)⟩
    | str z =>
      refine (pi_str (tg := tg) he).run pins s σ H R I ⟨e, al, h, r, re, ?_⟩
      rw [q]
      intro v H' aU l r' rp
      unfold nZ at p
      rw [q] at p
      cases rp with
      | str z => exact ⟨z, rfl, p _ H' aU l r' adn⟩
    | _ =>
      unfold nZ at p
      rw [q] at p
      exact p.elim
end
end PD
namespace PD
open PySem PySem.Spec PyProof.Rows L2
abbrev WF : WX := fun _ _ _ _ => False
structure cC (X : Cx) (W : WX) : Prop where
  tk : Takes X W
  po : PassesOwn (model X.prog X.w) X.A X.env X.xe
  gd : X.A.guards = some []
theorem cC.blk {X : Cx} {W : WX} (ct : cC X W) {s : Shared} {H : Hp} {scope : Scope} {cenv : Env} {fp : List Addr} : cC (X.blk s H scope cenv fp) WF :=
  ⟨fun u s' ⟨_, _, _, _, _, _, _, _, _, _, _, _, _, _, _, _, w⟩ => w.elim, PassesOwn.never, ct.gd⟩
theorem cC.def_ {P : Program} {w : World} {K : PySem.W.Frag} {mg : Str → Option Value} {base : Heap} {N : List Str} {q : Str} {sc : Scope} {f : Addr} {cdv : Value} {A : Around} {outer : List Env} {s : Shared} {H : Hp} {E : XK} (hG : A.guards = some []) :
    cC (cxOf (L2.CX P w) P w K mg base N q sc f cdv A outer s H E) (fun cls d _ H => E cls d H) := ⟨takes_of rfl rfl rfl rfl, passes_of rfl, hG⟩
section
variable {K : PySem.W.Frag} {H H' H2 : Hp} {al aU : Al} {p q : Addr} {h : AH}
theorem Le.free {c c' r : List Addr} (l : Le H ⟨c, q :: r⟩ H' ⟨c', q :: r⟩) (hq : ∃ o, H q = some o) : Le H ⟨c, r⟩ H' ⟨c', r⟩ := by
  refine ⟨l.pre, rfl, fun a o e n => ?_, fun a ha => l.res a (List.mem_cons_of_mem _ ha), l.new, l.lk⟩
  by_cases z : a = q
  · subst z
    rw [l.res a (List.mem_cons_self)]
    exact e
  · refine l.keep a o e fun w => ?_
    rcases w with w | w
    · exact n (.inl w)
    · rcases List.mem_cons.mp w with w | w
      · exact z w
      · exact n (.inr w)
theorem Le.putN {o : HO} (l : Le H al H' aU) (e : H p = none) (n : p ∉ al.r) : Le H al (upd H' p o) aU := by
  refine ⟨l.pre, l.v9, fun a u q m => ?_, fun a ha => ?_, l.new, fun a o' u q => by
    rw [upd_ne (ne_of_none q e)]
    exact l.lk a o' u q⟩
  · rw [upd_ne (ne_of_none q e)]
    exact l.keep a u q m
  · have ne : a ≠ p := fun z => n (by rw [← z]; exact ha)
    rw [upd_ne ne]
    exact l.res a ha
theorem iQ.wipe {e : En} {st : L2.St} (q : iQ K H al e st) : ∀ vs : List Nat, iQ K H al (lC e vs) (L2.wipe st vs)
  | [] => q
  | v :: vs => by
    have ih := iQ.wipe q vs
    refine ⟨by simp [lC, L2.wipe, ih.1], fun i d z => ?_⟩
    unfold lC at z
    unfold L2.wipe
    by_cases hi : v = i
    · subst hi
      by_cases hl : v < (lC e vs).length
      · rw [List.getElem?_set_self hl] at z
        cases z
      · rw [List.getElem?_eq_none (by simp; omega)] at z
        cases z
    · rw [List.getElem?_set_ne hi] at z ⊢
      exact ih.2 i d z
end
section
variable {X : Cx} {W : WX} {a b c e : Expr} {es : List Expr} {fa fb fc : ME} {fr fk : MA} {tc : MT} {f g : MS} {gt : MG} {pos p1 p2 : Pos} {i : Nat} {x : Str} {st : Stmt} {sts aeJ : List Stmt}
def rdC (K : PySem.W.Frag) (vs : List Nat) (g : MG) : TG := fun v st H Q => ∃ d e al h, HR K H al h ∧ iQ K H al e st ∧ Rp K H al d v ∧
  bL K (fun H al e st' => iQ K H al e st' ∧ wipe st' vs = wipe st vs) H al (fun _ _ _ => False) Q (g d e h)
theorem aad {st : L2.St} {v : Option V} : ∀ {vs : List Nat} {i : Nat}, i ∈ vs → wipe (st.set i v) vs = wipe st vs
  | [], i, h => nomatch h
  | w :: vs, i, h => by
    unfold wipe
    by_cases hi : i ∈ vs
    · rw [aad hi]
    · have hw : i = w := by
        rcases List.mem_cons.mp h with z | z
        · exact z
        · exact absurd z hi
      subst hw
      have key : ∀ us : List Nat, i ∉ us → wipe (st.set i v) us = (wipe st us).set i v := by
        intro us
        induction us with
        | nil => intro _; rfl
        | cons u us ih =>
          intro hn
          simp only [List.mem_cons, not_or] at hn
          unfold wipe
          rw [ih hn.2, List.set_comm _ _ hn.1]
      rw [key vs hi, List.set_set]
theorem Gq {st : L2.St} {i : Nat} : ∀ {vs : List Nat}, (wipe st vs)[i]? = if i ∈ vs then (st[i]?).map (fun _ => none) else st[i]?
  | [] => by simp [wipe]
  | w :: vs => by
    unfold wipe
    have hl := wipe_length st vs
    by_cases hw : w = i
    · subst hw
      rw [if_pos List.mem_cons_self]
      by_cases hn : w < st.length
      · rw [List.getElem?_set_self (by rw [hl]; exact hn), List.getElem?_eq_getElem hn]
        rfl
      · rw [List.getElem?_eq_none (by rw [List.length_set, hl]; omega), List.getElem?_eq_none (by omega)]
        rfl
    · rw [List.getElem?_set_ne hw, Gq]
      have : (i ∈ w :: vs) = (i ∈ vs) := propext ⟨fun z => (List.mem_cons.mp z).resolve_left (fun q => hw q.symm), List.mem_cons_of_mem _⟩
      simp only [this]
theorem ado {st : L2.St} {vs : List Nat} : wipe (wipe st vs) vs = wipe st vs := by
  apply List.ext_getElem?
  intro i
  rw [Gq, Gq]
  by_cases hi : i ∈ vs
  · simp only [if_pos hi, Option.map_map]
    rfl
  · simp only [if_neg hi]
theorem mY {vs : List Nat} (hv : i ∈ vs) (hN : X.N.Nodup) (hi : X.N[i]? = some x) (hx : Loc X.env.scope x) (hf : X.fn x = true ∨ X.env.scope.names.lookup x = some .local := by first | exact .inl rfl | exact .inr rfl | assumption) : PG X (.Name x pos) (rdC X.K vs (gName i)) :=
  (pg_name hN hi hx hf).weak fun v σ H Q ⟨d, e, al, h, r, re, q, p⟩ => p _ H al .refl r ⟨re.set q i, aad hv⟩
def acf (K : PySem.W.Frag) (vs : List Nat) (g : List D → En → AH → Res En) : TGs := fun ws st H Q => ∃ ds e al h, HR K H al h ∧ iQ K H al e st ∧ bD K H al ds ws ∧
  bL K (fun H al e st' => iQ K H al e st' ∧ wipe st' vs = wipe st vs) H al (fun _ _ _ => False) Q (g ds e h)
theorem Q7 {vs : List Nat} : PGs X [] (acf X.K vs gNil) := PGs.weak pgs_nil fun v σ H Q ⟨ds, e, al, h, r, re, q, p⟩ => by
  cases q with
  | nil => exact ⟨rfl, p _ H al .refl r ⟨re, rfl⟩⟩
  | cons _ _ => exact p.elim
theorem tU {vs : List Nat} {gr : List D → En → AH → Res En} (h1 : PG X e (rdC X.K vs gt)) (h2 : PGs X es (acf X.K vs gr))
    (hs : (assignEach (e :: es) X.env).map (·.2) = assign e X.env :: (assignEach es X.env).map (·.2) := by rfl) : PGs X (e :: es) (acf X.K vs (gCons gt gr)) := PGs.weak (pgs_cons h1 h2 hs) fun v σ H Q ⟨ds, e, al, h, r, re, q, p⟩ => by
  cases q with
  | nil => exact p.elim
  | cons q qs =>
    refine ⟨_, _, rfl, _, e, al, h, r, re, q, (bL.bind p).mono ?_⟩
    rintro st H1 ⟨e1, bB, h1, l, r1, ⟨RX, w1⟩, p1⟩
    refine ⟨_, e1, bB, h1, r1, RX, qs.mono r l, ?_⟩
    cases z : gr _ e1 h1 with
    | ok e2 h2 =>
      rw [z] at p1
      exact fun v H' aU l' r' q' => p1 v H' aU l' r' ⟨q'.1, q'.2.trans w1⟩
    | exc c fs h2 => rw [z] at p1; exact p1
    | stuck => rw [z] at p1; exact p1
theorem aae {vs : List Nat} {k n : Nat} {gr : List D → En → AH → Res En} (hc : X.calm = true) (h : PGs X es (acf X.K vs gr))
    (hn : (assignEach es X.env).length = n := by rfl) (hst : (assignEach es X.env).findIdx? (·.1) = none := by rfl) : PG X (.Tuple es k pos) (rdC X.K vs (lF n gr)) :=
  (pg_tup hc h hn hst).weak fun v σ H Q ⟨d, e, al, h, r, re, q, p⟩ => by
    cases q with
    | tup s q =>
      simp only [lF] at p
      split at p
      · rename_i hl
        exact ⟨_, _, rfl, s, by rw [← q.length]; exact hl, _, e, al, h, r, re, q, p⟩
      · exact p.elim
    | _ => exact p.elim
theorem wg : PTs X [] (pO X.K W nY) := ⟨fun pins s σ H Q I ⟨e, al, h, r, re, p⟩ => pts_nil.run pins s σ H Q I (p true H al .refl r rfl)⟩
theorem ahO {c : Expr} {t : MT} (h : PT X c (pO X.K W t)) : PTs X [c] (pO X.K W t) := pts_one h
def alb (fin : List D → AH → Res D) (it : En → AH → Res (List D)) (g : MG) (t : MT) (f : ME) (own : List Nat) : ME := fun e h => (it e h).bind fun ds h1 => (cY g t f own e [] ds h1).bind fun r h2 => fin r h2
theorem agn {fin : List D → AH → Res D} {it : En → AH → Res (List D)} {t : MT} {f : ME} {vs : List Nat} {σ : L2.St} {H : Hp} {Q : VK} {K : PySem.W.Frag} (hf : ∀ (H1 : Hp) (bB : Al) (H' : Hp) (c' : List Addr) (h' : AH) (acc : List D) (ws : List V) (A : Addr), Le H1 bB H' ⟨c', bB.r⟩ → HR K H' ⟨c', A :: bB.r⟩ h' → H' A = some (.lst ws) → bD K H' ⟨c', A :: bB.r⟩ acc ws → H1 A = none → ¬ bB.has A → qQ K H1 bB (fun c d H' => W c d σ H') Q (fin acc h') → Q (.ref A) H') : rd K W (alb fin it gt t f vs) σ H Q → tLc (Ck K W it) (rdC K vs gt) (pO K WF t) (rd K WF f) vs σ H Q := by
  rintro ⟨e, al, h, r, re, p⟩
  refine ⟨e, al, h, r, re, (bL.bind p).mono ?_⟩
  rintro J H1 ⟨ds, bB, h1, l, r1, w, p1⟩ A hA
  have nA := r1.U5 hA
  have hs : sizeLine = 16777216 := sizeLine_eq
  refine ⟨fun i m H' => m = ds.length - i ∧ i ≤ ds.length ∧ ∃ c' h' acc ws, Le H1 bB H' ⟨c', bB.r⟩ ∧ HR K H' ⟨c', A :: bB.r⟩ h' ∧ H' A = some (.lst ws) ∧ bD K H' ⟨c', A :: bB.r⟩ acc ws ∧ jk H1 bB H' ⟨c', A :: bB.r⟩ ∧
    qQ K H1 bB (fun c d H' => W c d σ H') Q ((cY gt t f vs e acc (ds.drop i) h').bind fun r h2 => fin r h2), ⟨ds.length, by omega, Nat.zero_le _, bB.c, h1, [], [], (Le.fresh r1 hA), r1.hold hA, upd_same, .nil, jk.hold hA, p1⟩, ?_⟩
  rintro i m H' ⟨rfl, hle, c', h', acc, ws, l', r', eA, ra, l0, p'⟩
  obtain ⟨w1, w2, w3⟩ := w H' _ h' l0 r'
  by_cases hlt : i < ds.length
  · refine .inr ⟨w1 i hlt, fun H2 => i + 1 ≤ ds.length ∧ ∃ c' h' acc ws, Le H1 bB H2 ⟨c', bB.r⟩ ∧ HR K H2 ⟨c', A :: bB.r⟩ h' ∧ H2 A = some (.lst ws) ∧ bD K H2 ⟨c', A :: bB.r⟩ acc ws ∧ jk H1 bB H2 ⟨c', A :: bB.r⟩ ∧
      qQ K H1 bB (fun c d H' => W c d σ H') Q ((cY gt t f vs e acc (ds.drop (i + 1)) h').bind fun r h2 => fin r h2), ?_, ?_⟩
    · rintro H2 ⟨hl2, z⟩
      exact ⟨ds.length - (i + 1), by omega, rfl, hl2, z⟩
    · intro x H2 y
      obtain ⟨l2, r2, d, hd, rp⟩ := w3 i x H2 hlt y
      have ed : ds.drop i = d :: ds.drop (i + 1) := by
        rw [List.drop_eq_getElem_cons hlt]
        congr 1
        rw [List.getElem?_eq_getElem hlt] at hd
        exact Option.some.inj hd
      rw [ed, cY] at p'
      have RX : iQ K H1 bB e σ := re.mono r l
      have yQ : iQ K H2 ⟨c', A :: bB.r⟩ (lC e vs) (L2.wipe σ vs) := ((RX.dF r1 l0).mono r' l2).wipe vs
      refine ⟨d, lC e vs, _, h', r2, yQ, rp, ?_⟩
      cases z : gt d (lC e vs) h' with
      | exc c fs h3 => rw [z] at p'; exact p'.elim
      | stuck => rw [z] at p'; exact p'.elim
      | ok e3 h3 =>
        rw [z] at p'
        rintro σ3 H3 ⟨c3, r3x⟩ l3 r3 ⟨re3, hw3⟩
        obtain rfl : r3x = A :: bB.r := l3.v9
        rw [ado] at hw3
        refine ⟨hw3, e3, _, h3, r3, re3, ?_⟩
        dsimp only at p'
        cases z2 : t e3 h3 with
        | exc c fs h4 => rw [z2] at p'; exact p'.elim
        | stuck => rw [z2] at p'; exact p'.elim
        | ok b h4 =>
          rw [z2] at p'
          rintro b' H4 ⟨c4, r4x⟩ l4 r4 rfl
          obtain rfl : r4x = A :: bB.r := l4.v9
          have l24 : Le H' ⟨c', A :: bB.r⟩ H4 ⟨c4, A :: bB.r⟩ := (l2.trans l3).trans l4
          cases b with
          | false =>
            have alc := l24.free ⟨_, eA⟩
            exact ⟨hlt, c4, h4, acc, ws, l'.trans alc, r4, by rw [l24.res A List.mem_cons_self]; exact eA, ra.mono r' l24, l0.trans l24.Cd, p'⟩
          | true =>
            refine ⟨e3, _, h4, r4, re3.mono r3 l4, ?_⟩
            dsimp only at p'
            cases z3 : f e3 h4 with
            | exc c fs h5 => rw [z3] at p'; exact p'.elim
            | stuck => rw [z3] at p'; exact p'.elim
            | ok y h5 =>
              rw [z3] at p'
              rintro v H5 ⟨c5, r5x⟩ l5 r5 rv
              obtain rfl : r5x = A :: bB.r := l5.v9
              have l25 := l24.trans l5
              have ald := l25.free ⟨_, eA⟩
              have eA5 : H5 A = some (.lst ws) := by rw [l25.res A List.mem_cons_self]; exact eA
              dsimp only at p'
              split at p'
              · rename_i hsz
                have ra5 := ra.mono r' l25
                have L1 := (l'.trans ald).putN (o := .lst (ws ++ [v])) hA fun z => nA (.inr z)
                refine ⟨ws, eA5, by rw [← ra5.length, hs]; exact hsz, hlt, c5, h5, acc ++ [y], ws ++ [v], L1, r5.Z5 List.mem_cons_self, upd_same, (ra5.append (.cons rv .nil)).dF r5 (jk.Z5 List.mem_cons_self ⟨_, eA5⟩), (l0.trans l25.Cd).trans (jk.Z5 List.mem_cons_self ⟨_, eA5⟩), p'⟩
              · exact p'.elim
  · have hi' : i = ds.length := by omega
    subst hi'
    rw [List.drop_length, cY] at p'
    exact .inl ⟨w2, hf H1 bB H' c' h' acc ws A l' r' eA ra hA nA p'⟩
theorem adq {it : En → AH → Res (List D)} {t : MT} {f : ME} {vs : List Nat} {σ : L2.St} {H : Hp} {Q : VK} {K : PySem.W.Frag} (p : rd K W (uN it gt t f vs) σ H Q) : tLc (Ck K W it) (rdC K vs gt) (pO K WF t) (rd K WF f) vs σ H Q :=
  agn (fin := fun r h2 => .ok (.lst r) h2) (fun H1 bB H' c' h' acc ws A l' r' eA ra hA nA p' => p' _ H' ⟨c', bB.r⟩ l' (HR.free (al := ⟨c', bB.r⟩) r') (.lst ⟨eA, fun z => by
    rcases z with z | z
    · exact r'.dis A z List.mem_cons_self
    · exact nA (.inr z)⟩ (ra.dF r' (jk.free (al := ⟨c', bB.r⟩))))) p
theorem Gu {elt tg iter : Expr} {ifs : List Expr} {scope : Scope} {own : List (Str × Nat)} {it : En → AH → Res (List D)} {t : MT} {f : ME} (hc : X.calm = true) (hN : X.N.Nodup) (hi : PI X tg iter (Ck X.K W it)) (ok : BlkOk X.N X.env.scope scope own)
    (hg : ∀ (s : Shared) (H : Hp) (C : Addr) (cl : List (Str × Addr)) (fp : List Addr), PG (X.blk s H scope (compEnvC scope cl C X.env) fp) tg (rdC X.K (own.map (·.2)) gt))
    (ht : ∀ (s : Shared) (H : Hp) (C : Addr) (cl : List (Str × Addr)) (fp : List Addr), PTs (X.blk s H scope (compEnvC scope cl C X.env) fp) ifs (pO X.K WF t))
    (he : ∀ (s : Shared) (H : Hp) (C : Addr) (cl : List (Str × Addr)) (fp : List Addr), PE (X.blk s H scope (compEnvC scope cl C X.env) fp) elt (rd X.K WF f)) (hs : ∀ x, foldedSetIterable iter X.env x = pure x := by intro _; rfl) :
    PE X (.ListComp elt [⟨tg, iter, ifs, 0⟩] scope pos) (rd X.K W (uN it gt t f (own.map (·.2)))) := (pe_lc hc hN hi ok hg ht he hs).weak fun σ H Q h => adq h
theorem ago {y : Str} {py spos : Pos} {elt tg iter : Expr} {ifs : List Expr} {scope : Scope} {own : List (Str × Nat)} {it : En → AH → Res (List D)} {t : MT} {f : ME} (hc : X.calm = true) (hN : X.N.Nodup) (hy : X.N[i]? = some y) (hyl : X.env.scope.names.lookup y = some .local)
    (hsw : swapsWith (.ListComp elt [⟨tg, iter, ifs, 0⟩] scope pos) (some (.Name y py)) spos.line X.env = pure true) (hi : PI X tg iter (Ck X.K W it)) (ok : BlkOk X.N X.env.scope scope own)
    (hg : ∀ (s : Shared) (H : Hp) (C : Addr) (cl : List (Str × Addr)) (fp : List Addr), PG (X.blk s H scope (compEnvC scope cl C X.env) fp) tg (rdC X.K (own.map (·.2)) gt))
    (ht : ∀ (s : Shared) (H : Hp) (C : Addr) (cl : List (Str × Addr)) (fp : List Addr), PTs (X.blk s H scope (compEnvC scope cl C X.env) fp) ifs (pO X.K WF t))
    (he : ∀ (s : Shared) (H : Hp) (C : Addr) (cl : List (Str × Addr)) (fp : List Addr), PE (X.blk s H scope (compEnvC scope cl C X.env) fp) elt (rd X.K WF f)) (hs : ∀ x, foldedSetIterable iter X.env x = pure x := by intro _; rfl) :
    PS X (.Assign [.Name y py] (.ListComp elt [⟨tg, iter, ifs, 0⟩] scope pos) spos) (lu X.K W (bW (uN it gt t f (own.map (·.2))) (gName i))) :=
  (ps_setLc hc hN hy hyl hsw hi ok hg ht he hs).weak fun N σ H ⟨e, al, h, r, re, p⟩ => by
    refine adq (W := W) ⟨e, al, h, r, re, (jM r re p).mono ?_⟩
    rintro v H1 ⟨d, bB, h1, l, r1, q, p1⟩
    exact p1 _ H1 bB .refl r1 ((re.mono r l).set q i)
def xW (lo : Int) (n : Nat) : List D := (List.range n).map fun k => .int (lo + (k : Nat))
def acg : List D → AH → Res (List D)
  | [.int j], h => if -(2 ^ 62) ≤ j ∧ j < 2 ^ 62 then .ok (xW 0 j.toNat) h else .stuck
  | _, _ => .stuck
def wj (o : List D → AH → Res (List D)) (fa : MA) : En → AH → Res (List D) := fun e h => (fa e h).bind fun ds h1 => o ds h1
theorem aa8 {K : PySem.W.Frag} {H : Hp} {al : Al} {lo : Int} {n : Nat} : pB K (Itr lo n) (xW lo n) H al := by
  intro H' aU h' l r'
  have w := walk_range (lo := lo) (n := n)
  have hl : (xW lo n).length = n := by simp [xW]
  rw [hl]
  refine ⟨fun i hi => w.goes i H' hi trivial, w.stops H' trivial, fun i x H2 hi y => ?_⟩
  obtain ⟨rfl, rfl⟩ := w.yields i H' x H2 hi trivial y
  exact ⟨.refl, r', .int (lo + (i : Nat)), by simp [xW, hi], .int _⟩
theorem R5 {o : List D → AH → Res (List D)} {σ : L2.St} {H : Hp} {R : It → Hp → Prop} {K : PySem.W.Frag} : Ck K W (wj o fr) σ H R → GB.clA (mj K W fr) σ H fun vs H1 => ∃ ds al h, HR K H1 al h ∧ bD K H1 al ds vs ∧ bL K (fun H al ds J => pB K J ds H al) H1 al (fun c d H' => W c d σ H') R (o ds h) := by
  rintro ⟨e, al, h, r, re, p⟩
  refine ⟨_, ⟨e, al, h, r, re, bL.bind p⟩, ?_⟩
  rintro vs H1 ⟨ds, bB, h1, l, r1, q, p1⟩
  exact ⟨ds, bB, h1, r1, q, p1⟩
theorem aaf {t : TA} {σ : L2.St} {H : Hp} {Q Q' : List V → Hp → Prop} (h : GB.clA t σ H Q) (i : ∀ v H, Q v H → Q' v H) : GB.clA t σ H Q' := by
  obtain ⟨P, hP, j⟩ := h
  exact ⟨P, hP, fun v H z => i _ _ (j v H z)⟩
theorem ahQ {tg : Expr} (hg : Gl X "range") (hm : X.mg "range" = none) (ha : PA X [a] (mj X.K W fr)) (hs : starEach [a] X.env = [(false, eval a X.env)] := by rfl) : PI X tg (.Call (.Name "range" p1) [a] [] pos) (Ck X.K W (wj acg fr)) :=
  (pi_range1 hg hm (GB.PA.cl ha) hs).weak fun σ H R h => by
    refine aaf (R5 h) ?_
    rintro vs H1 ⟨ds, bB, h1, r1, q, p1⟩
    unfold acg at p1
    split at p1
    · cases q with
      | cons q qs =>
        cases q
        cases qs
        split at p1
        · rename_i hb
          exact ⟨_, rfl, hb.1, hb.2, p1 _ _ _ .refl r1 aa8⟩
        · exact p1.elim
    · exact p1.elim
def wu : List D → List D → List D
  | d :: ds, e :: es => .tup [d, e] :: wu ds es
  | _, _ => []
theorem Gv : ∀ (ds es : List D), (wu ds es).length = min ds.length es.length
  | [], _ => by simp [wu]
  | _ :: _, [] => by simp [wu]
  | d :: ds, e :: es => by simp [wu, Gv ds es]
theorem aag : ∀ (ds es : List D) (i : Nat) (d e : D), ds[i]? = some d → es[i]? = some e → (wu ds es)[i]? = some (.tup [d, e])
  | [], _, i, d, e, h, _ => by simp at h
  | _ :: _, [], i, d, e, _, h => by simp at h
  | x :: ds, y :: es, 0, d, e, h, h2 => by simp at h h2; subst h h2; simp [wu]
  | x :: ds, y :: es, i + 1, d, e, h, h2 => by simpa [wu] using aag ds es i d e (by simpa using h) (by simpa using h2)
end
end PD
namespace PD
open PySem PySem.Spec PyProof.Rows L2
def kZ (X : Cx) (W : WX) (f : Value) (n : Nat) (ks : List Str) (m : List D → AH → Res D) : Prop :=
  ∀ (pins : List (Addr × Obj)) (s : Shared) (σ : L2.St) (H : Hp) (us ws : List Value) (vs zs : List V) (Q : VK), Inv X pins σ H s → Vals vs us → Vals zs ws → us.length = n → ws.length = ks.length →
    (∃ ds es al h, HR X.K H al h ∧ bD X.K H al ds vs ∧ bD X.K H al es zs ∧ qQ X.K H al (fun c d H' => W c d σ H') Q (m (ds ++ es) h)) →
    wpAny (model X.prog X.w) X.A (call f us (ks.zip ws)) (EP X pins σ Q) X.xe s
section
variable {X : Cx} {W : WX} {e o : Expr} {es : List Expr} {kws : List Keyword} {fo : ME} {fa fk : MA} {x : Str} {f : Value} {p pos apos : Pos} {n : Nat} {ks : List Str} {m : List D → AH → Res D}
theorem R6 {K : PySem.W.Frag} {k : Nat} {σ : L2.St} {H : Hp} {Q : VK} : rd K W (bf n k m fa fk) σ H Q → mj K W fa σ H fun vs H1 => mj K W fk σ H1 fun zs H2 => vs.length = n ∧ zs.length = k ∧
    ∃ ds es al h, HR K H2 al h ∧ bD K H2 al ds vs ∧ bD K H2 al es zs ∧ qQ K H2 al (fun c d H' => W c d σ H') Q (m (ds ++ es) h) := by
  rintro ⟨e, al, h, r, re, po⟩
  refine ⟨e, al, h, r, re, (bL.bind po).mono ?_⟩
  rintro vs H1 ⟨ds, bB, h1, l, r1, q, p1⟩
  refine ⟨e, bB, h1, r1, re.mono r l, (bL.bind p1).mono ?_⟩
  rintro zs H2 ⟨es, dU, h2, l2, r2, q2, p2⟩
  have q' := q.mono r1 l2
  split at p2
  · rename_i hl
    exact ⟨by rw [← q'.length]; exact hl.1, by rw [← q2.length]; exact hl.2, ds, es, dU, h2, r2, q', q2, p2⟩
  · exact p2.elim
theorem bV (c : kZ X W f n [] m) (hg : Gl X x) (hm : X.mg x = some f) (kp : PySem.W.keepIn X.K f = true) (ha : PA X (e :: es) (mj X.K W fa))
    (hdb : (x == ("__debug__" : Str)) = false := by decide) (he : starEach (e :: es) X.env = (false, eval e X.env) :: starEach es X.env := by rfl)
    (hpl : (backTo pos (starEach es X.env)).any (·.1) = false := by rfl) : PE X (.Call (.Name x p) (e :: es) [] pos) (rd X.K W (bf n 0 m fa aN)) := by
  constructor
  intro pins s σ H Q I h
  refine wpAny_Call_Name_kw (ld_glob I hg hm ?_ hdb)
  refine PySem.W.callWith_K (h₀ := X.base) I.ok.mod.kin kp (thn ((GB.PA.cl ha).run pos pins s σ H _ I ⟨_, R6 h, fun _ _ z => z⟩) ?_) he hpl
  rintro us s1 ⟨vs, H1, I1, r, ⟨e1, bB, h1, hr, hre, z⟩⟩
  obtain ⟨l1, l2, w⟩ := z [] H1 bB .refl hr .nil
  exact ⟨I1.kIn, c pins s1 σ H1 us [] vs [] Q I1 r .nil (r.length.symm.trans l1) rfl w⟩
theorem agp (c : kZ X W f 0 [] m) (hg : Gl X x) (hm : X.mg x = some f) (kp : PySem.W.keepIn X.K f = true)
    (hdb : (x == ("__debug__" : Str)) = false := by decide) : PE X (.Call (.Name x p) [] [] pos) (rd X.K W (bf 0 0 m aN aN)) := by
  constructor
  intro pins s σ H Q I h
  refine wpAny_Call_Name_kw (ld_glob I hg hm ?_ hdb)
  obtain ⟨e, al, h0, r, re, po⟩ := h
  exact PySem.W.callWith_K0 I.kIn kp (c pins s σ H [] [] [] [] Q I .nil .nil rfl rfl ⟨[], [], al, h0, r, .nil, .nil, po⟩)
theorem abu (c : kZ X W f n ks m) (hg : Gl X x) (hm : X.mg x = some f) (kp : PySem.W.keepIn X.K f = true) (ha : PA X (e :: es) (mj X.K W fa)) (hkw : PK X kws (mj X.K W fk))
    (hall : (backToKw pos (keywordEach kws X.env)).all (·.1.isSome) = true := by rfl) (hks : (backToKw pos (keywordEach kws X.env)).filterMap (·.1) = ks := by rfl)
    (hdb : (x == ("__debug__" : Str)) = false := by decide) (he : starEach (e :: es) X.env = (false, eval e X.env) :: starEach es X.env := by rfl)
    (hpl : ((backTo pos (starEach (e :: es) X.env)).any (·.1) || (backToKw pos (keywordEach kws X.env)).any (·.1.isNone)) = false := by rfl) :
    PE X (.Call (.Name x p) (e :: es) kws pos) (rd X.K W (bf n ks.length m fa fk)) := by
  constructor
  intro pins s σ H Q I h
  refine wpAny_Call_Name_kw (ld_glob I hg hm ?_ hdb)
  refine PySem.W.callWith_KW (h₀ := X.base) I.ok.mod.kin kp hall (thn (ha.run pos pins s σ H _ I (R6 h)) ?_) hpl he
  rintro us s1 ⟨vs, H1, I1, r, z⟩
  refine thn (hkw.run pos pins s1 σ H1 _ I1 z) ?_
  rintro ws s2 ⟨zs, H2, I2, rz, l1, l2, w⟩
  rw [hks]
  exact ⟨I2.kIn, c pins s2 σ H2 us ws vs zs Q I2 r rz (r.length.symm.trans l1) (rz.length.symm.trans l2) w⟩
end
structure Fd (P : Program) (w : World) (K : PySem.W.Frag) (mg : Str → Option Value) (base : Heap) (k : Nat) (f : Addr) (x q : Str) (st : Stmt) (dvs : List V) (kws : List (Str × V)) (ps : List Str) (m : List D → AH → Res D) : Prop where
  ex : ∃ fd, FunD K x q (defArgs st) (defBody st) (defScope st) dvs kws f fd ∧ GB.Fn P w K mg base (L2.CX P w) k f fd ps (Cg K m)
section
variable {P : Program} {w : World} {K : PySem.W.Frag} {mg : Str → Option Value} {base : Heap} {j k : Nat} {f : Addr} {x q : Str} {st : Stmt} {dvs : List V} {kws : List (Str × V)} {N ps : List Str} {m m' : List D → AH → Res D} {g : MS}
theorem Fd.mono (F : Fd P w K mg base j f x q st dvs kws ps m) (h : j ≤ k) : Fd P w K mg base k f x q st dvs kws ps m := by
  obtain ⟨fd, a, b⟩ := F.ex
  exact ⟨fd, a, b.mono h⟩
theorem aeK {H : Hp} {al : Al} {ds : List D} {vs : List V} (q : bD K H al ds vs) (n : Nat) : iQ K H al (ds.map some ++ List.replicate n none) (vs.map some ++ List.replicate n none) := by
  refine ⟨by simp [q.length], fun i d z => ?_⟩
  by_cases hi : i < ds.length
  · rw [List.getElem?_append_left (by simpa using hi), List.getElem?_map] at z
    obtain ⟨d', e1, e2⟩ := Option.map_eq_some_iff.mp z
    cases e2
    obtain ⟨v, e, rp⟩ := q.get e1
    refine ⟨v, ?_, rp⟩
    rw [List.getElem?_append_left (by simpa [← q.length] using hi), List.getElem?_map, e]
    rfl
  · rw [List.getElem?_append_right (by simpa using hi)] at z
    rw [List.getElem?_replicate] at z
    split at z <;> cases z
theorem Fd.of (T : GB.Dn K f x q st dvs kws) (S : FnScope N ps (defScope st))
    (hb : ∀ (cdv : Value) (A : Around) (outer : List Env) (s : Shared) (H : Hp) (E : XK), Room k (A.deeper (envOfC q (defScope st) s.heap.objs.size f cdv)) → A.guards = some [] →
      PSs (cxOf (L2.CX P w) P w K mg base N q (defScope st) f cdv A outer s H E) (defBody st) (lu K (fun c d _ H' => E c d H') g)) :
    Fd P w K mg base (k + 1) f x q st dvs kws ps (body ps.length N.length g) := by
  obtain ⟨fd, F⟩ := T
  have len : ∀ vs H Q E, Cg K (body ps.length N.length g) vs H Q E → vs.length = ps.length := by
    rintro vs H Q E ⟨ds, al, h, r, rp, po⟩
    unfold body at po
    split at po
    · rename_i hl
      rw [← rp.length]
      exact hl
    · exact po.elim
  refine ⟨fd, F, GB.fnG F S len ?_⟩
  intro cdv A outer s H vs Q E hr hG h
  have hl := len _ _ _ _ h
  refine ⟨_, hb cdv A outer s H E hr hG, ?_⟩
  obtain ⟨ds, al, h, r, rp, po⟩ := h
  unfold body at po
  have hd : ds.length = ps.length := by rw [rp.length]; exact hl
  rw [if_pos hd] at po
  refine ⟨ds.map some ++ List.replicate (N.length - ps.length) none, al, h, r, ?_, ?_⟩
  · have e : start N vs = vs.map some ++ List.replicate (N.length - ps.length) none := by unfold L2.start; rw [hl]
    rw [e]
    exact aeK rp _
  · cases z : g (ds.map some ++ List.replicate (N.length - ps.length) none) h with
    | nx e' h' => rw [z] at po; exact fun st H' aU l r' re => po .non H' aU l r' .non
    | rt d h' => rw [z] at po; exact po
    | exc c fs e' h' => rw [z] at po; exact fun a st H' aU gs l r' re e q => po a H' aU gs l r' e q
    | bk e' h' => rw [z] at po; exact po.elim
    | ct e' h' => rw [z] at po; exact po.elim
    | stuck => rw [z] at po; exact po.elim
def Bd (K : PySem.W.Frag) (x q : Str) (st : Stmt) (dvs : List V) (kws : List (Str × V)) (f : Addr) (ps : List Str) (n : Nat) (ks : List Str) (dv : List V) (is : List Nat) : Prop :=
  ∀ fd, FunD K x q (defArgs st) (defBody st) (defScope st) dvs kws f fd → ∃ g, KBn K fd ps n ks g (fun vs zs => GB.picked (vs ++ zs ++ dv) is)
theorem bD.picked {H : Hp} {al : Al} {ds : List D} {vs : List V} (r : bD K H al ds vs) : ∀ is : List Nat, bD K H al (GB.picked ds is) (GB.picked vs is)
  | [] => .nil
  | i :: is => by
    have ih := bD.picked r is
    unfold GB.picked at ih ⊢
    rw [List.filterMap_cons, List.filterMap_cons]
    cases e : ds[i]? with
    | none =>
      have : vs[i]? = none := by
        rw [List.getElem?_eq_none_iff] at e ⊢
        rw [← r.length]
        exact e
      rw [this]
      exact ih
    | some d =>
      obtain ⟨v, hv, rv⟩ := r.get e
      rw [hv]
      exact .cons rv ih
theorem Bd.all {n : Nat} {ks : List Str} {is : List Nat} (hbd : ∀ (kV doc pm : Value) (an : Option Addr) (cdv ct : Value) (us ws : List Value), us.length = n → ws.length = ks.length →
      bindArgs (PySem.W.fnOf x q (defArgs st) (defBody st) (defScope st) .none kV doc pm an cdv ct) ⟨us, ks.zip ws⟩ = pure (ps.zip (GB.picked (us ++ ws) is))) : Bd K x q st [] kws f ps n ks [] is := by
  rintro fd F
  obtain ⟨oc, od, dV, kV, doc, pm, an, cdv, ct, osl, rfl, lk, hcd, hD, hK⟩ := F.ex
  have hdv : dV = .none := by
    rcases hD with ⟨_, e⟩ | ⟨e, _⟩
    · exact e
    · exact absurd rfl e
  subst hdv
  refine ⟨fun us ws => GB.picked (us ++ ws) is, ⟨fun s us ws _ l1 l2 => .of_eq (hbd kV doc pm an cdv ct us ws l1 l2), fun r1 r2 => ?_⟩⟩
  rw [List.append_nil]
  exact GB.zm (r1.append r2) is
end
section
variable {X : Cx} {W : WX} {k n : Nat} {f C : Addr} {x q : Str} {st : Stmt} {dvs dv : List V} {kws : List (Str × V)} {ps ks : List Str} {m : List D → AH → Res D} {dd : List D} {is : List Nat}
theorem Fd.calls (F : Fd X.prog X.w X.K X.mg X.base k f x q st dvs kws ps m) (hr : Room k X.A) (ct : cC X W) (b : Bd X.K x q st dvs kws f ps n ks dv is) (hd : ∀ H al, bD X.K H al dd dv) :
    kZ X W (.ref f) n ks (fun ds => m (GB.picked (ds ++ dd) is)) := by
  obtain ⟨fd, D1, F1⟩ := F.ex
  obtain ⟨g, B⟩ := b fd D1
  rintro pins s σ H us ws vs zs Q I r rz l1 l2 ⟨ds, es, al, h, hr1, q1, q2, po⟩
  refine wpAny_call (codeAny_mono (F1.go X.A X.stack s H ⟨us, ks.zip ws⟩ (g us ws) _ Q (fun c d H' => W c d σ H') hr ct.gd I.env0 (B.to s us ws I.kIn l1 l2) (B.rel r rz) ⟨_, al, h, hr1, ((q1.append q2).append (hd H al)).picked is, po⟩) ?_)
  rintro (err | fl) s' z
  · exact passAt ct.tk σ pins H s err s' I z
  · match fl, z with
    | .ret u, z => exact I.after z
def oh (c : Str) (m : List D → AH → Res D) : List D → AH → Res D := fun ds h => match m (.ref h.length :: ds) (h ++ [.ins c []]) with
  | .ok .non h' => .ok (.ref h.length) h'
  | .exc c fs h' => .exc c fs h'
  | _ => .stuck
theorem Fd.makes {c : Str} (M : Mk X.K (He.ga X.K c) f) (F : Fd X.prog X.w X.K X.mg X.base k f x q st dvs kws ps m) (hr : Room (k + 1) X.A) (ct : cC X W) (b : Bd X.K x q st dvs kws f ps (n + 1) ks dv is) (hd : ∀ H al, bD X.K H al dd dv) :
    kZ X W (.ref (He.ga X.K c)) n ks (oh c fun ds => m (GB.picked (ds ++ dd) is)) := by
  obtain ⟨fd, D1, F1⟩ := F.ex
  obtain ⟨g, B⟩ := b fd D1
  rintro pins s σ H us ws vs zs Q I r rz l1 l2 ⟨ds, es, al, h, hr1, q1, q2, po⟩
  let a := s.heap.objs.size + 1
  let dx := s.heap.objs.size
  have ha : H a = none := I.hok.fresh (Nat.le_succ _)
  have hdx : H dx = none := I.hok.fresh (Nat.le_refl _)
  have hne : dx ≠ a := Nat.ne_of_lt (Nat.lt_succ_self _)
  have I2 := Inv.made (C := He.ga X.K c) I
  have hr2 := hr1.fresh (o := .own a) hdx
  have l0 := Le.fresh (o := .own a) hr1 hdx
  have ha2 : upd H dx (.own a) a = none := by rw [upd_ne (Ne.symm hne)]; exact ha
  obtain ⟨hr3, l3⟩ := hr2.push (o := .ins (He.ga X.K c) dx []) (c := .ins c []) ha2 fun H' aU _ e => ⟨dx, [], e, .nil⟩
  have l03 := l0.trans l3
  have self : Rp X.K (upd (upd H dx (.own a)) a (.ins (He.ga X.K c) dx [])) ⟨al.c ++ [a], al.r⟩ (.ref h.length) (.ref a) := .ref (by show (al.c ++ [a])[h.length]? = some a; rw [← hr1.len]; simp)
  have rS : Vals (V.ref a :: vs) (Value.ref a :: us) := .cons rfl r
  have e1 : (Value.ref a :: us).length = n + 1 := congrArg Nat.succ l1
  refine wpAny_call (make_map (f := f) I.kIn M.makes M.init (beq_iff_eq.mp M.fn) (codeAny_mono (F1.go _ X.stack _ _ ⟨Value.ref a :: us, ks.zip ws⟩ (g (Value.ref a :: us) ws) _ (fun v H2 => v = .non ∧ Q (.ref a) H2) (fun c d H' => W c d σ H')
    (hr.make (He.ga X.K c) us (ks.zip ws)) ct.gd (I2.env0.make (He.ga X.K c) us (ks.zip ws)) (B.to _ (Value.ref a :: us) ws I2.kIn e1 l2) (B.rel rS rz) ⟨_, _, _, hr3, (((bD.cons self (q1.mono hr1 l03)).append (q2.mono hr1 l03)).append (hd _ _)).picked is, ?_⟩) ?_))
  · unfold oh at po
    have ee : (D.ref h.length :: ds ++ es ++ dd) = D.ref h.length :: (ds ++ es) ++ dd := by simp
    rw [ee]
    cases z : m (GB.picked (D.ref h.length :: (ds ++ es) ++ dd) is) (h ++ [.ins c []]) with
    | ok d h' =>
      dsimp only at po
      rw [z] at po
      cases d with
      | non =>
        intro v H' aU l r' rp
        cases rp
        exact ⟨rfl, po _ H' aU (l03.trans l) r' (self.mono hr3 l)⟩
      | _ => exact po.elim
    | exc c' fs h' =>
      dsimp only at po
      rw [z] at po
      exact fun a' H' aU gs l r' e q => po a' H' aU gs (l03.trans l) r' e q
    | stuck =>
      dsimp only at po
      rw [z] at po
      exact po.elim
  · rintro (err | fl) s' z
    · exact passAt ct.tk σ pins _ _ err s' I2 z
    · match fl, z with
      | .ret u, z =>
        obtain ⟨v, H', I3, rv, ev, q3⟩ := I2.after z
        subst ev
        exact ⟨rv, ⟨V.ref a, H', I3, rfl, q3⟩⟩
end
end PD
namespace PD
open PySem PySem.Spec PyProof.Rows L2
mutual
def Gx (n : Nat) : D → Prop
  | .tup ds => tV n ds
  | .lst ds => tV n ds
  | .dW ds => tV n ds
  | .obj _ fs => zN n fs
  | .ref k => k < n
  | _ => True
def tV (n : Nat) : List D → Prop
  | [] => True
  | d :: ds => Gx n d ∧ tV n ds
def zN (n : Nat) : List (Str × D) → Prop
  | [] => True
  | (_, d) :: fs => Gx n d ∧ zN n fs
end
section
variable {K : PySem.W.Frag} {H H' : Hp} {al aU : Al} {h h' : AH}
mutual
theorem Rp.low : ∀ {d : D} {v : V}, Rp K H al d v → Gx al.c.length d
  | _, _, .non => trivial
  | _, _, .bl _ => trivial
  | _, _, .int _ => trivial
  | _, _, .str _ => trivial
  | _, _, .ty _ => trivial
  | _, _, .glo _ => trivial
  | _, _, .ref e => (List.getElem?_eq_some_iff.mp e).1
  | _, _, .tup _ q => bD.low q
  | _, _, .lst _ q => bD.low q
  | _, _, .dW _ q => bD.low q
  | _, _, .obj _ _ q => eE.low q
theorem bD.low : ∀ {ds : List D} {vs : List V}, bD K H al ds vs → tV al.c.length ds
  | _, _, .nil => trivial
  | _, _, .cons q qs => ⟨Rp.low q, bD.low qs⟩
theorem eE.low : ∀ {ds : List (Str × D)} {vs : List (Str × V)}, eE K H al ds vs → zN al.c.length ds
  | _, _, .nil => trivial
  | _, _, .cons q qs => ⟨Rp.low q, eE.low qs⟩
end
variable {c t r : List Addr}
theorem tW {a : Addr} (n : ¬ Al.has ⟨c ++ t, r⟩ a) : ¬ Al.has ⟨c, r⟩ a := fun z => n (z.elim (fun w => .inl (List.mem_append_left _ w)) .inr)
mutual
theorem Rp.less : ∀ {d : D} {v : V}, Rp K H ⟨c ++ t, r⟩ d v → Gx c.length d → Rp K H ⟨c, r⟩ d v
  | _, _, .non, _ => .non
  | _, _, .bl b, _ => .bl b
  | _, _, .int i, _ => .int i
  | _, _, .str x, _ => .str x
  | _, _, .ty n, _ => .ty n
  | _, _, .glo x, _ => .glo x
  | _, _, .ref (n := n) e, w => .ref (by
    have e' : (c ++ t)[n]? = _ := e
    rw [List.getElem?_append_left (show n < c.length from w)] at e'
    exact e')
  | _, _, .tup s q, w => .tup s (bD.less q w)
  | _, _, .lst s q, w => .lst ⟨s.1, tW s.2⟩ (bD.less q w)
  | _, _, .dW s q, w => .dW (s.elim (fun ⟨o, z⟩ => .inl ⟨o, z.1, tW z.2⟩) .inr) (bD.less q w)
  | _, _, .obj e n q, w => .obj e (tW n) (eE.less q w)
theorem bD.less : ∀ {ds : List D} {vs : List V}, bD K H ⟨c ++ t, r⟩ ds vs → tV c.length ds → bD K H ⟨c, r⟩ ds vs
  | _, _, .nil, _ => .nil
  | _, _, .cons q qs, w => .cons (Rp.less q w.1) (bD.less qs w.2)
theorem eE.less : ∀ {ds : List (Str × D)} {vs : List (Str × V)}, eE K H ⟨c ++ t, r⟩ ds vs → zN c.length ds → eE K H ⟨c, r⟩ ds vs
  | _, _, .nil, _ => .nil
  | _, _, .cons q qs, w => .cons (Rp.less q w.1) (eE.less qs w.2)
end
theorem fQ.less {x : Cell} {a : Addr} {K0 : PySem.W.Frag} {H0 : Hp} {r0 : List Addr} {a0 : Addr} (q : fQ K H ⟨c ++ t, r⟩ a x) (q0 : fQ K0 H0 ⟨c, r0⟩ a0 x) : fQ K H ⟨c, r⟩ a x := by
  cases x with
  | lst ds =>
    obtain ⟨vs, z, q⟩ := q
    obtain ⟨_, _, q0⟩ := q0
    exact ⟨vs, z, q.less q0.low⟩
  | dict kvs =>
    obtain ⟨ws, z, k, q⟩ := q
    obtain ⟨_, _, _, q0⟩ := q0
    exact ⟨ws, z, k, q.less q0.low⟩
  | ins c fs =>
    obtain ⟨dx, gs, z, q⟩ := q
    obtain ⟨_, _, _, q0⟩ := q0
    exact ⟨dx, gs, z, q.less q0.low⟩
  | dO kvs =>
    obtain ⟨o, ws, z, k, q⟩ := q
    obtain ⟨_, _, _, _, q0⟩ := q0
    exact ⟨o, ws, z, k, q.less q0.low⟩
theorem HR.less {x : Cell} {a : Addr} (r0 : HR K H al h) (l : Le H al H' aU) (r1 : HR K H' aU (h ++ [x])) (e : aU.c[h.length]? = some a) : HR K H' al h ∧ Le H al H' al ∧ ¬ al.has a ∧ aU.c = al.c ++ [a] ∧ fQ K H' aU a x := by
  obtain ⟨t, ht⟩ := l.pre
  obtain ⟨c', r'⟩ := aU
  obtain rfl : r' = al.r := l.v9
  obtain rfl : c' = al.c ++ t := ht
  have hlen : (al.c ++ t).length = h.length + 1 := by simpa using r1.len
  have htl : t.length = 1 := by
    have := r0.len
    simp only [List.length_append] at hlen
    omega
  obtain ⟨b, rfl⟩ := List.length_eq_one_iff.mp htl
  have e' : (al.c ++ [b])[h.length]? = some a := e
  rw [← r0.len] at e'
  simp at e'
  subst e'
  refine ⟨⟨r0.nd, r0.len, r0.dis, r1.rs, fun n x a e1 e2 => ?_⟩, ⟨⟨[], by simp⟩, rfl, l.keep, l.res, fun _ z => .inl z, l.lk⟩, fun z => ?_, rfl, ?_⟩
  · have hn := (List.getElem?_eq_some_iff.mp e1).1
    have hn2 := (List.getElem?_eq_some_iff.mp e2).1
    refine (r1.at_ n x a ?_ ?_).less (r0.at_ n x a e1 e2)
    · rw [List.getElem?_append_left hn]
      exact e1
    · show (al.c ++ [b])[n]? = some a
      rw [List.getElem?_append_left hn2]
      exact e2
  · rcases z with z | z
    · have nd : (al.c ++ [b]).Nodup := r1.nd
      rw [List.nodup_append] at nd
      exact nd.2.2 b z b (List.mem_singleton.mpr rfl) rfl
    · exact r1.dis b (List.mem_append_right _ (List.mem_singleton.mpr rfl)) z
  · exact r1.at_ h.length x b (by simp) e
end
open Classical in
noncomputable def aeL (h : AH) (n : Nat) (h' : AH) : Res D := if n = h.length ∧ ∃ x, h' = h ++ [x] then match h'[n]? with
      | some (.ins c fs) => if zN n fs then .ok (.obj c fs) h else .stuck
      | some (.lst ds) => if tV n ds then .ok (.lst ds) h else .stuck
      | _ => .stuck
    else .stuck
noncomputable def frz (h : AH) : Res D → Res D
  | .ok d h' => match d with
    | .ref n => aeL h n h'
    | d => .ok d h'
  | r => r
theorem agq {h h' : AH} {n : Nat} : frz h (.ok (.ref n) h') = aeL h n h' := rfl
theorem abv {K : PySem.W.Frag} {H : Hp} {al : Al} {h : AH} {E : XK} {Q : VK} {m : Res D} (r : HR K H al h) (p : qQ K H al E Q (frz h m)) : qQ K H al E Q m := by
  cases m with
  | exc c fs h' => exact p
  | stuck => exact p
  | ok d h' =>
    cases d with
    | ref n =>
      intro v H' aU l r' rp
      rw [agq] at p
      unfold aeL at p
      split at p
      · rename_i hc
        obtain ⟨rfl, x, rfl⟩ := hc
        cases rp with
        | ref e =>
          obtain ⟨r2, l2, na, hc, ok⟩ := r.less l r' e
          rw [show (h ++ [x])[h.length]? = some x by simp] at p
          obtain ⟨c', rr⟩ := aU
          obtain rfl : rr = al.r := l.v9
          obtain rfl : c' = _ := hc
          cases x with
          | ins c fs =>
            dsimp only at p
            split at p
            · rename_i w
              obtain ⟨dx, gs, e1, q⟩ := ok
              exact p _ H' al l2 r2 (.obj e1 na (eE.less q (by rw [r.len]; exact w)))
            · exact p.elim
          | lst ds =>
            dsimp only at p
            split at p
            · rename_i w
              obtain ⟨vs, e1, q⟩ := ok
              exact p _ H' al l2 r2 (.lst ⟨e1, na⟩ (bD.less q (by rw [r.len]; exact w)))
            · exact p.elim
          | dict kvs => exact p.elim
          | dO kvs => exact p.elim
      · exact p.elim
    | _ => exact p
theorem kZ.frz {X : Cx} {W : WX} {f : Value} {n : Nat} {ks : List Str} {m : List D → AH → Res D} (c : kZ X W f n ks m) : kZ X W f n ks (fun ds h => PD.frz h (m ds h)) := by
  rintro pins s σ H us ws vs zs Q I r rz l1 l2 ⟨ds, es, al, h, hr, q1, q2, po⟩
  exact c pins s σ H us ws vs zs Q I r rz l1 l2 ⟨ds, es, al, h, hr, q1, q2, abv hr po⟩
theorem Fd.frz {P : Program} {w : World} {K : PySem.W.Frag} {mg : Str → Option Value} {base : Heap} {k : Nat} {f : Addr} {x q : Str} {st : Stmt} {dvs : List V} {kws : List (Str × V)} {ps : List Str} {m : List D → AH → Res D}
    (F : Fd P w K mg base k f x q st dvs kws ps m) : Fd P w K mg base k f x q st dvs kws ps (fun ds h => PD.frz h (m ds h)) := by
  obtain ⟨fd, a, b⟩ := F.ex
  exact ⟨fd, a, b.imp fun vs H Q E ⟨ds, al, h, r, rp, po⟩ => ⟨ds, al, h, r, rp, abv r po⟩⟩
def clsOf : D → AH → Option (Str × List (Str × D))
  | .obj c fs, _ => some (c, fs)
  | .ref n, h => match h[n]? with
    | some (.ins c fs) => some (c, fs)
    | _ => none
  | _, _ => none
def fB (cs : List Str) (f : Str) (d : D) (h : AH) : Res D := match clsOf d h with
  | some (c, fs) => if c ∈ cs then match fs.lookup f with
      | some v => .ok v h
      | none => .stuck
    else .stuck
  | none => .stuck
def aY (cs : List Str) (f : Str) (fo : ME) : ME := fun e h => (fo e h).bind fun d h1 => fB cs f d h1
theorem Gy {K : PySem.W.Frag} {H : Hp} {al : Al} {h : AH} {d : D} {v : V} {c : Str} {fs : List (Str × D)} (r : HR K H al h) (q : Rp K H al d v) (e : clsOf d h = some (c, fs)) : ∃ a dx gs, v = .ref a ∧ H a = some (.ins (He.ga K c) dx gs) ∧ eE K H al fs gs := by
  cases q with
  | obj e1 n q =>
    cases e
    exact ⟨_, _, _, rfl, e1, q⟩
  | ref e1 =>
    obtain ⟨x, hx, ok⟩ := r.cell e1
    simp only [clsOf, hx] at e
    cases x with
    | ins c fs =>
      cases e
      obtain ⟨dx, gs, e2, q⟩ := ok
      exact ⟨_, _, _, rfl, e2, q⟩
    | lst ds => cases e
    | dict ds => cases e
    | dO ds => cases e
  | _ => cases e
theorem eE.lookup {K : PySem.W.Frag} {H : Hp} {al : Al} {f : Str} {d : D} : ∀ {fs : List (Str × D)} {gs : List (Str × V)}, eE K H al fs gs → fs.lookup f = some d → ∃ v, gs.lookup f = some v ∧ Rp K H al d v
  | _, _, .nil, e => by cases e
  | _, _, .cons (f := g) q qs, e => by
    rw [List.lookup_cons] at e ⊢
    cases z : f == g with
    | true =>
      rw [z] at e
      cases e
      exact ⟨_, rfl, q⟩
    | false =>
      rw [z] at e
      exact eE.lookup qs e
theorem eE.Q8 {K : PySem.W.Frag} {H : Hp} {al : Al} {f : Str} : ∀ {fs : List (Str × D)} {gs : List (Str × V)}, eE K H al fs gs → fs.lookup f = none → gs.lookup f = none
  | _, _, .nil, e => rfl
  | _, _, .cons (f := g) q qs, e => by
    rw [List.lookup_cons] at e ⊢
    cases z : f == g with
    | true =>
      rw [z] at e
      cases e
    | false =>
      rw [z] at e
      exact eE.Q8 qs e
theorem eE.length {K : PySem.W.Frag} {H : Hp} {al : Al} : ∀ {fs : List (Str × D)} {gs : List (Str × V)}, eE K H al fs gs → fs.length = gs.length
  | _, _, .nil => rfl
  | _, _, .cons _ qs => by simp [eE.length qs]
def putD (f : Str) (v : D) : List (Str × D) → List (Str × D)
  | [] => [(f, v)]
  | (g, x) :: r => if g = f then (g, v) :: r else (g, x) :: putD f v r
theorem eE.put {K : PySem.W.Frag} {H : Hp} {al : Al} {f : Str} {d : D} {v : V} (p : Rp K H al d v) : ∀ {fs : List (Str × D)} {gs : List (Str × V)}, eE K H al fs gs → eE K H al (putD f d fs) (putF f v gs)
  | _, _, .nil => .cons p .nil
  | _, _, .cons (f := g) q qs => by
    unfold putD putF
    by_cases z : g = f
    · rw [if_pos z, if_pos z]
      exact .cons p qs
    · rw [if_neg z, if_neg z]
      exact .cons q (eE.put p qs)
section
variable {X : Cx} {W : WX} {e o v : Expr} {es : List Expr} {kws : List Keyword} {fo fv : ME} {fa fk : MA} {x f mn : Str} {p p1 p2 pos pos' apos : Pos} {n : Nat} {ks cs : List Str} {m : List D → AH → Res D}
theorem cR (hC : ∀ c ∈ cs, Cls X.K (He.ga X.K c) ∧ NoAttr X.K (He.ga X.K c) f) (ho : PE X o (rd X.K W fo)) (hb : attributeBase o f X.env (eval o X.env) = eval o X.env := by rfl) : PE X (.Attribute o f pos) (rd X.K W (aY cs f fo)) :=
  (pe_fld ho hb).weak fun σ H Q ⟨e, al, h, r, re, po⟩ => by
    refine ⟨e, al, h, r, re, (bL.bind po).mono ?_⟩
    rintro v H1 ⟨d, bB, h1, l, r1, q, p1⟩
    unfold fB at p1
    split at p1
    · rename_i c fs hcl
      obtain ⟨a, dx, gs, rfl, e1, qf⟩ := Gy r1 q hcl
      split at p1
      · rename_i hm
        split at p1
        · rename_i d' hl
          obtain ⟨w, e2, q2⟩ := qf.lookup hl
          exact ⟨a, _, dx, gs, w, rfl, e1, (hC c hm).1, (hC c hm).2, e2, p1 _ _ _ .refl r1 q2⟩
        · exact p1.elim
      · exact p1.elim
    · exact p1.elim
def eX (cs : List Str) (f : Str) (e : En) (o y : D) (h : AH) : RS := match o with
  | .ref n => match h[n]? with
    | some (.ins c fs) => if c ∈ cs ∧ fs.length < 1000 then .nx e (h.set n (.ins c (putD f y fs))) else .stuck
    | _ => .stuck
  | _ => .stuck
def bO (cs : List Str) (f : Str) (fo fv : ME) : MS := fun e h => (fv e h).st e fun y h1 => (fo e h1).st e fun o h2 => eX cs f e o y h2
theorem gQ (hC : ∀ c ∈ cs, Cls X.K (He.ga X.K c) ∧ NoAttr X.K (He.ga X.K c) f) (ho : PE X o (rd X.K W fo)) (hv : PE X v (rd X.K W fv)) (hs : swapsWith v (some (.Attribute o f pos')) pos.line X.env = pure false := by rfl) :
    PS X (.Assign [.Attribute o f pos'] v pos) (lu X.K W (bO cs f fo fv)) :=
  (ps_fld ho hv hs).weak fun N σ H ⟨e, al, h, r, re, po⟩ => by
    refine ⟨e, al, h, r, re, (jM r re po).mono ?_⟩
    rintro y H1 ⟨d, bB, h1, l, r1, q, p1⟩
    refine ⟨e, bB, h1, r1, re.mono r l, (jM r1 (re.mono r l) p1).mono ?_⟩
    rintro w H2 ⟨d2, dU, h2, l2, r2, q2, p2⟩
    unfold eX at p2
    split at p2
    · rename_i n
      split at p2
      · rename_i c fs hx
        split at p2
        · rename_i hc
          cases q2 with
          | ref ea =>
            obtain ⟨dx, gs, e1, qf⟩ := r2.at_ n _ _ hx ea
            obtain ⟨r3, l3⟩ := r2.put (o := .ins (He.ga X.K c) dx (putF f y gs)) (c := .ins c (putD f d fs)) ea fun H' aU l' e' => ⟨dx, _, e', (qf.mono r2 l').put ((q.mono r1 l2).mono r2 l')⟩
            exact ⟨_, _, dx, gs, rfl, e1, (hC c hc.1).1, (hC c hc.1).2, by rw [← qf.length]; exact hc.2, p2 _ _ _ l3 r3 (((re.mono r l).mono r1 l2).mono r2 l3)⟩
        · exact p2.elim
      · exact p2.elim
    · exact p2.elim
def U7 (cs : List Str) (mn : Str) (d : D) (h : AH) : Prop := ∃ c fs, clsOf d h = some (c, fs) ∧ c ∈ cs ∧ fs.lookup mn = none
open Classical in
noncomputable def dZ (cs : List Str) (mn : Str) (n : Nat) (m : List D → AH → Res D) (fo : ME) (fa : MA) : ME := fun e h => (fo e h).bind fun d h1 =>
  if U7 cs mn d h1 then (fa e h1).bind fun ds h2 => if ds.length = n then m (d :: ds) h2 else .stuck else .stuck
theorem sE {f : Addr} {pl : Sem Bool} (hM : ∀ c ∈ cs, Cls X.K (He.ga X.K c) ∧ Meth X.K (He.ga X.K c) mn f) (c : kZ X W (.ref f) (n + 1) [] m) (ho : PE X o (rd X.K W fo)) (ha : PA X (e :: es) (mj X.K W fa))
    (hst : starEach (e :: es) X.env = (false, eval e X.env) :: starEach es X.env := by rfl) (hpl : (backTo pos (starEach es X.env)).any (·.1) = false := by rfl)
    (ht : eval (.Call (.Attribute o mn apos) (e :: es) [] pos) X.env = (eval o X.env >>= fun ov => standAt apos.atName >>= fun _ => holding [ov] (getMethod ov mn pl) >>= fun fp => callWith pos fp.1 fp.2 (backTo pos (starEach (e :: es) X.env)) (backToKw pos (keywordEach [] X.env))) := by rfl) :
    PE X (.Call (.Attribute o mn apos) (e :: es) [] pos) (rd X.K W (dZ cs mn n m fo fa)) := by
  constructor
  rintro pins s σ H Q I ⟨en, al, h, r, re, po⟩
  refine PySem.W.methodCall_KW (pl := pl) (thn (ho.run pins s σ H _ I ⟨en, al, h, r, re, bL.bind po⟩) ?_) ht
  rintro u s1 ⟨v, H1, I1, rx, d, bB, h1, l, r1, q, p1⟩
  split at p1
  · rename_i hc
    obtain ⟨cn, fs, hcl, hmem, hl⟩ := hc
    obtain ⟨a, dx, gs, rfl, e1, qf⟩ := Gy r1 q hcl
    obtain rfl : u = Value.ref a := rx
    obtain ⟨cl, hmC⟩ := hM cn hmem
    refine getmeth_ok I1 e1 cl hmC (qf.Q8 hl) ?_
    refine PySem.W.callWith_K (first := [.ref a]) (h₀ := X.base) I.ok.mod.kin hmC.kp (thn (ha.run pos pins s1 σ H1 _ I1 ⟨en, bB, h1, r1, re.mono r l, bL.bind p1⟩) ?_) hst hpl
    rintro us s2 ⟨vs, H2, I2, rv, ds, dU, h2, l2, r2, q2, p2⟩
    refine ⟨I2.kIn, ?_⟩
    split at p2
    · rename_i hn
      exact c pins s2 σ H2 (.ref a :: us) [] (.ref a :: vs) [] Q I2 (.cons rfl rv) .nil (congrArg Nat.succ (rv.length.symm.trans (q2.length.symm.trans hn))) rfl ⟨d :: ds, [], dU, h2, r2, .cons (q.mono r1 l2) q2, .nil, by rw [List.append_nil]; exact p2⟩
    · exact p2.elim
  · exact p1.elim
theorem agr {f : Addr} {pl : Sem Bool} (hM : ∀ c ∈ cs, Cls X.K (He.ga X.K c) ∧ Meth X.K (He.ga X.K c) mn f) (c : kZ X W (.ref f) 1 [] m) (ho : PE X o (rd X.K W fo))
    (ht : eval (.Call (.Attribute o mn apos) [] [] pos) X.env = (eval o X.env >>= fun ov => standAt apos.atName >>= fun _ => holding [ov] (getMethod ov mn pl) >>= fun fp => callWith pos fp.1 fp.2 (backTo pos (starEach [] X.env)) (backToKw pos (keywordEach [] X.env))) := by rfl) :
    PE X (.Call (.Attribute o mn apos) [] [] pos) (rd X.K W (dZ cs mn 0 m fo aN)) := by
  constructor
  rintro pins s σ H Q I ⟨en, al, h, r, re, po⟩
  refine PySem.W.methodCall_KW (pl := pl) (thn (ho.run pins s σ H _ I ⟨en, al, h, r, re, bL.bind po⟩) ?_) ht
  rintro u s1 ⟨v, H1, I1, rx, d, bB, h1, l, r1, q, p1⟩
  split at p1
  · rename_i hc
    obtain ⟨cn, fs, hcl, hmem, hl⟩ := hc
    obtain ⟨a, dx, gs, rfl, e1, qf⟩ := Gy r1 q hcl
    obtain rfl : u = Value.ref a := rx
    obtain ⟨cl, hmC⟩ := hM cn hmem
    refine getmeth_ok I1 e1 cl hmC (qf.Q8 hl) ?_
    exact PySem.W.callWith_K0 (first := [.ref a]) I1.kIn hmC.kp (c pins s1 σ H1 [.ref a] [] [.ref a] [] Q I1 (.cons rfl .nil) .nil rfl rfl ⟨[d], [], bB, h1, r1, .cons q .nil, .nil, p1⟩)
  · exact p1.elim
def Cm (c : Str) (mk : List D → Option (List (Str × D))) (fa : MA) : MS := fun e h => (fa e h).st e fun ds h1 => match mk ds with
  | some fs => if ds.length ≤ 1000 then .exc c fs e h1 else .stuck
  | none => .stuck
theorem Q9 {k : Nat} {ps names : List Str} {mk : List D → Option (List (Str × D))} {mkV : List V → Option (List (Str × V))} (c : GB.Fp X.prog X.w X.K X.mg X.base k x ps names mkV) (hr : Room (k + 1) X.A) (hc : X.calm = true) (ct : cC X W) (hg : Gl X x) (ha : PA X (e :: es) (mj X.K W fa))
    (hmk : ∀ H al ds vs fs, bD X.K H al ds vs → mk ds = some fs → ∃ gs, mkV vs = some gs ∧ eE X.K H al fs gs)
    (hdb : (x == ("__debug__" : Str)) = false := by decide) (he : starEach (e :: es) X.env = (false, eval e X.env) :: starEach es X.env := by rfl) (hpl : (backTo pos (starEach es X.env)).any (·.1) = false := by rfl) :
    PS X (.Raise (some (.Call (.Name x p) (e :: es) [] pos)) none pos') (lu X.K W (Cm x mk fa)) :=
  (GB.acS c hr hc ct.tk hg (GB.PA.cl ha) hdb he hpl).weak fun N σ H ⟨en, al, h, r, re, po⟩ => by
    refine ⟨_, ⟨en, al, h, r, re, jM r re po⟩, ?_⟩
    rintro vs H1 ⟨ds, bB, h1, l, r1, q, p1⟩
    split at p1
    · rename_i fs hfs
      split at p1
      · rename_i hl
        obtain ⟨gs, e1, qf⟩ := hmk H1 bB ds vs fs q hfs
        refine ⟨by rw [← q.length]; exact hl, gs, e1, fun d H2 hd e2 => ?_⟩
        subst e2
        have lf := Le.fresh (o := .xd gs) r1 hd
        exact p1 d σ _ bB gs lf (r1.fresh hd) ((re.mono r l).mono r1 lf) upd_same (qf.mono r1 lf)
      · exact p1.elim
    · exact p1.elim
end
end PD
namespace PD
open PySem PySem.Spec PyProof.Rows L2
theorem aeM (l : Addr) (xs : Array Value) (n : Nat) (q : Option Addr) (sl : Array (Option Value)) (k : Int) (u : Tok) (c0 : (decide (k < -(2 ^ 63)) || decide (k ≥ 2 ^ 63)) = false) (c1 : (xs.isEmpty || k == 1) = true) :
    Meets (Builtin.«tuple.__mul__» ⟨[.ref l, .int k u], []⟩) (fun _ R s => s.heap.get? l = some ⟨.type "tuple", q, .seq xs n, sl⟩ ∧ R (.ok (.ret (.ref l))) s) :=
  .of_wp fun prog w A R s h => by
    obtain ⟨hp, g, d, tk, os⟩ := s
    obtain ⟨hl, h⟩ := h
    have f1 := AutoSeq1.idx_int
    wp_walk using wpAny_loadPart' hl
    refine wpAny_ite_false (decide_eq_false fun z => by rw [c0] at z; cases z) ?_
    wp_walk using wpAny_loadPart' hl
    exact ⟨_, rfl, h⟩
theorem aeN (l : Addr) (xs : Array Value) (n : Nat) (q : Option Addr) (sl : Array (Option Value)) (k : Int) (u : Tok) (c0 : (decide (k < -(2 ^ 63)) || decide (k ≥ 2 ^ 63)) = false) (c1 : (xs.isEmpty || k == 1) = false) (c2 : (decide (k ≤ 0) || xs.isEmpty) = true) :
    Meets (Builtin.«tuple.__mul__» ⟨[.ref l, .int k u], []⟩) (fun _ R s => s.heap.get? l = some ⟨.type "tuple", q, .seq xs n, sl⟩ ∧ R (.ok (.ret (.ref s.heap.objs.size))) { s with heap := s.heap.push ⟨.type "tuple", none, .seq #[] 0, #[]⟩, toks := s.toks }) :=
  .of_wp fun prog w A R s h => by
    obtain ⟨hp, g, d, tk, os⟩ := s
    obtain ⟨hl, h⟩ := h
    have f1 := AutoSeq1.idx_int
    wp_walk using wpAny_loadPart' hl
    refine wpAny_ite_false (decide_eq_false fun z => by rw [c0] at z; cases z) ?_
    wp_walk using wpAny_loadPart' hl
    exact ⟨_, rfl, h⟩
variable {X : Cx}
theorem ags {xs : List V} {l : Addr} {k : Int} {pins : List (Addr × Obj)} {s : Shared} {σ : L2.St} {H : Hp} {v u : Value} {Q : VK} (I : L2.Inv X pins σ H s) (rx : RelV (.ref l) v) (ry : RelV (.int k) u) (hT : SqT X.K H l xs) (h0 : 0 ≤ k) (h1 : k ≤ 1000) (hz : xs.length ≤ 1000)
    (qs : (List.replicate k.toNat xs).flatten = xs → Q (.ref l) H) (qn : ∀ p, H p = none → Q (.ref p) (upd H p (.tup (List.replicate k.toNat xs).flatten))) : wpAny (model X.prog X.w) X.A (binaryOp .Mult v u) (EP X pins σ Q) X.xe s := by
  by_cases h2 : xs ≠ [] ∧ 2 ≤ k
  · exact op_repT pins s σ H _ _ v u Q I rx ry ⟨l, k, xs, rfl, rfl, hT, h2.1, h2.2, h1, hz, qn⟩
  cases rx
  obtain ⟨t, rfl⟩ := ry
  obtain ⟨its, r, ⟨⟨cls, dd, data, sl⟩, ho, hc, n, hd⟩, hs⟩ := I.tuple hT
  simp only at hc hd
  subst hc hd
  have c0 : (decide (k < -(2 ^ 63)) || decide (k ≥ 2 ^ 63)) = false := by
    have a : ¬ k < -(2 ^ 63) := by omega
    have b : ¬ k ≥ 2 ^ 63 := by omega
    simp only [a, b, decide_false, Bool.or_self]
  have hem : its.toArray.isEmpty = xs.isEmpty := by
    cases r with
    | nil => rfl
    | cons _ _ => rfl
  by_cases h3 : xs = [] ∨ k = 1
  · have c1 : (its.toArray.isEmpty || k == 1) = true := by
      rw [hem]
      rcases h3 with rfl | rfl
      · rfl
      · exact Bool.or_true _
    have e : (List.replicate k.toNat xs).flatten = xs := by
      rcases h3 with rfl | rfl
      · exact List.flatten_replicate_nil
      · exact (List.append_nil xs)
    refine wpAny_binaryOp_repeat_ref (T := "tuple") (U := "int") (by decide) ⟨_, ho, rfl⟩ (fun s' => typeIs_int s' k t) noFill_tuple_mul F.fills_int_mul F.slot_int_rmul repeat_tuple F.slot_int_index.lookup
      (call_meets F.slot_int_rmul (typeIs_int s k t) F.entry_int_rmul (F.args_int_rmul_2 _ _) (int_rmul_tuple k t l its.toArray n dd sl) ⟨ho, rfl, ⟨_, ho, rfl⟩, ?_⟩)
    exact call_meets F.slot_tuple_mul ⟨_, ho, rfl⟩ F.entry_tuple_mul (F.args_tuple_mul_2 _ _) (aeM l its.toArray n dd sl k t c0 c1) ⟨ho, .ref l, H, I, rfl, qs e⟩
  · have n1 : xs ≠ [] := fun z => h3 (.inl z)
    have n2 : k ≤ 0 := by
      have : ¬ 2 ≤ k := fun z => h2 ⟨n1, z⟩
      have : k ≠ 1 := fun z => h3 (.inr z)
      omega
    have k0 : k = 0 := by omega
    have em : its.toArray.isEmpty = false := by
      rw [hem]
      cases xs with
      | nil => exact absurd rfl n1
      | cons _ _ => rfl
    subst k0
    refine wpAny_binaryOp_repeat_ref (T := "tuple") (U := "int") (by decide) ⟨_, ho, rfl⟩ (fun s' => typeIs_int s' 0 t) noFill_tuple_mul F.fills_int_mul F.slot_int_rmul repeat_tuple F.slot_int_index.lookup
      (call_meets F.slot_int_rmul (typeIs_int s 0 t) F.entry_int_rmul (F.args_int_rmul_2 _ _) (int_rmul_tuple 0 t l its.toArray n dd sl) ⟨ho, rfl, ⟨_, ho, rfl⟩, ?_⟩)
    refine call_meets F.slot_tuple_mul ⟨_, ho, rfl⟩ F.entry_tuple_mul (F.args_tuple_mul_2 _ _) (aeN l its.toArray n dd sl 0 t c0 (by rw [em]; rfl) rfl) ⟨ho, ?_⟩
    exact ⟨.ref s.heap.objs.size, _, I.laid (t' := s.toks) (o := .tup []) (fun b ob q => Heap.get?_push_of_some _ q) (Nat.le_refl _) ⟨by decide, [], .nil, IsTup.new _ _⟩, rfl, qn _ (I.hok.fresh (Nat.le_refl _))⟩
end PD
namespace PD
open PySem PySem.Spec PyProof.Rows L2
section
variable {X : Cx} {W : WX}
def gY : O2
  | .int i, .int j, h => some (.int (i + j), h)
  | .str a, .str b, h => if a.length + b.length ≤ 16777216 then some (.str (a ++ b), h) else none
  | .lst a, .lst b, h => if a.length + b.length ≤ 16777216 then some (.lst (a ++ b), h) else none
  | .tup a, .tup b, h => if a.length + b.length ≤ 16777216 then some (.tup (a ++ b), h) else none
  | .ref n, .lst b, h => match h[n]? with
    | some (.lst a) => if a.length + b.length ≤ 16777216 then some (.lst (a ++ b), h) else none
    | _ => none
  | .lst a, .ref n, h => match h[n]? with
    | some (.lst b) => if a.length + b.length ≤ 16777216 then some (.lst (a ++ b), h) else none
    | _ => none
  | .ref m, .ref n, h => match h[m]?, h[n]? with
    | some (.lst a), some (.lst b) => if a.length + b.length ≤ 16777216 then some (.lst (a ++ b), h) else none
    | _, _ => none
  | _, _, _ => none
theorem HR.lst {K : PySem.W.Frag} {H : Hp} {al : Al} {h : AH} {n : Nat} {a : Addr} {ds : List D} (r : HR K H al h) (e : al.c[n]? = some a) (z : h[n]? = some (.lst ds)) : ∃ vs, H a = some (.lst vs) ∧ bD K H al ds vs := r.at_ n _ a z e
theorem mQ : OpR X (binaryOp .Add) (r2 X.K gY) := by
  have hs : sizeLine = 16777216 := sizeLine_eq
  rintro pins s σ H x y v u Q I rx ry ⟨d, e, al, h, r, p, q, po⟩
  cases p with
  | int i =>
    cases q with
    | int j => exact op_add pins s σ H _ _ v u Q I rx ry ⟨i, j, rfl, rfl, po _ _ _ .refl r (.int _)⟩
    | _ => exact False.elim po
  | str a =>
    cases q with
    | str b =>
      simp only [gY] at po
      split at po
      · rename_i hl
        exact op_add_str pins s σ H _ _ v u Q I rx ry ⟨a, b, rfl, rfl, by rw [hs]; exact hl, po _ _ _ .refl r (.str _)⟩
      · exact False.elim po
    | _ => exact False.elim po
  | lst sa qa =>
    cases q with
    | lst sb qb =>
      simp only [gY] at po
      split at po
      · rename_i hl
        exact op_cat pins s σ H _ _ v u Q I rx ry ⟨_, _, _, _, rfl, rfl, sa.1, sb.1, by rw [hs, ← qa.length, ← qb.length]; exact hl, fun p n => dJ.rZ r (qa.append qb) po n⟩
      · exact False.elim po
    | ref eb =>
      simp only [gY] at po
      split at po
      · rename_i b hb
        obtain ⟨ws, hw, qb⟩ := r.lst eb hb
        split at po
        · rename_i hl
          exact op_cat pins s σ H _ _ v u Q I rx ry ⟨_, _, _, _, rfl, rfl, sa.1, hw, by rw [hs, ← qa.length, ← qb.length]; exact hl, fun p n => dJ.rZ r (qa.append qb) po n⟩
        · exact False.elim po
      · exact False.elim po
    | _ => exact False.elim po
  | ref ea =>
    cases q with
    | lst sb qb =>
      simp only [gY] at po
      split at po
      · rename_i b hb
        obtain ⟨ws, hw, qa⟩ := r.lst ea hb
        split at po
        · rename_i hl
          exact op_cat pins s σ H _ _ v u Q I rx ry ⟨_, _, _, _, rfl, rfl, hw, sb.1, by rw [hs, ← qa.length, ← qb.length]; exact hl, fun p n => dJ.rZ r (qa.append qb) po n⟩
        · exact False.elim po
      · exact False.elim po
    | ref eb =>
      simp only [gY] at po
      split at po
      · rename_i b c hb hc
        obtain ⟨ws, hw, qa⟩ := r.lst ea hb
        obtain ⟨zs, hz, qb⟩ := r.lst eb hc
        split at po
        · rename_i hl
          exact op_cat pins s σ H _ _ v u Q I rx ry ⟨_, _, _, _, rfl, rfl, hw, hz, by rw [hs, ← qa.length, ← qb.length]; exact hl, fun p n => dJ.rZ r (qa.append qb) po n⟩
        · exact False.elim po
      · exact False.elim po
    | _ => exact False.elim po
  | tup sa qa =>
    cases q with
    | tup sb qb =>
      simp only [gY] at po
      split at po
      · rename_i hl
        refine op_catA pins s σ H _ _ v u Q I rx ry ⟨_, _, _, _, rfl, rfl, sa, sb, by rw [hs, ← qa.length, ← qb.length]; exact hl, fun e => ?_, fun _ e => ?_, fun _ _ p n => dJ.Px r (qa.append qb) po n⟩
        · subst e
          cases qa
          exact po _ _ _ .refl r (.tup sb qb)
        · subst e
          cases qb
          rw [List.append_nil] at po
          exact po _ _ _ .refl r (.tup sa qa)
      · exact False.elim po
    | _ => exact False.elim po
  | _ => exact False.elim po
def iK : O2
  | .int i, .int j, h => some (.int (i - j), h)
  | _, _, _ => none
theorem ach : OpR X (binaryOp .Sub) (r2 X.K iK) := by
  rintro pins s σ H x y v u Q I rx ry ⟨d, e, al, h, r, p, q, po⟩
  cases p with
  | int i =>
    cases q with
    | int j => exact op_sub pins s σ H _ _ v u Q I rx ry ⟨i, j, rfl, rfl, po _ _ _ .refl r (.int _)⟩
    | _ => exact False.elim po
  | _ => exact False.elim po
theorem bD.rep {K : PySem.W.Frag} {H : Hp} {al : Al} {ds : List D} {vs : List V} (q : bD K H al ds vs) : ∀ n : Nat, bD K H al (List.replicate n ds).flatten (List.replicate n vs).flatten
  | 0 => .nil
  | n + 1 => by
    rw [List.replicate_succ, List.replicate_succ, List.flatten_cons, List.flatten_cons]
    exact q.append (bD.rep q n)
def mulM : O2
  | .int i, .int j, h => if i.natAbs.log2 + j.natAbs.log2 < 1000000 then some (.int (i * j), h) else none
  | .lst a, .int k, h => if -(2 ^ 63) ≤ k ∧ k < 2 ^ 63 ∧ a.length * k.toNat ≤ 16777216 then some (.lst (List.replicate k.toNat a).flatten, h) else none
  | .tup a, .int k, h => if 0 ≤ k ∧ k ≤ 1000 ∧ a.length ≤ 1000 then some (.tup (List.replicate k.toNat a).flatten, h) else none
  | _, _, _ => none
theorem afJ : OpR X (binaryOp .Mult) (r2 X.K mulM) := by
  have hs : sizeLine = 16777216 := sizeLine_eq
  rintro pins s σ H x y v u Q I rx ry ⟨d, e, al, h, r, p, q, po⟩
  cases p with
  | int i =>
    cases q with
    | int j =>
      simp only [mulM] at po
      split at po
      · rename_i hl
        exact op_mulW pins s σ H _ _ v u Q I rx ry ⟨i, j, rfl, rfl, hl, po _ _ _ .refl r (.int _)⟩
      · exact False.elim po
    | _ => exact False.elim po
  | lst sa qa =>
    cases q with
    | int k =>
      simp only [mulM] at po
      split at po
      · rename_i hl
        exact op_rep pins s σ H _ _ v u Q I rx ry ⟨_, k, _, rfl, rfl, sa.1, hl.1, hl.2.1, by rw [hs, ← qa.length]; exact hl.2.2, fun p n => dJ.rZ r (qa.rep _) po n⟩
      · exact False.elim po
    | _ => exact False.elim po
  | tup sa qa =>
    cases q with
    | int k =>
      simp only [mulM] at po
      split at po
      · rename_i hl
        refine ags I rx ry sa hl.1 hl.2.1 (by rw [← qa.length]; exact hl.2.2) (fun e => ?_) (fun p n => dJ.Px r (qa.rep _) po n)
        exact po _ _ _ .refl r (.tup sa (by
          have w := qa.rep k.toNat
          rw [e] at w
          exact w))
      · exact False.elim po
    | _ => exact False.elim po
  | _ => exact False.elim po
def qU : O2
  | .int i, .int j, h => if 0 < j ∧ j.natAbs.log2 < 9000 then some (.int (i / j), h) else none
  | _, _, _ => none
theorem PL : OpR X (binaryOp .FloorDiv) (r2 X.K qU) := by
  rintro pins s σ H x y v u Q I rx ry ⟨d, e, al, h, r, p, q, po⟩
  cases p with
  | int i =>
    cases q with
    | int j =>
      simp only [qU] at po
      split at po
      · rename_i hl
        exact op_fdivW pins s σ H _ _ v u Q I rx ry ⟨i, j, rfl, rfl, hl, po _ _ _ .refl r (.int _)⟩
      · exact False.elim po
    | _ => exact False.elim po
  | _ => exact False.elim po
def sG : O2
  | .int i, .int j, h => if 0 < j then some (.int (i % j), h) else none
  | _, _, _ => none
theorem Ek : OpR X (binaryOp .Mod) (r2 X.K sG) := by
  rintro pins s σ H x y v u Q I rx ry ⟨d, e, al, h, r, p, q, po⟩
  cases p with
  | int i =>
    cases q with
    | int j =>
      simp only [sG] at po
      split at po
      · rename_i hl
        exact op_mod pins s σ H _ _ v u Q I rx ry ⟨i, j, rfl, rfl, hl, po _ _ _ .refl r (.int _)⟩
      · exact False.elim po
    | _ => exact False.elim po
  | _ => exact False.elim po
def tX : O2
  | .int i, .int j, h => if 0 ≤ j ∧ j ≤ 1000000 ∧ i.natAbs < 2 ^ 64 then some (.int (i ^ j.toNat), h) else none
  | _, _, _ => none
theorem PN : OpR X (binaryOp .Pow) (r2 X.K tX) := by
  rintro pins s σ H x y v u Q I rx ry ⟨d, e, al, h, r, p, q, po⟩
  cases p with
  | int i =>
    cases q with
    | int j =>
      simp only [tX] at po
      split at po
      · rename_i hl
        exact op_pow pins s σ H _ _ v u Q I rx ry ⟨i, j, rfl, rfl, hl, po _ _ _ .refl r (.int _)⟩
      · exact False.elim po
    | _ => exact False.elim po
  | _ => exact False.elim po
def R7 : O2
  | .int i, .int j, h => some (.bl (decide (i < j)), h)
  | .str a, .str b, h => some (.bl (decide (a.cps.toList < b.cps.toList)), h)
  | _, _, _ => none
def Cp : O2
  | .int i, .int j, h => some (.bl (decide (i ≤ j)), h)
  | .str a, .str b, h => some (.bl (!decide (b.cps.toList < a.cps.toList)), h)
  | _, _, _ => none
def P0 : O2
  | .int i, .int j, h => some (.bl (decide (j < i)), h)
  | .str a, .str b, h => some (.bl (decide (b.cps.toList < a.cps.toList)), h)
  | _, _, _ => none
def Fw : O2
  | .int i, .int j, h => some (.bl (decide (j ≤ i)), h)
  | .str a, .str b, h => some (.bl (!decide (a.cps.toList < b.cps.toList)), h)
  | _, _, _ => none
theorem ale : OpR X (compareOp .Lt) (r2 X.K R7) := by
  rintro pins s σ H x y v u Q I rx ry ⟨d, e, al, h, r, p, q, po⟩
  cases p with
  | int i =>
    cases q with
    | int j => exact op_lt pins s σ H _ _ v u Q I rx ry ⟨i, j, rfl, rfl, po _ _ _ .refl r (.bl _)⟩
    | _ => exact False.elim po
  | str i =>
    cases q with
    | str j => exact op_lt_str pins s σ H _ _ v u Q I rx ry ⟨i, j, rfl, rfl, po _ _ _ .refl r (.bl _)⟩
    | _ => exact False.elim po
  | _ => exact False.elim po
theorem aci : OpR X (compareOp .LtE) (r2 X.K Cp) := by
  rintro pins s σ H x y v u Q I rx ry ⟨d, e, al, h, r, p, q, po⟩
  cases p with
  | int i =>
    cases q with
    | int j => exact op_le pins s σ H _ _ v u Q I rx ry ⟨i, j, rfl, rfl, po _ _ _ .refl r (.bl _)⟩
    | _ => exact False.elim po
  | str i =>
    cases q with
    | str j => exact op_le_str pins s σ H _ _ v u Q I rx ry ⟨i, j, rfl, rfl, po _ _ _ .refl r (.bl _)⟩
    | _ => exact False.elim po
  | _ => exact False.elim po
theorem ahR : OpR X (compareOp .Gt) (r2 X.K P0) := by
  rintro pins s σ H x y v u Q I rx ry ⟨d, e, al, h, r, p, q, po⟩
  cases p with
  | int i =>
    cases q with
    | int j => exact op_gt pins s σ H _ _ v u Q I rx ry ⟨i, j, rfl, rfl, po _ _ _ .refl r (.bl _)⟩
    | _ => exact False.elim po
  | str i =>
    cases q with
    | str j => exact op_gt_str pins s σ H _ _ v u Q I rx ry ⟨i, j, rfl, rfl, po _ _ _ .refl r (.bl _)⟩
    | _ => exact False.elim po
  | _ => exact False.elim po
theorem aeO : OpR X (compareOp .GtE) (r2 X.K Fw) := by
  rintro pins s σ H x y v u Q I rx ry ⟨d, e, al, h, r, p, q, po⟩
  cases p with
  | int i =>
    cases q with
    | int j => exact op_ge pins s σ H _ _ v u Q I rx ry ⟨i, j, rfl, rfl, po _ _ _ .refl r (.bl _)⟩
    | _ => exact False.elim po
  | str i =>
    cases q with
    | str j => exact op_ge_str pins s σ H _ _ v u Q I rx ry ⟨i, j, rfl, rfl, po _ _ _ .refl r (.bl _)⟩
    | _ => exact False.elim po
  | _ => exact False.elim po
mutual
def toP : D → Option PyData
  | .non => some .none
  | .bl b => some (.bool b)
  | .int i => some (.int i)
  | .str x => some (.str x)
  | .tup ds => (Cq ds).map .tuple
  | .lst ds => (Cq ds).map .list
  | .dW ds => (Cq ds).map .list
  | _ => none
def Cq : List D → Option (List PyData)
  | [] => some []
  | d :: ds => (toP d).bind fun p => (Cq ds).map (p :: ·)
end
def ahS (h : AH) : D → Option PyData
  | .ref n => match h[n]? with
    | some (.lst ds) => (Cq ds).map .list
    | _ => none
  | d => toP d
mutual
theorem Rp.dp {K : PySem.W.Frag} {H : Hp} {al : Al} : ∀ {d : D} {v : V} {p : PyData}, Rp K H al d v → toP d = some p → Dp K H v p
  | _, _, _, .non, e => by simp only [toP] at e; cases e; exact .non
  | _, _, _, .bl b, e => by simp only [toP] at e; cases e; exact .bl b
  | _, _, _, .int i, e => by simp only [toP] at e; cases e; exact .int i
  | _, _, _, .str x, e => by simp only [toP] at e; cases e; exact .str x
  | _, _, _, .ty _, e => by simp [toP] at e
  | _, _, _, .glo _, e => by simp [toP] at e
  | _, _, _, .ref _, e => by simp [toP] at e
  | _, _, _, .obj _ _ _, e => by simp [toP] at e
  | _, _, _, .tup s q, e => by
    simp only [toP] at e
    obtain ⟨ps, e1, e2⟩ := Option.map_eq_some_iff.mp e
    cases e2
    exact .tup s (bD.dp q e1)
  | _, _, _, .lst s q, e => by
    simp only [toP] at e
    obtain ⟨ps, e1, e2⟩ := Option.map_eq_some_iff.mp e
    cases e2
    exact .lst s.sq (bD.dp q e1)
  | _, _, _, .dW s q, e => by
    simp only [toP] at e
    obtain ⟨ps, e1, e2⟩ := Option.map_eq_some_iff.mp e
    cases e2
    exact .lst s.sq (bD.dp q e1)
theorem bD.dp {K : PySem.W.Frag} {H : Hp} {al : Al} : ∀ {ds : List D} {vs : List V} {ps : List PyData}, bD K H al ds vs → Cq ds = some ps → DpAll K H vs ps
  | _, _, _, .nil, e => by simp only [Cq] at e; cases e; exact .nil
  | _, _, _, .cons q qs, e => by
    simp only [Cq] at e
    obtain ⟨p, e1, e2⟩ := Option.bind_eq_some_iff.mp e
    obtain ⟨ps, e3, e4⟩ := Option.map_eq_some_iff.mp e2
    cases e4
    exact .cons (Rp.dp q e1) (bD.dp qs e3)
end
def eqB (h : AH) (d e : D) : Option Bool := match ahS h d, ahS h e with
  | some p, some q => if SeqAt.shaped p = true ∧ SeqAt.shaped q = true then some (PyData.eqv p q) else none
  | _, _ => none
def eqM : O2 := fun d e h => (eqB h d e).map fun b => (.bl b, h)
def neM : O2 := fun d e h => (eqB h d e).map fun b => (.bl (!b), h)
def isNon : D → Bool
  | .non => true
  | _ => false
def Az : O2 := fun d e h => match e with
  | .non => some (.bl (isNon d), h)
  | _ => none
def tY : O2 := fun d e h => match e with
  | .non => some (.bl (!isNon d), h)
  | _ => none
theorem aah {K : PySem.W.Frag} {H : Hp} {al : Al} {d : D} {x : V} (p : Rp K H al d x) : decide (x = .non) = isNon d := by
  cases p <;> rfl
theorem aai : OpR X (compareOp .Is) (r2 X.K Az) := by
  rintro pins s σ H x y v u Q I rx ry ⟨d, e, al, h, r, p, q, po⟩
  cases q with
  | non => exact op_isN pins s σ H _ _ v u Q I rx ry ⟨rfl, po _ _ _ .refl r (by rw [aah p]; exact .bl _)⟩
  | _ => exact False.elim po
theorem El : OpR X (compareOp .IsNot) (r2 X.K tY) := by
  rintro pins s σ H x y v u Q I rx ry ⟨d, e, al, h, r, p, q, po⟩
  cases q with
  | non => exact op_notN pins s σ H _ _ v u Q I rx ry ⟨rfl, po _ _ _ .refl r (by rw [aah p]; exact .bl _)⟩
  | _ => exact False.elim po
def toV : D → Option V
  | .non => some .non
  | .bl b => some (.bl b)
  | .int i => some (.int i)
  | .str x => some (.str x)
  | _ => none
def yu : List D → Option (List V)
  | [] => some []
  | d :: ds => (toV d).bind fun v => (yu ds).map (v :: ·)
theorem adu {K : PySem.W.Frag} {H : Hp} {al : Al} {d : D} {x v : V} (p : Rp K H al d x) (e : toV d = some v) : x = v ∧ flatV v = true := by
  cases p <;> first | (cases e; exact ⟨rfl, rfl⟩) | cases e
theorem abw {K : PySem.W.Frag} {H : Hp} {al : Al} : ∀ {ds : List D} {xs vs : List V}, bD K H al ds xs → yu ds = some vs → xs = vs ∧ vs.all flatV = true
  | _, _, _, .nil, e => by cases e; exact ⟨rfl, rfl⟩
  | _, _, _, .cons q qs, e => by
    simp only [yu] at e
    obtain ⟨v, e1, e2⟩ := Option.bind_eq_some_iff.mp e
    obtain ⟨vs, e3, e4⟩ := Option.map_eq_some_iff.mp e2
    cases e4
    obtain ⟨rfl, f1⟩ := adu q e1
    obtain ⟨rfl, f2⟩ := abw qs e3
    exact ⟨rfl, by rw [List.all_cons, f1, f2]; rfl⟩
def inB (h : AH) (d : D) : D → Option Bool
  | .str z => match d with
    | .str ⟨⟨[c]⟩⟩ => some (decide (c ∈ z.cps.toList))
    | _ => none
  | .tup es => (toV d).bind fun v => (yu es).map fun vs => inV v vs
  | .lst es => (toV d).bind fun v => (yu es).map fun vs => inV v vs
  | _ => none
def Cr : O2 := fun d e h => (inB h d e).map fun b => (.bl b, h)
def Ra : O2 := fun d e h => (inB h d e).map fun b => (.bl (!b), h)
theorem abx {K : PySem.W.Frag} {H : Hp} {al : Al} {d : D} {x : V} {es : List D} {ys : List V} {b : Bool} (p : Rp K H al d x) (q : bD K H al es ys) (z : ((toV d).bind fun v => (yu es).map fun vs => inV v vs) = some b) : flatV x = true ∧ ys.all flatV = true ∧ inV x ys = b := by
  obtain ⟨v, e1, e2⟩ := Option.bind_eq_some_iff.mp z
  obtain ⟨vs, e3, e4⟩ := Option.map_eq_some_iff.mp e2
  obtain ⟨rfl, f1⟩ := adu p e1
  obtain ⟨rfl, f2⟩ := abw q e3
  exact ⟨f1, f2, e4⟩
theorem aeP : OpR X (compareOp .In) (r2 X.K Cr) := by
  rintro pins s σ H x y v u Q I rx ry ⟨d, e, al, h, r, p, q, po⟩
  unfold Cr at po
  cases z : inB h d e with
  | none => rw [z] at po; exact False.elim po
  | some b =>
    rw [z] at po
    cases q with
    | str w =>
      simp only [inB] at z
      split at z
      · cases z
        cases p
        exact op_in_sign pins s σ H _ _ v u Q I rx ry ⟨_, w, rfl, rfl, po _ _ _ .refl r (.bl _)⟩
      · cases z
    | tup sq q =>
      simp only [inB] at z
      obtain ⟨f1, f2, rfl⟩ := abx p q z
      exact op_in_seq pins s σ H _ _ v u Q I rx ry ⟨_, _, rfl, .inr sq, f1, f2, po _ _ _ .refl r (.bl _)⟩
    | lst sq q =>
      simp only [inB] at z
      obtain ⟨f1, f2, rfl⟩ := abx p q z
      exact op_in_seq pins s σ H _ _ v u Q I rx ry ⟨_, _, rfl, .inl sq.sq, f1, f2, po _ _ _ .refl r (.bl _)⟩
    | _ => simp [inB] at z
end
end PD
namespace PD
open PySem PySem.Spec PyProof.Rows L2
section
variable {X : Cx} {W : WX} {K : PySem.W.Frag} {H : Hp} {al : Al} {h : AH}
def pP : ON
  | [.str x], h => if x.length ≤ 16777216 then some (.int (x.length : Nat), h) else none
  | [.lst ds], h => some (.int (ds.length : Nat), h)
  | [.dW ds], h => some (.int (ds.length : Nat), h)
  | [.tup ds], h => some (.int (ds.length : Nat), h)
  | [.ref n], h => match h[n]? with
    | some (.lst ds) => some (.int (ds.length : Nat), h)
    | some (.dict kvs) => some (.int (kvs.length : Nat), h)
    | _ => none
  | _, _ => none
theorem xX : CallR X (.builtin "len") (rN X.K pP) := by
  have hs : sizeLine = 16777216 := sizeLine_eq
  rintro pins s σ H xs us Q I rv ⟨ds, al, h, r, p, po⟩
  cases p with
  | nil => exact False.elim po
  | cons q qs =>
    cases qs with
    | cons _ _ => cases q <;> exact False.elim po
    | nil =>
      cases q with
      | str x =>
        simp only [pP] at po
        split at po
        · rename_i hl
          exact call_len_str pins s σ H _ us Q I rv ⟨x, rfl, by rw [hs]; exact hl, po _ _ _ .refl r (.int _)⟩
        · exact False.elim po
      | lst sq q => exact call_len_seq pins s σ H _ us Q I rv ⟨_, _, rfl, .inl sq.sq, by rw [← q.length]; exact po _ _ _ .refl r (.int _)⟩
      | dW sq q => exact call_len_seq pins s σ H _ us Q I rv ⟨_, _, rfl, .inl sq.sq, by rw [← q.length]; exact po _ _ _ .refl r (.int _)⟩
      | tup sq q => exact call_len_seq pins s σ H _ us Q I rv ⟨_, _, rfl, .inr sq, by rw [← q.length]; exact po _ _ _ .refl r (.int _)⟩
      | ref z =>
        obtain ⟨c, hc, ok⟩ := r.cell z
        simp only [pP, hc] at po
        cases c with
        | lst ds =>
          obtain ⟨vs, e, q⟩ := ok
          exact call_len_seq pins s σ H _ us Q I rv ⟨_, _, rfl, .inl (SqL.of e), by rw [← q.length]; exact po _ _ _ .refl r (.int _)⟩
        | dict kvs =>
          obtain ⟨ws, e, k, q⟩ := ok
          have hl : ws.length = kvs.length := by simpa using congrArg List.length k
          exact call_lenD pins s σ H _ us Q I rv ⟨_, ws, rfl, e, by rw [hl]; exact po _ _ _ .refl r (.int _)⟩
        | ins _ _ => exact False.elim po
        | dO _ => exact False.elim po
      | _ => exact False.elim po
theorem bD.atI {ds : List D} {vs : List V} {i : Int} {d : D} (q : bD K H al ds vs) (e : L2.atI ds i = some d) : ∃ v, L2.atI vs i = some v ∧ Rp K H al d v := by
  unfold L2.atI at e ⊢
  rw [← q.length]
  cases z : ixN ds.length i with
  | none => rw [z] at e; cases e
  | some j =>
    rw [z] at e
    exact q.get e
def xY : O2
  | .lst ds, .int i, h => (L2.atI ds i).map fun d => (d, h)
  | .dW ds, .int i, h => (L2.atI ds i).map fun d => (d, h)
  | .tup ds, .int i, h => (L2.atI ds i).map fun d => (d, h)
  | .str z, .int i, h => if z.length ≤ 16777216 then (L2.atI z.cps.toList i).map fun c => (.str ⟨#[c]⟩, h) else none
  | .ref n, .int i, h => match h[n]? with
    | some (.lst ds) => (L2.atI ds i).map fun d => (d, h)
    | _ => none
  | _, _, _ => none
theorem ahT : IxR X (r2 X.K xY) := by
  have hs : sizeLine = 16777216 := sizeLine_eq
  rintro value slice pins s σ H x y v u Q I rx ry ⟨d, e, al, h, r, p, q, po⟩ hsl
  cases q with
  | int i =>
    cases p with
    | lst sq q =>
      simp only [xY] at po
      cases z : L2.atI _ i with
      | none => rw [z] at po; exact False.elim po
      | some d =>
        rw [z] at po
        obtain ⟨w, e1, e2⟩ := q.atI z
        exact ix_list value slice pins s σ H _ _ v u Q I rx ry ⟨_, _, i, w, rfl, rfl, sq.sq, e1, po _ _ _ .refl r e2⟩ hsl
    | dW sq q =>
      simp only [xY] at po
      cases z : L2.atI _ i with
      | none => rw [z] at po; exact False.elim po
      | some d =>
        rw [z] at po
        obtain ⟨w, e1, e2⟩ := q.atI z
        exact ix_list value slice pins s σ H _ _ v u Q I rx ry ⟨_, _, i, w, rfl, rfl, sq.sq, e1, po _ _ _ .refl r e2⟩ hsl
    | tup sq q =>
      simp only [xY] at po
      cases z : L2.atI _ i with
      | none => rw [z] at po; exact False.elim po
      | some d =>
        rw [z] at po
        obtain ⟨w, e1, e2⟩ := q.atI z
        exact ix_tup value slice pins s σ H _ _ v u Q I rx ry ⟨_, _, i, w, rfl, rfl, sq, e1, po _ _ _ .refl r e2⟩ hsl
    | str w =>
      simp only [xY] at po
      split at po
      · rename_i hl
        cases z : L2.atI w.cps.toList i with
        | none => rw [z] at po; exact False.elim po
        | some c =>
          rw [z] at po
          exact ix_str value slice pins s σ H _ _ v u Q I rx ry ⟨w, i, c, rfl, rfl, by rw [hs]; exact hl, z, po _ _ _ .refl r (.str _)⟩ hsl
      · exact False.elim po
    | ref ea =>
      obtain ⟨c, hc, ok⟩ := r.cell ea
      simp only [xY, hc] at po
      cases c with
      | lst ds =>
        obtain ⟨vs, e, q⟩ := ok
        dsimp only at po
        cases z : L2.atI ds i with
        | none => rw [z] at po; exact False.elim po
        | some d =>
          rw [z] at po
          obtain ⟨w, e1, e2⟩ := q.atI z
          exact ix_list value slice pins s σ H _ _ v u Q I rx ry ⟨_, _, i, w, rfl, rfl, SqL.of e, e1, po _ _ _ .refl r e2⟩ hsl
      | _ => exact False.elim po
    | _ => exact False.elim po
  | _ => cases p <;> exact False.elim po
abbrev MO := En → AH → Res (Option Int)
def Qa : MO := fun _ h => .ok none h
def qm (f : ME) : MO := fun e h => (f e h).bind fun d h1 => match d with
  | .int i => .ok (some i) h1
  | _ => .stuck
def rdO (K : PySem.W.Frag) (W : WX) (f : MO) : TO := fun st H Q => ∃ e al h, HR K H al h ∧ iQ K H al e st ∧ bL K (fun _ _ (b c : Option Int) => b = c) H al (fun c d H' => W c d st H') Q (f e h)
theorem _root_.L2.PO.weak {e : Option Expr} {t t' : TO} (h : PO X e t) (i : ∀ σ H Q, t' σ H Q → t σ H Q) : PO X e t' := ⟨fun pins s σ H Q I q => h.run pins s σ H Q I (i _ _ _ q)⟩
theorem ahU : PO X none (rdO X.K W Qa) := po_none.weak fun σ H Q ⟨e, al, h, r, re, p⟩ => p none H al .refl r rfl
theorem Qc {a : Expr} {fa : ME} (ha : PE X a (rd X.K W fa)) : PO X (some a) (rdO X.K W (qm fa)) := (po_some ha).weak fun σ H Q ⟨e, al, h, r, re, p⟩ => by
  refine ⟨e, al, h, r, re, (bL.bind p).mono ?_⟩
  rintro v H1 ⟨d, bB, h1, l, r1, q, p1⟩
  cases q with
  | int i => exact ⟨i, rfl, p1 _ _ _ .refl r1 rfl⟩
  | _ => exact p1.elim
def cutD {α : Type} (xs : List α) (lo hi : Option Int) : List α := (xs.drop (HT.sIx xs.length 0 lo)).take (HT.sIx xs.length xs.length hi - HT.sIx xs.length 0 lo)
def Qe : D → Option Int → Option Int → AH → Option (D × AH)
  | .str z, lo, hi, h => if z.length ≤ 16777216 then some (.str (cutS z lo hi), h) else none
  | .lst ds, lo, hi, h => some (.lst (cutD ds lo hi), h)
  | .dW ds, lo, hi, h => some (.lst (cutD ds lo hi), h)
  | .tup ds, lo, hi, h => some (.tup (cutD ds lo hi), h)
  | .ref n, lo, hi, h => match h[n]? with
    | some (.lst ds) => some (.lst (cutD ds lo hi), h)
    | _ => none
  | _, _, _, _ => none
theorem bD.cut {ds : List D} {vs : List V} (q : bD K H al ds vs) (lo hi : Option Int) : bD K H al (cutD ds lo hi) (cutV vs lo hi) := by
  unfold cutD cutV
  rw [← q.length]
  exact (q.drop _).take _
def rSl (K : PySem.W.Frag) : V → Option Int → Option Int → Hp → VK → Prop := fun x lo hi H Q => ∃ d al h, HR K H al h ∧ Rp K H al d x ∧ dJ K H al Q (Qe d lo hi h)
theorem alf : SlR X (rSl X.K) := by
  have hs : sizeLine = 16777216 := sizeLine_eq
  rintro pins s σ H x v vl vu lo hi sl Q I rx hsl pl pu ⟨d, al, h, r, p, po⟩
  cases p with
  | str z =>
    simp only [Qe] at po
    split at po
    · rename_i hl
      exact sl_str pins s σ H _ v vl vu lo hi sl Q I rx hsl pl pu ⟨z, rfl, by rw [hs]; exact hl, po _ _ _ .refl r (.str _)⟩
    · exact False.elim po
  | lst sq q => exact sl_list pins s σ H _ v vl vu lo hi sl Q I rx hsl pl pu ⟨_, _, rfl, sq.sq, fun p n => dJ.rZ r (q.cut lo hi) po n⟩
  | dW sq q => exact sl_list pins s σ H _ v vl vu lo hi sl Q I rx hsl pl pu ⟨_, _, rfl, sq.sq, fun p n => dJ.rZ r (q.cut lo hi) po n⟩
  | tup sq q =>
    refine sl_tupA pins s σ H _ v vl vu lo hi sl Q I rx hsl pl pu ⟨_, _, rfl, sq, fun w => ?_, fun _ p n => dJ.Px r (q.cut lo hi) po n⟩
    refine po _ _ _ .refl r ?_
    have e : ∀ {α : Type} {xs : List α}, HT.sIx xs.length 0 lo = 0 ∧ HT.sIx xs.length xs.length hi = xs.length → cutD xs lo hi = xs := fun h => by
      unfold cutD
      rw [h.1, h.2]
      simp
    rw [← q.length] at w
    rw [e w]
    exact .tup sq q
  | ref ea =>
    obtain ⟨c, hc, ok⟩ := r.cell ea
    simp only [Qe, hc] at po
    cases c with
    | lst ds =>
      obtain ⟨vs, e, q⟩ := ok
      exact sl_list pins s σ H _ v vl vu lo hi sl Q I rx hsl pl pu ⟨_, _, rfl, SqL.of e, fun p n => dJ.rZ r (q.cut lo hi) po n⟩
    | _ => exact False.elim po
  | _ => exact False.elim po
def Cu (fa : ME) (lo hi : MO) : ME := fun e h => (fa e h).bind fun d h1 => (lo e h1).bind fun l h2 => (hi e h2).bind fun u h3 => BZ (Qe d l u h3)
theorem aeQ {a : Expr} {lo hi : Option Expr} {fa : ME} {fl fu : MO} {p2 pos : Pos} (ha : PE X a (rd X.K W fa)) (hl : PO X lo (rdO X.K W fl)) (hh : PO X hi (rdO X.K W fu)) : PE X (.Subscript a (.Slice lo hi none p2) pos) (rd X.K W (Cu fa fl fu)) :=
  (pe_slice alf ha hl hh).weak fun σ H Q ⟨e, al, h, r, re, p⟩ => by
    refine ⟨e, al, h, r, re, (bL.bind p).mono ?_⟩
    rintro v H1 ⟨d, bB, h1, l1, r1, q, p1⟩
    refine ⟨e, bB, h1, r1, re.mono r l1, (bL.bind p1).mono ?_⟩
    rintro lo' H2 ⟨d2, dU, h2, l2, r2, q2, p2⟩
    subst q2
    refine ⟨e, dU, h2, r2, (re.mono r l1).mono r1 l2, (bL.bind p2).mono ?_⟩
    rintro hi' H3 ⟨d3, R4, h3, l3, r3, q3, p3⟩
    subst q3
    exact ⟨d, R4, h3, r3, (q.mono r1 l2).mono r2 l3, dJ.of p3⟩
def bJ : List D → Option (List Bool)
  | [] => some []
  | .bl b :: ds => (bJ ds).map (b :: ·)
  | _ => none
def strsOf : List D → Option (List Str)
  | [] => some []
  | .str i :: ds => (strsOf ds).map (i :: ·)
  | _ => none
theorem Gz : ∀ {ds : List D} {vs : List V} {bs : List Bool}, bD K H al ds vs → bJ ds = some bs → vs = bs.map V.bl
  | _, _, _, .nil, e => by cases e; rfl
  | _, _, _, .cons q qs, e => by
    cases q with
    | bl b =>
      simp only [bJ] at e
      obtain ⟨cs, e1, e2⟩ := Option.map_eq_some_iff.mp e
      cases e2
      rw [Gz qs e1]
      rfl
    | _ => cases e
theorem aby : ∀ {ds : List D} {vs : List V} {bs : List Str}, bD K H al ds vs → strsOf ds = some bs → vs = bs.map V.str
  | _, _, _, .nil, e => by cases e; rfl
  | _, _, _, .cons q qs, e => by
    cases q with
    | str b =>
      simp only [strsOf] at e
      obtain ⟨cs, e1, e2⟩ := Option.map_eq_some_iff.mp e
      cases e2
      rw [aby qs e1]
      rfl
    | _ => cases e
def dM (o : List D → AH → Option (D × AH)) : ON
  | [.lst ds], h => o ds h
  | _, _ => none
theorem abz {o : List D → AH → Option (D × AH)} {xs : List V} {Q : VK} (p : rN K (dM o) xs H Q) : ∃ a ds vs al h, xs = [.ref a] ∧ HR K H al h ∧ SqL K H a vs ∧ bD K H al ds vs ∧ dJ K H al Q (o ds h) := by
  obtain ⟨ds, al, h, r, p, po⟩ := p
  cases p with
  | nil => exact False.elim po
  | cons q qs =>
    cases qs with
    | cons _ _ => cases q <;> exact False.elim po
    | nil =>
      cases q with
      | lst sq q => exact ⟨_, _, _, al, h, rfl, r, sq.sq, q, po⟩
      | _ => exact False.elim po
def allM : ON := dM fun ds h => (bJ ds).map fun bs => (.bl (bs.all id), h)
def anyM : ON := dM fun ds h => (bJ ds).map fun bs => (.bl (bs.any id), h)
theorem Qg (hc : X.calm = true) : CallR X (.builtin "all") (rN X.K allM) := by
  rintro pins s σ H xs us Q I rv p
  obtain ⟨a, ds, vs, al, h, rfl, r, sq, q, po⟩ := abz p
  cases z : bJ ds with
  | none => rw [z] at po; exact False.elim po
  | some bs =>
    rw [z] at po
    rw [Gz q z] at sq
    exact cr_all hc pins s σ H _ us Q I rv ⟨a, bs, rfl, sq, po _ _ _ .refl r (.bl _)⟩
theorem ajA (hc : X.calm = true) : CallR X (.builtin "any") (rN X.K anyM) := by
  rintro pins s σ H xs us Q I rv p
  obtain ⟨a, ds, vs, al, h, rfl, r, sq, q, po⟩ := abz p
  cases z : bJ ds with
  | none => rw [z] at po; exact False.elim po
  | some bs =>
    rw [z] at po
    rw [Gz q z] at sq
    exact cr_any hc pins s σ H _ us Q I rv ⟨a, bs, rfl, sq, po _ _ _ .refl r (.bl _)⟩
def cU : ON
  | [.int i], h => some (.int i, h)
  | [.bl b], h => some (.int (if b then 1 else 0), h)
  | _, _ => none
theorem ou : CallR X (.type "int") (rN X.K cU) := by
  rintro pins s σ H xs us Q I rv ⟨ds, al, h, r, p, po⟩
  cases p with
  | nil => exact False.elim po
  | cons q qs =>
    cases qs with
    | cons _ _ => cases q <;> exact False.elim po
    | nil =>
      cases q with
      | int i => exact call_int1 pins s σ H _ us Q I rv (.inl ⟨i, rfl, po _ _ _ .refl r (.int _)⟩)
      | bl b => exact call_int1 pins s σ H _ us Q I rv (.inr ⟨b, rfl, po _ _ _ .refl r (.int _)⟩)
      | _ => exact False.elim po
end
end PD
namespace PD
open PySem PySem.Spec PyProof.Rows L2
section
variable {X : Cx} {W : WX} {K : PySem.W.Frag} {H : Hp} {al : Al} {h : AH}
def Ba : D → AH → Option (String ⊕ Str)
  | .non, _ => some (.inl "NoneType")
  | .bl _, _ => some (.inl "bool")
  | .int _, _ => some (.inl "int")
  | .str _, _ => some (.inl "str")
  | .tup _, _ => some (.inl "tuple")
  | .lst _, _ => some (.inl "list")
  | .dW _, _ => some (.inl "list")
  | .obj c _, _ => some (.inr c)
  | .ref n, h => match h[n]? with
    | some (.lst _) => some (.inl "list")
    | some (.dict _) => some (.inl "dict")
    | some (.ins c _) => some (.inr c)
    | some (.dO _) => none
    | none => none
  | _, _ => none
structure Isa where
  oo : Str → Str → Option Bool
  to : String → Str → Option Bool
  ot : Str → String → Option Bool
structure Isa.Ok (I : Isa) (K : PySem.W.Frag) : Prop where
  oo : ∀ c g b, I.oo c g = some b → PySem.W.kitOne K (.ref (He.ga K c)) (.ref (He.ga K g)) = some b ∧ GB.zu K (He.ga K c) = true ∧ Cls K (He.ga K c)
  to : ∀ t g b, I.to t g = some b → PySem.W.kitOne K (.type t) (.ref (He.ga K g)) = some b
  ot : ∀ c n b, I.ot c n = some b → PySem.W.kitOne K (.ref (He.ga K c)) (.type n) = some b ∧ GB.zu K (He.ga K c) = true ∧ Cls K (He.ga K c)
def Rb (I : Isa) : Option (String ⊕ Str) → D → Option Bool
  | some (.inl t), .ty n => kitB t n
  | some (.inl t), .glo g => I.to t g
  | some (.inr c), .glo g => I.oo c g
  | some (.inr c), .ty n => I.ot c n
  | _, _ => none
def qG (I : Isa) : ON
  | [d, c], h => (Rb I (Ba d h) c).map fun b => (.bl b, h)
  | _, _ => none
theorem abB {d : D} {x : V} {t : String} (r : HR K H al h) (p : Rp K H al d x) (e : Ba d h = some (.inl t)) : TyX K H x (.type t) := by
  cases p with
  | non => cases e; exact .base .non
  | bl b => cases e; exact .base (.bl b)
  | int i => cases e; exact .base (.int i)
  | str x => cases e; exact .base (.str x)
  | ty n => cases e
  | glo x => cases e
  | tup s q =>
    cases e
    rcases s with (s | ⟨o, s⟩) | ⟨o, its, n, e1, e2, _⟩
    · exact .base (.tup s)
    · exact .fTuple s
    · exact .kTuple e1 e2
  | lst s q => cases e; exact .base (.lst s.1)
  | dW s q =>
    cases e
    rcases s with ⟨o, s, _⟩ | ⟨o, its, n, e1, e2, _⟩
    · exact .base (.frz s)
    · exact .kList e1 e2
  | obj _ _ _ => cases e
  | ref z =>
    obtain ⟨c, hc, ok⟩ := r.cell z
    simp only [Ba, hc] at e
    cases c with
    | lst ds =>
      cases e
      obtain ⟨vs, e1, _⟩ := ok
      exact .base (.lst e1)
    | dict kvs =>
      cases e
      obtain ⟨vs, e1, _⟩ := ok
      exact .base (.dK e1)
    | ins c fs => cases e
    | dO kvs => cases e
theorem abC {d : D} {x : V} {c : Str} (r : HR K H al h) (p : Rp K H al d x) (e : Ba d h = some (.inr c)) (hi : GB.zu K (He.ga K c) = true) (hc : Cls K (He.ga K c)) : TyX K H x (.ref (He.ga K c)) := by
  cases p with
  | obj e1 _ _ => cases e; exact GB.abn hi hc e1
  | ref z =>
    obtain ⟨c', hc', ok⟩ := r.cell z
    simp only [Ba, hc'] at e
    cases c' with
    | ins c fs =>
      cases e
      obtain ⟨dx, gs, e1, _⟩ := ok
      exact GB.abn hi hc e1
    | _ => cases e
  | _ => cases e
theorem Em {I : Isa} (ok : I.Ok X.K) : CallR X (.builtin "isinstance") (rN X.K (qG I)) := by
  rintro pins s σ H xs us Q Iv rv ⟨ds, al, h, r, p, po⟩
  match ds, p with
  | [], .nil => exact False.elim po
  | [_], .cons _ .nil => exact False.elim po
  | _ :: _ :: _ :: _, .cons _ (.cons _ (.cons _ _)) => exact False.elim po
  | [d, c], .cons q (.cons q2 .nil) =>
    simp only [qG] at po
    cases z : Rb I (Ba d h) c with
    | none => rw [z] at po; exact False.elim po
    | some b =>
      rw [z] at po
      have fin : ∀ t u, ClsV _ u → TyX X.K H _ t → PySem.W.kitOne X.K t u = some b → _ := fun t u h1 h2 h3 => call_isi pins s σ H _ us Q Iv rv ⟨_, _, t, u, b, rfl, h1, h2, h3, po _ _ _ .refl r (.bl _)⟩
      cases e : Ba d h with
      | none => rw [e] at z; cases c <;> cases z
      | some y =>
        rw [e] at z
        cases y with
        | inl t =>
          cases q2 with
          | ty n => exact fin _ _ (.ty n) (abB r q e) (kit_ty z)
          | glo g => exact fin _ _ (.own _) (abB r q e) (ok.to _ _ _ z)
          | _ => cases z
        | inr c' =>
          cases q2 with
          | ty n =>
            obtain ⟨z1, z2, z3⟩ := ok.ot _ _ _ z
            exact fin _ _ (.ty n) (abC r q e z2 z3) z1
          | glo g =>
            obtain ⟨z1, z2, z3⟩ := ok.oo _ _ _ z
            exact fin _ _ (.own _) (abC r q e z2 z3) z1
          | _ => cases z
abbrev OM := D → List D → AH → Option (D × AH)
def rM (K : PySem.W.Frag) (o : OM) : V → List V → Hp → VK → Prop := fun x xs H Q => ∃ d ds al h, HR K H al h ∧ Rp K H al d x ∧ bD K H al ds xs ∧ dJ K H al Q (o d ds h)
def isT : String → D → AH → Bool
  | "list", .lst _, _ => true
  | "list", .dW _, _ => true
  | "str", .str _, _ => true
  | T, .ref n, h => match h[n]? with
    | some (.lst _) => T == "list"
    | some (.dict _) => T == "dict"
    | _ => false
  | _, _, _ => false
theorem adw {T : String} {d : D} {x : V} (r : HR K H al h) (p : Rp K H al d x) (e : isT T d h = true) : tyV K T x H := by
  unfold isT at e
  split at e
  · cases p with | lst s q => exact .inl ⟨rfl, _, s.sq⟩
  · cases p with | dW s q => exact .inl ⟨rfl, _, s.sq⟩
  · cases p with | str x => rfl
  · cases p with
    | ref z =>
      obtain ⟨c, hc, ok⟩ := r.cell z
      rw [hc] at e
      cases c with
      | lst ds =>
        obtain ⟨vs, e1, _⟩ := ok
        exact .inl ⟨beq_iff_eq.mp e, vs, SqL.of e1⟩
      | dict kvs =>
        obtain ⟨vs, e1, _⟩ := ok
        exact .inr (.inr (.inl ⟨beq_iff_eq.mp e, .inl ⟨vs, e1⟩⟩))
      | ins c fs => cases e
      | dO kvs => cases e
  · cases e
def qM (T : String) (o : OM) (fo : ME) (fa : MA) : ME := fun e h => (fo e h).bind fun d h1 => if isT T d h1 = true then (fa e h1).bind fun ds h2 => BZ (o d ds h2) else .stuck
theorem acj {o e : Expr} {es : List Expr} {fo : ME} {fa : MA} {name : Str} {apos cpos : Pos} {T id : String} {om : OM} (pa : PlainAttrs T) (slot : Slot T name id) (hty : typeOf (.builtin id) = pure (.type "method_descriptor")) (hm : MtR X id (rM X.K om)) (ho : PE X o (rd X.K W fo)) (ha : PA X (e :: es) (mj X.K W fa))
    (hbase : attributeBase o name X.env (eval o X.env) = eval o X.env := by rfl)
    (hfew : ((backTo cpos (starEach (e :: es) X.env)).all (fun x => !x.1) && (backToKw cpos (keywordEach [] X.env)).all (fun x => x.1.isSome)
      && decide ((e :: es).length + ([] : List Keyword).length + (if ([] : List Keyword).isEmpty then 0 else 1) < 30)) = true := by rfl)
    (hline : (apos.endLine == cpos.line) = true := by rfl) (hs : starEach (e :: es) X.env = (false, eval e X.env) :: starEach es X.env := by rfl) (hplain : (backTo cpos (starEach es X.env)).any (·.1) = false := by rfl) :
    PE X (.Call (.Attribute o name apos) (e :: es) [] cpos) (rd X.K W (qM T om fo fa)) :=
  (pe_bm pa slot hty hm ho (GB.PA.cl ha) hbase hfew hline hs hplain).weak fun σ H Q ⟨en, al, h, r, re, p⟩ => by
    refine ⟨en, al, h, r, re, (bL.bind p).mono ?_⟩
    rintro v H1 ⟨d, bB, h1, l1, r1, q, p1⟩
    split at p1
    · rename_i hT
      refine ⟨adw r1 q hT, _, ⟨en, bB, h1, r1, re.mono r l1, bL.bind p1⟩, ?_⟩
      rintro vs H2 ⟨ds, dU, h2, l2, r2, q2, p2⟩
      exact ⟨d, ds, dU, h2, r2, q.mono r1 l2, q2, dJ.of p2⟩
    · exact p1.elim
def zP : OM
  | .ref n, [y], h => match h[n]? with
    | some (.lst xs) => if xs.length < 16777216 then some (.non, h.set n (.lst (xs ++ [y]))) else none
    | _ => none
  | _, _, _ => none
theorem m_append : MtR X "list.append" (rM X.K zP) := by
  have hs : sizeLine = 16777216 := sizeLine_eq
  rintro pins s σ H x xs v us Q I rx rv ⟨d, ds, al, h, r, p, q, po⟩
  match ds, q with
  | [], .nil => cases p <;> exact False.elim po
  | _ :: _ :: _, .cons _ (.cons _ _) => cases p <;> exact False.elim po
  | [y], .cons q .nil =>
    cases p with
    | ref z =>
      obtain ⟨c, hc, ok⟩ := r.cell z
      simp only [zP, hc] at po
      cases c with
      | lst ys =>
        obtain ⟨vs, e1, qs⟩ := ok
        dsimp only at po
        split at po
        · rename_i hl
          refine mt_append pins s σ H _ _ v us Q I rx rv ⟨_, vs, _, rfl, rfl, e1, by rw [← qs.length, hs]; exact hl, ?_⟩
          obtain ⟨r3, l3⟩ := r.put (o := .lst (vs ++ [_])) (c := .lst (ys ++ [y])) z fun H' aU l' e' => ⟨_, e', (qs.mono r l').append (.cons (q.mono r l') .nil)⟩
          exact po _ _ _ l3 r3 .non
        · exact False.elim po
      | _ => exact False.elim po
    | _ => exact False.elim po
theorem aaj {o e : Expr} {fo : ME} {fa : MA} {apos cpos : Pos} (ho : PE X o (rd X.K W fo)) (ha : PA X [e] (mj X.K W fa))
    (hbase : attributeBase o "append" X.env (eval o X.env) = eval o X.env := by rfl)
    (hfew : ((backTo cpos (starEach [e] X.env)).all (fun x => !x.1) && (backToKw cpos (keywordEach [] X.env)).all (fun x => x.1.isSome)
      && decide ([e].length + ([] : List Keyword).length + (if ([] : List Keyword).isEmpty then 0 else 1) < 30)) = true := by rfl)
    (hline : (apos.endLine == cpos.line) = true := by rfl) (hs : starEach [e] X.env = [(false, eval e X.env)] := by rfl) (hplain : (backTo cpos (starEach [] X.env)).any (·.1) = false := by rfl) :
    PE X (.Call (.Attribute o "append" apos) [e] [] cpos) (rd X.K W (qM "list" zP fo fa)) :=
  acj PySem.F.plainAttrs_list PySem.F.slot_list_append PySem.F.type_list_append m_append ho ha hbase hfew hline hs hplain
def joinM : OM
  | .str a, [.lst ds], h => match strsOf ds with
    | some ys => if (ys.map (·.length)).sum + ys.length * a.length ≤ 16777216 then some (.str (Txt.join a ys), h) else none
    | none => none
  | _, _, _ => none
theorem m_join : MtR X "str.join" (rM X.K joinM) := by
  rintro pins s σ H x xs v us Q I rx rv ⟨d, ds, al, h, r, p, q, po⟩
  match ds, q with
  | [], .nil => cases p <;> exact False.elim po
  | y :: _ :: _, .cons _ (.cons _ _) => cases p <;> cases y <;> exact False.elim po
  | [y], .cons q .nil =>
    cases p with
    | str a =>
      cases q with
      | lst sq q =>
        simp only [joinM] at po
        split at po
        · rename_i ys hy
          split at po
          · rename_i hl
            have e := aby q hy
            subst e
            exact mt_join pins s σ H _ _ v us Q I rx rv ⟨a, _, ys, rfl, rfl, .inl sq.sq, hl, po _ _ _ .refl r (.str _)⟩
          · exact False.elim po
        · exact False.elim po
      | _ => exact False.elim po
    | _ => cases q <;> exact False.elim po
theorem ahV {o e : Expr} {fo : ME} {fa : MA} {apos cpos : Pos} (ho : PE X o (rd X.K W fo)) (ha : PA X [e] (mj X.K W fa))
    (hbase : attributeBase o "join" X.env (eval o X.env) = eval o X.env := by rfl)
    (hfew : ((backTo cpos (starEach [e] X.env)).all (fun x => !x.1) && (backToKw cpos (keywordEach [] X.env)).all (fun x => x.1.isSome)
      && decide ([e].length + ([] : List Keyword).length + (if ([] : List Keyword).isEmpty then 0 else 1) < 30)) = true := by rfl)
    (hline : (apos.endLine == cpos.line) = true := by rfl) (hs : starEach [e] X.env = [(false, eval e X.env)] := by rfl) (hplain : (backTo cpos (starEach [] X.env)).any (·.1) = false := by rfl) :
    PE X (.Call (.Attribute o "join" apos) [e] [] cpos) (rd X.K W (qM "str" joinM fo fa)) :=
  acj PySem.F.plainAttrs_str PySem.F.slot_str_join PySem.F.type_str_join m_join ho ha hbase hfew hline hs hplain
def zQ (n : Nat) (i : Int) (v : D) (h : AH) : Option AH := match h[n]? with
  | some (.lst xs) => (ixN xs.length i).map fun j => h.set n (.lst (xs.set j v))
  | _ => none
def Eo (fo fi : ME) : MG := fun v e h => (fo e h).bind fun o h1 => (fi e h1).bind fun i h2 => match o, i with
  | .ref n, .int k => match zQ n k v h2 with
    | some h3 => .ok e h3
    | none => .stuck
  | _, _ => .stuck
end
end PD
namespace PD
open PySem PySem.Spec PyProof.Rows L2
section
variable {X : Cx} {W : WX} {K : PySem.W.Frag} {H : Hp} {al : Al} {h : AH}
structure KTab (K : PySem.W.Frag) (w : World) (x : Str) (tab : Str → Option (Option D)) : Prop where
  kd : ∃ es n, KDict K w (He.ga K x) es n
  hit : ∀ k d, tab k = some (some d) → ∃ u v, PySem.W.nsIn K (He.ga K x) k = some (some u) ∧ RelV v u ∧ ∀ H al, Rp K H al d v
  miss : ∀ k, tab k = some none → PySem.W.nsIn K (He.ga K x) k = some none
def oA (tab : Str → Option (Option D)) (k z : D) (h : AH) : Res D := match k with
  | .str k => match tab k with
    | some (some d) => .ok d h
    | some none => .ok z h
    | none => .stuck
  | _ => .stuck
def oE (tab : Str → Option (Option D)) (fk fz : ME) : ME := fun e h => (fk e h).bind fun k h1 => (fz e h1).bind fun z h2 => oA tab k z h2
theorem ahW {x : Str} {tab : Str → Option (Option D)} {e f : Expr} {fk fz : ME} {p apos cpos : Pos} (T : KTab X.K X.w x tab) (hg : Gl X x) (hmg : X.mg x = some (.ref (He.ga X.K x))) (he : PE X e (rd X.K W fk)) (hf : PE X f (rd X.K W fz)) (m : M2 X (.Name x p) "get" apos e f cpos) (hdb : (x == ("__debug__" : Str)) = false := by decide) :
    PE X (.Call (.Attribute (.Name x p) "get" apos) [e, f] [] cpos) (rd X.K W (oE tab fk fz)) :=
  (GB.agb (pe_glob (v := .ref (He.ga X.K x)) hg hmg rfl hdb) he hf m).weak fun σ H Q ⟨en, al, h, r, re, po⟩ => by
    obtain ⟨es, n, kd⟩ := T.kd
    refine ⟨_, es, n, rfl, kd, en, al, h, r, re, (bL.bind po).mono ?_⟩
    rintro v H1 ⟨d, bB, h1, l1, r1, q, p1⟩
    refine ⟨en, bB, h1, r1, re.mono r l1, (bL.bind p1).mono ?_⟩
    rintro z H2 ⟨d2, dU, h2, l2, r2, q2, p2⟩
    cases q with
    | str k =>
      simp only [oA] at p2
      split at p2
      · rename_i d3 hd
        obtain ⟨u, v, e1, e2, e3⟩ := T.hit k d3 hd
        exact ⟨k, rfl, .inl ⟨u, v, e1, e2, p2 _ _ _ .refl r2 (e3 _ _)⟩⟩
      · rename_i hd
        exact ⟨k, rfl, .inr ⟨T.miss k hd, p2 _ _ _ .refl r2 q2⟩⟩
      · exact p2.elim
    | _ => exact p2.elim
def jK (tab : Str → Option (Option D)) (k : D) (h : AH) : Res D := match k with
  | .str k => match tab k with
    | some (some d) => .ok d h
    | _ => .stuck
  | _ => .stuck
def jL (tab : Str → Option (Option D)) (fk : ME) : ME := fun e h => (fk e h).bind fun k h1 => jK tab k h1
theorem ajB {x : Str} {tab : Str → Option (Option D)} {e : Expr} {fk : ME} {p pos : Pos} (T : KTab X.K X.w x tab) (hg : Gl X x) (hmg : X.mg x = some (.ref (He.ga X.K x))) (he : PE X e (rd X.K W fk)) (hs : PlainIx e) (hdb : (x == ("__debug__" : Str)) = false := by decide) :
    PE X (.Subscript (.Name x p) e pos) (rd X.K W (jL tab fk)) :=
  (pe_ix ix_kdict (pe_glob (v := .ref (He.ga X.K x)) hg hmg rfl hdb) he hs).weak fun σ H Q ⟨en, al, h, r, re, po⟩ => by
    obtain ⟨es, n, kd⟩ := T.kd
    refine ⟨en, al, h, r, re, (bL.bind po).mono ?_⟩
    rintro v H1 ⟨d, bB, h1, l1, r1, q, p1⟩
    cases q with
    | str k =>
      simp only [jK] at p1
      split at p1
      · rename_i d3 hd
        obtain ⟨u, v, e1, e2, e3⟩ := T.hit k d3 hd
        exact ⟨_, k, v, rfl, rfl, ⟨es, n, u, kd.at_, kd.lit, e1, e2⟩, p1 _ _ _ .refl r1 (e3 _ _)⟩
      · exact p1.elim
    | _ => exact p1.elim
def fJ (i n : Nat) (fs : Str → Option (List D → AH → Res D)) (fa : MA) : ME := fun e h => match e[i]? with
  | some (some (.glo x)) => match fs x with
    | some m => (fa e h).bind fun ds h1 => if ds.length = n then m ds h1 else .stuck
    | none => .stuck
  | _ => .stuck
theorem agt {i n : Nat} {y : Str} {fs : Str → Option (List D → AH → Res D)} {e : Expr} {es : List Expr} {fa : MA} {p pos : Pos} (c : ∀ x m, fs x = some m → kZ X W (.ref (He.ga X.K x)) n [] m ∧ PySem.W.keepIn X.K (.ref (He.ga X.K x)) = true)
    (hN : X.N[i]? = some y) (hv : Vis X.env.scope y) (ha : PA X (e :: es) (mj X.K W fa)) (hdb : (y == ("__debug__" : Str)) = false := by decide) (hcd : (y == ("__classdict__" : Str)) = false := by decide)
    (he : starEach (e :: es) X.env = (false, eval e X.env) :: starEach es X.env := by rfl) (hpl : (backTo pos (starEach es X.env)).any (·.1) = false := by rfl) :
    PE X (.Call (.Name y p) (e :: es) [] pos) (rd X.K W (fJ i n fs fa)) := by
  constructor
  rintro pins s σ H Q I ⟨en, al, h, r, re, po⟩
  unfold fJ at po
  split at po
  · rename_i x hx
    split at po
    · rename_i m hm
      obtain ⟨cm, kp⟩ := c x m hm
      obtain ⟨v, hv1, q⟩ := re.2 i _ hx
      cases q
      refine wpAny_Call_Name_kw (thn ((pe_var hN hv hdb hcd).run pins s σ H (fun v H' => v = .ref (He.ga X.K x) ∧ H' = H) I ⟨_, hv1, rfl, rfl⟩) ?_)
      rintro u s1 ⟨v, H1, I1, rv, rfl, rfl⟩
      obtain rfl : u = Value.ref (He.ga X.K x) := rv
      refine PySem.W.callWith_K (h₀ := X.base) I1.ok.mod.kin kp (thn (ha.run pos pins s1 σ _ _ I1 ⟨en, al, h, r, re, bL.bind po⟩) ?_) he hpl
      rintro us s2 ⟨vs, H2, I2, rvs, ds, dU, h2, l2, r2, q2, p2⟩
      refine ⟨I2.kIn, ?_⟩
      split at p2
      · rename_i hn
        exact cm pins s2 σ H2 us [] vs [] Q I2 rvs .nil (rvs.length.symm.trans (q2.length.symm.trans hn)) rfl ⟨ds, [], dU, h2, r2, q2, .nil, by rw [List.append_nil]; exact p2⟩
      · exact p2.elim
    · exact po.elim
  · exact po.elim
end
abbrev MX := List (Str × D) → AH → Option D
def rdX (K : PySem.W.Frag) (ok : Str → Prop) (a : Addr) (cls : Value) (d : Option Addr) (i : Nat) (g : MX) : TE := fun st H Q => ∃ c fs al h dd gs, ok c ∧ cls = .ref (He.ga K c) ∧ d = some dd ∧ st[i]? = some (some (.ref a)) ∧ HR K H al h ∧ H dd = some (.xd gs) ∧ eE K H al fs gs ∧
  ∃ x, g fs h = some x ∧ ∀ v H' aU, Le H al H' aU → HR K H' aU h → Rp K H' aU x v → Q v H'
theorem HR.adx {K : PySem.W.Frag} {H : Hp} {al : Al} {h : AH} {dd : Addr} {gs : List (Str × V)} (r : HR K H al h) (e : H dd = some (.xd gs)) : ¬ al.has dd := fun m => by
  rcases m with m | m
  · obtain ⟨n, e2⟩ := List.getElem?_of_mem m
    obtain ⟨c, _, q⟩ := r.cell e2
    cases c with
    | lst ds => obtain ⟨vs, q, _⟩ := q; rw [e] at q; cases q
    | dict kvs => obtain ⟨vs, q, _⟩ := q; rw [e] at q; cases q
    | ins c fs => obtain ⟨dx, gs, q, _⟩ := q; rw [e] at q; cases q
    | dO kvs => obtain ⟨o, ws, q, _⟩ := q; rw [e] at q; cases q
  · obtain ⟨vs, q⟩ := r.rs dd m
    rw [e] at q
    cases q
def xF (f : Str) : MX := fun fs _ => fs.lookup f
def acn (gs : List MX) : MX := fun fs h => (gs.mapM fun (g : MX) => g fs h).map D.tup
section
variable {X : Cx} {W : WX} {ok : Str → Prop} {a : Addr} {oe : Obj} {cls : Value} {d : Option Addr} {pn : List (Addr × Obj)} {i : Nat} {n f : Str} {pos p1 : Pos}
theorem afL (hT : ∀ c, ok c → XfC X.K (He.ga X.K c) ∧ PySem.W.findIn X.K (.ref (He.ga X.K c)) f = some none) (hz : Zc cls d oe) (hf : ∃ vs, oe.data = .fields vs) (hN : X.N[i]? = some n) (hv : Vis X.env.scope n)
    (hb : attributeBase (.Name n p1) f X.env (eval (.Name n p1) X.env) = eval (.Name n p1) X.env := by rfl) (hd : (n == ("__debug__" : Str)) = false := by decide) (hcd : (n == ("__classdict__" : Str)) = false := by decide) :
    PE (X.suite a ((a, oe) :: pn)) (.Attribute (.Name n p1) f pos) (rdX X.K ok a cls d i (xF f)) := by
  constructor
  rintro pins s σ H Q I ⟨c, fs, al, h, dd, gs, hok, ec, ed, es, r, e1, qf, x, e, q⟩
  obtain ⟨T, hno⟩ := hT c hok
  obtain ⟨v, e2, q2⟩ := qf.lookup e
  exact (pe_xf (C := He.ga X.K c) T hno hz hf (pe_var (X := X.suite a ((a, oe) :: pn)) hN hv hd hcd) hb).run pins s σ H Q I ⟨_, es, rfl, ec, dd, gs, v, ed, e1, e2, q v H al .refl r q2⟩
def aco (K : PySem.W.Frag) (ok : Str → Prop) (a : Addr) (cls : Value) (d : Option Addr) (i : Nat) (ms : List MX) : TA := fun st H Q => ∃ c fs al h dd gs, ok c ∧ cls = .ref (He.ga K c) ∧ d = some dd ∧ st[i]? = some (some (.ref a)) ∧ HR K H al h ∧ H dd = some (.xd gs) ∧ eE K H al fs gs ∧
  ∃ xs, (ms.mapM fun (g : MX) => g fs h) = some xs ∧ ∀ vs H' aU, Le H al H' aU → HR K H' aU h → bD K H' aU xs vs → Q vs H'
theorem ahX : PA (X.suite a ((a, oe) :: pn)) [] (aco X.K ok a cls d i []) :=
  pa_nil.weak fun σ H Q ⟨c, fs, al, h, dd, gs, _, _, _, _, r, _, _, xs, e, q⟩ => by
    cases e
    exact q [] H al .refl r .nil
theorem abD {e : Expr} {es : List Expr} {g : MX} {ms : List MX} (he : PE (X.suite a ((a, oe) :: pn)) e (rdX X.K ok a cls d i g)) (hs : PA (X.suite a ((a, oe) :: pn)) es (aco X.K ok a cls d i ms)) (hst : starEach (e :: es) X.env = (false, eval e X.env) :: starEach es X.env := by rfl) :
    PA (X.suite a ((a, oe) :: pn)) (e :: es) (aco X.K ok a cls d i (g :: ms)) :=
  (pa_cons he hs hst).weak fun σ H Q ⟨c, fs, al, h, dd, gs, hok, ec, ed, es, r, e1, qf, xs, e, q⟩ => by
    rw [List.mapM_cons] at e
    obtain ⟨x, e2, e3⟩ := Option.bind_eq_some_iff.mp e
    obtain ⟨ys, e4, e5⟩ := Option.bind_eq_some_iff.mp e3
    cases e5
    refine ⟨c, fs, al, h, dd, gs, hok, ec, ed, es, r, e1, qf, x, e2, fun v H1 bB l1 r1 q1 => ?_⟩
    refine ⟨c, fs, bB, h, dd, gs, hok, ec, ed, es, r1, l1.keep _ _ e1 (r.adx e1), qf.mono r l1, ys, e4, fun vs H2 dU l2 r2 q2 => ?_⟩
    exact q _ H2 dU (l1.trans l2) r2 (.cons (q1.mono r1 l2) q2)
theorem ajC {es : List Expr} {ms : List MX} {k : Nat} (ha : PA (X.suite a ((a, oe) :: pn)) es (aco X.K ok a cls d i ms)) (hl : ms.length ≤ 1000) : PE (X.suite a ((a, oe) :: pn)) (.Tuple es k pos) (rdX X.K ok a cls d i (acn ms)) :=
  (pe_tup (GB.PA.cl ha)).weak fun σ H Q ⟨c, fs, al, h, dd, gs, hok, ec, ed, es, r, e1, qf, x, e, q⟩ => by
    have hs : sizeLine = 16777216 := sizeLine_eq
    obtain ⟨xs, e2, e3⟩ := Option.map_eq_some_iff.mp e
    cases e3
    refine ⟨_, ⟨c, fs, al, h, dd, gs, hok, ec, ed, es, r, e1, qf, xs, e2, fun vs H1 bB l1 r1 q1 => (⟨bB, l1, r1, q1⟩ : ∃ bB, Le H al H1 bB ∧ HR X.K H1 bB h ∧ bD X.K H1 bB xs vs)⟩, ?_⟩
    rintro vs H1 ⟨bB, l1, r1, q1⟩
    refine ⟨?_, fun p np => ?_⟩
    · have := aak e2
      rw [← q1.length, hs]
      omega
    · have lf := Le.fresh (o := .tup vs) r1 np
      exact q _ _ bB (l1.trans lf) (r1.fresh np) (.tup (SqT.of upd_same) (q1.mono r1 lf))
where
  aak {α β : Type} {g : α → Option β} : ∀ {l : List α} {r : List β}, l.mapM g = some r → r.length = l.length
    | [], _, e => by cases e; rfl
    | x :: l, r, e => by
      rw [List.mapM_cons] at e
      obtain ⟨y, _, e3⟩ := Option.bind_eq_some_iff.mp e
      obtain ⟨ys, e4, e5⟩ := Option.bind_eq_some_iff.mp e3
      cases e5
      simp [aak e4]
def zR (i : Nat) (exm : Str → Option Bool) (f : MS) (g : MX) : MS := fun e h => match f e h with
  | .exc c fs e' h' => match exm c with
    | some true => if i < e'.length then match g fs h' with
        | some x => .rt x h'
        | none => .stuck
      else .stuck
    | some false => .exc c fs e' h'
    | none => .stuck
  | r => r
theorem ahY {x : Str} {C : Value} {f : MS} {g : MX} {exm : Str → Option Bool} {body : List Stmt} {ex : Expr} {np pos' pos2 : Pos} (ct : cC X W) (hs : X.stack = X.env :: X.outer) (hf : X.env.frame = some X.env.locals) (hN : X.N.Nodup) (hi : X.N[i]? = some n) (hln : X.env.kindOf n = some .local) (hc : Names X x C)
    (hex : ∀ c b, exm c = some b → PySem.W.exmOne X.K (.ref (He.ga X.K c)) C = some b)
    (hb : ∀ (W : WX) (pn : List (Addr × Obj)) (xe : Value → Shared → Prop), cC (X.tr pn xe) W → PSs (X.tr pn xe) body (lu X.K W f))
    (hx : ∀ (a : Addr) (oe : Obj) (cls : Value) (d : Option Addr) (pn : List (Addr × Obj)), Zc cls d oe → (∃ vs, oe.data = .fields vs) → PE (X.suite a ((a, oe) :: pn)) ex (rdX X.K (fun c => exm c = some true) a cls d i g)) :
    PS X (.Try body [.ExceptHandler (some (.Name x np)) (some n) [.Return (some ex) pos2] pos'] [] [] pos) (lu X.K W (zR i exm f g)) := by
  refine (ps_try_as (ts := fun a cls d => tRet (rdX X.K (fun c => exm c = some true) a cls d i g)) hs hf hN hi hln hc ct.tk (fun W pn xe tk po => hb W pn xe ⟨tk, po, ct.gd⟩) (fun a oe cls d pn hz hfl => pss_one (ps_ret (hx a oe cls d pn hz hfl)))).weak ?_
  rintro N σ H ⟨e, al, h, r, re, po⟩
  refine ⟨e, al, h, r, re, ?_⟩
  unfold zR at po
  cases z : f e h with
  | nx e' h' => rw [z] at po; exact po
  | bk e' h' => rw [z] at po; exact po
  | ct e' h' => rw [z] at po; exact po
  | rt d h' => rw [z] at po; exact po
  | stuck => rw [z] at po; exact po
  | exc c fs e' h' =>
    rw [z] at po
    dsimp only at po
    rintro dd st H' aU gs l r' uO e1 qf
    cases w : exm c with
    | none => rw [w] at po; exact po.elim
    | some b =>
      rw [w] at po
      refine ⟨b, hex c b w, fun hb1 a ha => ?_, fun hb2 => ?_⟩
      · subst hb1
        dsimp only at po
        split at po
        · rename_i hil
          rw [uO.1] at hil
          split at po
          · rename_i x hx
            exact ⟨c, fs, aU, h', dd, gs, w, rfl, rfl, by rw [List.getElem?_set_self hil], r', e1, qf, x, hx, fun v H2 dU l2 r2 q2 => po v H2 dU (l.trans l2) r2 q2⟩
          · exact po.elim
        · exact po.elim
      · subst hb2
        exact po dd st H' aU gs l r' uO e1 qf
end
end PD
namespace PD
open PySem PySem.Spec PyProof.Rows L2
section
variable {X : Cx} {W : WX} {a b c : Expr} {fa fb fc : ME} {pos : Pos}
theorem ady {o o' : O2} {σ : L2.St} {H : Hp} {Q : VK} {K : PySem.W.Frag} : rd K W (qL o o' fa fb fc) σ H Q → tChain (r2 K o) (r2 K o') (rd K W fa) (rd K W fb) (rd K W fc) σ H Q := by
  rintro ⟨e, al, h, r, re, p⟩
  refine ⟨e, al, h, r, re, (bL.bind p).mono ?_⟩
  rintro v H1 ⟨d, bB, h1, l, r1, q, p1⟩
  have RX := re.mono r l
  refine ⟨e, bB, h1, r1, RX, (bL.bind p1).mono ?_⟩
  rintro u H2 ⟨d2, dU, h2, l2, r2, q2, p2⟩
  have yQ := RX.mono r1 l2
  refine ⟨d, d2, dU, h2, r2, q.mono r1 l2, q2, ?_⟩
  have p3 := dJ.of (bL.bind p2)
  cases z : o d d2 h2 with
  | none => rw [z] at p3; exact p3
  | some zz =>
    obtain ⟨d3, h3⟩ := zz
    rw [z] at p3
    intro v3 H3 R4 l3 r3 q3
    obtain ⟨d3', ahZ, h3', l3', r3', q3', p4⟩ := p3 v3 H3 R4 l3 r3 q3
    cases q3' with
    | bl k =>
      refine ⟨k, rfl, ?_⟩
      cases k with
      | true =>
        rw [if_pos rfl]
        have l23 : Le H2 dU H3 ahZ := l3'
        refine ⟨e, ahZ, h3', r3', yQ.mono r2 l23, (bL.bind p4).mono ?_⟩
        rintro w H4 ⟨d4, al4, h4, l4, r4, q4, p5⟩
        exact ⟨d2, d4, al4, h4, r4, (q2.mono r2 l23).mono r3' l4, q4, dJ.of p5⟩
      | false =>
        rw [if_neg (by decide)]
        exact p4 _ _ _ .refl r3' (.bl false)
    | _ => exact p4.elim
theorem abE {op op' : CmpOp} {o o' : O2} (ho : OpR X (compareOp op) (r2 X.K o)) (ho' : OpR X (compareOp op') (r2 X.K o')) (ha : PE X a (rd X.K W fa)) (hb : PE X b (rd X.K W fb)) (hc : PE X c (rd X.K W fc))
    (hm : lastMarks [op, op'] [b, c] = false := by with_unfolding_all rfl) : PE X (.Compare a [op, op'] [b, c] pos) (rd X.K W (qL o o' fa fb fc)) :=
  (pe_chain ho ho' ha hb hc hm).weak fun σ H Q h => ady h
end
section
variable {X : Cx} {W : WX} {k n : Nat} {f : Addr} {x q : Str} {st : Stmt} {dvs : List V} {kws : List (Str × V)} {ps ks : List Str} {m m' : List D → AH → Res D}
theorem kZ.congr {g : Value} (c : kZ X W g n ks m) (h : ∀ ds, ds.length = n + ks.length → m ds = m' ds) : kZ X W g n ks m' := by
  rintro pins s σ H us ws vs zs Q I r rz l1 l2 ⟨ds, es, al, hh, hr1, q1, q2, po⟩
  refine c pins s σ H us ws vs zs Q I r rz l1 l2 ⟨ds, es, al, hh, hr1, q1, q2, ?_⟩
  have e : (ds ++ es).length = n + ks.length := by
    rw [List.length_append, q1.length, q2.length, r.length, rz.length, l1, l2]
  rw [h _ e]
  exact po
theorem acp {α : Type} (ds : List α) : GB.picked ds (List.range ds.length) = ds := by
  unfold GB.picked
  induction ds with
  | nil => rfl
  | cons a l ih =>
    rw [List.length_cons, List.range_succ_eq_map, List.filterMap_cons, List.filterMap_map]
    show a :: List.filterMap (fun i => l[i]?) (List.range l.length) = a :: l
    rw [ih]
theorem Fd.bK (F : Fd X.prog X.w X.K X.mg X.base k f x q st dvs kws ps m) (hr : Room k X.A) (ct : cC X W) (b : Bd X.K x q st dvs kws f ps n [] [] (List.range n)) : kZ X W (.ref f) n [] m := by
  refine (F.calls hr ct b (dd := []) fun _ _ => .nil).congr fun ds hl => ?_
  have e : n = ds.length := by simpa using hl.symm
  rw [List.append_nil, e, acp]
theorem Fd.kp {P : Program} {w : World} {K : PySem.W.Frag} {mg : Str → Option Value} {base : Heap} (F : Fd P w K mg base k f x q st dvs kws ps m) : PySem.W.keepIn K (.ref f) = true := by
  obtain ⟨fd, F1, _⟩ := F.ex
  exact F1.kp
end
end PD
theorem GB.Tp.kp {K : PySem.W.Frag} {mg : PySem.Str → Option PySem.Value} {x : PySem.Str} {st : PySem.Stmt} {dvs : List L2.V} {kws : List (PySem.Str × L2.V)} (T : GB.Tp K mg x st dvs kws) : PySem.W.keepIn K (.ref (He.ga K x)) = true := by
  obtain ⟨fd, F⟩ := T.ex
  exact F.kp
namespace PD
open PySem PySem.Spec PyProof.Rows L2
theorem Bd.kwo {K : PySem.W.Frag} {x q : Str} {st : Stmt} {kws : List (Str × V)} {f : Addr} {ps : List Str} {n : Nat} {ks : List Str} {is : List Nat} (ms : List (Str × V)) (hk : kws ≠ []) (hms : ∀ q ∈ ms, q ∈ kws)
    (h : ∀ (D : Addr) (doc pm : Value) (an : Option Addr) (cdv ct : Value) (us mv ws : List Value), us.length = n → mv.length = ms.length → ws.length = ks.length →
      KwChain D ((ms.map (·.1)).zip mv) (bindArgs (PySem.W.fnOf x q (defArgs st) (defBody st) (defScope st) .none (.ref D) doc pm an cdv ct) ⟨us, ks.zip ws⟩) (ps.zip (GB.picked (us ++ ws ++ mv) is))) : Bd K x q st [] kws f ps n ks (ms.map (·.2)) is := by
  rintro fd F
  obtain ⟨mv, b⟩ := F.kbinds0 n ks ms (fun us mv ws => GB.picked (us ++ ws ++ mv) is) hk hms (fun r1 r2 r3 => GB.zm ((r1.append r3).append r2) is) h
  exact ⟨_, b⟩
end PD
namespace PD
open PySem PySem.Spec PyProof.Rows L2
abbrev Mn := List D → AH → Res D
theorem Fd.stuck {P : Program} {w : World} {K : PySem.W.Frag} {mg : Str → Option Value} {base : Heap} {k : Nat} {f : Addr} {x q : Str} {st : Stmt} {dvs : List V} {kws : List (Str × V)} {ps : List Str} (T : GB.Dn K f x q st dvs kws) : Fd P w K mg base k f x q st dvs kws ps (fun _ _ => .stuck) := by
  obtain ⟨fd, F⟩ := T
  exact ⟨fd, F, ⟨fun _ _ _ _ ⟨_, _, _, _, _, po⟩ => po.elim, fun _ _ _ _ _ _ _ _ _ _ _ _ _ _ ⟨_, _, _, _, _, po⟩ => po.elim⟩⟩
end PD
namespace PD
open PySem PySem.Spec PyProof.Rows L2
def dOf : He.Dv → Option D
  | .non => some .non
  | .bl b => some (.bl b)
  | .int i => some (.int i)
  | .str x => some (.str x)
  | .ty n => some (.ty n)
  | .glo x => some (.glo x)
  | _ => none
theorem ah0 {K : PySem.W.Frag} {v : He.Dv} {d : D} (e : dOf v = some d) (H : Hp) (al : Al) : Rp K H al d (v.v K) := by
  cases v <;> cases e <;> constructor
def tabOf (kvs : List (Str × He.Dv)) (k : Str) : Option (Option D) := match kvs.find? fun q => decide (q.1 = k) with
  | some q => (dOf q.2).map some
  | none => none
theorem KTab.of {K : PySem.W.Frag} {w : World} {x : Str} {kvs : List (Str × He.Dv)} (kd : ∃ es n, KDict K w (He.ga K x) es n) (h : He.valsB K (He.ga K x) kvs = true) : KTab K w x (tabOf kvs) := by
  refine ⟨kd, fun k d e => ?_, fun k e => ?_⟩
  · unfold tabOf at e
    split at e
    · rename_i q hq
      obtain ⟨d', e1, e2⟩ := Option.map_eq_some_iff.mp e
      cases e2
      have hk : q.1 = k := of_decide_eq_true (List.find?_some (p := fun q : Str × He.Dv => decide (q.1 = k)) hq)
      obtain ⟨u, a, b⟩ := He.valsB_ok h (List.mem_of_find?_eq_some hq)
      subst hk
      exact ⟨u, _, a, b, fun H al => ah0 e1 H al⟩
    · cases e
  · unfold tabOf at e
    split at e
    · rename_i q hq
      cases z : dOf q.2 with
      | none => rw [z] at e; cases e
      | some d => rw [z] at e; cases e
    · cases e
end PD
namespace PD
open PySem PySem.Spec PyProof.Rows L2
section
variable {X : Cx} {W : WX}
end
end PD
namespace PD
open PySem PySem.Spec PyProof.Rows L2
section
variable {X : Cx} {W : WX}
theorem bD.eraseIdx {K : PySem.W.Frag} {H : Hp} {al : Al} : ∀ {ds : List D} {vs : List V} (k : Nat), bD K H al ds vs → bD K H al (ds.eraseIdx k) (vs.eraseIdx k)
  | _, _, _, .nil => .nil
  | _, _, 0, .cons _ q => q
  | _, _, k + 1, .cons p q => .cons p (q.eraseIdx k)
theorem bD.dropLast {K : PySem.W.Frag} {H : Hp} {al : Al} : ∀ {ds : List D} {vs : List V}, bD K H al ds vs → bD K H al ds.dropLast vs.dropLast
  | _, _, .nil => .nil
  | _, _, .cons _ .nil => .nil
  | _, _, .cons p (.cons q r) => .cons p (bD.dropLast (.cons q r))
def Rf : OM
  | .ref n, [.int i], h => match h[n]? with
    | some (.lst xs) => if -(2 ^ 63) ≤ i ∧ i < 2 ^ 63 then match seqIndex? i xs.length with
        | some k => match xs[k]? with
          | some y => some (y, h.set n (.lst (xs.eraseIdx k)))
          | none => none
        | none => none
      else none
    | _ => none
  | .ref n, [], h => match h[n]? with
    | some (.lst xs) => match xs[xs.length - 1]? with
      | some y => some (y, h.set n (.lst xs.dropLast))
      | none => none
    | _ => none
  | _, _, _ => none
theorem afM : MtR X "list.pop" (rM X.K Rf) := by
  rintro pins s σ H x xs v us Q I rx rv ⟨d, ds, al, h, r, p, q, po⟩
  unfold Rf at po
  split at po
  · rename_i n i h'
    cases p with
    | ref z =>
      match q with
      | .cons (.int i) .nil =>
        split at po
        · rename_i ys hy
          obtain ⟨vs, e1, qs⟩ := r.lst z hy
          split at po
          · rename_i hb
            split at po
            · rename_i k hk
              split at po
              · rename_i y hy2
                obtain ⟨v2, e2, rv2⟩ := qs.get hy2
                obtain ⟨r3, l3⟩ := r.put (o := .lst (vs.eraseIdx k)) (c := .lst (ys.eraseIdx k)) z fun H' aU l' e' => ⟨_, e', (qs.mono r l').eraseIdx k⟩
                exact mt_popAt pins s σ H _ _ v us Q I rx rv ⟨_, vs, i, k, v2, rfl, rfl, e1, hb.1, hb.2, by rw [← qs.length]; exact hk, e2, po _ _ _ l3 r3 (rv2.mono r l3)⟩
              · exact po.elim
            · exact po.elim
          · exact po.elim
        · exact po.elim
  · rename_i n h'
    cases p with
    | ref z =>
      match q with
      | .nil =>
        split at po
        · rename_i ys hy
          obtain ⟨vs, e1, qs⟩ := r.lst z hy
          split at po
          · rename_i y hy2
            obtain ⟨v2, e2, rv2⟩ := qs.get hy2
            obtain ⟨r3, l3⟩ := r.put (o := .lst vs.dropLast) (c := .lst ys.dropLast) z fun H' aU l' e' => ⟨_, e', (qs.mono r l').dropLast⟩
            exact mt_pop pins s σ H _ _ v us Q I rx rv ⟨_, vs, v2, rfl, rfl, e1, by rw [← qs.length]; exact e2, po _ _ _ l3 r3 (rv2.mono r l3)⟩
          · exact po.elim
        · exact po.elim
  · exact po.elim
def aal (T : String) (o : OM) (fo : ME) : ME := fun e h => (fo e h).bind fun d h1 => if isT T d h1 = true then BZ (o d [] h1) else .stuck
theorem afN {o : Expr} {fo : ME} {name : Str} {apos cpos : Pos} {T id : String} {om : OM} (pa : PlainAttrs T) (slot : Slot T name id) (hty : typeOf (.builtin id) = pure (.type "method_descriptor")) (hm : MtR X id (rM X.K om)) (ho : PE X o (rd X.K W fo))
    (hbase : attributeBase o name X.env (eval o X.env) = eval o X.env := by rfl) (hline : (apos.endLine == cpos.line) = true := by rfl) :
    PE X (.Call (.Attribute o name apos) [] [] cpos) (rd X.K W (aal T om fo)) :=
  (pe_bm0 pa slot hty hm ho hbase hline).weak fun σ H Q ⟨en, al, h, r, re, p⟩ => by
    refine ⟨en, al, h, r, re, (bL.bind p).mono ?_⟩
    rintro v H1 ⟨d, bB, h1, l1, r1, q, p1⟩
    split at p1
    · rename_i hT
      exact ⟨adw r1 q hT, d, [], bB, h1, r1, q, .nil, dJ.of p1⟩
    · exact p1.elim
def rI (K : PySem.W.Frag) (o : O2) : TIp := fun x y H Q => ∃ d e al h, HR K H al h ∧ Rp K H al d x ∧ Rp K H al e y ∧ dJ K H al Q (o d e h)
end
end PD
namespace PD
open PySem PySem.Spec PyProof.Rows L2
mutual
def mZ (n : Nat) : D → Bool
  | .tup ds => uF n ds
  | .lst ds => uF n ds
  | .dW ds => uF n ds
  | .obj _ fs => xZ n fs
  | .ref k => decide (k < n)
  | _ => true
def uF (n : Nat) : List D → Bool
  | [] => true
  | d :: ds => mZ n d && uF n ds
def xZ (n : Nat) : List (Str × D) → Bool
  | [] => true
  | (_, d) :: fs => mZ n d && xZ n fs
end
mutual
theorem abF {n : Nat} : ∀ {d : D}, mZ n d = true → Gx n d
  | .tup ds, h => wz (by simpa only [mZ] using h)
  | .lst ds, h => wz (by simpa only [mZ] using h)
  | .dW ds, h => wz (by simpa only [mZ] using h)
  | .obj _ fs, h => GD (by simpa only [mZ] using h)
  | .ref k, h => by
    have h : decide (k < n) = true := by simpa only [mZ] using h
    exact (of_decide_eq_true h : k < n)
  | .non, _ => trivial
  | .bl _, _ => trivial
  | .int _, _ => trivial
  | .str _, _ => trivial
  | .glo _, _ => trivial
  | .ty _, _ => trivial
theorem wz {n : Nat} : ∀ {ds : List D}, uF n ds = true → tV n ds
  | [], _ => trivial
  | d :: ds, h => by
    simp only [uF, Bool.and_eq_true] at h
    exact ⟨abF h.1, wz h.2⟩
theorem GD {n : Nat} : ∀ {ds : List (Str × D)}, xZ n ds = true → zN n ds
  | [], _ => trivial
  | (_, d) :: ds, h => by
    simp only [xZ, Bool.and_eq_true] at h
    exact ⟨abF h.1, GD h.2⟩
end
def aeR (n : Nat) : Cell → Prop
  | .lst ds => tV n ds
  | .dict kvs => tV n (kvs.map (·.2))
  | .ins _ fs => zN n fs
  | .dO kvs => tV n (kvs.map (·.2))
mutual
def m7 (h : AH) (n : Nat) : D → Option D
  | .tup ds => (Fx h n ds).map .tup
  | .lst ds => (Fx h n ds).map .lst
  | .dW ds => (Fx h n ds).map .dW
  | .obj c fs => (Qh h n fs).map (.obj c)
  | .ref k => if k < n then some (.ref k) else match h[k]? with
    | some (.lst ds) => if uF n ds = true then some (.lst ds) else none
    | some (.ins c fs) => if xZ n fs = true then some (.obj c fs) else none
    | _ => none
  | .non => some .non
  | .bl b => some (.bl b)
  | .int i => some (.int i)
  | .str x => some (.str x)
  | .glo x => some (.glo x)
  | .ty x => some (.ty x)
def Fx (h : AH) (n : Nat) : List D → Option (List D)
  | [] => some []
  | d :: ds => match m7 h n d, Fx h n ds with
    | some d', some ds' => some (d' :: ds')
    | _, _ => none
def Qh (h : AH) (n : Nat) : List (Str × D) → Option (List (Str × D))
  | [] => some []
  | (f, d) :: ds => match m7 h n d, Qh h n ds with
    | some d', some ds' => some ((f, d') :: ds')
    | _, _ => none
end
section
variable {K : PySem.W.Frag} {H H' : Hp} {al aU : Al} {h h' : AH}
def Kept (h h' : AH) : Prop := h.length ≤ h'.length ∧ ∀ i c, i < h.length → h'[i]? = some c → h[i]? = some c ∨ aeR h.length c
theorem fQ.ajD {c t r : List Addr} {x : Cell} {a : Addr} (q : fQ K H ⟨c ++ t, r⟩ a x) (w : aeR c.length x) : fQ K H ⟨c, r⟩ a x := by
  cases x with
  | lst ds =>
    obtain ⟨vs, z, q⟩ := q
    exact ⟨vs, z, q.less w⟩
  | dict kvs =>
    obtain ⟨ws, z, k, q⟩ := q
    exact ⟨ws, z, k, q.less w⟩
  | ins c fs =>
    obtain ⟨dx, gs, z, q⟩ := q
    exact ⟨dx, gs, z, q.less w⟩
  | dO kvs =>
    obtain ⟨o, ws, z, k, q⟩ := q
    exact ⟨o, ws, z, k, q.less w⟩
theorem HR.cut (r0 : HR K H al h) (l : Le H al H' aU) (r1 : HR K H' aU h') (k : Kept h h') : HR K H' al (h'.take h.length) ∧ Le H al H' al := by
  obtain ⟨t, ht⟩ := l.pre
  obtain ⟨c', r'⟩ := aU
  obtain rfl : r' = al.r := l.v9
  obtain rfl : c' = al.c ++ t := ht
  refine ⟨⟨r0.nd, by rw [List.length_take, r0.len]; exact (Nat.min_eq_left k.1).symm, r0.dis, r1.rs, fun n x a e1 e2 => ?_⟩, ⟨⟨[], by simp⟩, rfl, l.keep, l.res, fun _ z => .inl z, l.lk⟩⟩
  have hn2 := (List.getElem?_eq_some_iff.mp e2).1
  have hn : n < h.length := by rw [← r0.len]; exact hn2
  rw [List.getElem?_take_of_lt hn] at e1
  have q := r1.at_ n x a e1 (by
    show (al.c ++ t)[n]? = some a
    rw [List.getElem?_append_left hn2]
    exact e2)
  rcases k.2 n x hn e1 with z | z
  · exact q.less (r0.at_ n x a z e2)
  · exact q.ajD (by rw [r0.len]; exact z)
variable {c t r : List Addr}
theorem agu {k : Nat} {a : Addr} (nd : (c ++ t).Nodup) (ds : ∀ x ∈ c ++ t, x ∉ r) (e : (c ++ t)[k]? = some a) (hk : ¬ k < c.length) : ¬ Al.has ⟨c, r⟩ a := by
  have hm : a ∈ t := by
    rw [List.getElem?_append_right (by omega)] at e
    exact List.mem_of_getElem? e
  rintro (z | z)
  · rw [List.nodup_append] at nd
    exact nd.2.2 a z a hm rfl
  · exact ds a (List.mem_append_right _ hm) z
mutual
theorem Rp.fz (r1 : HR K H ⟨c ++ t, r⟩ h) : ∀ {d d' : D} {v : V}, Rp K H ⟨c ++ t, r⟩ d v → m7 h c.length d = some d' → Rp K H ⟨c, r⟩ d' v
  | _, _, _, .non, e => by simp only [m7] at e; cases e; exact .non
  | _, _, _, .bl b, e => by simp only [m7] at e; cases e; exact .bl b
  | _, _, _, .int i, e => by simp only [m7] at e; cases e; exact .int i
  | _, _, _, .str x, e => by simp only [m7] at e; cases e; exact .str x
  | _, _, _, .ty n, e => by simp only [m7] at e; cases e; exact .ty n
  | _, _, _, .glo x, e => by simp only [m7] at e; cases e; exact .glo x
  | _, _, _, .ref (n := n) (a := a) e1, e => by
    have e1 : (c ++ t)[n]? = some a := e1
    simp only [m7] at e
    split at e
    · rename_i hn
      cases e
      refine .ref ?_
      show c[n]? = some a
      rw [List.getElem?_append_left hn] at e1
      exact e1
    · rename_i hn
      have no := agu r1.nd r1.dis e1 hn
      split at e
      · rename_i ds hd
        split at e
        · rename_i w
          cases e
          obtain ⟨vs, ev, q⟩ := r1.at_ n _ a hd e1
          exact .lst ⟨ev, no⟩ (q.less (wz w))
        · cases e
      · rename_i cl fs hd
        split at e
        · rename_i w
          cases e
          obtain ⟨dx, gs, ev, q⟩ := r1.at_ n _ a hd e1
          exact .obj ev no (q.less (GD w))
        · cases e
      · cases e
  | _, _, _, .tup s q, e => by
    simp only [m7, Option.map_eq_some_iff] at e
    obtain ⟨ds', e, rfl⟩ := e
    exact .tup s (bD.fz r1 q e)
  | _, _, _, .lst s q, e => by
    simp only [m7, Option.map_eq_some_iff] at e
    obtain ⟨ds', e, rfl⟩ := e
    exact .lst ⟨s.1, tW s.2⟩ (bD.fz r1 q e)
  | _, _, _, .dW s q, e => by
    simp only [m7, Option.map_eq_some_iff] at e
    obtain ⟨ds', e, rfl⟩ := e
    exact .dW (s.elim (fun ⟨o, z⟩ => .inl ⟨o, z.1, tW z.2⟩) .inr) (bD.fz r1 q e)
  | _, _, _, .obj e1 n q, e => by
    simp only [m7, Option.map_eq_some_iff] at e
    obtain ⟨ds', e, rfl⟩ := e
    exact .obj e1 (tW n) (eE.fz r1 q e)
theorem bD.fz (r1 : HR K H ⟨c ++ t, r⟩ h) : ∀ {ds ds' : List D} {vs : List V}, bD K H ⟨c ++ t, r⟩ ds vs → Fx h c.length ds = some ds' → bD K H ⟨c, r⟩ ds' vs
  | _, _, _, .nil, e => by simp only [Fx] at e; cases e; exact .nil
  | _, _, _, .cons q qs, e => by
    simp only [Fx] at e
    split at e
    · rename_i d' ds' e1 e2
      cases e
      exact .cons (Rp.fz r1 q e1) (bD.fz r1 qs e2)
    · cases e
theorem eE.fz (r1 : HR K H ⟨c ++ t, r⟩ h) : ∀ {ds ds' : List (Str × D)} {vs : List (Str × V)}, eE K H ⟨c ++ t, r⟩ ds vs → Qh h c.length ds = some ds' → eE K H ⟨c, r⟩ ds' vs
  | _, _, _, .nil, e => by simp only [Qh] at e; cases e; exact .nil
  | _, _, _, .cons q qs, e => by
    simp only [Qh] at e
    split at e
    · rename_i d' ds' e1 e2
      cases e
      exact .cons (Rp.fz r1 q e1) (eE.fz r1 qs e2)
    · cases e
end
end
open Classical in
noncomputable def gc (h : AH) : Res D → Res D
  | .ok d h' => if Kept h h' then match m7 h' h.length d with
      | some d' => .ok d' (h'.take h.length)
      | none => .ok d h'
    else .ok d h'
  | .exc c fs h' => if Kept h h' then match Qh h' h.length fs with
      | some fs' => .exc c fs' (h'.take h.length)
      | none => .exc c fs h'
    else .exc c fs h'
  | .stuck => .stuck
theorem adA {K : PySem.W.Frag} {H : Hp} {al : Al} {h : AH} {E : XK} {Q : VK} {m : Res D} (r : HR K H al h) (p : qQ K H al E Q (gc h m)) : qQ K H al E Q m := by
  cases m with
  | stuck => exact p
  | ok d h' =>
    intro v H' aU l r' rp
    unfold gc at p
    dsimp only at p
    split at p
    · rename_i k
      obtain ⟨r2, l2⟩ := r.cut l r' k
      split at p
      · rename_i d' e
        obtain ⟨t, ht⟩ := l.pre
        obtain ⟨c', rr⟩ := aU
        obtain rfl : rr = al.r := l.v9
        obtain rfl : c' = al.c ++ t := ht
        exact p v H' al l2 r2 (Rp.fz r' rp (by rw [r.len]; exact e))
      · exact p v H' aU l r' rp
    · exact p v H' aU l r' rp
  | exc c fs h' =>
    intro a H' aU gs l r' ea rp
    unfold gc at p
    dsimp only at p
    split at p
    · rename_i k
      obtain ⟨r2, l2⟩ := r.cut l r' k
      split at p
      · rename_i d' e
        obtain ⟨t, ht⟩ := l.pre
        obtain ⟨c', rr⟩ := aU
        obtain rfl : rr = al.r := l.v9
        obtain rfl : c' = al.c ++ t := ht
        exact p a H' al gs l2 r2 ea (eE.fz r' rp (by rw [r.len]; exact e))
      · exact p a H' aU gs l r' ea rp
    · exact p a H' aU gs l r' ea rp
theorem Fd.gc {P : Program} {w : World} {K : PySem.W.Frag} {mg : Str → Option Value} {base : Heap} {k : Nat} {f : Addr} {x q : Str} {st : Stmt} {dvs : List V} {kws : List (Str × V)} {ps : List Str} {m : List D → AH → Res D}
    (F : Fd P w K mg base k f x q st dvs kws ps m) : Fd P w K mg base k f x q st dvs kws ps (fun ds h => PD.gc h (m ds h)) := by
  obtain ⟨fd, a, b⟩ := F.ex
  exact ⟨fd, a, b.imp fun vs H Q E ⟨ds, al, h, r, rp, po⟩ => ⟨ds, al, h, r, rp, adA r po⟩⟩
theorem kZ.gc {X : Cx} {W : WX} {f : Value} {n : Nat} {ks : List Str} {m : List D → AH → Res D} (c : kZ X W f n ks m) : kZ X W f n ks (fun ds h => PD.gc h (m ds h)) := by
  rintro pins s σ H us ws vs zs Q I r rz l1 l2 ⟨ds, es, al, h, hr, q1, q2, po⟩
  exact c pins s σ H us ws vs zs Q I r rz l1 l2 ⟨ds, es, al, h, hr, q1, q2, adA hr po⟩
mutual
theorem adB {h : AH} {n : Nat} : ∀ {d : D}, Gx n d → m7 h n d = some d
  | .tup ds, w => by simp only [m7, Ep (ds := ds) w, Option.map_some]
  | .lst ds, w => by simp only [m7, Ep (ds := ds) w, Option.map_some]
  | .dW ds, w => by simp only [m7, Ep (ds := ds) w, Option.map_some]
  | .obj c fs, w => by simp only [m7, abG (ds := fs) w, Option.map_some]
  | .ref k, w => by simp only [m7]; rw [if_pos (show k < n from w)]
  | .non, _ => by simp only [m7]
  | .bl _, _ => by simp only [m7]
  | .int _, _ => by simp only [m7]
  | .str _, _ => by simp only [m7]
  | .glo _, _ => by simp only [m7]
  | .ty _, _ => by simp only [m7]
theorem Ep {h : AH} {n : Nat} : ∀ {ds : List D}, tV n ds → Fx h n ds = some ds
  | [], _ => by simp only [Fx]
  | d :: ds, w => by simp only [Fx, adB w.1, Ep w.2]
theorem abG {h : AH} {n : Nat} : ∀ {ds : List (Str × D)}, zN n ds → Qh h n ds = some ds
  | [], _ => by simp only [Qh]
  | (_, d) :: ds, w => by simp only [Qh, adB w.1, abG w.2]
end
mutual
theorem afO {n : Nat} : ∀ {d : D}, Gx n d → mZ n d = true
  | .tup ds, w => by simp only [mZ]; exact Qi w
  | .lst ds, w => by simp only [mZ]; exact Qi w
  | .dW ds, w => by simp only [mZ]; exact Qi w
  | .obj c fs, w => by simp only [mZ]; exact adC w
  | .ref k, w => by simp only [mZ]; exact decide_eq_true w
  | .non, _ => by simp only [mZ]
  | .bl _, _ => by simp only [mZ]
  | .int _, _ => by simp only [mZ]
  | .str _, _ => by simp only [mZ]
  | .glo _, _ => by simp only [mZ]
  | .ty _, _ => by simp only [mZ]
theorem Qi {n : Nat} : ∀ {ds : List D}, tV n ds → uF n ds = true
  | [], _ => by simp only [uF]
  | d :: ds, w => by simp only [uF, afO w.1, Qi w.2, Bool.and_self]
theorem adC {n : Nat} : ∀ {ds : List (Str × D)}, zN n ds → xZ n ds = true
  | [], _ => by simp only [xZ]
  | (_, d) :: ds, w => by simp only [xZ, afO w.1, adC w.2, Bool.and_self]
end
theorem Kept.same {h t : AH} : Kept h (h ++ t) := ⟨by simp, fun i c hi e => .inl (by rw [List.getElem?_append_left hi] at e; exact e)⟩
theorem Kept.set {h t : AH} {n : Nat} {x : Cell} (w : aeR h.length x) : Kept h (h.set n x ++ t) := ⟨by simp, fun i c hi e => by
  rw [List.getElem?_append_left (by simpa using hi)] at e
  by_cases z : n = i
  · subst z
    rw [List.getElem?_set_self hi] at e
    cases e
    exact .inr w
  · rw [List.getElem?_set_ne z] at e
    exact .inl e⟩
end PD
namespace PD
open PySem PySem.Spec PyProof.Rows L2
def keyOf : D → Option Key
  | .int i => some (.inl i)
  | .str s => some (.inr s)
  | _ => none
theorem tZ {K : PySem.W.Frag} {H : Hp} {al : Al} {d : D} {v : V} {k : Key} (q : Rp K H al d v) (e : keyOf d = some k) : v = kV k := by
  cases q <;> cases e <;> rfl
def valD (kvs : List (Key × D)) (k : Key) : Option D := (kvs.find? fun kv => decide (kv.1 = k)).map (·.2)
def gR (kvs : List (Key × D)) (k : Key) (v : D) : List (Key × D) :=
  if (kvs.any fun kv => decide (kv.1 = k)) = true then kvs.map (fun kv => if kv.1 = k then (kv.1, v) else kv) else kvs ++ [(k, v)]
def KR (K : PySem.W.Frag) (H : Hp) (al : Al) (kvs : List (Key × D)) (ws : List (Key × V)) : Prop := ws.map (·.1) = kvs.map (·.1) ∧ bD K H al (kvs.map (·.2)) (ws.map (·.2))
section
variable {K : PySem.W.Frag} {H H' : Hp} {al aU : Al} {h : AH}
theorem KR.nil : KR K H al [] [] := ⟨rfl, .nil⟩
theorem KR.inv {p : Key × D} {kvs : List (Key × D)} {ws : List (Key × V)} (r : KR K H al (p :: kvs) ws) : ∃ v ws', ws = (p.1, v) :: ws' ∧ Rp K H al p.2 v ∧ KR K H al kvs ws' := by
  obtain ⟨a, b⟩ := r
  cases ws with
  | nil => cases a
  | cons w ws =>
    simp only [List.map_cons, List.cons.injEq] at a b
    cases b with
    | cons q qs => exact ⟨w.2, ws, by rw [← a.1], q, a.2, qs⟩
theorem KR.cons {k : Key} {d : D} {v : V} {kvs : List (Key × D)} {ws : List (Key × V)} (q : Rp K H al d v) (r : KR K H al kvs ws) : KR K H al ((k, d) :: kvs) ((k, v) :: ws) :=
  ⟨by simp only [List.map_cons, r.1], .cons q r.2⟩
theorem KR.mono {kvs : List (Key × D)} {ws : List (Key × V)} (r : KR K H al kvs ws) (hr : HR K H al h) (l : Le H al H' aU) : KR K H' aU kvs ws := ⟨r.1, r.2.mono hr l⟩
theorem KR.length : ∀ {kvs : List (Key × D)} {ws : List (Key × V)}, KR K H al kvs ws → ws.length = kvs.length := fun r => by
  have := congrArg List.length r.1
  simpa using this
theorem KR.val (k : Key) : ∀ {kvs : List (Key × D)} {ws : List (Key × V)}, KR K H al kvs ws → (valD kvs k = none ∧ valV ws k = none) ∨ ∃ d v, valD kvs k = some d ∧ valV ws k = some v ∧ Rp K H al d v
  | [], ws, r => by
    have e := r.length
    cases ws with
    | nil => exact .inl ⟨rfl, rfl⟩
    | cons _ _ => cases e
  | p :: kvs, ws, r => by
    obtain ⟨v, ws', rfl, q, r'⟩ := r.inv
    by_cases e : p.1 = k
    · refine .inr ⟨p.2, v, ?_, valV_pos e, q⟩
      simp [valD, List.find?_cons, e]
    · rcases KR.val k r' with ⟨a, b⟩ | ⟨d, w, a, b, c⟩
      · exact .inl ⟨by simpa [valD, List.find?_cons, e] using a, (valV_neg e).trans b⟩
      · exact .inr ⟨d, w, by simpa [valD, List.find?_cons, e] using a, (valV_neg e).trans b, c⟩
theorem KR.any (k : Key) : ∀ {kvs : List (Key × D)} {ws : List (Key × V)}, KR K H al kvs ws → (ws.any fun kv => decide (kv.1 = k)) = kvs.any fun kv => decide (kv.1 = k)
  | [], ws, r => by
    have e := r.length
    cases ws with
    | nil => rfl
    | cons _ _ => cases e
  | p :: kvs, ws, r => by
    obtain ⟨v, ws', rfl, q, r'⟩ := r.inv
    simp only [List.any_cons, KR.any k r']
theorem KR.repl (k : Key) {d : D} {v : V} (q : Rp K H al d v) : ∀ {kvs : List (Key × D)} {ws : List (Key × V)}, KR K H al kvs ws → KR K H al (kvs.map fun kv => if kv.1 = k then (kv.1, d) else kv) (ws.map fun kv => if kv.1 = k then (kv.1, v) else kv)
  | [], ws, r => by
    have e := r.length
    cases ws with
    | nil => exact .nil
    | cons _ _ => cases e
  | p :: kvs, ws, r => by
    obtain ⟨w, ws', rfl, q', r'⟩ := r.inv
    simp only [List.map_cons]
    by_cases e : p.1 = k
    · rw [if_pos e, if_pos e]
      exact .cons q (KR.repl k q r')
    · rw [if_neg e, if_neg e]
      exact .cons q' (KR.repl k q r')
theorem KR.snoc (k : Key) {d : D} {v : V} (q : Rp K H al d v) : ∀ {kvs : List (Key × D)} {ws : List (Key × V)}, KR K H al kvs ws → KR K H al (kvs ++ [(k, d)]) (ws ++ [(k, v)])
  | [], ws, r => by
    have e := r.length
    cases ws with
    | nil => exact .cons q .nil
    | cons _ _ => cases e
  | p :: kvs, ws, r => by
    obtain ⟨w, ws', rfl, q', r'⟩ := r.inv
    exact .cons q' (KR.snoc k q r')
theorem KR.put (k : Key) {d : D} {v : V} (q : Rp K H al d v) {kvs : List (Key × D)} {ws : List (Key × V)} (r : KR K H al kvs ws) : KR K H al (gR kvs k d) (putK ws k v) := by
  unfold gR putK
  rw [r.any k]
  split
  · exact r.repl k q
  · exact r.snoc k q
def uQ (kvs more : List (Key × D)) : List (Key × D) := more.foldl (fun acc kv => gR acc kv.1 kv.2) kvs
theorem KR.merge : ∀ {more : List (Key × D)} {ms : List (Key × V)} {kvs : List (Key × D)} {ws : List (Key × V)}, KR K H al more ms → KR K H al kvs ws → KR K H al (uQ kvs more) (mergeK ws ms)
  | [], ms, kvs, ws, r, q => by
    have e := r.length
    cases ms with
    | nil => exact q
    | cons _ _ => cases e
  | p :: more, ms, kvs, ws, r, q => by
    obtain ⟨v, ms', rfl, q', r'⟩ := r.inv
    show KR K H al (uQ (gR kvs p.1 p.2) more) (mergeK (putK ws p.1 v) ms')
    exact KR.merge r' (q.put p.1 q')
theorem HR.dct (r : HR K H al h) {n : Nat} {a : Addr} {kvs : List (Key × D)} (z : al.c[n]? = some a) (e : h[n]? = some (.dict kvs)) : ∃ ws, H a = some (.dK ws) ∧ KR K H al kvs ws := by
  obtain ⟨c, hc, ok⟩ := r.cell z
  rw [e] at hc
  cases hc
  obtain ⟨ws, e1, e2, e3⟩ := ok
  exact ⟨ws, e1, e2, e3⟩
theorem HR.adD (r : HR K H al h) {n : Nat} {a : Addr} {kvs : List (Key × D)} {ws : List (Key × V)} (z : al.c[n]? = some a) (q : KR K H al kvs ws) (hn : ∀ kvs, h[n]? ≠ some (.dO kvs) := by intro kvs w; simp_all) : HR K (upd H a (.dK ws)) al (h.set n (.dict kvs)) ∧ Le H al (upd H a (.dK ws)) al :=
  r.put (o := .dK ws) (c := .dict kvs) z (fun H' aU l' e' => ⟨ws, e', (q.mono r l').1, (q.mono r l').2⟩) hn
end
section
variable {X : Cx} {W : WX}
theorem hu1 (hu : X.A.units + 64 < cLine) : X.A.units + 1 < cLine := by omega
def bH : O2 := fun d k h => match d with
  | .ref n => match h[n]? with
    | some (.dict kvs) => ((keyOf k).bind (valD kvs)).map fun v => (v, h)
    | _ => xY d k h
  | _ => xY d k h
theorem ajE (hu : X.A.units + 64 < cLine) : IxR X (r2 X.K bH) := by
  rintro value slice pins s σ H x y v u Q I rx ry ⟨d, e, al, h, r, p, q, po⟩ hsl
  unfold bH at po
  split at po
  · rename_i n
    split at po
    · rename_i kvs hk
      cases p with
      | @ref _ a z =>
        obtain ⟨ws, e1, kr⟩ := r.dct z hk
        cases ek : keyOf e with
        | none => rw [ek] at po; exact False.elim po
        | some k =>
          rw [ek] at po
          obtain rfl := tZ q ek
          rcases kr.val k with ⟨e2, e3⟩ | ⟨d', v', e2, e3, q'⟩
          · rw [show (some k).bind (valD kvs) = valD kvs k from rfl, e2] at po
            exact False.elim po
          · rw [show (some k).bind (valD kvs) = valD kvs k from rfl, e2] at po
            obtain rfl : v = Value.ref _ := rx
            have g : DGet H _ (kV k) (some v') := e3 ▸ DGet.k e1
            have hT := dict_typeIs I g
            unfold subscriptTail
            refine wpAny_bind ?_
            rw [getitemInPython_of_ne hT.not_modules]
            refine wpAny_bind (wpAny_specialOf hT PySem.F.slot_dict_getitem.lookup ?_)
            have fin : wpAny (model X.prog X.w) X.A (subscripted slice false (.ref a) u) (fun r s₃ => wpAny (model X.prog X.w) X.A (letTemporaryGo value (.ref a) r >>= fun _ => pure r) (EP X pins σ Q) X.xe s₃) X.xe s := by
              rw [hsl]
              exact wpAny_operating (wpAny_mono (d_getItem (hu1 hu) I g ry fun w' s3 I3 rw' => ⟨v', H, I3, rw', po _ _ _ .refl r q'⟩) (fun r s₃ h₃ => wpAny_bind (wpAny_letTemporaryGo (wpAny_pure h₃))) fun _ _ x => x)
            first
              | exact wpAny_pure (wpAny_bind fin)
              | exact wpAny_bind (wpAny_pure (wpAny_bind fin))
              | exact wpAny_bind fin
    · exact ahT value slice pins s σ H x y v u Q I rx ry ⟨_, e, al, h, r, p, q, po⟩ hsl
  · exact ahT value slice pins s σ H x y v u Q I rx ry ⟨d, e, al, h, r, p, q, po⟩ hsl
theorem aW {a b : Expr} {fa fb : ME} {pos : Pos} (hu : X.A.units + 64 < cLine) (ha : PE X a (rd X.K W fa)) (hb : PE X b (rd X.K W fb)) (hs : PlainIx b) : PE X (.Subscript a b pos) (rd X.K W (aQ bH fa fb)) :=
  (pe_ix (ajE hu) ha hb hs).weak fun σ H Q h => Pq h
def inX : O2 := fun k d h => match d with
  | .ref n => match h[n]? with
    | some (.dict kvs) => (keyOf k).map fun k => (.bl (valD kvs k).isSome, h)
    | _ => Cr k d h
  | _ => Cr k d h
def acq : O2 := fun k d h => match d with
  | .ref n => match h[n]? with
    | some (.dict kvs) => (keyOf k).map fun k => (.bl (!(valD kvs k).isSome), h)
    | _ => Ra k d h
  | _ => Ra k d h
theorem KR.isSome {K : PySem.W.Frag} {H : Hp} {al : Al} {kvs : List (Key × D)} {ws : List (Key × V)} (r : KR K H al kvs ws) (k : Key) : (valV ws k).isSome = (valD kvs k).isSome := by
  rcases r.val k with ⟨a, b⟩ | ⟨d, v, a, b, _⟩ <;> rw [a, b] <;> rfl
theorem vA (hu : X.A.units + 64 < cLine) : OpR X (compareOp .In) (r2 X.K inX) := by
  rintro pins s σ H x y v u Q I rx ry ⟨d, e, al, h, r, p, q, po⟩
  unfold inX at po
  split at po
  · rename_i n
    split at po
    · rename_i kvs hk
      cases q with
      | ref z =>
        obtain ⟨ws, e1, kr⟩ := r.dct z hk
        cases ek : keyOf d with
        | none => rw [ek] at po; exact False.elim po
        | some k =>
          rw [ek] at po
          obtain rfl := tZ p ek
          obtain rfl : u = Value.ref _ := ry
          refine d_in (hu1 hu) I (DGet.k e1) rx fun s3 I3 => ⟨.bl (valV ws k).isSome, H, I3, rfl, ?_⟩
          rw [kr.isSome]
          exact po _ _ _ .refl r (.bl _)
    · exact aeP pins s σ H x y v u Q I rx ry ⟨d, _, al, h, r, p, q, po⟩
  · exact aeP pins s σ H x y v u Q I rx ry ⟨d, e, al, h, r, p, q, po⟩
def GJ (o i v : D) (h : AH) : Option AH := match o with
  | .ref n => match h[n]? with
    | some (.dict kvs) => match keyOf i with
      | some k => if kvs.length < 16777216 then some (h.set n (.dict (gR kvs k v))) else none
      | none => none
    | _ => match i with
      | .int k => zQ n k v h
      | _ => none
  | _ => none
def iV (fo fi : ME) : MG := fun v e h => (fo e h).bind fun o h1 => (fi e h1).bind fun i h2 => match GJ o i v h2 with
  | some h3 => .ok e h3
  | none => .stuck
def ajF (K : PySem.W.Frag) : TSet := fun o i v H Q => ∃ d e f al h, HR K H al h ∧ Rp K H al d o ∧ Rp K H al e i ∧ Rp K H al f v ∧
  ∃ h', GJ d e f h = some h' ∧ ∀ H' aU, Le H al H' aU → HR K H' aU h' → Q H'
theorem agv (hu : X.A.units + 64 < cLine) : PSet X (ajF X.K) := by
  have hsz : sizeLine = 16777216 := sizeLine_eq
  rintro pins s σ H o i v ov iv u Q I ro ri rv ⟨d, e, f, al, h, r, p, q, pv, h', eh, po⟩
  unfold GJ at eh
  split at eh
  · rename_i n
    cases p with
    | ref z =>
      split at eh
      · rename_i kvs hk
        obtain ⟨ws, e1, kr⟩ := r.dct z hk
        split at eh
        · rename_i k ek
          split at eh
          · rename_i hl
            cases eh
            obtain rfl := tZ q ek
            obtain rfl : ov = Value.ref _ := ro
            obtain ⟨r3, l3⟩ := r.adD z (kr.put k pv)
            exact d_setItem (hu1 hu) I (DPut.k e1 (by rw [kr.length, hsz]; exact hl)) ri rv fun s4 I4 => ⟨_, I4, po _ _ l3 r3⟩
          · cases eh
        · cases eh
      · split at eh
        · rename_i k
          cases q
          unfold zQ at eh
          split at eh
          · rename_i xs hx
            obtain ⟨vs, e1, qs⟩ := r.lst z hx
            cases w : ixN xs.length k with
            | none => rw [w] at eh; cases eh
            | some j =>
              rw [w] at eh
              cases eh
              obtain ⟨r3, l3⟩ := r.put (o := .lst (vs.set j v)) (c := .lst (xs.set j f)) z fun H' aU l' e' => ⟨_, e', (qs.mono r l').set (pv.mono r l') j⟩
              exact set_list pins s σ H _ _ _ ov iv u Q I ro ri rv ⟨_, vs, k, j, rfl, rfl, e1, by rw [← qs.length]; exact w, po _ _ l3 r3⟩
          · cases eh
        · cases eh
  · cases eh
theorem jB {o i : Expr} {fo fi : ME} {pos : Pos} (hu : X.A.units + 64 < cLine) (ho : PE X o (rd X.K W fo)) (hi : PE X i (rd X.K W fi))
    (ha : ∀ v, assign (.Subscript o i pos) X.env v = (do
      let ov ← holding [v] (eval o X.env)
      let iv ← holding [v, ov] (eval i X.env)
      standAt pos
      holding [v, ov, iv] (setItem ov iv v)
      release [v, ov, iv] []) := by intro _; rfl) : PG X (.Subscript o i pos) (Ce X.K W (iV fo fi)) :=
  (pg_sub ho hi (agv hu) ha).weak fun v σ H Q ⟨d, e, al, h, r, re, q, p⟩ => by
    refine ⟨e, al, h, r, re, (bL.bind p).mono ?_⟩
    rintro vo H1 ⟨d1, bB, h1, l1, r1, q1, p1⟩
    refine ⟨e, bB, h1, r1, re.mono r l1, (bL.bind p1).mono ?_⟩
    rintro vi H2 ⟨d2, dU, h2, l2, r2, q2, p2⟩
    split at p2
    · rename_i h3 eh
      exact ⟨d1, d2, d, dU, h2, r2, q1.mono r1 l2, q2, (q.mono r l1).mono r1 l2, h3, eh, fun H' aU l' r' => p2 _ _ _ l' r' (((re.mono r l1).mono r1 l2).mono r2 l')⟩
    · exact p2.elim
def sH : ME := fun _ h => .ok (.ref h.length) (h ++ [.dict []])
theorem Cv {pos : Pos} : PE X (.Dict [] [] pos) (rd X.K W sH) :=
  pe_dnewK.weak fun σ H Q ⟨e, al, h, r, re, p⟩ => fun a n => by
    obtain ⟨r', l⟩ := r.push (o := .dK []) (c := .dict []) n fun H' aU l e => ⟨[], e, rfl, .nil⟩
    exact p _ _ _ l r' (.ref (by rw [← r.len]; simp))
def uR : List (ME × ME) → En → AH → Res (List (D × D))
  | [], _, h => .ok [] h
  | (fk, fv) :: r, e, h => (fk e h).bind fun k h1 => (fv e h1).bind fun v h2 => (uR r e h2).bind fun ps h3 => .ok ((k, v) :: ps) h3
def keysOf : List (D × D) → Option (List (Key × D))
  | [] => some []
  | (k, v) :: r => (keyOf k).bind fun k => (keysOf r).map fun r => (k, v) :: r
def qW (ps : List (ME × ME)) : ME := fun e h => (uR ps e (h ++ [.dict []])).bind fun qs h2 => match keysOf qs, h2[h.length]? with
  | some kvs, some (.dict []) => if qs.length ≤ 15 then .ok (.ref h.length) (h2.set h.length (.dict (uQ [] kvs))) else .stuck
  | _, _ => .stuck
inductive RpP (K : PySem.W.Frag) (H : Hp) (al : Al) : List (D × D) → List (V × V) → Prop
  | nil : RpP K H al [] []
  | cons {k d : D} {x y : V} {ds : List (D × D)} {vs : List (V × V)} : Rp K H al k x → Rp K H al d y → RpP K H al ds vs → RpP K H al ((k, d) :: ds) ((x, y) :: vs)
theorem R8 {K : PySem.W.Frag} : ∀ (ps : List (ME × ME)) {σ : L2.St} {e : En} {H : Hp} {al : Al} {h : AH} {Q : List (V × V) → Hp → Prop}, HR K H al h → iQ K H al e σ →
    bL K (fun H al d v => RpP K H al d v) H al (fun c d H' => W c d σ H') Q (uR ps e h) → tPairs (ps.map fun p => (rd K W p.1, rd K W p.2)) σ H Q
  | [], σ, e, H, al, h, Q, r, re, p => p _ _ _ .refl r .nil
  | (fk, fv) :: ps, σ, e, H, al, h, Q, r, re, p => by
    refine ⟨e, al, h, r, re, (bL.bind p).mono ?_⟩
    rintro vk H1 ⟨d1, bB, h1, l1, r1, q1, p1⟩
    refine ⟨e, bB, h1, r1, re.mono r l1, (bL.bind p1).mono ?_⟩
    rintro vv H2 ⟨d2, dU, h2, l2, r2, q2, p2⟩
    refine R8 ps r2 ((re.mono r l1).mono r1 l2) ((bL.bind p2).mono ?_)
    rintro vs H3 ⟨ds, R4, h3, l3, r3, q3, p3⟩
    exact p3 _ _ _ .refl r3 (.cons ((q1.mono r1 l2).mono r2 l3) (q2.mono r2 l3) q3)
theorem R9 {K : PySem.W.Frag} {H : Hp} {al : Al} : ∀ {qs : List (D × D)} {vs : List (V × V)} {kvs : List (Key × D)}, RpP K H al qs vs → keysOf qs = some kvs → ∃ ws, vs = ws.map (fun kv => (kV kv.1, kv.2)) ∧ KR K H al kvs ws ∧ ws.length = qs.length
  | _, _, _, .nil, e => by cases e; exact ⟨[], rfl, .nil, rfl⟩
  | _, _, _, .cons (k := k) (ds := ds) a b c, e => by
    simp only [keysOf] at e
    cases ek : keyOf k with
    | none => rw [ek] at e; cases e
    | some k' =>
      cases er : keysOf ds with
      | none => rw [ek, er] at e; cases e
      | some r =>
        rw [ek, er] at e
        cases e
        obtain ⟨ws, rfl, kr, hl⟩ := R9 c er
        obtain rfl := tZ a ek
        exact ⟨(k', _) :: ws, rfl, .cons b kr, by simp [hl]⟩
theorem aam {pos : Pos} {keys : List (Option Expr)} {values : List Expr} {ps : List (ME × ME)} (h : PPs X pos keys values (ps.map fun p => (rd X.K W p.1, rd X.K W p.2))) (hall : keys.all (·.isSome) = true := by rfl) (hl : keys.length = values.length := by rfl) (h0 : keys ≠ [] := by intro z; cases z)
    (h15 : keys.length ≤ 15 := by decide) : PE X (.Dict keys values pos) (rd X.K W (qW ps)) :=
  (pe_disp h hall hl h0 h15).weak fun σ H Q ⟨e, al, h, r, re, p⟩ => fun a n => by
    obtain ⟨r', l⟩ := r.push (o := .dK []) (c := .dict []) n fun H' aU l e => ⟨[], e, rfl, .nil⟩
    have hn : (al.c ++ [a])[h.length]? = some a := by rw [← r.len]; simp
    refine R8 ps r' (re.mono r l) ((bL.bind (bL.le p l)).mono ?_)
    rintro vs H2 ⟨qs, dU, h2, l2, r2, q2, p2⟩
    split at p2
    · rename_i kvs ek eh
      split at p2
      · rename_i hq
        have z := l2.Cd.get hn
        obtain ⟨ws0, e1, kr0⟩ := r2.dct z eh
        obtain ⟨ws, rfl, kr, hw⟩ := R9 q2 ek
        have : ws0 = [] := List.length_eq_zero_iff.mp kr0.length
        subst this
        refine ⟨e1, ws, rfl, by omega, ?_⟩
        obtain ⟨r3, l3⟩ := r2.adD z (kr.merge .nil)
        exact p2 _ _ _ l3 r3 (.ref z)
      · exact p2.elim
    · exact p2.elim
def getM : OM
  | .ref n, [k], h => match h[n]?, keyOf k with
    | some (.dict kvs), some k => some ((valD kvs k).getD .non, h)
    | _, _ => none
  | .ref n, [k, x], h => match h[n]?, keyOf k with
    | some (.dict kvs), some k => some ((valD kvs k).getD x, h)
    | _, _ => none
  | _, _, _ => none
theorem afP (hu : X.A.units + 64 < cLine) : MtR X "dict.get" (rM X.K getM) := by
  rintro pins s σ H x xs v us Q I rx rv ⟨d, ds, al, h, r, p, q, po⟩
  unfold getM at po
  split at po
  · rename_i n k h'
    cases p with
    | ref z =>
      match q with
      | .cons qk .nil =>
        split at po
        · rename_i kvs k' hk ek
          obtain ⟨ws, e1, kr⟩ := r.dct z hk
          obtain rfl := tZ qk ek
          obtain rfl : v = Value.ref _ := rx
          cases rv with
          | cons r1 r2 =>
            cases r2
            refine d_get1 (hu1 hu) I (DGet.k e1) r1 fun w' s3 I3 rw' => ⟨_, H, I3, rw', ?_⟩
            rcases kr.val k' with ⟨a, b⟩ | ⟨d', v', a, b, q'⟩
            · rw [b]; rw [a] at po; exact po _ _ _ .refl r .non
            · rw [b]; rw [a] at po; exact po _ _ _ .refl r q'
        · exact po.elim
  · rename_i n k z' h'
    cases p with
    | ref z =>
      match q with
      | .cons qk (.cons qz .nil) =>
        split at po
        · rename_i kvs k' hk ek
          obtain ⟨ws, e1, kr⟩ := r.dct z hk
          obtain rfl := tZ qk ek
          obtain rfl : v = Value.ref _ := rx
          cases rv with
          | cons r1 r2 =>
            cases r2 with
            | cons r2 r3 =>
              cases r3
              refine d_get2 (hu1 hu) I (DGet.k e1) r1 r2 fun w' s3 I3 rw' => ⟨_, H, I3, rw', ?_⟩
              rcases kr.val k' with ⟨a, b⟩ | ⟨d', v', a, b, q'⟩
              · rw [b]; rw [a] at po; exact po _ _ _ .refl r qz
              · rw [b]; rw [a] at po; exact po _ _ _ .refl r q'
        · exact po.elim
  · exact po.elim
end
end PD
namespace PD
open PySem PySem.Spec PyProof.Rows L2
def m9 {α β : Type} (f : α → Option β) : List α → Option (List β)
  | [] => some []
  | d :: ds => (f d).bind fun p => (m9 f ds).map (p :: ·)
def fH (h : AH) : Nat → D → Option PyData
  | 0, _ => none
  | _ + 1, .non => some .none
  | _ + 1, .bl b => some (.bool b)
  | _ + 1, .int i => some (.int i)
  | _ + 1, .str x => some (.str x)
  | f + 1, .tup ds => (m9 (fH h f) ds).map .tuple
  | f + 1, .lst ds => (m9 (fH h f) ds).map .list
  | f + 1, .dW ds => (m9 (fH h f) ds).map .list
  | f + 1, .ref n => match h[n]? with
    | some (.lst ds) => (m9 (fH h f) ds).map .list
    | _ => none
  | _ + 1, _ => none
section
variable {K : PySem.W.Frag} {H : Hp} {al : Al} {h : AH}
theorem yR {F : D → Option PyData} : ∀ {ds : List D} {vs : List V} {ps : List PyData}, (∀ d v p, Rp K H al d v → F d = some p → Dp K H v p) → bD K H al ds vs → m9 F ds = some ps → DpAll K H vs ps
  | _, _, _, hF, .nil, e => by simp only [m9] at e; cases e; exact .nil
  | _, _, _, hF, .cons q qs, e => by
    simp only [m9] at e
    obtain ⟨p, e1, e2⟩ := Option.bind_eq_some_iff.mp e
    obtain ⟨ps, e3, e4⟩ := Option.map_eq_some_iff.mp e2
    cases e4
    exact .cons (hF _ _ _ q e1) (yR hF qs e3)
theorem Rp.Sd (r : HR K H al h) : ∀ (f : Nat) (d : D) (v : V) (p : PyData), Rp K H al d v → fH h f d = some p → Dp K H v p
  | 0, _, _, _, _, e => by simp [fH] at e
  | f + 1, _, _, _, .non, e => by simp only [fH] at e; cases e; exact .non
  | f + 1, _, _, _, .bl b, e => by simp only [fH] at e; cases e; exact .bl b
  | f + 1, _, _, _, .int i, e => by simp only [fH] at e; cases e; exact .int i
  | f + 1, _, _, _, .str x, e => by simp only [fH] at e; cases e; exact .str x
  | f + 1, _, _, _, .ty _, e => by simp [fH] at e
  | f + 1, _, _, _, .glo _, e => by simp [fH] at e
  | f + 1, _, _, _, .obj _ _ _, e => by simp [fH] at e
  | f + 1, _, _, _, .tup s q, e => by
    simp only [fH] at e
    obtain ⟨ps, e1, e2⟩ := Option.map_eq_some_iff.mp e
    cases e2
    exact .tup s (yR (Rp.Sd r f) q e1)
  | f + 1, _, _, _, .lst s q, e => by
    simp only [fH] at e
    obtain ⟨ps, e1, e2⟩ := Option.map_eq_some_iff.mp e
    cases e2
    exact .lst s.sq (yR (Rp.Sd r f) q e1)
  | f + 1, _, _, _, .dW s q, e => by
    simp only [fH] at e
    obtain ⟨ps, e1, e2⟩ := Option.map_eq_some_iff.mp e
    cases e2
    exact .lst s.sq (yR (Rp.Sd r f) q e1)
  | f + 1, _, _, _, .ref z, e => by
    simp only [fH] at e
    split at e
    · rename_i ds hd
      obtain ⟨vs, e1, q⟩ := r.lst z hd
      obtain ⟨ps, e2, e3⟩ := Option.map_eq_some_iff.mp e
      cases e3
      exact .lst (SqL.of e1) (yR (Rp.Sd r f) q e2)
    · cases e
end
def ji (h : AH) (d e : D) : Option Bool := match fH h 80 d, fH h 80 e with
  | some p, some q => if SeqAt.shaped p = true ∧ SeqAt.shaped q = true then some (PyData.eqv p q) else none
  | _, _ => none
def cP : O2 := fun d e h => (ji h d e).map fun b => (.bl b, h)
def eU : O2 := fun d e h => (ji h d e).map fun b => (.bl (!b), h)
section
variable {X : Cx} {W : WX}
theorem abH {K : PySem.W.Frag} {H : Hp} {al : Al} {h : AH} {d e : D} {x y : V} {b : Bool} (r : HR K H al h) (p : Rp K H al d x) (q : Rp K H al e y) (z : ji h d e = some b) : ∃ d e, Dp K H x d ∧ Dp K H y e ∧ SeqAt.shaped d = true ∧ SeqAt.shaped e = true ∧ PyData.eqv d e = b := by
  unfold ji at z
  split at z
  · rename_i p' q' h1 h2
    split at z
    · rename_i hs
      cases z
      exact ⟨p', q', Rp.Sd r _ _ _ _ p h1, Rp.Sd r _ _ _ _ q h2, hs.1, hs.2, rfl⟩
    · cases z
  · cases z
theorem cH (hu : X.A.units + 64 < cLine) : OpR X (compareOp .Eq) (r2 X.K cP) := by
  rintro pins s σ H x y v u Q I rx ry ⟨d, e, al, h, r, p, q, po⟩
  unfold cP at po
  cases z : ji h d e with
  | none => rw [z] at po; exact False.elim po
  | some b =>
    rw [z] at po
    obtain ⟨d', e', h1, h2, h3, h4, rfl⟩ := abH r p q z
    exact op_eqD hu pins s σ H _ _ v u Q I rx ry ⟨d', e', h1, h2, h3, h4, po _ _ _ .refl r (.bl _)⟩
theorem jg (hu : X.A.units + 64 < cLine) : OpR X (compareOp .NotEq) (r2 X.K eU) := by
  rintro pins s σ H x y v u Q I rx ry ⟨d, e, al, h, r, p, q, po⟩
  unfold eU at po
  cases z : ji h d e with
  | none => rw [z] at po; exact False.elim po
  | some b =>
    rw [z] at po
    obtain ⟨d', e', h1, h2, h3, h4, rfl⟩ := abH r p q z
    exact op_neD hu pins s σ H _ _ v u Q I rx ry ⟨d', e', h1, h2, h3, h4, po _ _ _ .refl r (.bl _)⟩
def aeS : D → Option (Int × Int)
  | .tup [.int i, .int j] => some (i, j)
  | _ => none
def prD (p : Int × Int) : D := .tup [.int p.1, .int p.2]
def Ql (p q : Int × Int) : Bool := !SrtO.lexB q p
def U8 (ps : List (Int × Int)) : List (Int × Int) := ps.mergeSort Ql
def Cy (h : AH) : D → Option (List D)
  | .lst ds => some ds
  | .dW ds => some ds
  | .ref n => match h[n]? with
    | some (.lst ds) => some ds
    | _ => none
  | _ => none
theorem Cz {K : PySem.W.Frag} {H : Hp} {al : Al} {h : AH} {d : D} {v : V} {ds : List D} (r : HR K H al h) (q : Rp K H al d v) (e : Cy h d = some ds) : ∃ a vs, v = .ref a ∧ SqL K H a vs ∧ bD K H al ds vs := by
  cases q with
  | lst s q => cases e; exact ⟨_, _, rfl, s.sq, q⟩
  | dW s q => cases e; exact ⟨_, _, rfl, s.sq, q⟩
  | ref z =>
    simp only [Cy] at e
    split at e
    · rename_i ds' hd
      cases e
      obtain ⟨vs, e1, q⟩ := r.lst z hd
      exact ⟨_, _, rfl, SqL.of e1, q⟩
    · cases e
  | _ => cases e
def aan : ON
  | [d], h => match (Cy h d).bind (m9 aeS) with
    | some ps => some (.ref h.length, h ++ [.lst ((U8 ps).map prD)])
    | none => none
  | _, _ => none
theorem ah1 (a b c : Int × Int) (h1 : Ql a b = true) (h2 : Ql b c = true) : Ql a c = true := by
  simp only [Ql, Bool.not_eq_true'] at *
  have x := SrtO.lexB_no.mp h1
  have y := SrtO.lexB_no.mp h2
  refine SrtO.lexB_no.mpr ?_
  omega
theorem agw (a b : Int × Int) : (Ql a b || Ql b a) = true := by
  simp only [Ql, Bool.or_eq_true, Bool.not_eq_true']
  by_cases h : SrtO.lexB b a = true
  · right
    have := SrtO.lexB_iff.mp h
    refine SrtO.lexB_no.mpr ?_
    omega
  · left
    simpa using h
theorem aeT : SrtO.Swo SrtO.lexB := by
  refine ⟨fun x y h => ?_, fun x y z h1 h2 => ?_⟩
  · have a := SrtO.lexB_iff.mp h
    exact SrtO.lexB_no.mpr (by omega)
  · have a := SrtO.lexB_no.mp h1
    have b := SrtO.lexB_no.mp h2
    exact SrtO.lexB_no.mpr (by omega)
theorem aeU {x y : Int × Int} (h : SrtO.eqv SrtO.lexB x y = true) : y = x := by
  simp only [SrtO.eqv, Bool.and_eq_true, Bool.not_eq_true'] at h
  have a := SrtO.lexB_no.mp h.1
  have b := SrtO.lexB_no.mp h.2
  obtain ⟨x1, x2⟩ := x
  obtain ⟨y1, y2⟩ := y
  simp only at a b
  have e1 : y1 = x1 := by omega
  have e2 : y2 = x2 := by omega
  rw [e1, e2]
theorem aa9 {l m : List (Int × Int)} (h : l.Perm m) : SrtO.Stb SrtO.lexB l m := by
  refine ⟨h, fun x => ?_⟩
  have p := h.filter (SrtO.eqv SrtO.lexB x)
  have r : ∀ k : List (Int × Int), ∀ y ∈ k.filter (SrtO.eqv SrtO.lexB x), y = x := fun k y hy => aeU (List.mem_filter.mp hy).2
  rw [List.eq_replicate_of_mem (r l), List.eq_replicate_of_mem (r m), p.length_eq]
theorem aeV {l ps : List (Int × Int)} (h : SrtO.Srtd SrtO.lexB l) (p : l.Perm ps) : l = U8 ps := by
  have q : (U8 ps).Perm ps := List.mergeSort_perm _ _
  have s : SrtO.Srtd SrtO.lexB (U8 ps) := by
    refine (List.pairwise_mergeSort ah1 agw ps).imp fun h => ?_
    simpa [Ql] using h
  exact SrtO.stb_uniq aeT h s (aa9 (p.trans q.symm))
theorem adF {K : PySem.W.Frag} {H : Hp} {al : Al} : ∀ {ds : List D} {vs : List V} {ps : List (Int × Int)}, bD K H al ds vs → m9 aeS ds = some ps → Paired (fun v p => ∃ t, v = V.ref t ∧ SqT K H t [.int p.1, .int p.2]) vs ps
  | _, _, _, .nil, e => by simp only [m9] at e; cases e; exact .nil
  | _, _, _, .cons (d := d) q qs, e => by
    simp only [m9] at e
    obtain ⟨p, e1, e2⟩ := Option.bind_eq_some_iff.mp e
    obtain ⟨ps, e3, e4⟩ := Option.map_eq_some_iff.mp e2
    cases e4
    refine .cons ?_ (adF qs e3)
    unfold aeS at e1
    split at e1
    · cases e1
      cases q with
      | tup sq ql =>
        cases ql with
        | cons a b =>
          cases b with
          | cons b c =>
            cases a; cases b; cases c
            exact ⟨_, rfl, sq⟩
    · cases e1
theorem Paired.mem {α β : Type} {R : α → β → Prop} : ∀ {xs : List α} {ys : List β}, Paired R xs ys → ∀ x ∈ xs, ∃ y, R x y
  | _, _, .nil, _, h => by cases h
  | _, _, .cons a b, x, h => by
    rcases List.mem_cons.mp h with rfl | h
    · exact ⟨_, a⟩
    · exact Paired.mem b x h
theorem Paired.ah2 {α β : Type} {R : α → β → Prop} {k : α → β} : ∀ {xs : List α} {ys : List β}, Paired R xs ys → (∀ x y, R x y → k x = y) → xs.map k = ys
  | _, _, .nil, _ => rfl
  | _, _, .cons a b, h => by rw [List.map_cons, h _ _ a, Paired.ah2 b h]
open Classical in
theorem akr : CallR X (.builtin "sorted") (rN X.K aan) := by
  rintro pins s σ H xs us Q I rv ⟨ds, al, h, r, p, po⟩
  cases p with
  | nil => exact False.elim po
  | cons q qs =>
    cases qs with
    | cons _ _ => exact False.elim po
    | nil =>
      simp only [aan] at po
      split at po
      · rename_i ps eps
        obtain ⟨es, ee, e2⟩ := Option.bind_eq_some_iff.mp eps
        obtain ⟨a, vs, rfl, sq, ql⟩ := Cz r q ee
        have pr := adF ql e2
        let R : V → Int × Int → Prop := fun v p => ∃ t, v = V.ref t ∧ SqT X.K H t [.int p.1, .int p.2]
        have uq : ∀ v p q, R v p → R v q → q = p := by
          rintro v ⟨p1, p2⟩ ⟨q1, q2⟩ ⟨t, rfl, h1⟩ ⟨t', e, h2⟩
          cases e
          have := I.tuple_inj h1 h2
          simp only [List.cons.injEq, V.int.injEq, and_true] at this
          rw [this.1, this.2]
        let k : V → Int × Int := fun v => if z : ∃ p, R v p then Classical.choose z else (0, 0)
        have hk : ∀ v p, R v p → k v = p := fun v p hp => by
          have z : ∃ p, R v p := ⟨p, hp⟩
          show (if z : ∃ p, R v p then Classical.choose z else (0, 0)) = p
          rw [dif_pos z]
          exact uq v _ _ hp (Classical.choose_spec z)
        have mk : vs.map k = ps := Paired.ah2 pr fun v p h => hk v p h
        have hx : ∀ x ∈ vs, R x (k x) := fun x m => by
          obtain ⟨p, hp⟩ := Paired.mem pr x m
          rw [hk x p hp]
          exact hp
        obtain ⟨its, rl, hl, hz⟩ := I.list sq
        obtain ⟨u, rfl, ru⟩ := vals1 rv
        obtain rfl : u = Value.ref a := ru
        obtain ⟨b1, b2⟩ := refs_back rl fun x m => by
          obtain ⟨t, e, _⟩ := hx x m
          exact ⟨t, e⟩
        refine SrtO.sorted_pairsO (k := fun u => k (backV u)) hl.isList (by rw [← rl.length]; exact hz) (fun v hv => ?_) fun h' d out h1 h2 kp hd hn => ?_
        · obtain ⟨t, rfl⟩ := b2 v hv
          have hm : V.ref t ∈ vs := by rw [b1]; exact List.mem_map.mpr ⟨_, hv, rfl⟩
          obtain ⟨t', e, ht⟩ := hx _ hm
          cases e
          obtain ⟨its2, r2, ⟨o, ho, hc, n, hd⟩, _⟩ := I.tuple ht
          obtain ⟨u1, u2, rfl, ri, rj⟩ := vals2 r2
          obtain ⟨t1, rfl⟩ := ri
          obtain ⟨t2, rfl⟩ := rj
          exact ⟨t, o, t1, t2, n, rfl, ho, hc, hd⟩
        · have h3 : ∀ u ∈ out, ∃ a, u = Value.ref a := fun u hu => b2 u (h2.perm.mem_iff.mp hu)
          obtain ⟨n, hn⟩ := hn
          have hb : SrtO.Stb (ltP k) (out.map backV) vs := by
            rw [b1]
            exact SrtO.Stb.map (ltP_swo k) backV h2
          have fresh := I.hok.fresh hd
          have sr : SrtO.Srtd SrtO.lexB ((out.map backV).map k) := SrtO.srtd_map (lt := SrtO.lexB) (f := k) (SrtO.srtd_map (lt := ltP k) (f := backV) h1)
          have pe : ((out.map backV).map k).Perm ps := by rw [← mk]; exact hb.perm.map k
          have eo := aeV sr pe
          refine ⟨.ref d, upd H d (.lst (out.map backV)), I.laid (t' := s.toks) kp hd ⟨?_, out, n, vals_back h3, hn⟩, rfl, ?_⟩
          · rw [hb.len]
            exact hz
          · refine dJ.abr r (vs := out.map backV) ?_ po fresh
            rw [← eo, List.map_map]
            have : ∀ l : List V, (∀ y ∈ l, R y (k y)) → bD X.K H al (l.map (prD ∘ k)) l := fun l => by
              induction l with
              | nil => exact fun _ => .nil
              | cons y l ih =>
                intro hl
                obtain ⟨t, e, ht⟩ := hl y List.mem_cons_self
                refine .cons ?_ (ih fun z hz => hl z (List.mem_cons_of_mem _ hz))
                show Rp X.K H al (prD (k y)) y
                rw [e] at ht ⊢
                exact .tup ht (.cons (.int _) (.cons (.int _) .nil))
            exact this _ fun y hy => hx y (hb.perm.mem_iff.mp hy)
      · exact False.elim po
end
end PD
namespace PD
open PySem PySem.Spec PyProof.Rows L2
section
variable {X : Cx} {W : WX}
def yS (i : Int) : Bool := decide (-(2 ^ 64) < i ∧ i < 2 ^ 64)
def g8 : O2
  | .int i, .int j, h => if yS i || yS j then some (.int (i * j), h) else mulM (.int i) (.int j) h
  | d, e, h => mulM d e h
theorem CG : OpR X (binaryOp .Mult) (r2 X.K g8) := by
  rintro pins s σ H x y v u Q I rx ry ⟨d, e, al, h, r, p, q, po⟩
  unfold g8 at po
  split at po
  · rename_i h' i j
    split at po
    · rename_i hl
      cases p; cases q
      refine op_mul pins s σ H _ _ v u Q I rx ry ⟨i, j, rfl, rfl, ?_, po _ _ _ .refl r (.int _)⟩
      rcases Bool.or_eq_true_iff.mp hl with z | z
      · exact .inl (of_decide_eq_true z)
      · exact .inr (of_decide_eq_true z)
    · exact afJ pins s σ H x y v u Q I rx ry ⟨_, _, al, h, r, p, q, po⟩
  · exact afJ pins s σ H x y v u Q I rx ry ⟨d, e, al, h, r, p, q, po⟩
def wA (l : List (Str × (List D → AH → Res D))) (x : Str) : Option (List D → AH → Res D) := (l.find? fun q => decide (q.1 = x)).map (·.2)
def jO (P : Str → (List D → AH → Res D) → Prop) (l : List (Str × (List D → AH → Res D))) : Prop := ∀ q ∈ l, P q.1 q.2
theorem jO.nil {P : Str → (List D → AH → Res D) → Prop} : jO P [] := fun _ h => nomatch h
theorem jO.cons {P : Str → (List D → AH → Res D) → Prop} {x : Str} {m : List D → AH → Res D} {l : List (Str × (List D → AH → Res D))} (h : P x m) (r : jO P l) : jO P ((x, m) :: l) := fun q hq => by
  rcases List.mem_cons.mp hq with rfl | hq
  · exact h
  · exact r q hq
theorem jO.get {P : Str → (List D → AH → Res D) → Prop} {l : List (Str × (List D → AH → Res D))} (r : jO P l) : ∀ x m, wA l x = some m → P x m := fun x m h => by
  obtain ⟨q, hq, rfl⟩ := Option.map_eq_some_iff.mp h
  have e : q.1 = x := of_decide_eq_true (List.find?_some (p := fun q : Str × (List D → AH → Res D) => decide (q.1 = x)) hq)
  subst e
  exact r q (List.mem_of_find?_eq_some hq)
end
end PD
namespace PD
open PySem PySem.Spec PyProof.Rows L2
theorem at0 {α : Type} {a : α} {l : List α} : atI (a :: l) 0 = some a := by
  simp [atI, ixN]
theorem atN {α : Type} (k : Nat) (l : List α) : atI l ((k : Nat) : Int) = l[k]? := by
  unfold atI ixN
  rw [if_pos (by omega)]
  by_cases h : ((k : Nat) : Int) < l.length
  · rw [if_pos h]; rfl
  · rw [if_neg h, List.getElem?_eq_none (by omega)]; rfl
theorem at1 {α : Type} {a b : α} {l : List α} : atI (a :: b :: l) 1 = some b := atN 1 _
theorem at2 {α : Type} {a b c : α} {l : List α} : atI (a :: b :: c :: l) 2 = some c := atN 2 _
theorem at3 {α : Type} {a b c d : α} {l : List α} : atI (a :: b :: c :: d :: l) 3 = some d := atN 3 _
theorem at4 {α : Type} {a b c d e : α} {l : List α} : atI (a :: b :: c :: d :: e :: l) 4 = some e := atN 4 _
theorem vJ {b : Bool} {h : AH} : tTru (.bl b) h = .ok b h := rfl
theorem Rg : ixN 3 0 = some 0 := rfl
theorem Rh : ixN 3 2 = some 2 := rfl
theorem Qm (i : Int) : SeqAt.shaped (.int i) = true := by
  unfold SeqAt.shaped PyData.canLay0 PyData.depth
  rfl
theorem Qn {z : Str} (h : GB.qJ z) : SeqAt.shaped (.str z) = true := by
  unfold SeqAt.shaped PyData.canLay0 PyData.depth
  rw [GB.ju h]
  rfl
theorem Ri {a b : Int} {h : AH} : eqB h (.int a) (.int b) = some (decide (a = b)) := by
  show (if SeqAt.shaped (.int a) = true ∧ SeqAt.shaped (.int b) = true then some (PyData.eqv (.int a) (.int b)) else none) = _
  rw [if_pos ⟨Qm a, Qm b⟩]
  rfl
theorem aao {a b : Int} {h : AH} : ji h (.int a) (.int b) = some (decide (a = b)) := Ri (h := h)
theorem vK {a b : Int} {h : AH} : eqM (.int a) (.int b) h = some (.bl (decide (a = b)), h) := by
  show (eqB h (.int a) (.int b)).map _ = _
  rw [Ri]
  rfl
theorem aM {a b : Int} {h : AH} : neM (.int a) (.int b) h = some (.bl (!decide (a = b)), h) := by
  show (eqB h (.int a) (.int b)).map _ = _
  rw [Ri]
  rfl
theorem Es {a b : Int} {h : AH} : cP (.int a) (.int b) h = some (.bl (decide (a = b)), h) := by
  show (ji h (.int a) (.int b)).map _ = _
  rw [aao]
  rfl
theorem Et {a b : Int} {h : AH} : eU (.int a) (.int b) h = some (.bl (!decide (a = b)), h) := by
  show (ji h (.int a) (.int b)).map _ = _
  rw [aao]
  rfl
theorem Rj {a b : Str} {h : AH} (ha : GB.qJ a) (hb : GB.qJ b) : eqB h (.str a) (.str b) = some (a == b) := by
  show (if SeqAt.shaped (.str a) = true ∧ SeqAt.shaped (.str b) = true then some (PyData.eqv (.str a) (.str b)) else none) = _
  rw [if_pos ⟨Qn ha, Qn hb⟩]
  rfl
theorem aap {a b : Str} {h : AH} (ha : GB.qJ a) (hb : GB.qJ b) : ji h (.str a) (.str b) = some (a == b) := Rj (h := h) ha hb
theorem vL {s t : String} (e : PySem.Str.ofString s = PySem.Str.ofString t) : s = t := by
  rw [PySem.Str.ofString_eq_toList, PySem.Str.ofString_eq_toList] at e
  have e1 : s.toList.map Char.toNat = t.toList.map Char.toNat := by
    have := congrArg (fun z => z.cps.toList) e
    simpa using this
  have inj : ∀ a b : Char, a.toNat = b.toNat → a = b := fun a b h => Char.ext (UInt32.toNat_inj.mp h)
  have e2 : s.toList = t.toList := by
    generalize s.toList = l at e1
    generalize t.toList = m at e1
    induction l generalizing m with
    | nil => cases m with
      | nil => rfl
      | cons b m => cases e1
    | cons a l ih => cases m with
      | nil => cases e1
      | cons b m =>
        simp only [List.map_cons, List.cons.injEq] at e1
        rw [inj _ _ e1.1, ih m e1.2]
  exact String.toList_inj.mp e2
theorem uf {s t : String} : (PySem.Str.ofString s == PySem.Str.ofString t) = decide (s = t) := by
  by_cases h : s = t
  · subst h
    rw [decide_eq_true rfl]
    exact beq_self_eq_true _
  · rw [decide_eq_false h]
    exact beq_eq_false_iff_ne.mpr fun e => h (vL e)
theorem vM {s t : String} {h : AH} : eqM (.str (PySem.Str.ofString s)) (.str (PySem.Str.ofString t)) h = some (.bl (decide (s = t)), h) := by
  show (eqB h _ _).map _ = _
  rw [Rj (GB.cA s) (GB.cA t), uf]
  rfl
theorem vN {s t : String} {h : AH} : neM (.str (PySem.Str.ofString s)) (.str (PySem.Str.ofString t)) h = some (.bl (!decide (s = t)), h) := by
  show (eqB h _ _).map _ = _
  rw [Rj (GB.cA s) (GB.cA t), uf]
  rfl
theorem lA {s t : String} {h : AH} : cP (.str (PySem.Str.ofString s)) (.str (PySem.Str.ofString t)) h = some (.bl (decide (s = t)), h) := by
  show (ji h _ _).map _ = _
  rw [aap (GB.cA s) (GB.cA t), uf]
  rfl
theorem jD {s t : String} {h : AH} : eU (.str (PySem.Str.ofString s)) (.str (PySem.Str.ofString t)) h = some (.bl (!decide (s = t)), h) := by
  show (ji h _ _).map _ = _
  rw [aap (GB.cA s) (GB.cA t), uf]
  rfl
theorem Eu {x : V} : inV x [] = false := rfl
theorem Ew {s t : String} {vs : List V} : inV (.str (PySem.Str.ofString s)) (.str (PySem.Str.ofString t) :: vs) = (decide (t = s) || inV (.str (PySem.Str.ofString s)) vs) := by
  show ((PySem.Str.ofString t == PySem.Str.ofString s) || _) = _
  rw [uf]
  rfl
theorem Qo {a b : Bool} {vs : List V} : inV (.bl a) (.bl b :: vs) = (decide (b = a) || inV (.bl a) vs) := by
  show (eqV (.bl b) (.bl a) || _) = _
  cases a <;> cases b <;> rfl
theorem zU {k : Key} : valD [] k = none := rfl
theorem zV {s t : String} {v : D} {r : List (Key × D)} : valD ((.inr (PySem.Str.ofString s), v) :: r) (.inr (PySem.Str.ofString t)) = if s = t then some v else valD r (.inr (PySem.Str.ofString t)) := by
  by_cases e : s = t
  · subst e
    simp [valD, List.find?_cons]
  · have n : ¬ (Sum.inr (PySem.Str.ofString s) : Key) = .inr (PySem.Str.ofString t) := fun z => e (vL (Sum.inr.inj z))
    rw [if_neg e]
    simp [valD, List.find?_cons, n]
theorem zW {n : Nat} {kvs : List (Key × D)} {h : AH} (e : h[n]? = some (.dict kvs)) : isT "dict" (.ref n) h = true := by
  unfold isT
  simp [e]
theorem zX {n : Nat} {ds : List D} {h : AH} (e : h[n]? = some (.lst ds)) : isT "list" (.ref n) h = true := by
  unfold isT
  simp [e]
end PD
namespace GB
open PySem PySem.W PyProof.Rows
section
variable {M : Model} {prog : Program} {w : World} {A : Around} {E : Value → Shared → Prop} {s : Shared} {K : Frag} {x C f : Addr} {ox : Obj} {od : Option Obj} {b tb : Value}
end
end GB
namespace PD
open PySem PySem.Spec PyProof.Rows L2
section
variable {X : Cx} {W : WX} {k n : Nat} {f : Addr} {x q : Str} {st : Stmt} {dvs : List V} {kws : List (Str × V)} {ps : List Str} {m : List D → AH → Res D}
end
def alg (cs : List Str) (ts : List String) : Option (String ⊕ Str) → Bool
  | some (.inl t) => ts.contains t
  | some (.inr c) => cs.contains c
  | none => false
def alh (m : List D → AH → Res D) (ds : List D) (h : AH) : Option (Bool × AH) := match m ds h with
  | .ok (.bl k) h' => some (k, h')
  | _ => none
section
variable {X : Cx} {W : WX} {k : Nat} {f : Addr} {x q : Str} {st : Stmt} {dvs : List V} {kws : List (Str × V)} {ps : List Str} {m : List D → AH → Res D} {cs : List Str} {ts : List String}
end
end PD
namespace GB
open PySem PySem.SeqAt
open AutoSeq1 (wpAny_loadPart')
open MeetsSeq MeetsSeq2 MeetsSeq3 SeqRoads2
section
variable {prog : Program} {w : World} {A : Around} {E : Value → Shared → Prop} {s : Shared}
theorem aeW {R : Result → Shared → Prop} {l b : Addr} {items items2 : Array Value} {n n2 : Nat} {sl sl2 : Array (Option Value)} (hl1 : s.heap.get? l = some { cls := .type "list", data := .seq items n, slots := sl }) (hb1 : s.heap.get? b = some { cls := .type "list", data := .seq items2 n2, slots := sl2 }) (hne : items.size ≠ items2.size)
    (last : R (.ok (.ret (.bool false))) s) : wpAny (model prog w) A.in1 (Builtin.«list.__eq__» ⟨[.ref l, .ref b], []⟩) (GQ.FinOf prog w A R) (fun e s' => R (.error e) s') s := by
  obtain ⟨hp, g, d, tk, os⟩ := s
  have f3 := AutoSeq1.sub_list_list
  have hne : (items.size != items2.size) = true := by simpa using hne
  wp_walk using wpAny_loadPart' hl1, wpAny_loadPart' hb1
  exact last
theorem ah3 {l b : Addr} {items items2 : Array Value} {n n2 : Nat} {sl sl2 : Array (Option Value)} {Q : Value → Shared → Prop} (hu : A.units < cLine) (hl1 : s.heap.get? l = some { cls := .type "list", data := .seq items n, slots := sl }) (hb1 : s.heap.get? b = some { cls := .type "list", data := .seq items2 n2, slots := sl2 }) (hne : items.size ≠ items2.size)
    (hq : Q (.bool false) s) : wpAny (model prog w) A (richCompare .Eq (.ref l) (.ref b)) Q E s :=
  wpAny_richCompare_same_room (op := .Eq) ⟨_, hl1, rfl⟩ ⟨_, hb1, rfl⟩ F.slot_list_eq (GQ.call_here F.slot_list_eq ⟨_, hl1, rfl⟩ F.entry_list_eq (F.args_list_eq_2 _ _)
    (aeW (R := wants (fun v s' => v ≠ .notImplemented ∧ Q v s') E) hl1 hb1 hne ⟨(fun z => nomatch z), hq⟩)) hu
end
end GB
namespace PD
open PySem PySem.Spec PyProof.Rows L2
section
variable {X : Cx} {W : WX}
def uU (o : O2) : O2 := fun d e h => match Cy h d, Cy h e with
  | some xs, some ys => if xs.length ≠ ys.length then some (.bl false, h) else o d e h
  | _, _ => o d e h
theorem uG {o : O2} (hu : X.A.units + 64 < cLine) (ho : OpR X (compareOp .Eq) (r2 X.K o)) : OpR X (compareOp .Eq) (r2 X.K (uU o)) := by
  rintro pins s σ H x y v u Q I rx ry ⟨d, e, al, h, r, p, q, po⟩
  unfold uU at po
  split at po
  · rename_i xs ys hx hy
    split at po
    · rename_i hn
      obtain ⟨a, vs, rfl, sq, ql⟩ := Cz r p hx
      obtain ⟨b, ws, rfl, sq2, ql2⟩ := Cz r q hy
      obtain ⟨its, rl, pl, hz⟩ := I.list sq
      obtain ⟨its2, rl2, pl2, hz2⟩ := I.list sq2
      obtain rfl : v = Value.ref a := rx
      obtain rfl : u = Value.ref b := ry
      obtain ⟨⟨c1, dd1, dt1, sl1⟩, n1, g1, e1, e2, e3⟩ := pl
      obtain ⟨⟨c2, dd2, dt2, sl2⟩, n2, g2, f1, f2, f3⟩ := pl2
      simp only at e1 e2 e3 f1 f2 f3
      subst e1 e2 e3 f1 f2 f3
      refine GB.ah3 (by omega) g1 g2 ?_ ⟨.bl false, H, I, rfl, po _ _ _ .refl r (.bl _)⟩
      rw [List.size_toArray, List.size_toArray, ← rl.length, ← rl2.length, ← ql.length, ← ql2.length]
      exact hn
    · exact ho pins s σ H x y v u Q I rx ry ⟨d, e, al, h, r, p, q, po⟩
  · exact ho pins s σ H x y v u Q I rx ry ⟨d, e, al, h, r, p, q, po⟩
end
end PD
namespace PD
open PySem PySem.Spec PyProof.Rows L2
section
variable {X : Cx} {W : WX} {gt : MG} {fa : ME} {f0 : MS}
abbrev Wlk := List D × (AH → Prop)
open Classical in
noncomputable def lcP (P : AH → Prop) (g : MG) (t : MT) (f : ME) (own : List Nat) (e : En) : List D → List D → AH → Res (List D)
  | acc, [], h => if P h then .ok acc h else .stuck
  | acc, d :: ds, h => if P h then match g d (lC e own) h with
    | .ok e1 h1 => match t e1 h1 with
      | .ok true h2 => match f e1 h2 with
        | .ok x h3 => if acc.length < 16777216 then lcP P g t f own e (acc ++ [x]) ds h3 else .stuck
        | _ => .stuck
      | .ok false h2 => lcP P g t f own e acc ds h2
      | _ => .stuck
    | _ => .stuck
    else .stuck
noncomputable def al9 (fin : List D → AH → Res D) (it : En → AH → Res Wlk) (g : MG) (t : MT) (f : ME) (own : List Nat) : ME := fun e h => (it e h).bind fun dp h1 => (lcP dp.2 g t f own e [] dp.1 h1).bind fun r h2 => fin r h2
noncomputable def amc (it : En → AH → Res Wlk) (g : MG) (t : MT) (f : ME) (own : List Nat) : ME := fun e h => (it e h).bind fun dp h1 => (lcP dp.2 g t f own e [] dp.1 h1).bind fun r h2 => .ok (.lst r) h2
noncomputable def ama (it : En → AH → Res Wlk) (g : MG) (t : MT) (f : ME) (own : List Nat) : ME := fun e h => (it e h).bind fun dp h1 => (lcP dp.2 g t f own e [] dp.1 h1).bind fun r h2 => .ok (.ref h2.length) (h2 ++ [.lst r])
section
variable {elt tg iter : Expr} {ifs : List Expr} {scope : Scope} {own : List (Str × Nat)} {it : En → AH → Res Wlk} {t : MT} {f : ME} {pos : Pos}
end
open Classical in
noncomputable def aeX (P : AH → Prop) (g : MG) (b : MS) : List D → En → AH → RS
  | [], e, h => if P h then .nx e h else .stuck
  | d :: ds, e, h => if P h then (g d e h).st e fun e1 h1 => match b e1 h1 with
    | .nx e2 h2 => aeX P g b ds e2 h2
    | .ct e2 h2 => aeX P g b ds e2 h2
    | .bk e2 h2 => .nx e2 h2
    | r => r
    else .stuck
noncomputable def amb (it : En → AH → Res Wlk) (g : MG) (b : MS) : MS := fun e h => (it e h).st e fun dp h1 => aeX dp.2 g b dp.1 e h1
end
end PD
namespace GB
open PySem PySem.W PySem.Spec PySem.Calls PyProof.Rows
section
variable {prog : Program} {w : World} {A : Around} {E : Value → Shared → Prop} {s : Shared}
end
end GB
namespace PD
open PySem PySem.Spec PyProof.Rows L2
section
variable {X : Cx} {W : WX}
end
end PD
namespace L2
open PySem PySem.Spec PyProof.Rows
abbrev Clause := Value × Option Nat × (Addr → Value → Option Addr → TS)
def aaq (K : PySem.W.Frag) (Wout : WX) (D : Ends) : List Clause → WX
  | [] => Wout
  | (c, io, ts) :: r => fun cls d σ H => ∃ b, PySem.W.exmOne K cls c = some b ∧ (b = true → ∀ a, H a = none → match io with
      | none => ts a cls d D σ H
      | some i => ts a cls d { nx := fun σ' H' => D.nx (σ'.set i none) H', rt := D.rt, bk := fun σ' H' => D.bk (σ'.set i none) H', ct := fun σ' H' => D.ct (σ'.set i none) H' } (σ.set i (some (.ref a))) H) ∧ (b = false → aaq K Wout D r cls d σ H)
inductive Rk (X : Cx) : List ExceptHandler → List Clause → Prop
  | nil : Rk X [] []
  | cons {x : Str} {c : Value} {ts : Addr → Value → Option Addr → TS} {b₀ : Stmt} {suite : List Stmt} {np pos' : Pos} {hds : List ExceptHandler} {l : List Clause} (hc : Names X x c)
      (hsu : ∀ (a : Addr) (oe : Obj) (cls : Value) (d : Option Addr) (pn : List (Addr × Obj)), Zc cls d oe → (∃ vs, oe.data = .fields vs) → PSs (X.suite a ((a, oe) :: pn)) (b₀ :: suite) (ts a cls d)) (r : Rk X hds l) :
      Rk X (.ExceptHandler (some (.Name x np)) none (b₀ :: suite) pos' :: hds) ((c, none, ts) :: l)
  | as_ {x n : Str} {c : Value} {i : Nat} {ts : Addr → Value → Option Addr → TS} {b₀ : Stmt} {suite : List Stmt} {np pos' : Pos} {hds : List ExceptHandler} {l : List Clause} (hN : X.N.Nodup) (hi : X.N[i]? = some n) (hln : X.env.kindOf n = some .local) (hc : Names X x c)
      (hsu : ∀ (a : Addr) (oe : Obj) (cls : Value) (d : Option Addr) (pn : List (Addr × Obj)), Zc cls d oe → (∃ vs, oe.data = .fields vs) → PSs (X.suite a ((a, oe) :: pn)) (b₀ :: suite) (ts a cls d)) (r : Rk X hds l) :
      Rk X (.ExceptHandler (some (.Name x np)) (some n) (b₀ :: suite) pos' :: hds) ((c, some i, ts) :: l)
section
variable {X : Cx} {pos : Pos} {Wout : WX} {pins : List (Addr × Obj)} {σ : St} {H : Hp} {D : Ends} {a : Addr} {cls : Value} {d : Option Addr} {u : Shared}
structure wB (X : Cx) (pins : List (Addr × Obj)) (σ : St) (H : Hp) (D : Ends) (Wout : WX) (a : Addr) (cls : Value) (d : Option Addr) (u : Shared) : Prop where
  ok : X.Ok
  free : H a = none
  out : Wout cls d σ H → wpAny (model X.prog X.w) X.A (handleBy (.ref a) X.env []) (SP X pins D) X.xe u
  word : ∀ {x : Str} {np : Pos} {c : Value} {Q : Value → Shared → Prop} {E : Value → Shared → Prop}, Names X x c → Q c u → wpAny (model X.prog X.w) (X.A.mark (some (.ref a))) (eval (.Name x np) X.env) Q E u
  fits : ∀ {c : Value} {b : Bool}, PySem.W.exmOne X.K cls c = some b → PySem.W.Looks (model X.prog X.w) u.heap (excMatches (.ref a) c) b
  land : ∀ {A : Around} {Q : Unit → Shared → Prop} {E : Value → Shared → Prop},
    (∀ u' oe, Zc cls d oe → (∃ vs, oe.data = .fields vs) → Inv (X.suite a ((a, oe) :: (X.pn ++ pins))) [] σ H u' → Q () u') → wpAny (model X.prog X.w) A (setFlight (.ref a) none) Q E u
theorem wB.plain {x : Str} {c : Value} {ts : Addr → Value → Option Addr → TS} {s1 : Stmt} {su : List Stmt} {np p1 : Pos} {rest : List ExceptHandler} {b : Bool} (L : wB X pins σ H D Wout a cls d u) (hc : Names X x c)
    (suite : ∀ (oe : Obj) (pn : List (Addr × Obj)), Zc cls d oe → (∃ vs, oe.data = .fields vs) → PSs (X.suite a ((a, oe) :: pn)) (s1 :: su) (ts a cls d)) (e : PySem.W.exmOne X.K cls c = some b) (yes : b = true → ts a cls d D σ H)
    (no : b = false → wpAny (model X.prog X.w) X.A (handleBy (.ref a) X.env rest) (SP X pins D) X.xe u) :
    wpAny (model X.prog X.w) X.A (handleBy (.ref a) X.env (.ExceptHandler (some (.Name x np)) none (s1 :: su) p1 :: rest)) (SP X pins D) X.xe u := by
  refine wpAny_handleBy_cons (codeAny_handlers_test (L.word hc ((L.fits e).here ?_))) fun q => nomatch q
  cases b with
  | false => exact no rfl
  | true =>
    refine codeAny_handlers_suite (L.land fun u' oe z f I => wpAny_mono ((suite oe _ z f).run [] u' σ H D I (yes rfl)) (fun way s2 r => ?_) fun _ _ q => False.elim q)
    cases way <;> first
      | (obtain ⟨v2, σ2, H2, I2, r2, q2⟩ := r; exact ⟨v2, σ2, H2, I2.unsuite L.ok, r2, q2⟩)
      | (obtain ⟨σ2, H2, I2, q2⟩ := r; exact ⟨σ2, H2, I2.unsuite L.ok, q2⟩)
theorem wB.named {x n : Str} {c : Value} {i : Nat} {ts : Addr → Value → Option Addr → TS} {s1 : Stmt} {su : List Stmt} {np p1 : Pos} {rest : List ExceptHandler} {b : Bool} (L : wB X pins σ H D Wout a cls d u) (hN : X.N.Nodup) (hi : X.N[i]? = some n) (hln : X.env.kindOf n = some .local) (hc : Names X x c)
    (suite : ∀ (oe : Obj) (pn : List (Addr × Obj)), Zc cls d oe → (∃ vs, oe.data = .fields vs) → PSs (X.suite a ((a, oe) :: pn)) (s1 :: su) (ts a cls d)) (e : PySem.W.exmOne X.K cls c = some b)
    (yes : b = true → ts a cls d { nx := fun σ' H' => D.nx (σ'.set i none) H', rt := D.rt, bk := fun σ' H' => D.bk (σ'.set i none) H', ct := fun σ' H' => D.ct (σ'.set i none) H' } (σ.set i (some (.ref a))) H)
    (no : b = false → wpAny (model X.prog X.w) X.A (handleBy (.ref a) X.env rest) (SP X pins D) X.xe u) :
    wpAny (model X.prog X.w) X.A (handleBy (.ref a) X.env (.ExceptHandler (some (.Name x np)) (some n) (s1 :: su) p1 :: rest)) (SP X pins D) X.xe u := by
  refine wpAny_handleBy_cons (codeAny_handlers_test (L.word hc ((L.fits e).here ?_))) fun q => nomatch q
  cases b with
  | false => exact no rfl
  | true =>
    refine codeAny_handlers_suite_as (L.land fun u' oe z f I => ?_)
    refine store_ok (X := X.suite a ((a, oe) :: (X.pn ++ pins))) (v := .ref a) I hN hi (.inl hln) rfl (fun u2 I2 => ?_) (.inr hln)
    refine wpAny_mono ((suite oe _ z f).run [] u2 _ H _ I2 (yes rfl)) (fun way s2 r => ?_) fun _ _ q => False.elim q
    have bye : ∀ {σ2 : St} {H2 : Hp} {R : Shared → Prop}, Inv (X.suite a ((a, oe) :: (X.pn ++ pins))) [] σ2 H2 s2 → (∀ s3, Inv X pins (σ2.set i none) H2 s3 → R s3) →
        wpAny (model X.prog X.w) X.A (do bindName X.env n .none; unbindBehindTheSuite X.env n p1) (fun _ s3 => R s3) X.xe s2 := fun I3 k => gone_ok (I3.unsuite L.ok) hN hi hln k
    cases way <;> first
      | (obtain ⟨v2, σ2, H2, I3, r2, q2⟩ := r; exact bye I3 fun s3 I4 => ⟨v2, _, H2, I4, r2, q2⟩)
      | (obtain ⟨σ2, H2, I3, q2⟩ := r; exact bye I3 fun s3 I4 => ⟨_, H2, I4, q2⟩)
theorem wB.all {hds : List ExceptHandler} {l : List Clause} (hk : Rk X hds l) (L : wB X pins σ H D Wout a cls d u) (w : aaq X.K Wout D l cls d σ H) : wpAny (model X.prog X.w) X.A (handleBy (.ref a) X.env hds) (SP X pins D) X.xe u := by
  induction hk with
  | nil => exact L.out w
  | cons hc hsu r ih =>
    obtain ⟨b, e, yes, no⟩ := w
    exact L.plain hc (fun oe pn z f => hsu a oe cls d pn z f) e (fun z => yes z a L.free) fun z => ih (no z)
  | as_ hN hi hln hc hsu r ih =>
    obtain ⟨b, e, yes, no⟩ := w
    exact L.named hN hi hln hc (fun oe pn z f => hsu a oe cls d pn z f) e (fun z => yes z a L.free) fun z => ih (no z)
end
section
variable {X : Cx} {body : List Stmt} {c0 : ExceptHandler} {cs : List ExceptHandler} {l : List Clause} {pos : Pos} {tb : WX → TS} {Wout : WX}
end
end L2
namespace PD
open PySem PySem.Spec PyProof.Rows L2
section
variable {X : Cx} {W : WX}
abbrev yU := Option Nat × (Str → Option Bool) × MX
def ah9 (io : Option Nat) (e : En) : Bool := match io with
  | none => true
  | some i => decide (i < e.length)
def runN : List yU → Str → List (Str × D) → En → AH → RS
  | [], c, fs, e, h => .exc c fs e h
  | (io, exm, g) :: r, c, fs, e, h => match exm c with
    | some true => if ah9 io e = true then match g fs h with
        | some x => .rt x h
        | none => .stuck
      else .stuck
    | some false => runN r c fs e h
    | none => .stuck
def rdY (K : PySem.W.Frag) (ok : Str → Prop) (a : Addr) (cls : Value) (d : Option Addr) (io : Option Nat) (g : MX) : TE := fun st H Q => ∃ c fs al h dd gs, ok c ∧ cls = .ref (He.ga K c) ∧ d = some dd ∧ (∀ i, io = some i → st[i]? = some (some (.ref a))) ∧ HR K H al h ∧ H dd = some (.xd gs) ∧ eE K H al fs gs ∧
  ∃ x, g fs h = some x ∧ ∀ v H' aU, Le H al H' aU → HR K H' aU h → Rp K H' aU x v → Q v H'
inductive GX (X : Cx) : List ExceptHandler → List yU → List Clause → Prop
  | nil : GX X [] [] []
  | cons {x : Str} {C : Value} {exm : Str → Option Bool} {g : MX} {ex : Expr} {np pos' pos2 : Pos} {hds : List ExceptHandler} {l : List yU} {r : List Clause} (hc : Names X x C) (hex : ∀ c b, exm c = some b → PySem.W.exmOne X.K (.ref (He.ga X.K c)) C = some b)
      (hx : ∀ (a : Addr) (oe : Obj) (cls : Value) (d : Option Addr) (pn : List (Addr × Obj)), Zc cls d oe → (∃ vs, oe.data = .fields vs) → PE (X.suite a ((a, oe) :: pn)) ex (rdY X.K (fun c => exm c = some true) a cls d none g)) (t : GX X hds l r) :
      GX X (.ExceptHandler (some (.Name x np)) none [.Return (some ex) pos2] pos' :: hds) ((none, exm, g) :: l) ((C, none, fun a cls d => tRet (rdY X.K (fun c => exm c = some true) a cls d none g)) :: r)
  | as_ {x n : Str} {C : Value} {i : Nat} {exm : Str → Option Bool} {g : MX} {ex : Expr} {np pos' pos2 : Pos} {hds : List ExceptHandler} {l : List yU} {r : List Clause} (hN : X.N.Nodup) (hi : X.N[i]? = some n) (hln : X.env.kindOf n = some .local) (hc : Names X x C) (hex : ∀ c b, exm c = some b → PySem.W.exmOne X.K (.ref (He.ga X.K c)) C = some b)
      (hx : ∀ (a : Addr) (oe : Obj) (cls : Value) (d : Option Addr) (pn : List (Addr × Obj)), Zc cls d oe → (∃ vs, oe.data = .fields vs) → PE (X.suite a ((a, oe) :: pn)) ex (rdX X.K (fun c => exm c = some true) a cls d i g)) (t : GX X hds l r) :
      GX X (.ExceptHandler (some (.Name x np)) (some n) [.Return (some ex) pos2] pos' :: hds) ((some i, exm, g) :: l) ((C, some i, fun a cls d => tRet (rdX X.K (fun c => exm c = some true) a cls d i g)) :: r)
theorem GX.go {hds : List ExceptHandler} {l : List yU} {r : List Clause} (t : GX X hds l r) {N : Ends} {c : Str} {fs : List (Str × D)} {e' : En} {h' : AH} {H0 H' : Hp} {al aU : Al} {dd : Addr} {gs : List (Str × V)} {st : L2.St} (l0 : Le H0 al H' aU) (r' : HR X.K H' aU h') (uO : iQ X.K H' aU e' st) (e1 : H' dd = some (.xd gs)) (qf : eE X.K H' aU fs gs)
    (po : lD X.K W H0 al N (runN l c fs e' h')) : aaq X.K W N r (.ref (He.ga X.K c)) (some dd) st H' := by
  induction t with
  | nil => exact po dd st H' aU gs l0 r' uO e1 qf
  | @cons x C exm g ex np pos' pos2 hds l r hc hex hx t ih =>
    unfold runN at po
    cases w : exm c with
    | none => rw [w] at po; exact po.elim
    | some b =>
      rw [w] at po
      refine ⟨b, hex c b w, fun hb1 a ha => ?_, fun hb2 => ?_⟩
      · subst hb1
        dsimp only at po
        rw [if_pos (show ah9 none e' = true from rfl)] at po
        split at po
        · rename_i x hx
          exact ⟨c, fs, aU, h', dd, gs, w, rfl, rfl, (fun i z => nomatch z), r', e1, qf, x, hx, fun v H2 dU l2 r2 q2 => po v H2 dU (l0.trans l2) r2 q2⟩
        · exact po.elim
      · subst hb2
        exact ih po
  | @as_ x n C i exm g ex np pos' pos2 hds l r hN hi hln hc hex hx t ih =>
    unfold runN at po
    cases w : exm c with
    | none => rw [w] at po; exact po.elim
    | some b =>
      rw [w] at po
      refine ⟨b, hex c b w, fun hb1 a ha => ?_, fun hb2 => ?_⟩
      · subst hb1
        dsimp only at po
        split at po
        · rename_i hil
          have hil : i < e'.length := of_decide_eq_true hil
          rw [uO.1] at hil
          split at po
          · rename_i x hx
            exact ⟨c, fs, aU, h', dd, gs, w, rfl, rfl, by rw [List.getElem?_set_self hil], r', e1, qf, x, hx, fun v H2 dU l2 r2 q2 => po v H2 dU (l0.trans l2) r2 q2⟩
          · exact po.elim
        · exact po.elim
      · subst hb2
        exact ih po
end
end PD
namespace PD
open PySem PySem.Spec PyProof.Rows L2
section
variable {X : Cx} {W : WX}
end
end PD
namespace GB
open PySem PySem.W PySem.Spec PySem.Calls PyProof.Rows L2
section
variable {prog : Program} {w : World} {A : Around} {E : Value → Shared → Prop} {s : Shared} {K : Frag} {x D : Addr} {ox : Obj} {od : Option Obj}
end
end GB
namespace PD
open PySem PySem.Spec PyProof.Rows L2
section
variable {X : Cx} {W : WX} {ok : Str → Prop} {a : Addr} {oe : Obj} {cls : Value} {d : Option Addr} {pn : List (Addr × Obj)} {i : Nat} {n f : Str} {pos p1 p2 : Pos} {io : Option Nat}
end
end PD
namespace GB
open PySem PySem.Spec PyProof.Rows L2
theorem vm {a b : Nat} (h : a = b → False) : @Ne Addr a b := h
inductive ZS | l (a : Addr) | t (a : Addr) | s (z : Str)
namespace ZS
def val : ZS → V | l a => .ref a | t a => .ref a | s z => .str z
def At (K : PySem.W.Frag) (H : Hp) : ZS → List V → Prop
  | l a, xs => SqL K H a xs
  | t a, xs => SqT K H a xs
  | s z, xs => xs = z.cps.toList.map fun c => V.str ⟨#[c]⟩
def Under (n : Nat) : ZS → Prop | l a => a < n | t a => a < n | s _ => True
def Fy (it : Addr) (h : Heap) (i : Nat) : ZS → Prop
  | l a => h.IsListIter it a i
  | t a => h.IsTupleIter it a i
  | s z => ∃ t, h.IsStrIter it (strIterType z) z t i
def fp (it : Addr) : ZS → List Addr | l a => [it, a] | t a => [it, a] | s _ => [it]
theorem Fy.get {it : Addr} {h : Heap} {i : Nat} : ∀ {z : ZS}, z.Fy it h i → ∃ o, h.get? it = some o ∧ ∀ v, o.data ≠ .cell v
  | .l _, ⟨o, e, _, d⟩ => ⟨o, e, fun v q => by rw [d] at q; cases q⟩
  | .t _, ⟨o, e, _, d⟩ => ⟨o, e, fun v q => by rw [d] at q; cases q⟩
  | .s _, ⟨_, o, e, _, d⟩ => ⟨o, e, fun v q => by rw [d] at q; cases q⟩
theorem Fy.keep {it : Addr} {h h' : Heap} {i : Nat} (k : ∀ o, h.get? it = some o → h'.get? it = some o) : ∀ {z : ZS}, z.Fy it h i → z.Fy it h' i
  | .l _, c => Heap.IsListIter.at c k
  | .t _, c => Heap.IsTupleIter.at c k
  | .s _, ⟨u, o, e, r⟩ => ⟨u, o, k o e, r⟩
theorem draws {X : Cx} {pins : List (Addr × Obj)} {σ : L2.St} {H : Hp} {s : Shared} (I : Inv X pins σ H s) {A : Around} (hh : A.handled = none) {it : Addr} {n : Nat} (hlt : n ≤ it) {i : Nat} {z : ZS} (u : z.Under n) {xs : List V} (a : z.At X.K H xs) (c : z.Fy it s.heap i) :
    ∃ (P : Nat → Value → Prop) (St : Nat → Heap → Prop), Draws X.prog X.w A it (z.fp it) xs.length P St ∧ St i s.heap ∧ (∀ j h, St j h → z.Fy it h j) ∧ ∀ j x v, xs[j]? = some x → P j v → RelV x v := by
  cases z with
  | l b =>
    obtain ⟨its, rv, p, _⟩ := I.list a
    have e : its.toArray.size = xs.length := by simpa using rv.length.symm
    have D := Draws.list (prog := X.prog) (w := X.w) hh it b (vm fun q => by have u' : Nat.lt b n := u; have l' : Nat.le n it := hlt; unfold Nat.lt at u'; rw [q] at u'; exact absurd (Nat.le_trans u' l') (Nat.not_succ_le_self it)) its.toArray
    rw [e] at D
    refine ⟨_, _, D, ⟨c, p.isList⟩, fun j h st => st.1, fun j x v hx hv => ?_⟩
    obtain ⟨w, hw, rw'⟩ := rv.get hx
    have : v = w := by simpa [hw] using hv.symm
    exact this ▸ rw'
  | t b =>
    obtain ⟨its, rv, p, _⟩ := I.tuple a
    have e : its.toArray.size = xs.length := by simpa using rv.length.symm
    have D := Draws.tuple (prog := X.prog) (w := X.w) hh it b (vm fun q => by have u' : Nat.lt b n := u; have l' : Nat.le n it := hlt; unfold Nat.lt at u'; rw [q] at u'; exact absurd (Nat.le_trans u' l') (Nat.not_succ_le_self it)) its.toArray
    rw [e] at D
    refine ⟨_, _, D, ⟨c, p⟩, fun j h st => st.1, fun j x v hx hv => ?_⟩
    obtain ⟨w, hw, rw'⟩ := rv.get hx
    have : v = w := by simpa [hw] using hv.symm
    exact this ▸ rw'
  | s z =>
    obtain ⟨t, c⟩ := c
    have a' : xs = z.cps.toList.map fun c => V.str ⟨#[c]⟩ := a
    subst a'
    have D := Draws.text (prog := X.prog) (w := X.w) hh it z t
    have e : z.cps.size = (z.cps.toList.map fun c => V.str ⟨#[c]⟩).length := by simp
    rw [e] at D
    refine ⟨_, _, D, c, fun j h st => ⟨t, st⟩, fun j x v hx hv => ?_⟩
    obtain ⟨c', u', hc, rfl⟩ := hv
    have : x = V.str ⟨#[c']⟩ := by
      have h2 : (z.cps.toList.map fun c => V.str ⟨#[c]⟩)[j]? = some (V.str ⟨#[c']⟩) := by rw [List.getElem?_map]; simp [hc]
      exact (Option.some.inj (hx.symm.trans h2))
    exact this ▸ ⟨u', rfl⟩
theorem inj {X : Cx} {pins : List (Addr × Obj)} {σ : L2.St} {H : Hp} {s : Shared} (I : Inv X pins σ H s) : ∀ {z : ZS} {xs ys : List V}, z.At X.K H xs → z.At X.K H ys → xs = ys
  | .l _, _, _, p, q => I.list_inj p q
  | .t _, _, _, p, q => I.tuple_inj p q
  | .s _, _, _, p, q => Eq.trans p (Eq.symm q)
end ZS
def aeY (K : PySem.W.Frag) (a b : ZS) : It :=
  ⟨fun i H => ∃ (xs ys : List V) (x y : V), a.At K H xs ∧ b.At K H ys ∧ xs[i]? = some x ∧ ys[i]? = some y,
    fun i H v H' => ∃ T x y, v = .ref T ∧ H T = none ∧ H' = upd H T (.tup [x, y]) ∧ (∀ xs, a.At K H xs → xs[i]? = some x) ∧ ∀ ys, b.At K H ys → ys[i]? = some y,
    fun i H => ∃ xs ys : List V, a.At K H xs ∧ b.At K H ys ∧ i ≤ xs.length ∧ i ≤ ys.length ∧ (i = xs.length ∨ i = ys.length)⟩
abbrev zfp (n : Nat) : List Addr := [n + 4, n + 2, n + 3, n, n + 1]
theorem Rm {n : Nat} {c : Addr} (h : c ∈ zfp n) : c = n + 4 ∨ c = n + 2 ∨ c = n + 3 ∨ c = n ∨ c = n + 1 := by simpa using h
theorem aia {n : Nat} {a b : ZS} (ua : a.Under n) (ub : b.Under n) : ZipSep2 (n + 4) (n + 2) (n + 3) n (n + 1) (a.fp n) (b.fp (n + 1)) := by
  have sub : ∀ {c : ZS} {k it : Nat}, c.Under n → n ≤ k → k ≠ it → (k : Addr) ∉ c.fp it := fun {c k it} u l ne m => by
    cases c with
    | l x =>
      have m' : (k : Nat) = it ∨ (k : Nat) = x := by simpa [ZS.fp] using m
      have u' : @LT.lt Nat _ x n := u
      rcases m' with q | q
      · exact ne q
      · have q' := Nat.le_of_eq q
        exact absurd (Nat.lt_of_lt_of_le u' (Nat.le_trans l q')) (Nat.lt_irrefl x)
    | t x =>
      have m' : (k : Nat) = it ∨ (k : Nat) = x := by simpa [ZS.fp] using m
      have u' : @LT.lt Nat _ x n := u
      rcases m' with q | q
      · exact ne q
      · have q' := Nat.le_of_eq q
        exact absurd (Nat.lt_of_lt_of_le u' (Nat.le_trans l q')) (Nat.lt_irrefl x)
    | s x =>
      have m' : k = it := by simpa [ZS.fp] using m
      omega
  have hd : ∀ {c : ZS} {it : Addr}, it ∈ c.fp it := fun {c it} => by cases c <;> simp [ZS.fp]
  exact ⟨vm (by omega), vm (by omega), vm (by omega), vm (by omega), hd, sub ua (by omega) (by omega), sub ua (by omega) (by omega), vm (by omega), hd, sub ub (by omega) (by omega), sub ub (by omega) (by omega), sub ub (by omega) (by omega), sub ua (by omega) (by omega)⟩
theorem adJ {P : Program} {w : World} {K : PySem.W.Frag} {elts : List Expr} {kk : Nat} {tpos : Pos} {a b : ZS} {n : Nat} (ua : a.Under n) (ub : b.Under n) :
    Turn P w K (.Tuple elts kk tpos) (aeY K a b) (zfp n) (n + 4) (fun i h => IsZip h (n + 4) (n + 2) (n + 3) .none ∧ IsTupOf2 h (n + 2) (.ref n) (.ref (n + 1)) ∧ (∃ x y, IsTupOf2 h (n + 3) x y) ∧ a.Fy n h i ∧ b.Fy (n + 1) h i) where
  mem := by simp
  obj := fun i h st c hc => by
    obtain ⟨hz, hI, ⟨x, y, hO⟩, h1, h2⟩ := st
    rcases Rm hc with q | q | q | q | q <;> subst q
    · exact ⟨_, hz, fun v q => nomatch q⟩
    · exact ⟨_, hI, fun v q => nomatch q⟩
    · exact ⟨_, hO, fun v q => nomatch q⟩
    · exact h1.get
    · exact h2.get
  keep := fun i h h' st k => by
    obtain ⟨hz, hI, ⟨x, y, hO⟩, h1, h2⟩ := st
    exact ⟨k _ (by simp) _ hz, k _ (by simp) _ hI, ⟨x, y, k _ (by simp) _ hO⟩, h1.keep fun o q => k n (by simp) o q, h2.keep fun o q => k (n + 1) (by simp) o q⟩
  item := by
    intro X hP hw hK hc i pins s σ H E I hf st hg
    subst hP hw hK
    obtain ⟨hz, hI, ⟨x0, y0, hO⟩, h1, h2⟩ := st
    obtain ⟨xs, ys, x, y, ax, ay, hx, hy⟩ := hg
    have hh : X.A.in1.handled = none := I.ok.hd hc
    obtain ⟨P1, S1, D1, s1, c1, r1⟩ := ZS.draws I hh (Nat.le_refl n) ua ax h1
    obtain ⟨P2, S2, D2, s2, c2, r2⟩ := ZS.draws I hh (Nat.le_succ n) ub ay h2
    have l1 : i < xs.length := (List.getElem?_eq_some_iff.mp hx).1
    have l2 : i < ys.length := (List.getElem?_eq_some_iff.mp hy).1
    have hzl : n + 4 < s.heap.objs.size := Heap.lt_size hz
    refine wpAny_pyNext_zipD2_item (aia ua ub) D1 D2 hz hI hO s1 s2 l1 l2 fun u1 u2 h' tk p1 p2 z' O' s1' s2' hT hsz hk => ?_
    refine ⟨_, rfl, wpAny_letOwnedTupleGo_zip (s := { s with heap := h', toks := tk }) z' fun h'' z'' sb => ?_⟩
    have hT2 : h''.get? s.heap.objs.size = some { cls := .type "tuple", data := .seq #[u1, u2] } := (sb.2 _ (vm (by omega))).trans hT
    have new : ObjOk X.prog X.w (upd H s.heap.objs.size (.tup [x, y])) h'' s.heap.objs.size (.tup [x, y]) :=
      ⟨by show 2 ≤ sizeLine; decide, [u1, u2], .cons (r1 _ _ _ hx p1) (.cons (r2 _ _ _ hy p2) .nil), ⟨_, hT2, rfl, _, rfl⟩⟩
    have I1 : Inv X pins σ (upd H s.heap.objs.size (.tup [x, y])) { s with heap := h'', toks := tk } :=
      I.turnedNew (t' := tk) (ch := zfp n) (fun c o hb q => (sb.2 c (fun q' => hb (by simp [q']))).trans (hk c o (fun q' => hb (by simp [q'])) (fun q' => hb (by simp [q'])) (fun q' => hb (by simp [q'])) (fun q' => hb (by simp [q'])) q)) hf (Nat.le_refl _) new
    have up : ∀ c, c ≠ n + 4 → ∀ o, h'.get? c = some o → h''.get? c = some o := fun c ne o q => (sb.2 c ne).trans q
    refine ⟨.ref s.heap.objs.size, _, I1, rfl, ⟨_, x, y, rfl, I.hok.fresh (Nat.le_refl _), rfl, fun l q => by rw [ZS.inj I q ax]; exact hx, fun l q => by rw [ZS.inj I q ay]; exact hy⟩, ⟨z'', ?_, ⟨u1, u2, up _ (vm (by omega)) _ O'⟩, (c1 _ _ s1').keep (up _ (vm (by omega))), (c2 _ _ s2').keep (up _ (vm (by omega)))⟩, fun c hcm => ?_⟩
    · exact up _ (vm (by omega)) _ (hk _ _ (vm (by omega)) (vm (by omega)) (vm (by omega)) (vm (by omega)) hI)
    · have hlt : @LT.lt Nat _ c s.heap.objs.size := by
        rcases Rm hcm with q | q | q | q | q <;> subst q
        · exact hzl
        · exact Heap.lt_size hI
        · exact Heap.lt_size hO
        · obtain ⟨_, e, _⟩ := h1.get; exact Heap.lt_size e
        · obtain ⟨_, e, _⟩ := h2.get; exact Heap.lt_size e
      rw [upd_ne (Nat.ne_of_lt hlt)]
      exact (hf c hcm).1
  done := by
    intro X hP hw hK hc i pins s σ H E I hf st hg
    subst hP hw hK
    obtain ⟨hz, hI, ⟨x0, y0, hO⟩, h1, h2⟩ := st
    obtain ⟨xs, ys, ax, ay, l1, l2, e⟩ := hg
    have hh : X.A.in1.handled = none := I.ok.hd hc
    obtain ⟨P1, S1, D1, s1, c1, r1⟩ := ZS.draws I hh (Nat.le_refl n) ua ax h1
    obtain ⟨P2, S2, D2, s2, c2, r2⟩ := ZS.draws I hh (Nat.le_succ n) ub ay h2
    exact wpAny_pyNext_zipD2_end (aia ua ub) D1 D2 hz hI hO s1 s2 l1 l2 e fun h' tk hk => ⟨rfl, I.turnedL (t' := tk) (ch := zfp n) (fun c o hb q =>
      hk c o (fun q' => hb (by simp [q'])) (fun q' => hb (by simp [q'])) (fun q' => hb (by simp [q'])) (fun q' => hb (by simp [q'])) q) hf⟩
  self := fun A i s Q E st h => wpAny_pyIter_zip st.1 h
theorem ZS.begins {X : Cx} {pins : List (Addr × Obj)} {σ : L2.St} {H : Hp} {s : Shared} (I : Inv X pins σ H s) {z : ZS} {xs : List V} (a : z.At X.K H xs) {u : Value} (r : RelV z.val u) :
    ∃ (o : Obj) (S : Heap → Prop), Begins u o S ∧ S s.heap ∧ z.Under s.heap.objs.size ∧ ∀ it h, h.get? it = some o → z.Fy it h 0 := by
  cases z with
  | l b =>
    cases r
    obtain ⟨its, rv, p, _⟩ := I.list a
    exact ⟨_, _, begins_list b its.toArray, p.isList, p.lt, fun it h e => ⟨_, e, rfl, rfl⟩⟩
  | t b =>
    cases r
    obtain ⟨its, rv, p, _⟩ := I.tuple a
    obtain ⟨o1, e1, _⟩ := id p
    exact ⟨_, _, begins_tuple b its.toArray, p, Heap.lt_size e1, fun it h e => ⟨_, e, rfl, rfl⟩⟩
  | s z =>
    obtain ⟨t, rfl⟩ := r
    exact ⟨_, _, begins_text z t, trivial, trivial, fun it h e => ⟨t, _, e, rfl, rfl⟩⟩
def ajG (K : PySem.W.Frag) (ta : TA) : TI := fun σ H R => ta σ H fun vs H1 => ∃ a b xs ys, vs = [a.val, b.val] ∧ ZS.At K H1 a xs ∧ ZS.At K H1 b ys ∧ R (aeY K a b) H1
theorem agx {X : Cx} {e e2 : Expr} {ta : TA} {p pos tpos : Pos} {elts : List Expr} {kk : Nat} (hg : Gl X "zip") (hm : X.mg "zip" = none) (ha : PA X [e, e2] ta)
    (hs : starEach [e, e2] X.env = (false, eval e X.env) :: starEach [e2] X.env := by rfl) (hpl : (backTo pos (starEach [e2] X.env)).any (·.1) = false := by rfl) :
    PI X (.Tuple elts kk tpos) (.Call (.Name "zip" p) [e, e2] [] pos) (ajG X.K ta) := by
  refine ⟨fun pins s σ H R I h => ?_⟩
  refine Call_ (ld_blt I hg hm PyProof.Rows.boot_zip (PyProof.Rows.callWith_type1 (thn (ha.run pos pins s σ H _ I h) fun us s1 ⟨vs, H1, I1, r1, q1⟩ => ?_) hs hpl))
  obtain ⟨a, b, xs, ys, ex, ax, ay, q⟩ := q1
  subst ex
  cases r1 with
  | cons ra rr =>
    cases rr with
    | cons rb rr =>
      cases rr
      obtain ⟨o1, S1, B1, h1, u1, c1⟩ := ZS.begins I1 ax ra
      obtain ⟨o2, S2, B2, h2, u2, c2⟩ := ZS.begins I1 ay rb
      refine zip_begins2 B1 B2 h1 h2 fun h' hz hI hO g1 g2 hsz hk => wpAny_pyIter_zip hz ?_
      have I2 : Inv X pins σ H1 { s1 with heap := h' } := I1.kept (t' := s1.toks) hk
      refine ⟨s1.heap.objs.size + 4, zfp s1.heap.objs.size, _, _, H1, rfl, I2, adJ u1 u2, ⟨hz, hI, ⟨_, _, hO⟩, c1 _ _ g1, c2 _ _ g2⟩, fun c hcm => ?_, q⟩
      have hle : @LE.le Nat _ s1.heap.objs.size c := by rcases Rm hcm with q | q | q | q | q <;> rw [q] <;> omega
      exact I1.fpOk hle (I1.hok.fresh hle)
end GB
namespace PD
open PySem PySem.Spec PyProof.Rows L2 GB
variable {K : PySem.W.Frag} {W : WX} {X : Cx} {H : Hp} {al : Al}
def U9 : D → Option (List D)
  | .lst ds => some ds
  | .dW ds => some ds
  | .tup ds => some ds
  | .str z => some (z.cps.toList.map fun c => .str ⟨#[c]⟩)
  | _ => none
def Ro : List D → AH → Res (List D)
  | [d, e], h => match U9 d, U9 e with
    | some ds, some es => .ok (wu ds es) h
    | _, _ => .stuck
  | _, _ => .stuck
theorem aar {d : D} {v : V} (rp : Rp K H al d v) {h : AH} (r : HR K H al h) {ds : List D} (e : U9 d = some ds) :
    ∃ (z : ZS) (xs : List V), v = z.val ∧ bD K H al ds xs ∧ ∀ H' aU, jk H al H' aU → z.At K H' xs := by
  cases rp <;> simp only [U9, Option.some.injEq, reduceCtorEq] at e
  case str x =>
    subst e
    refine ⟨.s x, _, rfl, ?_, fun _ _ _ => rfl⟩
    generalize x.cps.toList = l
    induction l with
    | nil => exact .nil
    | cons c cs ih => exact .cons (.str _) ih
  case tup a ds' vs s q =>
    subst e
    exact ⟨.t a, vs, rfl, q, fun H' aU l => Gp r s l⟩
  case lst a ds' vs s q =>
    subst e
    exact ⟨.l a, vs, rfl, q, fun H' aU l => (s.dF l).sq⟩
  case dW a ds' vs s q =>
    subst e
    exact ⟨.l a, vs, rfl, q, fun H' aU l => (s.dF l).sq⟩
theorem adK : ∀ (ds es : List D) (i : Nat), i < (wu ds es).length → i < ds.length ∧ i < es.length := fun ds es i h => by
  rw [Gv] at h
  omega
theorem acr {ds es : List D} {xs ys : List V} {a b : ZS} (s : ∀ H' aU, jk H al H' aU → a.At K H' xs) (s2 : ∀ H' aU, jk H al H' aU → b.At K H' ys) {h : AH} (r : HR K H al h) (q : bD K H al ds xs) (q2 : bD K H al es ys) : pB K (aeY K a b) (wu ds es) H al := by
  intro H' aU h' l r'
  have sa := s _ _ l
  have sb := s2 _ _ l
  have qa := q.dF r l
  have qb := q2.dF r l
  have la := q.length
  have lb := q2.length
  refine ⟨fun i hi => ?_, ?_, fun i x H2 hi y => ?_⟩
  · obtain ⟨h1, h2⟩ := adK ds es i hi
    exact ⟨xs, ys, xs[i]'(by omega), ys[i]'(by omega), sa, sb, by simp, by simp⟩
  · rw [Gv]
    exact ⟨xs, ys, sa, sb, by omega, by omega, by omega⟩
  · obtain ⟨T, x1, x2, rfl, hT, rfl, e1, e2⟩ := y
    obtain ⟨d, hd, rp⟩ := qa.get' (e1 _ sa)
    obtain ⟨d2, hd2, rp2⟩ := qb.get' (e2 _ sb)
    have lf := Le.fresh (o := .tup [x1, x2]) r' hT
    exact ⟨lf, r'.fresh hT, .tup [d, d2], aag ds es i d d2 hd hd2, .tup (SqT.of upd_same) (.cons (rp.mono r' lf) (.cons (rp2.mono r' lf) .nil))⟩
variable {fr : MA} {a b : Expr} {p1 pos : Pos}
theorem aib {elts : List Expr} {kk : Nat} {tpos : Pos} (hg : Gl X "zip") (hm : X.mg "zip" = none) (ha : PA X [a, b] (mj X.K W fr)) (hs : starEach [a, b] X.env = (false, eval a X.env) :: starEach [b] X.env := by rfl) (hpl : (backTo pos (starEach [b] X.env)).any (·.1) = false := by rfl) : PI X (.Tuple elts kk tpos) (.Call (.Name "zip" p1) [a, b] [] pos) (Ck X.K W (wj Ro fr)) :=
  (agx hg hm (GB.PA.cl ha) hs hpl).weak fun σ H R h => by
    refine aaf (R5 h) ?_
    rintro vs H1 ⟨ds, bB, h1, r1, q, p1⟩
    unfold Ro at p1
    split at p1
    · cases q with
      | cons q qs =>
        cases qs with
        | cons q2 qs =>
          cases qs
          split at p1
          · rename_i e1 e2
            obtain ⟨z1, xs, rfl, qa, sa⟩ := aar q r1 e1
            obtain ⟨z2, ys, rfl, qb, sb⟩ := aar q2 r1 e2
            exact ⟨_, _, _, _, rfl, sa _ _ Le.refl.Cd, sb _ _ Le.refl.Cd, p1 _ _ _ .refl r1 (acr sa sb r1 qa qb)⟩
          · exact p1.elim
    · exact p1.elim
end PD
namespace GB
open PySem PySem.Spec PyProof.Rows L2 HT
section
variable {prog : Program} {w : World} {A : Around} {E : Value → Shared → Prop} {s : Shared}
end
end GB
namespace PD
open PySem PySem.Spec PyProof.Rows L2 GB
section
variable {K : PySem.W.Frag} {W : WX} {X : Cx} {H : Hp} {al : Al}
end
end PD
namespace PD
open PySem PySem.Spec PyProof.Rows L2
theorem isStr_inj {v : Value} {a b : Str} (h : v.isStr a = true) (h2 : v.isStr b = true) : a = b := by
  cases v <;> simp only [Value.isStr, Bool.false_eq_true] at h h2
  exact (eq_of_beq h).symm.trans (eq_of_beq h2)
theorem Sh {K : PySem.W.Frag} {a : Addr} {ks : List Str} (h : keyB K a ks = true) {k : Str} (hk : k ∉ ks) : PySem.W.nsIn K a k = some none := by
  unfold keyB at h
  unfold PySem.W.nsIn
  split at h
  · rename_i es n sl e
    rw [e]
    dsimp only
    have all := List.all_eq_true.mp h
    have f : es.toList.find? (·.key.isStr k) = none := by
      rw [List.find?_eq_none]
      intro x hx z
      have y := all x hx
      rw [Bool.and_eq_true] at y
      obtain ⟨k', m, i⟩ := List.any_eq_true.mp y.2
      exact hk (isStr_inj z i ▸ m)
    have g : es.toList.any (·.refKey) = false := by
      rw [List.any_eq_false]
      intro x hx z
      have y := all x hx
      rw [Bool.and_eq_true, z] at y
      cases y.1
    rw [f]
    dsimp only
    rw [g]
    rfl
  · cases h
def acs (kvs : List (Str × He.Dv)) (k : Str) : Option (Option D) := match kvs.find? fun q => decide (q.1 = k) with
  | some q => (dOf q.2).map some
  | none => some none
theorem KTab.ofG {K : PySem.W.Frag} {w : World} {x : Str} {kvs : List (Str × He.Dv)} (kd : ∃ es n, KDict K w (He.ga K x) es n) (h : He.valsB K (He.ga K x) kvs = true) (hk : keyB K (He.ga K x) (kvs.map (·.1)) = true) : KTab K w x (acs kvs) := by
  have t := KTab.of kd h
  refine ⟨kd, fun k d e => ?_, fun k e => ?_⟩
  · refine t.hit k d ?_
    unfold acs at e
    unfold tabOf
    split at e
    · rename_i q hq
      try rw [hq]
      exact e
    · cases e
  · unfold acs at e
    split at e
    · rename_i q hq
      cases z : dOf q.2 with
      | none => rw [z] at e; cases e
      | some d => rw [z] at e; cases e
    · rename_i hn
      refine Sh hk fun m => ?_
      obtain ⟨p, hp, rfl⟩ := List.mem_map.mp m
      have := List.find?_eq_none.mp hn p hp
      exact this (decide_eq_true rfl)
end PD
namespace PD
open PySem PySem.Spec PyProof.Rows L2
section
variable {X : Cx} {W : WX} {x : Str} {e : Expr} {es : List Expr} {fa : MA} {p pos pos' : Pos} {B newId initId : String} {bmB : List Value}
end
end PD
namespace L2
open PySem PySem.Spec PyProof.Rows
section
variable {X : Cx} {pos : Pos} {Wout : WX} {pins : List (Addr × Obj)} {σ : St} {H : Hp} {D : Ends} {a : Addr} {cls : Value} {d : Option Addr} {t : Shared}
structure alk (X : Cx) (pins : List (Addr × Obj)) (σ : St) (H : Hp) (D : Ends) (Wout : WX) (a : Addr) (cls : Value) (d : Option Addr) (t : Shared) (G : Heap → Prop) : Prop where
  on : ∀ h, G h → wB X pins σ H D Wout a cls d { t with heap := h }
  up : ∀ h o, G h → G (h.push o)
  kin : ∀ h, G h → X.K.In h
  ty : ∀ h, G h → PySem.W.Looks (model X.prog X.w) h (typeOf (.ref a)) cls
variable {G : Heap → Prop} {ts : Addr → Value → Option Addr → TS} {s1 : Stmt} {su : List Stmt} {rest : List ExceptHandler} {b : Bool} {te : Expr} {p1 : Pos}
end
section
variable {X : Cx} {body : List Stmt} {hds : List ExceptHandler} {pos : Pos} {tb : WX → TS} {Wout : WX}
end
end L2
namespace PD
open PySem PySem.Spec PyProof.Rows L2
section
variable {X : Cx} {W : WX}
end
end PD
namespace PD
open PySem PySem.Spec PyProof.Rows L2
section
variable {X : Cx} {W : WX} {gt g1 : MG} {pos : Pos}
section
variable {elt tg iter tg1 iter1 : Expr} {ifs ifs1 : List Expr} {scope : Scope} {own : List (Str × Nat)} {vs1 : List Nat} {it it1 : En → AH → Res (List D)} {t t1 : MT} {f : ME}
end
end
end PD
namespace PD
open PySem PySem.Spec PyProof.Rows L2
structure Va (K : PySem.W.Frag) (x : Str) (qs : List (Int × Str)) : Prop where
  ex : ∃ es n, K.lookup (He.ga K x) = some ⟨.type "dict", none, .dict es n, #[]⟩ ∧ yj K es.toList qs = true
  low : (He.ga K x == sysModules) = false
theorem Va.of {K : PySem.W.Frag} {x : Str} {qs : List (Int × Str)} (h : afv K x qs = true) : Va K x qs := by
  unfold afv at h
  split at h
  · rename_i es n sl e
    simp only [Bool.and_eq_true, decide_eq_true_eq, Bool.not_eq_true'] at h
    obtain ⟨⟨h1, h2⟩, h3⟩ := h
    subst h1
    exact ⟨⟨es, n, e, h3⟩, h2⟩
  · cases h
theorem Sq {K : PySem.W.Frag} : ∀ {es : List DictEntry} {qs : List (Int × Str)}, yj K es qs = true → ∀ e ∈ es, ∃ i t, e.key = .int i t ∧ e.hash = hashInt i
  | [], _, _, e, he => by cases he
  | d :: es, [], h, _, _ => by simp [yj] at h
  | d :: es, q :: qs, h, e, he => by
    simp only [yj, Bool.and_eq_true, decide_eq_true_eq] at h
    obtain ⟨⟨⟨h1, h2⟩, h3⟩, h4⟩ := h
    rcases List.mem_cons.mp he with z | z
    · subst z
      split at h1
      · rename_i i t hk
        cases of_decide_eq_true h1
        exact ⟨_, t, hk, h2⟩
      · cases h1
    · exact Sq h4 e z
theorem Ss {K : PySem.W.Frag} {i : Int} : ∀ {es : List DictEntry} {qs : List (Int × Str)}, yj K es qs = true → (es.find? fun e => Value.isInt i e.key).map (·.val) = (qs.find? fun q => decide (q.1 = i)).map fun q => Value.ref (He.ga K q.2)
  | [], [], _ => rfl
  | [], q :: qs, h => by simp [yj] at h
  | d :: es, [], h => by simp [yj] at h
  | d :: es, q :: qs, h => by
    simp only [yj, Bool.and_eq_true, decide_eq_true_eq] at h
    obtain ⟨⟨⟨h1, h2⟩, h3⟩, h4⟩ := h
    have ih := Ss (i := i) h4
    split at h1
    · rename_i j t hk
      cases of_decide_eq_true h1
      have e : Value.isInt i d.key = decide (q.1 = i) := by
        rw [hk]
        simp only [Value.isInt]
        by_cases z : q.1 = i
        · simp [z]
        · simp [z]
      by_cases z : q.1 = i
      · rw [List.find?_cons_of_pos (by rw [e]; exact decide_eq_true z), List.find?_cons_of_pos (by exact decide_eq_true z), Option.map_some, Option.map_some, h3]
      · rw [List.find?_cons_of_neg (by rw [e, decide_eq_false z]; exact Bool.false_ne_true), List.find?_cons_of_neg (by rw [decide_eq_false z]; exact Bool.false_ne_true)]
        exact ih
    · cases h1
section
variable {X : Cx} {W : WX} {x : Str} {qs : List (Int × Str)}
theorem Va.map (T : Va X.K x qs) {h : Heap} (k : X.K.In h) : h.MapOf (PySem.intKind X.prog X.w) (He.ga X.K x) (fun i => (qs.find? fun q => decide (q.1 = i)).map fun q => Value.ref (He.ga X.K q.2)) := by
  obtain ⟨es, n, e1, e2⟩ := T.ex
  refine ⟨_, es, n, k _ _ e1, ⟨rfl, rfl, rfl⟩, rfl, fun e he => ?_, fun i => ?_⟩
  · obtain ⟨i, t, h1, h2⟩ := Sq e2 e (Array.mem_toList_iff.mpr he)
    exact ⟨i, by rw [h1]; exact PySem.intKind_is X.prog X.w i t, h2⟩
  · obtain ⟨l⟩ := es
    show findBy Value.isInt _ i = _
    unfold findBy
    rw [List.find?_toArray]
    exact Ss e2
end
end PD
namespace PD
open PySem PySem.Spec PyProof.Rows L2
section
variable {X : Cx} {W : WX} {gt : MG} {fa : ME} {f0 : MS}
end
end PD
namespace PD
open PySem PySem.Spec PyProof.Rows L2
section
variable {X : Cx} {W : WX}
end
end PD
namespace GB
open PySem PySem.SeqAt
open AutoSeq1 (wpAny_loadPart')
open MeetsSeq MeetsSeq2 MeetsSeq3 SeqRoads2
section
variable {prog : Program} {w : World} {A : Around} {E : Value → Shared → Prop} {s : Shared}
end
end GB
namespace PD
open PySem PySem.Spec PyProof.Rows L2
open Classical in
noncomputable def neP (cs : List Str) (ts : List String) (m : List D → AH → Res D) : O2 := fun d e h => match d, e with
  | .tup [a, .lst []], .tup [c, .lst []] => match clsOf a h, clsOf c h with
    | some (n, _), some _ => if n ∈ cs ∧ alg cs ts (Ba c h) = true ∧ alh m [a, c] h = some (true, h) then some (.bl false, h) else none
    | _, _ => none
  | _, _ => none
section
variable {X : Cx} {W : WX} {k : Nat} {f : Addr} {x q : Str} {st : Stmt} {dvs : List V} {kws : List (Str × V)} {ps : List Str} {m : List D → AH → Res D} {cs : List Str} {ts : List String}
end
end PD
namespace PD
open PySem PySem.Spec PyProof.Rows L2
section
variable {K : PySem.W.Frag} {H H' : Hp} {al aU : Al} {h h' : AH} {n : Nat} {a : Addr} {kvs kvs' : List (Key × D)} {ws : List (Key × V)} {od : Obj}
structure Sv (H : Hp) (al : Al) (a : Addr) (H' : Hp) : Prop where
  here : al.has a
  keep : ∀ b, b ≠ a → H' b = H b
theorem Sv.ne (l : Sv H al a H') {b : Addr} (n : ¬ al.has b) : b ≠ a := fun z => n (z ▸ l.here)
mutual
theorem Rp.gq (r : HR K H al h) (l : Sv H al a H') : ∀ {d : D} {v : V}, Rp K H al d v → Rp K H' al d v
  | _, _, .non => .non
  | _, _, .bl b => .bl b
  | _, _, .int i => .int i
  | _, _, .str x => .str x
  | _, _, .ty n => .ty n
  | _, _, .glo x => .glo x
  | _, _, .ref e => .ref e
  | _, _, .tup s q => .tup (by
      rcases s with s | s
      · have n := r.adf s
        rcases s with s | ⟨o, s⟩
        · exact .inl (.inl ((l.keep _ (l.ne n)).trans s))
        · exact .inl (.inr ⟨o, (l.keep _ (l.ne n)).trans s⟩)
      · exact .inr s) (bD.gq r l q)
  | _, _, .lst s q => .lst ⟨(l.keep _ (l.ne s.2)).trans s.1, s.2⟩ (bD.gq r l q)
  | _, _, .dW s q => .dW (by
      rcases s with ⟨o, s, n⟩ | s
      · exact .inl ⟨o, (l.keep _ (l.ne n)).trans s, n⟩
      · exact .inr s) (bD.gq r l q)
  | _, _, .obj e n q => .obj ((l.keep _ (l.ne n)).trans e) n (eE.gq r l q)
theorem bD.gq (r : HR K H al h) (l : Sv H al a H') : ∀ {ds : List D} {vs : List V}, bD K H al ds vs → bD K H' al ds vs
  | _, _, .nil => .nil
  | _, _, .cons q qs => .cons (Rp.gq r l q) (bD.gq r l qs)
theorem eE.gq (r : HR K H al h) (l : Sv H al a H') : ∀ {ds : List (Str × D)} {vs : List (Str × V)}, eE K H al ds vs → eE K H' al ds vs
  | _, _, .nil => .nil
  | _, _, .cons q qs => .cons (Rp.gq r l q) (eE.gq r l qs)
end
theorem fQ.gq (r : HR K H al h) (l : Sv H al a H') {b : Addr} {c : Cell} (ne : b ≠ a) (q : fQ K H al b c) : fQ K H' al b c := by
  have e := l.keep b ne
  cases c with
  | lst ds =>
    obtain ⟨vs, z, q⟩ := q
    exact ⟨vs, e.trans z, bD.gq r l q⟩
  | dict kvs =>
    obtain ⟨ws, z, k, q⟩ := q
    exact ⟨ws, e.trans z, k, bD.gq r l q⟩
  | ins c fs =>
    obtain ⟨dx, gs, z, q⟩ := q
    exact ⟨dx, gs, e.trans z, eE.gq r l q⟩
  | dO kvs =>
    obtain ⟨o, ws, z, k, q⟩ := q
    exact ⟨o, ws, e.trans z, k, bD.gq r l q⟩
theorem HR.unlock (r0 : HR K H al h) (z : al.c[n]? = some a) (hH : H a = some (.dK ws)) (l : Le (upd H a (.frz od (.dK ws))) al H' aU) (r : HR K H' aU h') (e : h'[n]? = some (.dO kvs')) :
    HR K (upd H' a (.dK ws)) aU (h'.set n (.dict kvs')) ∧ Le H al (upd H' a (.dK ws)) aU ∧ Sv H' aU a (upd H' a (.dK ws)) := by
  have ha : a ∈ al.c := List.mem_of_getElem? z
  have na := r0.dis a ha
  have z' : aU.c[n]? = some a := by
    obtain ⟨t, ht⟩ := l.pre
    rw [ht, List.getElem?_append_left (List.getElem?_eq_some_iff.mp z).1]
    exact z
  have ha' : a ∈ aU.c := List.mem_of_getElem? z'
  have eH := l.lk a _ _ upd_same
  have u : Sv H' aU a (upd H' a (.dK ws)) := ⟨.inl ha', fun b ne => upd_ne ne⟩
  refine ⟨⟨r.nd, by simp [r.len], r.dis, fun b hb => ?_, fun m c b e1 e2 => ?_⟩, ⟨l.pre, l.v9, fun b o q nb => ?_, fun b hb => ?_, fun b hb => ?_, fun b o' u' q => ?_⟩, u⟩
  · have ne : b ≠ a := fun w => by
      rw [w, l.v9] at hb
      exact na hb
    rw [upd_ne ne]
    exact r.rs b hb
  · by_cases hm : n = m
    · subst hm
      rw [z'] at e2
      cases e2
      have hl : n < h'.length := (List.getElem?_eq_some_iff.mp e).1
      rw [List.getElem?_set_self hl] at e1
      cases e1
      obtain ⟨o, ws2, y, k, q⟩ := r.at_ n _ a e z'
      rw [eH] at y
      cases y
      exact ⟨ws, upd_same, k, bD.gq r u q⟩
    · rw [List.getElem?_set_ne hm] at e1
      refine fQ.gq r u (fun w => hm ?_) (r.at_ m c b e1 e2)
      subst w
      have l1 := (List.getElem?_eq_some_iff.mp z').1
      exact (List.getElem?_inj l1 r.nd).mp (z'.trans e2.symm)
  · have ne : b ≠ a := fun w => nb (.inl (w ▸ ha))
    rw [upd_ne ne]
    exact l.keep b o (by rw [upd_ne ne]; exact q) nb
  · have ne : b ≠ a := fun w => na (w ▸ hb)
    rw [upd_ne ne, l.res b hb, upd_ne ne]
  · rcases l.new b hb with w | w
    · exact .inl w
    · by_cases ne : b = a
      · exact .inl (by rw [ne]; exact ha)
      · rw [upd_ne ne] at w
        exact .inr w
  · have ne : b ≠ a := fun w => by
      rw [w, hH] at q
      cases q
    rw [upd_ne ne]
    exact l.lk b o' u' (by rw [upd_ne ne]; exact q)
end
section
variable {X : Cx} {W : WX} {fd f : ME} {ex : Expr}
def pC (fd f : ME) : ME := fun e h => match fd e h with
  | .ok (.ref n) _ => match h[n]? with
    | some (.dict kvs) => (f e (h.set n (.dO kvs))).bind fun d h2 => match h2[n]? with
      | some (.dO aas) => .ok d (h2.set n (.dict aas))
      | _ => .stuck
    | _ => .stuck
  | _ => .stuck
theorem Qp (he : PE X ex (rd X.K W f)) : PE X ex (rd X.K W (pC fd f)) := (pe_lock he).weak fun σ H Q ⟨e, al, h, r, re, p⟩ => by
  unfold pC at p
  split at p
  · rename_i n h0 hf
    split at p
    · rename_i kvs hn
      obtain ⟨a, z, ok⟩ := r.addr hn
      obtain ⟨ws, eH, k, qs⟩ := ok
      refine ⟨a, .dK ws, eH, trivial, fun od => ?_⟩
      obtain ⟨r2, l2⟩ := r.put (o := .frz od (.dK ws)) (c := .dO kvs) z (fun H' aU l' e' => ⟨od, ws, e', k, qs.mono r l'⟩) (fun kv w => by rw [hn] at w; cases w)
      refine ⟨e, al, _, r2, re.mono r l2, ?_⟩
      cases y : f e (h.set n (.dO kvs)) with
      | stuck => rw [y] at p; exact p.elim
      | exc c fs h' =>
        rw [y] at p
        intro a' H' aU gs l' r' e1 e2
        exact p a' H' aU gs (l2.trans l') r' e1 e2
      | ok d h2 =>
        rw [y] at p
        simp only [Res.tM] at p
        split at p
        · rename_i aas hn2
          intro v H' aU l' r' q
          obtain ⟨r3, l3, u3⟩ := HR.unlock r z eH l' r' hn2
          exact ⟨l'.lk a _ _ upd_same, p v _ aU l3 r3 (Rp.gq r' u3 q)⟩
        · exact p.elim
    · exact p.elim
  · exact p.elim
end
section
variable {X : Cx} {W : WX} {fd : ME} {de tg : Expr} {apos cpos : Pos}
def yV (fd : ME) : En → AH → Res (List D) := fun e h => (fd e h).bind fun d h1 => match d with
  | .ref n => match h1[n]? with
    | some (.dO kvs) => .ok (kvs.map (·.2)) h1
    | _ => .stuck
  | _ => .stuck
def keyD : Key → D
  | .inl i => .int i
  | .inr s => .str s
def itI (fd : ME) : En → AH → Res (List D) := fun e h => (fd e h).bind fun d h1 => match d with
  | .ref n => match h1[n]? with
    | some (.dO kvs) => .ok (kvs.map fun q => .tup [keyD q.1, q.2]) h1
    | _ => .stuck
  | _ => .stuck
theorem acu {K : PySem.W.Frag} {H : Hp} {al : Al} {h : AH} {a : Addr} {o : Obj} {ws : List (Key × V)} {kvs : List (Key × D)} (r : HR K H al h) (e : H a = some (.frz o (.dK ws))) (q : bD K H al (kvs.map (·.2)) (ws.map (·.2))) :
    pB K (Itd a o ws) (kvs.map (·.2)) H al := by
  intro H' aU h' l r'
  have e' := l.lk a _ _ e
  have q' := q.dF r l
  have hl := q'.length
  simp only [List.length_map] at hl
  refine ⟨fun i hi => ⟨e', by simp only [List.length_map] at hi; omega⟩, ⟨e', by simp only [List.length_map]; omega⟩, fun i x H2 hi y => ?_⟩
  obtain ⟨rfl, k, hk⟩ := y
  obtain ⟨d, hd, rp⟩ := q'.get' (i := i) (v := x) (by rw [List.getElem?_map, hk]; rfl)
  exact ⟨.refl, r', d, hd, rp⟩
theorem abb {K : PySem.W.Frag} {H : Hp} {al : Al} {h : AH} {a : Addr} {o : Obj} {ws : List (Key × V)} {kvs : List (Key × D)} (r : HR K H al h) (e : H a = some (.frz o (.dK ws))) (k : ws.map (·.1) = kvs.map (·.1)) (q : bD K H al (kvs.map (·.2)) (ws.map (·.2))) :
    pB K (Iti a o ws) (kvs.map fun q => D.tup [keyD q.1, q.2]) H al := by
  intro H' aU h' l r'
  have e' := l.lk a _ _ e
  have q' := q.dF r l
  have hl := q'.length
  simp only [List.length_map] at hl
  refine ⟨fun i hi => ⟨e', by simp only [List.length_map] at hi; omega⟩, ⟨e', by simp only [List.length_map]; omega⟩, fun i x H2 hi y => ?_⟩
  obtain ⟨T, ky, v, hk, rfl, hT, rfl⟩ := y
  obtain ⟨d, hd, rp⟩ := q'.get' (i := i) (v := v) (by rw [List.getElem?_map, hk]; rfl)
  rw [List.getElem?_map] at hd
  obtain ⟨⟨k2, d2⟩, hkv, rfl⟩ := Option.map_eq_some_iff.mp hd
  have ek : ky = k2 := by
    have := congrArg (fun l => l[i]?) k
    simp only [List.getElem?_map, hk, hkv, Option.map_some] at this
    exact Option.some.inj this
  subst ek
  have lf := Le.fresh (o := .tup [kV ky, v]) r' hT
  refine ⟨lf, r'.fresh hT, .tup [keyD ky, d2], by rw [List.getElem?_map, hkv]; rfl, .tup (SqT.of upd_same) (.cons ?_ (.cons (rp.mono r' lf) .nil))⟩
  cases ky with
  | inl i => exact .int i
  | inr s => exact .str s
theorem adL (he : PE X de (rd X.K W fd)) (hbase : attributeBase de "values" X.env (eval de X.env) = eval de X.env := by rfl) (hline : (apos.endLine == cpos.line) = true := by rfl) :
    PI X tg (.Call (.Attribute de "values" apos) [] [] cpos) (Ck X.K W (yV fd)) := (pi_values he hbase hline).weak fun σ H R ⟨e, al, h, r, re, p⟩ => by
  refine ⟨e, al, h, r, re, (bL.bind p).mono ?_⟩
  rintro x H1 ⟨d, bB, h1, l, r1, q, p1⟩
  split at p1
  · rename_i n
    split at p1
    · rename_i kvs hn
      cases q with
      | ref z =>
        obtain ⟨o, ws, e1, k, qs⟩ := r1.at_ n _ _ hn z
        exact ⟨_, o, ws, rfl, e1, p1 _ H1 bB .refl r1 (acu r1 e1 qs)⟩
    · exact p1.elim
  · exact p1.elim
theorem abI {elts : List Expr} {kk : Nat} {tpos : Pos} (he : PE X de (rd X.K W fd)) (hbase : attributeBase de "items" X.env (eval de X.env) = eval de X.env := by rfl) (hline : (apos.endLine == cpos.line) = true := by rfl) :
    PI X (.Tuple elts kk tpos) (.Call (.Attribute de "items" apos) [] [] cpos) (Ck X.K W (itI fd)) := (pi_items he hbase hline).weak fun σ H R ⟨e, al, h, r, re, p⟩ => by
  refine ⟨e, al, h, r, re, (bL.bind p).mono ?_⟩
  rintro x H1 ⟨d, bB, h1, l, r1, q, p1⟩
  split at p1
  · rename_i n
    split at p1
    · rename_i kvs hn
      cases q with
      | ref z =>
        obtain ⟨o, ws, e1, k, qs⟩ := r1.at_ n _ _ hn z
        exact ⟨_, o, ws, rfl, e1, p1 _ H1 bB .refl r1 (abb r1 e1 k qs)⟩
    · exact p1.elim
  · exact p1.elim
end
end PD
namespace PD
open PySem PySem.Spec PyProof.Rows L2
section
variable {X : Cx} {W : WX} {fo fa : ME} {o e : Expr} {cs : List Str} {f : Str} {pos : Pos} {g1 g2 : MG}
def Qq (cs : List Str) (f : Str) (e : En) (v o : D) (h : AH) : Res En := match o with
  | .ref n => match h[n]? with
    | some (.ins c fs) => if c ∈ cs ∧ fs.length < 1000 then .ok e (h.set n (.ins c (putD f v fs))) else .stuck
    | _ => .stuck
  | _ => .stuck
def acv (cs : List Str) (f : Str) (fo : ME) : MG := fun v e h => (fo e h).bind fun o h1 => Qq cs f e v o h1
theorem afU (hC : ∀ c ∈ cs, Cls X.K (He.ga X.K c) ∧ NoAttr X.K (He.ga X.K c) f) (ho : PE X o (rd X.K W fo)) : PG X (.Attribute o f pos) (Ce X.K W (acv cs f fo)) := by
  refine ⟨fun pins s σ H v u Q I rv ⟨d, en, al, h, r, re, q, p⟩ => ?_⟩
  rw [assign_Attribute]
  refine wpAny_bind (wpAny_holding (wpAny_mono (ho.run pins s σ H (fun w H1 => ∃ d1 bB h1, Le H al H1 bB ∧ HR X.K H1 bB h1 ∧ Rp X.K H1 bB d1 w ∧ bL X.K (fun H al e st => iQ X.K H al e st) H1 bB (fun c d H' => W c d σ H') Q (Qq cs f en d d1 h1)) I ⟨en, al, h, r, re, bL.bind p⟩) (fun ov s1 z => ?_) fun _ _ z => z))
  obtain ⟨w, H1, I1, rw', d1, bB, h1, l1, r1, q1, p1⟩ := z
  unfold Qq at p1
  split at p1
  · rename_i n
    split at p1
    · rename_i c fs hx
      split at p1
      · rename_i hc
        cases q1 with
        | ref ea =>
          rename_i a
          obtain ⟨dx, gs, e1, qf⟩ := r1.at_ n _ _ hx ea
          obtain ⟨r3, l3⟩ := r1.put (o := .ins (He.ga X.K c) dx (putF f v gs)) (c := .ins c (putD f d fs)) ea (fun H' aU l' e' => ⟨dx, _, e', (qf.mono r1 l').put ((q.mono r l1).mono r1 l')⟩) (fun kv w => by rw [hx] at w; cases w)
          obtain rfl : ov = Value.ref a := rw'
          refine wpAny_bind (wpAny_standAt (wpAny_bind (wpAny_holding ?_)))
          exact setattr_ok I1 e1 (hC c hc.1).1 (hC c hc.1).2 (by rw [← qf.length]; exact hc.2) rv fun s2 I2 => wpAny_release ⟨σ, _, I2, p1 _ _ _ l3 r3 ((re.mono r l1).mono r1 l3)⟩
      · exact p1.elim
    · exact p1.elim
  · exact p1.elim
def acw (fa : ME) (g1 g2 : MG) : MS := fun e h => (fa e h).st e fun d h1 => (g1 d e h1).st e fun e1 h2 => (g2 d e1 h2).st e1 fun e2 h3 => .nx e2 h3
theorem aic {t1 t2 : Expr} (he : PE X e (rd X.K W fa)) (h1 : PG X t1 (Ce X.K W g1)) (h2 : PG X t2 (Ce X.K W g2)) (ha : (assignEach [t1, t2] X.env).map (·.2) = [assign t1 X.env, assign t2 X.env] := by rfl) (hw : swappedStores [t1, t2] e X.env = pure none := by rfl) :
    PS X (.Assign [t1, t2] e pos) (lu X.K W (acw fa g1 g2)) := (ps_asg2 he h1 h2 ha hw).weak fun N σ H ⟨en, al, h, r, re, p⟩ => by
  refine ⟨en, al, h, r, re, (jM r re p).mono ?_⟩
  rintro v H1 ⟨d, bB, h1, l, r1, q, p1⟩
  refine ⟨d, en, bB, h1, r1, re.mono r l, q, (jM r1 (re.mono r l) p1).mono ?_⟩
  rintro st H2 ⟨e2, dU, h2, l2, r2, yQ, p2⟩
  refine ⟨d, e2, dU, h2, r2, yQ, q.mono r1 l2, (jM r2 yQ p2).mono ?_⟩
  rintro st3 H3 ⟨e3, R4, h3, l3, r3, re3, p3⟩
  exact p3 st3 H3 R4 .refl r3 re3
def Qs : ON
  | [.ref n], h => match h[n]? with
    | some (.dict kvs) => some (.ref h.length, h ++ [.dict kvs])
    | _ => none
  | _, _ => none
theorem agy : CallR X (.type "dict") (rN X.K Qs) := by
  rintro pins s σ H xs us Q I rv ⟨ds, al, h, r, p, po⟩
  unfold Qs at po
  split at po
  · rename_i n
    cases p with
    | cons p p2 =>
      cases p2
      cases p with
      | ref z =>
        split at po
        · rename_i kvs hn
          obtain ⟨ws, eH, k, qs⟩ := r.at_ n _ _ hn z
          refine call_dictD pins s σ H _ us Q I rv ⟨_, ws, rfl, .inl eH, fun a hp => ?_⟩
          obtain ⟨r', l⟩ := r.push (o := .dK ws) (c := .dict kvs) hp fun H' aU l e => ⟨ws, e, k, qs.mono r l⟩
          exact po _ _ _ l r' (.ref (by rw [← r.len]; simp))
        · exact po.elim
  · exact po.elim
end
def noX : RS → RS
  | .exc _ _ _ _ => .stuck
  | r => r
def GZ (b f : MS) : MS := fun e h => match b e h with
  | .nx e1 h1 => noX (f e1 h1)
  | .exc c fs e1 h1 => match f e1 h1 with
    | .nx e2 h2 => .exc c fs e2 h2
    | _ => .stuck
  | _ => .stuck
def ajH (tb : WX → TS) (tf tfs : TS) (Wo : WX) : TS := fun D σ H => tb (wFin tfs Wo) { nx := fun σ1 H1 => tf D σ1 H1, rt := fun _ _ => False } σ H
section
variable {X : Cx} {W : WX} {body : List Stmt} {f0 : Stmt} {fs : List Stmt} {pos : Pos}
theorem agz {tb : WX → TS} {tf tfs : TS} {Wo : WX} (hs : X.stack = X.env :: X.outer) (hf : X.env.frame = some X.env.locals) (hx : X.ex = []) (tk : Takes X Wo)
    (hb : ∀ (W : WX) (pn : List (Addr × Obj)) (xe : Value → Shared → Prop), Takes (X.tr pn xe) W → PassesOwn (model X.prog X.w) X.A X.env xe → PSs (X.tr pn xe) body (tb W))
    (h1 : PSs X.nox (f0 :: fs) tf) (h2 : ∀ (a : Addr) (pn : List (Addr × Obj)), PSs (X.suite a pn) (f0 :: fs) tfs) : PS X (.Try body [] [] (f0 :: fs) pos) (ajH tb tf tfs Wo) := by
  refine ⟨fun pins s σ H D I z => wpAny_Try_finally ?_⟩
  have ok := I.ok
  have run := (hb (wFin tfs Wo) (X.pn ++ pins) (fun x s₁ => wpAny (model X.prog X.w) X.A (noteFrame x X.env) (fun _ s₂ => FinallyRaised X.prog X.w X.A X.xe X.env (f0 :: fs) (SP X pins D) x s₂)
    (FinallyRaised X.prog X.w X.A X.xe X.env (f0 :: fs) (SP X pins D)) s₁) (fun u s' xx => fin_exc hs hf hx ok tk h2 xx) PassesOwn.looking).run [] s σ H { nx := fun σ1 H1 => tf D σ1 H1, rt := fun _ _ => False } (I.toTry _) z
  refine wpAny_mono run (fun g s1 y => ?_) fun _ _ y => y
  cases g with
  | ret u => exact False.elim y.choose_spec.choose_spec.choose_spec.2.2
  | brk => exact False.elim y.choose_spec.choose_spec.2
  | cont => exact False.elim y.choose_spec.choose_spec.2
  | next =>
    obtain ⟨σ1, H1, J1, q1⟩ := y
    refine wpAny_execs_nil (wpAny_mono (h1.run pins s1 σ1 H1 D ((J1.ofTry ok).wish _) q1) (fun g2 s2 q2 => ?_) fun _ _ y => False.elim y)
    have q3 : SP X pins D g2 s2 := q2.unwish
    cases g2 <;> exact q3
theorem aeZ {K : PySem.W.Frag} {H : Hp} {al : Al} {N : Ends} {r : RS} (p : lD K W H al N (noX r)) : lD K WF H al N r := by
  cases r <;> first | exact p | exact p.elim
theorem ajI {b f : MS} (ct : cC X W) (hs : X.stack = X.env :: X.outer) (hf : X.env.frame = some X.env.locals) (hx : X.ex = [])
    (hb : ∀ (W : WX) (pn : List (Addr × Obj)) (xe : Value → Shared → Prop), cC (X.tr pn xe) W → PSs (X.tr pn xe) body (lu X.K W b))
    (h1 : PSs X.nox (f0 :: fs) (lu X.K WF f)) (h2 : ∀ (a : Addr) (pn : List (Addr × Obj)), PSs (X.suite a pn) (f0 :: fs) (lu X.K WF f)) : PS X (.Try body [] [] (f0 :: fs) pos) (lu X.K W (GZ b f)) :=
  (agz (tb := fun W => lu X.K W b) hs hf hx ct.tk (fun W pn xe tk po => hb W pn xe ⟨tk, po, ct.gd⟩) h1 h2).weak fun N σ H ⟨e, al, h, r, re, po⟩ => by
    refine ⟨e, al, h, r, re, ?_⟩
    unfold GZ at po
    cases y : b e h with
    | nx e1 h1 =>
      rw [y] at po
      intro st H' aU l r' uO
      exact ⟨e1, aU, h1, r', uO, aeZ (lD.le po l)⟩
    | exc c fs e1 h1 =>
      rw [y] at po
      dsimp only at po
      intro a st H' aU gs l r' uO e3 qf
      refine ⟨e1, aU, h1, r', uO, ?_⟩
      cases w : f e1 h1 with
      | nx e2 h2 =>
        rw [w] at po
        intro st2 H2 dU l2 r2 yQ
        exact po a st2 H2 dU gs (l.trans l2) r2 yQ (l2.keep a _ e3 (r'.adx e3)) (qf.mono r' l2)
      | _ => rw [w] at po; exact po.elim
    | _ => rw [y] at po; exact po.elim
end
end PD
namespace GB
open PySem PySem.Spec PyProof.Rows
theorem afV : typeLookup (.type "dict_values") "__contains__" = pure none := by rw [typeLookup_type, builtinLookup_eq_fast]; kernel_rfl
theorem afW : entryFor table "proto.contains_iter" = some Builtin.«proto.contains_iter» := entryFor_of_tree (by kernel_rfl)
theorem acy : plainId "proto.contains_iter" = true := by decide +kernel
section
variable {prog : Program} {w : World} {A : Around} {E : Value → Shared → Prop} {s : Shared}
theorem agA (A : Around) (s : Shared) (i j : Int) (t u : Tok) (hu : A.units < cLine) : SeqAt.EqAt A s (.int i t) (.int j u) (PyData.eqv (.int i) (.int j)) :=
  SeqAt.eqAt_reads (.int i) (.int j) A s _ _ _ _ (Reads.int i t) (Reads.int j u) rfl rfl (by simpa [PyData.depth] using hu)
theorem agB {I : Addr} {fp wr : List Addr} {n : Nat} {P : Nat → Value → Prop} {St : Nat → Heap → Prop} {R : Result → Shared → Prop} (W : Walks prog w A.in1 I fp wr n P St) (hu : A.units + 1 < cLine) (k : Int) (u : Tok) (js : Nat → Int) (hv : ∀ i v, P i v → ∃ t, v = .int (js i) t) :
    ∀ (m i : Nat) (s : Shared), n - i = m → i ≤ n → St i s.heap →
      (∀ h' tk, (∀ b o, b ∉ wr → s.heap.get? b = some o → h'.get? b = some o) → R (.ok (.ret (.bool ((List.range' i (n - i)).any fun j => PyData.eqv (.int (js j)) (.int k))))) { s with heap := h', toks := tk }) →
      codeAny (model prog w) A (.builtin "proto.contains_iter" ⟨[.ref I, .int k u], []⟩) R s := by
  intro m
  induction m with
  | zero =>
    intro i s hm hi st hR
    have hin : i = n := by omega
    subst hin
    refine codeAny_builtin afW ?_
    rw [Around.under_plainId acy _]
    show wpAny _ A.in1 (pyNext (.ref I) >>= _) _ _ s
    refine wpAny_bind (W.done s _ _ st fun h' tk keep => ?_)
    have q := hR h' tk keep
    rw [Nat.sub_self] at q
    exact wpAny_bind (wpAny_rule (wpAny_pure q))
  | succ m ih =>
    intro i s hm hi st hR
    have hlt : i < n := by omega
    refine codeAny_builtin afW ?_
    rw [Around.under_plainId acy _]
    show wpAny _ A.in1 (pyNext (.ref I) >>= _) _ _ s
    refine wpAny_bind (W.item i s _ _ hlt st fun v h' tk hp st' keep => ?_)
    obtain ⟨t, rfl⟩ := hv i v hp
    have er : List.range' i (n - i) = i :: List.range' (i + 1) (n - (i + 1)) := by
      have : n - i = (n - (i + 1)) + 1 := by omega
      rw [this, List.range'_succ]
    show wpAny _ A.in1 (eqBool (.int (js i) t) (.int k u) >>= _) _ _ _
    refine wpAny_bind (agA A.in1 _ (js i) k t u (by show A.units + 1 < cLine; exact hu) prog w _ _ ?_)
    cases c : PyData.eqv (.int (js i)) (.int k) with
    | true =>
      have q := hR h' tk keep
      rw [er, List.any_cons, c, Bool.true_or] at q
      exact wpAny_bind (wpAny_rule (wpAny_pure q))
    | false =>
      refine wpAny_pure ⟨plainId_quiet acy _, ih (i + 1) _ (by omega) hlt st' fun h2 tk2 keep2 => ?_⟩
      have q := hR h2 tk2 fun b o hb e => keep2 b o hb (keep b o hb e)
      rw [er, List.any_cons, c, Bool.false_or] at q
      exact q
theorem agC {v d : Addr} {es : Array DictEntry} {ep : Nat} {kvs : List (L2.Key × Value)} {k : Int} {u : Tok} {Q : Value → Shared → Prop} (hh : A.handled = none) (hu : A.units + 3 < cLine) (hv : s.heap.IsValuesView v d) (hm : s.heap.DictAt (L2.mixKind prog w) d kvs ep) (hr : s.heap.DictRaw d es ep) (hn : es.size = kvs.length)
    (js : Nat → Int) (hj : ∀ i (h : i < es.size), ∃ t, es[i].val = .int (js i) t) (hd : d < s.heap.objs.size)
    (h : ∀ h' tk, (∀ b o, s.heap.get? b = some o → h'.get? b = some o) → Q (.bool ((List.range' 0 es.size).any fun j => PyData.eqv (.int (js j)) (.int k))) { s with heap := h', toks := tk }) :
    wpAny (model prog w) A (compareOp .In (.int k u) (.ref v)) Q E s := by
  show wpAny _ A (do let b ← contains (.ref v) (.int k u); pure (Value.bool b)) Q E s
  refine wpAny_bind ?_
  unfold contains
  refine wpAny_holding ?_
  show wpAny _ A (specialOf (.ref v) "__contains__" >>= _) _ _ _
  refine wpAny_bind (wpAny_specialOf hv.typeIs afV ?_)
  have e : ((none : Option Value) == some Value.none) = false := rfl
  simp only [e, Bool.false_eq_true, if_false]
  refine wpAny_bind (wpAny_callSpecialUnlessNone?_none hv.typeIs afV ?_)
  dsimp only
  refine wpAny_bind (wpAny_rule ?_)
  refine wpAny_bind (wpAny_tryCatch (wpAny_pyIter_values hv hm ?_))
  have hsz : (s.heap.push { cls := .type "dict_valueiterator", data := .fields #[.ref d, .int 0 0, .int kvs.length 0, .int ep 0] }).objs.size = s.heap.objs.size + 1 := Heap.size_push ..
  have hne : d ≠ s.heap.objs.size := Nat.ne_of_lt hd
  refine wpAny_bind (wpAny_runValue ?_)
  refine agB (Walks.rawValues (A := A.in1) (by simp [hh]) s.heap.objs.size d hne es ep) (by omega) k u js (fun i v q => ?_) (es.size - 0) 0 _ rfl (Nat.zero_le _) ⟨⟨_, Heap.get?_push_size _ rfl, rfl, ?_⟩, hr.at fun o e => Heap.get?_push_of_some _ e⟩ fun h' tk keep => ?_
  · obtain ⟨hi, rfl⟩ := q
    exact hj i hi
  · rw [hn]
    rfl
  · dsimp only
    refine wpAny_pure ?_
    exact wpAny_pure (h h' tk fun b o e => keep b o (fun z => by
      rw [List.mem_singleton.mp z] at e
      exact absurd (Heap.lt_size e) (Nat.lt_irrefl _)) (Heap.get?_push_of_some _ e))
end
end GB
namespace PD
open PySem PySem.Spec PyProof.Rows L2
def Qt : List D → Option (List Int)
  | [] => some []
  | .int i :: ds => (Qt ds).map (i :: ·)
  | _ => none
theorem CJ : ∀ {ds : List D} {js : List Int}, Qt ds = some js → ds = js.map .int
  | [], _, h => by cases h; rfl
  | .int i :: ds, js, h => by
    simp only [Qt] at h
    cases e : Qt ds with
    | none => rw [e] at h; cases h
    | some ks =>
      rw [e] at h
      cases h
      rw [CJ e]
      rfl
def adN (x d : D) (h : AH) : Res D := match x, d with
  | .int k, .ref n => match h[n]? with
    | some (.dO kvs) => match Qt (kvs.map (·.2)) with
      | some js => .ok (.bl (js.any fun j => PyData.eqv (.int j) (.int k))) h
      | none => .stuck
    | _ => .stuck
  | _, _ => .stuck
def aie (fa fd : ME) : ME := fun e h => (fa e h).bind fun x h1 => (fd e h1).bind fun d h2 => adN x d h2
section
variable {X : Cx} {W : WX} {fa fd : ME} {a de : Expr} {apos cpos pos : Pos}
theorem ajJ (hc : X.calm = true) (hu : X.A.units + 64 < cLine) (ha : PE X a (rd X.K W fa)) (he : PE X de (rd X.K W fd)) (hbase : attributeBase de "values" X.env (eval de X.env) = eval de X.env := by rfl) (hline : (apos.endLine == cpos.line) = true := by rfl)
    (hm : behindInMarks .In (.Call (.Attribute de "values" apos) [] [] cpos) = false := by rfl) : PE X (.Compare a [.In] [.Call (.Attribute de "values" apos) [] [] cpos] pos) (rd X.K W (aie fa fd)) := by
  refine ⟨fun pins s σ H Q I ⟨e, al, h, r, re, p⟩ => ?_⟩
  refine wpAny_Compare1 (thn (ha.run pins s σ H _ I ⟨e, al, h, r, re, bL.bind p⟩) fun x s1 ⟨xv, H1, I1, rx, dx, bB, h1, l1, r1, q1, p1⟩ => ?_) hm
  refine wpAny_Call_method (T := "dict") (id := "dict.values") hbase rfl hline F.plainAttrs_dict F.slot_dict_values F.type_dict_values (thn (he.run pins s1 σ H1 _ I1 ⟨e, bB, h1, r1, re.mono r l1, bL.bind p1⟩) fun u s2 ⟨dv, H2, I2, rd2, dd, dU, h2, l2, r2, q2, p2⟩ => ?_)
  unfold adN at p2
  split at p2
  · rename_i k n _
    split at p2
    · rename_i kvs hn
      split at p2
      · rename_i js hjs
        cases q1
        cases q2 with
        | ref z =>
        rename_i d
        obtain ⟨o, ws, hd, kk, qs⟩ := r2.at_ _ _ _ hn z
        obtain rfl : u = Value.ref d := rd2
        obtain ⟨t, rfl⟩ := rx
        obtain ⟨hs, hgd, hx, es, ep, vs, hdt, hsz, kv, hm2⟩ := I2.frzK hd
        have hl : ws.length = vs.length := Paired.length kv
        refine ⟨hm2.dictOf.typeIs, hm2.dictOf.mapOf.noDict, ?_⟩
        have I3 : Inv X pins σ H2 { s2 with heap := s2.heap.push { cls := .type "dict_values", data := .fields #[.ref d] } } := I2.kept (t' := s2.toks) fun b ob q => Heap.get?_push_of_some _ q
        have hjl : js.length = ws.length := by
          have e1 := qs.length
          rw [CJ hjs] at e1
          simpa using e1
        have fin : wpAny (model X.prog X.w) X.A (compareOp .In (.int k t) (.ref s2.heap.objs.size)) (EP X pins σ Q) X.xe { s2 with heap := s2.heap.push { cls := .type "dict_values", data := .fields #[.ref d] } } := by
          refine GB.agC (d := d) (es := es) (kvs := vs) (I2.ok.hd hc) (by omega) ⟨_, Heap.get?_push_size _ rfl, rfl, rfl⟩ (hm2.push _) ⟨o, Heap.get?_push_of_some _ hgd, hx, hdt⟩ (by rw [hsz, hl]) (fun i => js.getD i 0) (fun i hi => ?_) (Nat.lt_trans (Heap.lt_size hgd) (by rw [Heap.size_push]; exact Nat.lt_succ_self _)) fun h' tk keep => ?_
          · have hi' : i < vs.length := by rw [← hl, ← hsz]; exact hi
            obtain ⟨es2, ep2, ⟨o2, ho2, _, hd2⟩, hs2, hv2⟩ := hm2.dictOf.raw
            rw [hgd] at ho2
            cases ho2
            obtain ⟨rfl, rfl⟩ := dict_ep hdt hd2
            obtain ⟨_, e2⟩ := hv2 i hi _ _ (List.getElem?_eq_getElem hi')
            have hw : i < ws.length := by rw [hl]; exact hi'
            obtain ⟨u2, hu2, ru2⟩ := kv_get kv (k := ws[i].1) (v := ws[i].2) (i := i) (List.getElem?_eq_getElem hw)
            rw [List.getElem?_eq_getElem hi'] at hu2
            obtain ⟨d3, hd3, rp⟩ := qs.get' (i := i) (v := ws[i].2) (by rw [List.getElem?_map, List.getElem?_eq_getElem hw]; rfl)
            rw [CJ hjs, List.getElem?_map, List.getElem?_eq_getElem (by rw [hjl]; exact hw)] at hd3
            cases hd3
            generalize ws[i].2 = y at rp ru2
            cases rp
            have e4 : vs[i].2 = u2 := by rw [Option.some.inj hu2]
            obtain ⟨t2, e5⟩ := ru2
            refine ⟨t2, ?_⟩
            show es2[i].val = _
            rw [show es2[i].val = vs[i].2 from e2, e4, e5, List.getD_eq_getElem?_getD, List.getElem?_eq_getElem (by rw [hjl]; exact hw)]
            rfl
          · have I4 : Inv X pins σ H2 { s2 with heap := h', toks := tk } := I3.kept (t' := tk) fun b ob q => keep b ob q
            refine ⟨.bl _, H2, I4, rfl, ?_⟩
            have ej : ((List.range' 0 es.size).any fun j => PyData.eqv (.int (js.getD j 0)) (.int k)) = js.any fun j => PyData.eqv (.int j) (.int k) := by
              have : js = (List.range' 0 es.size).map fun i => js.getD i 0 := by
                apply List.ext_getElem
                · simp [hsz, hjl]
                · intro i h1 h2
                  simp [List.getD_eq_getElem?_getD, List.getElem?_eq_getElem h1]
              conv => rhs; rw [this, List.any_map]
              rfl
            rw [ej]
            exact p2 _ _ _ .refl r2 (.bl _)
        show wpAny _ _ (callWith cpos (.builtin "dict.values") [.ref d] [] []) _ X.xe s2
        exact method_meetsIn F.slot_dict_values F.entry_dict_values rfl (PySem.evalArgs_none ⟨rfl, hm2.dictOf.typeIs, F.args_dict_values_1 _, _, meets_dict_values (mixKind X.prog X.w) d hs, ⟨vs, hm2.dictOf⟩, fin⟩)
      · exact p2.elim
    · exact p2.elim
  · exact p2.elim
end
end PD
namespace GB
open PySem PySem.SeqAt
open AutoSeq1 (wpAny_loadPart')
open MeetsSeq MeetsSeq2 MeetsSeq3 SeqRoads2
section
variable {prog : Program} {w : World} {A : Around} {E : Value → Shared → Prop} {s : Shared}
theorem adP {R : Result → Shared → Prop} {l b : Addr} {items items2 : Array Value} {n n2 : Nat} {sl sl2 : Array (Option Value)} (hl1 : s.heap.get? l = some { cls := .type "list", data := .seq items n, slots := sl }) (hb1 : s.heap.get? b = some { cls := .type "list", data := .seq items2 n2, slots := sl2 }) (hne : items.size ≠ items2.size)
    (last : R (.ok (.ret (.bool true))) s) : wpAny (model prog w) A.in1 (Builtin.«list.__ne__» ⟨[.ref l, .ref b], []⟩) (GQ.FinOf prog w A R) (fun e s' => R (.error e) s') s := by
  obtain ⟨hp, g, d, tk, os⟩ := s
  have f3 := AutoSeq1.sub_list_list
  have hne : (items.size != items2.size) = true := by simpa using hne
  wp_walk using wpAny_loadPart' hl1, wpAny_loadPart' hb1
  exact last
theorem agD {l b : Addr} {items items2 : Array Value} {n n2 : Nat} {sl sl2 : Array (Option Value)} {Q : Value → Shared → Prop} (hu : A.units < cLine) (hl1 : s.heap.get? l = some { cls := .type "list", data := .seq items n, slots := sl }) (hb1 : s.heap.get? b = some { cls := .type "list", data := .seq items2 n2, slots := sl2 }) (hne : items.size ≠ items2.size)
    (hq : Q (.bool true) s) : wpAny (model prog w) A (richCompare .NotEq (.ref l) (.ref b)) Q E s :=
  wpAny_richCompare_same_room (op := .NotEq) ⟨_, hl1, rfl⟩ ⟨_, hb1, rfl⟩ F.slot_list_ne (GQ.call_here F.slot_list_ne ⟨_, hl1, rfl⟩ F.entry_list_ne (F.args_list_ne_2 _ _)
    (adP (R := wants (fun v s' => v ≠ .notImplemented ∧ Q v s') E) hl1 hb1 hne ⟨(fun z => nomatch z), hq⟩)) hu
end
end GB
namespace PD
open PySem PySem.Spec PyProof.Rows L2
section
variable {X : Cx} {W : WX}
def neL (o : O2) : O2 := fun d e h => match Cy h d, Cy h e with
  | some xs, some ys => if xs.length ≠ ys.length then some (.bl true, h) else o d e h
  | _, _ => o d e h
theorem yc {o : O2} (hu : X.A.units + 64 < cLine) (ho : OpR X (compareOp .NotEq) (r2 X.K o)) : OpR X (compareOp .NotEq) (r2 X.K (neL o)) := by
  rintro pins s σ H x y v u Q I rx ry ⟨d, e, al, h, r, p, q, po⟩
  unfold neL at po
  split at po
  · rename_i xs ys hx hy
    split at po
    · rename_i hn
      obtain ⟨a, vs, rfl, sq, ql⟩ := Cz r p hx
      obtain ⟨b, ws, rfl, sq2, ql2⟩ := Cz r q hy
      obtain ⟨its, rl, pl, hz⟩ := I.list sq
      obtain ⟨its2, rl2, pl2, hz2⟩ := I.list sq2
      obtain rfl : v = Value.ref a := rx
      obtain rfl : u = Value.ref b := ry
      obtain ⟨⟨c1, dd1, dt1, sl1⟩, n1, g1, e1, e2, e3⟩ := pl
      obtain ⟨⟨c2, dd2, dt2, sl2⟩, n2, g2, f1, f2, f3⟩ := pl2
      simp only at e1 e2 e3 f1 f2 f3
      subst e1 e2 e3 f1 f2 f3
      refine GB.agD (by omega) g1 g2 ?_ ⟨.bl true, H, I, rfl, po _ _ _ .refl r (.bl _)⟩
      rw [List.size_toArray, List.size_toArray, ← rl.length, ← rl2.length, ← ql.length, ← ql2.length]
      exact hn
    · exact ho pins s σ H x y v u Q I rx ry ⟨d, e, al, h, r, p, q, po⟩
  · exact ho pins s σ H x y v u Q I rx ry ⟨d, e, al, h, r, p, q, po⟩
end
end PD
namespace PD
open PySem PySem.Spec PyProof.Rows L2
section
variable {X : Cx} {W : WX}
def oO (cs : List Str) (f : Str) (fo fv : ME) : MS := fun e h => (fo e h).st e fun a h1 => match a with
  | .ref n => match h1[n]? with
    | some (.ins c fs) => if c ∈ cs then match fs.lookup f with
        | some (.int i) => (fv e h1).st e fun y h2 => match y with
          | .int j => (match h2[n]? with
            | some (.ins c' fs') => if c' = c ∧ fs'.length < 1000 then .nx e (h2.set n (.ins c' (putD f (.int (i + j)) fs'))) else .stuck
            | _ => .stuck)
          | _ => .stuck
        | _ => .stuck
      else .stuck
    | _ => .stuck
  | _ => .stuck
theorem pre_at {H H' : Hp} {al aU : Al} {n : Nat} {a : Addr} (l : Le H al H' aU) (e : al.c[n]? = some a) : aU.c[n]? = some a := by
  obtain ⟨t, ht⟩ := l.pre
  rw [ht, List.getElem?_append_left (List.getElem?_eq_some_iff.mp e).1, e]
theorem aat {cs : List Str} {f : Str} {o v : Expr} {fo fv : ME} {pos tpos : Pos} (hC : ∀ c ∈ cs, Cls X.K (He.ga X.K c) ∧ NoAttr X.K (He.ga X.K c) f) (ho : PE X o (rd X.K W fo)) (hv : PE X v (rd X.K W fv)) :
    PS X (.AugAssign (.Attribute o f tpos) .Add v pos) (lu X.K W (oO cs f fo fv)) :=
  (ps_fldaug ho hv in_add).weak fun N σ H ⟨e, al, h, r, re, po⟩ => by
    refine ⟨e, al, h, r, re, (jM r re po).mono ?_⟩
    rintro x H1 ⟨d, bB, h1, l, r1, q, p1⟩
    split at p1
    · rename_i n
      split at p1
      · rename_i c fs hx
        split at p1
        · rename_i hc
          split at p1
          · rename_i i hi
            cases q with
            | ref ea =>
              obtain ⟨dx, gs, e1, qf⟩ := r1.at_ n _ _ hx ea
              obtain ⟨w, e2, q2⟩ := qf.lookup hi
              refine ⟨_, _, dx, gs, w, rfl, e1, (hC c hc).1, (hC c hc).2, e2, e, bB, h1, r1, re.mono r l, (jM r1 (re.mono r l) p1).mono ?_⟩
              rintro y H2 ⟨d2, dU, h2, l2, r2, q3, p2⟩
              split at p2
              · rename_i j
                cases q2
                cases q3
                refine ⟨i, j, rfl, rfl, ?_⟩
                split at p2
                · rename_i c' fs' hx'
                  split at p2
                  · rename_i hc'
                    obtain ⟨hc', hl'⟩ := hc'
                    subst hc'
                    have ea2 := pre_at l2 ea
                    obtain ⟨dx', gs', e1', qf'⟩ := r2.at_ n _ _ hx' ea2
                    obtain ⟨r3, l3⟩ := r2.put (o := .ins (He.ga X.K c') dx' (putF f (.int (i + j)) gs')) (c := .ins c' (putD f (.int (i + j)) fs')) ea2 fun H' aU l' e' => ⟨dx', _, e', (qf'.mono r2 l').put (.int _)⟩
                    exact ⟨dx', gs', e1', by rw [← qf'.length]; exact hl', p2 _ _ _ l3 r3 (((re.mono r l).mono r1 l2).mono r2 l3)⟩
                  · exact p2.elim
                · exact p2.elim
              · exact p2.elim
          · exact p1.elim
        · exact p1.elim
      · exact p1.elim
    · exact p1.elim
mutual
def tvD : Tv → D
  | .int i => .int i
  | .str x => .str x
  | .tup l => .tup (tvL l)
def tvL : List Tv → List D
  | [] => []
  | t :: ts => tvD t :: tvL ts
end
mutual
theorem abK {K : PySem.W.Frag} : ∀ {t : Tv} {u : Value}, QL K u t = true → ∃ v, RelV v u ∧ ∀ H al, Rp K H al (tvD t) v
  | .int i, u, h => by
    simp only [QL] at h
    split at h
    · rename_i j t
      cases of_decide_eq_true h
      exact ⟨.int i, ⟨t, rfl⟩, fun H al => by simp only [tvD]; exact .int i⟩
    · cases h
  | .str x, u, h => by
    simp only [QL] at h
    split at h
    · rename_i j t
      cases of_decide_eq_true h
      exact ⟨.str x, ⟨t, rfl⟩, fun H al => by simp only [tvD]; exact .str x⟩
    · cases h
  | .tup l, u, h => by
    simp only [QL] at h
    split at h
    · rename_i b
      split at h
      · rename_i od its n sl ho
        obtain ⟨h1, h2⟩ := Bool.and_eq_true_iff.mp h
        obtain ⟨vs, rv, q⟩ := abL h2
        refine ⟨.ref b, rfl, fun H al => ?_⟩
        simp only [tvD]
        exact .tup (.inr ⟨_, its, n, ho, rfl, rfl, Nat.le_trans (of_decide_eq_true h1) (by decide), rv⟩) (q H al)
      · cases h
    · cases h
theorem abL {K : PySem.W.Frag} : ∀ {ts : List Tv} {us : List Value}, Vn K us ts = true → ∃ vs, Vals vs us ∧ ∀ H al, bD K H al (tvL ts) vs
  | [], us, h => by
    simp only [Vn] at h
    cases us with
    | nil => exact ⟨[], .nil, fun H al => by simp only [tvL]; exact .nil⟩
    | cons _ _ => cases h
  | t :: ts, us, h => by
    simp only [Vn] at h
    cases us with
    | nil => cases h
    | cons u us =>
      obtain ⟨h1, h2⟩ := Bool.and_eq_true_iff.mp h
      obtain ⟨v, a, b⟩ := abK h1
      obtain ⟨vs, c, d⟩ := abL h2
      exact ⟨v :: vs, .cons a c, fun H al => by simp only [tvL]; exact .cons (b H al) (d H al)⟩
end
def acz (kvs : List (Str × Tv)) (k : Str) : Option (Option D) := match kvs.find? fun q => decide (q.1 = k) with
  | some q => some (some (tvD q.2))
  | none => some none
theorem KTab.ofT {K : PySem.W.Frag} {w : World} {x : Str} {kvs : List (Str × Tv)} (kd : ∃ es n, KDict K w (He.ga K x) es n) (h : aev K (He.ga K x) kvs = true) (hk : keyB K (He.ga K x) (kvs.map (·.1)) = true) : KTab K w x (acz kvs) := by
  refine ⟨kd, fun k d e => ?_, fun k e => ?_⟩
  · unfold acz at e
    split at e
    · rename_i q hq
      have e := Option.some.inj (Option.some.inj e)
      have hk : q.1 = k := of_decide_eq_true (List.find?_some (p := fun q : Str × Tv => decide (q.1 = k)) hq)
      have h2 := List.all_eq_true.mp h q (List.mem_of_find?_eq_some hq)
      subst hk e
      split at h2
      · rename_i u hu
        obtain ⟨v, a, b⟩ := abK h2
        exact ⟨u, v, hu, a, b⟩
      · cases h2
    · cases e
  · unfold acz at e
    split at e
    · cases e
    · rename_i hn
      refine Sh hk fun m => ?_
      obtain ⟨p, hp, rfl⟩ := List.mem_map.mp m
      have := List.find?_eq_none.mp hn p hp
      exact this (decide_eq_true rfl)
end
end PD
namespace PD
open PySem PySem.Spec PyProof.Rows L2
def inT : O2 := fun d e h => match fH h 80 d, fH h 80 e with
  | some p, some (.list ds) => if SeqAt.shaped p = true ∧ SeqAt.shaped (.list ds) = true then some (.bl (ds.any fun z => PyData.eqv z p), h) else none
  | _, _ => none
theorem ajK {X : Cx} (hu : X.A.units + 65 < cLine) : OpR X (compareOp .In) (r2 X.K inT) := by
  rintro pins s σ H x y v u Q I rx ry ⟨d, e, al, h, r, p, q, po⟩
  unfold inT at po
  split at po
  · rename_i a ds ha hb
    split at po
    · rename_i hs
      exact op_inD hu pins s σ H x y v u Q I rx ry ⟨a, ds, Rp.Sd r 80 d x a p ha, Rp.Sd r 80 e y _ q hb, hs.1, hs.2, po _ _ _ .refl r (.bl _)⟩
    · exact po.elim
  · exact po.elim
theorem aif {k : Nat} {A : Around} (r : Room k A) : A.units + 65 < cLine := by
  have := r.un
  omega
def Ey (fd : ME) (f : MS) : MS := fun e h => match fd e h with
  | .ok (.ref n) _ => match h[n]? with
    | some (.dict kvs) => match f e (h.set n (.dO kvs)) with
      | .nx e1 h2 => match h2[n]? with
        | some (.dO aas) => .nx e1 (h2.set n (.dict aas))
        | _ => .stuck
      | _ => .stuck
    | _ => .stuck
  | _ => .stuck
theorem aii {X : Cx} {W : WX} {fd : ME} {f : MS} {st : Stmt} (he : PS X st (lu X.K W f)) : PS X st (lu X.K W (Ey fd f)) := (ps_lock he).weak fun N σ H ⟨e, al, h, r, re, p⟩ => by
  unfold Ey at p
  split at p
  · rename_i n h0 hf
    split at p
    · rename_i kvs hn
      obtain ⟨a, z, ok⟩ := r.addr hn
      obtain ⟨ws, eH, k, qs⟩ := ok
      refine ⟨a, .dK ws, eH, trivial, fun od => ?_⟩
      obtain ⟨r2, l2⟩ := r.put (o := .frz od (.dK ws)) (c := .dO kvs) z (fun H' aU l' e' => ⟨od, ws, e', k, qs.mono r l'⟩) (fun kv w => by rw [hn] at w; cases w)
      refine ⟨e, al, _, r2, re.mono r l2, ?_⟩
      cases y : f e (h.set n (.dO kvs)) with
      | nx e1 h2 =>
        rw [y] at p
        dsimp only at p
        split at p
        · rename_i aas hn2
          intro st H' aU l' r' uO
          obtain ⟨r3, l3, u3⟩ := HR.unlock r z eH l' r' hn2
          exact ⟨l'.lk a _ _ upd_same, p st _ aU l3 r3 ⟨uO.1, fun i d q => by
            obtain ⟨v, e2, q2⟩ := uO.2 i d q
            exact ⟨v, e2, Rp.gq r' u3 q2⟩⟩⟩
        · exact p.elim
      | _ => rw [y] at p; exact p.elim
    · exact p.elim
  · exact p.elim
end PD
local macro_rules | `(tactic| walk_at "hp") => `(tactic| first | assumption | exact GB.Wd.at (by assumption) 0 rfl | exact GB.Wd.at (by assumption) 1 rfl | exact GB.Wd.at (by assumption) 2 rfl | exact GB.Wd.at (by assumption) 3 rfl | exact GB.Wd.at (by assumption) 4 rfl | exact GB.Wd.at (by assumption) 5 rfl | exact GB.Wd.at (by assumption) 6 rfl | exact GB.Wd.at (by assumption) 7 rfl | exact GB.Wd.at (by assumption) 8 rfl)
local macro_rules | `(tactic| walk_at "side") => `(tactic| first | decide | omega | exact ⟨by decide, by decide⟩ | exact ⟨by omega, by omega⟩ | exact GB.aep (by decide) | exact .inl ⟨by omega, by omega⟩ | exact .inr ⟨by omega, by omega⟩)
local macro_rules | `(tactic| walk_at "len") => `(tactic| first | assumption | decide | omega | (simp only [List.length_cons, List.length_nil, List.length_append, List.length_map]; first | done | omega))
local macro_rules | `(tactic| walk_at "s") => `(tactic| first
  | with_reducible refine GB.aiQ ?_
  | with_reducible refine GB.agW ?_
  | with_reducible refine GB.aiR ?_
  | with_reducible refine GB.agX ?_
  | with_reducible refine GB.agY ?_
  | with_reducible refine GB.aiS ?_
  | with_reducible refine GB.aiT ?_
  | ((with_reducible refine' GB.aiU ?a ?_); (case a => exact rfl))
  | with_reducible refine GB.r_c ?_
  | with_reducible refine GB.akE ?_
  | with_reducible refine GB.akF ?_
  | with_reducible refine GB.aiV ?_
  | with_reducible refine GB.agZ ?_
  | with_reducible refine GB.akG ?_
  | with_reducible refine GB.ag0 ?_
  | with_reducible refine GB.ag1 ?_
  | with_reducible refine GB.ag3 ?_
  | with_reducible refine GB.akH ?_
  | with_reducible refine GB.akI ?_
  | with_reducible refine GB.aiW ?_
  | with_reducible refine GB.akJ ?_
  | with_reducible refine GB.aiX ?_
  | with_reducible refine GB.ag4 ?_
  | with_reducible refine GB.aiY ?_
  | with_reducible refine GB.ag5 ?_
  | with_reducible refine GB.aiZ ?_
  | with_reducible refine GB.af8 ?_
  | with_reducible refine GB.ai0 ?_
  | with_reducible refine GB.ai1 ?_
  | with_reducible refine GB.aeo ?_
  | with_reducible refine GB.ag8 ?_
  | with_reducible refine GB.ai2 ?_
  | with_reducible refine GB.akK ?_
  | with_reducible refine GB.akL ?_
  | with_reducible refine GB.akM ?_
  | with_reducible refine GB.ai3 ?_
  | with_reducible refine GB.akN ?_
  | with_reducible refine GB.v_U ?_
  | with_reducible refine GB.ai4 ?_
  | with_reducible refine GB.ai5 ?_
  | with_reducible refine GB.ai6 ?_
  | with_reducible refine GB.ai7 ?_
  | with_reducible refine GB.ajb ?_
  | with_reducible refine GB.ajc ?_
  | with_reducible refine GB.ahd ?_
  | with_reducible refine GB.ahe ?_
  | with_reducible refine GB.ajd ?_
  | with_reducible refine GB.akQ ?_
  | with_reducible refine GB.akR ?_
  | with_reducible refine GB.ajf ?_
  | with_reducible refine GB.ajg ?_
  | with_reducible refine GB.akT ?_
  | with_reducible refine GB.ajj ?_
  | with_reducible refine GB.ahg ?_
  | with_reducible refine GB.aji ?_
  | with_reducible refine GB.akW ?_
  | with_reducible refine GB.ajp ?_
  | with_reducible refine GB.akX ?_
  | with_reducible refine GB.ajq ?_
  | with_reducible refine GB.agc ?_
  | with_reducible refine GB.ajr ?_
  | with_reducible refine GB.ajs ?_
  | with_reducible refine GB.ahm ?_
  | with_reducible refine GB.agd ?_
  | with_reducible refine GB.ahn ?_
  | ((with_reducible refine' GB.ajo ?a ?_); (case a => first | assumption | exact GB.sqT (by walk_at "hp")))
  | ((with_reducible refine' GB.ahf ?a ?b ?_); (case a => walk_at "hp"); (case b => exact rfl))
  | ((with_reducible refine' GB.akS ?a ?_); (case a => walk_at "hp"))
  | ((with_reducible refine' GB.ajh ?a ?b ?_); (case a => walk_at "hp"); (case b => walk_at "len"))
  | ((with_reducible refine' GB.v_I ?a ?_); (case a => walk_at "side"))
  | ((with_reducible refine' GB.ai8 ?a ?b ?_); (case a => exact GB.sqL (by walk_at "hp")); (case b => exact rfl))
  | ((with_reducible refine' GB.ai9 ?a ?b ?_); (case a => first | assumption | exact GB.sqT (by walk_at "hp")); (case b => first | exact rfl | exact GB.ajt))
  | ((with_reducible refine' GB.aha ?a ?_); (case a => exact GB.sqL (by walk_at "hp")))
  | ((with_reducible refine' GB.ahb ?a ?_); (case a => exact GB.sqT (by walk_at "hp")))
  | ((with_reducible refine' GB.aje ?a ?_); (case a => exact GB.sqL (by walk_at "hp")))
  | ((with_reducible refine' GB.ahc ?a ?_); (case a => walk_at "len"))
  | ((with_reducible refine' GB.ag9 ?a ?_); (case a => walk_at "len"))
  | ((with_reducible refine' GB.aja ?a ?_); (case a => walk_at "len")))
local macro_rules | `(tactic| walk_at "r") => `(tactic| repeat walk_at "s")
local macro_rules | `(tactic| walk_at "st") => `(tactic| try dsimp only [L2.cxOf, L2.Cx.nox, L2.Cx.wish])
namespace dN
open PySem PySem.Spec PyProof.Rows L2
section
variable {P : Program} {w : World} {K : PySem.W.Frag} {mg : Str → Option Value} {base : Heap}
def Vb : List V → Option (List (Str × V))
  | [y] => some [("why", y)]
  | _ => none
theorem vp (T : Top w K mg) : GB.FO P w K mg base CX0 1 (He.ma K (He.ga K "WorkError") "__init__") ["self", "why"] (GB.spInit K ["why"] Vb) := by
  refine T.Ge.akU Fl (by decide) (fun _ _ _ _ _ _ _ us its hl hi => match us, its, hl, hi with | [_, _], [_], _, _ => ⟨_, rfl, rfl⟩) (fun vs H Q E h => ?_) (fun cdv A outer s H vs Q E hr h => ?_)
  · obtain ⟨a, C, args, fs, rfl, hm, _⟩ := h
    match args, hm with
    | [y], _ => rfl
  · obtain ⟨a, C, args, fs, rfl, hm, hC, hn, ha, q⟩ := h
    match args, hm with
    | [y], hm =>
    cases hm
    refine ⟨_, (pss_cons (ps_expr (pe_veinit (by rfl) T.VJ (GB.ahj T.ve) (pa_cons (pv 0) (pa_cons (pv 1) pa_nil))))
      (pss_one (ps_ost (pv 0) (pv 1)))), ?_⟩
    show (_ : TS) _ [some (.ref a), some (y)] _; walk_at "st"
    walk_at "r"
    refine GB.ajl ?_
    walk_at "r"
    refine ⟨a, C, [y], rfl, by simp, hC, ha, ?_⟩
    dsimp only
    refine GB.afr ?_
    walk_at "r"
    exact ⟨a, C, rfl, hC, hn _ (by simp), .inl ⟨ha, fun dx h1 h2 => q dx _ h1 h2 rfl⟩⟩
theorem Gg (T : Top w K mg) : GB.Fp P w K mg base 1 "BadRun" ["self", "why"] ["why"] Vb := by
  obtain ⟨h1, h2, h3, h4⟩ := T.Gg
  refine ⟨GB.abm h1, T.aeB, (GB.zq h2).1, (GB.zq h2).2, GB.Vj h3, ?_⟩
  rw [T.TY]
  exact vp T
def zY : List V → Option (List (Str × V))
  | [G3, uH] => some [("at", G3), ("why", uH)]
  | _ => none
theorem Rq (T : Top w K mg) : GB.FO P w K mg base CX0 2 (He.ma K (He.ga K "Broken") "__init__") ["self", "at", "why"] (GB.spInit K ["at", "why"] zY) := by
  have G4 := vp (P := P) (w := w) (base := base) T
  refine T.TV.fo0 QS (fun _ _ _ _ _ _ us hl => match us, hl with | [_, _, _], _ => rfl) (fun vs H Q E h => ?_) (fun cdv A outer s H vs Q E hr h => ?_)
  · obtain ⟨a, C, args, fs, rfl, hm, _⟩ := h
    match args, hm with
    | [G3, uH], _ => rfl
  · obtain ⟨a, C, args, fs, rfl, hm, hC, hn, ha, q⟩ := h
    match args, hm with
    | [G3, uH], hm =>
    cases hm
    refine ⟨_, (pss_cons (ps_expr (GB.aes G4 hr (by rfl) T.aa3 (GB.Vh T.v8).1 (GB.Vh T.v8).2 pass0 (pa_cons (pv 0) (pa_cons (pv 2) pa_nil))))
      (pss_one (ps_ost (pv 0) (pv 1)))), ?_⟩
    show (_ : TS) _ [some (.ref a), some (G3), some (uH)] _; walk_at "st"
    walk_at "r"
    refine ⟨a, C, [uH], [("why", uH)], rfl, rfl, hC, fun n hn' => hn n (by simp at hn'; subst hn'; simp), ha, fun dx H1 e1 e2 e3 => ?_⟩
    subst e3
    dsimp only
    walk_at "r"
    refine GB.afr ?_
    walk_at "r"
    refine ⟨a, C, rfl, hC, hn _ (by simp), .inr ⟨dx, [("why", uH)], upd_same, (upd_ne e2).trans upd_same, by simp, ?_⟩⟩
    dsimp only
    refine q dx _ e1 e2 ?_
    funext z
    unfold upd
    by_cases z1 : z = dx
    · subst z1
      simp [e2]
    · by_cases z2 : z = a
      · subst z2
        simp [z1]
      · simp [z1, z2]
theorem zE (T : Top w K mg) : GB.Fp P w K mg base 2 "Broken" ["self", "at", "why"] ["at", "why"] zY := by
  obtain ⟨h1, h2, h3, h4⟩ := T.zE
  exact ⟨GB.abm h1, T.VB, (GB.zq h2).1, (GB.zq h2).2, GB.Vj h3, Rq T⟩
end
end dN
local macro_rules | `(tactic| walk_at "v") => `(tactic| first | exact .inl rfl | exact .inr (.inl rfl) | exact .inr (.inr rfl))
local macro_rules | `(tactic| walk_at "w") => `(tactic| first | exact Or.inl rfl | exact Or.inr rfl)
noncomputable section
namespace dN
open PySem PySem.Spec PyProof.Rows L2 PD
section
variable {P : Program} {w : World} {K : PySem.W.Frag} {mg : Str → Option Value} {base : Heap}
def wC : Isa := ⟨fun _ _ => none, fun _ _ => none, fun _ _ => none⟩
theorem yW (T : Top w K mg) : wC.Ok K where
  oo c g b h := by cases h
  to t g b h := by cases h
  ot c n b h := by cases h
abbrev fG : List Str := ["Seen"]
theorem sJ (T : Top w K mg) : ∀ c ∈ fG, Cls K (He.ga K c) ∧ NoAttr K (He.ga K c) "beginner" := fun c hc => by
  obtain rfl := List.mem_singleton.mp hc
  exact ⟨T.uM, T.Hj⟩
abbrev CK : List Str := ["Seen"]
theorem acA (T : Top w K mg) : ∀ c ∈ CK, Cls K (He.ga K c) ∧ NoAttr K (He.ga K c) "called" := fun c hc => by
  obtain rfl := List.mem_singleton.mp hc
  exact ⟨T.uM, T.T5⟩
abbrev eV : List Str := ["Seen"]
theorem qp (T : Top w K mg) : ∀ c ∈ eV, Cls K (He.ga K c) ∧ NoAttr K (He.ga K c) "ending" := fun c hc => by
  obtain rfl := List.mem_singleton.mp hc
  exact ⟨T.uM, T.T6⟩
abbrev jW : List Str := ["Seen"]
theorem wD (T : Top w K mg) : ∀ c ∈ jW, Cls K (He.ga K c) ∧ NoAttr K (He.ga K c) "owed" := fun c hc => by
  obtain rfl := List.mem_singleton.mp hc
  exact ⟨T.uM, T.aa4⟩
abbrev gA : List Str := ["Seen"]
theorem pQ (T : Top w K mg) : ∀ c ∈ gA, Cls K (He.ga K c) ∧ NoAttr K (He.ga K c) "shut" := fun c hc => by
  obtain rfl := List.mem_singleton.mp hc
  exact ⟨T.uM, T.aa5⟩
abbrev cZ : List Str := ["Seen"]
theorem iD (T : Top w K mg) : ∀ c ∈ cZ, Cls K (He.ga K c) ∧ NoAttr K (He.ga K c) "state" := fun c hc => by
  obtain rfl := List.mem_singleton.mp hc
  exact ⟨T.uM, T.VD⟩
abbrev sO : List Str := ["Seen"]
theorem Rr (T : Top w K mg) : ∀ c ∈ sO, Cls K (He.ga K c) ∧ NoAttr K (He.ga K c) "had" := fun c hc => by
  obtain rfl := List.mem_singleton.mp hc
  exact ⟨T.uM, T.ab3⟩
abbrev iw : List Str := ["Seen"]
theorem rH (T : Top w K mg) : ∀ c ∈ iw, Cls K (He.ga K c) ∧ NoAttr K (He.ga K c) "lasts" := fun c hc => by
  obtain rfl := List.mem_singleton.mp hc
  exact ⟨T.uM, T.VF⟩
abbrev G5 : List Str := ["Watch"]
theorem adR (T : Top w K mg) : ∀ c ∈ G5, Cls K (He.ga K c) ∧ NoAttr K (He.ga K c) "sizes" := fun c hc => by
  obtain rfl := List.mem_singleton.mp hc
  exact ⟨T.jc, T.T7⟩
abbrev yX : List Str := ["Watch"]
theorem abM (T : Top w K mg) : ∀ c ∈ yX, Cls K (He.ga K c) ∧ NoAttr K (He.ga K c) "raw" := fun c hc => by
  obtain rfl := List.mem_singleton.mp hc
  exact ⟨T.jc, T.aa6⟩
abbrev cJ : List Str := ["Watch"]
theorem gK (T : Top w K mg) : ∀ c ∈ cJ, Cls K (He.ga K c) ∧ NoAttr K (He.ga K c) "tasks" := fun c hc => by
  obtain rfl := List.mem_singleton.mp hc
  exact ⟨T.jc, T.T8⟩
abbrev jQ : List Str := ["Watch"]
theorem z9 (T : Top w K mg) : ∀ c ∈ jQ, Cls K (He.ga K c) ∧ NoAttr K (He.ga K c) "latest" := fun c hc => by
  obtain rfl := List.mem_singleton.mp hc
  exact ⟨T.jc, T.QZ⟩
abbrev pU : List Str := ["Watch"]
theorem CN (T : Top w K mg) : ∀ c ∈ pU, Cls K (He.ga K c) ∧ NoAttr K (He.ga K c) "homes" := fun c hc => by
  obtain rfl := List.mem_singleton.mp hc
  exact ⟨T.jc, T.T9⟩
abbrev jE : List Str := ["Watch"]
theorem ug (T : Top w K mg) : ∀ c ∈ jE, Cls K (He.ga K c) ∧ NoAttr K (He.ga K c) "must" := fun c hc => by
  obtain rfl := List.mem_singleton.mp hc
  exact ⟨T.jc, T.VG⟩
abbrev iG : List Str := ["Watch"]
theorem wF (T : Top w K mg) : ∀ c ∈ iG, Cls K (He.ga K c) ∧ NoAttr K (He.ga K c) "many" := fun c hc => by
  obtain rfl := List.mem_singleton.mp hc
  exact ⟨T.jc, T.VH⟩
abbrev uV : List Str := ["Watch"]
theorem agE (T : Top w K mg) : ∀ c ∈ uV, Cls K (He.ga K c) ∧ Meth K (He.ga K c) "see" (He.ma K (He.ga K "Watch") "see") := fun c hc => by
  obtain rfl := List.mem_singleton.mp hc
  exact ⟨T.jc, T.dG⟩
abbrev yZ : List Str := ["Watch"]
theorem ae0 (T : Top w K mg) : ∀ c ∈ yZ, Cls K (He.ga K c) ∧ Meth K (He.ga K c) "seen" (He.ma K (He.ga K "Watch") "seen") := fun c hc => by
  obtain rfl := List.mem_singleton.mp hc
  exact ⟨T.jc, T.jy⟩
abbrev pW : List Str := ["Watch"]
theorem acB (T : Top w K mg) : ∀ c ∈ pW, Cls K (He.ga K c) ∧ Meth K (He.ga K c) "reason" (He.ma K (He.ga K "Watch") "reason") := fun c hc => by
  obtain rfl := List.mem_singleton.mp hc
  exact ⟨T.jc, T.cO⟩
abbrev wG : List Str := ["Watch"]
theorem Ua (T : Top w K mg) : ∀ c ∈ wG, Cls K (He.ga K c) ∧ Meth K (He.ga K c) "is_latest" (He.ma K (He.ga K "Watch") "is_latest") := fun c hc => by
  obtain rfl := List.mem_singleton.mp hc
  exact ⟨T.jc, T.mH⟩
abbrev jR : List Str := ["Watch"]
theorem CP (T : Top w K mg) : ∀ c ∈ jR, Cls K (He.ga K c) ∧ Meth K (He.ga K c) "may_fail" (He.ma K (He.ga K "Watch") "may_fail") := fun c hc => by
  obtain rfl := List.mem_singleton.mp hc
  exact ⟨T.jc, T.dB⟩
abbrev vO : List Str := ["Watch"]
theorem ae1 (T : Top w K mg) : ∀ c ∈ vO, Cls K (He.ga K c) ∧ Meth K (He.ga K c) "take" (He.ma K (He.ga K "Watch") "take") := fun c hc => by
  obtain rfl := List.mem_singleton.mp hc
  exact ⟨T.jc, T.cM⟩
abbrev Ru : List Str := ["Watch"]
theorem ae2 (T : Top w K mg) : ∀ c ∈ Ru, Cls K (He.ga K c) ∧ Meth K (He.ga K c) "hold" (He.ma K (He.ga K "Watch") "hold") := fun c hc => by
  obtain rfl := List.mem_singleton.mp hc
  exact ⟨T.jc, T.rW⟩
abbrev Ez : List Str := ["Watch"]
theorem ae3 (T : Top w K mg) : ∀ c ∈ Ez, Cls K (He.ga K c) ∧ Meth K (He.ga K c) "turn" (He.ma K (He.ga K "Watch") "turn") := fun c hc => by
  obtain rfl := List.mem_singleton.mp hc
  exact ⟨T.jc, T.gM⟩
abbrev uh : List Str := ["Watch"]
theorem adS (T : Top w K mg) : ∀ c ∈ uh, Cls K (He.ga K c) ∧ Meth K (He.ga K c) "go_on" (He.ma K (He.ga K "Watch") "go_on") := fun c hc => by
  obtain rfl := List.mem_singleton.mp hc
  exact ⟨T.jc, T.dY⟩
def adT : List (Str × He.Dv) := [("tell", .glo "ask_doing"), ("add", .glo "ask_doing"), ("failed", .glo "ask_doing"), ("rescued", .glo "ask_rescued"), ("got", .glo "ask_got"), ("given", .glo "ask_given"), ("masked", .glo "ask_masked"), ("opened", .glo "ask_opened"), ("last", .glo "ask_last"), ("lasted", .glo "ask_lasted"), ("begun", .glo "ask_begun"), ("kill", .glo "ask_kill"), ("late", .glo "ask_late"), ("nobody", .glo "ask_nobody"), ("landed", .glo "ask_landed"), ("ended", .glo "ask_ended")]
abbrev gD : Str → Option (Option D) := acs adT
theorem Ub (T : Top w K mg) : KTab K w "ASKING" gD := KTab.ofG T.aeF T.aeG T.aeH
def ae4 : List (Str × Tv) := [("tell", .tup [.str "task", .str "number"]), ("add", .tup [.str "task", .str "name", .str "number"]), ("failed", .tup [.str "task", .str "name"]), ("rescued", .tup [.str "task", .str "name"]), ("got", .tup [.str "task", .str "name"]), ("given", .tup [.str "task", .str "name"]), ("masked", .tup [.str "task"]), ("opened", .tup [.str "task"]), ("last", .tup [.str "task"]), ("lasted", .tup [.str "task"]), ("begun", .tup [.str "task", .str "task", .str "name", .str "task"]), ("kill", .tup [.str "doer", .str "task"]), ("late", .tup [.str "doer", .str "task"]), ("nobody", .tup [.str "task", .str "name"]), ("landed", .tup [.str "task"]), ("ended", .tup [.str "task", .str "outcome"])]
abbrev iH : Str → Option (Option D) := acz ae4
theorem aav (T : Top w K mg) : KTab K w "FORMS" iH := KTab.ofT T.agi T.agj T.agk
theorem uW (T : Top w K mg) : ∀ H al, Rp K H al (.tup [.str "on"]) (.ref (He.ga K "ON")) :=
  fun H al => .tup (GB.tupB_ok T.akY H) (.cons (.str _) .nil)
theorem vB (T : Top w K mg) : ∀ H al, Rp K H al (.tup [.str "killed"]) (.ref (He.ga K "KILLED")) :=
  fun H al => .tup (GB.tupB_ok T.aeD H) (.cons (.str _) .nil)
def Aa : List D → Option (List (Str × D))
  | [y] => some [("why", y)]
  | _ => none
theorem Sw : ∀ H al ds vs fs, bD K H al ds vs → Aa ds = some fs → ∃ gs, Vb vs = some gs ∧ eE K H al fs gs := by
  intro H al ds vs fs r e
  match ds, r, e with
  | [y], .cons q .nil, e =>
    cases e
    exact ⟨_, rfl, .cons q .nil⟩
theorem Ab (T : Top w K mg) : GB.Fp P w K mg base 1 "BadRun" ["self", "why"] ["why"] Vb := Gg T
def Ac : List D → Option (List (Str × D))
  | [G3, uH] => some [("at", G3), ("why", uH)]
  | _ => none
theorem adU : ∀ H al ds vs fs, bD K H al ds vs → Ac ds = some fs → ∃ gs, zY vs = some gs ∧ eE K H al fs gs := by
  intro H al ds vs fs r e
  match ds, r, e with
  | [G3, uH], .cons aij (.cons agF .nil), e =>
    cases e
    exact ⟨_, rfl, .cons aij (.cons agF .nil)⟩
theorem G7 (T : Top w K mg) : GB.Fp P w K mg base 2 "Broken" ["self", "at", "why"] ["at", "why"] zY := zE T
def jo (c : Str) : Option Bool := if c = "Broken" then some true else none
theorem Uc (T : Top w K mg) : ∀ c b, jo c = some b → PySem.W.exmOne K (.ref (He.ga K c)) (.ref (He.ga K "Broken")) = some b := by
  intro c b h
  unfold jo at h
  by_cases z0 : c = "Broken"
  · subst z0
    rw [if_pos rfl] at h
    cases h
    exact T.Gh
  rw [if_neg z0] at h
  cases h
theorem Ud {c : Str} (h : jo c = some true) : c = "Broken" := by
  unfold jo at h
  by_cases z0 : c = "Broken"
  · exact z0
  rw [if_neg z0] at h
  cases h
theorem yd (T : Top w K mg) : ∀ c, jo c = some true → ExcC K (He.ga K c) ∧ XfC K (He.ga K c) ∧ ∀ n ∈ (["at", "why"] : List Str), PySem.W.findIn K (.ref (He.ga K c)) n = some none := by
  intro c h
  cases Ud h
  obtain ⟨h1, h2, h3, h4⟩ := T.zE
  exact ⟨(GB.Vk h4).1, (GB.Vk h4).2, GB.Vj h3⟩
theorem aaw (T : Top w K mg) : ∀ c, jo c = some true → XfC K (He.ga K c) ∧ PySem.W.findIn K (.ref (He.ga K c)) "at" = some none := fun c h => ⟨(yd T c h).2.1, (yd T c h).2.2 _ (by simp)⟩
theorem Ue (T : Top w K mg) : ∀ c, jo c = some true → XfC K (He.ga K c) ∧ PySem.W.findIn K (.ref (He.ga K c)) "why" = some none := fun c h => ⟨(yd T c h).2.1, (yd T c h).2.2 _ (by simp)⟩
def pX : Mn := body 1 2
    (bU (jN (bx (qG wC) (ak (aq 0) (ak (eC (.ty "str")) aN))) (jN (qL Cp Cp (eC (.int (1))) (bx pP (ak (aq 0) aN)) (eC (.int (8)))) (bx allM (ak (uN (nZ (aq 0)) (gName 1) nY (aQ Cr (aq 1) (eC (.str "abcdefghijklmnopqrstuvwxyz"))) [1]) aN)))))
theorem jT (T : Top w K mg) : Fd P w K mg base (0 + 1) (He.ga K "is_name") "is_name" "is_name" nu [] [] ["thing"] pX := by
  refine Fd.of T.lB.dn zA (fun cdv A outer s H E hr hG => ?_)
  have ct : cC (cxOf (L2.CX P w) P w K mg base ["thing", "sign"] "is_name" (defScope nu) (He.ga K "is_name") cdv A outer s H E) (fun c d _ H' => E c d H') := cC.def_ hG
  obtain ⟨_, acC⟩ := T.ac2
  obtain ⟨_, acD⟩ := T.ac3
  exact (aX (s_ret (lE (mX (id := "isinstance") (Em (yW T)) (by rfl) T.mV (by decide +kernel) (aj (ao (i := 0) rfl (by walk_at "v")) (aj (Q5 (by rfl) T.afA (by decide +kernel)) aO))) (lE (abE aci aci aR (mX (id := "len") xX (by rfl) T.xP (by decide +kernel) (aj (ao (i := 0) rfl (by walk_at "v")) aO)) (adg (by rfl) acD)) (jh (mX (id := "all") (Qg rfl) (by rfl) T.Ho (by decide +kernel) (aj (Gu (own := [("sign", 1)]) rfl zA.nd (PB (ao (i := 0) rfl (by walk_at "v"))) (blkOk_by (N := ["thing", "sign"]) (sc := defScope nu) (by decide +kernel)) (fun _ _ _ _ _ => (mY (i := 1) (by decide) zA.nd rfl (by walk_at "w"))) (fun _ _ _ _ _ => wg) (fun _ _ _ _ _ => (dR aeP (ao (i := 1) rfl (by walk_at "v")) (ahL (by rfl) acC) (by rfl)))) aO)))))))
def sS : Mn := body 3 3
    (bU (jN (bx (qG wC) (ak (aq 0) (ak (eC (.ty "int")) aN))) (jN (pN (bx (qG wC) (ak (aq 0) (ak (eC (.ty "bool")) aN)))) (qL Cp Cp (aq 1) (aq 0) (aq 2)))))
theorem qu (T : Top w K mg) : Fd P w K mg base (0 + 1) (He.ga K "is_whole") "is_whole" "is_whole" nJ [] [] ["thing", "least", "most"] sS := by
  refine Fd.of T.rR.dn aaY (fun cdv A outer s H E hr hG => ?_)
  have ct : cC (cxOf (L2.CX P w) P w K mg base ["thing", "least", "most"] "is_whole" (defScope nJ) (He.ga K "is_whole") cdv A outer s H E) (fun c d _ H' => E c d H') := cC.def_ hG
  exact (aX (s_ret (lE (mX (id := "isinstance") (Em (yW T)) (by rfl) T.mV (by decide +kernel) (aj (ao (i := 0) rfl (by walk_at "v")) (aj (Q5 (by rfl) T.mJ (by decide +kernel)) aO))) (lE (uE (mX (id := "isinstance") (Em (yW T)) (by rfl) T.mV (by decide +kernel) (aj (ao (i := 0) rfl (by walk_at "v")) (aj (Q5 (by rfl) T.ahr (by decide +kernel)) aO)))) (jh (abE aci aci (ao (i := 1) rfl (by walk_at "v")) (ao (i := 0) rfl (by walk_at "v")) (ao (i := 2) rfl (by walk_at "v"))))))))
def oR : Mn := body 1 1
    (bU (bf 1 2 (fun ds => sS (GB.picked (ds ++ []) [0, 1, 2])) (ak (aq 0) aN) (ak (aQ iK (eC (.int (1))) (aQ tX (eC (.int (10))) (eC (.int (40))))) (ak (aQ iK (aQ tX (eC (.int (10))) (eC (.int (40)))) (eC (.int (1)))) aN))))
theorem jr (T : Top w K mg) : Fd P w K mg base (1 + 1) (He.ga K "is_number") "is_number" "is_number" lK [] [] ["thing"] oR := by
  refine Fd.of T.lW.dn Vr (fun cdv A outer s H E hr hG => ?_)
  have ct : cC (cxOf (L2.CX P w) P w K mg base ["thing"] "is_number" (defScope lK) (He.ga K "is_number") cdv A outer s H E) (fun c d _ H' => E c d H') := cC.def_ hG
  have qu := qu (P := P) (base := base) T
  have yw : Room 1 _ := hr.mono (by first | decide | omega)
  exact (aX (s_ret (abu (qu.calls yw ct (Bd.all (n := 1) (ks := ["least", "most"]) (is := [0, 1, 2]) (fun _ _ _ _ _ _ us ws h1 h2 => match us, ws, h1, h2 with | [_], [_, _], _, _ => rfl)) (fun _ _ => .nil)) (by rfl) T.rR.gl T.rR.kp (aj (ao (i := 0) rfl (by walk_at "v")) aO) (Pu (fL ach aR (fL PN aR aR)) (Pu (fL ach (fL PN aR aR) aR) afG)))))
def ni : Mn := body 1 1
    (aZ (cX (Ca (dh (aQ cP (aq 0) (bx bM (ak (eC (.str "done")) aN)))) (dh (aQ cP (aq 0) (bx bM (ak (eC (.str "killed")) aN))))) (bU (eC (.bl true))) cD)
    (bU (jN (bx (qG wC) (ak (aq 0) (ak (eC (.ty "tuple")) aN))) (jN (aQ cP (bx pP (ak (aq 0) aN)) (eC (.int (2)))) (jN (aQ cP (aQ bH (aq 0) (eC (.int (0)))) (eC (.str "failed"))) (bf 1 0 pX (ak (aQ bH (aq 0) (eC (.int (1)))) aN) aN))))))
theorem wH (T : Top w K mg) : Fd P w K mg base (1 + 1) (He.ga K "is_outcome") "is_outcome" "is_outcome" jX [] [] ["thing"] ni := by
  refine Fd.of T.vW.dn Tq (fun cdv A outer s H E hr hG => ?_)
  have ct : cC (cxOf (L2.CX P w) P w K mg base ["thing"] "is_outcome" (defScope jX) (He.ga K "is_outcome") cdv A outer s H E) (fun c d _ H' => E c d H') := cC.def_ hG
  have jT := jT (P := P) (base := base) T
  have qC : Room 1 _ := hr.mono (by first | decide | omega)
  exact (aV (s_if (PW.pt (ab5 (bQ (cH hr.units) (ao (i := 0) rfl (by walk_at "v")) (bZ (aj aP aO)) (nomark _)) (ab4 (bQ (cH hr.units) (ao (i := 0) rfl (by walk_at "v")) (bZ (aj aP aO)) (nomark _))))) (aX (s_ret rY)) bY)
    (aX (s_ret (lE (mX (id := "isinstance") (Em (yW T)) (by rfl) T.mV (by decide +kernel) (aj (ao (i := 0) rfl (by walk_at "v")) (aj (Q5 (by rfl) T.abp (by decide +kernel)) aO))) (lE (dR (cH hr.units) (mX (id := "len") xX (by rfl) T.xP (by decide +kernel) (aj (ao (i := 0) rfl (by walk_at "v")) aO)) aR (nomark _)) (lE (dR (cH hr.units) (aW hr.units (ao (i := 0) rfl (by walk_at "v")) aR (fun _ _ => rfl)) aP (nomark _)) (jh (bV (jT.bK qC ct (Bd.all (n := 1) (ks := []) (is := List.range 1) (fun _ _ _ _ _ _ us ws h1 h2 => match us, ws, h1, h2 with | [_], [], _, _ => rfl))) (by rfl) T.lB.gl T.lB.kp (aj (aW hr.units (ao (i := 0) rfl (by walk_at "v")) aR (fun _ _ => rfl)) aO)))))))))
def vC : Mn := body 1 1
    (bU (jN (bf 1 0 oR (ak (aq 0) aN) aN) (aQ Fw (aq 0) (eC (.int (0))))))
theorem Ad (T : Top w K mg) : Fd P w K mg base (2 + 1) (He.ga K "is_count") "is_count" "is_count" nM [] [] ["thing"] vC := by
  refine Fd.of T.zB.dn aaZ (fun cdv A outer s H E hr hG => ?_)
  have ct : cC (cxOf (L2.CX P w) P w K mg base ["thing"] "is_count" (defScope nM) (He.ga K "is_count") cdv A outer s H E) (fun c d _ H' => E c d H') := cC.def_ hG
  have jr := jr (P := P) (base := base) T
  have pY : Room 2 _ := hr.mono (by first | decide | omega)
  exact (aX (s_ret (lE (bV (jr.bK pY ct (Bd.all (n := 1) (ks := []) (is := List.range 1) (fun _ _ _ _ _ _ us ws h1 h2 => match us, ws, h1, h2 with | [_], [], _, _ => rfl))) (by rfl) T.lW.gl T.lW.kp (aj (ao (i := 0) rfl (by walk_at "v")) aO)) (jh (dR aeO (ao (i := 0) rfl (by walk_at "v")) aR (nomark _))))))
def jd : Mn := body 2 2
    (aZ (cX (dh (aQ cP (aq 0) (eC (.str "name")))) (bU (bf 1 0 pX (ak (aq 1) aN) aN)) cD)
    (aZ (cX (dh (aQ cP (aq 0) (eC (.str "number")))) (bU (bf 1 0 oR (ak (aq 1) aN) aN)) cD)
    (aZ (cX (dh (aQ cP (aq 0) (eC (.str "outcome")))) (bU (bf 1 0 ni (ak (aq 1) aN) aN)) cD)
    (aZ (cX (u5 (dh (aQ cP (aq 0) (eC (.str "doer")))) (dh (aQ Az (aq 1) (eC .non)))) (bU (eC (.bl true))) cD)
    (bU (bf 1 0 vC (ak (aq 1) aN) aN))))))
theorem CQ (T : Top w K mg) : Fd P w K mg base (3 + 1) (He.ga K "is_part") "is_part" "is_part" pF [] [] ["kind", "thing"] jd := by
  refine Fd.of T.Bq.dn ab0 (fun cdv A outer s H E hr hG => ?_)
  have ct : cC (cxOf (L2.CX P w) P w K mg base ["kind", "thing"] "is_part" (defScope pF) (He.ga K "is_part") cdv A outer s H E) (fun c d _ H' => E c d H') := cC.def_ hG
  have Ad := Ad (P := P) (base := base) T
  have abd : Room 3 _ := hr.mono (by first | decide | omega)
  have wH := wH (P := P) (base := base) T
  have Ug : Room 2 _ := hr.mono (by first | decide | omega)
  have jr := jr (P := P) (base := base) T
  have pY : Room 2 _ := hr.mono (by first | decide | omega)
  have jT := jT (P := P) (base := base) T
  have qC : Room 1 _ := hr.mono (by first | decide | omega)
  exact (aV (s_if (bQ (cH hr.units) (ao (i := 0) rfl (by walk_at "v")) aP (nomark _)) (aX (s_ret (bV (jT.bK qC ct (Bd.all (n := 1) (ks := []) (is := List.range 1) (fun _ _ _ _ _ _ us ws h1 h2 => match us, ws, h1, h2 with | [_], [], _, _ => rfl))) (by rfl) T.lB.gl T.lB.kp (aj (ao (i := 1) rfl (by walk_at "v")) aO)))) bY)
    (aV (s_if (bQ (cH hr.units) (ao (i := 0) rfl (by walk_at "v")) aP (nomark _)) (aX (s_ret (bV (jr.bK pY ct (Bd.all (n := 1) (ks := []) (is := List.range 1) (fun _ _ _ _ _ _ us ws h1 h2 => match us, ws, h1, h2 with | [_], [], _, _ => rfl))) (by rfl) T.lW.gl T.lW.kp (aj (ao (i := 1) rfl (by walk_at "v")) aO)))) bY)
    (aV (s_if (bQ (cH hr.units) (ao (i := 0) rfl (by walk_at "v")) aP (nomark _)) (aX (s_ret (bV (wH.bK Ug ct (Bd.all (n := 1) (ks := []) (is := List.range 1) (fun _ _ _ _ _ _ us ws h1 h2 => match us, ws, h1, h2 with | [_], [], _, _ => rfl))) (by rfl) T.vW.gl T.vW.kp (aj (ao (i := 1) rfl (by walk_at "v")) aO)))) bY)
    (aV (s_if (PW.pt (Pr (bQ (cH hr.units) (ao (i := 0) rfl (by walk_at "v")) aP (nomark _)) (Ci (bQ aai (ao (i := 1) rfl (by walk_at "v")) jm (nomark _))))) (aX (s_ret rY)) bY)
    (aX (s_ret (bV (Ad.bK abd ct (Bd.all (n := 1) (ks := []) (is := List.range 1) (fun _ _ _ _ _ _ us ws h1 h2 => match us, ws, h1, h2 with | [_], [], _, _ => rfl))) (by rfl) T.zB.gl T.zB.kp (aj (ao (i := 1) rfl (by walk_at "v")) aO))))))))
def d7 : Mn := body 1 4
    (aZ (cX (Ca (rE (mW (bx (qG wC) (ak (aq 0) (ak (eC (.ty "tuple")) aN))))) (Ca (dh (aQ cP (bx pP (ak (aq 0) aN)) (eC (.int (0))))) (rE (mW (bx (qG wC) (ak (aQ bH (aq 0) (eC (.int (0)))) (ak (eC (.ty "str")) aN))))))) (bU (eC (.bl false))) cD)
    (aZ (bW (oE iH (aQ bH (aq 0) (eC (.int (0)))) (bx bM aN)) (gName 1))
    (aZ (cX (Ca (dh (aQ cP (aq 1) (bx bM aN))) (dh (aQ eU (bx pP (ak (aq 0) aN)) (aQ gY (bx pP (ak (aq 1) aN)) (eC (.int (1))))))) (bU (eC (.bl false))) cD)
    (bU (bx allM (ak (uN (wj Ro (ak (aq 1) (ak (Cu (aq 0) (qm (eC (.int (1)))) Qa) aN))) (lF 2 (gCons (gName 2) (gCons (gName 3) gNil))) nY (bf 2 0 jd (ak (aq 2) (ak (aq 3) aN)) aN) [2, 3]) aN))))))
theorem wI (T : Top w K mg) : Fd P w K mg base (4 + 1) (He.ga K "is_log_row") "is_log_row" "is_log_row" jw [] [] ["thing"] d7 := by
  refine Fd.of T.vX.dn oG (fun cdv A outer s H E hr hG => ?_)
  have ct : cC (cxOf (L2.CX P w) P w K mg base ["thing", "kinds", "kind", "part"] "is_log_row" (defScope jw) (He.ga K "is_log_row") cdv A outer s H E) (fun c d _ H' => E c d H') := cC.def_ hG
  have CQ := CQ (P := P) (base := base) T
  have acE : Room 4 _ := hr.mono (by first | decide | omega)
  exact (aV (s_if (PW.pt (ab5 (xV (qR (mX (id := "isinstance") (Em (yW T)) (by rfl) T.mV (by decide +kernel) (aj (ao (i := 0) rfl (by walk_at "v")) (aj (Q5 (by rfl) T.abp (by decide +kernel)) aO))) (by intro _; rfl))) (ab5 (bQ (cH hr.units) (mX (id := "len") xX (by rfl) T.xP (by decide +kernel) (aj (ao (i := 0) rfl (by walk_at "v")) aO)) aR (nomark _)) (ab4 (xV (qR (mX (id := "isinstance") (Em (yW T)) (by rfl) T.mV (by decide +kernel) (aj (aW hr.units (ao (i := 0) rfl (by walk_at "v")) aR (fun _ _ => rfl)) (aj (Q5 (by rfl) T.afA (by decide +kernel)) aO))) (by intro _; rfl))))))) (aX (s_ret rY)) bY)
    (aV (s_asg (ahW (aav T) (by rfl) T.agh (aW hr.units (ao (i := 0) rfl (by walk_at "v")) aR (fun _ _ => rfl)) (bZ aO) ⟨rfl, rfl, rfl, rfl⟩) (cI (i := 1) oG.nd rfl (by walk_at "w")))
    (aV (s_if (PW.pt (ab5 (bQ (cH hr.units) (ao (i := 1) rfl (by walk_at "v")) (bZ aO) (nomark _)) (ab4 (bQ (jg hr.units) (mX (id := "len") xX (by rfl) T.xP (by decide +kernel) (aj (ao (i := 0) rfl (by walk_at "v")) aO)) (fL mQ (mX (id := "len") xX (by rfl) T.xP (by decide +kernel) (aj (ao (i := 1) rfl (by walk_at "v")) aO)) aR) (nomark _))))) (aX (s_ret rY)) bY)
    (aX (s_ret (mX (id := "all") (Qg rfl) (by rfl) T.Ho (by decide +kernel) (aj (Gu (own := [("kind", 2), ("part", 3)]) rfl oG.nd (aib (by rfl) T.ajw (aj (ao (i := 1) rfl (by walk_at "v")) (aj (aeQ (ao (i := 0) rfl (by walk_at "v")) (Qc aR) ahU) aO))) (blkOk_by (N := ["thing", "kinds", "kind", "part"]) (sc := defScope jw) (by decide +kernel)) (fun _ _ _ _ _ => (aae rfl (tU (mY (i := 2) (by decide) oG.nd rfl (by walk_at "w")) (tU (mY (i := 3) (by decide) oG.nd rfl (by walk_at "w")) Q7)))) (fun _ _ _ _ _ => wg) (fun _ _ _ _ _ => (bV (CQ.bK acE ct.blk (Bd.all (n := 2) (ks := []) (is := List.range 2) (fun _ _ _ _ _ _ us ws h1 h2 => match us, ws, h1, h2 with | [_, _], [], _, _ => rfl))) (by rfl) T.Bq.gl T.Bq.kp (aj (ao (i := 2) rfl (by walk_at "v")) (aj (ao (i := 3) rfl (by walk_at "v")) aO))))) aO)))))))
def dI : Mn := body 1 1
    (aZ (cX (dh (aQ cP (aQ bH (aq 0) (eC (.int (0)))) (eC (.str "begun")))) (bU (aQ bH (aq 0) (eC (.int (2))))) cD)
    (bU (aQ bH (aq 0) (eC (.int (1))))))
theorem rJ (T : Top w K mg) : Fd P w K mg base (0 + 1) (He.ga K "doer_of") "doer_of" "doer_of" pG [] [] ["row"] dI := by
  refine Fd.of T.uL.dn ab1 (fun cdv A outer s H E hr hG => ?_)
  have ct : cC (cxOf (L2.CX P w) P w K mg base ["row"] "doer_of" (defScope pG) (He.ga K "doer_of") cdv A outer s H E) (fun c d _ H' => E c d H') := cC.def_ hG
  exact (aV (s_if (bQ (cH hr.units) (aW hr.units (ao (i := 0) rfl (by walk_at "v")) aR (fun _ _ => rfl)) aP (nomark _)) (aX (s_ret (aW hr.units (ao (i := 0) rfl (by walk_at "v")) aR (fun _ _ => rfl)))) bY)
    (aX (s_ret (aW hr.units (ao (i := 0) rfl (by walk_at "v")) aR (fun _ _ => rfl)))))
def sU : Mn := body 2 5
    (aZ (cX (rE (mW (bx allM (ak (pC (aq 0) (uN (itI (aq 0)) (lF 2 (gCons (gName 2) (gCons (gName 3) gNil))) nY (jN (bf 1 0 pX (ak (aq 2) aN) aN) (bf 1 2 (fun ds => sS (GB.picked (ds ++ []) [0, 1, 2])) (ak (aq 3) aN) (ak (eC (.int (1))) (ak (eC (.int (5))) aN)))) [2, 3])) aN)))) (Cm "BadRun" Aa (ak (eC (.str "things")) aN)) cD)
    (cX (rE (mW (bx allM (ak (pC (aq 1) (uN (itI (aq 1)) (lF 2 (gCons (gName 2) (gCons (gName 4) gNil))) nY (jN (bf 1 0 pX (ak (aq 2) aN) aN) (bf 1 0 oR (ak (aq 4) aN) aN)) [2, 4])) aN)))) (Cm "BadRun" Aa (ak (eC (.str "cells")) aN)) cD))
theorem wJ (T : Top w K mg) : Fd P w K mg base (2 + 1) (He.ga K "check_told") "check_told" "check_told" iT [] [] ["things", "cells"] sU := by
  refine Fd.of T.vY.dn jJ (fun cdv A outer s H E hr hG => ?_)
  have ct : cC (cxOf (L2.CX P w) P w K mg base ["things", "cells", "name", "many", "worth"] "check_told" (defScope iT) (He.ga K "check_told") cdv A outer s H E) (fun c d _ H' => E c d H') := cC.def_ hG
  have jr := jr (P := P) (base := base) T
  have pY : Room 2 _ := hr.mono (by first | decide | omega)
  have jT := jT (P := P) (base := base) T
  have qC : Room 1 _ := hr.mono (by first | decide | omega)
  have Ab := Ab (P := P) (base := base) T
  have Qu : Room 2 _ := hr.mono (by first | decide | omega)
  have qu := qu (P := P) (base := base) T
  have yw : Room 1 _ := hr.mono (by first | decide | omega)
  exact (aV (s_if (xV (qR (mX (id := "all") (Qg rfl) (by rfl) T.Ho (by decide +kernel) (aj (Qp (fd := (aq 0)) (Gu (own := [("name", 2), ("many", 3)]) rfl jJ.nd (abI (ao (i := 0) rfl (by walk_at "v"))) (blkOk_by (N := ["things", "cells", "name", "many", "worth"]) (sc := defScope iT) (by decide +kernel)) (fun _ _ _ _ _ => (aae rfl (tU (mY (i := 2) (by decide) jJ.nd rfl (by walk_at "w")) (tU (mY (i := 3) (by decide) jJ.nd rfl (by walk_at "w")) Q7)))) (fun _ _ _ _ _ => wg) (fun _ _ _ _ _ => (lE (bV (jT.bK qC ct.blk (Bd.all (n := 1) (ks := []) (is := List.range 1) (fun _ _ _ _ _ _ us ws h1 h2 => match us, ws, h1, h2 with | [_], [], _, _ => rfl))) (by rfl) T.lB.gl T.lB.kp (aj (ao (i := 2) rfl (by walk_at "v")) aO)) (jh (abu (qu.calls yw ct.blk (Bd.all (n := 1) (ks := ["least", "most"]) (is := [0, 1, 2]) (fun _ _ _ _ _ _ us ws h1 h2 => match us, ws, h1, h2 with | [_], [_, _], _, _ => rfl)) (fun _ _ => .nil)) (by rfl) T.rR.gl T.rR.kp (aj (ao (i := 3) rfl (by walk_at "v")) aO) (Pu aR (Pu aR afG)))))))) aO)) (by intro _; rfl))) (aX (Q9 Ab Qu rfl ct (by rfl) (aj aP aO) Sw)) bY)
    (aX (s_if (xV (qR (mX (id := "all") (Qg rfl) (by rfl) T.Ho (by decide +kernel) (aj (Qp (fd := (aq 1)) (Gu (own := [("name", 2), ("worth", 4)]) rfl jJ.nd (abI (ao (i := 1) rfl (by walk_at "v"))) (blkOk_by (N := ["things", "cells", "name", "many", "worth"]) (sc := defScope iT) (by decide +kernel)) (fun _ _ _ _ _ => (aae rfl (tU (mY (i := 2) (by decide) jJ.nd rfl (by walk_at "w")) (tU (mY (i := 4) (by decide) jJ.nd rfl (by walk_at "w")) Q7)))) (fun _ _ _ _ _ => wg) (fun _ _ _ _ _ => (lE (bV (jT.bK qC ct.blk (Bd.all (n := 1) (ks := []) (is := List.range 1) (fun _ _ _ _ _ _ us ws h1 h2 => match us, ws, h1, h2 with | [_], [], _, _ => rfl))) (by rfl) T.lB.gl T.lB.kp (aj (ao (i := 2) rfl (by walk_at "v")) aO)) (jh (bV (jr.bK pY ct.blk (Bd.all (n := 1) (ks := []) (is := List.range 1) (fun _ _ _ _ _ _ us ws h1 h2 => match us, ws, h1, h2 with | [_], [], _, _ => rfl))) (by rfl) T.lW.gl T.lW.kp (aj (ao (i := 4) rfl (by walk_at "v")) aO))))))) aO)) (by intro _; rfl))) (aX (Q9 Ab Qu rfl ct (by rfl) (aj aP aO) Sw)) bY)))
def d8 : Mn := body 1 3
    (aZ (u6 (nZ (aq 0)) (qT (lF 2 (gCons (gName 1) (gCons (gName 2) gNil)))) (cX (mW (aq 2)) (bU (aq 1)) cD))
    (bU (eC .non)))
theorem cG (T : Top w K mg) : Fd P w K mg base (0 + 1) (He.ga K "first_so") "first_so" "first_so" nO [] [] ["rows"] d8 := by
  refine Fd.of T.dD.dn yq (fun cdv A outer s H E hr hG => ?_)
  have ct : cC (cxOf (L2.CX P w) P w K mg base ["rows", "word", "is_so"] "first_so" (defScope nO) (He.ga K "first_so") cdv A outer s H E) (fun c d _ H' => E c d H') := cC.def_ hG
  exact (aV (acd ct.po rfl (PB (ao (i := 0) rfl (by walk_at "v"))) (ab9 (ab8 rfl (vI (cI (i := 1) yq.nd rfl (by walk_at "w")) (vI (cI (i := 2) yq.nd rfl (by walk_at "w")) Z8)))) (aX (s_if (qR (ao (i := 2) rfl (by walk_at "v")) (by intro _; rfl)) (aX (s_ret (ao (i := 1) rfl (by walk_at "v")))) bY)))
    (aX (s_ret jm)))
def jU : Mn := body 3 3
    (aZ (bO fG "beginner" (aq 0) (aq 1))
    (aZ (bO CK "called" (aq 0) (aq 2))
    (aZ (bO eV "ending" (aq 0) (eC .non))
    (aZ (acw (eC (.bl false)) (acv jW "owed" (aq 0)) (acv gA "shut" (aq 0)))
    (aZ (bO cZ "state" (aq 0) (eC (.tup [.str "on"])))
    (aZ (bO sO "had" (aq 0) (bx jA aN))
    (bO iw "lasts" (aq 0) (bx jA aN))))))))
theorem oU (T : Top w K mg) : Fd P w K mg base (0 + 1) (He.ma K (He.ga K "Seen") "__init__") "__init__" "Seen.__init__" lU [] [] ["self", "beginner", "called"] jU := by
  refine Fd.of T.aa1 Vu (fun cdv A outer s H E hr hG => ?_)
  have ct : cC (cxOf (L2.CX P w) P w K mg base ["self", "beginner", "called"] "Seen.__init__" (defScope lU) (He.ma K (He.ga K "Seen") "__init__") cdv A outer s H E) (fun c d _ H' => E c d H') := cC.def_ hG
  exact (aV (gQ (cs := fG) (sJ T) (ao (i := 0) rfl (by walk_at "v")) (ao (i := 1) rfl (by walk_at "v")))
    (aV (gQ (cs := CK) (acA T) (ao (i := 0) rfl (by walk_at "v")) (ao (i := 2) rfl (by walk_at "v")))
    (aV (gQ (cs := eV) (qp T) (ao (i := 0) rfl (by walk_at "v")) jm)
    (aV (aic rY (afU (cs := jW) (wD T) (ao (i := 0) rfl (by walk_at "v"))) (afU (cs := gA) (pQ T) (ao (i := 0) rfl (by walk_at "v"))))
    (aV (gQ (cs := cZ) (iD T) (ao (i := 0) rfl (by walk_at "v")) (oJ (by rfl) T.Bv (uW T)))
    (aV (gQ (cs := sO) (Rr T) (ao (i := 0) rfl (by walk_at "v")) (Py aO))
    (aX (gQ (cs := iw) (rH T) (ao (i := 0) rfl (by walk_at "v")) (Py aO)))))))))
def kW : Mn := body 3 3
    (aZ (mK (bf 2 0 sU (ak (Ay (aq 1) sH) (ak sH aN)) aN))
    (aZ (bO G5 "sizes" (aq 0) (bx Qs (ak (Ay (aq 1) sH) aN)))
    (aZ (bO yX "raw" (aq 0) (aq 2))
    (aZ (bO cJ "tasks" (aq 0) (qW [((eC (.int (0))), (bf 2 0 (oh "Seen" fun ds => jU (GB.picked (ds ++ []) [0, 1, 2])) (ak (eC .non) (ak (eC .non) aN)) aN))]))
    (aZ (bO jQ "latest" (aq 0) sH)
    (aZ (bO pU "homes" (aq 0) sH)
    (aZ (bO jE "must" (aq 0) (eC .non))
    (bO iG "many" (aq 0) (eC (.int (0)))))))))))
theorem wL (T : Top w K mg) : Fd P w K mg base (3 + 1) (He.ma K (He.ga K "Watch") "__init__") "__init__" "Watch.__init__" jx [] [("things", .non), ("raw", .bl false)] ["self", "things", "raw"] kW := by
  refine Fd.of T.Vv TJ (fun cdv A outer s H E hr hG => ?_)
  have ct : cC (cxOf (L2.CX P w) P w K mg base ["self", "things", "raw"] "Watch.__init__" (defScope jx) (He.ma K (He.ga K "Watch") "__init__") cdv A outer s H E) (fun c d _ H' => E c d H') := cC.def_ hG
  have oU := oU (P := P) (base := base) T
  have aax : Room 1 _ := hr.mono (by first | decide | omega)
  have u9 : Room (1 + 1) _ := hr.mono (by first | decide | omega)
  have wJ := wJ (P := P) (base := base) T
  have Uh : Room 3 _ := hr.mono (by first | decide | omega)
  exact (aV (uP (bV (wJ.bK Uh ct (Bd.all (n := 2) (ks := []) (is := List.range 2) (fun _ _ _ _ _ _ us ws h1 h2 => match us, ws, h1, h2 with | [_, _], [], _, _ => rfl))) (by rfl) T.vY.gl T.vY.kp (aj (Z7 (ao (i := 1) rfl (by walk_at "v")) (jh Cv)) (aj Cv aO))))
    (aV (gQ (cs := G5) (adR T) (ao (i := 0) rfl (by walk_at "v")) (mO agy (by rfl) T.ahs (by decide +kernel) (aj (Z7 (ao (i := 1) rfl (by walk_at "v")) (jh Cv)) aO)))
    (aV (gQ (cs := yX) (abM T) (ao (i := 0) rfl (by walk_at "v")) (ao (i := 2) rfl (by walk_at "v")))
    (aV (gQ (cs := cJ) (gK T) (ao (i := 0) rfl (by walk_at "v")) (aam (ps := [((eC (.int (0))), (bf 2 0 (oh "Seen" fun ds => jU (GB.picked (ds ++ []) [0, 1, 2])) (ak (eC .non) (ak (eC .non) aN)) aN))]) (pps_cons aR (bV (oU.makes T.Hi u9 ct (Bd.all (n := 3) (ks := []) (is := [0, 1, 2]) (fun _ _ _ _ _ _ us ws h1 h2 => match us, ws, h1, h2 with | [_, _, _], [], _, _ => rfl)) (fun _ _ => .nil)) (by rfl) T.ac1 T.Hi.kp (aj jm (aj jm aO))) pps_nil)))
    (aV (gQ (cs := jQ) (z9 T) (ao (i := 0) rfl (by walk_at "v")) Cv)
    (aV (gQ (cs := pU) (CN T) (ao (i := 0) rfl (by walk_at "v")) Cv)
    (aV (gQ (cs := jE) (ug T) (ao (i := 0) rfl (by walk_at "v")) jm)
    (aX (gQ (cs := iG) (wF T) (ao (i := 0) rfl (by walk_at "v")) aR)))))))))
def jy : Mn := body 1 1
    (bU (aY iG "many" (aq 0)))
theorem wM (T : Top w K mg) : Fd P w K mg base (0 + 1) (He.ma K (He.ga K "Watch") "seen") "seen" "Watch.seen" j9 [] [] ["self"] jy := by
  refine Fd.of T.Vw TQ (fun cdv A outer s H E hr hG => ?_)
  have ct : cC (cxOf (L2.CX P w) P w K mg base ["self"] "Watch.seen" (defScope j9) (He.ma K (He.ga K "Watch") "seen") cdv A outer s H E) (fun c d _ H' => E c d H') := cC.def_ hG
  exact (aX (s_ret (cR (cs := iG) (wF T) (ao (i := 0) rfl (by walk_at "v")))))
def mH : Mn := body 2 2
    (bU (pC (aY jQ "latest" (aq 0)) (aie (aq 1) (aY jQ "latest" (aq 0)))))
theorem qH (T : Top w K mg) : Fd P w K mg base (0 + 1) (He.ma K (He.ga K "Watch") "is_latest") "is_latest" "Watch.is_latest" gH [] [] ["self", "number"] mH := by
  refine Fd.of T.Fo Bp (fun cdv A outer s H E hr hG => ?_)
  have ct : cC (cxOf (L2.CX P w) P w K mg base ["self", "number"] "Watch.is_latest" (defScope gH) (He.ma K (He.ga K "Watch") "is_latest") cdv A outer s H E) (fun c d _ H' => E c d H') := cC.def_ hG
  exact (aX (s_ret (Qp (fd := (aY jQ "latest" (aq 0))) (ajJ rfl hr.units (ao (i := 1) rfl (by walk_at "v")) (cR (cs := jQ) (z9 T) (ao (i := 0) rfl (by walk_at "v")))))))
def Hl : Mn := fun _ _ => .stuck
def dB : Mn := body 3 6
    (aZ (bW (aY cZ "state" (aQ bH (aY cJ "tasks" (aq 0)) (aq 1))) (gName 3))
    (aZ (cX (dh (aQ cP (aq 3) (eC (.tup [.str "killed"])))) (bU (eC (.bl false))) cD)
    (aZ (Ey (aY cJ "tasks" (aq 0)) (bW (uN (yV (aY cJ "tasks" (aq 0))) (gName 5) (dh (aQ cP (aY fG "beginner" (aq 5)) (aq 1))) (aY eV "ending" (aq 5)) [5]) (gName 4)))
    (bU (aQ inT (bx bM (ak (eC (.str "failed")) (ak (aq 2) aN))) (aQ gY (aq 4) (bx cW (ak (aq 3) aN))))))))
theorem jj (T : Top w K mg) : Fd P w K mg base (0 + 1) (He.ma K (He.ga K "Watch") "may_fail") "may_fail" "Watch.may_fail" fZ [] [] ["self", "number", "mark"] dB := by
  refine Fd.of T.Gf mD (fun cdv A outer s H E hr hG => ?_)
  have ct : cC (cxOf (L2.CX P w) P w K mg base ["self", "number", "mark", "state", "handed", "one"] "Watch.may_fail" (defScope fZ) (He.ma K (He.ga K "Watch") "may_fail") cdv A outer s H E) (fun c d _ H' => E c d H') := cC.def_ hG
  exact (aV (s_asg (cR (cs := cZ) (iD T) (aW hr.units (cR (cs := cJ) (gK T) (ao (i := 0) rfl (by walk_at "v"))) (ao (i := 1) rfl (by walk_at "v")) (fun _ _ => rfl))) (cI (i := 3) mD.nd rfl (by walk_at "w")))
    (aV (s_if (bQ (cH hr.units) (ao (i := 3) rfl (by walk_at "v")) (oJ (by rfl) T.zF (vB T)) (nomark _)) (aX (s_ret rY)) bY)
    (aV (aii (fd := (aY cJ "tasks" (aq 0))) (ago (i := 4) (own := [("one", 5)]) rfl mD.nd rfl rfl (sw_true rfl rfl rfl (by decide +kernel)) (adL (cR (cs := cJ) (gK T) (ao (i := 0) rfl (by walk_at "v")))) (blkOk_by (N := ["self", "number", "mark", "state", "handed", "one"]) (sc := defScope fZ) (by decide +kernel)) (fun _ _ _ _ _ => (mY (i := 5) (by decide) mD.nd rfl (by walk_at "w"))) (fun _ _ _ _ _ => (ahO (bQ (cH hr.units) (cR (cs := fG) (sJ T) (ao (i := 5) rfl (by walk_at "v"))) (ao (i := 1) rfl (by walk_at "v")) (nomark _)))) (fun _ _ _ _ _ => (cR (cs := eV) (qp T) (ao (i := 5) rfl (by walk_at "v"))))))
    (aX (s_ret (dR (ajK (aif hr)) (bZ (aj aP (aj (ao (i := 2) rfl (by walk_at "v")) aO))) (fL mQ (ao (i := 4) rfl (by walk_at "v")) (dX (aj (ao (i := 3) rfl (by walk_at "v")) aO))) (by rfl)))))))
def oV : Mn := body 3 3
    (bU (bf 1 0 d8 (ak (bx cW (ak (bx bM (ak (eC (.str "unwinds")) (ak (aQ eU (aY cZ "state" (aq 1)) (eC (.tup [.str "on"]))) aN))) aN)) aN) aN))
theorem yx (T : Top w K mg) : Fd P w K mg base (1 + 1) (He.ga K "ask_doing") "ask_doing" "ask_doing" lM [] [] ["watch", "task", "row"] oV := by
  refine Fd.of T.Fq.dn Vs (fun cdv A outer s H E hr hG => ?_)
  have ct : cC (cxOf (L2.CX P w) P w K mg base ["watch", "task", "row"] "ask_doing" (defScope lM) (He.ga K "ask_doing") cdv A outer s H E) (fun c d _ H' => E c d H') := cC.def_ hG
  have cG := cG (P := P) (base := base) T
  have dH : Room 1 _ := hr.mono (by first | decide | omega)
  exact (aX (s_ret (bV (cG.bK dH ct (Bd.all (n := 1) (ks := []) (is := List.range 1) (fun _ _ _ _ _ _ us ws h1 h2 => match us, ws, h1, h2 with | [_], [], _, _ => rfl))) (by rfl) T.dD.gl T.dD.kp (aj (dX (aj (bZ (aj aP (aj (dR (jg hr.units) (cR (cs := cZ) (iD T) (ao (i := 1) rfl (by walk_at "v"))) (oJ (by rfl) T.Bv (uW T)) (nomark _)) aO))) aO)) aO))))
def uI : Mn := body 3 5
    (aZ (bW (Ay (aQ eU (aQ bH (aq 2) (eC (.int (1)))) (bx pP (ak (aY cJ "tasks" (aq 0)) aN))) (aQ Fw (aQ bH (aq 2) (eC (.int (1)))) (eC (.int (12))))) (gName 3))
    (aZ (bW (aQ eU (qM "dict" getM (aY pU "homes" (aq 0)) (ak (aQ bH (aq 2) (eC (.int (4)))) (ak (aQ bH (aq 2) (eC (.int (2)))) aN))) (aQ bH (aq 2) (eC (.int (2))))) (gName 4))
    (bU (bf 1 0 d8 (ak (bx cW (ak (bx bM (ak (eC (.str "unwinds")) (ak (aQ eU (aY cZ "state" (aq 1)) (eC (.tup [.str "on"]))) aN))) (ak (bx bM (ak (eC (.str "number")) (ak (aq 3) aN))) (ak (bx bM (ak (eC (.str "home")) (ak (aq 4) aN))) aN)))) aN) aN))))
theorem yC (T : Top w K mg) : Fd P w K mg base (1 + 1) (He.ga K "ask_begun") "ask_begun" "ask_begun" lN [] [] ["watch", "task", "row"] uI := by
  refine Fd.of T.Ft.dn vR (fun cdv A outer s H E hr hG => ?_)
  have ct : cC (cxOf (L2.CX P w) P w K mg base ["watch", "task", "row", "wrong", "home"] "ask_begun" (defScope lN) (He.ga K "ask_begun") cdv A outer s H E) (fun c d _ H' => E c d H') := cC.def_ hG
  have cG := cG (P := P) (base := base) T
  have dH : Room 1 _ := hr.mono (by first | decide | omega)
  obtain ⟨_, Ui⟩ := T.VL
  exact (aV (s_asg (Z7 (dR (jg hr.units) (aW hr.units (ao (i := 2) rfl (by walk_at "v")) aR (fun _ _ => rfl)) (mX (id := "len") xX (by rfl) T.xP (by decide +kernel) (aj (cR (cs := cJ) (gK T) (ao (i := 0) rfl (by walk_at "v"))) aO)) (nomark _)) (jh (dR aeO (aW hr.units (ao (i := 2) rfl (by walk_at "v")) aR (fun _ _ => rfl)) (adg (by rfl) Ui) (nomark _)))) (cI (i := 3) vR.nd rfl (by walk_at "w")))
    (aV (s_asg (dR (jg hr.units) (acj PySem.F.plainAttrs_dict PySem.F.slot_dict_get PySem.F.type_dict_get (afP hr.units) (cR (cs := pU) (CN T) (ao (i := 0) rfl (by walk_at "v"))) (aj (aW hr.units (ao (i := 2) rfl (by walk_at "v")) aR (fun _ _ => rfl)) (aj (aW hr.units (ao (i := 2) rfl (by walk_at "v")) aR (fun _ _ => rfl)) aO))) (aW hr.units (ao (i := 2) rfl (by walk_at "v")) aR (fun _ _ => rfl)) (nomark _)) (cI (i := 4) vR.nd rfl (by walk_at "w")))
    (aX (s_ret (bV (cG.bK dH ct (Bd.all (n := 1) (ks := []) (is := List.range 1) (fun _ _ _ _ _ _ us ws h1 h2 => match us, ws, h1, h2 with | [_], [], _, _ => rfl))) (by rfl) T.dD.gl T.dD.kp (aj (dX (aj (bZ (aj aP (aj (dR (jg hr.units) (cR (cs := cZ) (iD T) (ao (i := 1) rfl (by walk_at "v"))) (oJ (by rfl) T.Bv (uW T)) (nomark _)) aO))) (aj (bZ (aj aP (aj (ao (i := 3) rfl (by walk_at "v")) aO))) (aj (bZ (aj aP (aj (ao (i := 4) rfl (by walk_at "v")) aO))) aO)))) aO))))))
def vD : Mn := body 3 7
    (aZ (bW (aQ bH (aY cJ "tasks" (aq 0)) (aQ bH (aq 2) (eC (.int (2))))) (gName 3))
    (aZ (bW (aQ tY (aY eV "ending" (aq 3)) (eC .non)) (gName 4))
    (aZ (cX (dh (aQ Az (aq 1) (eC .non))) (bU (bf 1 0 d8 (ak (bx cW (ak (bx bM (ak (eC (.str "over")) (ak (aq 4) aN))) aN)) aN) aN)) cD)
    (aZ (bW (aQ cP (aY fG "beginner" (aq 3)) (aQ bH (aq 2) (eC (.int (1))))) (gName 5))
    (aZ (bW (jN (aQ eU (aY cZ "state" (aq 1)) (eC (.tup [.str "on"]))) (pN (aq 5))) (gName 6))
    (bU (bf 1 0 d8 (ak (bx cW (ak (bx bM (ak (eC (.str "unwinds")) (ak (aq 6) aN))) (ak (bx bM (ak (eC (.str "who")) (ak (jN (pN (aq 5)) (pN (dZ wG "is_latest" 1 mH (aq 0) (ak (aQ bH (aq 2) (eC (.int (2)))) aN)))) aN))) (ak (bx bM (ak (eC (.str "over")) (ak (aq 4) aN))) aN)))) aN) aN)))))))
theorem Ae (T : Top w K mg) : Fd P w K mg base (1 + 1) (He.ga K "ask_kill") "ask_kill" "ask_kill" nQ [] [] ["watch", "task", "row"] vD := by
  refine Fd.of T.Hg.dn qK (fun cdv A outer s H E hr hG => ?_)
  have ct : cC (cxOf (L2.CX P w) P w K mg base ["watch", "task", "row", "other", "over", "own", "unwinds"] "ask_kill" (defScope nQ) (He.ga K "ask_kill") cdv A outer s H E) (fun c d _ H' => E c d H') := cC.def_ hG
  have cG := cG (P := P) (base := base) T
  have dH : Room 1 _ := hr.mono (by first | decide | omega)
  have qH := qH (P := P) (base := base) T
  have CT : Room 1 _ := hr.mono (by first | decide | omega)
  exact (aV (s_asg (aW hr.units (cR (cs := cJ) (gK T) (ao (i := 0) rfl (by walk_at "v"))) (aW hr.units (ao (i := 2) rfl (by walk_at "v")) aR (fun _ _ => rfl)) (fun _ _ => rfl)) (cI (i := 3) qK.nd rfl (by walk_at "w")))
    (aV (s_asg (dR El (cR (cs := eV) (qp T) (ao (i := 3) rfl (by walk_at "v"))) jm (nomark _)) (cI (i := 4) qK.nd rfl (by walk_at "w")))
    (aV (s_if (bQ aai (ao (i := 1) rfl (by walk_at "v")) jm (nomark _)) (aX (s_ret (bV (cG.bK dH ct (Bd.all (n := 1) (ks := []) (is := List.range 1) (fun _ _ _ _ _ _ us ws h1 h2 => match us, ws, h1, h2 with | [_], [], _, _ => rfl))) (by rfl) T.dD.gl T.dD.kp (aj (dX (aj (bZ (aj aP (aj (ao (i := 4) rfl (by walk_at "v")) aO))) aO)) aO)))) bY)
    (aV (s_asg (dR (cH hr.units) (cR (cs := fG) (sJ T) (ao (i := 3) rfl (by walk_at "v"))) (aW hr.units (ao (i := 2) rfl (by walk_at "v")) aR (fun _ _ => rfl)) (nomark _)) (cI (i := 5) qK.nd rfl (by walk_at "w")))
    (aV (s_asg (lE (dR (jg hr.units) (cR (cs := cZ) (iD T) (ao (i := 1) rfl (by walk_at "v"))) (oJ (by rfl) T.Bv (uW T)) (nomark _)) (jh (uE (ao (i := 5) rfl (by walk_at "v"))))) (cI (i := 6) qK.nd rfl (by walk_at "w")))
    (aX (s_ret (bV (cG.bK dH ct (Bd.all (n := 1) (ks := []) (is := List.range 1) (fun _ _ _ _ _ _ us ws h1 h2 => match us, ws, h1, h2 with | [_], [], _, _ => rfl))) (by rfl) T.dD.gl T.dD.kp (aj (dX (aj (bZ (aj aP (aj (ao (i := 6) rfl (by walk_at "v")) aO))) (aj (bZ (aj aP (aj (lE (uE (ao (i := 5) rfl (by walk_at "v"))) (jh (uE (sE (cs := wG) (Ua T) (qH.bK CT ct (Bd.all (n := 2) (ks := []) (is := List.range 2) (fun _ _ _ _ _ _ us ws h1 h2 => match us, ws, h1, h2 with | [_, _], [], _, _ => rfl))) (ao (i := 0) rfl (by walk_at "v")) (aj (aW hr.units (ao (i := 2) rfl (by walk_at "v")) aR (fun _ _ => rfl)) aO))))) aO))) (aj (bZ (aj aP (aj (ao (i := 4) rfl (by walk_at "v")) aO))) aO)))) aO)))))))))
def sV : Mn := body 3 3
    (bU (bf 1 0 d8 (ak (bx cW (ak (bx bM (ak (eC (.str "untold")) (ak (pN (aY jW "owed" (aq 1))) aN))) (ak (bx bM (ak (eC (.str "held")) (ak (aY gA "shut" (aq 1)) aN))) aN))) aN) aN))
theorem wN (T : Top w K mg) : Fd P w K mg base (1 + 1) (He.ga K "ask_landed") "ask_landed" "ask_landed" jY [] [] ["watch", "task", "row"] sV := by
  refine Fd.of T.Br.dn Tr (fun cdv A outer s H E hr hG => ?_)
  have ct : cC (cxOf (L2.CX P w) P w K mg base ["watch", "task", "row"] "ask_landed" (defScope jY) (He.ga K "ask_landed") cdv A outer s H E) (fun c d _ H' => E c d H') := cC.def_ hG
  have cG := cG (P := P) (base := base) T
  have dH : Room 1 _ := hr.mono (by first | decide | omega)
  exact (aX (s_ret (bV (cG.bK dH ct (Bd.all (n := 1) (ks := []) (is := List.range 1) (fun _ _ _ _ _ _ us ws h1 h2 => match us, ws, h1, h2 with | [_], [], _, _ => rfl))) (by rfl) T.dD.gl T.dD.kp (aj (dX (aj (bZ (aj aP (aj (uE (cR (cs := jW) (wD T) (ao (i := 1) rfl (by walk_at "v")))) aO))) (aj (bZ (aj aP (aj (cR (cs := gA) (pQ T) (ao (i := 1) rfl (by walk_at "v"))) aO))) aO))) aO))))
def sW : Mn := body 3 3
    (bU (bf 1 0 d8 (ak (bx cW (ak (bx bM (ak (eC (.str "held")) (ak (aY gA "shut" (aq 1)) aN))) aN)) aN) aN))
theorem wO (T : Top w K mg) : Fd P w K mg base (1 + 1) (He.ga K "ask_masked") "ask_masked" "ask_masked" jZ [] [] ["watch", "task", "row"] sW := by
  refine Fd.of T.Bs.dn Tt (fun cdv A outer s H E hr hG => ?_)
  have ct : cC (cxOf (L2.CX P w) P w K mg base ["watch", "task", "row"] "ask_masked" (defScope jZ) (He.ga K "ask_masked") cdv A outer s H E) (fun c d _ H' => E c d H') := cC.def_ hG
  have cG := cG (P := P) (base := base) T
  have dH : Room 1 _ := hr.mono (by first | decide | omega)
  exact (aX (s_ret (bV (cG.bK dH ct (Bd.all (n := 1) (ks := []) (is := List.range 1) (fun _ _ _ _ _ _ us ws h1 h2 => match us, ws, h1, h2 with | [_], [], _, _ => rfl))) (by rfl) T.dD.gl T.dD.kp (aj (dX (aj (bZ (aj aP (aj (cR (cs := gA) (pQ T) (ao (i := 1) rfl (by walk_at "v"))) aO))) aO)) aO))))
def sX : Mn := body 3 3
    (bU (bf 1 0 d8 (ak (bx cW (ak (bx bM (ak (eC (.str "open")) (ak (pN (aY gA "shut" (aq 1))) aN))) (ak (bx bM (ak (eC (.str "last")) (ak (aQ (neL eU) (aY iw "lasts" (aq 1)) (bx cW aN)) aN))) aN))) aN) aN))
theorem wQ (T : Top w K mg) : Fd P w K mg base (1 + 1) (He.ga K "ask_opened") "ask_opened" "ask_opened" j5 [] [] ["watch", "task", "row"] sX := by
  refine Fd.of T.Bt.dn Tw (fun cdv A outer s H E hr hG => ?_)
  have ct : cC (cxOf (L2.CX P w) P w K mg base ["watch", "task", "row"] "ask_opened" (defScope j5) (He.ga K "ask_opened") cdv A outer s H E) (fun c d _ H' => E c d H') := cC.def_ hG
  have cG := cG (P := P) (base := base) T
  have dH : Room 1 _ := hr.mono (by first | decide | omega)
  exact (aX (s_ret (bV (cG.bK dH ct (Bd.all (n := 1) (ks := []) (is := List.range 1) (fun _ _ _ _ _ _ us ws h1 h2 => match us, ws, h1, h2 with | [_], [], _, _ => rfl))) (by rfl) T.dD.gl T.dD.kp (aj (dX (aj (bZ (aj aP (aj (uE (cR (cs := gA) (pQ T) (ao (i := 1) rfl (by walk_at "v")))) aO))) (aj (bZ (aj aP (aj (dR (yc hr.units (jg hr.units)) (cR (cs := iw) (rH T) (ao (i := 1) rfl (by walk_at "v"))) (dX aO) (nomark _)) aO))) aO))) aO))))
def vG : Mn := body 3 3
    (bU (eC .non))
theorem Af (T : Top w K mg) : Fd P w K mg base (0 + 1) (He.ga K "ask_last") "ask_last" "ask_last" nU [] [] ["watch", "task", "row"] vG := by
  refine Fd.of T.Hh.dn aa0 (fun cdv A outer s H E hr hG => ?_)
  have ct : cC (cxOf (L2.CX P w) P w K mg base ["watch", "task", "row"] "ask_last" (defScope nU) (He.ga K "ask_last") cdv A outer s H E) (fun c d _ H' => E c d H') := cC.def_ hG
  exact (aX (s_ret jm))
def sY : Mn := body 3 3
    (bU (bf 1 0 d8 (ak (bx cW (ak (bx bM (ak (eC (.str "last")) (ak (aQ (uU cP) (aY iw "lasts" (aq 1)) (bx cW aN)) aN))) aN)) aN) aN))
theorem wR (T : Top w K mg) : Fd P w K mg base (1 + 1) (He.ga K "ask_lasted") "ask_lasted" "ask_lasted" j6 [] [] ["watch", "task", "row"] sY := by
  refine Fd.of T.Bu.dn Tz (fun cdv A outer s H E hr hG => ?_)
  have ct : cC (cxOf (L2.CX P w) P w K mg base ["watch", "task", "row"] "ask_lasted" (defScope j6) (He.ga K "ask_lasted") cdv A outer s H E) (fun c d _ H' => E c d H') := cC.def_ hG
  have cG := cG (P := P) (base := base) T
  have dH : Room 1 _ := hr.mono (by first | decide | omega)
  exact (aX (s_ret (bV (cG.bK dH ct (Bd.all (n := 1) (ks := []) (is := List.range 1) (fun _ _ _ _ _ _ us ws h1 h2 => match us, ws, h1, h2 with | [_], [], _, _ => rfl))) (by rfl) T.dD.gl T.dD.kp (aj (dX (aj (bZ (aj aP (aj (dR (uG hr.units (cH hr.units)) (cR (cs := iw) (rH T) (ao (i := 1) rfl (by walk_at "v"))) (dX aO) (nomark _)) aO))) aO)) aO))))
def qX : Mn := body 3 3
    (bU (bf 1 0 d8 (ak (bx cW (ak (bx bM (ak (eC (.str "mark")) (ak (pN (dZ jR "may_fail" 2 dB (aq 0) (ak (aQ bH (aq 2) (eC (.int (1)))) (ak (aQ bH (aq 2) (eC (.int (2)))) aN)))) aN))) aN)) aN) aN))
theorem vf (T : Top w K mg) : Fd P w K mg base (1 + 1) (He.ga K "ask_rescued") "ask_rescued" "ask_rescued" jG [] [] ["watch", "task", "row"] qX := by
  refine Fd.of T.Ax.dn QM (fun cdv A outer s H E hr hG => ?_)
  have ct : cC (cxOf (L2.CX P w) P w K mg base ["watch", "task", "row"] "ask_rescued" (defScope jG) (He.ga K "ask_rescued") cdv A outer s H E) (fun c d _ H' => E c d H') := cC.def_ hG
  have cG := cG (P := P) (base := base) T
  have dH : Room 1 _ := hr.mono (by first | decide | omega)
  have jj := jj (P := P) (base := base) T
  have qI : Room 1 _ := hr.mono (by first | decide | omega)
  exact (aX (s_ret (bV (cG.bK dH ct (Bd.all (n := 1) (ks := []) (is := List.range 1) (fun _ _ _ _ _ _ us ws h1 h2 => match us, ws, h1, h2 with | [_], [], _, _ => rfl))) (by rfl) T.dD.gl T.dD.kp (aj (dX (aj (bZ (aj aP (aj (uE (sE (cs := jR) (CP T) (jj.bK qI ct (Bd.all (n := 3) (ks := []) (is := List.range 3) (fun _ _ _ _ _ _ us ws h1 h2 => match us, ws, h1, h2 with | [_, _, _], [], _, _ => rfl))) (ao (i := 0) rfl (by walk_at "v")) (aj (aW hr.units (ao (i := 2) rfl (by walk_at "v")) aR (fun _ _ => rfl)) (aj (aW hr.units (ao (i := 2) rfl (by walk_at "v")) aR (fun _ _ => rfl)) aO)))) aO))) aO)) aO))))
def oW : Mn := body 3 8
    (aZ (bW (bx anyM (ak (pC (aY cJ "tasks" (aq 0)) (uN (yV (aY cJ "tasks" (aq 0))) (gName 7) nY (jN (aQ cP (aY fG "beginner" (aq 7)) (aQ bH (aq 2) (eC (.int (1))))) (aQ Az (aY eV "ending" (aq 7)) (eC .non))) [7])) aN)) (gName 3))
    (aZ (cX (dh (aQ cP (aQ bH (aQ bH (aq 2) (eC (.int (2)))) (eC (.int (0)))) (eC (.str "failed")))) (bW (dZ jR "may_fail" 2 dB (aq 0) (ak (aQ bH (aq 2) (eC (.int (1)))) (ak (aQ bH (aQ bH (aq 2) (eC (.int (2)))) (eC (.int (1)))) aN))) (gName 6)) (cX (dh (aQ cP (aQ bH (aq 2) (eC (.int (2)))) (eC (.tup [.str "killed"])))) (bW (aQ cP (aY cZ "state" (aq 1)) (eC (.tup [.str "killed"]))) (gName 6)) (bW (aQ cP (aY cZ "state" (aq 1)) (eC (.tup [.str "on"]))) (gName 6))))
    (aZ (bW (jN (aQ (neL eU) (aY sO "had" (aq 1)) (bx cW aN)) (pN (aY yX "raw" (aq 0)))) (gName 4))
    (aZ (bW (bx cW (ak (bx bM (ak (eC (.str "held")) (ak (aY gA "shut" (aq 1)) aN))) (ak (bx bM (ak (eC (.str "last")) (ak (aQ (neL eU) (aY iw "lasts" (aq 1)) (bx cW aN)) aN))) (ak (bx bM (ak (eC (.str "outlives")) (ak (aq 3) aN))) (ak (bx bM (ak (eC (.str "owed")) (ak (aY jW "owed" (aq 1)) aN))) aN))))) (gName 5))
    (bU (bf 1 0 d8 (ak (aQ gY (aq 5) (bx cW (ak (bx bM (ak (eC (.str "keeps")) (ak (aq 4) aN))) (ak (bx bM (ak (eC (.str "outcome")) (ak (pN (aq 6)) aN))) aN)))) aN) aN))))))
theorem yD (T : Top w K mg) : Fd P w K mg base (1 + 1) (He.ga K "ask_ended") "ask_ended" "ask_ended" jP [] [] ["watch", "task", "row"] oW := by
  refine Fd.of T.Fv.dn iU (fun cdv A outer s H E hr hG => ?_)
  have ct : cC (cxOf (L2.CX P w) P w K mg base ["watch", "task", "row", "outlives", "keeps", "rows", "right", "one"] "ask_ended" (defScope jP) (He.ga K "ask_ended") cdv A outer s H E) (fun c d _ H' => E c d H') := cC.def_ hG
  have cG := cG (P := P) (base := base) T
  have dH : Room 1 _ := hr.mono (by first | decide | omega)
  have jj := jj (P := P) (base := base) T
  have qI : Room 1 _ := hr.mono (by first | decide | omega)
  exact (aV (s_asg (mX (id := "any") (ajA rfl) (by rfl) T.ajv (by decide +kernel) (aj (Qp (fd := (aY cJ "tasks" (aq 0))) (Gu (own := [("one", 7)]) rfl iU.nd (adL (cR (cs := cJ) (gK T) (ao (i := 0) rfl (by walk_at "v")))) (blkOk_by (N := ["watch", "task", "row", "outlives", "keeps", "rows", "right", "one"]) (sc := defScope jP) (by decide +kernel)) (fun _ _ _ _ _ => (mY (i := 7) (by decide) iU.nd rfl (by walk_at "w"))) (fun _ _ _ _ _ => wg) (fun _ _ _ _ _ => (lE (dR (cH hr.units) (cR (cs := fG) (sJ T) (ao (i := 7) rfl (by walk_at "v"))) (aW hr.units (ao (i := 2) rfl (by walk_at "v")) aR (fun _ _ => rfl)) (nomark _)) (jh (dR aai (cR (cs := eV) (qp T) (ao (i := 7) rfl (by walk_at "v"))) jm (nomark _))))))) aO)) (cI (i := 3) iU.nd rfl (by walk_at "w")))
    (aV (s_if (bQ (cH hr.units) (aW hr.units (aW hr.units (ao (i := 2) rfl (by walk_at "v")) aR (fun _ _ => rfl)) aR (fun _ _ => rfl)) aP (nomark _)) (aX (s_asg (sE (cs := jR) (CP T) (jj.bK qI ct (Bd.all (n := 3) (ks := []) (is := List.range 3) (fun _ _ _ _ _ _ us ws h1 h2 => match us, ws, h1, h2 with | [_, _, _], [], _, _ => rfl))) (ao (i := 0) rfl (by walk_at "v")) (aj (aW hr.units (ao (i := 2) rfl (by walk_at "v")) aR (fun _ _ => rfl)) (aj (aW hr.units (aW hr.units (ao (i := 2) rfl (by walk_at "v")) aR (fun _ _ => rfl)) aR (fun _ _ => rfl)) aO))) (cI (i := 6) iU.nd rfl (by walk_at "w")))) (aX (s_if (bQ (cH hr.units) (aW hr.units (ao (i := 2) rfl (by walk_at "v")) aR (fun _ _ => rfl)) (oJ (by rfl) T.zF (vB T)) (nomark _)) (aX (s_asg (dR (cH hr.units) (cR (cs := cZ) (iD T) (ao (i := 1) rfl (by walk_at "v"))) (oJ (by rfl) T.zF (vB T)) (nomark _)) (cI (i := 6) iU.nd rfl (by walk_at "w")))) (aX (s_asg (dR (cH hr.units) (cR (cs := cZ) (iD T) (ao (i := 1) rfl (by walk_at "v"))) (oJ (by rfl) T.Bv (uW T)) (nomark _)) (cI (i := 6) iU.nd rfl (by walk_at "w")))))))
    (aV (s_asg (lE (dR (yc hr.units (jg hr.units)) (cR (cs := sO) (Rr T) (ao (i := 1) rfl (by walk_at "v"))) (dX aO) (nomark _)) (jh (uE (cR (cs := yX) (abM T) (ao (i := 0) rfl (by walk_at "v")))))) (cI (i := 4) iU.nd rfl (by walk_at "w")))
    (aV (s_asg (dX (aj (bZ (aj aP (aj (cR (cs := gA) (pQ T) (ao (i := 1) rfl (by walk_at "v"))) aO))) (aj (bZ (aj aP (aj (dR (yc hr.units (jg hr.units)) (cR (cs := iw) (rH T) (ao (i := 1) rfl (by walk_at "v"))) (dX aO) (nomark _)) aO))) (aj (bZ (aj aP (aj (ao (i := 3) rfl (by walk_at "v")) aO))) (aj (bZ (aj aP (aj (cR (cs := jW) (wD T) (ao (i := 1) rfl (by walk_at "v"))) aO))) aO))))) (cI (i := 5) iU.nd rfl (by walk_at "w")))
    (aX (s_ret (bV (cG.bK dH ct (Bd.all (n := 1) (ks := []) (is := List.range 1) (fun _ _ _ _ _ _ us ws h1 h2 => match us, ws, h1, h2 with | [_], [], _, _ => rfl))) (by rfl) T.dD.gl T.dD.kp (aj (fL mQ (ao (i := 5) rfl (by walk_at "v")) (dX (aj (bZ (aj aP (aj (ao (i := 4) rfl (by walk_at "v")) aO))) (aj (bZ (aj aP (aj (uE (ao (i := 6) rfl (by walk_at "v"))) aO))) aO)))) aO))))))))
def cO : Mn := body 2 7
    (aZ (cX (rE (mW (bf 1 0 d7 (ak (aq 1) aN) aN))) (bU (eC (.str "row"))) cD)
    (aZ (cX (u5 (dh (aQ tY (aY jE "must" (aq 0)) (eC .non))) (dh (aQ eU (aq 1) (aY jE "must" (aq 0))))) (bU (eC (.str "turn"))) cD)
    (aZ (bW (bf 1 0 dI (ak (aq 1) aN) aN) (gName 2))
    (aZ (bW (RQ (dh (aQ inX (aQ bH (aq 1) (eC (.int (0)))) (bx bM (ak (eC (.str "kill")) (ak (eC (.str "late")) aN))))) (Cu (aq 1) (qm (eC (.int (2)))) Qa) (bx bM aN)) (gName 3))
    (aZ (cX (rE (mW (bx allM (ak (uN (nZ (aQ gY (bx bM (ak (aq 2) aN)) (aq 3))) (gName 6) nY (Ay (aQ Az (aq 6) (eC .non)) (aQ inX (aq 6) (aY cJ "tasks" (aq 0)))) [6]) aN)))) (bU (eC (.str "task"))) cD)
    (aZ (bW (eC .non) (gName 4))
    (aZ (cX (dh (aQ tY (aq 2) (eC .non))) (aZ (bW (aQ bH (aY cJ "tasks" (aq 0)) (aq 2)) (gName 4))
    (cX (dh (aQ tY (aY eV "ending" (aq 4)) (eC .non))) (bU (eC (.str "ended"))) cD)) cD)
    (aZ (bW (jL gD (aQ bH (aq 1) (eC (.int (0))))) (gName 5))
    (bU (fJ 5 3 (wA [("ask_doing", oV), ("ask_rescued", qX), ("ask_masked", sW), ("ask_opened", sX), ("ask_last", vG), ("ask_lasted", sY), ("ask_begun", uI), ("ask_kill", vD), ("ask_landed", sV), ("ask_ended", oW)]) (ak (aq 0) (ak (aq 4) (ak (aq 1) aN)))))))))))))
theorem uo (T : Top w K mg) : Fd P w K mg base (5 + 1) (He.ma K (He.ga K "Watch") "reason") "reason" "Watch.reason" iz [] [] ["self", "row"] cO := by
  refine Fd.of T.QX gJ (fun cdv A outer s H E hr hG => ?_)
  have ct : cC (cxOf (L2.CX P w) P w K mg base ["self", "row", "doer", "others", "task", "asking", "number"] "Watch.reason" (defScope iz) (He.ma K (He.ga K "Watch") "reason") cdv A outer s H E) (fun c d _ H' => E c d H') := cC.def_ hG
  have yD := yD (P := P) (base := base) T
  have aay : Room 2 _ := hr.mono (by first | decide | omega)
  have wN := wN (P := P) (base := base) T
  have Uj : Room 2 _ := hr.mono (by first | decide | omega)
  have Ae := Ae (P := P) (base := base) T
  have abe : Room 2 _ := hr.mono (by first | decide | omega)
  have yC := yC (P := P) (base := base) T
  have aaz : Room 2 _ := hr.mono (by first | decide | omega)
  have wR := wR (P := P) (base := base) T
  have Uk : Room 2 _ := hr.mono (by first | decide | omega)
  have Af := Af (P := P) (base := base) T
  have abf : Room 1 _ := hr.mono (by first | decide | omega)
  have wQ := wQ (P := P) (base := base) T
  have Ul : Room 2 _ := hr.mono (by first | decide | omega)
  have wO := wO (P := P) (base := base) T
  have Um : Room 2 _ := hr.mono (by first | decide | omega)
  have vf := vf (P := P) (base := base) T
  have Rv : Room 2 _ := hr.mono (by first | decide | omega)
  have yx := yx (P := P) (base := base) T
  have aaA : Room 2 _ := hr.mono (by first | decide | omega)
  have rJ := rJ (P := P) (base := base) T
  have Ag : Room 1 _ := hr.mono (by first | decide | omega)
  have wI := wI (P := P) (base := base) T
  have Uo : Room 5 _ := hr.mono (by first | decide | omega)
  exact (aV (s_if (xV (qR (bV (wI.bK Uo ct (Bd.all (n := 1) (ks := []) (is := List.range 1) (fun _ _ _ _ _ _ us ws h1 h2 => match us, ws, h1, h2 with | [_], [], _, _ => rfl))) (by rfl) T.vX.gl T.vX.kp (aj (ao (i := 1) rfl (by walk_at "v")) aO)) (by intro _; rfl))) (aX (s_ret aP)) bY)
    (aV (s_if (PW.pt (Pr (bQ El (cR (cs := jE) (ug T) (ao (i := 0) rfl (by walk_at "v"))) jm (nomark _)) (Ci (bQ (jg hr.units) (ao (i := 1) rfl (by walk_at "v")) (cR (cs := jE) (ug T) (ao (i := 0) rfl (by walk_at "v"))) (nomark _))))) (aX (s_ret aP)) bY)
    (aV (s_asg (bV (rJ.bK Ag ct (Bd.all (n := 1) (ks := []) (is := List.range 1) (fun _ _ _ _ _ _ us ws h1 h2 => match us, ws, h1, h2 with | [_], [], _, _ => rfl))) (by rfl) T.uL.gl T.uL.kp (aj (ao (i := 1) rfl (by walk_at "v")) aO)) (cI (i := 2) gJ.nd rfl (by walk_at "w")))
    (aV (s_asg (ala (bQ (vA hr.units) (aW hr.units (ao (i := 1) rfl (by walk_at "v")) aR (fun _ _ => rfl)) (bZ (aj aP (aj aP aO))) (by rfl)) (aeQ (ao (i := 1) rfl (by walk_at "v")) (Qc aR) ahU) (bZ aO)) (cI (i := 3) gJ.nd rfl (by walk_at "w")))
    (aV (s_if (xV (qR (mX (id := "all") (Qg rfl) (by rfl) T.Ho (by decide +kernel) (aj (Gu (own := [("number", 6)]) rfl gJ.nd (PB (fL mQ (bZ (aj (ao (i := 2) rfl (by walk_at "v")) aO)) (ao (i := 3) rfl (by walk_at "v")))) (blkOk_by (N := ["self", "row", "doer", "others", "task", "asking", "number"]) (sc := defScope iz) (by decide +kernel)) (fun _ _ _ _ _ => (mY (i := 6) (by decide) gJ.nd rfl (by walk_at "w"))) (fun _ _ _ _ _ => wg) (fun _ _ _ _ _ => (Z7 (dR aai (ao (i := 6) rfl (by walk_at "v")) jm (nomark _)) (jh (dR (vA hr.units) (ao (i := 6) rfl (by walk_at "v")) (cR (cs := cJ) (gK T) (ao (i := 0) rfl (by walk_at "v"))) (by rfl)))))) aO)) (by intro _; rfl))) (aX (s_ret aP)) bY)
    (aV (s_asg jm (cI (i := 4) gJ.nd rfl (by walk_at "w")))
    (aV (s_if (bQ El (ao (i := 2) rfl (by walk_at "v")) jm (nomark _)) (aV (s_asg (aW hr.units (cR (cs := cJ) (gK T) (ao (i := 0) rfl (by walk_at "v"))) (ao (i := 2) rfl (by walk_at "v")) (fun _ _ => rfl)) (cI (i := 4) gJ.nd rfl (by walk_at "w")))
    (aX (s_if (bQ El (cR (cs := eV) (qp T) (ao (i := 4) rfl (by walk_at "v"))) jm (nomark _)) (aX (s_ret aP)) bY))) bY)
    (aV (s_asg (ajB (Ub T) (by rfl) T.aeE (aW hr.units (ao (i := 1) rfl (by walk_at "v")) aR (fun _ _ => rfl)) (fun _ _ => rfl)) (cI (i := 5) gJ.nd rfl (by walk_at "w")))
    (aX (s_ret (agt (i := 5) (jO.get (jO.cons ⟨yx.bK aaA ct (Bd.all (n := 3) (ks := []) (is := List.range 3) (fun _ _ _ _ _ _ us ws h1 h2 => match us, ws, h1, h2 with | [_, _, _], [], _, _ => rfl)), T.Fq.kp⟩ (jO.cons ⟨vf.bK Rv ct (Bd.all (n := 3) (ks := []) (is := List.range 3) (fun _ _ _ _ _ _ us ws h1 h2 => match us, ws, h1, h2 with | [_, _, _], [], _, _ => rfl)), T.Ax.kp⟩ (jO.cons ⟨wO.bK Um ct (Bd.all (n := 3) (ks := []) (is := List.range 3) (fun _ _ _ _ _ _ us ws h1 h2 => match us, ws, h1, h2 with | [_, _, _], [], _, _ => rfl)), T.Bs.kp⟩ (jO.cons ⟨wQ.bK Ul ct (Bd.all (n := 3) (ks := []) (is := List.range 3) (fun _ _ _ _ _ _ us ws h1 h2 => match us, ws, h1, h2 with | [_, _, _], [], _, _ => rfl)), T.Bt.kp⟩ (jO.cons ⟨Af.bK abf ct (Bd.all (n := 3) (ks := []) (is := List.range 3) (fun _ _ _ _ _ _ us ws h1 h2 => match us, ws, h1, h2 with | [_, _, _], [], _, _ => rfl)), T.Hh.kp⟩ (jO.cons ⟨wR.bK Uk ct (Bd.all (n := 3) (ks := []) (is := List.range 3) (fun _ _ _ _ _ _ us ws h1 h2 => match us, ws, h1, h2 with | [_, _, _], [], _, _ => rfl)), T.Bu.kp⟩ (jO.cons ⟨yC.bK aaz ct (Bd.all (n := 3) (ks := []) (is := List.range 3) (fun _ _ _ _ _ _ us ws h1 h2 => match us, ws, h1, h2 with | [_, _, _], [], _, _ => rfl)), T.Ft.kp⟩ (jO.cons ⟨Ae.bK abe ct (Bd.all (n := 3) (ks := []) (is := List.range 3) (fun _ _ _ _ _ _ us ws h1 h2 => match us, ws, h1, h2 with | [_, _, _], [], _, _ => rfl)), T.Hg.kp⟩ (jO.cons ⟨wN.bK Uj ct (Bd.all (n := 3) (ks := []) (is := List.range 3) (fun _ _ _ _ _ _ us ws h1 h2 => match us, ws, h1, h2 with | [_, _, _], [], _, _ => rfl)), T.Br.kp⟩ (jO.cons ⟨yD.bK aay ct (Bd.all (n := 3) (ks := []) (is := List.range 3) (fun _ _ _ _ _ _ us ws h1 h2 => match us, ws, h1, h2 with | [_, _, _], [], _, _ => rfl)), T.Fv.kp⟩ jO.nil))))))))))) rfl (by walk_at "v") (aj (ao (i := 0) rfl (by walk_at "v")) (aj (ao (i := 4) rfl (by walk_at "v")) (aj (ao (i := 1) rfl (by walk_at "v")) aO))))))))))))))
def rW : Mn := fun _ _ => .stuck
theorem wU (T : Top w K mg) : Fd P w K mg base 1 (He.ma K (He.ga K "Watch") "hold") "hold" "Watch.hold" pJ [] [] ["self", "had", "row"] rW := Fd.stuck T.Vy
def gM : Mn := body 3 5
    (aZ (cX (dh (aQ cP (aQ bH (aq 2) (eC (.int (0)))) (eC (.str "last")))) (aZ (mK (qM "list" zP (aY iw "lasts" (aq 1)) (ak (bx bM (ak (aY cZ "state" (aq 1)) (ak (aY gA "shut" (aq 1)) aN))) aN)))
    (aZ (bO cZ "state" (aq 1) (eC (.tup [.str "on"])))
    (aZ (cX (rE (mW (aY gA "shut" (aq 1)))) (bO jE "must" (aq 0) (bx bM (ak (eC (.str "masked")) (ak (aQ bH (aq 2) (eC (.int (1)))) aN)))) cD)
    xU))) cD)
    (aZ (bW (aal "list" Rf (aY iw "lasts" (aq 1))) (qT (lF 2 (gCons (gName 3) (gCons (gName 4) gNil)))))
    (aZ (cX (dh (aQ eU (aq 3) (eC (.tup [.str "on"])))) (bO cZ "state" (aq 1) (aq 3)) cD)
    (cX (rE (mW (aq 4))) (bO jE "must" (aq 0) (bx bM (ak (eC (.str "opened")) (ak (aQ bH (aq 2) (eC (.int (1)))) aN)))) cD))))
theorem wV (T : Top w K mg) : Fd P w K mg base (0 + 1) (He.ma K (He.ga K "Watch") "turn") "turn" "Watch.turn" kJ [] [] ["self", "task", "row"] gM := by
  refine Fd.of T.Vz uZ (fun cdv A outer s H E hr hG => ?_)
  have ct : cC (cxOf (L2.CX P w) P w K mg base ["self", "task", "row", "state", "shut"] "Watch.turn" (defScope kJ) (He.ma K (He.ga K "Watch") "turn") cdv A outer s H E) (fun c d _ H' => E c d H') := cC.def_ hG
  exact (aV (s_if (bQ (cH hr.units) (aW hr.units (ao (i := 2) rfl (by walk_at "v")) aR (fun _ _ => rfl)) aP (nomark _)) (aV (uP (aaj (cR (cs := iw) (rH T) (ao (i := 1) rfl (by walk_at "v"))) (aj (bZ (aj (cR (cs := cZ) (iD T) (ao (i := 1) rfl (by walk_at "v"))) (aj (cR (cs := gA) (pQ T) (ao (i := 1) rfl (by walk_at "v"))) aO))) aO)))
    (aV (gQ (cs := cZ) (iD T) (ao (i := 1) rfl (by walk_at "v")) (oJ (by rfl) T.Bv (uW T)))
    (aV (s_if (xV (qR (cR (cs := gA) (pQ T) (ao (i := 1) rfl (by walk_at "v"))) (by intro _; rfl))) (aX (gQ (cs := jE) (ug T) (ao (i := 0) rfl (by walk_at "v")) (bZ (aj aP (aj (aW hr.units (ao (i := 2) rfl (by walk_at "v")) aR (fun _ _ => rfl)) aO))))) bY)
    (aX ahM)))) bY)
    (aV (s_asg (afN PySem.F.plainAttrs_list PySem.F.slot_list_pop PySem.F.type_list_pop afM (cR (cs := iw) (rH T) (ao (i := 1) rfl (by walk_at "v")))) (ab9 (ab8 rfl (vI (cI (i := 3) uZ.nd rfl (by walk_at "w")) (vI (cI (i := 4) uZ.nd rfl (by walk_at "w")) Z8)))))
    (aV (s_if (bQ (jg hr.units) (ao (i := 3) rfl (by walk_at "v")) (oJ (by rfl) T.Bv (uW T)) (nomark _)) (aX (gQ (cs := cZ) (iD T) (ao (i := 1) rfl (by walk_at "v")) (ao (i := 3) rfl (by walk_at "v")))) bY)
    (aX (s_if (xV (qR (ao (i := 4) rfl (by walk_at "v")) (by intro _; rfl))) (aX (gQ (cs := jE) (ug T) (ao (i := 0) rfl (by walk_at "v")) (bZ (aj aP (aj (aW hr.units (ao (i := 2) rfl (by walk_at "v")) aR (fun _ _ => rfl)) aO))))) bY)))))
def dY : Mn := body 3 3
    (cX (dh (aQ cP (aQ bH (aq 2) (eC (.int (0)))) (eC (.str "failed")))) (bO cZ "state" (aq 1) (bx bM (ak (eC (.str "failed")) (ak (aQ bH (aq 2) (eC (.int (2)))) aN)))) (cX (dh (aQ cP (aQ bH (aq 2) (eC (.int (0)))) (eC (.str "rescued")))) (bO cZ "state" (aq 1) (eC (.tup [.str "on"]))) (cX (dh (aQ cP (aQ bH (aq 2) (eC (.int (0)))) (eC (.str "landed")))) (aZ (bO jW "owed" (aq 1) (eC (.bl false)))
    (bO cZ "state" (aq 1) (eC (.tup [.str "killed"])))) (cX (dh (aQ cP (aQ bH (aq 2) (eC (.int (0)))) (eC (.str "ended")))) (bO eV "ending" (aq 1) (aQ bH (aq 2) (eC (.int (2))))) cD))))
theorem vg (T : Top w K mg) : Fd P w K mg base (0 + 1) (He.ma K (He.ga K "Watch") "go_on") "go_on" "Watch.go_on" jH [] [] ["self", "task", "row"] dY := by
  refine Fd.of T.TX QT (fun cdv A outer s H E hr hG => ?_)
  have ct : cC (cxOf (L2.CX P w) P w K mg base ["self", "task", "row"] "Watch.go_on" (defScope jH) (He.ma K (He.ga K "Watch") "go_on") cdv A outer s H E) (fun c d _ H' => E c d H') := cC.def_ hG
  exact (aX (s_if (bQ (cH hr.units) (aW hr.units (ao (i := 2) rfl (by walk_at "v")) aR (fun _ _ => rfl)) aP (nomark _)) (aX (gQ (cs := cZ) (iD T) (ao (i := 1) rfl (by walk_at "v")) (bZ (aj aP (aj (aW hr.units (ao (i := 2) rfl (by walk_at "v")) aR (fun _ _ => rfl)) aO))))) (aX (s_if (bQ (cH hr.units) (aW hr.units (ao (i := 2) rfl (by walk_at "v")) aR (fun _ _ => rfl)) aP (nomark _)) (aX (gQ (cs := cZ) (iD T) (ao (i := 1) rfl (by walk_at "v")) (oJ (by rfl) T.Bv (uW T)))) (aX (s_if (bQ (cH hr.units) (aW hr.units (ao (i := 2) rfl (by walk_at "v")) aR (fun _ _ => rfl)) aP (nomark _)) (aV (gQ (cs := jW) (wD T) (ao (i := 1) rfl (by walk_at "v")) rY)
    (aX (gQ (cs := cZ) (iD T) (ao (i := 1) rfl (by walk_at "v")) (oJ (by rfl) T.zF (vB T))))) (aX (s_if (bQ (cH hr.units) (aW hr.units (ao (i := 2) rfl (by walk_at "v")) aR (fun _ _ => rfl)) aP (nomark _)) (aX (gQ (cs := eV) (qp T) (ao (i := 1) rfl (by walk_at "v")) (aW hr.units (ao (i := 2) rfl (by walk_at "v")) aR (fun _ _ => rfl)))) bY))))))))
def cM : Mn := body 2 3
    (aZ (bO jE "must" (aq 0) (eC .non))
    (aZ (bW (bf 1 0 dI (ak (aq 1) aN) aN) (gName 2))
    (cX (dh (aQ cP (aQ bH (aq 1) (eC (.int (0)))) (eC (.str "begun")))) (aZ (bW (bf 2 0 (oh "Seen" fun ds => jU (GB.picked (ds ++ []) [0, 1, 2])) (ak (aq 2) (ak (aQ bH (aq 1) (eC (.int (3)))) aN)) aN) (iV (aY cJ "tasks" (aq 0)) (aQ bH (aq 1) (eC (.int (1))))))
    (aZ (bW (aQ bH (aq 1) (eC (.int (1)))) (iV (aY jQ "latest" (aq 0)) (aQ bH (aq 1) (eC (.int (3))))))
    (bW (aq 2) (iV (aY pU "homes" (aq 0)) (aQ bH (aq 1) (eC (.int (4)))))))) (cX (dh (aQ cP (aQ bH (aq 1) (eC (.int (0)))) (eC (.str "kill")))) (bO jW "owed" (aQ bH (aY cJ "tasks" (aq 0)) (aQ bH (aq 1) (eC (.int (2))))) (eC (.bl true))) (cX (dh (aQ inX (aQ bH (aq 1) (eC (.int (0)))) (bx bM (ak (eC (.str "got")) (ak (eC (.str "given")) aN))))) (mK (dZ Ru "hold" 2 rW (aq 0) (ak (aY sO "had" (aQ bH (aY cJ "tasks" (aq 0)) (aq 2))) (ak (aq 1) aN)))) (cX (dh (aQ inX (aQ bH (aq 1) (eC (.int (0)))) (bx bM (ak (eC (.str "last")) (ak (eC (.str "lasted")) aN))))) (mK (dZ Ez "turn" 2 gM (aq 0) (ak (aQ bH (aY cJ "tasks" (aq 0)) (aq 2)) (ak (aq 1) aN)))) (cX (dh (aQ inX (aQ bH (aq 1) (eC (.int (0)))) (bx bM (ak (eC (.str "masked")) (ak (eC (.str "opened")) aN))))) (bO gA "shut" (aQ bH (aY cJ "tasks" (aq 0)) (aq 2)) (aQ cP (aQ bH (aq 1) (eC (.int (0)))) (eC (.str "masked")))) (cX (dh (aQ tY (aq 2) (eC .non))) (mK (dZ uh "go_on" 2 dY (aq 0) (ak (aQ bH (aY cJ "tasks" (aq 0)) (aq 2)) (ak (aq 1) aN)))) cD))))))))
theorem wW (T : Top w K mg) : Fd P w K mg base (2 + 1) (He.ma K (He.ga K "Watch") "take") "take" "Watch.take" kh [] [] ["self", "row"] cM := by
  refine Fd.of T.Vx Av (fun cdv A outer s H E hr hG => ?_)
  have ct : cC (cxOf (L2.CX P w) P w K mg base ["self", "row", "doer"] "Watch.take" (defScope kh) (He.ma K (He.ga K "Watch") "take") cdv A outer s H E) (fun c d _ H' => E c d H') := cC.def_ hG
  have oU := oU (P := P) (base := base) T
  have aax : Room 1 _ := hr.mono (by first | decide | omega)
  have u9 : Room (1 + 1) _ := hr.mono (by first | decide | omega)
  have wU := wU (P := P) (base := base) T
  have Uq : Room 1 _ := hr.mono (by first | decide | omega)
  have wV := wV (P := P) (base := base) T
  have Ur : Room 1 _ := hr.mono (by first | decide | omega)
  have vg := vg (P := P) (base := base) T
  have Rx : Room 1 _ := hr.mono (by first | decide | omega)
  have rJ := rJ (P := P) (base := base) T
  have Ag : Room 1 _ := hr.mono (by first | decide | omega)
  exact (aV (gQ (cs := jE) (ug T) (ao (i := 0) rfl (by walk_at "v")) jm)
    (aV (s_asg (bV (rJ.bK Ag ct (Bd.all (n := 1) (ks := []) (is := List.range 1) (fun _ _ _ _ _ _ us ws h1 h2 => match us, ws, h1, h2 with | [_], [], _, _ => rfl))) (by rfl) T.uL.gl T.uL.kp (aj (ao (i := 1) rfl (by walk_at "v")) aO)) (cI (i := 2) Av.nd rfl (by walk_at "w")))
    (aX (s_if (bQ (cH hr.units) (aW hr.units (ao (i := 1) rfl (by walk_at "v")) aR (fun _ _ => rfl)) aP (nomark _)) (aV (s_asg (bV (oU.makes T.Hi u9 ct (Bd.all (n := 3) (ks := []) (is := [0, 1, 2]) (fun _ _ _ _ _ _ us ws h1 h2 => match us, ws, h1, h2 with | [_, _, _], [], _, _ => rfl)) (fun _ _ => .nil)) (by rfl) T.ac1 T.Hi.kp (aj (ao (i := 2) rfl (by walk_at "v")) (aj (aW hr.units (ao (i := 1) rfl (by walk_at "v")) aR (fun _ _ => rfl)) aO))) (jB hr.units (cR (cs := cJ) (gK T) (ao (i := 0) rfl (by walk_at "v"))) (aW hr.units (ao (i := 1) rfl (by walk_at "v")) aR (fun _ _ => rfl))))
    (aV (s_asg (aW hr.units (ao (i := 1) rfl (by walk_at "v")) aR (fun _ _ => rfl)) (jB hr.units (cR (cs := jQ) (z9 T) (ao (i := 0) rfl (by walk_at "v"))) (aW hr.units (ao (i := 1) rfl (by walk_at "v")) aR (fun _ _ => rfl))))
    (aX (s_asg (ao (i := 2) rfl (by walk_at "v")) (jB hr.units (cR (cs := pU) (CN T) (ao (i := 0) rfl (by walk_at "v"))) (aW hr.units (ao (i := 1) rfl (by walk_at "v")) aR (fun _ _ => rfl))))))) (aX (s_if (bQ (cH hr.units) (aW hr.units (ao (i := 1) rfl (by walk_at "v")) aR (fun _ _ => rfl)) aP (nomark _)) (aX (gQ (cs := jW) (wD T) (aW hr.units (cR (cs := cJ) (gK T) (ao (i := 0) rfl (by walk_at "v"))) (aW hr.units (ao (i := 1) rfl (by walk_at "v")) aR (fun _ _ => rfl)) (fun _ _ => rfl)) rY)) (aX (s_if (bQ (vA hr.units) (aW hr.units (ao (i := 1) rfl (by walk_at "v")) aR (fun _ _ => rfl)) (bZ (aj aP (aj aP aO))) (by rfl)) (aX (uP (sE (cs := Ru) (ae2 T) (wU.bK Uq ct (Bd.all (n := 3) (ks := []) (is := List.range 3) (fun _ _ _ _ _ _ us ws h1 h2 => match us, ws, h1, h2 with | [_, _, _], [], _, _ => rfl))) (ao (i := 0) rfl (by walk_at "v")) (aj (cR (cs := sO) (Rr T) (aW hr.units (cR (cs := cJ) (gK T) (ao (i := 0) rfl (by walk_at "v"))) (ao (i := 2) rfl (by walk_at "v")) (fun _ _ => rfl))) (aj (ao (i := 1) rfl (by walk_at "v")) aO))))) (aX (s_if (bQ (vA hr.units) (aW hr.units (ao (i := 1) rfl (by walk_at "v")) aR (fun _ _ => rfl)) (bZ (aj aP (aj aP aO))) (by rfl)) (aX (uP (sE (cs := Ez) (ae3 T) (wV.bK Ur ct (Bd.all (n := 3) (ks := []) (is := List.range 3) (fun _ _ _ _ _ _ us ws h1 h2 => match us, ws, h1, h2 with | [_, _, _], [], _, _ => rfl))) (ao (i := 0) rfl (by walk_at "v")) (aj (aW hr.units (cR (cs := cJ) (gK T) (ao (i := 0) rfl (by walk_at "v"))) (ao (i := 2) rfl (by walk_at "v")) (fun _ _ => rfl)) (aj (ao (i := 1) rfl (by walk_at "v")) aO))))) (aX (s_if (bQ (vA hr.units) (aW hr.units (ao (i := 1) rfl (by walk_at "v")) aR (fun _ _ => rfl)) (bZ (aj aP (aj aP aO))) (by rfl)) (aX (gQ (cs := gA) (pQ T) (aW hr.units (cR (cs := cJ) (gK T) (ao (i := 0) rfl (by walk_at "v"))) (ao (i := 2) rfl (by walk_at "v")) (fun _ _ => rfl)) (dR (cH hr.units) (aW hr.units (ao (i := 1) rfl (by walk_at "v")) aR (fun _ _ => rfl)) aP (nomark _)))) (aX (s_if (bQ El (ao (i := 2) rfl (by walk_at "v")) jm (nomark _)) (aX (uP (sE (cs := uh) (adS T) (vg.bK Rx ct (Bd.all (n := 3) (ks := []) (is := List.range 3) (fun _ _ _ _ _ _ us ws h1 h2 => match us, ws, h1, h2 with | [_, _, _], [], _, _ => rfl))) (ao (i := 0) rfl (by walk_at "v")) (aj (aW hr.units (cR (cs := cJ) (gK T) (ao (i := 0) rfl (by walk_at "v"))) (ao (i := 2) rfl (by walk_at "v")) (fun _ _ => rfl)) (aj (ao (i := 1) rfl (by walk_at "v")) aO))))) bY))))))))))))))
def dG : Mn := body 2 3
    (GZ (aZ (bW (dZ pW "reason" 1 cO (aq 0) (ak (aq 1) aN)) (gName 2))
    (aZ (cX (dh (aQ tY (aq 2) (eC .non))) (Cm "Broken" Ac (ak (aY iG "many" (aq 0)) (ak (aq 2) aN))) cD)
    (mK (dZ vO "take" 1 cM (aq 0) (ak (aq 1) aN))))) (oO iG "many" (aq 0) (eC (.int (1)))))
theorem yE (T : Top w K mg) : Fd P w K mg base (6 + 1) (He.ma K (He.ga K "Watch") "see") "see" "Watch.see" lV [] [] ["self", "row"] dG := by
  refine Fd.of T.aa2 Bo (fun cdv A outer s H E hr hG => ?_)
  have ct : cC (cxOf (L2.CX P w) P w K mg base ["self", "row", "why"] "Watch.see" (defScope lV) (He.ma K (He.ga K "Watch") "see") cdv A outer s H E) (fun c d _ H' => E c d H') := cC.def_ hG
  have wW := wW (P := P) (base := base) T
  have Us : Room 3 _ := hr.mono (by first | decide | omega)
  have G7 := G7 (P := P) (base := base) T
  have acF : Room 3 _ := hr.mono (by first | decide | omega)
  have uo := uo (P := P) (base := base) T
  have Qv : Room 6 _ := hr.mono (by first | decide | omega)
  exact (aX (ajI ct rfl rfl rfl (fun W pn xe ct2 => (aV (s_asg (sE (cs := pW) (acB T) (uo.bK Qv ct2 (Bd.all (n := 2) (ks := []) (is := List.range 2) (fun _ _ _ _ _ _ us ws h1 h2 => match us, ws, h1, h2 with | [_, _], [], _, _ => rfl))) (ao (i := 0) rfl (by walk_at "v")) (aj (ao (i := 1) rfl (by walk_at "v")) aO)) (cI (i := 2) Bo.nd rfl (by walk_at "w")))
    (aV (s_if (bQ El (ao (i := 2) rfl (by walk_at "v")) jm (nomark _)) (aX (Q9 G7 acF rfl ct2 (by rfl) (aj (cR (cs := iG) (wF T) (ao (i := 0) rfl (by walk_at "v"))) (aj (ao (i := 2) rfl (by walk_at "v")) aO)) adU)) bY)
    (aX (uP (sE (cs := vO) (ae1 T) (wW.bK Us ct2 (Bd.all (n := 2) (ks := []) (is := List.range 2) (fun _ _ _ _ _ _ us ws h1 h2 => match us, ws, h1, h2 with | [_, _], [], _, _ => rfl))) (ao (i := 0) rfl (by walk_at "v")) (aj (ao (i := 1) rfl (by walk_at "v")) aO))))))) (aX (aat (cs := iG) (wF T) (ao (i := 0) rfl (by walk_at "v")) aR)) (fun a pn => (aX (aat (cs := iG) (wF T) (ao (i := 0) rfl (by walk_at "v")) aR)))))
end
end dN
end
noncomputable section
namespace dN
open PySem PySem.Spec PyProof.Rows L2 PD
section
variable {P : Program} {w : World} {K : PySem.W.Frag} {mg : Str → Option Value} {base : Heap}
def lX : Mn := body 2 2
    (aZ (cX (dh (aQ R7 (aq 1) (bx pP (ak (aq 0) aN)))) (bU (aQ bH (aq 0) (aq 1))) cD)
    (bU (eC (.int (0)))))
theorem yF (T : Top w K mg) : Fd P w K mg base (0 + 1) (He.ga K "_law_cell_at") "_law_cell_at" "_law_cell_at" lO [] [] ["_law_script", "_law_k"] lX := by
  refine Fd.of T.yr.dn Vt (fun cdv A outer s H E hr hG => ?_)
  have ct : cC (cxOf (L2.CX P w) P w K mg base ["_law_script", "_law_k"] "_law_cell_at" (defScope lO) (He.ga K "_law_cell_at") cdv A outer s H E) (fun c d _ H' => E c d H') := cC.def_ hG
  exact (aV (s_if (bQ ale (ao (i := 1) rfl (by walk_at "v")) (mX (id := "len") xX (by rfl) T.xP (by decide +kernel) (aj (ao (i := 0) rfl (by walk_at "v")) aO)) (nomark _)) (aX (s_ret (aW hr.units (ao (i := 0) rfl (by walk_at "v")) (ao (i := 1) rfl (by walk_at "v")) (fun _ _ => rfl)))) bY)
    (aX (s_ret aR)))
def kY : Mn := body 1 1
    (bU (bx jA (ak (aQ g8 (aq 0) (bx cU (ak (aQ Fw (aq 0) (aQ tX (eC (.int (10))) (eC (.int (18))))) aN))) (ak (aQ sG (aq 0) (eC (.int (2147483647)))) (ak (eC (.int (0))) aN)))))
theorem Ah (T : Top w K mg) : Fd P w K mg base (0 + 1) (He.ga K "_law_well") "_law_well" "_law_well" qZ [] [] ["_law_cell"] kY := by
  refine Fd.of T.vZ.dn ac0 (fun cdv A outer s H E hr hG => ?_)
  have ct : cC (cxOf (L2.CX P w) P w K mg base ["_law_cell"] "_law_well" (defScope qZ) (He.ga K "_law_well") cdv A outer s H E) (fun c d _ H' => E c d H') := cC.def_ hG
  exact (aX (s_ret (Py (aj (fL CG (ao (i := 0) rfl (by walk_at "v")) (mO ou (by rfl) T.mJ (by decide +kernel) (aj (dR aeO (ao (i := 0) rfl (by walk_at "v")) (fL PN aR aR) (nomark _)) aO))) (aj (fL Ek (ao (i := 0) rfl (by walk_at "v")) aR) (aj aR aO))))))
def gj : Mn := body 2 4
    (aZ (cX (dh (aQ P0 (aQ bH (aq 0) (eC (.int (0)))) (eC (.int (0))))) (aZ (bW (aQ sG (aQ bH (aq 0) (eC (.int (0)))) (aq 1)) (gName 3))
    (aZ (bW (aQ qU (aQ bH (aq 0) (eC (.int (0)))) (aq 1)) (iV (aq 0) (eC (.int (0)))))
    (bU (aq 3)))) cD)
    (aZ (bW (aQ gY (aQ bH (aq 0) (eC (.int (2)))) (eC (.int (1)))) (iV (aq 0) (eC (.int (2)))))
    (aZ (bW (aQ sG (aQ tX (aQ gY (aQ gY (aQ bH (aq 0) (eC (.int (1)))) (aQ g8 (eC (.int (7919))) (aQ bH (aq 0) (eC (.int (2)))))) (eC (.int (1)))) (eC (.int (5)))) (eC (.int (2147483629)))) (gName 2))
    (aZ (bW (aQ sG (aQ g8 (aq 2) (aQ gY (aQ gY (aQ qU (aq 2) (eC (.int (1009)))) (eC (.int (69621)))) (aQ bH (aq 0) (eC (.int (2)))))) (eC (.int (2147483587)))) (gName 2))
    (bU (aQ sG (aQ qU (aQ sG (aQ g8 (aq 2) (aQ gY (aQ qU (aq 2) (eC (.int (2003)))) (eC (.int (40692))))) (eC (.int (2147483579)))) (eC (.int (7)))) (aq 1)))))))
theorem iy (T : Top w K mg) : Fd P w K mg base (0 + 1) (He.ga K "_law_draw") "_law_draw" "_law_draw" rA [] [] ["_law_well_here", "_law_many"] gj := by
  refine Fd.of T.gW.dn xM (fun cdv A outer s H E hr hG => ?_)
  have ct : cC (cxOf (L2.CX P w) P w K mg base ["_law_well_here", "_law_many", "_law_number", "_law_digit"] "_law_draw" (defScope rA) (He.ga K "_law_draw") cdv A outer s H E) (fun c d _ H' => E c d H') := cC.def_ hG
  exact (aV (s_if (bQ ahR (aW hr.units (ao (i := 0) rfl (by walk_at "v")) aR (fun _ _ => rfl)) aR (nomark _)) (aV (s_asg (fL Ek (aW hr.units (ao (i := 0) rfl (by walk_at "v")) aR (fun _ _ => rfl)) (ao (i := 1) rfl (by walk_at "v"))) (cI (i := 3) xM.nd rfl (by walk_at "w")))
    (aV (s_asg (fL PL (aW hr.units (ao (i := 0) rfl (by walk_at "v")) aR (fun _ _ => rfl)) (ao (i := 1) rfl (by walk_at "v"))) (jB hr.units (ao (i := 0) rfl (by walk_at "v")) aR))
    (aX (s_ret (ao (i := 3) rfl (by walk_at "v")))))) bY)
    (aV (s_asg (fL mQ (aW hr.units (ao (i := 0) rfl (by walk_at "v")) aR (fun _ _ => rfl)) aR) (jB hr.units (ao (i := 0) rfl (by walk_at "v")) aR))
    (aV (s_asg (fL Ek (fL PN (fL mQ (fL mQ (aW hr.units (ao (i := 0) rfl (by walk_at "v")) aR (fun _ _ => rfl)) (fL CG aR (aW hr.units (ao (i := 0) rfl (by walk_at "v")) aR (fun _ _ => rfl)))) aR) aR) aR) (cI (i := 2) xM.nd rfl (by walk_at "w")))
    (aV (s_asg (fL Ek (fL CG (ao (i := 2) rfl (by walk_at "v")) (fL mQ (fL mQ (fL PL (ao (i := 2) rfl (by walk_at "v")) aR) aR) (aW hr.units (ao (i := 0) rfl (by walk_at "v")) aR (fun _ _ => rfl)))) aR) (cI (i := 2) xM.nd rfl (by walk_at "w")))
    (aX (s_ret (fL Ek (fL PL (fL Ek (fL CG (ao (i := 2) rfl (by walk_at "v")) (fL mQ (fL PL (ao (i := 2) rfl (by walk_at "v")) aR) aR)) aR) aR) (ao (i := 1) rfl (by walk_at "v")))))))))
def oX : Mn := body 2 2
    (bU (aQ bH (aq 1) (bf 2 0 gj (ak (aq 0) (ak (bx pP (ak (aq 1) aN)) aN)) aN)))
theorem vP (T : Top w K mg) : Fd P w K mg base (1 + 1) (He.ga K "_law_one") "_law_one" "_law_one" tH [] [] ["_law_well_here", "_law_some"] oX := by
  refine Fd.of T.qj.dn aez (fun cdv A outer s H E hr hG => ?_)
  have ct : cC (cxOf (L2.CX P w) P w K mg base ["_law_well_here", "_law_some"] "_law_one" (defScope tH) (He.ga K "_law_one") cdv A outer s H E) (fun c d _ H' => E c d H') := cC.def_ hG
  have iy := iy (P := P) (base := base) T
  have jV : Room 1 _ := hr.mono (by first | decide | omega)
  exact (aX (s_ret (aW hr.units (ao (i := 1) rfl (by walk_at "v")) (bV (iy.bK jV ct (Bd.all (n := 2) (ks := []) (is := List.range 2) (fun _ _ _ _ _ _ us ws h1 h2 => match us, ws, h1, h2 with | [_, _], [], _, _ => rfl))) (by rfl) T.gW.gl T.gW.kp (aj (ao (i := 0) rfl (by walk_at "v")) (aj (mX (id := "len") xX (by rfl) T.xP (by decide +kernel) (aj (ao (i := 1) rfl (by walk_at "v")) aO)) aO))) (fun _ _ => rfl))))
def lY : Mn := body 1 3
    (aZ (bW (eC (.str "abcdefghijklmnopqrstuvwxyz")) (gName 1))
    (bU (qM "str" joinM (eC (.str "")) (ak (uN (wj acg (ak (aQ gY (eC (.int (1))) (bf 2 0 gj (ak (aq 0) (ak (eC (.int (8))) aN)) aN)) aN)) (gName 2) nY (aQ bH (aq 1) (bf 2 0 gj (ak (aq 0) (ak (eC (.int (26))) aN)) aN)) [2]) aN))))
theorem wX (T : Top w K mg) : Fd P w K mg base (1 + 1) (He.ga K "_law_word") "_law_word" "_law_word" pH [] [] ["_law_well_here"] lY := by
  refine Fd.of T.rD.dn xO (fun cdv A outer s H E hr hG => ?_)
  have ct : cC (cxOf (L2.CX P w) P w K mg base ["_law_well_here", "_law_letters", "_law_k"] "_law_word" (defScope pH) (He.ga K "_law_word") cdv A outer s H E) (fun c d _ H' => E c d H') := cC.def_ hG
  have iy := iy (P := P) (base := base) T
  have jV : Room 1 _ := hr.mono (by first | decide | omega)
  exact (aV (s_asg aP (cI (i := 1) xO.nd rfl (by walk_at "w")))
    (aX (s_ret (ahV aP (aj (Gu (own := [("_law_k", 2)]) rfl xO.nd (ahQ (by rfl) T.agg (aj (fL mQ aR (bV (iy.bK jV ct (Bd.all (n := 2) (ks := []) (is := List.range 2) (fun _ _ _ _ _ _ us ws h1 h2 => match us, ws, h1, h2 with | [_, _], [], _, _ => rfl))) (by rfl) T.gW.gl T.gW.kp (aj (ao (i := 0) rfl (by walk_at "v")) (aj aR aO)))) aO)) (blkOk_by (N := ["_law_well_here", "_law_letters", "_law_k"]) (sc := defScope pH) (by decide +kernel)) (fun _ _ _ _ _ => (mY (i := 2) (by decide) xO.nd rfl (by walk_at "w"))) (fun _ _ _ _ _ => wg) (fun _ _ _ _ _ => (aW hr.units (ao (i := 1) rfl (by walk_at "v")) (bV (iy.bK jV ct.blk (Bd.all (n := 2) (ks := []) (is := List.range 2) (fun _ _ _ _ _ _ us ws h1 h2 => match us, ws, h1, h2 with | [_, _], [], _, _ => rfl))) (by rfl) T.gW.gl T.gW.kp (aj (ao (i := 0) rfl (by walk_at "v")) (aj aR aO))) (fun _ _ => rfl)))) aO)))))
def jC : Mn := body 2 2
    (bU (jN (aQ eU (aQ bH (aq 0) (eC (.str "goes"))) (eC (.str "killed"))) (Ay (aQ cP (aQ bH (aq 0) (eC (.str "goes"))) (bx bM (ak (eC (.str "failed")) (ak (aq 1) aN)))) (aQ cP (aQ bH (aq 0) (eC (.str "child"))) (aq 1)))))
theorem nj (T : Top w K mg) : Fd P w K mg base (0 + 1) (He.ga K "_law_can_fail") "_law_can_fail" "_law_can_fail" j7 [] [] ["_law_m", "_law_mark"] jC := by
  refine Fd.of T.pK.dn TF (fun cdv A outer s H E hr hG => ?_)
  have ct : cC (cxOf (L2.CX P w) P w K mg base ["_law_m", "_law_mark"] "_law_can_fail" (defScope j7) (He.ga K "_law_can_fail") cdv A outer s H E) (fun c d _ H' => E c d H') := cC.def_ hG
  exact (aX (s_ret (lE (dR (jg hr.units) (aW hr.units (ao (i := 0) rfl (by walk_at "v")) aP (fun _ _ => rfl)) aP (nomark _)) (jh (Z7 (dR (cH hr.units) (aW hr.units (ao (i := 0) rfl (by walk_at "v")) aP (fun _ _ => rfl)) (bZ (aj aP (aj (ao (i := 1) rfl (by walk_at "v")) aO))) (nomark _)) (jh (dR (cH hr.units) (aW hr.units (ao (i := 0) rfl (by walk_at "v")) aP (fun _ _ => rfl)) (ao (i := 1) rfl (by walk_at "v")) (nomark _))))))))
def oY : Mn := body 2 3
    (aZ (cX (mW (aQ bH (aq 0) (eC (.str "shut")))) (bU (eC (.str "held"))) cD)
    (aZ (cX (dh (aQ (neL eU) (aQ bH (aq 0) (eC (.str "lasts"))) (bx cW aN))) (bU (eC (.str "last"))) cD)
    (aZ (cX (mW (aQ bH (aq 0) (eC (.str "due")))) (bU (eC (.str "owed"))) cD)
    (aZ (bW (aQ cP (aQ bH (aq 0) (eC (.str "goes"))) (qM "dict" getM (qW [((eC (.str "done")), (eC (.str "on"))), ((eC (.str "killed")), (eC (.str "killed")))]) (ak (aQ bH (aq 1) (eC (.int (0)))) (ak (eC (.str "")) aN)))) (gName 2))
    (aZ (cX (dh (aQ cP (aQ bH (aq 1) (eC (.int (0)))) (eC (.str "failed")))) (bW (bf 2 0 jC (ak (aq 0) (ak (aQ bH (aq 1) (eC (.int (1)))) aN)) aN) (gName 2)) cD)
    (bU (aQ bH (bx cW (ak (eC (.str "outcome")) (ak (eC (.str "")) aN))) (bx cU (ak (aq 2) aN)))))))))
theorem yG (T : Top w K mg) : Fd P w K mg base (1 + 1) (He.ga K "_law_end_due") "_law_end_due" "_law_end_due" lQ [] [] ["_law_m", "_law_outcome"] oY := by
  refine Fd.of T.yt.dn vU (fun cdv A outer s H E hr hG => ?_)
  have ct : cC (cxOf (L2.CX P w) P w K mg base ["_law_m", "_law_outcome", "_law_right"] "_law_end_due" (defScope lQ) (He.ga K "_law_end_due") cdv A outer s H E) (fun c d _ H' => E c d H') := cC.def_ hG
  have nj := nj (P := P) (base := base) T
  have vh : Room 1 _ := hr.mono (by first | decide | omega)
  exact (aV (s_if (qR (aW hr.units (ao (i := 0) rfl (by walk_at "v")) aP (fun _ _ => rfl)) (by intro _; rfl)) (aX (s_ret aP)) bY)
    (aV (s_if (bQ (yc hr.units (jg hr.units)) (aW hr.units (ao (i := 0) rfl (by walk_at "v")) aP (fun _ _ => rfl)) (dX aO) (nomark _)) (aX (s_ret aP)) bY)
    (aV (s_if (qR (aW hr.units (ao (i := 0) rfl (by walk_at "v")) aP (fun _ _ => rfl)) (by intro _; rfl)) (aX (s_ret aP)) bY)
    (aV (s_asg (dR (cH hr.units) (aW hr.units (ao (i := 0) rfl (by walk_at "v")) aP (fun _ _ => rfl)) (acj PySem.F.plainAttrs_dict PySem.F.slot_dict_get PySem.F.type_dict_get (afP hr.units) (aam (ps := [((eC (.str "done")), (eC (.str "on"))), ((eC (.str "killed")), (eC (.str "killed")))]) (pps_cons aP aP (pps_cons aP aP pps_nil))) (aj (aW hr.units (ao (i := 1) rfl (by walk_at "v")) aR (fun _ _ => rfl)) (aj aP aO))) (nomark _)) (cI (i := 2) vU.nd rfl (by walk_at "w")))
    (aV (s_if (bQ (cH hr.units) (aW hr.units (ao (i := 1) rfl (by walk_at "v")) aR (fun _ _ => rfl)) aP (nomark _)) (aX (s_asg (bV (nj.bK vh ct (Bd.all (n := 2) (ks := []) (is := List.range 2) (fun _ _ _ _ _ _ us ws h1 h2 => match us, ws, h1, h2 with | [_, _], [], _, _ => rfl))) (by rfl) T.pK.gl T.pK.kp (aj (ao (i := 0) rfl (by walk_at "v")) (aj (aW hr.units (ao (i := 1) rfl (by walk_at "v")) aR (fun _ _ => rfl)) aO))) (cI (i := 2) vU.nd rfl (by walk_at "w")))) bY)
    (aX (s_ret (aW hr.units (dX (aj aP (aj aP aO))) (mO ou (by rfl) T.mJ (by decide +kernel) (aj (ao (i := 2) rfl (by walk_at "v")) aO)) (fun _ _ => rfl)))))))))
def uw : Mn := body 2 2
    (aZ (cX (u5 (dh (aQ (neL eU) (aQ bH (aq 0) (eC (.str "must"))) (eC (.str "")))) (dh (aQ (neL eU) (aq 1) (bx bM (ak (aQ bH (aq 0) (eC (.str "must"))) (ak (eC (.int (0))) aN)))))) (bU (eC (.str "turn"))) cD)
    (aZ (cX (u5 (mW (aQ bH (aq 0) (eC (.str "ended")))) (dh (aQ (neL eU) (aQ bH (aq 1) (eC (.int (0)))) (eC (.str "kill"))))) (bU (eC (.str "ended"))) cD)
    (aZ (cX (dh (aQ (uU cP) (aQ bH (aq 1) (eC (.int (0)))) (eC (.str "kill")))) (bU (aQ bH (bx cW (ak (eC (.str "")) (ak (eC (.str "over")) aN))) (bx cU (ak (aQ bH (aq 0) (eC (.str "ended"))) aN)))) cD)
    (aZ (cX (dh (aQ inX (aQ bH (aq 1) (eC (.int (0)))) (bx bM (ak (eC (.str "tell")) (ak (eC (.str "failed")) aN))))) (bU (aQ bH (bx cW (ak (eC (.str "unwinds")) (ak (eC (.str "")) aN))) (bx cU (ak (aQ (uU cP) (aQ bH (aq 0) (eC (.str "goes"))) (eC (.str "on"))) aN)))) cD)
    (aZ (cX (dh (aQ (uU cP) (aQ bH (aq 1) (eC (.int (0)))) (eC (.str "landed")))) (bU (aQ bH (bx cW (ak (eC (.str "untold")) (ak (eC (.str "held")) (ak (eC (.str "")) aN)))) (aQ gY (bx cU (ak (aQ bH (aq 0) (eC (.str "due"))) aN)) (bx cU (ak (jN (aQ bH (aq 0) (eC (.str "due"))) (pN (aQ bH (aq 0) (eC (.str "shut"))))) aN))))) cD)
    (aZ (cX (dh (aQ (uU cP) (aQ bH (aq 1) (eC (.int (0)))) (eC (.str "masked")))) (bU (aQ bH (bx cW (ak (eC (.str "")) (ak (eC (.str "held")) aN))) (bx cU (ak (aQ bH (aq 0) (eC (.str "shut"))) aN)))) cD)
    (aZ (cX (dh (aQ (uU cP) (aQ bH (aq 1) (eC (.int (0)))) (eC (.str "opened")))) (bU (aQ bH (bx cW (ak (eC (.str "open")) (ak (eC (.str "")) (ak (eC (.str "last")) aN)))) (aQ gY (bx cU (ak (aQ bH (aq 0) (eC (.str "shut"))) aN)) (bx cU (ak (jN (aQ bH (aq 0) (eC (.str "shut"))) (aQ (neL eU) (aQ bH (aq 0) (eC (.str "lasts"))) (bx cW aN))) aN))))) cD)
    (aZ (cX (dh (aQ (uU cP) (aQ bH (aq 1) (eC (.int (0)))) (eC (.str "lasted")))) (bU (aQ bH (bx cW (ak (eC (.str "")) (ak (eC (.str "last")) aN))) (bx cU (ak (aQ (uU cP) (aQ bH (aq 0) (eC (.str "lasts"))) (bx cW aN)) aN)))) cD)
    (aZ (cX (dh (aQ (uU cP) (aQ bH (aq 1) (eC (.int (0)))) (eC (.str "rescued")))) (bU (aQ bH (bx cW (ak (eC (.str "mark")) (ak (eC (.str "")) aN))) (bx cU (ak (bf 2 0 jC (ak (aq 0) (ak (aQ bH (aq 1) (eC (.int (2)))) aN)) aN) aN)))) cD)
    (aZ (cX (dh (aQ (uU cP) (aQ bH (aq 1) (eC (.int (0)))) (eC (.str "ended")))) (bU (bf 2 0 oY (ak (aq 0) (ak (aQ bH (aq 1) (eC (.int (2)))) aN)) aN)) cD)
    (bU (eC (.str "")))))))))))))
theorem Ry (T : Top w K mg) : Fd P w K mg base (2 + 1) (He.ga K "_law_due") "_law_due" "_law_due" tK [] [] ["_law_m", "_law_row_here"] uw := by
  refine Fd.of T.QV.dn aeA (fun cdv A outer s H E hr hG => ?_)
  have ct : cC (cxOf (L2.CX P w) P w K mg base ["_law_m", "_law_row_here"] "_law_due" (defScope tK) (He.ga K "_law_due") cdv A outer s H E) (fun c d _ H' => E c d H') := cC.def_ hG
  have yG := yG (P := P) (base := base) T
  have aaB : Room 2 _ := hr.mono (by first | decide | omega)
  have nj := nj (P := P) (base := base) T
  have vh : Room 1 _ := hr.mono (by first | decide | omega)
  exact (aV (s_if (PW.pt (Pr (bQ (yc hr.units (jg hr.units)) (aW hr.units (ao (i := 0) rfl (by walk_at "v")) aP (fun _ _ => rfl)) aP (nomark _)) (Ci (bQ (yc hr.units (jg hr.units)) (ao (i := 1) rfl (by walk_at "v")) (bZ (aj (aW hr.units (ao (i := 0) rfl (by walk_at "v")) aP (fun _ _ => rfl)) (aj aR aO))) (nomark _))))) (aX (s_ret aP)) bY)
    (aV (s_if (PW.pt (Pr (qR (aW hr.units (ao (i := 0) rfl (by walk_at "v")) aP (fun _ _ => rfl)) (by intro _; rfl)) (Ci (bQ (yc hr.units (jg hr.units)) (aW hr.units (ao (i := 1) rfl (by walk_at "v")) aR (fun _ _ => rfl)) aP (nomark _))))) (aX (s_ret aP)) bY)
    (aV (s_if (bQ (uG hr.units (cH hr.units)) (aW hr.units (ao (i := 1) rfl (by walk_at "v")) aR (fun _ _ => rfl)) aP (nomark _)) (aX (s_ret (aW hr.units (dX (aj aP (aj aP aO))) (mO ou (by rfl) T.mJ (by decide +kernel) (aj (aW hr.units (ao (i := 0) rfl (by walk_at "v")) aP (fun _ _ => rfl)) aO)) (fun _ _ => rfl)))) bY)
    (aV (s_if (bQ (vA hr.units) (aW hr.units (ao (i := 1) rfl (by walk_at "v")) aR (fun _ _ => rfl)) (bZ (aj aP (aj aP aO))) (by rfl)) (aX (s_ret (aW hr.units (dX (aj aP (aj aP aO))) (mO ou (by rfl) T.mJ (by decide +kernel) (aj (dR (uG hr.units (cH hr.units)) (aW hr.units (ao (i := 0) rfl (by walk_at "v")) aP (fun _ _ => rfl)) aP (nomark _)) aO)) (fun _ _ => rfl)))) bY)
    (aV (s_if (bQ (uG hr.units (cH hr.units)) (aW hr.units (ao (i := 1) rfl (by walk_at "v")) aR (fun _ _ => rfl)) aP (nomark _)) (aX (s_ret (aW hr.units (dX (aj aP (aj aP (aj aP aO)))) (fL mQ (mO ou (by rfl) T.mJ (by decide +kernel) (aj (aW hr.units (ao (i := 0) rfl (by walk_at "v")) aP (fun _ _ => rfl)) aO)) (mO ou (by rfl) T.mJ (by decide +kernel) (aj (lE (aW hr.units (ao (i := 0) rfl (by walk_at "v")) aP (fun _ _ => rfl)) (jh (uE (aW hr.units (ao (i := 0) rfl (by walk_at "v")) aP (fun _ _ => rfl))))) aO))) (fun _ _ => rfl)))) bY)
    (aV (s_if (bQ (uG hr.units (cH hr.units)) (aW hr.units (ao (i := 1) rfl (by walk_at "v")) aR (fun _ _ => rfl)) aP (nomark _)) (aX (s_ret (aW hr.units (dX (aj aP (aj aP aO))) (mO ou (by rfl) T.mJ (by decide +kernel) (aj (aW hr.units (ao (i := 0) rfl (by walk_at "v")) aP (fun _ _ => rfl)) aO)) (fun _ _ => rfl)))) bY)
    (aV (s_if (bQ (uG hr.units (cH hr.units)) (aW hr.units (ao (i := 1) rfl (by walk_at "v")) aR (fun _ _ => rfl)) aP (nomark _)) (aX (s_ret (aW hr.units (dX (aj aP (aj aP (aj aP aO)))) (fL mQ (mO ou (by rfl) T.mJ (by decide +kernel) (aj (aW hr.units (ao (i := 0) rfl (by walk_at "v")) aP (fun _ _ => rfl)) aO)) (mO ou (by rfl) T.mJ (by decide +kernel) (aj (lE (aW hr.units (ao (i := 0) rfl (by walk_at "v")) aP (fun _ _ => rfl)) (jh (dR (yc hr.units (jg hr.units)) (aW hr.units (ao (i := 0) rfl (by walk_at "v")) aP (fun _ _ => rfl)) (dX aO) (nomark _)))) aO))) (fun _ _ => rfl)))) bY)
    (aV (s_if (bQ (uG hr.units (cH hr.units)) (aW hr.units (ao (i := 1) rfl (by walk_at "v")) aR (fun _ _ => rfl)) aP (nomark _)) (aX (s_ret (aW hr.units (dX (aj aP (aj aP aO))) (mO ou (by rfl) T.mJ (by decide +kernel) (aj (dR (uG hr.units (cH hr.units)) (aW hr.units (ao (i := 0) rfl (by walk_at "v")) aP (fun _ _ => rfl)) (dX aO) (nomark _)) aO)) (fun _ _ => rfl)))) bY)
    (aV (s_if (bQ (uG hr.units (cH hr.units)) (aW hr.units (ao (i := 1) rfl (by walk_at "v")) aR (fun _ _ => rfl)) aP (nomark _)) (aX (s_ret (aW hr.units (dX (aj aP (aj aP aO))) (mO ou (by rfl) T.mJ (by decide +kernel) (aj (bV (nj.bK vh ct (Bd.all (n := 2) (ks := []) (is := List.range 2) (fun _ _ _ _ _ _ us ws h1 h2 => match us, ws, h1, h2 with | [_, _], [], _, _ => rfl))) (by rfl) T.pK.gl T.pK.kp (aj (ao (i := 0) rfl (by walk_at "v")) (aj (aW hr.units (ao (i := 1) rfl (by walk_at "v")) aR (fun _ _ => rfl)) aO))) aO)) (fun _ _ => rfl)))) bY)
    (aV (s_if (bQ (uG hr.units (cH hr.units)) (aW hr.units (ao (i := 1) rfl (by walk_at "v")) aR (fun _ _ => rfl)) aP (nomark _)) (aX (s_ret (bV (yG.bK aaB ct (Bd.all (n := 2) (ks := []) (is := List.range 2) (fun _ _ _ _ _ _ us ws h1 h2 => match us, ws, h1, h2 with | [_, _], [], _, _ => rfl))) (by rfl) T.yt.gl T.yt.kp (aj (ao (i := 0) rfl (by walk_at "v")) (aj (aW hr.units (ao (i := 1) rfl (by walk_at "v")) aR (fun _ _ => rfl)) aO))))) bY)
    (aX (s_ret aP))))))))))))
def rF : Mn := body 2 4
    (aZ (bW (eC (.str "")) (iV (aq 0) (eC (.str "must"))))
    (aZ (cX (dh (aQ cP (aQ bH (aq 1) (eC (.int (0)))) (eC (.str "last")))) (aZ (mK (qM "list" zP (aQ bH (aq 0) (eC (.str "lasts"))) (ak (bx bM (ak (aQ bH (aq 0) (eC (.str "goes"))) (ak (aQ bH (aq 0) (eC (.str "shut"))) aN))) aN)))
    (aZ (bW (eC (.str "on")) (iV (aq 0) (eC (.str "goes"))))
    (bW (aQ bH (bx cW (ak (eC (.str "masked")) (ak (eC (.str "")) aN))) (bx cU (ak (aQ bH (aq 0) (eC (.str "shut"))) aN))) (iV (aq 0) (eC (.str "must")))))) cD)
    (aZ (cX (dh (aQ cP (aQ bH (aq 1) (eC (.int (0)))) (eC (.str "lasted")))) (aZ (bW (aal "list" Rf (aQ bH (aq 0) (eC (.str "lasts")))) (qT (lF 2 (gCons (gName 2) (gCons (gName 3) gNil)))))
    (aZ (cX (dh (aQ eU (aq 2) (eC (.str "on")))) (bW (aq 2) (iV (aq 0) (eC (.str "goes")))) cD)
    (bW (aQ bH (bx cW (ak (eC (.str "opened")) (ak (eC (.str "")) aN))) (bx cU (ak (aq 3) aN))) (iV (aq 0) (eC (.str "must")))))) cD)
    (aZ (cX (dh (aQ cP (aQ bH (aq 1) (eC (.int (0)))) (eC (.str "failed")))) (bW (bx bM (ak (eC (.str "failed")) (ak (aQ bH (aq 1) (eC (.int (2)))) aN))) (iV (aq 0) (eC (.str "goes")))) cD)
    (aZ (cX (dh (aQ cP (aQ bH (aq 1) (eC (.int (0)))) (eC (.str "rescued")))) (bW (eC (.str "on")) (iV (aq 0) (eC (.str "goes")))) cD)
    (aZ (cX (dh (aQ cP (aQ bH (aq 1) (eC (.int (0)))) (eC (.str "landed")))) (bW (eC (.str "killed")) (iV (aq 0) (eC (.str "goes")))) cD)
    (aZ (cX (dh (aQ inX (aQ bH (aq 1) (eC (.int (0)))) (bx bM (ak (eC (.str "kill")) (ak (eC (.str "landed")) aN))))) (bW (aQ cP (aQ bH (aq 1) (eC (.int (0)))) (eC (.str "kill"))) (iV (aq 0) (eC (.str "due")))) cD)
    (aZ (cX (dh (aQ inX (aQ bH (aq 1) (eC (.int (0)))) (bx bM (ak (eC (.str "masked")) (ak (eC (.str "opened")) aN))))) (bW (aQ cP (aQ bH (aq 1) (eC (.int (0)))) (eC (.str "masked"))) (iV (aq 0) (eC (.str "shut")))) cD)
    (cX (dh (aQ cP (aQ bH (aq 1) (eC (.int (0)))) (eC (.str "ended")))) (bW (eC (.bl true)) (iV (aq 0) (eC (.str "ended")))) cD)))))))))
theorem G8 (T : Top w K mg) : Fd P w K mg base (0 + 1) (He.ga K "_law_done") "_law_done" "_law_done" rB [] [] ["_law_m", "_law_row_here"] rF := by
  refine Fd.of T.FZ.dn Bm (fun cdv A outer s H E hr hG => ?_)
  have ct : cC (cxOf (L2.CX P w) P w K mg base ["_law_m", "_law_row_here", "_law_goes", "_law_shut"] "_law_done" (defScope rB) (He.ga K "_law_done") cdv A outer s H E) (fun c d _ H' => E c d H') := cC.def_ hG
  exact (aV (s_asg aP (jB hr.units (ao (i := 0) rfl (by walk_at "v")) aP))
    (aV (s_if (bQ (cH hr.units) (aW hr.units (ao (i := 1) rfl (by walk_at "v")) aR (fun _ _ => rfl)) aP (nomark _)) (aV (uP (aaj (aW hr.units (ao (i := 0) rfl (by walk_at "v")) aP (fun _ _ => rfl)) (aj (bZ (aj (aW hr.units (ao (i := 0) rfl (by walk_at "v")) aP (fun _ _ => rfl)) (aj (aW hr.units (ao (i := 0) rfl (by walk_at "v")) aP (fun _ _ => rfl)) aO))) aO)))
    (aV (s_asg aP (jB hr.units (ao (i := 0) rfl (by walk_at "v")) aP))
    (aX (s_asg (aW hr.units (dX (aj aP (aj aP aO))) (mO ou (by rfl) T.mJ (by decide +kernel) (aj (aW hr.units (ao (i := 0) rfl (by walk_at "v")) aP (fun _ _ => rfl)) aO)) (fun _ _ => rfl)) (jB hr.units (ao (i := 0) rfl (by walk_at "v")) aP))))) bY)
    (aV (s_if (bQ (cH hr.units) (aW hr.units (ao (i := 1) rfl (by walk_at "v")) aR (fun _ _ => rfl)) aP (nomark _)) (aV (s_asg (afN PySem.F.plainAttrs_list PySem.F.slot_list_pop PySem.F.type_list_pop afM (aW hr.units (ao (i := 0) rfl (by walk_at "v")) aP (fun _ _ => rfl))) (ab9 (ab8 rfl (vI (cI (i := 2) Bm.nd rfl (by walk_at "w")) (vI (cI (i := 3) Bm.nd rfl (by walk_at "w")) Z8)))))
    (aV (s_if (bQ (jg hr.units) (ao (i := 2) rfl (by walk_at "v")) aP (nomark _)) (aX (s_asg (ao (i := 2) rfl (by walk_at "v")) (jB hr.units (ao (i := 0) rfl (by walk_at "v")) aP))) bY)
    (aX (s_asg (aW hr.units (dX (aj aP (aj aP aO))) (mO ou (by rfl) T.mJ (by decide +kernel) (aj (ao (i := 3) rfl (by walk_at "v")) aO)) (fun _ _ => rfl)) (jB hr.units (ao (i := 0) rfl (by walk_at "v")) aP))))) bY)
    (aV (s_if (bQ (cH hr.units) (aW hr.units (ao (i := 1) rfl (by walk_at "v")) aR (fun _ _ => rfl)) aP (nomark _)) (aX (s_asg (bZ (aj aP (aj (aW hr.units (ao (i := 1) rfl (by walk_at "v")) aR (fun _ _ => rfl)) aO))) (jB hr.units (ao (i := 0) rfl (by walk_at "v")) aP))) bY)
    (aV (s_if (bQ (cH hr.units) (aW hr.units (ao (i := 1) rfl (by walk_at "v")) aR (fun _ _ => rfl)) aP (nomark _)) (aX (s_asg aP (jB hr.units (ao (i := 0) rfl (by walk_at "v")) aP))) bY)
    (aV (s_if (bQ (cH hr.units) (aW hr.units (ao (i := 1) rfl (by walk_at "v")) aR (fun _ _ => rfl)) aP (nomark _)) (aX (s_asg aP (jB hr.units (ao (i := 0) rfl (by walk_at "v")) aP))) bY)
    (aV (s_if (bQ (vA hr.units) (aW hr.units (ao (i := 1) rfl (by walk_at "v")) aR (fun _ _ => rfl)) (bZ (aj aP (aj aP aO))) (by rfl)) (aX (s_asg (dR (cH hr.units) (aW hr.units (ao (i := 1) rfl (by walk_at "v")) aR (fun _ _ => rfl)) aP (nomark _)) (jB hr.units (ao (i := 0) rfl (by walk_at "v")) aP))) bY)
    (aV (s_if (bQ (vA hr.units) (aW hr.units (ao (i := 1) rfl (by walk_at "v")) aR (fun _ _ => rfl)) (bZ (aj aP (aj aP aO))) (by rfl)) (aX (s_asg (dR (cH hr.units) (aW hr.units (ao (i := 1) rfl (by walk_at "v")) aR (fun _ _ => rfl)) aP (nomark _)) (jB hr.units (ao (i := 0) rfl (by walk_at "v")) aP))) bY)
    (aX (s_if (bQ (cH hr.units) (aW hr.units (ao (i := 1) rfl (by walk_at "v")) aR (fun _ _ => rfl)) aP (nomark _)) (aX (s_asg rY (jB hr.units (ao (i := 0) rfl (by walk_at "v")) aP))) bY))))))))))
def oZ : Mn := body 3 5
    (aZ (cX (u5 (dh (aQ eU (aQ bH (aq 1) (eC (.str "must"))) (eC (.str "")))) (dh (aQ P0 (bf 2 0 gj (ak (aq 0) (ak (eC (.int (3))) aN)) aN) (eC (.int (0)))))) (bU (bx bM (ak (aQ bH (aq 1) (eC (.str "must"))) (ak (eC (.int (0))) aN)))) cD)
    (aZ (bW (bx cW (ak (eC (.str "last")) (ak (eC (.str "last")) (ak (eC (.str "lasted")) (ak (eC (.str "lasted")) (ak (eC (.str "failed")) (ak (eC (.str "rescued")) (ak (eC (.str "kill")) (ak (eC (.str "landed")) (ak (eC (.str "masked")) (ak (eC (.str "opened")) (ak (eC (.str "tell")) aN)))))))))))) (gName 3))
    (aZ (bW (bf 2 0 oX (ak (aq 0) (ak (aQ gY (aq 3) (aQ g8 (bx cW (ak (eC (.str "ended")) aN)) (bx cU (ak (aQ cP (bf 2 0 gj (ak (aq 0) (ak (eC (.int (4))) aN)) aN) (eC (.int (0)))) aN)))) aN)) aN) (gName 4))
    (aZ (cX (dh (aQ cP (aq 4) (eC (.str "kill")))) (bU (bx bM (ak (aq 4) (ak (eC .non) (ak (eC (.int (0))) aN))))) cD)
    (aZ (cX (dh (aQ cP (aq 4) (eC (.str "tell")))) (bU (bx bM (ak (aq 4) (ak (eC (.int (0))) (ak (aQ iK (bf 2 0 gj (ak (aq 0) (ak (aQ tX (eC (.int (10))) (eC (.int (9)))) aN)) aN) (eC (.int (5)))) aN))))) cD)
    (aZ (cX (dh (aQ inX (aq 4) (bx bM (ak (eC (.str "failed")) (ak (eC (.str "rescued")) aN))))) (bU (bx bM (ak (aq 4) (ak (eC (.int (0))) (ak (bf 2 0 oX (ak (aq 0) (ak (aq 2) aN)) aN) aN))))) cD)
    (aZ (cX (dh (aQ cP (aq 4) (eC (.str "ended")))) (bU (bx bM (ak (aq 4) (ak (eC (.int (0))) (ak (bf 2 0 oX (ak (aq 0) (ak (bx cW (ak (bx bM (ak (eC (.str "done")) aN)) (ak (bx bM (ak (eC (.str "killed")) aN)) (ak (bx bM (ak (eC (.str "failed")) (ak (bf 2 0 oX (ak (aq 0) (ak (aq 2) aN)) aN) aN))) aN)))) aN)) aN) aN))))) cD)
    (bU (bx bM (ak (aq 4) (ak (eC (.int (0))) aN)))))))))))
theorem Rz (T : Top w K mg) : Fd P w K mg base (2 + 1) (He.ga K "_law_row") "_law_row" "_law_row" tL [] [] ["_law_well_here", "_law_m", "_law_marks"] oZ := by
  refine Fd.of T.QW.dn FW (fun cdv A outer s H E hr hG => ?_)
  have ct : cC (cxOf (L2.CX P w) P w K mg base ["_law_well_here", "_law_m", "_law_marks", "_law_some", "_law_word_here"] "_law_row" (defScope tL) (He.ga K "_law_row") cdv A outer s H E) (fun c d _ H' => E c d H') := cC.def_ hG
  have vP := vP (P := P) (base := base) T
  have Ai : Room 2 _ := hr.mono (by first | decide | omega)
  have iy := iy (P := P) (base := base) T
  have jV : Room 1 _ := hr.mono (by first | decide | omega)
  exact (aV (s_if (PW.pt (Pr (bQ (jg hr.units) (aW hr.units (ao (i := 1) rfl (by walk_at "v")) aP (fun _ _ => rfl)) aP (nomark _)) (Ci (bQ ahR (bV (iy.bK jV ct (Bd.all (n := 2) (ks := []) (is := List.range 2) (fun _ _ _ _ _ _ us ws h1 h2 => match us, ws, h1, h2 with | [_, _], [], _, _ => rfl))) (by rfl) T.gW.gl T.gW.kp (aj (ao (i := 0) rfl (by walk_at "v")) (aj aR aO))) aR (nomark _))))) (aX (s_ret (bZ (aj (aW hr.units (ao (i := 1) rfl (by walk_at "v")) aP (fun _ _ => rfl)) (aj aR aO))))) bY)
    (aV (s_asg (dX (aj aP (aj aP (aj aP (aj aP (aj aP (aj aP (aj aP (aj aP (aj aP (aj aP (aj aP aO)))))))))))) (cI (i := 3) FW.nd rfl (by walk_at "w")))
    (aV (s_asg (bV (vP.bK Ai ct (Bd.all (n := 2) (ks := []) (is := List.range 2) (fun _ _ _ _ _ _ us ws h1 h2 => match us, ws, h1, h2 with | [_, _], [], _, _ => rfl))) (by rfl) T.qj.gl T.qj.kp (aj (ao (i := 0) rfl (by walk_at "v")) (aj (fL mQ (ao (i := 3) rfl (by walk_at "v")) (fL CG (dX (aj aP aO)) (mO ou (by rfl) T.mJ (by decide +kernel) (aj (dR (cH hr.units) (bV (iy.bK jV ct (Bd.all (n := 2) (ks := []) (is := List.range 2) (fun _ _ _ _ _ _ us ws h1 h2 => match us, ws, h1, h2 with | [_, _], [], _, _ => rfl))) (by rfl) T.gW.gl T.gW.kp (aj (ao (i := 0) rfl (by walk_at "v")) (aj aR aO))) aR (nomark _)) aO)))) aO))) (cI (i := 4) FW.nd rfl (by walk_at "w")))
    (aV (s_if (bQ (cH hr.units) (ao (i := 4) rfl (by walk_at "v")) aP (nomark _)) (aX (s_ret (bZ (aj (ao (i := 4) rfl (by walk_at "v")) (aj jm (aj aR aO)))))) bY)
    (aV (s_if (bQ (cH hr.units) (ao (i := 4) rfl (by walk_at "v")) aP (nomark _)) (aX (s_ret (bZ (aj (ao (i := 4) rfl (by walk_at "v")) (aj aR (aj (fL ach (bV (iy.bK jV ct (Bd.all (n := 2) (ks := []) (is := List.range 2) (fun _ _ _ _ _ _ us ws h1 h2 => match us, ws, h1, h2 with | [_, _], [], _, _ => rfl))) (by rfl) T.gW.gl T.gW.kp (aj (ao (i := 0) rfl (by walk_at "v")) (aj (fL PN aR aR) aO))) aR) aO)))))) bY)
    (aV (s_if (bQ (vA hr.units) (ao (i := 4) rfl (by walk_at "v")) (bZ (aj aP (aj aP aO))) (by rfl)) (aX (s_ret (bZ (aj (ao (i := 4) rfl (by walk_at "v")) (aj aR (aj (bV (vP.bK Ai ct (Bd.all (n := 2) (ks := []) (is := List.range 2) (fun _ _ _ _ _ _ us ws h1 h2 => match us, ws, h1, h2 with | [_, _], [], _, _ => rfl))) (by rfl) T.qj.gl T.qj.kp (aj (ao (i := 0) rfl (by walk_at "v")) (aj (ao (i := 2) rfl (by walk_at "v")) aO))) aO)))))) bY)
    (aV (s_if (bQ (cH hr.units) (ao (i := 4) rfl (by walk_at "v")) aP (nomark _)) (aX (s_ret (bZ (aj (ao (i := 4) rfl (by walk_at "v")) (aj aR (aj (bV (vP.bK Ai ct (Bd.all (n := 2) (ks := []) (is := List.range 2) (fun _ _ _ _ _ _ us ws h1 h2 => match us, ws, h1, h2 with | [_, _], [], _, _ => rfl))) (by rfl) T.qj.gl T.qj.kp (aj (ao (i := 0) rfl (by walk_at "v")) (aj (dX (aj (bZ (aj aP aO)) (aj (bZ (aj aP aO)) (aj (bZ (aj aP (aj (bV (vP.bK Ai ct (Bd.all (n := 2) (ks := []) (is := List.range 2) (fun _ _ _ _ _ _ us ws h1 h2 => match us, ws, h1, h2 with | [_, _], [], _, _ => rfl))) (by rfl) T.qj.gl T.qj.kp (aj (ao (i := 0) rfl (by walk_at "v")) (aj (ao (i := 2) rfl (by walk_at "v")) aO))) aO))) aO)))) aO))) aO)))))) bY)
    (aX (s_ret (bZ (aj (ao (i := 4) rfl (by walk_at "v")) (aj aR aO))))))))))))
def fM : Mn := body 2 3
    (zR 2 jo (aZ (cX (dh (aQ Az (dZ uV "see" 1 dG (aq 0) (ak (aq 1) aN)) (eC .non))) (bU (eC (.str ""))) cD)
    (bU (eC (.str "other")))) (acn [(xF "at"), (xF "why")]))
theorem Aj (T : Top w K mg) : Fd P w K mg base (7 + 1) (He.ga K "_law_seen") "_law_seen" "_law_seen" rC [] [] ["_law_watch", "_law_row_here"] fM := by
  refine Fd.of T.v7.dn RP (fun cdv A outer s H E hr hG => ?_)
  have ct : cC (cxOf (L2.CX P w) P w K mg base ["_law_watch", "_law_row_here", "e"] "_law_seen" (defScope rC) (He.ga K "_law_seen") cdv A outer s H E) (fun c d _ H' => E c d H') := cC.def_ hG
  have yE := yE (P := P) (base := base) T
  have aaC : Room 7 _ := hr.mono (by first | decide | omega)
  exact (aX (ahY (i := 2) (exm := jo) ct rfl rfl RP.nd rfl rfl ⟨by rfl, by decide, .inl T.VB⟩ (Uc T) (fun W pn xe ct2 => (aV (s_if (bQ aai (sE (cs := uV) (agE T) (yE.bK aaC ct2 (Bd.all (n := 2) (ks := []) (is := List.range 2) (fun _ _ _ _ _ _ us ws h1 h2 => match us, ws, h1, h2 with | [_, _], [], _, _ => rfl))) (ao (i := 0) rfl (by walk_at "v")) (aj (ao (i := 1) rfl (by walk_at "v")) aO)) jm (nomark _)) (aX (s_ret aP)) bY)
    (aX (s_ret aP)))) (fun a oe cls d pn hz hf => (ajC (abD (afL (i := 2) (aaw T) hz hf rfl (by walk_at "v")) (abD (afL (i := 2) (Ue T) hz hf rfl (by walk_at "v")) ahX)) (by decide)))))
def Ak : Mn := body 1 9
    (aZ (bW (bf 1 0 kY (ak (bf 2 0 lX (ak (aq 0) (ak (eC (.int (0))) aN)) aN) aN) aN) (gName 1))
    (aZ (bW (bx cW (ak (bf 1 0 lY (ak (aq 1) aN) aN) (ak (bf 1 0 lY (ak (aq 1) aN) aN) (ak (bf 1 0 lY (ak (aq 1) aN) aN) aN)))) (gName 2))
    (aZ (bW (bf 0 0 (oh "Watch" fun ds => kW (GB.picked (ds ++ [.non, .bl false]) [0, 1, 2])) aN aN) (gName 3))
    (aZ (bW (qW [((eC (.str "goes")), (eC (.str "on"))), ((eC (.str "shut")), (eC (.bl false))), ((eC (.str "due")), (eC (.bl false))), ((eC (.str "lasts")), (bx jA aN)), ((eC (.str "must")), (eC (.str ""))), ((eC (.str "ended")), (eC (.bl false))), ((eC (.str "child")), (eC .non))]) (gName 4))
    (aZ (bW (eC (.int (0))) (gName 5))
    (aZ (cX (dh (aQ cP (bf 2 0 gj (ak (aq 1) (ak (eC (.int (2))) aN)) aN) (eC (.int (0))))) (aZ (bW (aQ bH (aq 2) (eC (.int (0)))) (iV (aq 4) (eC (.str "child"))))
    (aZ (u6 (nZ (bx cW (ak (bx bM (ak (eC (.str "begun")) (ak (eC (.int (1))) (ak (eC (.int (0))) (ak (aQ bH (aq 2) (eC (.int (1)))) (ak (eC (.int (0))) aN)))))) (ak (bx bM (ak (eC (.str "failed")) (ak (eC (.int (1))) (ak (aQ bH (aq 2) (eC (.int (0)))) aN)))) (ak (bx bM (ak (eC (.str "ended")) (ak (eC (.int (1))) (ak (bx bM (ak (eC (.str "failed")) (ak (aQ bH (aq 2) (eC (.int (0)))) aN))) aN)))) aN))))) (gName 7) (cX (dh (aQ eU (bf 2 0 fM (ak (aq 3) (ak (aq 7) aN)) aN) (eC (.str "")))) (bU (eC (.bl false))) cD))
    (bW (eC (.int (3))) (gName 5)))) cD)
    (aZ (u6 (nZ (aQ gY (Cu (aq 0) (qm (eC (.int (1)))) (qm (eC (.int (41))))) (bx cW (ak (eC (.int (0))) (ak (eC (.int (1))) (ak (eC (.int (2))) aN)))))) (gName 6) (aZ (bW (bf 3 0 oZ (ak (bf 1 0 kY (ak (aq 6) aN) aN) (ak (aq 4) (ak (aq 2) aN))) aN) (gName 7))
    (aZ (bW (bf 2 0 uw (ak (aq 4) (ak (aq 7) aN)) aN) (gName 8))
    (aZ (cX (dh (aQ eU (bf 2 0 fM (ak (aq 3) (ak (aq 7) aN)) aN) (aQ bH (bx cW (ak (eC (.str "")) (ak (bx bM (ak (aq 5) (ak (aq 8) aN))) aN))) (bx cU (ak (aQ eU (aq 8) (eC (.str ""))) aN))))) (bU (eC (.bl false))) cD)
    (aZ (cX (dh (aQ cP (aq 8) (eC (.str "")))) (mK (bf 2 0 rF (ak (aq 4) (ak (aq 7) aN)) aN)) cD)
    (bW (aQ gY (aq 5) (eC (.int (1)))) (gName 5)))))))
    (bU (aQ cP (dZ yZ "seen" 0 jy (aq 3) aN) (aq 5))))))))))
theorem ajL (T : Top w K mg) : Fd P w K mg base (8 + 1) (He.ga K "law") "law" "law" qd [] [] ["_law_script"] Ak := by
  refine Fd.of T.ab2.dn oH (fun cdv A outer s H E hr hG => ?_)
  have ct : cC (cxOf (L2.CX P w) P w K mg base ["_law_script", "_law_well_here", "_law_marks", "_law_watch", "_law_m", "_law_ahead", "_law_cell", "_law_row_here", "_law_why"] "law" (defScope qd) (He.ga K "law") cdv A outer s H E) (fun c d _ H' => E c d H') := cC.def_ hG
  have wM := wM (P := P) (base := base) T
  have Ut : Room 1 _ := hr.mono (by first | decide | omega)
  have G8 := G8 (P := P) (base := base) T
  have adV : Room 1 _ := hr.mono (by first | decide | omega)
  have Aj := Aj (P := P) (base := base) T
  have Sy : Room 8 _ := hr.mono (by first | decide | omega)
  have Ry := Ry (P := P) (base := base) T
  have ae5 : Room 3 _ := hr.mono (by first | decide | omega)
  have Rz := Rz (P := P) (base := base) T
  have ae6 : Room 3 _ := hr.mono (by first | decide | omega)
  have Ah := Ah (P := P) (base := base) T
  have SJ : Room 1 _ := hr.mono (by first | decide | omega)
  have iy := iy (P := P) (base := base) T
  have jV : Room 1 _ := hr.mono (by first | decide | omega)
  have wL := wL (P := P) (base := base) T
  have agT : Room 4 _ := hr.mono (by first | decide | omega)
  have RB : Room (4 + 1) _ := hr.mono (by first | decide | omega)
  have wX := wX (P := P) (base := base) T
  have CV : Room 2 _ := hr.mono (by first | decide | omega)
  have yF := yF (P := P) (base := base) T
  have aaD : Room 1 _ := hr.mono (by first | decide | omega)
  exact (aV (s_asg (bV (Ah.bK SJ ct (Bd.all (n := 1) (ks := []) (is := List.range 1) (fun _ _ _ _ _ _ us ws h1 h2 => match us, ws, h1, h2 with | [_], [], _, _ => rfl))) (by rfl) T.vZ.gl T.vZ.kp (aj (bV (yF.bK aaD ct (Bd.all (n := 2) (ks := []) (is := List.range 2) (fun _ _ _ _ _ _ us ws h1 h2 => match us, ws, h1, h2 with | [_, _], [], _, _ => rfl))) (by rfl) T.yr.gl T.yr.kp (aj (ao (i := 0) rfl (by walk_at "v")) (aj aR aO))) aO)) (cI (i := 1) oH.nd rfl (by walk_at "w")))
    (aV (s_asg (dX (aj (bV (wX.bK CV ct (Bd.all (n := 1) (ks := []) (is := List.range 1) (fun _ _ _ _ _ _ us ws h1 h2 => match us, ws, h1, h2 with | [_], [], _, _ => rfl))) (by rfl) T.rD.gl T.rD.kp (aj (ao (i := 1) rfl (by walk_at "v")) aO)) (aj (bV (wX.bK CV ct (Bd.all (n := 1) (ks := []) (is := List.range 1) (fun _ _ _ _ _ _ us ws h1 h2 => match us, ws, h1, h2 with | [_], [], _, _ => rfl))) (by rfl) T.rD.gl T.rD.kp (aj (ao (i := 1) rfl (by walk_at "v")) aO)) (aj (bV (wX.bK CV ct (Bd.all (n := 1) (ks := []) (is := List.range 1) (fun _ _ _ _ _ _ us ws h1 h2 => match us, ws, h1, h2 with | [_], [], _, _ => rfl))) (by rfl) T.rD.gl T.rD.kp (aj (ao (i := 1) rfl (by walk_at "v")) aO)) aO)))) (cI (i := 2) oH.nd rfl (by walk_at "w")))
    (aV (s_asg (agp (wL.makes T.abo RB ct (Bd.kwo (x := "__init__") (q := "Watch.__init__") (st := jx) (kws := [("things", .non), ("raw", .bl false)]) (ps := ["self", "things", "raw"]) (n := 1) (ks := []) (is := [0, 1, 2]) [("things", .non), ("raw", .bl false)] (by decide) (by decide) (fun _ _ _ _ _ _ us mv ws h1 h2 h3 => match us, mv, ws, h1, h2, h3 with | [_], [_, _], [], _, _, _ => ⟨_, _, _, _, _, _, rfl, rfl, ⟨_, _, _, _, _, _, rfl, rfl, rfl⟩⟩)) (dd := [.non, .bl false]) (fun _ _ => (.cons .non (.cons (.bl _) .nil)))) (by rfl) T.agf T.abo.kp) (cI (i := 3) oH.nd rfl (by walk_at "w")))
    (aV (s_asg (aam (ps := [((eC (.str "goes")), (eC (.str "on"))), ((eC (.str "shut")), (eC (.bl false))), ((eC (.str "due")), (eC (.bl false))), ((eC (.str "lasts")), (bx jA aN)), ((eC (.str "must")), (eC (.str ""))), ((eC (.str "ended")), (eC (.bl false))), ((eC (.str "child")), (eC .non))]) (pps_cons aP aP (pps_cons aP rY (pps_cons aP rY (pps_cons aP (Py aO) (pps_cons aP aP (pps_cons aP rY (pps_cons aP jm pps_nil)))))))) (cI (i := 4) oH.nd rfl (by walk_at "w")))
    (aV (s_asg aR (cI (i := 5) oH.nd rfl (by walk_at "w")))
    (aV (s_if (bQ (cH hr.units) (bV (iy.bK jV ct (Bd.all (n := 2) (ks := []) (is := List.range 2) (fun _ _ _ _ _ _ us ws h1 h2 => match us, ws, h1, h2 with | [_, _], [], _, _ => rfl))) (by rfl) T.gW.gl T.gW.kp (aj (ao (i := 1) rfl (by walk_at "v")) (aj aR aO))) aR (nomark _)) (aV (s_asg (aW hr.units (ao (i := 2) rfl (by walk_at "v")) aR (fun _ _ => rfl)) (jB hr.units (ao (i := 4) rfl (by walk_at "v")) aP))
    (aV (acd ct.po rfl (PB (dX (aj (bZ (aj aP (aj aR (aj aR (aj (aW hr.units (ao (i := 2) rfl (by walk_at "v")) aR (fun _ _ => rfl)) (aj aR aO)))))) (aj (bZ (aj aP (aj aR (aj (aW hr.units (ao (i := 2) rfl (by walk_at "v")) aR (fun _ _ => rfl)) aO)))) (aj (bZ (aj aP (aj aR (aj (bZ (aj aP (aj (aW hr.units (ao (i := 2) rfl (by walk_at "v")) aR (fun _ _ => rfl)) aO))) aO)))) aO))))) (cI (i := 7) oH.nd rfl (by walk_at "w")) (aX (s_if (bQ (jg hr.units) (bV (Aj.bK Sy ct (Bd.all (n := 2) (ks := []) (is := List.range 2) (fun _ _ _ _ _ _ us ws h1 h2 => match us, ws, h1, h2 with | [_, _], [], _, _ => rfl))) (by rfl) T.v7.gl T.v7.kp (aj (ao (i := 3) rfl (by walk_at "v")) (aj (ao (i := 7) rfl (by walk_at "v")) aO))) aP (nomark _)) (aX (s_ret rY)) bY)))
    (aX (s_asg aR (cI (i := 5) oH.nd rfl (by walk_at "w")))))) bY)
    (aV (acd ct.po rfl (PB (fL mQ (aeQ (ao (i := 0) rfl (by walk_at "v")) (Qc aR) (Qc aR)) (dX (aj aR (aj aR (aj aR aO)))))) (cI (i := 6) oH.nd rfl (by walk_at "w")) (aV (s_asg (bV (Rz.bK ae6 ct (Bd.all (n := 3) (ks := []) (is := List.range 3) (fun _ _ _ _ _ _ us ws h1 h2 => match us, ws, h1, h2 with | [_, _, _], [], _, _ => rfl))) (by rfl) T.QW.gl T.QW.kp (aj (bV (Ah.bK SJ ct (Bd.all (n := 1) (ks := []) (is := List.range 1) (fun _ _ _ _ _ _ us ws h1 h2 => match us, ws, h1, h2 with | [_], [], _, _ => rfl))) (by rfl) T.vZ.gl T.vZ.kp (aj (ao (i := 6) rfl (by walk_at "v")) aO)) (aj (ao (i := 4) rfl (by walk_at "v")) (aj (ao (i := 2) rfl (by walk_at "v")) aO)))) (cI (i := 7) oH.nd rfl (by walk_at "w")))
    (aV (s_asg (bV (Ry.bK ae5 ct (Bd.all (n := 2) (ks := []) (is := List.range 2) (fun _ _ _ _ _ _ us ws h1 h2 => match us, ws, h1, h2 with | [_, _], [], _, _ => rfl))) (by rfl) T.QV.gl T.QV.kp (aj (ao (i := 4) rfl (by walk_at "v")) (aj (ao (i := 7) rfl (by walk_at "v")) aO))) (cI (i := 8) oH.nd rfl (by walk_at "w")))
    (aV (s_if (bQ (jg hr.units) (bV (Aj.bK Sy ct (Bd.all (n := 2) (ks := []) (is := List.range 2) (fun _ _ _ _ _ _ us ws h1 h2 => match us, ws, h1, h2 with | [_, _], [], _, _ => rfl))) (by rfl) T.v7.gl T.v7.kp (aj (ao (i := 3) rfl (by walk_at "v")) (aj (ao (i := 7) rfl (by walk_at "v")) aO))) (aW hr.units (dX (aj aP (aj (bZ (aj (ao (i := 5) rfl (by walk_at "v")) (aj (ao (i := 8) rfl (by walk_at "v")) aO))) aO))) (mO ou (by rfl) T.mJ (by decide +kernel) (aj (dR (jg hr.units) (ao (i := 8) rfl (by walk_at "v")) aP (nomark _)) aO)) (fun _ _ => rfl)) (nomark _)) (aX (s_ret rY)) bY)
    (aV (s_if (bQ (cH hr.units) (ao (i := 8) rfl (by walk_at "v")) aP (nomark _)) (aX (uP (bV (G8.bK adV ct (Bd.all (n := 2) (ks := []) (is := List.range 2) (fun _ _ _ _ _ _ us ws h1 h2 => match us, ws, h1, h2 with | [_, _], [], _, _ => rfl))) (by rfl) T.FZ.gl T.FZ.kp (aj (ao (i := 4) rfl (by walk_at "v")) (aj (ao (i := 7) rfl (by walk_at "v")) aO))))) bY)
    (aX (s_asg (fL mQ (ao (i := 5) rfl (by walk_at "v")) aR) (cI (i := 5) oH.nd rfl (by walk_at "w")))))))))
    (aX (s_ret (dR (cH hr.units) (agr (cs := yZ) (ae0 T) (wM.bK Ut ct (Bd.all (n := 1) (ks := []) (is := List.range 1) (fun _ _ _ _ _ _ us ws h1 h2 => match us, ws, h1, h2 with | [_], [], _, _ => rfl))) (ao (i := 3) rfl (by walk_at "v"))) (ao (i := 5) rfl (by walk_at "v")) (nomark _)))))))))))
end
end dN
end
local macro_rules | `(tactic| wp_walk using "ev") => `(tactic| simp only [PD.body, PD.aZ, PD.cX, PD.bU, PD.xU, PD.cD, PD.mK, PD.bW, PD.u6, PD.aQ, PD.eUn, PD.eC, PD.aq, PD.bx, PD.aN, PD.ak, PD.jN, PD.Ay, PD.pN, PD.RQ, PD.qL, PD.mW, PD.dh, PD.u5, PD.Ca, PD.rE, PD.nY, PD.yP, PD.bf, PD.gName, PD.gNil, PD.gCons, PD.lF, PD.qT, PD.Eo, PD.zQ, PD.qM, PD.Cu, PD.Qa, PD.qm, PD.nZ, PD.items, PD.wj, PD.uN, PD.lC, PD.vJ, PD.Res.tM, PD.Res.tO, PD.Res.xT, PD.Res.yM, PD.RS.yN, PD.RS.yO, PD.RS.vH, PD.tQ, Option.map_some, PD.gY, PD.iK, PD.mulM, PD.qU, PD.sG, PD.tX, PD.R7, PD.Cp, PD.P0, PD.Fw, PD.xY, PD.pP, PD.bM, PD.cW, PD.jA, PD.Az, PD.tY, PD.isNon, List.length_cons, List.length_nil, Nat.zero_add, Nat.reduceAdd, Nat.reduceSub, Nat.reduceLeDiff, List.map_cons, List.map_nil, List.append_nil, List.nil_append, List.cons_append, List.replicate_succ, List.replicate_zero, List.getElem?_cons_zero, List.getElem?_cons_succ, List.set_set, List.set_cons_zero, List.set_cons_succ, ↓reduceIte, and_self, if_true, decide_true, decide_false, PD.at0, PD.at1, PD.at2, PD.Rg, PD.Rh, Bool.false_eq_true, if_false, and_true, true_and, beq_self_eq_true, Bool.not_true, Bool.not_false, PD.vK, PD.vM, PD.vN, String.reduceEq])
local macro_rules | `(tactic| wp_walk using "ev", $rs,*) => `(tactic| simp only [PD.body, PD.aZ, PD.cX, PD.bU, PD.xU, PD.cD, PD.mK, PD.bW, PD.u6, PD.aQ, PD.eUn, PD.eC, PD.aq, PD.bx, PD.aN, PD.ak, PD.jN, PD.Ay, PD.pN, PD.RQ, PD.qL, PD.mW, PD.dh, PD.u5, PD.Ca, PD.rE, PD.nY, PD.yP, PD.bf, PD.gName, PD.gNil, PD.gCons, PD.lF, PD.qT, PD.Eo, PD.zQ, PD.qM, PD.Cu, PD.Qa, PD.qm, PD.nZ, PD.items, PD.wj, PD.uN, PD.lC, PD.vJ, PD.Res.tM, PD.Res.tO, PD.Res.xT, PD.Res.yM, PD.RS.yN, PD.RS.yO, PD.RS.vH, PD.tQ, Option.map_some, PD.gY, PD.iK, PD.mulM, PD.qU, PD.sG, PD.tX, PD.R7, PD.Cp, PD.P0, PD.Fw, PD.xY, PD.pP, PD.bM, PD.cW, PD.jA, PD.Az, PD.tY, PD.isNon, List.length_cons, List.length_nil, Nat.zero_add, Nat.reduceAdd, Nat.reduceSub, Nat.reduceLeDiff, List.map_cons, List.map_nil, List.append_nil, List.nil_append, List.cons_append, List.replicate_succ, List.replicate_zero, List.getElem?_cons_zero, List.getElem?_cons_succ, List.set_set, List.set_cons_zero, List.set_cons_succ, ↓reduceIte, and_self, if_true, decide_true, decide_false, PD.at0, PD.at1, PD.at2, PD.Rg, PD.Rh, Bool.false_eq_true, if_false, and_true, true_and, beq_self_eq_true, Bool.not_true, Bool.not_false, PD.vK, PD.vM, PD.vN, String.reduceEq, $[$rs:term],*])
local macro_rules | `(tactic| wp_walk using "ex") => `(tactic| simp only [PD.body, PD.aZ, PD.cX, PD.bU, PD.xU, PD.cD, PD.mK, PD.bW, PD.u6, PD.aQ, PD.eUn, PD.eC, PD.aq, PD.bx, PD.aN, PD.ak, PD.jN, PD.Ay, PD.pN, PD.RQ, PD.qL, PD.mW, PD.dh, PD.u5, PD.Ca, PD.rE, PD.nY, PD.yP, PD.bf, PD.gName, PD.gNil, PD.gCons, PD.lF, PD.qT, PD.Eo, PD.zQ, PD.qM, PD.Cu, PD.Qa, PD.qm, PD.nZ, PD.items, PD.wj, PD.uN, PD.lC, PD.vJ, PD.Res.tM, PD.Res.tO, PD.Res.xT, PD.Res.yM, PD.RS.yN, PD.RS.yO, PD.RS.vH, PD.tQ, Option.map_some, PD.gY, PD.iK, PD.mulM, PD.qU, PD.sG, PD.tX, PD.R7, PD.Cp, PD.P0, PD.Fw, PD.xY, PD.pP, PD.bM, PD.cW, PD.jA, PD.Az, PD.tY, PD.isNon, List.length_cons, List.length_nil, Nat.zero_add, Nat.reduceAdd, Nat.reduceSub, Nat.reduceLeDiff, List.map_cons, List.map_nil, List.append_nil, List.nil_append, List.cons_append, List.replicate_succ, List.replicate_zero, List.getElem?_cons_zero, List.getElem?_cons_succ, List.set_set, List.set_cons_zero, List.set_cons_succ, ↓reduceIte, and_self, if_true, decide_true, decide_false, PD.at0, PD.at1, PD.at2, PD.Rg, PD.Rh, Bool.false_eq_true, if_false, and_true, true_and, beq_self_eq_true, Bool.not_true, Bool.not_false, PD.vK, PD.vM, PD.vN, String.reduceEq, PD.bH, PD.inX, PD.acq, PD.Cr, PD.Ra, PD.inB, PD.toV, PD.yu, PD.Eu, PD.Ew, PD.Qo, PD.Es, PD.Et, PD.lA, PD.jD, PD.iV, PD.GJ, PD.keyOf, PD.zV, PD.zU, Option.bind_some, Option.map_none, Option.bind_none, PD.sH, PD.at3, PD.at4, Option.isSome_some, Option.isSome_none, Bool.or_false, Bool.false_or, Bool.true_or, Bool.or_true, Option.getD_some, Option.getD_none, PD.g8, PD.yS, Bool.or_self])
local macro_rules | `(tactic| wp_walk using "ew") => `(tactic| simp only [PD.body, PD.aZ, PD.cX, PD.bU, PD.xU, PD.cD, PD.mK, PD.bW, PD.u6, PD.aQ, PD.eUn, PD.eC, PD.aq, PD.bx, PD.aN, PD.ak, PD.jN, PD.Ay, PD.pN, PD.RQ, PD.qL, PD.mW, PD.dh, PD.u5, PD.Ca, PD.rE, PD.nY, PD.yP, PD.bf, PD.gName, PD.gNil, PD.gCons, PD.lF, PD.qT, PD.Eo, PD.zQ, PD.qM, PD.Cu, PD.Qa, PD.qm, PD.nZ, PD.items, PD.wj, PD.uN, PD.lC, PD.vJ, PD.Res.tM, PD.Res.tO, PD.Res.xT, PD.Res.yM, PD.RS.yN, PD.RS.yO, PD.RS.vH, PD.tQ, Option.map_some, PD.gY, PD.iK, PD.mulM, PD.qU, PD.sG, PD.tX, PD.R7, PD.Cp, PD.P0, PD.Fw, PD.xY, PD.pP, PD.bM, PD.cW, PD.jA, PD.Az, PD.tY, List.length_cons, List.length_nil, Nat.zero_add, Nat.reduceAdd, Nat.reduceSub, Nat.reduceLeDiff, List.map_cons, List.map_nil, List.append_nil, List.nil_append, List.cons_append, List.replicate_succ, List.replicate_zero, List.getElem?_cons_zero, List.getElem?_cons_succ, List.set_set, List.set_cons_zero, List.set_cons_succ, ↓reduceIte, and_self, if_true, decide_true, decide_false, PD.at0, PD.at1, PD.at2, PD.Rg, PD.Rh, Bool.false_eq_true, if_false, and_true, true_and, beq_self_eq_true, Bool.not_true, Bool.not_false, PD.vK, PD.vM, PD.vN, String.reduceEq, PD.bH, PD.inX, PD.acq, PD.Cr, PD.Ra, PD.inB, PD.toV, PD.yu, PD.Eu, PD.Ew, PD.Qo, PD.Es, PD.Et, PD.lA, PD.jD, PD.iV, PD.GJ, PD.keyOf, PD.zV, PD.zU, Option.bind_some, Option.map_none, Option.bind_none, PD.sH, PD.at3, PD.at4, Option.isSome_some, Option.isSome_none, Bool.or_false, Bool.false_or, Bool.true_or, Bool.or_true, Option.getD_some, Option.getD_none, PD.g8, PD.yS, Bool.or_self])
local macro_rules | `(tactic| wp_walk using "ex", $rs,*) => `(tactic| simp only [PD.body, PD.aZ, PD.cX, PD.bU, PD.xU, PD.cD, PD.mK, PD.bW, PD.u6, PD.aQ, PD.eUn, PD.eC, PD.aq, PD.bx, PD.aN, PD.ak, PD.jN, PD.Ay, PD.pN, PD.RQ, PD.qL, PD.mW, PD.dh, PD.u5, PD.Ca, PD.rE, PD.nY, PD.yP, PD.bf, PD.gName, PD.gNil, PD.gCons, PD.lF, PD.qT, PD.Eo, PD.zQ, PD.qM, PD.Cu, PD.Qa, PD.qm, PD.nZ, PD.items, PD.wj, PD.uN, PD.lC, PD.vJ, PD.Res.tM, PD.Res.tO, PD.Res.xT, PD.Res.yM, PD.RS.yN, PD.RS.yO, PD.RS.vH, PD.tQ, Option.map_some, PD.gY, PD.iK, PD.mulM, PD.qU, PD.sG, PD.tX, PD.R7, PD.Cp, PD.P0, PD.Fw, PD.xY, PD.pP, PD.bM, PD.cW, PD.jA, PD.Az, PD.tY, PD.isNon, List.length_cons, List.length_nil, Nat.zero_add, Nat.reduceAdd, Nat.reduceSub, Nat.reduceLeDiff, List.map_cons, List.map_nil, List.append_nil, List.nil_append, List.cons_append, List.replicate_succ, List.replicate_zero, List.getElem?_cons_zero, List.getElem?_cons_succ, List.set_set, List.set_cons_zero, List.set_cons_succ, ↓reduceIte, and_self, if_true, decide_true, decide_false, PD.at0, PD.at1, PD.at2, PD.Rg, PD.Rh, Bool.false_eq_true, if_false, and_true, true_and, beq_self_eq_true, Bool.not_true, Bool.not_false, PD.vK, PD.vM, PD.vN, String.reduceEq, PD.bH, PD.inX, PD.acq, PD.Cr, PD.Ra, PD.inB, PD.toV, PD.yu, PD.Eu, PD.Ew, PD.Qo, PD.Es, PD.Et, PD.lA, PD.jD, PD.iV, PD.GJ, PD.keyOf, PD.zV, PD.zU, Option.bind_some, Option.map_none, Option.bind_none, PD.sH, PD.at3, PD.at4, Option.isSome_some, Option.isSome_none, Bool.or_false, Bool.false_or, Bool.true_or, Bool.or_true, Option.getD_some, Option.getD_none, PD.g8, PD.yS, Bool.or_self, $[$rs:term],*])
local macro_rules | `(tactic| wp_walk using "ew", $rs,*) => `(tactic| simp only [PD.body, PD.aZ, PD.cX, PD.bU, PD.xU, PD.cD, PD.mK, PD.bW, PD.u6, PD.aQ, PD.eUn, PD.eC, PD.aq, PD.bx, PD.aN, PD.ak, PD.jN, PD.Ay, PD.pN, PD.RQ, PD.qL, PD.mW, PD.dh, PD.u5, PD.Ca, PD.rE, PD.nY, PD.yP, PD.bf, PD.gName, PD.gNil, PD.gCons, PD.lF, PD.qT, PD.Eo, PD.zQ, PD.qM, PD.Cu, PD.Qa, PD.qm, PD.nZ, PD.items, PD.wj, PD.uN, PD.lC, PD.vJ, PD.Res.tM, PD.Res.tO, PD.Res.xT, PD.Res.yM, PD.RS.yN, PD.RS.yO, PD.RS.vH, PD.tQ, Option.map_some, PD.gY, PD.iK, PD.mulM, PD.qU, PD.sG, PD.tX, PD.R7, PD.Cp, PD.P0, PD.Fw, PD.xY, PD.pP, PD.bM, PD.cW, PD.jA, PD.Az, PD.tY, List.length_cons, List.length_nil, Nat.zero_add, Nat.reduceAdd, Nat.reduceSub, Nat.reduceLeDiff, List.map_cons, List.map_nil, List.append_nil, List.nil_append, List.cons_append, List.replicate_succ, List.replicate_zero, List.getElem?_cons_zero, List.getElem?_cons_succ, List.set_set, List.set_cons_zero, List.set_cons_succ, ↓reduceIte, and_self, if_true, decide_true, decide_false, PD.at0, PD.at1, PD.at2, PD.Rg, PD.Rh, Bool.false_eq_true, if_false, and_true, true_and, beq_self_eq_true, Bool.not_true, Bool.not_false, PD.vK, PD.vM, PD.vN, String.reduceEq, PD.bH, PD.inX, PD.acq, PD.Cr, PD.Ra, PD.inB, PD.toV, PD.yu, PD.Eu, PD.Ew, PD.Qo, PD.Es, PD.Et, PD.lA, PD.jD, PD.iV, PD.GJ, PD.keyOf, PD.zV, PD.zU, Option.bind_some, Option.map_none, Option.bind_none, PD.sH, PD.at3, PD.at4, Option.isSome_some, Option.isSome_none, Bool.or_false, Bool.false_or, Bool.true_or, Bool.or_true, Option.getD_some, Option.getD_none, PD.g8, PD.yS, Bool.or_self, $[$rs:term],*])
noncomputable section
namespace dN
open PySem PySem.Spec PyProof.Rows L2 PD
def Well (n : Nat) (h : AH) (k : Nat) : Prop := ∃ a b c : Int, h[n]? = some (.lst [.int a, .int b, .int c]) ∧ 0 ≤ b ∧ b < 2147483647 ∧ 0 ≤ c ∧ c ≤ k
def Fr (n : Nat) (h h' : AH) : Prop := ∃ x, h' = h.set n x
theorem Fr.trans {n : Nat} {h h1 h2 : AH} (a : Fr n h h1) (b : Fr n h1 h2) : Fr n h h2 := by
  obtain ⟨x, rfl⟩ := a
  obtain ⟨y, rfl⟩ := b
  exact ⟨y, by rw [List.set_set]⟩
theorem lg {i : Int} {k : Nat} (h0 : 0 ≤ i) (h : i < 2 ^ k) : i.natAbs.log2 ≤ k := by
  by_cases z : i.natAbs = 0
  · rw [z]
    exact Nat.zero_le _
  · apply Nat.le_of_lt
    rw [Nat.log2_lt z]
    have e : (i.natAbs : Int) = i := Int.natAbs_of_nonneg h0
    have : (i.natAbs : Int) < ((2 ^ k : Nat) : Int) := by
      rw [e]
      push_cast
      exact h
    exact Int.ofNat_lt.mp this
theorem Well.lt {n k : Nat} {h : AH} (w : Well n h k) : n < h.length := by
  obtain ⟨a, b, c, e, _⟩ := w
  exact (List.getElem?_eq_some_iff.mp e).1
theorem Well.mono {n j k : Nat} {h : AH} (w : Well n h j) (l : j ≤ k) : Well n h k := by
  obtain ⟨a, b, c, e1, b0, b1, c0, c1⟩ := w
  exact ⟨a, b, c, e1, b0, b1, c0, by omega⟩
theorem abN (c : Int) (h : AH) : ∃ h', kY [.int c] h = .ok (.ref h.length) h' ∧ Well h.length h' 0 ∧ ∃ x, h' = h ++ [x] := by
  have p : (0 : Int) < 2147483647 := by decide
  have b0 := Int.emod_nonneg c (show (2147483647 : Int) ≠ 0 by decide)
  have b1 := Int.emod_lt_of_pos c p
  have pw : (0 : Int) ≤ 18 ∧ (18 : Int) ≤ 1000000 ∧ (10 : Int).natAbs < 2 ^ 64 := by decide
  have s0 : (decide (-(2 ^ 64) < (0 : Int) ∧ (0 : Int) < 2 ^ 64)) = true := by decide
  have s1 : (decide (-(2 ^ 64) < (1 : Int) ∧ (1 : Int) < 2 ^ 64)) = true := by decide
  have wf : ∀ a : Int, Well h.length (h ++ [.lst [.int a, .int (c % 2147483647), .int 0]]) 0 := fun a => ⟨a, c % 2147483647, 0, by simp, b0, b1, by decide, by decide⟩
  by_cases hc : (10 : Int) ^ (18 : Int).toNat ≤ c
  · refine ⟨_, ?_, wf (c * 1), _, rfl⟩
    unfold kY
    (wp_walk using "ex", aM, pw, hc, cU, s1, p)
  · refine ⟨_, ?_, wf (c * 0), _, rfl⟩
    unfold kY
    (wp_walk using "ex", aM, pw, hc, cU, s0, p)
theorem ux {n k : Nat} {h : AH} {m : Int} (w : Well n h k) (hk : k < 2 ^ 40) (hm : 0 < m) (hm2 : m < 2 ^ 200) : ∃ r h', gj [.ref n, .int m] h = .ok (.int r) h' ∧ 0 ≤ r ∧ r < m ∧ Well n h' (k + 1) ∧ Fr n h h' := by
  have hn := w.lt
  obtain ⟨a, b, c, e, b0, b1, c0, c1⟩ := w
  have es : ∀ x, (h.set n x)[n]? = some x := fun x => by rw [List.getElem?_set_self hn]
  by_cases ha : 0 < a
  · have lm : m.natAbs.log2 < 9000 := by have := lg (by omega) hm2; omega
    refine ⟨a % m, h.set n (.lst [.int (a / m), .int b, .int c]), ?_, Int.emod_nonneg _ (by omega), Int.emod_lt_of_pos _ hm, ⟨a / m, b, c, es _, b0, b1, c0, by omega⟩, ⟨_, rfl⟩⟩
    unfold gj
    (wp_walk using "ex", aM, e, ha, hm, lm)
  · have q2 : (1009 : Int).natAbs.log2 < 9000 := by decide +kernel
    have q3 : (2003 : Int).natAbs.log2 < 9000 := by decide +kernel
    have q4 : (7 : Int).natAbs.log2 < 9000 := by decide +kernel
    have p1 : (0 : Int) < 2147483629 := by decide
    have p2 : (0 : Int) < 2147483587 := by decide
    have p3 : (0 : Int) < 2147483579 := by decide
    have p4 : (0 : Int) < 1009 := by decide
    have p5 : (0 : Int) < 2003 := by decide
    have p6 : (0 : Int) < 7 := by decide
    have m1 : (decide (-(2 ^ 64) < (7919 : Int) ∧ (7919 : Int) < 2 ^ 64)) = true := by decide
    have pw : (0 : Int) ≤ 5 ∧ (5 : Int) ≤ 1000000 ∧ (b + 7919 * (c + 1) + 1).natAbs < 2 ^ 64 := ⟨by decide, by decide, by omega⟩
    have x0 := Int.emod_nonneg ((b + 7919 * (c + 1) + 1) ^ (5 : Int).toNat) (show (2147483629 : Int) ≠ 0 by decide)
    have x1 := Int.emod_lt_of_pos ((b + 7919 * (c + 1) + 1) ^ (5 : Int).toNat) p1
    generalize hx : (b + 7919 * (c + 1) + 1) ^ (5 : Int).toNat % 2147483629 = x at x0 x1
    have m2 : (decide (-(2 ^ 64) < x ∧ x < 2 ^ 64)) = true := decide_eq_true ⟨by omega, by omega⟩
    have y0 := Int.emod_nonneg (x * (x / 1009 + 69621 + (c + 1))) (show (2147483587 : Int) ≠ 0 by decide)
    have y1 := Int.emod_lt_of_pos (x * (x / 1009 + 69621 + (c + 1))) p2
    generalize hy : x * (x / 1009 + 69621 + (c + 1)) % 2147483587 = y at y0 y1
    have m3 : (decide (-(2 ^ 64) < y ∧ y < 2 ^ 64)) = true := decide_eq_true ⟨by omega, by omega⟩
    refine ⟨y * (y / 2003 + 40692) % 2147483579 / 7 % m, h.set n (.lst [.int a, .int b, .int (c + 1)]), ?_, Int.emod_nonneg _ (by omega), Int.emod_lt_of_pos _ hm, ⟨a, b, c + 1, es _, b0, b1, by omega, by omega⟩, ⟨_, rfl⟩⟩
    unfold gj
    (wp_walk using "ex", aM, e, ha, es, hm, q2, q3, q4, p1, p2, p3, p4, p5, p6, m1, pw, hx, m2, hy, m3)
theorem abO {α : Type} {ds : List α} {r : Int} (h0 : 0 ≤ r) (h1 : r < ds.length) : ∃ d ∈ ds, atI ds r = some d := by
  have hr : r.toNat < ds.length := by omega
  refine ⟨ds[r.toNat], List.getElem_mem hr, ?_⟩
  unfold atI ixN
  rw [if_pos h0, if_pos h1]
  show ds[r.toNat]? = _
  exact List.getElem?_eq_getElem hr
theorem RD {n k : Nat} {h : AH} {ds : List D} (w : Well n h k) (hk : k < 2 ^ 40) (hne : 0 < ds.length) (hl : ds.length < 1000) : ∃ d h', oX [.ref n, .lst ds] h = .ok d h' ∧ d ∈ ds ∧ Well n h' (k + 1) ∧ Fr n h h' := by
  obtain ⟨r, h', e, r0, r1, w', f⟩ := ux (m := (ds.length : Nat)) w hk (by omega) (by omega)
  obtain ⟨d, hd, ea⟩ := abO r0 r1
  refine ⟨d, h', ?_, hd, w', f⟩
  unfold oX
  (wp_walk using "ex", aM, e, ea)
def lets : List Nat := ("abcdefghijklmnopqrstuvwxyz" : Str).cps.toList
def Lw (z : Str) : Prop := ∀ c ∈ z.cps.toList, c ∈ lets
def Nm (z : Str) : Prop := Lw z ∧ 1 ≤ z.length ∧ z.length ≤ 8
theorem aaE : ("abcdefghijklmnopqrstuvwxyz" : Str).length = 26 := by decide +kernel
theorem aik {c : Nat} (h : c ∈ lets) : Lw ⟨#[c]⟩ := fun d hd => by
  have e : d = c := List.mem_singleton.mp hd
  exact e ▸ h
def wlc : ME := (aQ bH (aq 1) (bf 2 0 gj (ak (aq 0) (ak (eC (.int (26))) aN)) aN))
theorem Qw {n : Nat} : ∀ (ds acc : List D) (h : AH) (k : Nat), Well n h k → k + ds.length < 2 ^ 40 → acc.length + ds.length < 1000 →
    ∃ (ys : List Str) (h' : AH), cY (PD.gName 2) nY wlc [2] [some (.ref n), some (.str "abcdefghijklmnopqrstuvwxyz"), none] acc ds h = .ok (acc ++ ys.map D.str) h' ∧
      (∀ y ∈ ys, Lw y ∧ y.length = 1) ∧ ys.length = ds.length ∧ Well n h' (k + ds.length) ∧ Fr n h h'
  | [], acc, h, k, w, _, _ => ⟨[], h, by simp only [cY, List.map_nil, List.append_nil], by simp, rfl, w, ⟨_, (List.set_getElem_self w.lt).symm⟩⟩
  | d :: ds, acc, h, k, w, hk, hl => by
    simp only [List.length_cons] at hk hl
    obtain ⟨r, h1, e, r0, r1, w1, f1⟩ := ux (m := 26) w (by omega) (by decide) (by decide)
    obtain ⟨c, hc, ea⟩ := abO (ds := ("abcdefghijklmnopqrstuvwxyz" : Str).cps.toList) r0 (by rw [← GB.str_len, aaE]; exact r1)
    obtain ⟨ys, h2, e2, o2, l2, w2, f2⟩ := Qw ds (acc ++ [.str ⟨#[c]⟩]) h1 (k + 1) w1 (by omega) (by simp only [List.length_append, List.length_cons, List.length_nil]; omega)
    have la : acc.length < 16777216 := by omega
    have l26 : ("abcdefghijklmnopqrstuvwxyz" : Str).length ≤ 16777216 := by rw [aaE]; decide
    refine ⟨⟨#[c]⟩ :: ys, h2, ?_, ?_, by simp [l2], by rw [List.length_cons, show k + (ds.length + 1) = k + 1 + ds.length by omega]; exact w2, f1.trans f2⟩
    · unfold cY wlc
      (wp_walk using "ex", aM, e, ea, la, l26)
      rw [show (aQ bH (aq 1) (bf 2 0 gj (ak (aq 0) (ak (eC (.int (26))) aN)) aN)) = wlc from rfl, e2, List.append_assoc]
      rfl
    · intro y hy
      rcases List.mem_cons.mp hy with rfl | hy
      · exact ⟨aik hc, rfl⟩
      · exact o2 y hy
theorem strs_map : ∀ ys : List Str, strsOf (ys.map D.str) = some ys
  | [] => rfl
  | y :: ys => by
    show (strsOf (ys.map D.str)).map (y :: ·) = _
    rw [strs_map ys]
    rfl
theorem CW (lo : Int) (n : Nat) : (xW lo n).length = n := by simp [xW]
theorem agG {ys : List Str} (h : ∀ y ∈ ys, Lw y) : Lw (Txt.join "" ys) := fun c hc => by
  rw [GB.abl] at hc
  obtain ⟨l, hl, hc⟩ := List.mem_flatten.mp hc
  obtain ⟨y, hy, rfl⟩ := List.mem_map.mp hl
  exact h y hy c hc
theorem RG {n k : Nat} {h : AH} (w : Well n h k) (hk : k + 10 < 2 ^ 40) : ∃ z h', lY [.ref n] h = .ok (.str z) h' ∧ Nm z ∧ Well n h' (k + 9) ∧ Fr n h h' := by
  obtain ⟨r, h1, e1, r0, r1, w1, f1⟩ := ux (m := 8) w (by omega) (by decide) (by decide)
  obtain ⟨ys, h', e, o, l, w', f⟩ := Qw (n := n) (xW 0 (1 + r).toNat) [] h1 (k + 1) w1 (by rw [CW]; omega) (by rw [CW, List.length_nil]; omega)
  rw [CW] at l w'
  rw [List.nil_append] at e
  have hr : -(2 ^ 62) ≤ 1 + r ∧ 1 + r < 2 ^ 62 := ⟨by omega, by omega⟩
  have hs : (ys.map (·.length)).sum = ys.length := GB.Vg fun y hy => (o y hy).2
  have hj : (ys.map (·.length)).sum + ys.length * ("" : Str).length ≤ 16777216 := by
    rw [hs, show ("" : Str).length = 0 from rfl]
    omega
  have jl : (Txt.join "" ys).length = ys.length := by rw [GB.aer, hs]
  refine ⟨Txt.join "" ys, h', ?_, ⟨agG fun y hy => (o y hy).1, by omega, by omega⟩, w'.mono (by omega), f1.trans f⟩
  unfold lY
  unfold wlc at e
  (wp_walk using "ex", aM, e1, acg, hr, e, isT, joinM, strs_map, hj)
theorem Fr.app {n : Nat} {g t h' : AH} (f : Fr n (g ++ t) h') (hn : n < g.length) : ∃ g', h' = g' ++ t ∧ Fr n g g' ∧ ∀ k, Well n h' k → Well n g' k := by
  obtain ⟨x, rfl⟩ := f
  refine ⟨g.set n x, List.set_append_left _ _ hn, ⟨x, rfl⟩, ?_⟩
  rintro k ⟨a, b, c, e, q⟩
  rw [List.set_append_left _ _ hn, List.getElem?_append_left (by rw [List.length_set]; exact hn)] at e
  exact ⟨a, b, c, e, q⟩
theorem Well.app {n k : Nat} {g : AH} (w : Well n g k) (t : AH) : Well n (g ++ t) k := by
  obtain ⟨a, b, c, e, q⟩ := w
  exact ⟨a, b, c, by rw [List.getElem?_append_left (List.getElem?_eq_some_iff.mp e).1, e], q⟩
theorem Fr.len {n : Nat} {g g' : AH} (f : Fr n g g') : g'.length = g.length := by
  obtain ⟨x, rfl⟩ := f
  rw [List.length_set]
end dN
noncomputable section
namespace dN
open PySem PySem.Spec PyProof.Rows L2 PD
theorem ga {h l : AH} {k : Nat} : (h ++ l)[h.length + k]? = l[k]? := by
  rw [List.getElem?_append_right (Nat.le_add_right _ _), Nat.add_sub_cancel_left]
theorem ga0 {h l : AH} : (h ++ l)[h.length]? = l[0]? := ga (k := 0)
theorem sa {h l : AH} {k : Nat} {c : Cell} : (h ++ l).set (h.length + k) c = h ++ l.set k c := by
  rw [List.set_append_right _ _ (Nat.le_add_right _ _), Nat.add_sub_cancel_left]
theorem SM {h l : AH} {c : Cell} : (h ++ l).set h.length c = h ++ l.set 0 c := sa (k := 0)
theorem fW {x : Str} {v : D} {r : List (Str × D)} : List.lookup x ((x, v) :: r) = some v := by
  simp [List.lookup]
theorem fX {s t : String} {v : D} {r : List (Str × D)} : List.lookup (PySem.Str.ofString s) ((PySem.Str.ofString t, v) :: r) = if s = t then some v else List.lookup (PySem.Str.ofString s) r := by
  by_cases e : s = t
  · subst e
    simp [List.lookup]
  · rw [if_neg e]
    have n : ¬ PySem.Str.ofString s = PySem.Str.ofString t := fun z => e (vL z)
    have n2 : (PySem.Str.ofString s == PySem.Str.ofString t) = false := by simpa using n
    simp [List.lookup, n2]
theorem eY {s t : String} {v w : D} {r : List (Str × D)} : putD (PySem.Str.ofString s) v ((PySem.Str.ofString t, w) :: r) = if t = s then (PySem.Str.ofString t, v) :: r else (PySem.Str.ofString t, w) :: putD (PySem.Str.ofString s) v r := by
  by_cases e : t = s
  · subst e
    simp [putD]
  · rw [if_neg e]
    have n : ¬ PySem.Str.ofString t = PySem.Str.ofString s := fun z => e (vL z)
    simp [putD, n]
theorem eZ {f : Str} {v : D} : putD f v [] = [(f, v)] := rfl
theorem d9 {s t : String} : (PySem.Str.ofString s = PySem.Str.ofString t) = (s = t) := by
  apply propext
  exact ⟨vL, fun z => by rw [z]⟩
theorem pk3 {a b c : D} : GB.picked [a, b, c] [0, 1, 2] = [a, b, c] := rfl
def iW (bg cl en : D) (ow sh : Bool) (sta ha la : D) : List (Str × D) := [("beginner", bg), ("called", cl), ("ending", en), ("owed", .bl ow), ("shut", .bl sh), ("state", sta), ("had", ha), ("lasts", la)]
theorem SN (h : AH) (bg cl : D) : oh "Seen" (fun ds => jU (GB.picked (ds ++ []) [0, 1, 2])) [bg, cl] h = .ok (.ref h.length) (h ++ [.ins "Seen" (iW bg cl .non false false (.tup [.str "on"]) (.ref (h.length + 1)) (.ref (h.length + 2))), .lst [], .lst []]) := by
  unfold oh jU iW
  (wp_walk using "ex", aM, pk3, bO, eX, acw, acv, Qq, ga, ga0, sa, SM, eZ, eY, d9, List.append_assoc, List.length_append, List.mem_singleton, Nat.reduceLT)
theorem lG {h : AH} {n : Nat} {c : Cell} (e : h[n]? = some c) : h.set n c = h := by
  obtain ⟨hn, rfl⟩ := List.getElem?_eq_some_iff.mp e
  exact List.set_getElem_self hn
theorem ae7 {h : AH} {a b : Nat} (ha : h[a]? = some (.dict [])) (hb : h[b]? = some (.dict [])) : sU [.ref a, .ref b] h = .ok .non h := by
  have la := (List.getElem?_eq_some_iff.mp ha).1
  have lb := (List.getElem?_eq_some_iff.mp hb).1
  have sa1 : ∀ c, (h.set a c)[a]? = some c := fun c => by rw [List.getElem?_set_self la]
  have sb1 : ∀ c, (h.set b c)[b]? = some c := fun c => by rw [List.getElem?_set_self lb]
  unfold sU
  (wp_walk using "ex", aM, pC, ha, hb, itI, sa1, sb1, cY, allM, dM, items, bJ, lG ha, lG hb, List.all_nil)
def cQ (b : Nat) (raw : Bool) (must : D) (many : Int) : List (Str × D) := [("sizes", .ref (b + 4)), ("raw", .bl raw), ("tasks", .ref (b + 5)), ("latest", .ref (b + 9)), ("homes", .ref (b + 10)), ("must", must), ("many", .int many)]
theorem ajM {a b c : D} : GB.picked [a, b, c] [0, 2, 1] = [a, c, b] := rfl
theorem acG (h : AH) (raw : Bool) : oh "Watch" (fun ds => kW (GB.picked (ds ++ [.non]) [0, 2, 1])) [.bl raw] h = .ok (.ref h.length) (h ++
    [.ins "Watch" (cQ h.length raw .non 0), .dict [], .dict [], .dict [], .dict [], .dict [(.inl 0, .ref (h.length + 6))], .ins "Seen" (iW .non .non .non false false (.tup [.str "on"]) (.ref (h.length + 7)) (.ref (h.length + 8))), .lst [], .lst [], .dict [], .dict []]) := by
  have tn : ∀ h : AH, tTru .non h = .ok false h := fun _ => rfl
  have t1 := ae7 (h := h ++ [.ins "Watch" [], .dict [], .dict []]) (a := h.length + 1) (b := h.length + 2) (by rw [ga]; rfl) (by rw [ga]; rfl)
  have s1 := SN (h ++ [.ins "Watch" [("sizes", .ref (h.length + 4)), ("raw", .bl raw)], .dict [], .dict [], .dict [], .dict [], .dict []]) .non .non
  simp only [List.append_assoc, List.length_append, List.length_cons, List.length_nil, Nat.zero_add, Nat.reduceAdd, Nat.add_assoc, List.cons_append, List.nil_append] at s1
  unfold oh kW cQ
  generalize (oh "Seen" fun ds => jU (GB.picked (ds ++ []) [0, 1, 2])) = S1 at s1 ⊢
  (wp_walk using "ex", aM, ajM, tn, sH, t1, s1, bO, eX, ga, ga0, sa, SM, eZ, eY, d9, List.append_assoc, List.length_append, List.mem_singleton, Nat.reduceLT, Qs, qW, uR, keysOf, uQ, List.foldl_cons, List.foldl_nil, Nat.add_assoc, gR, List.any_nil)
end dN
noncomputable section
namespace dN
open PySem PySem.Spec PyProof.Rows L2 PD
theorem kt4 : kitB "tuple" "tuple" = some true := by decide +kernel
theorem kt5 : kitB "str" "str" = some true := by decide +kernel
theorem kt6 : kitB "int" "int" = some true := by decide +kernel
theorem kt7 : kitB "int" "bool" = some false := by decide +kernel
theorem pD {ds : List D} {h : AH} : qG wC [.tup ds, .ty "tuple"] h = some (.bl true, h) := by
  simp only [qG, Rb, Ba, kt4, Option.map_some]
theorem lH {s : Str} {h : AH} : qG wC [.str s, .ty "str"] h = some (.bl true, h) := by
  simp only [qG, Rb, Ba, kt5, Option.map_some]
theorem ail {i : Int} {h : AH} : qG wC [.int i, .ty "int"] h = some (.bl true, h) := by
  simp only [qG, Rb, Ba, kt6, Option.map_some]
theorem ain {i : Int} {h : AH} : qG wC [.int i, .ty "bool"] h = some (.bl false, h) := by
  simp only [qG, Rb, Ba, kt7, Option.map_some]
theorem abP {g : MG} {f : ME} {own : List Nat} {e : En} {h : AH} {F : D → D} : ∀ (ds acc : List D), (∀ d ∈ ds, ∃ e1, g d (lC e own) h = .ok e1 h ∧ f e1 h = .ok (F d) h) → acc.length + ds.length ≤ 16777216 → cY g nY f own e acc ds h = .ok (acc ++ ds.map F) h
  | [], acc, _, _ => by simp only [cY, List.map_nil, List.append_nil]
  | d :: ds, acc, q, l => by
    obtain ⟨e1, a, b⟩ := q d List.mem_cons_self
    rw [List.length_cons] at l
    unfold cY
    rw [a]
    show (match f e1 h with | .ok x h3 => if acc.length < 16777216 then cY g nY f own e (acc ++ [x]) ds h3 else .stuck | _ => .stuck) = _
    rw [b]
    show (if acc.length < 16777216 then cY g nY f own e (acc ++ [F d]) ds h else .stuck) = _
    rw [if_pos (by omega), abP ds (acc ++ [F d]) (fun d hd => q d (List.mem_cons_of_mem _ hd)) (by simp only [List.length_append, List.length_cons, List.length_nil]; omega), List.map_cons, List.append_assoc]
    rfl
theorem SQ {α : Type} (F : α → Bool) : ∀ l : List α, bJ (l.map fun a => D.bl (F a)) = some (l.map F)
  | [] => rfl
  | a :: l => by
    show (bJ (l.map fun a => D.bl (F a))).map (F a :: ·) = _
    rw [SQ F l]
    rfl
def Num (i : Int) : Prop := 1 - 10 ^ 40 ≤ i ∧ i ≤ 10 ^ 40 - 1
theorem agH {e0 : Option D} {h : AH} (cs : List Nat) (hc : ∀ c ∈ cs, c ∈ lets) (hl : cs.length ≤ 1000) :
    cY (PD.gName 1) nY (aQ Cr (aq 1) (eC (.str "abcdefghijklmnopqrstuvwxyz"))) [1] [e0, none] [] (cs.map fun c => .str ⟨#[c]⟩) h = .ok (cs.map fun _ => .bl true) h := by
  have := abP (g := PD.gName 1) (f := aQ Cr (aq 1) (eC (.str "abcdefghijklmnopqrstuvwxyz"))) (own := [1]) (e := [e0, none]) (h := h) (F := fun _ => .bl true) (cs.map fun c => .str ⟨#[c]⟩) [] (by
    intro d hd
    obtain ⟨c, hcs, rfl⟩ := List.mem_map.mp hd
    refine ⟨[e0, some (.str ⟨#[c]⟩)], rfl, ?_⟩
    have q : decide (c ∈ ("abcdefghijklmnopqrstuvwxyz" : Str).cps.toList) = true := decide_eq_true (hc c hcs)
    (wp_walk using "ex", aM, q)) (by simp; omega)
  rw [this, List.nil_append, List.map_map]
  rfl
theorem Qx {s : Str} (n : Nm s) (h : AH) : pX [.str s] h = .ok (.bl true) h := by
  obtain ⟨lw, l1, l2⟩ := n
  have s16 : s.length ≤ 16777216 := by omega
  have i1 : (1 : Int) ≤ (s.length : Nat) := by omega
  have i2 : ((s.length : Nat) : Int) ≤ 8 := by omega
  have hl := agH (e0 := some (.str s)) (h := h) s.cps.toList lw (by rw [← GB.str_len]; omega)
  have hb := SQ (fun _ : Nat => true) s.cps.toList
  have ha : (s.cps.toList.map fun _ => true).all id = true := by simp
  unfold pX
  (wp_walk using "ex", aM, lH, s16, i1, i2, hl, allM, dM, hb, ha)
theorem abg {i a b : Int} (h1 : a ≤ i) (h2 : i ≤ b) (h : AH) : sS [.int i, .int a, .int b] h = .ok (.bl true) h := by
  unfold sS
  (wp_walk using "ex", aM, ail, ain, h1, h2)
theorem CZ {i : Int} (n : Num i) (h : AH) : oR [.int i] h = .ok (.bl true) h := by
  have p : (0 : Int) ≤ 40 ∧ (40 : Int) ≤ 1000000 ∧ (10 : Int).natAbs < 2 ^ 64 := by decide
  have q : (10 : Int) ^ (40 : Int).toNat = 10 ^ 40 := rfl
  unfold oR
  (wp_walk using "ex", aM, p, q, pk3, abg n.1 n.2)
def Sm (i : Int) : Prop := 0 ≤ i ∧ i < 1000
theorem Sm.num {i : Int} (h : Sm i) : Num i := by
  obtain ⟨a, b⟩ := h
  have p : (1000 : Int) ≤ 10 ^ 40 := by decide
  exact ⟨by omega, by omega⟩
theorem abh {i : Int} (n : Sm i) (h : AH) : vC [.int i] h = .ok (.bl true) h := by
  unfold vC
  (wp_walk using "ex", aM, CZ n.num, ge_iff_le, n.1)
theorem uX {i : Int} (n : Sm i) (h : AH) : jd [.str "task", .int i] h = .ok (.bl true) h := by
  unfold jd
  (wp_walk using "ex", aM, abh n)
theorem adX (h : AH) : jd [.str "doer", .non] h = .ok (.bl true) h := by
  unfold jd
  (wp_walk using "ex", aM)
theorem yg {s : Str} (n : Nm s) (h : AH) : jd [.str "name", .str s] h = .ok (.bl true) h := by
  unfold jd
  (wp_walk using "ex", aM, Qx n)
theorem oK {s t : String} {h : AH} : cP (.tup [.str (PySem.Str.ofString s)]) (.tup [.str (PySem.Str.ofString t)]) h = some (.bl (decide (s = t)), h) := by
  show (ji h _ _).map _ = _
  have e : ji h (.tup [.str (PySem.Str.ofString s)]) (.tup [.str (PySem.Str.ofString t)]) = some (decide (s = t)) := by
    have sh : ∀ s : String, SeqAt.shaped (.tuple [.str (PySem.Str.ofString s)]) = true := fun s => by
      unfold SeqAt.shaped PyData.canLay0 PyData.depth PyData.canLayAll0 PyData.canLay0 PyData.canLayAll0
      rw [GB.ju (GB.cA s)]
      rfl
    show (if SeqAt.shaped (.tuple [.str (PySem.Str.ofString s)]) = true ∧ SeqAt.shaped (.tuple [.str (PySem.Str.ofString t)]) = true then some (PyData.eqv (.tuple [.str (PySem.Str.ofString s)]) (.tuple [.str (PySem.Str.ofString t)])) else none) = _
    rw [if_pos ⟨sh s, sh t⟩]
    have e2 : PyData.eqv (.tuple [.str (PySem.Str.ofString s)]) (.tuple [.str (PySem.Str.ofString t)]) = ((PySem.Str.ofString s == PySem.Str.ofString t) && true) := rfl
    rw [e2, uf, Bool.and_true]
  rw [e]
  rfl
theorem adY {s t : String} {h : AH} : eU (.tup [.str (PySem.Str.ofString s)]) (.tup [.str (PySem.Str.ofString t)]) h = some (.bl (!decide (s = t)), h) := by
  have e := oK (s := s) (t := t) (h := h)
  unfold cP at e
  unfold eU
  cases z : ji h (.tup [.str (PySem.Str.ofString s)]) (.tup [.str (PySem.Str.ofString t)]) with
  | none => rw [z] at e; cases e
  | some b =>
    rw [z] at e
    simp only [Option.map_some, Option.some.injEq, Prod.mk.injEq, D.bl.injEq, and_true] at e ⊢
    rw [e]
theorem Qy {k : Bool} (h : AH) : ni [.tup [.str (if k then "killed" else "done")]] h = .ok (.bl true) h := by
  unfold ni
  cases k <;> (wp_walk using "ex", aM, oK)
end dN
noncomputable section
namespace dN
open PySem PySem.Spec PyProof.Rows L2 PD
inductive Ot where
  | done | killed | failed (s : Str)
def Ot.enc : Ot → D
  | .done => .tup [.str "done"]
  | .killed => .tup [.str "killed"]
  | .failed s => .tup [.str "failed", .str s]
inductive Rw where
  | last | lasted | masked | opened | landed | kill | failed (s : Str) | rescued (s : Str) | tell (i : Int) | ended (o : Ot)
def Rw.enc : Rw → D
  | .last => .tup [.str "last", .int 0]
  | .lasted => .tup [.str "lasted", .int 0]
  | .masked => .tup [.str "masked", .int 0]
  | .opened => .tup [.str "opened", .int 0]
  | .landed => .tup [.str "landed", .int 0]
  | .kill => .tup [.str "kill", .non, .int 0]
  | .failed s => .tup [.str "failed", .int 0, .str s]
  | .rescued s => .tup [.str "rescued", .int 0, .str s]
  | .tell i => .tup [.str "tell", .int 0, .int i]
  | .ended o => .tup [.str "ended", .int 0, o.enc]
def Ot.ok : Ot → Prop
  | .failed s => Nm s
  | _ => True
def Rw.ok : Rw → Prop
  | .failed s | .rescued s => Nm s
  | .tell i => Num i
  | .ended o => o.ok
  | _ => True
theorem acH : ∀ c ∈ lets, c < 0x110000 := by decide +kernel
theorem gG {s : Str} (n : Nm s) : GB.qJ s := fun c hc => acH c (n.1 c hc)
theorem rK {p : PyData} (c : p.canLay0 = true) (l : p.depth ≤ 64) : SeqAt.shaped p = true := by
  unfold SeqAt.shaped
  rw [c, Bool.true_and]
  exact decide_eq_true l
theorem oM {d e : D} {h : AH} {p q : PyData} (hd : fH h 80 d = some p) (he : fH h 80 e = some q) (c1 : p.canLay0 = true) (c2 : q.canLay0 = true) (l1 : p.depth ≤ 64) (l2 : q.depth ≤ 64) : cP d e h = some (.bl (PyData.eqv p q), h) ∧ eU d e h = some (.bl (!PyData.eqv p q), h) := by
  have e1 : ji h d e = some (PyData.eqv p q) := by
    unfold ji
    rw [hd, he]
    show (if SeqAt.shaped p = true ∧ SeqAt.shaped q = true then some (PyData.eqv p q) else none) = _
    rw [if_pos ⟨rK c1 l1, rK c2 l2⟩]
  constructor
  · show (ji h d e).map _ = _
    rw [e1]
    rfl
  · show (ji h d e).map _ = _
    rw [e1]
    rfl
theorem sOk {s : Str} (n : GB.qJ s) : (PyData.str s).canLay0 = true := by
  simp only [PyData.canLay0, GB.ju n]
theorem yH {s t : Str} (n : GB.qJ s) (m : GB.qJ t) : (PyData.tuple [.str s, .str t]).canLay0 = true := by
  simp only [PyData.canLay0, PyData.canLayAll0, GB.ju n, GB.ju m, Bool.and_self]
theorem RJ {s : Str} (n : GB.qJ s) : (PyData.tuple [.str s]).canLay0 = true := by
  simp only [PyData.canLay0, PyData.canLayAll0, GB.ju n, Bool.and_self]
theorem aaG {a b : String} {s : Str} (n : GB.qJ s) {h : AH} : cP (.tup [.str (PySem.Str.ofString a), .str s]) (.tup [.str (PySem.Str.ofString b)]) h = some (.bl false, h) := by
  have e := (oM (h := h) (d := .tup [.str (PySem.Str.ofString a), .str s]) (e := .tup [.str (PySem.Str.ofString b)]) rfl rfl (yH (GB.cA a) n) (RJ (GB.cA b)) (by simp [PyData.depth, PyData.depthAll]) (by simp [PyData.depth, PyData.depthAll])).1
  rw [e]
  have : PyData.eqv (.tuple [.str (PySem.Str.ofString a), .str s]) (.tuple [.str (PySem.Str.ofString b)]) = ((PySem.Str.ofString a == PySem.Str.ofString b) && false) := rfl
  rw [this, Bool.and_false]
theorem aio {a b : String} {s : Str} (n : GB.qJ s) {h : AH} : eU (.tup [.str (PySem.Str.ofString a), .str s]) (.tup [.str (PySem.Str.ofString b)]) h = some (.bl true, h) := by
  have e := (oM (h := h) (d := .tup [.str (PySem.Str.ofString a), .str s]) (e := .tup [.str (PySem.Str.ofString b)]) rfl rfl (yH (GB.cA a) n) (RJ (GB.cA b)) (by simp [PyData.depth, PyData.depthAll]) (by simp [PyData.depth, PyData.depthAll])).2
  rw [e]
  have : PyData.eqv (.tuple [.str (PySem.Str.ofString a), .str s]) (.tuple [.str (PySem.Str.ofString b)]) = ((PySem.Str.ofString a == PySem.Str.ofString b) && false) := rfl
  rw [this, Bool.and_false]
  rfl
theorem aip {a b : Str} {s t : Str} (ha : GB.qJ a) (hb : GB.qJ b) (n : GB.qJ s) (m : GB.qJ t) {h : AH} : cP (.tup [.str a, .str s]) (.tup [.str b, .str t]) h = some (.bl ((a == b) && (s == t)), h) := by
  have e := (oM (h := h) (d := .tup [.str a, .str s]) (e := .tup [.str b, .str t]) rfl rfl (yH ha n) (yH hb m) (by simp [PyData.depth, PyData.depthAll]) (by simp [PyData.depth, PyData.depthAll])).1
  rw [e]
  have : PyData.eqv (.tuple [.str a, .str s]) (.tuple [.str b, .str t]) = ((a == b) && ((s == t) && true)) := rfl
  rw [this, Bool.and_true]
theorem wY {a : Str} {b t : Str} (ha : GB.qJ a) (hb : GB.qJ b) (m : GB.qJ t) {h : AH} : cP (.str a) (.tup [.str b, .str t]) h = some (.bl false, h) ∧ eU (.tup [.str b, .str t]) (.str a) h = some (.bl true, h) ∧ cP (.tup [.str b, .str t]) (.str a) h = some (.bl false, h) := by
  have e1 := (oM (h := h) (d := .str a) (e := .tup [.str b, .str t]) rfl rfl (sOk ha) (yH hb m) (by simp [PyData.depth]) (by simp [PyData.depth, PyData.depthAll])).1
  have e2 := oM (h := h) (d := .tup [.str b, .str t]) (e := .str a) rfl rfl (yH hb m) (sOk ha) (by simp [PyData.depth, PyData.depthAll]) (by simp [PyData.depth])
  exact ⟨by rw [e1]; rfl, by rw [e2.2]; rfl, by rw [e2.1]; rfl⟩
theorem aiq : iH "tell" = some (some (.tup [.str "task", .str "number"])) := rfl
theorem aaH : iH "failed" = some (some (.tup [.str "task", .str "name"])) := rfl
theorem adZ : iH "rescued" = some (some (.tup [.str "task", .str "name"])) := rfl
theorem ae8 : iH "masked" = some (some (.tup [.str "task"])) := rfl
theorem ae9 : iH "opened" = some (some (.tup [.str "task"])) := rfl
theorem ais : iH "last" = some (some (.tup [.str "task"])) := rfl
theorem afa : iH "lasted" = some (some (.tup [.str "task"])) := rfl
theorem agI : iH "begun" = some (some (.tup [.str "task", .str "task", .str "name", .str "task"])) := rfl
theorem ait : iH "kill" = some (some (.tup [.str "doer", .str "task"])) := rfl
theorem afb : iH "landed" = some (some (.tup [.str "task"])) := rfl
theorem abQ : iH "ended" = some (some (.tup [.str "task", .str "outcome"])) := rfl
theorem Dc {a : String} {h : AH} : cP (.tup [.str (PySem.Str.ofString a)]) (.tup []) h = some (.bl false, h) := by
  show (ji h _ _).map _ = _
  have e : ji h (.tup [.str (PySem.Str.ofString a)]) (.tup []) = some false := by
    have s1 : SeqAt.shaped (.tuple [.str (PySem.Str.ofString a)]) = true := by
      unfold SeqAt.shaped
      simp only [PyData.canLay0, PyData.canLayAll0, PyData.depth, PyData.depthAll, GB.ju (GB.cA a), Bool.and_true, Bool.true_and]
      rfl
    have s0 : SeqAt.shaped (.tuple []) = true := rfl
    show (if SeqAt.shaped (.tuple [.str (PySem.Str.ofString a)]) = true ∧ SeqAt.shaped (.tuple []) = true then some (PyData.eqv (.tuple [.str (PySem.Str.ofString a)]) (.tuple [])) else none) = _
    rw [if_pos ⟨s1, s0⟩]
    rfl
  rw [e]
  rfl
theorem wZ {a b : String} {h : AH} : cP (.tup [.str (PySem.Str.ofString a), .str (PySem.Str.ofString b)]) (.tup []) h = some (.bl false, h) := by
  show (ji h _ _).map _ = _
  have e : ji h (.tup [.str (PySem.Str.ofString a), .str (PySem.Str.ofString b)]) (.tup []) = some false := by
    have s1 : SeqAt.shaped (.tuple [.str (PySem.Str.ofString a), .str (PySem.Str.ofString b)]) = true := by
      unfold SeqAt.shaped
      simp only [PyData.canLay0, PyData.canLayAll0, PyData.depth, PyData.depthAll, GB.ju (GB.cA a), GB.ju (GB.cA b), Bool.and_true, Bool.true_and]
      rfl
    have s0 : SeqAt.shaped (.tuple []) = true := rfl
    show (if SeqAt.shaped (.tuple [.str (PySem.Str.ofString a), .str (PySem.Str.ofString b)]) = true ∧ SeqAt.shaped (.tuple []) = true then some (PyData.eqv (.tuple [.str (PySem.Str.ofString a), .str (PySem.Str.ofString b)]) (.tuple [])) else none) = _
    rw [if_pos ⟨s1, s0⟩]
    rfl
  rw [e]
  rfl
theorem aiu {a b c d : String} {h : AH} : cP (.tup [.str (PySem.Str.ofString a), .str (PySem.Str.ofString b), .str (PySem.Str.ofString c), .str (PySem.Str.ofString d)]) (.tup []) h = some (.bl false, h) := by
  show (ji h _ _).map _ = _
  have e : ji h (.tup [.str (PySem.Str.ofString a), .str (PySem.Str.ofString b), .str (PySem.Str.ofString c), .str (PySem.Str.ofString d)]) (.tup []) = some false := by
    have s1 : SeqAt.shaped (.tuple [.str (PySem.Str.ofString a), .str (PySem.Str.ofString b), .str (PySem.Str.ofString c), .str (PySem.Str.ofString d)]) = true := by
      unfold SeqAt.shaped
      simp only [PyData.canLay0, PyData.canLayAll0, PyData.depth, PyData.depthAll, GB.ju (GB.cA a), GB.ju (GB.cA b), GB.ju (GB.cA c), GB.ju (GB.cA d), Bool.and_true, Bool.true_and]
      rfl
    have s0 : SeqAt.shaped (.tuple []) = true := rfl
    show (if SeqAt.shaped (.tuple [.str (PySem.Str.ofString a), .str (PySem.Str.ofString b), .str (PySem.Str.ofString c), .str (PySem.Str.ofString d)]) = true ∧ SeqAt.shaped (.tuple []) = true then some (PyData.eqv (.tuple [.str (PySem.Str.ofString a), .str (PySem.Str.ofString b), .str (PySem.Str.ofString c), .str (PySem.Str.ofString d)]) (.tuple [])) else none) = _
    rw [if_pos ⟨s1, s0⟩]
    rfl
  rw [e]
  rfl
theorem c0 : ((0 : Nat) : Int) = 0 := rfl
theorem c1 : ((1 : Nat) : Int) = 1 := rfl
theorem c2 : ((2 : Nat) : Int) = 2 := rfl
theorem c3 : ((3 : Nat) : Int) = 3 := rfl
theorem c4 : ((4 : Nat) : Int) = 4 := rfl
theorem c5 : ((5 : Nat) : Int) = 5 := rfl
theorem zip2 {a b c d : D} {h : AH} : Ro [.tup [a, b], .tup [c, d]] h = .ok [.tup [a, c], .tup [b, d]] h := rfl
theorem aaI {a c : D} {h : AH} : Ro [.tup [a], .tup [c]] h = .ok [.tup [a, c]] h := rfl
theorem Am {a b c : D} {h : AH} : Qe (.tup [a, b, c]) (some 1) none h = some (.tup [b, c], h) := rfl
theorem Qz {a b : D} {h : AH} : Qe (.tup [a, b]) (some 1) none h = some (.tup [b], h) := rfl
theorem sm0 : Sm 0 := ⟨by decide, by decide⟩
theorem abj {o : Ot} (ok : o.ok) (h : AH) : ni [o.enc] h = .ok (.bl true) h := by
  cases o with
  | done => exact Qy (k := false) h
  | killed => exact Qy (k := true) h
  | failed s =>
    have e1 := Qx ok h
    have e2 := fun b => aaG (a := "failed") (b := b) (gG ok) (h := h)
    unfold ni
    (wp_walk using "ex", aM, Ot.enc, e1, e2, pD, c2)
theorem S9 {o : Ot} (ok : o.ok) (h : AH) : jd [.str "outcome", o.enc] h = .ok (.bl true) h := by
  unfold jd
  (wp_walk using "ex", aM, abj ok)
theorem afc {i : Int} (n : Num i) (h : AH) : jd [.str "number", .int i] h = .ok (.bl true) h := by
  unfold jd
  (wp_walk using "ex", aM, CZ n)
theorem agJ (r : Rw) (ok : r.ok) (h : AH) : d7 [r.enc] h = .ok (.bl true) h := by
  have p0 := uX sm0 h
  unfold d7
  cases r with
  | last =>
    (wp_walk using "ex", aM, Rw.enc, pD, lH, oE, oA, cY, allM, dM, bJ, List.all_cons, List.all_nil, id, Nat.reduceLT, c0, c1, c2, c3, Int.reduceEq, Int.reduceAdd, ais, p0, Dc, aaI, Qz)
    rfl
  | lasted =>
    (wp_walk using "ex", aM, Rw.enc, pD, lH, oE, oA, cY, allM, dM, bJ, List.all_cons, List.all_nil, id, Nat.reduceLT, c0, c1, c2, c3, Int.reduceEq, Int.reduceAdd, afa, p0, Dc, aaI, Qz)
    rfl
  | masked =>
    (wp_walk using "ex", aM, Rw.enc, pD, lH, oE, oA, cY, allM, dM, bJ, List.all_cons, List.all_nil, id, Nat.reduceLT, c0, c1, c2, c3, Int.reduceEq, Int.reduceAdd, ae8, p0, Dc, aaI, Qz)
    rfl
  | opened =>
    (wp_walk using "ex", aM, Rw.enc, pD, lH, oE, oA, cY, allM, dM, bJ, List.all_cons, List.all_nil, id, Nat.reduceLT, c0, c1, c2, c3, Int.reduceEq, Int.reduceAdd, ae9, p0, Dc, aaI, Qz)
    rfl
  | landed =>
    (wp_walk using "ex", aM, Rw.enc, pD, lH, oE, oA, cY, allM, dM, bJ, List.all_cons, List.all_nil, id, Nat.reduceLT, c0, c1, c2, c3, Int.reduceEq, Int.reduceAdd, afb, p0, Dc, aaI, Qz)
    rfl
  | kill =>
    have pb := adX h
    (wp_walk using "ex", aM, Rw.enc, pD, lH, oE, oA, cY, allM, dM, bJ, List.all_cons, List.all_nil, id, Nat.reduceLT, c0, c1, c2, c3, Int.reduceEq, Int.reduceAdd, ait, p0, pb, wZ, zip2, Am)
    rfl
  | failed s =>
    have pb := yg ok h
    (wp_walk using "ex", aM, Rw.enc, pD, lH, oE, oA, cY, allM, dM, bJ, List.all_cons, List.all_nil, id, Nat.reduceLT, c0, c1, c2, c3, Int.reduceEq, Int.reduceAdd, aaH, p0, pb, wZ, zip2, Am)
    rfl
  | rescued s =>
    have pb := yg ok h
    (wp_walk using "ex", aM, Rw.enc, pD, lH, oE, oA, cY, allM, dM, bJ, List.all_cons, List.all_nil, id, Nat.reduceLT, c0, c1, c2, c3, Int.reduceEq, Int.reduceAdd, adZ, p0, pb, wZ, zip2, Am)
    rfl
  | tell i =>
    have pb := afc ok h
    (wp_walk using "ex", aM, Rw.enc, pD, lH, oE, oA, cY, allM, dM, bJ, List.all_cons, List.all_nil, id, Nat.reduceLT, c0, c1, c2, c3, Int.reduceEq, Int.reduceAdd, aiq, p0, pb, wZ, zip2, Am)
    rfl
  | ended o =>
    have pb := S9 ok h
    (wp_walk using "ex", aM, Rw.enc, pD, lH, oE, oA, cY, allM, dM, bJ, List.all_cons, List.all_nil, id, Nat.reduceLT, c0, c1, c2, c3, Int.reduceEq, Int.reduceAdd, abQ, p0, pb, wZ, zip2, Am)
    rfl
end dN
noncomputable section
namespace dN
open PySem PySem.Spec PyProof.Rows L2 PD
theorem aA : PD.isNon .non = true := rfl
theorem aG {i : Int} : PD.isNon (.int i) = false := rfl
theorem aH {s : Str} : PD.isNon (.str s) = false := rfl
theorem aJ {n : Nat} : PD.isNon (.ref n) = false := rfl
theorem aK {l : List D} : PD.isNon (.tup l) = false := rfl
inductive Go where
  | on | killed | failed (s : Str)
def gU : Go → D
  | .on => .tup [.str "on"]
  | .killed => .tup [.str "killed"]
  | .failed s => .tup [.str "failed", .str s]
def qF : Go → D
  | .on => .str "on"
  | .killed => .str "killed"
  | .failed s => .tup [.str "failed", .str s]
def Go.ok : Go → Prop
  | .failed s => Nm s
  | _ => True
structure Mo where
  goes : Go
  shut : Bool
  due : Bool
  lasts : List (Go × Bool)
  must : Option Bool
  fin : Option Ot
  child : Option Str
def yI : Option Ot → D
  | none => .non
  | some o => o.enc
def jt : Option Bool → D
  | none => .non
  | some true => .tup [.str "masked", .int 0]
  | some false => .tup [.str "opened", .int 0]
def qY : Option Bool → D
  | none => .str ""
  | some true => .str "masked"
  | some false => .str "opened"
def opS : Option Str → D
  | none => .non
  | some s => .str s
structure Mo.ok (m : Mo) : Prop where
  g : m.goes.ok
  l : ∀ q ∈ m.lasts, q.1.ok
  c : ∀ s, m.child = some s → Nm s
def fY (B : Nat) (m : Mo) : List (Str × D) := iW .non .non (yI m.fin) m.due m.shut (gU m.goes) (.ref (B + 7)) (.ref (B + 8))
def fj (B : Nat) : Option Str → List (Key × D)
  | none => [(.inl 0, .ref (B + 6))]
  | some _ => [(.inl 0, .ref (B + 6)), (.inl 1, .ref (B + 13))]
def Ch (B : Nat) (h : AH) : Option Str → Prop
  | none => True
  | some c => ∃ fs, h[B + 13]? = some (.ins "Seen" fs) ∧ fs.lookup ("beginner" : Str) = some (D.int 0) ∧ fs.lookup ("ending" : Str) = some (D.tup [.str "failed", .str c])
structure WS (B : Nat) (h : AH) (m : Mo) (many : Int) : Prop where
  w : h[B]? = some (.ins "Watch" (cQ B false (jt m.must) many))
  t : h[B + 5]? = some (.dict (fj B m.child))
  s : h[B + 6]? = some (.ins "Seen" (fY B m))
  a : h[B + 7]? = some (.lst [])
  b : h[B + 8]? = some (.lst (m.lasts.map fun q => .tup [gU q.1, .bl q.2]))
  c : Ch B h m.child
def iY (B : Nat) (m : Mo) : List (Key × D) := [(.inr "goes", qF m.goes), (.inr "shut", .bl m.shut), (.inr "due", .bl m.due), (.inr "lasts", .ref (B + 12)), (.inr "must", qY m.must), (.inr "ended", .bl m.fin.isSome), (.inr "child", opS m.child)]
structure LS (B : Nat) (h : AH) (m : Mo) : Prop where
  d : h[B + 11]? = some (.dict (iY B m))
  b : h[B + 12]? = some (.lst (m.lasts.map fun q => .tup [qF q.1, .bl q.2]))
def yJ : Go → Str → Bool
  | .failed t, s => t == s
  | _, _ => false
def acI : Option Str → Str → Bool
  | some t, s => t == s
  | none, _ => false
theorem aiv {s t : Str} : (PyData.tuple [.str s, .str t]).depth ≤ 64 := by simp [PyData.depth, PyData.depthAll]
theorem deps {s : Str} : (PyData.str s).depth ≤ 64 := by simp [PyData.depth]
def offB : Go → Bool
  | .on => false
  | _ => true
def Ao : Go → Bool
  | .killed => true
  | _ => false
def xg (m : Mo) (s : Str) : Bool := !Ao m.goes && (acI m.child s || yJ m.goes s)
theorem Vc {g : Go} (ok : g.ok) {h : AH} : eU (gU g) (.tup [.str "on"]) h = some (.bl (offB g), h) := by
  cases g with
  | on => exact adY
  | killed => exact adY
  | failed s => exact aio (gG ok)
theorem aiw {g : Go} (ok : g.ok) {h : AH} : cP (gU g) (.tup [.str "on"]) h = some (.bl (!offB g), h) := by
  cases g with
  | on => exact oK
  | killed => exact oK
  | failed s => exact aaG (gG ok)
theorem aaK {g : Go} (ok : g.ok) {h : AH} : cP (gU g) (.tup [.str "killed"]) h = some (.bl (Ao g), h) := by
  cases g with
  | on => exact oK
  | killed => exact oK
  | failed s => exact aaG (gG ok)
theorem acJ {g : Go} (ok : g.ok) {h : AH} : cP (qF g) (.str "on") h = some (.bl (!offB g), h) ∧ eU (qF g) (.str "on") h = some (.bl (offB g), h) := by
  cases g with
  | on => exact ⟨lA, jD⟩
  | killed => exact ⟨lA, jD⟩
  | failed s => exact ⟨(wY (GB.cA "on") (GB.cA "failed") (gG ok)).2.2, (wY (GB.cA "on") (GB.cA "failed") (gG ok)).2.1⟩
theorem ad0 {g : Go} (ok : g.ok) {h : AH} : cP (qF g) (.str "killed") h = some (.bl (Ao g), h) ∧ eU (qF g) (.str "killed") h = some (.bl (!Ao g), h) := by
  cases g with
  | on => exact ⟨lA, jD⟩
  | killed => exact ⟨lA, jD⟩
  | failed s => exact ⟨(wY (GB.cA "killed") (GB.cA "failed") (gG ok)).2.2, (wY (GB.cA "killed") (GB.cA "failed") (gG ok)).2.1⟩
theorem agK {g : Go} (ok : g.ok) {s : Str} (n : Nm s) {h : AH} : cP (qF g) (.tup [.str "failed", .str s]) h = some (.bl (yJ g s), h) := by
  cases g with
  | on => exact (wY (GB.cA "on") (GB.cA "failed") (gG n)).1
  | killed => exact (wY (GB.cA "killed") (GB.cA "failed") (gG n)).1
  | failed t =>
    have e := aip (GB.cA "failed") (GB.cA "failed") (gG ok) (gG n) (h := h)
    rw [show qF (.failed t) = .tup [.str "failed", .str t] from rfl, e]
    simp [yJ]
theorem chL {c : Option Str} (ok : ∀ s, c = some s → Nm s) {s : Str} (n : Nm s) {h : AH} : cP (opS c) (.str s) h = some (.bl (acI c s), h) := by
  cases c with
  | none =>
    have e := (oM (h := h) (d := .non) (e := .str s) rfl rfl rfl (sOk (gG n)) (by simp [PyData.depth]) deps).1
    rw [show opS none = .non from rfl, e]
    rfl
  | some t =>
    have e := (oM (h := h) (d := .str t) (e := .str s) rfl rfl (sOk (gG (ok t rfl))) (sOk (gG n)) deps deps).1
    rw [show opS (some t) = .str t from rfl, e]
    rfl
theorem aaL {g : Go} (ok : g.ok) (h : AH) : ∃ p, fH h 79 (gU g) = some p ∧ p.canLay0 = true ∧ p.depth ≤ 60 ∧ ∀ s, PyData.eqv p (.tuple [.str "failed", .str s]) = yJ g s := by
  cases g with
  | on => exact ⟨.tuple [.str "on"], rfl, RJ (GB.cA "on"), by simp [PyData.depth, PyData.depthAll], fun s => by
      have : PyData.eqv (.tuple [.str (PySem.Str.ofString "on")]) (.tuple [.str (PySem.Str.ofString "failed"), .str s]) = ((PySem.Str.ofString "on" == PySem.Str.ofString "failed") && false) := rfl
      rw [this, Bool.and_false]
      rfl⟩
  | killed => exact ⟨.tuple [.str "killed"], rfl, RJ (GB.cA "killed"), by simp [PyData.depth, PyData.depthAll], fun s => by
      have : PyData.eqv (.tuple [.str (PySem.Str.ofString "killed")]) (.tuple [.str (PySem.Str.ofString "failed"), .str s]) = ((PySem.Str.ofString "killed" == PySem.Str.ofString "failed") && false) := rfl
      rw [this, Bool.and_false]
      rfl⟩
  | failed t => exact ⟨.tuple [.str "failed", .str t], rfl, yH (GB.cA "failed") (gG ok), by simp [PyData.depth, PyData.depthAll], fun s => by
      have : PyData.eqv (.tuple [.str (PySem.Str.ofString "failed"), .str t]) (.tuple [.str (PySem.Str.ofString "failed"), .str s]) = ((PySem.Str.ofString "failed" == PySem.Str.ofString "failed") && ((t == s) && true)) := rfl
      rw [this, Bool.and_true]
      simp [yJ]⟩
theorem ad1 {d e : D} {h : AH} {p : PyData} {ds : List PyData} (hd : fH h 80 d = some p) (he : fH h 80 e = some (.list ds)) (s1 : SeqAt.shaped p = true) (s2 : SeqAt.shaped (.list ds) = true) : inT d e h = some (.bl (ds.any fun z => PyData.eqv z p), h) := by
  unfold inT
  rw [hd, he]
  show (if SeqAt.shaped p = true ∧ SeqAt.shaped (.list ds) = true then some (D.bl (ds.any fun z => PyData.eqv z p), h) else none) = _
  rw [if_pos ⟨s1, s2⟩]
theorem in_one {g : Go} (ok : g.ok) {s : Str} (n : Nm s) {h : AH} : inT (.tup [.str "failed", .str s]) (.lst [gU g]) h = some (.bl (yJ g s), h) := by
  obtain ⟨p, e1, e2, e3, e4⟩ := aaL ok h
  have el : fH h 80 (.lst [gU g]) = some (.list [p]) := by
    show (m9 (fH h 79) [gU g]).map PyData.list = _
    simp only [m9, e1, Option.bind_some, Option.map_some]
  have sl : SeqAt.shaped (.list [p]) = true := rK (by simp only [PyData.canLay0, PyData.canLayAll0, e2, Bool.and_self]) (by simp only [PyData.depth, PyData.depthAll]; omega)
  rw [ad1 (h := h) (p := .tuple [.str "failed", .str s]) rfl el (rK (yH (GB.cA "failed") (gG n)) aiv) sl]
  simp only [List.any_cons, List.any_nil, Bool.or_false, e4]
theorem aix {g : Go} (ok : g.ok) {c s : Str} (nc : Nm c) (n : Nm s) {h : AH} : inT (.tup [.str "failed", .str s]) (.lst [.tup [.str "failed", .str c], gU g]) h = some (.bl ((c == s) || yJ g s), h) := by
  obtain ⟨p, e1, e2, e3, e4⟩ := aaL ok h
  obtain ⟨q, f1, f2, f3, f4⟩ := aaL (g := .failed c) nc h
  have el : fH h 80 (.lst [.tup [.str "failed", .str c], gU g]) = some (.list [q, p]) := by
    show (m9 (fH h 79) [gU (.failed c), gU g]).map PyData.list = _
    simp only [m9, e1, f1, Option.bind_some, Option.map_some]
  have sl : SeqAt.shaped (.list [q, p]) = true := rK (by simp only [PyData.canLay0, PyData.canLayAll0, e2, f2, Bool.and_self]) (by simp only [PyData.depth, PyData.depthAll]; omega)
  rw [ad1 (h := h) (p := .tuple [.str "failed", .str s]) rfl el (rK (yH (GB.cA "failed") (gG n)) aiv) sl]
  simp only [List.any_cons, List.any_nil, Bool.or_false, e4, f4]
  rfl
end dN
noncomputable section
namespace dN
open PySem PySem.Spec PyProof.Rows L2 PD
theorem iI {cs : List Str} {f c : Str} {fs : List (Str × D)} {v : D} {n : Nat} {h : AH} (e : h[n]? = some (.ins c fs)) (hc : c ∈ cs) (hl : fs.lookup f = some v) : fB cs f (.ref n) h = .ok v h := by
  unfold fB clsOf
  simp only [e, hc, hl, if_true]
section
variable {B : Nat} {raw : Bool} {must : D} {many : Int} {h : AH}
theorem fO (e : h[B]? = some (.ins "Watch" (cQ B raw must many))) : fB cJ "tasks" (.ref B) h = .ok (.ref (B + 5)) h := iI e (by simp) (by unfold cQ; simp only [fX, fW, String.reduceEq, if_false])
theorem ad2 (e : h[B]? = some (.ins "Watch" (cQ B raw must many))) : fB jQ "latest" (.ref B) h = .ok (.ref (B + 9)) h := iI e (by simp) (by unfold cQ; simp only [fX, fW, String.reduceEq, if_false])
theorem aaM (e : h[B]? = some (.ins "Watch" (cQ B raw must many))) : fB pU "homes" (.ref B) h = .ok (.ref (B + 10)) h := iI e (by simp) (by unfold cQ; simp only [fX, fW, String.reduceEq, if_false])
theorem ad3 (e : h[B]? = some (.ins "Watch" (cQ B raw must many))) : fB yX "raw" (.ref B) h = .ok (.bl raw) h := iI e (by simp) (by unfold cQ; simp only [fX, fW, String.reduceEq, if_false])
theorem EY (e : h[B]? = some (.ins "Watch" (cQ B raw must many))) : fB jE "must" (.ref B) h = .ok must h := iI e (by simp) (by unfold cQ; simp only [fX, fW, String.reduceEq, if_false])
theorem abR (e : h[B]? = some (.ins "Watch" (cQ B raw must many))) : fB iG "many" (.ref B) h = .ok (.int many) h := iI e (by simp) (by unfold cQ; simp only [fX, fW, String.reduceEq, if_false])
variable {m : Mo}
theorem uJ {n : Nat} (e : h[n]? = some (.ins "Seen" (fY B m))) : fB fG "beginner" (.ref n) h = .ok .non h := iI e (by simp) (by unfold fY iW; simp only [fX, fW, String.reduceEq, if_false])
theorem Dd {n : Nat} (e : h[n]? = some (.ins "Seen" (fY B m))) : fB eV "ending" (.ref n) h = .ok (yI m.fin) h := iI e (by simp) (by unfold fY iW; simp only [fX, fW, String.reduceEq, if_false])
theorem abS {n : Nat} (e : h[n]? = some (.ins "Seen" (fY B m))) : fB jW "owed" (.ref n) h = .ok (.bl m.due) h := iI e (by simp) (by unfold fY iW; simp only [fX, fW, String.reduceEq, if_false])
theorem vQ {n : Nat} (e : h[n]? = some (.ins "Seen" (fY B m))) : fB gA "shut" (.ref n) h = .ok (.bl m.shut) h := iI e (by simp) (by unfold fY iW; simp only [fX, fW, String.reduceEq, if_false])
theorem xq {n : Nat} (e : h[n]? = some (.ins "Seen" (fY B m))) : fB cZ "state" (.ref n) h = .ok (gU m.goes) h := iI e (by simp) (by unfold fY iW; simp only [fX, fW, String.reduceEq, if_false])
theorem aiy {n : Nat} (e : h[n]? = some (.ins "Seen" (fY B m))) : fB sO "had" (.ref n) h = .ok (.ref (B + 7)) h := iI e (by simp) (by unfold fY iW; simp only [fX, fW, String.reduceEq, if_false])
theorem xG {n : Nat} (e : h[n]? = some (.ins "Seen" (fY B m))) : fB iw "lasts" (.ref n) h = .ok (.ref (B + 8)) h := iI e (by simp) (by unfold fY iW; simp only [fX, fW, String.reduceEq, if_false])
theorem pq {mn : Str} {cs : List Str} (e : h[B]? = some (.ins "Watch" (cQ B raw must many))) (hc : ("Watch" : Str) ∈ cs) (hl : (cQ B raw must many).lookup mn = none) : U7 cs mn (.ref B) h := ⟨_, _, by simp only [clsOf, e], hc, hl⟩
end
def nq : List (String × Bool) → D
  | [] => .non
  | (w, b) :: r => if b then .str w else nq r
def fsB : MS := (cX (mW (aq 2)) (bU (aq 1)) cD)
theorem abT {e0 : Option D} : ∀ (rows : List (String × Bool)) (x1 x2 : Option D) (h : AH), ∃ y1 y2 : Option D,
    forL (qT (lF 2 (PD.gCons (PD.gName 1) (PD.gCons (PD.gName 2) PD.gNil)))) fsB (rows.map fun q => .tup [.str (PySem.Str.ofString q.1), .bl q.2]) [e0, x1, x2] h =
      (if rows.any (·.2) then .rt (nq rows) h else .nx [e0, y1, y2] h) ∧ (rows.any (·.2) = false → nq rows = .non)
  | [], x1, x2, h => ⟨x1, x2, rfl, fun _ => rfl⟩
  | (w, b) :: r, x1, x2, h => by
    obtain ⟨y1, y2, ih, ih2⟩ := abT (e0 := e0) r (some (.str w)) (some (.bl b)) h
    refine ⟨y1, y2, ?_, ?_⟩
    · rw [List.map_cons]
      unfold forL
      unfold fsB at ih ⊢
      cases b with
      | true => (wp_walk using "ew", aM, aA, aG, aH, aJ, aK, List.any_cons, nq)
      | false =>
        (wp_walk using "ew", aM, aA, aG, aH, aJ, aK, List.any_cons, nq)
        exact ih
    · cases b with
      | true => intro z; simp at z
      | false =>
        intro z
        rw [List.any_cons, Bool.false_or] at z
        exact ih2 z
theorem uK (rows : List (String × Bool)) (h : AH) : d8 [.lst (rows.map fun q => .tup [.str (PySem.Str.ofString q.1), .bl q.2])] h = .ok (nq rows) h := by
  obtain ⟨y1, y2, e, e2⟩ := abT (e0 := some (.lst (rows.map fun q => .tup [.str (PySem.Str.ofString q.1), .bl q.2]))) rows none none h
  unfold fsB at e
  unfold d8
  cases z : rows.any (·.2) with
  | true =>
    rw [z] at e
    (wp_walk using "ew", aM, aA, aG, aH, aJ, aK, e)
  | false =>
    rw [z] at e
    (wp_walk using "ew", aM, aA, aG, aH, aJ, aK, e, e2 z)
theorem fs1 {a : String} {x : Bool} {h : AH} : d8 [.lst [.tup [.str (PySem.Str.ofString a), .bl x]]] h = .ok (nq [(a, x)]) h := uK [(a, x)] h
theorem fs2 {a b : String} {x y : Bool} {h : AH} : d8 [.lst [.tup [.str (PySem.Str.ofString a), .bl x], .tup [.str (PySem.Str.ofString b), .bl y]]] h = .ok (nq [(a, x), (b, y)]) h := uK [(a, x), (b, y)] h
theorem fs3 {a b c : String} {x y z : Bool} {h : AH} : d8 [.lst [.tup [.str (PySem.Str.ofString a), .bl x], .tup [.str (PySem.Str.ofString b), .bl y], .tup [.str (PySem.Str.ofString c), .bl z]]] h = .ok (nq [(a, x), (b, y), (c, z)]) h := uK [(a, x), (b, y), (c, z)] h
theorem fs6 {a b c d e f : String} {x y z u v w : Bool} {h : AH} : d8 [.lst [.tup [.str (PySem.Str.ofString a), .bl x], .tup [.str (PySem.Str.ofString b), .bl y], .tup [.str (PySem.Str.ofString c), .bl z], .tup [.str (PySem.Str.ofString d), .bl u], .tup [.str (PySem.Str.ofString e), .bl v], .tup [.str (PySem.Str.ofString f), .bl w]]] h =
    .ok (nq [(a, x), (b, y), (c, z), (d, u), (e, v), (f, w)]) h := uK [(a, x), (b, y), (c, z), (d, u), (e, v), (f, w)] h
theorem fV {B : Nat} {raw : Bool} {must : D} {many : Int} {mn : Str} (h1 : (["is_latest", "reason", "take", "go_on", "see", "seen", "may_fail", "turn"] : List Str).contains mn = true) : (cQ B raw must many).lookup mn = none := by
  simp only [List.contains_cons, List.contains_nil, Bool.or_false, Bool.or_eq_true, beq_iff_eq] at h1
  rcases h1 with rfl | rfl | rfl | rfl | rfl | rfl | rfl | rfl <;> (unfold cQ; simp only [fX, String.reduceEq, if_false]; rfl)
theorem je {h : AH} {c : Cell} {n i : Nat} (e : h[i]? = some c) (hi : i ≠ n) (x : Cell) : (h.set n x)[i]? = some c := by
  rw [List.getElem?_set_ne (fun z => hi z.symm)]
  exact e
theorem qN {i : Int} {h : AH} : cP .non (.int i) h = some (.bl false, h) := by
  rw [(oM (h := h) (d := .non) (e := .int i) rfl rfl rfl rfl (by simp [PyData.depth]) (by simp [PyData.depth])).1]
  rfl
section
variable {B : Nat} {h : AH} {m : Mo} {many : Int}
theorem yK (w : WS B h m many) (ok : m.ok) {s : Str} (n : Nm s) : dB [.ref B, .int 0, .str s] h = .ok (.bl (xg m s)) h := by
  have e1 := fO w.w
  have e2 := xq w.s
  have e3 := aaK ok.g (h := h)
  have l5 := (List.getElem?_eq_some_iff.mp w.t).1
  have eb := je w.w (n := B + 5) (by omega) (.dO (fj B m.child))
  have es := je w.s (n := B + 5) (by omega) (.dO (fj B m.child))
  have e4 := fO eb
  have e5 := uJ es
  have e6 : (h.set (B + 5) (.dO (fj B m.child)))[B + 5]? = some (.dO (fj B m.child)) := by rw [List.getElem?_set_self l5]
  have e7 := lG w.t
  have v0 : valD (fj B m.child) (.inl 0) = some (.ref (B + 6)) := by cases m.child <;> rfl
  unfold dB xg
  cases hk : Ao m.goes with
  | true =>
    rw [hk] at e3
    (wp_walk using "ew", aM, aA, aG, aH, aJ, aK, aY, e1, w.t, v0, e2, e3, Bool.false_and)
  | false =>
    rw [hk] at e3
    have wc := w.c
    cases hch : m.child with
    | none =>
      rw [hch] at e4 e5 e6 e7 v0
      have wt := w.t
      rw [hch] at wt
      have i1 := in_one ok.g n (h := h)
      have ne := fun i h => qN (i := i) (h := h)
      unfold fj at e4 e5 e6 e7 v0 wt
      (wp_walk using "ew", aM, aA, aG, aH, aJ, aK, aY, e1, wt, v0, e2, e3, Ey, yV, e4, e6, cY, e5, ne, e7, i1, acI, Bool.true_and)
    | some c =>
      rw [hch] at e4 e5 e6 e7 v0 wc
      have wt := w.t
      rw [hch] at wt
      have i1 := aix ok.g (ok.c c hch) n (h := h)
      have ne := fun i h => qN (i := i) (h := h)
      obtain ⟨fs, c1, c2, c3⟩ := wc
      have c1' := je c1 (n := B + 5) (by omega) (.dO (fj B (some c)))
      have f1 : fB fG "beginner" (.ref (B + 13)) (h.set (B + 5) (.dO (fj B (some c)))) = .ok (.int 0) (h.set (B + 5) (.dO (fj B (some c)))) := iI c1' (by simp) c2
      have f2 : fB eV "ending" (.ref (B + 13)) (h.set (B + 5) (.dO (fj B (some c)))) = .ok (.tup [.str "failed", .str c]) (h.set (B + 5) (.dO (fj B (some c)))) := iI c1' (by simp) c3
      unfold fj at e4 e5 e6 e7 v0 wt f1 f2
      (wp_walk using "ew", aM, aA, aG, aH, aJ, aK, aY, e1, wt, v0, e2, e3, Ey, yV, e4, e6, cY, e5, ne, e7, i1, acI, f1, f2, Nat.reduceLT, Bool.true_and)
end
end dN
noncomputable section
namespace dN
open PySem PySem.Spec PyProof.Rows L2 PD
theorem nm2 {a w : String} {h : AH} : eU (.tup [.str (PySem.Str.ofString a), .int 0]) (.tup [.str (PySem.Str.ofString w), .int 0]) h = some (.bl (!decide (a = w)), h) := by
  have c : ∀ a : String, (PyData.tuple [.str (PySem.Str.ofString a), .int 0]).canLay0 = true := fun a => by simp only [PyData.canLay0, PyData.canLayAll0, GB.ju (GB.cA a), Bool.and_self]
  have d : ∀ a : String, (PyData.tuple [.str (PySem.Str.ofString a), .int 0]).depth ≤ 64 := fun a => by simp [PyData.depth, PyData.depthAll]
  have e := (oM (h := h) (d := .tup [.str (PySem.Str.ofString a), .int 0]) (e := .tup [.str (PySem.Str.ofString w), .int 0]) rfl rfl (c a) (c w) (d a) (d w)).2
  rw [e]
  have : PyData.eqv (.tuple [.str (PySem.Str.ofString a), .int 0]) (.tuple [.str (PySem.Str.ofString w), .int 0]) = ((PySem.Str.ofString a == PySem.Str.ofString w) && (decide ((0 : Int) = 0) && true)) := rfl
  rw [this, uf]
  simp
theorem nm3 {a w : String} {d e : D} {h : AH} {p q : PyData} (hd : fH h 79 d = some p) (he : fH h 79 e = some q) (c1 : p.canLay0 = true) (c2 : q.canLay0 = true) (l1 : p.depth ≤ 50) (l2 : q.depth ≤ 50) : eU (.tup [.str (PySem.Str.ofString a), d, e]) (.tup [.str (PySem.Str.ofString w), .int 0]) h = some (.bl true, h) := by
  have c : (PyData.tuple [.str (PySem.Str.ofString w), .int 0]).canLay0 = true := by simp only [PyData.canLay0, PyData.canLayAll0, GB.ju (GB.cA w), Bool.and_self]
  have dd : (PyData.tuple [.str (PySem.Str.ofString w), .int 0]).depth ≤ 64 := by simp [PyData.depth, PyData.depthAll]
  have t : fH h 80 (.tup [.str (PySem.Str.ofString a), d, e]) = some (.tuple [.str (PySem.Str.ofString a), p, q]) := by
    show (m9 (fH h 79) [.str (PySem.Str.ofString a), d, e]).map PyData.tuple = _
    simp only [m9, hd, he, Option.bind_some, Option.map_some, fH]
  have e1 := (oM (h := h) (d := .tup [.str (PySem.Str.ofString a), d, e]) (e := .tup [.str (PySem.Str.ofString w), .int 0]) t rfl (by simp only [PyData.canLay0, PyData.canLayAll0, GB.ju (GB.cA a), c1, c2, Bool.and_self]) c (by simp only [PyData.depth, PyData.depthAll]; omega) dd).2
  rw [e1]
  have : PyData.eqv (.tuple [.str (PySem.Str.ofString a), p, q]) (.tuple [.str (PySem.Str.ofString w), .int 0]) = ((PySem.Str.ofString a == PySem.Str.ofString w) && (PyData.eqv p (.int 0) && false)) := by
    simp only [PyData.eqv, PyData.eqvAll]
  rw [this, Bool.and_false, Bool.and_false]
  rfl
def QC (b : Bool) : String := if b then "masked" else "opened"
def rm : Rw → Bool → Bool
  | .masked, true => true
  | .opened, false => true
  | _, _ => false
theorem ajN {o : Ot} (ok : o.ok) (h : AH) : ∃ p, fH h 79 o.enc = some p ∧ p.canLay0 = true ∧ p.depth ≤ 50 := by
  cases o with
  | done => exact ⟨_, rfl, RJ (GB.cA "done"), by simp [PyData.depth, PyData.depthAll]⟩
  | killed => exact ⟨_, rfl, RJ (GB.cA "killed"), by simp [PyData.depth, PyData.depthAll]⟩
  | failed s => exact ⟨_, rfl, yH (GB.cA "failed") (gG ok), by simp [PyData.depth, PyData.depthAll]⟩
theorem aaO {r : Rw} (ok : r.ok) (b : Bool) {h : AH} : eU r.enc (.tup [.str (PySem.Str.ofString (QC b)), .int 0]) h = some (.bl (!rm r b), h) := by
  cases r with
  | last => unfold Rw.enc; rw [nm2]; cases b <;> rfl
  | lasted => unfold Rw.enc; rw [nm2]; cases b <;> rfl
  | masked => unfold Rw.enc; rw [nm2]; cases b <;> rfl
  | opened => unfold Rw.enc; rw [nm2]; cases b <;> rfl
  | landed => unfold Rw.enc; rw [nm2]; cases b <;> rfl
  | kill => unfold Rw.enc; rw [nm3 (p := .none) (q := .int 0) rfl rfl rfl rfl (by simp [PyData.depth]) (by simp [PyData.depth])]; cases b <;> rfl
  | failed s => unfold Rw.enc; rw [nm3 (p := .int 0) (q := .str s) rfl rfl rfl (sOk (gG ok)) (by simp [PyData.depth]) (by simp [PyData.depth])]; cases b <;> rfl
  | rescued s => unfold Rw.enc; rw [nm3 (p := .int 0) (q := .str s) rfl rfl rfl (sOk (gG ok)) (by simp [PyData.depth]) (by simp [PyData.depth])]; cases b <;> rfl
  | tell i => unfold Rw.enc; rw [nm3 (p := .int 0) (q := .int i) rfl rfl rfl rfl (by simp [PyData.depth]) (by simp [PyData.depth])]; cases b <;> rfl
  | ended o =>
    obtain ⟨p, h1, h2, h3⟩ := ajN ok h
    unfold Rw.enc
    rw [nm3 (p := .int 0) (q := p) rfl h1 rfl h2 (by simp [PyData.depth]) h3]
    cases b <;> rfl
theorem acK (b : Bool) : jt (some b) = .tup [.str (PySem.Str.ofString (QC b)), .int 0] := by cases b <;> rfl
theorem acL (b : Bool) : qY (some b) = .str (PySem.Str.ofString (QC b)) := by cases b <;> rfl
theorem cV {f : Option Ot} : PD.isNon (yI f) = f.isNone := by
  cases f with
  | none => rfl
  | some o => cases o <;> rfl
theorem xH {n : Nat} {ds : List D} {h : AH} (e : h[n]? = some (.lst ds)) : neL eU (.ref n) (.lst []) h = some (.bl (!ds.isEmpty), h) := by
  have a : Cy h (.ref n) = some ds := by simp only [Cy, e]
  cases ds with
  | nil =>
    have t : fH h 80 (.ref n) = some (.list []) := by simp only [fH, e, m9, Option.map_some]
    have e2 := (oM (h := h) (d := .ref n) (e := .lst []) t rfl rfl rfl (by simp [PyData.depth, PyData.depthAll]) (by simp [PyData.depth, PyData.depthAll])).2
    unfold neL
    rw [a]
    show (if ([] : List D).length ≠ ([] : List D).length then _ else eU (.ref n) (.lst []) h) = _
    rw [if_neg (by simp), e2]
    rfl
  | cons d ds =>
    unfold neL
    rw [a]
    rfl
theorem ad6 {n : Nat} {ds : List D} {h : AH} (e : h[n]? = some (.lst ds)) : uU cP (.ref n) (.lst []) h = some (.bl ds.isEmpty, h) := by
  have a : Cy h (.ref n) = some ds := by simp only [Cy, e]
  cases ds with
  | nil =>
    have t : fH h 80 (.ref n) = some (.list []) := by simp only [fH, e, m9, Option.map_some]
    have e2 := (oM (h := h) (d := .ref n) (e := .lst []) t rfl rfl rfl (by simp [PyData.depth, PyData.depthAll]) (by simp [PyData.depth, PyData.depthAll])).1
    unfold uU
    rw [a]
    show (if ([] : List D).length ≠ ([] : List D).length then _ else cP (.ref n) (.lst []) h) = _
    rw [if_neg (by simp), e2]
    rfl
  | cons d ds =>
    unfold uU
    rw [a]
    rfl
end dN
noncomputable section
namespace dN
open PySem PySem.Spec PyProof.Rows L2 PD
def oN (m : Mo) : Ot → Bool
  | .done => !offB m.goes
  | .killed => Ao m.goes
  | .failed s => xg m s
def eO (m : Mo) : Rw → D
  | .last => .non
  | .lasted => nq [("last", m.lasts.isEmpty)]
  | .masked => nq [("held", m.shut)]
  | .opened => nq [("open", !m.shut), ("last", !m.lasts.isEmpty)]
  | .landed => nq [("untold", !m.due), ("held", m.shut)]
  | .kill => nq [("over", m.fin.isSome)]
  | .failed _ => nq [("unwinds", offB m.goes)]
  | .tell _ => nq [("unwinds", offB m.goes)]
  | .rescued s => nq [("mark", !xg m s)]
  | .ended o => nq [("held", m.shut), ("last", !m.lasts.isEmpty), ("outlives", false), ("owed", m.due), ("keeps", false), ("outcome", !oN m o)]
def turnB (m : Mo) (r : Rw) : Bool := match m.must with
  | none => false
  | some b => !rm r b
def jf (m : Mo) : Rw → Bool
  | .kill => false
  | _ => m.fin.isSome
def acM (m : Mo) (r : Rw) : D := if turnB m r then .str "turn" else if jf m r then .str "ended" else eO m r
section
variable {B : Nat} {h : AH} {m : Mo} {many : Int}
theorem za {α β : Type} {l : List α} {f : α → β} : (l.map f).isEmpty = l.isEmpty := List.isEmpty_map
theorem Fb (B : Nat) (c : Option Str) : valD (fj B c) (.inl 0) = some (.ref (B + 6)) := by cases c <;> rfl
theorem FJ (w : WS B h m many) : vD [.ref B, .non, Rw.kill.enc] h = .ok (eO m .kill) h := by
  have e1 := fO w.w
  have e2 := Dd w.s
  have v0 := Fb B m.child
  unfold vD eO
  cases hf : m.fin with
  | none =>
    rw [hf] at e2
    (wp_walk using "ew", aM, aA, aG, aH, aJ, aK, Rw.enc, aY, e1, w.t, v0, e2, yI, fs1, Option.isSome_none)
  | some o =>
    rw [hf] at e2
    have nn : PD.isNon o.enc = false := by cases o <;> rfl
    (wp_walk using "ew", aM, aA, aG, aH, aJ, aK, Rw.enc, aY, e1, w.t, v0, e2, yI, nn, fs1, Option.isSome_some)
theorem tD (w : WS B h m many) (ok : m.ok) (d : D) : oV [.ref B, .ref (B + 6), d] h = .ok (nq [("unwinds", offB m.goes)]) h := by
  have e2 := xq w.s
  have e3 := Vc ok.g (h := h)
  unfold oV
  (wp_walk using "ew", aM, aA, aG, aH, aJ, aK, aY, e2, e3, fs1)
theorem Bb (w : WS B h m many) (d : D) : sV [.ref B, .ref (B + 6), d] h = .ok (eO m .landed) h := by
  have e3 := abS w.s
  have e4 := vQ w.s
  unfold sV eO
  (wp_walk using "ew", aM, aA, aG, aH, aJ, aK, aY, e3, e4, fs2)
theorem Bc (w : WS B h m many) (d : D) : sW [.ref B, .ref (B + 6), d] h = .ok (eO m .masked) h := by
  have e4 := vQ w.s
  unfold sW eO
  (wp_walk using "ew", aM, aA, aG, aH, aJ, aK, aY, e4, fs1)
theorem Bf (w : WS B h m many) (d : D) : sX [.ref B, .ref (B + 6), d] h = .ok (eO m .opened) h := by
  have e4 := vQ w.s
  have e5 := xG w.s
  have e6 := xH w.b
  rw [za] at e6
  unfold sX eO
  (wp_walk using "ew", aM, aA, aG, aH, aJ, aK, aY, e4, e5, e6, fs2)
theorem FQ (w : WS B h m many) (d : D) : vG [.ref B, .ref (B + 6), d] h = .ok .non h := by
  unfold vG
  (wp_walk using "ew", aM, aA, aG, aH, aJ, aK)
theorem Bg (w : WS B h m many) (d : D) : sY [.ref B, .ref (B + 6), d] h = .ok (eO m .lasted) h := by
  have e5 := xG w.s
  have e6 := ad6 w.b
  rw [za] at e6
  unfold sY eO
  (wp_walk using "ew", aM, aA, aG, aH, aJ, aK, aY, e5, e6, fs1)
theorem zf (w : WS B h m many) (ok : m.ok) {s : Str} (n : Nm s) : qX [.ref B, .ref (B + 6), (Rw.rescued s).enc] h = .ok (eO m (.rescued s)) h := by
  have e6 := pq (cs := jR) (mn := "may_fail") w.w (by simp) (fV (by decide +kernel))
  have e7 := yK w ok n
  unfold qX eO
  generalize dB = P at e7 ⊢
  (wp_walk using "ew", aM, aA, aG, aH, aJ, aK, Rw.enc, dZ, e6, e7, fs1)
theorem Df (w : WS B h m many) (ok : m.ok) {o : Ot} (oo : o.ok) : oW [.ref B, .ref (B + 6), (Rw.ended o).enc] h = .ok (eO m (.ended o)) h := by
  have e1 := fO w.w
  have l5 := (List.getElem?_eq_some_iff.mp w.t).1
  have eb := je w.w (n := B + 5) (by omega) (.dO (fj B m.child))
  have es := je w.s (n := B + 5) (by omega) (.dO (fj B m.child))
  have e2 := fO eb
  have e5 := uJ es
  have e3 : (h.set (B + 5) (.dO (fj B m.child)))[B + 5]? = some (.dO (fj B m.child)) := by rw [List.getElem?_set_self l5]
  have e4 := lG w.t
  have f1 := vQ w.s
  have f2 := xG w.s
  have f3 := abS w.s
  have f4 := aiy w.s
  have f5 := xq w.s
  have f6 := ad3 w.w
  have r1 := xH w.a
  have r2 := xH w.b
  rw [za] at r2
  have g1 := aaK ok.g (h := h)
  have g2 := aiw ok.g (h := h)
  have wc := w.c
  have wt := w.t
  have ne := fun i h => qN (i := i) (h := h)
  have i6 := pq (cs := jR) (mn := "may_fail") w.w (by simp) (fV (by decide +kernel))
  have out : ∀ (x1 x2 : Option D), ∃ g : D, True := fun _ _ => ⟨.non, trivial⟩
  unfold oW eO
  cases hch : m.child with
  | none =>
    rw [hch] at e2 e3 e4 e5 wt
    unfold fj at e2 e3 e4 e5 wt
    cases o with
    | done => (wp_walk using "ew", aM, aA, aG, aH, aJ, aK, pC, aY, e1, wt, yV, e2, e3, cY, e5, ne, e4, anyM, dM, bJ, List.any_cons, List.any_nil, id, Nat.reduceLT, Rw.enc, Ot.enc, oK, f1, f2, f3, f4, f5, f6, r1, r2, g1, g2, List.isEmpty_nil, oN, fs6)
    | killed => (wp_walk using "ew", aM, aA, aG, aH, aJ, aK, pC, aY, e1, wt, yV, e2, e3, cY, e5, ne, e4, anyM, dM, bJ, List.any_cons, List.any_nil, id, Nat.reduceLT, Rw.enc, Ot.enc, oK, f1, f2, f3, f4, f5, f6, r1, r2, g1, g2, List.isEmpty_nil, oN, fs6)
    | failed s =>
      have e7 := yK w ok oo
      generalize dB = P at e7 ⊢
      (wp_walk using "ew", aM, aA, aG, aH, aJ, aK, pC, aY, e1, wt, yV, e2, e3, cY, e5, ne, e4, anyM, dM, bJ, List.any_cons, List.any_nil, id, Nat.reduceLT, Rw.enc, Ot.enc, oK, f1, f2, f3, f4, f5, f6, r1, r2, g1, g2, List.isEmpty_nil, oN, fs6, dZ, i6, e7)
  | some c =>
    rw [hch] at e2 e3 e4 e5 wt wc
    obtain ⟨fs, d1, d2, d3⟩ := wc
    have d1' := je d1 (n := B + 5) (by omega) (.dO (fj B (some c)))
    have h1 : fB fG "beginner" (.ref (B + 13)) (h.set (B + 5) (.dO (fj B (some c)))) = .ok (.int 0) (h.set (B + 5) (.dO (fj B (some c)))) := iI d1' (by simp) d2
    have h2 : fB eV "ending" (.ref (B + 13)) (h.set (B + 5) (.dO (fj B (some c)))) = .ok (.tup [.str "failed", .str c]) (h.set (B + 5) (.dO (fj B (some c)))) := iI d1' (by simp) d3
    unfold fj at e2 e3 e4 e5 wt h1 h2
    cases o with
    | done => (wp_walk using "ew", aM, aA, aG, aH, aJ, aK, pC, aY, e1, wt, yV, e2, e3, cY, e5, ne, h1, h2, e4, anyM, dM, bJ, List.any_cons, List.any_nil, id, Nat.reduceLT, Rw.enc, Ot.enc, oK, f1, f2, f3, f4, f5, f6, r1, r2, g1, g2, List.isEmpty_nil, oN, fs6)
    | killed => (wp_walk using "ew", aM, aA, aG, aH, aJ, aK, pC, aY, e1, wt, yV, e2, e3, cY, e5, ne, h1, h2, e4, anyM, dM, bJ, List.any_cons, List.any_nil, id, Nat.reduceLT, Rw.enc, Ot.enc, oK, f1, f2, f3, f4, f5, f6, r1, r2, g1, g2, List.isEmpty_nil, oN, fs6)
    | failed s =>
      have e7 := yK w ok oo
      generalize dB = P at e7 ⊢
      (wp_walk using "ew", aM, aA, aG, aH, aJ, aK, pC, aY, e1, wt, yV, e2, e3, cY, e5, ne, h1, h2, e4, anyM, dM, bJ, List.any_cons, List.any_nil, id, Nat.reduceLT, Rw.enc, Ot.enc, oK, f1, f2, f3, f4, f5, f6, r1, r2, g1, g2, List.isEmpty_nil, oN, fs6, dZ, i6, e7)
end
end dN
noncomputable section
namespace dN
open PySem PySem.Spec PyProof.Rows L2 PD
theorem ad7 : gD "tell" = some (some (.glo "ask_doing")) := rfl
theorem G9 : gD "failed" = some (some (.glo "ask_doing")) := rfl
theorem Tc : gD "rescued" = some (some (.glo "ask_rescued")) := rfl
theorem aaP : gD "masked" = some (some (.glo "ask_masked")) := rfl
theorem aaQ : gD "opened" = some (some (.glo "ask_opened")) := rfl
theorem ad8 : gD "last" = some (some (.glo "ask_last")) := rfl
theorem aaR : gD "lasted" = some (some (.glo "ask_lasted")) := rfl
theorem agL : gD "begun" = some (some (.glo "ask_begun")) := rfl
theorem ad9 : gD "kill" = some (some (.glo "ask_kill")) := rfl
theorem aaS : gD "landed" = some (some (.glo "ask_landed")) := rfl
theorem RK : gD "ended" = some (some (.glo "ask_ended")) := rfl
theorem ajO {x : String} {m : List D → AH → Res D} {l : List (Str × (List D → AH → Res D))} : wA ((PySem.Str.ofString x, m) :: l) (PySem.Str.ofString x) = some m := by
  unfold wA
  simp
theorem iZ {x y : String} {m : List D → AH → Res D} {l : List (Str × (List D → AH → Res D))} : wA ((PySem.Str.ofString y, m) :: l) (PySem.Str.ofString x) = if y = x then some m else wA l (PySem.Str.ofString x) := by
  by_cases e : y = x
  · subst e
    rw [if_pos rfl]
    exact ajO
  · rw [if_neg e]
    have n : ¬ PySem.Str.ofString y = PySem.Str.ofString x := fun z => e (vL z)
    unfold wA
    simp [n]
theorem afY {a b c : D} {h : AH} : Qe (.tup [a, b, c]) (some 2) none h = some (.tup [c], h) := rfl
theorem Fe (r : Rw) (h : AH) : dI [r.enc] h = .ok (match r with | .kill => .non | _ => .int 0) h := by
  unfold dI
  cases r <;> (wp_walk using "ew", aM, aA, aG, aH, aJ, aK, Rw.enc)
section
variable {B : Nat} {h : AH} {m : Mo} {many : Int}
theorem Td (w : WS B h m many) (ok : m.ok) (r : Rw) (ro : r.ok) : cO [.ref B, r.enc] h = .ok (acM m r) h := by
  have lr := agJ r ro h
  have e0 := EY w.w
  have dr := Fe r h
  have e1 := fO w.w
  have v0 := Fb B m.child
  have vs : (valD (fj B m.child) (.inl 0)).isSome = true := by rw [v0]; rfl
  have e6 := Dd w.s
  have hm : ∀ b, m.must = some b → eU r.enc (jt m.must) h = some (.bl (!rm r b), h) := fun b z => by
    rw [z, acK]
    exact aaO ro b
  have hn : m.must = none → jt m.must = .non := fun z => by rw [z]; rfl
  have ht : turnB m r = true → ∃ b, m.must = some b ∧ rm r b = false := fun z => by
    unfold turnB at z
    cases hb : m.must with
    | none => rw [hb] at z; cases z
    | some b =>
      rw [hb] at z
      exact ⟨b, rfl, by simpa using z⟩
  unfold cO acM
  generalize d7 = P1 at lr ⊢
  generalize dI = P2 at dr ⊢
  cases tb : turnB m r with
  | true =>
    obtain ⟨b, hb, hr⟩ := ht tb
    have q := hm b hb
    have mn : PD.isNon (jt m.must) = false := by rw [hb]; cases b <;> rfl
    rw [hr] at q
    (wp_walk using "ew", aM, aA, aG, aH, aJ, aK, lr, aY, e0, mn, q)
  | false =>
    have tst : ∀ (X Y : RS), (if PD.isNon (jt m.must) = true then X else Y) = (if m.must = none then X else Y) := fun X Y => by
      cases hb : m.must with
      | none => rfl
      | some b => cases b <;> rfl
    have two : (PD.isNon (jt m.must) = true) ∨ (PD.isNon (jt m.must) = false ∧ eU r.enc (jt m.must) h = some (.bl false, h)) := by
      cases hb : m.must with
      | none => exact .inl rfl
      | some b =>
        refine .inr ⟨by cases b <;> rfl, ?_⟩
        have q := hm b hb
        unfold turnB at tb
        rw [hb] at tb q
        rw [q]
        simp only [tb]
    have fin : ∀ (hk : r ≠ .kill), jf m r = m.fin.isSome := fun hk => by cases r <;> first | rfl | exact absurd rfl hk
    rcases two with mn | ⟨mn, q⟩
    · cases r with
      | kill =>
        have ea := FJ w
        simp only [Rw.enc] at lr dr ea ⊢
        (wp_walk using "ew", aM, aA, aG, aH, aJ, aK, lr, aY, e0, mn, dr, cY, e1, w.t, vs, v0, allM, dM, bJ, List.all_cons, List.all_nil, id, Nat.reduceLT, Bool.and_self, afY, jL, jK, ad9, fJ, iZ, ea, jf)
      | last =>
        have ea := FQ w (Rw.last).enc
        rw [fin (fun z => by cases z)]
        simp only [Rw.enc, eO] at lr dr ea ⊢
        cases hf : m.fin.isNone with
        | true =>
          have hs : m.fin.isSome = false := by cases z : m.fin with | none => rfl | some o => rw [z] at hf; cases hf
          (wp_walk using "ew", aM, aA, aG, aH, aJ, aK, lr, aY, e0, mn, dr, cY, e1, w.t, vs, v0, allM, dM, bJ, List.all_cons, List.all_nil, id, Nat.reduceLT, Bool.and_self, e6, cV, hf, hs, jL, jK, ad8, fJ, iZ, ea)
        | false =>
          have hs : m.fin.isSome = true := by cases z : m.fin with | none => rw [z] at hf; cases hf | some o => rfl
          (wp_walk using "ew", aM, aA, aG, aH, aJ, aK, lr, aY, e0, mn, dr, cY, e1, w.t, vs, v0, allM, dM, bJ, List.all_cons, List.all_nil, id, Nat.reduceLT, Bool.and_self, e6, cV, hf, hs)
      | lasted =>
        have ea := Bg w (Rw.lasted).enc
        rw [fin (fun z => by cases z)]
        simp only [Rw.enc, eO] at lr dr ea ⊢
        cases hf : m.fin.isNone with
        | true =>
          have hs : m.fin.isSome = false := by cases z : m.fin with | none => rfl | some o => rw [z] at hf; cases hf
          (wp_walk using "ew", aM, aA, aG, aH, aJ, aK, lr, aY, e0, mn, dr, cY, e1, w.t, vs, v0, allM, dM, bJ, List.all_cons, List.all_nil, id, Nat.reduceLT, Bool.and_self, e6, cV, hf, hs, jL, jK, aaR, fJ, iZ, ea)
        | false =>
          have hs : m.fin.isSome = true := by cases z : m.fin with | none => rw [z] at hf; cases hf | some o => rfl
          (wp_walk using "ew", aM, aA, aG, aH, aJ, aK, lr, aY, e0, mn, dr, cY, e1, w.t, vs, v0, allM, dM, bJ, List.all_cons, List.all_nil, id, Nat.reduceLT, Bool.and_self, e6, cV, hf, hs)
      | masked =>
        have ea := Bc w (Rw.masked).enc
        rw [fin (fun z => by cases z)]
        simp only [Rw.enc, eO] at lr dr ea ⊢
        cases hf : m.fin.isNone with
        | true =>
          have hs : m.fin.isSome = false := by cases z : m.fin with | none => rfl | some o => rw [z] at hf; cases hf
          (wp_walk using "ew", aM, aA, aG, aH, aJ, aK, lr, aY, e0, mn, dr, cY, e1, w.t, vs, v0, allM, dM, bJ, List.all_cons, List.all_nil, id, Nat.reduceLT, Bool.and_self, e6, cV, hf, hs, jL, jK, aaP, fJ, iZ, ea)
        | false =>
          have hs : m.fin.isSome = true := by cases z : m.fin with | none => rw [z] at hf; cases hf | some o => rfl
          (wp_walk using "ew", aM, aA, aG, aH, aJ, aK, lr, aY, e0, mn, dr, cY, e1, w.t, vs, v0, allM, dM, bJ, List.all_cons, List.all_nil, id, Nat.reduceLT, Bool.and_self, e6, cV, hf, hs)
      | opened =>
        have ea := Bf w (Rw.opened).enc
        rw [fin (fun z => by cases z)]
        simp only [Rw.enc, eO] at lr dr ea ⊢
        cases hf : m.fin.isNone with
        | true =>
          have hs : m.fin.isSome = false := by cases z : m.fin with | none => rfl | some o => rw [z] at hf; cases hf
          (wp_walk using "ew", aM, aA, aG, aH, aJ, aK, lr, aY, e0, mn, dr, cY, e1, w.t, vs, v0, allM, dM, bJ, List.all_cons, List.all_nil, id, Nat.reduceLT, Bool.and_self, e6, cV, hf, hs, jL, jK, aaQ, fJ, iZ, ea)
        | false =>
          have hs : m.fin.isSome = true := by cases z : m.fin with | none => rw [z] at hf; cases hf | some o => rfl
          (wp_walk using "ew", aM, aA, aG, aH, aJ, aK, lr, aY, e0, mn, dr, cY, e1, w.t, vs, v0, allM, dM, bJ, List.all_cons, List.all_nil, id, Nat.reduceLT, Bool.and_self, e6, cV, hf, hs)
      | landed =>
        have ea := Bb w (Rw.landed).enc
        rw [fin (fun z => by cases z)]
        simp only [Rw.enc, eO] at lr dr ea ⊢
        cases hf : m.fin.isNone with
        | true =>
          have hs : m.fin.isSome = false := by cases z : m.fin with | none => rfl | some o => rw [z] at hf; cases hf
          (wp_walk using "ew", aM, aA, aG, aH, aJ, aK, lr, aY, e0, mn, dr, cY, e1, w.t, vs, v0, allM, dM, bJ, List.all_cons, List.all_nil, id, Nat.reduceLT, Bool.and_self, e6, cV, hf, hs, jL, jK, aaS, fJ, iZ, ea)
        | false =>
          have hs : m.fin.isSome = true := by cases z : m.fin with | none => rw [z] at hf; cases hf | some o => rfl
          (wp_walk using "ew", aM, aA, aG, aH, aJ, aK, lr, aY, e0, mn, dr, cY, e1, w.t, vs, v0, allM, dM, bJ, List.all_cons, List.all_nil, id, Nat.reduceLT, Bool.and_self, e6, cV, hf, hs)
      | failed s =>
        have ea := tD w ok (Rw.failed s).enc
        rw [fin (fun z => by cases z)]
        simp only [Rw.enc, eO] at lr dr ea ⊢
        cases hf : m.fin.isNone with
        | true =>
          have hs : m.fin.isSome = false := by cases z : m.fin with | none => rfl | some o => rw [z] at hf; cases hf
          (wp_walk using "ew", aM, aA, aG, aH, aJ, aK, lr, aY, e0, mn, dr, cY, e1, w.t, vs, v0, allM, dM, bJ, List.all_cons, List.all_nil, id, Nat.reduceLT, Bool.and_self, e6, cV, hf, hs, jL, jK, G9, fJ, iZ, ea)
        | false =>
          have hs : m.fin.isSome = true := by cases z : m.fin with | none => rw [z] at hf; cases hf | some o => rfl
          (wp_walk using "ew", aM, aA, aG, aH, aJ, aK, lr, aY, e0, mn, dr, cY, e1, w.t, vs, v0, allM, dM, bJ, List.all_cons, List.all_nil, id, Nat.reduceLT, Bool.and_self, e6, cV, hf, hs)
      | rescued s =>
        have ea := zf w ok (s := s) ro
        rw [fin (fun z => by cases z)]
        simp only [Rw.enc, eO] at lr dr ea ⊢
        cases hf : m.fin.isNone with
        | true =>
          have hs : m.fin.isSome = false := by cases z : m.fin with | none => rfl | some o => rw [z] at hf; cases hf
          (wp_walk using "ew", aM, aA, aG, aH, aJ, aK, lr, aY, e0, mn, dr, cY, e1, w.t, vs, v0, allM, dM, bJ, List.all_cons, List.all_nil, id, Nat.reduceLT, Bool.and_self, e6, cV, hf, hs, jL, jK, Tc, fJ, iZ, ea)
        | false =>
          have hs : m.fin.isSome = true := by cases z : m.fin with | none => rw [z] at hf; cases hf | some o => rfl
          (wp_walk using "ew", aM, aA, aG, aH, aJ, aK, lr, aY, e0, mn, dr, cY, e1, w.t, vs, v0, allM, dM, bJ, List.all_cons, List.all_nil, id, Nat.reduceLT, Bool.and_self, e6, cV, hf, hs)
      | tell i =>
        have ea := tD w ok (Rw.tell i).enc
        rw [fin (fun z => by cases z)]
        simp only [Rw.enc, eO] at lr dr ea ⊢
        cases hf : m.fin.isNone with
        | true =>
          have hs : m.fin.isSome = false := by cases z : m.fin with | none => rfl | some o => rw [z] at hf; cases hf
          (wp_walk using "ew", aM, aA, aG, aH, aJ, aK, lr, aY, e0, mn, dr, cY, e1, w.t, vs, v0, allM, dM, bJ, List.all_cons, List.all_nil, id, Nat.reduceLT, Bool.and_self, e6, cV, hf, hs, jL, jK, ad7, fJ, iZ, ea)
        | false =>
          have hs : m.fin.isSome = true := by cases z : m.fin with | none => rw [z] at hf; cases hf | some o => rfl
          (wp_walk using "ew", aM, aA, aG, aH, aJ, aK, lr, aY, e0, mn, dr, cY, e1, w.t, vs, v0, allM, dM, bJ, List.all_cons, List.all_nil, id, Nat.reduceLT, Bool.and_self, e6, cV, hf, hs)
      | ended o =>
        have ea := Df w ok (o := o) ro
        rw [fin (fun z => by cases z)]
        simp only [Rw.enc, eO] at lr dr ea ⊢
        cases hf : m.fin.isNone with
        | true =>
          have hs : m.fin.isSome = false := by cases z : m.fin with | none => rfl | some o => rw [z] at hf; cases hf
          (wp_walk using "ew", aM, aA, aG, aH, aJ, aK, lr, aY, e0, mn, dr, cY, e1, w.t, vs, v0, allM, dM, bJ, List.all_cons, List.all_nil, id, Nat.reduceLT, Bool.and_self, e6, cV, hf, hs, jL, jK, RK, fJ, iZ, ea)
        | false =>
          have hs : m.fin.isSome = true := by cases z : m.fin with | none => rw [z] at hf; cases hf | some o => rfl
          (wp_walk using "ew", aM, aA, aG, aH, aJ, aK, lr, aY, e0, mn, dr, cY, e1, w.t, vs, v0, allM, dM, bJ, List.all_cons, List.all_nil, id, Nat.reduceLT, Bool.and_self, e6, cV, hf, hs)
    · cases r with
      | kill =>
        have ea := FJ w
        simp only [Rw.enc] at lr dr ea q ⊢
        (wp_walk using "ew", aM, aA, aG, aH, aJ, aK, lr, aY, e0, mn, q, dr, cY, e1, w.t, vs, v0, allM, dM, bJ, List.all_cons, List.all_nil, id, Nat.reduceLT, Bool.and_self, afY, jL, jK, ad9, fJ, iZ, ea, jf)
      | last =>
        have ea := FQ w (Rw.last).enc
        rw [fin (fun z => by cases z)]
        simp only [Rw.enc, eO] at lr dr ea q ⊢
        cases hf : m.fin.isNone with
        | true =>
          have hs : m.fin.isSome = false := by cases z : m.fin with | none => rfl | some o => rw [z] at hf; cases hf
          (wp_walk using "ew", aM, aA, aG, aH, aJ, aK, lr, aY, e0, mn, q, dr, cY, e1, w.t, vs, v0, allM, dM, bJ, List.all_cons, List.all_nil, id, Nat.reduceLT, Bool.and_self, e6, cV, hf, hs, jL, jK, ad8, fJ, iZ, ea)
        | false =>
          have hs : m.fin.isSome = true := by cases z : m.fin with | none => rw [z] at hf; cases hf | some o => rfl
          (wp_walk using "ew", aM, aA, aG, aH, aJ, aK, lr, aY, e0, mn, q, dr, cY, e1, w.t, vs, v0, allM, dM, bJ, List.all_cons, List.all_nil, id, Nat.reduceLT, Bool.and_self, e6, cV, hf, hs)
      | lasted =>
        have ea := Bg w (Rw.lasted).enc
        rw [fin (fun z => by cases z)]
        simp only [Rw.enc, eO] at lr dr ea q ⊢
        cases hf : m.fin.isNone with
        | true =>
          have hs : m.fin.isSome = false := by cases z : m.fin with | none => rfl | some o => rw [z] at hf; cases hf
          (wp_walk using "ew", aM, aA, aG, aH, aJ, aK, lr, aY, e0, mn, q, dr, cY, e1, w.t, vs, v0, allM, dM, bJ, List.all_cons, List.all_nil, id, Nat.reduceLT, Bool.and_self, e6, cV, hf, hs, jL, jK, aaR, fJ, iZ, ea)
        | false =>
          have hs : m.fin.isSome = true := by cases z : m.fin with | none => rw [z] at hf; cases hf | some o => rfl
          (wp_walk using "ew", aM, aA, aG, aH, aJ, aK, lr, aY, e0, mn, q, dr, cY, e1, w.t, vs, v0, allM, dM, bJ, List.all_cons, List.all_nil, id, Nat.reduceLT, Bool.and_self, e6, cV, hf, hs)
      | masked =>
        have ea := Bc w (Rw.masked).enc
        rw [fin (fun z => by cases z)]
        simp only [Rw.enc, eO] at lr dr ea q ⊢
        cases hf : m.fin.isNone with
        | true =>
          have hs : m.fin.isSome = false := by cases z : m.fin with | none => rfl | some o => rw [z] at hf; cases hf
          (wp_walk using "ew", aM, aA, aG, aH, aJ, aK, lr, aY, e0, mn, q, dr, cY, e1, w.t, vs, v0, allM, dM, bJ, List.all_cons, List.all_nil, id, Nat.reduceLT, Bool.and_self, e6, cV, hf, hs, jL, jK, aaP, fJ, iZ, ea)
        | false =>
          have hs : m.fin.isSome = true := by cases z : m.fin with | none => rw [z] at hf; cases hf | some o => rfl
          (wp_walk using "ew", aM, aA, aG, aH, aJ, aK, lr, aY, e0, mn, q, dr, cY, e1, w.t, vs, v0, allM, dM, bJ, List.all_cons, List.all_nil, id, Nat.reduceLT, Bool.and_self, e6, cV, hf, hs)
      | opened =>
        have ea := Bf w (Rw.opened).enc
        rw [fin (fun z => by cases z)]
        simp only [Rw.enc, eO] at lr dr ea q ⊢
        cases hf : m.fin.isNone with
        | true =>
          have hs : m.fin.isSome = false := by cases z : m.fin with | none => rfl | some o => rw [z] at hf; cases hf
          (wp_walk using "ew", aM, aA, aG, aH, aJ, aK, lr, aY, e0, mn, q, dr, cY, e1, w.t, vs, v0, allM, dM, bJ, List.all_cons, List.all_nil, id, Nat.reduceLT, Bool.and_self, e6, cV, hf, hs, jL, jK, aaQ, fJ, iZ, ea)
        | false =>
          have hs : m.fin.isSome = true := by cases z : m.fin with | none => rw [z] at hf; cases hf | some o => rfl
          (wp_walk using "ew", aM, aA, aG, aH, aJ, aK, lr, aY, e0, mn, q, dr, cY, e1, w.t, vs, v0, allM, dM, bJ, List.all_cons, List.all_nil, id, Nat.reduceLT, Bool.and_self, e6, cV, hf, hs)
      | landed =>
        have ea := Bb w (Rw.landed).enc
        rw [fin (fun z => by cases z)]
        simp only [Rw.enc, eO] at lr dr ea q ⊢
        cases hf : m.fin.isNone with
        | true =>
          have hs : m.fin.isSome = false := by cases z : m.fin with | none => rfl | some o => rw [z] at hf; cases hf
          (wp_walk using "ew", aM, aA, aG, aH, aJ, aK, lr, aY, e0, mn, q, dr, cY, e1, w.t, vs, v0, allM, dM, bJ, List.all_cons, List.all_nil, id, Nat.reduceLT, Bool.and_self, e6, cV, hf, hs, jL, jK, aaS, fJ, iZ, ea)
        | false =>
          have hs : m.fin.isSome = true := by cases z : m.fin with | none => rw [z] at hf; cases hf | some o => rfl
          (wp_walk using "ew", aM, aA, aG, aH, aJ, aK, lr, aY, e0, mn, q, dr, cY, e1, w.t, vs, v0, allM, dM, bJ, List.all_cons, List.all_nil, id, Nat.reduceLT, Bool.and_self, e6, cV, hf, hs)
      | failed s =>
        have ea := tD w ok (Rw.failed s).enc
        rw [fin (fun z => by cases z)]
        simp only [Rw.enc, eO] at lr dr ea q ⊢
        cases hf : m.fin.isNone with
        | true =>
          have hs : m.fin.isSome = false := by cases z : m.fin with | none => rfl | some o => rw [z] at hf; cases hf
          (wp_walk using "ew", aM, aA, aG, aH, aJ, aK, lr, aY, e0, mn, q, dr, cY, e1, w.t, vs, v0, allM, dM, bJ, List.all_cons, List.all_nil, id, Nat.reduceLT, Bool.and_self, e6, cV, hf, hs, jL, jK, G9, fJ, iZ, ea)
        | false =>
          have hs : m.fin.isSome = true := by cases z : m.fin with | none => rw [z] at hf; cases hf | some o => rfl
          (wp_walk using "ew", aM, aA, aG, aH, aJ, aK, lr, aY, e0, mn, q, dr, cY, e1, w.t, vs, v0, allM, dM, bJ, List.all_cons, List.all_nil, id, Nat.reduceLT, Bool.and_self, e6, cV, hf, hs)
      | rescued s =>
        have ea := zf w ok (s := s) ro
        rw [fin (fun z => by cases z)]
        simp only [Rw.enc, eO] at lr dr ea q ⊢
        cases hf : m.fin.isNone with
        | true =>
          have hs : m.fin.isSome = false := by cases z : m.fin with | none => rfl | some o => rw [z] at hf; cases hf
          (wp_walk using "ew", aM, aA, aG, aH, aJ, aK, lr, aY, e0, mn, q, dr, cY, e1, w.t, vs, v0, allM, dM, bJ, List.all_cons, List.all_nil, id, Nat.reduceLT, Bool.and_self, e6, cV, hf, hs, jL, jK, Tc, fJ, iZ, ea)
        | false =>
          have hs : m.fin.isSome = true := by cases z : m.fin with | none => rw [z] at hf; cases hf | some o => rfl
          (wp_walk using "ew", aM, aA, aG, aH, aJ, aK, lr, aY, e0, mn, q, dr, cY, e1, w.t, vs, v0, allM, dM, bJ, List.all_cons, List.all_nil, id, Nat.reduceLT, Bool.and_self, e6, cV, hf, hs)
      | tell i =>
        have ea := tD w ok (Rw.tell i).enc
        rw [fin (fun z => by cases z)]
        simp only [Rw.enc, eO] at lr dr ea q ⊢
        cases hf : m.fin.isNone with
        | true =>
          have hs : m.fin.isSome = false := by cases z : m.fin with | none => rfl | some o => rw [z] at hf; cases hf
          (wp_walk using "ew", aM, aA, aG, aH, aJ, aK, lr, aY, e0, mn, q, dr, cY, e1, w.t, vs, v0, allM, dM, bJ, List.all_cons, List.all_nil, id, Nat.reduceLT, Bool.and_self, e6, cV, hf, hs, jL, jK, ad7, fJ, iZ, ea)
        | false =>
          have hs : m.fin.isSome = true := by cases z : m.fin with | none => rw [z] at hf; cases hf | some o => rfl
          (wp_walk using "ew", aM, aA, aG, aH, aJ, aK, lr, aY, e0, mn, q, dr, cY, e1, w.t, vs, v0, allM, dM, bJ, List.all_cons, List.all_nil, id, Nat.reduceLT, Bool.and_self, e6, cV, hf, hs)
      | ended o =>
        have ea := Df w ok (o := o) ro
        rw [fin (fun z => by cases z)]
        simp only [Rw.enc, eO] at lr dr ea q ⊢
        cases hf : m.fin.isNone with
        | true =>
          have hs : m.fin.isSome = false := by cases z : m.fin with | none => rfl | some o => rw [z] at hf; cases hf
          (wp_walk using "ew", aM, aA, aG, aH, aJ, aK, lr, aY, e0, mn, q, dr, cY, e1, w.t, vs, v0, allM, dM, bJ, List.all_cons, List.all_nil, id, Nat.reduceLT, Bool.and_self, e6, cV, hf, hs, jL, jK, RK, fJ, iZ, ea)
        | false =>
          have hs : m.fin.isSome = true := by cases z : m.fin with | none => rw [z] at hf; cases hf | some o => rfl
          (wp_walk using "ew", aM, aA, aG, aH, aJ, aK, lr, aY, e0, mn, q, dr, cY, e1, w.t, vs, v0, allM, dM, bJ, List.all_cons, List.all_nil, id, Nat.reduceLT, Bool.and_self, e6, cV, hf, hs)
end
end dN
noncomputable section
namespace dN
open PySem PySem.Spec PyProof.Rows L2 PD
def fU (m : Mo) : Rw → String
  | .last => ""
  | .lasted => if m.lasts.isEmpty then "last" else ""
  | .masked => if m.shut then "held" else ""
  | .opened => if !m.shut then "open" else if !m.lasts.isEmpty then "last" else ""
  | .landed => if !m.due then "untold" else if m.shut then "held" else ""
  | .kill => if m.fin.isSome then "over" else ""
  | .failed _ | .tell _ => if offB m.goes then "unwinds" else ""
  | .rescued s => if !xg m s then "mark" else ""
  | .ended o => if m.shut then "held" else if !m.lasts.isEmpty then "last" else if m.due then "owed" else if !oN m o then "outcome" else ""
def rG (m : Mo) (r : Rw) : String := if turnB m r then "turn" else if jf m r then "ended" else fU m r
def afZ (w : String) : D := if w = "" then .non else .str w
theorem abU (m : Mo) (r : Rw) : acM m r = afZ (rG m r) := by
  unfold acM rG
  cases turnB m r with
  | true => rfl
  | false =>
    cases jf m r with
    | true => rfl
    | false =>
      simp only [Bool.false_eq_true, if_false]
      cases r with
      | last => rfl
      | lasted => simp only [eO, fU]; cases m.lasts.isEmpty <;> rfl
      | masked => simp only [eO, fU]; cases m.shut <;> rfl
      | opened => simp only [eO, fU]; cases m.shut <;> cases m.lasts.isEmpty <;> rfl
      | landed => simp only [eO, fU]; cases m.due <;> cases m.shut <;> rfl
      | kill => simp only [eO, fU]; cases m.fin.isSome <;> rfl
      | failed s => simp only [eO, fU]; cases offB m.goes <;> rfl
      | tell i => simp only [eO, fU]; cases offB m.goes <;> rfl
      | rescued s => simp only [eO, fU]; cases xg m s <;> rfl
      | ended o => simp only [eO, fU]; cases m.shut <;> cases m.lasts.isEmpty <;> cases m.due <;> cases oN m o <;> rfl
theorem fK {s t : String} {h : AH} : uU cP (.str (PySem.Str.ofString s)) (.str (PySem.Str.ofString t)) h = some (.bl (decide (s = t)), h) := lA
theorem eG {s t : String} {h : AH} : neL eU (.str (PySem.Str.ofString s)) (.str (PySem.Str.ofString t)) h = some (.bl (!decide (s = t)), h) := jD
theorem agM {g : Go} {e : D} {h : AH} : uU cP (qF g) e h = cP (qF g) e h := by cases g <;> rfl
theorem aiA {g : Go} (ok : g.ok) {h : AH} : cP (qF g) (.str "") h = some (.bl false, h) := by
  cases g with
  | on => exact lA
  | killed => exact lA
  | failed s => exact (wY (GB.cA "") (GB.cA "failed") (gG ok)).2.2
section
variable {B : Nat} {h : AH} {m : Mo}
theorem Fg (l : LS B h m) : h[B + 11]? = some (.dict [(.inr "goes", qF m.goes), (.inr "shut", .bl m.shut), (.inr "due", .bl m.due), (.inr "lasts", .ref (B + 12)), (.inr "must", qY m.must), (.inr "ended", .bl m.fin.isSome), (.inr "child", opS m.child)]) := l.d
theorem Aq (l : LS B h m) (ok : m.ok) {s : Str} (n : Nm s) : jC [.ref (B + 11), .str s] h = .ok (.bl (xg m s)) h := by
  have ld := Fg l
  have e1 := (ad0 ok.g (h := h)).2
  have e2 := agK ok.g n (h := h)
  have e3 := chL ok.c n (h := h)
  unfold jC xg
  cases hk : Ao m.goes <;> rw [hk] at e1 <;> cases hg : yJ m.goes s <;> rw [hg] at e2 <;> (wp_walk using "ew", aM, aA, aG, aH, aJ, aK, ld, e1, e2, e3, Bool.true_and, Bool.false_and)
theorem Tf (l : LS B h m) (ok : m.ok) {o : Ot} (oo : o.ok) : ∃ h', oY [.ref (B + 11), o.enc] h = .ok (.str (fU m (.ended o))) h' ∧ (h' = h ∨ ∃ c, h' = h ++ [c]) := by
  have ld := Fg l
  have r2 := xH l.b
  rw [za] at r2
  have g1 := fun h => (acJ ok.g (h := h)).1
  have g2 := fun h => (ad0 ok.g (h := h)).1
  unfold oY fU
  cases h1 : m.shut with
  | true =>
    rw [h1] at ld
    exact ⟨h, by (wp_walk using "ew", aM, aA, aG, aH, aJ, aK, ld), .inl rfl⟩
  | false =>
    rw [h1] at ld
    cases h2 : m.lasts.isEmpty with
    | false =>
      rw [h2] at r2
      exact ⟨h, by (wp_walk using "ew", aM, aA, aG, aH, aJ, aK, ld, r2), .inl rfl⟩
    | true =>
      rw [h2] at r2
      cases h3 : m.due with
      | true =>
        rw [h3] at ld
        exact ⟨h, by (wp_walk using "ew", aM, aA, aG, aH, aJ, aK, ld, r2), .inl rfl⟩
      | false =>
        rw [h3] at ld
        have la : ∀ c, (h ++ [c])[h.length]? = some c := fun c => ga0
        have sd : ∀ c d : Cell, (h ++ [c]).set h.length d = h ++ [d] := fun c d => SM
        have L2 : ∀ c, LS B (h ++ [c]) m := fun c => ⟨by rw [List.getElem?_append_left (List.getElem?_eq_some_iff.mp l.d).1]; exact l.d, by rw [List.getElem?_append_left (List.getElem?_eq_some_iff.mp l.b).1]; exact l.b⟩
        have ld2 := fun c => Fg (L2 c)
        rw [h1, h3] at ld2
        have pt : gR (gR [] (.inr "done") (.str "on")) (.inr "killed") (.str "killed") = [(.inr "done", .str "on"), (.inr "killed", .str "killed")] := by simp [gR, d9]
        refine ⟨h ++ [.dict [(.inr "done", .str "on"), (.inr "killed", .str "killed")]], ?_, .inr ⟨_, rfl⟩⟩
        cases o with
        | done =>
          cases hb : offB m.goes <;> simp only [hb] at g1 <;> (wp_walk using "ew", aM, aA, aG, aH, aJ, aK, ld, r2, qW, uR, keysOf, uQ, List.foldl_cons, List.foldl_nil, la, sd, pt, qM, zW (la _), getM, Ot.enc, g1, cU, oN, hb)
        | killed =>
          cases hb : Ao m.goes <;> simp only [hb] at g2 <;> (wp_walk using "ew", aM, aA, aG, aH, aJ, aK, ld, r2, qW, uR, keysOf, uQ, List.foldl_cons, List.foldl_nil, la, sd, pt, qM, zW (la _), getM, Ot.enc, g2, cU, oN, hb)
        | failed s =>
          have cf := Aq (L2 (.dict [(.inr "done", .str "on"), (.inr "killed", .str "killed")])) ok oo
          have ge := fun h => aiA ok.g (h := h)
          generalize jC = P at cf ⊢
          cases hb : xg m s <;> rw [hb] at cf <;> (wp_walk using "ew", aM, aA, aG, aH, aJ, aK, ld, r2, qW, uR, keysOf, uQ, List.foldl_cons, List.foldl_nil, la, sd, pt, qM, zW (la _), getM, Ot.enc, ge, cf, cU, oN, hb)
theorem afd (l : LS B h m) (ok : m.ok) (r : Rw) (ro : r.ok) : ∃ h', uw [.ref (B + 11), r.enc] h = .ok (.str (rG m r)) h' ∧ (h' = h ∨ ∃ c, h' = h ++ [c]) := by
  have ld := Fg l
  have mu : neL eU (qY m.must) (.str "") h = some (.bl m.must.isSome, h) := by
    cases m.must with
    | none => exact eG
    | some b => cases b <;> exact eG
  have rmu : ∀ b, m.must = some b → neL eU r.enc (.tup [qY m.must, .int 0]) h = some (.bl (!rm r b), h) := fun b z => by
    rw [z, acL]
    have : neL eU r.enc (.tup [.str (PySem.Str.ofString (QC b)), .int 0]) h = eU r.enc (.tup [.str (PySem.Str.ofString (QC b)), .int 0]) h := by cases r <;> rfl
    rw [this]
    exact aaO ro b
  have first : (turnB m r = true ∧ ∃ b, m.must = some b ∧ rm r b = false) ∨ (turnB m r = false ∧ (m.must.isSome = false ∨ (m.must.isSome = true ∧ neL eU r.enc (.tup [qY m.must, .int 0]) h = some (.bl false, h)))) := by
    unfold turnB
    cases hb : m.must with
    | none => exact .inr ⟨rfl, .inl rfl⟩
    | some b =>
      have q := rmu b hb
      rw [hb] at q
      cases hr : rm r b with
      | true =>
        rw [hr] at q
        exact .inr ⟨by simp [hr], .inr ⟨rfl, q⟩⟩
      | false => exact .inl ⟨by simp [hr], b, rfl, hr⟩
  have e1 := agM (g := m.goes) (e := .str "on") (h := h)
  rw [(acJ ok.g (h := h)).1] at e1
  have b1 := xH l.b
  have b2 := ad6 l.b
  rw [za] at b1 b2
  unfold uw rG
  rcases first with ⟨tb, b, hb, hr⟩ | ⟨tb, two⟩
  · have q := rmu b hb
    have hs : m.must.isSome = true := by rw [hb]; rfl
    rw [hr] at q
    rw [hs] at mu
    exact ⟨h, by (wp_walk using "ew", aM, aA, aG, aH, aJ, aK, ld, mu, q, tb), .inl rfl⟩
  · rcases two with hs | ⟨hs, q⟩
    · rw [hs] at mu
      cases hf : m.fin.isSome with
      | true =>
        rw [hf] at ld
        refine ⟨h, ?_, .inl rfl⟩
        cases r <;> simp only [Rw.enc] <;> (wp_walk using "ew", aM, aA, aG, aH, aJ, aK, ld, mu, eG, fK, tb, jf, fU, hf, cU)
      | false =>
        rw [hf] at ld
        cases r with
        | last =>
          simp only [Rw.enc]
          exact ⟨h, by (wp_walk using "ew", aM, aA, aG, aH, aJ, aK, ld, mu, eG, fK, tb, jf, fU, hf), .inl rfl⟩
        | lasted =>
          simp only [Rw.enc]
          exact ⟨h, by cases h1 : m.lasts.isEmpty <;> rw [h1] at b2 <;> (wp_walk using "ew", aM, aA, aG, aH, aJ, aK, ld, mu, eG, fK, tb, jf, fU, hf, b2, h1, cU), .inl rfl⟩
        | masked =>
          simp only [Rw.enc]
          exact ⟨h, by cases h1 : m.shut <;> rw [h1] at ld <;> (wp_walk using "ew", aM, aA, aG, aH, aJ, aK, ld, mu, eG, fK, tb, jf, fU, hf, h1, cU), .inl rfl⟩
        | opened =>
          simp only [Rw.enc]
          exact ⟨h, by cases h1 : m.shut <;> rw [h1] at ld <;> cases h2 : m.lasts.isEmpty <;> rw [h2] at b1 <;> (wp_walk using "ew", aM, aA, aG, aH, aJ, aK, ld, mu, eG, fK, tb, jf, fU, hf, b1, h1, h2, cU, Int.reduceAdd), .inl rfl⟩
        | landed =>
          simp only [Rw.enc]
          exact ⟨h, by cases h1 : m.shut <;> rw [h1] at ld <;> cases h2 : m.due <;> rw [h2] at ld <;> (wp_walk using "ew", aM, aA, aG, aH, aJ, aK, ld, mu, eG, fK, tb, jf, fU, hf, h1, h2, cU, Int.reduceAdd), .inl rfl⟩
        | kill =>
          simp only [Rw.enc]
          exact ⟨h, by (wp_walk using "ew", aM, aA, aG, aH, aJ, aK, ld, mu, eG, fK, tb, jf, fU, hf, cU), .inl rfl⟩
        | failed s =>
          simp only [Rw.enc]
          exact ⟨h, by cases h1 : offB m.goes <;> rw [h1] at e1 <;> (wp_walk using "ew", aM, aA, aG, aH, aJ, aK, ld, mu, eG, fK, tb, jf, fU, hf, e1, h1, cU), .inl rfl⟩
        | tell i =>
          simp only [Rw.enc]
          exact ⟨h, by cases h1 : offB m.goes <;> rw [h1] at e1 <;> (wp_walk using "ew", aM, aA, aG, aH, aJ, aK, ld, mu, eG, fK, tb, jf, fU, hf, e1, h1, cU), .inl rfl⟩
        | rescued s =>
          have cf := Aq l ok (s := s) ro
          simp only [Rw.enc]
          generalize jC = P at cf ⊢
          exact ⟨h, by cases h1 : xg m s <;> rw [h1] at cf <;> (wp_walk using "ew", aM, aA, aG, aH, aJ, aK, ld, mu, eG, fK, tb, jf, fU, hf, cf, h1, cU), .inl rfl⟩
        | ended o =>
          obtain ⟨h', ed, hh⟩ := Tf l ok (o := o) ro
          simp only [Rw.enc]
          generalize oY = P at ed ⊢
          simp only [fU] at ed
          exact ⟨h', by (wp_walk using "ew", aM, aA, aG, aH, aJ, aK, ld, mu, eG, fK, tb, jf, fU, hf, ed), hh⟩
    · rw [hs] at mu
      cases hf : m.fin.isSome with
      | true =>
        rw [hf] at ld
        refine ⟨h, ?_, .inl rfl⟩
        cases r <;> simp only [Rw.enc] at q ⊢ <;> (wp_walk using "ew", aM, aA, aG, aH, aJ, aK, ld, mu, q, eG, fK, tb, jf, fU, hf, cU)
      | false =>
        rw [hf] at ld
        cases r with
        | last =>
          simp only [Rw.enc] at q ⊢
          exact ⟨h, by (wp_walk using "ew", aM, aA, aG, aH, aJ, aK, ld, mu, q, eG, fK, tb, jf, fU, hf), .inl rfl⟩
        | lasted =>
          simp only [Rw.enc] at q ⊢
          exact ⟨h, by cases h1 : m.lasts.isEmpty <;> rw [h1] at b2 <;> (wp_walk using "ew", aM, aA, aG, aH, aJ, aK, ld, mu, q, eG, fK, tb, jf, fU, hf, b2, h1, cU), .inl rfl⟩
        | masked =>
          simp only [Rw.enc] at q ⊢
          exact ⟨h, by cases h1 : m.shut <;> rw [h1] at ld <;> (wp_walk using "ew", aM, aA, aG, aH, aJ, aK, ld, mu, q, eG, fK, tb, jf, fU, hf, h1, cU), .inl rfl⟩
        | opened =>
          simp only [Rw.enc] at q ⊢
          exact ⟨h, by cases h1 : m.shut <;> rw [h1] at ld <;> cases h2 : m.lasts.isEmpty <;> rw [h2] at b1 <;> (wp_walk using "ew", aM, aA, aG, aH, aJ, aK, ld, mu, q, eG, fK, tb, jf, fU, hf, b1, h1, h2, cU, Int.reduceAdd), .inl rfl⟩
        | landed =>
          simp only [Rw.enc] at q ⊢
          exact ⟨h, by cases h1 : m.shut <;> rw [h1] at ld <;> cases h2 : m.due <;> rw [h2] at ld <;> (wp_walk using "ew", aM, aA, aG, aH, aJ, aK, ld, mu, q, eG, fK, tb, jf, fU, hf, h1, h2, cU, Int.reduceAdd), .inl rfl⟩
        | kill =>
          simp only [Rw.enc] at q ⊢
          exact ⟨h, by (wp_walk using "ew", aM, aA, aG, aH, aJ, aK, ld, mu, q, eG, fK, tb, jf, fU, hf, cU), .inl rfl⟩
        | failed s =>
          simp only [Rw.enc] at q ⊢
          exact ⟨h, by cases h1 : offB m.goes <;> rw [h1] at e1 <;> (wp_walk using "ew", aM, aA, aG, aH, aJ, aK, ld, mu, q, eG, fK, tb, jf, fU, hf, e1, h1, cU), .inl rfl⟩
        | tell i =>
          simp only [Rw.enc] at q ⊢
          exact ⟨h, by cases h1 : offB m.goes <;> rw [h1] at e1 <;> (wp_walk using "ew", aM, aA, aG, aH, aJ, aK, ld, mu, q, eG, fK, tb, jf, fU, hf, e1, h1, cU), .inl rfl⟩
        | rescued s =>
          have cf := Aq l ok (s := s) ro
          simp only [Rw.enc] at q ⊢
          generalize jC = P at cf ⊢
          exact ⟨h, by cases h1 : xg m s <;> rw [h1] at cf <;> (wp_walk using "ew", aM, aA, aG, aH, aJ, aK, ld, mu, q, eG, fK, tb, jf, fU, hf, cf, h1, cU), .inl rfl⟩
        | ended o =>
          obtain ⟨h', ed, hh⟩ := Tf l ok (o := o) ro
          simp only [Rw.enc] at q ⊢
          generalize oY = P at ed ⊢
          simp only [fU] at ed
          exact ⟨h', by (wp_walk using "ew", aM, aA, aG, aH, aJ, aK, ld, mu, q, eG, fK, tb, jf, fU, hf, ed), hh⟩
end
end dN
noncomputable section
namespace dN
open PySem PySem.Spec PyProof.Rows L2 PD
def tE (m : Mo) : Go × Bool := m.lasts.getLastD (.on, true)
def eff (m : Mo) : Rw → Mo
  | .last => { m with goes := .on, lasts := m.lasts ++ [(m.goes, m.shut)], must := if m.shut then none else some true }
  | .lasted => { m with goes := if offB (tE m).1 then (tE m).1 else m.goes, lasts := m.lasts.dropLast, must := if (tE m).2 then none else some false }
  | .masked => { m with shut := true, must := none }
  | .opened => { m with shut := false, must := none }
  | .landed => { m with due := false, goes := .killed, must := none }
  | .kill => { m with due := true, must := none }
  | .failed s => { m with goes := .failed s, must := none }
  | .rescued _ => { m with goes := .on, must := none }
  | .tell _ => { m with must := none }
  | .ended o => { m with fin := some o, must := none }
theorem Ar {l : List (Go × Bool)} (h : l ≠ []) : l = l.dropLast ++ [l.getLastD (.on, true)] := by
  have e := List.dropLast_concat_getLast h
  have : l.getLastD (.on, true) = l.getLast h := by
    cases l with
    | nil => exact absurd rfl h
    | cons a l => simp [List.getLastD]
  rw [this, e]
theorem aiB {m : Mo} (ok : m.ok) {r : Rw} (ro : r.ok) (hl : r = .lasted → m.lasts ≠ []) : (eff m r).ok := by
  cases r with
  | last => exact ⟨trivial, fun q hq => by
      rcases List.mem_append.mp hq with hq | hq
      · exact ok.l q hq
      · rw [List.mem_singleton.mp hq]; exact ok.g, ok.c⟩
  | lasted =>
    have e := Ar (hl rfl)
    have hm : m.lasts.getLastD (.on, true) ∈ m.lasts.dropLast ++ [m.lasts.getLastD (.on, true)] := List.mem_append_right _ List.mem_cons_self
    rw [← e] at hm
    have lq : (tE m).1.ok := ok.l _ hm
    refine ⟨?_, fun q hq => ok.l q (List.dropLast_subset _ hq), ok.c⟩
    unfold eff
    dsimp only
    cases offB (tE m).1
    · exact ok.g
    · exact lq
  | masked => exact ⟨ok.g, ok.l, ok.c⟩
  | opened => exact ⟨ok.g, ok.l, ok.c⟩
  | landed => exact ⟨trivial, ok.l, ok.c⟩
  | kill => exact ⟨ok.g, ok.l, ok.c⟩
  | failed s => exact ⟨ro, ok.l, ok.c⟩
  | rescued s => exact ⟨trivial, ok.l, ok.c⟩
  | tell i => exact ⟨ok.g, ok.l, ok.c⟩
  | ended o => exact ⟨ok.g, ok.l, ok.c⟩
section
variable {B : Nat} {h g : AH} {m m' : Mo} {many many' : Int}
theorem WS.of (w : WS B h m many) (hc : m'.child = m.child) (e1 : g[B]? = some (.ins "Watch" (cQ B false (jt m'.must) many'))) (e2 : g[B + 6]? = some (.ins "Seen" (fY B m'))) (e3 : g[B + 8]? = some (.lst (m'.lasts.map fun q => .tup [gU q.1, .bl q.2])))
    (e4 : ∀ i, i ≠ B → i ≠ B + 6 → i ≠ B + 8 → g[i]? = h[i]?) : WS B g m' many' := by
  refine ⟨e1, by rw [e4 _ (by omega) (by omega) (by omega), hc]; exact w.t, e2, by rw [e4 _ (by omega) (by omega) (by omega)]; exact w.a, e3, ?_⟩
  rw [hc]
  have c := w.c
  cases hh : m.child with
  | none => trivial
  | some x =>
    rw [hh] at c
    obtain ⟨fs, a, b⟩ := c
    exact ⟨fs, by rw [e4 _ (by omega) (by omega) (by omega)]; exact a, b⟩
def canon (B : Nat) (h : AH) (m : Mo) (many : Int) : AH := ((h.set (B + 8) (.lst (m.lasts.map fun q => .tup [gU q.1, .bl q.2]))).set (B + 6) (.ins "Seen" (fY B m))).set B (.ins "Watch" (cQ B false (jt m.must) many))
theorem aaT (w : WS B h m many) (hc : m'.child = m.child) : WS B (canon B h m' many') m' many' := by
  have l0 := (List.getElem?_eq_some_iff.mp w.w).1
  have l6 := (List.getElem?_eq_some_iff.mp w.s).1
  have l8 := (List.getElem?_eq_some_iff.mp w.b).1
  unfold canon
  refine w.of hc ?_ ?_ ?_ fun i h1 h2 h3 => ?_
  · rw [List.getElem?_set_self (by simp only [List.length_set]; exact l0)]
  · rw [List.getElem?_set_ne (by omega), List.getElem?_set_self (by simp only [List.length_set]; exact l6)]
  · rw [List.getElem?_set_ne (by omega), List.getElem?_set_ne (by omega), List.getElem?_set_self l8]
  · rw [List.getElem?_set_ne (by omega), List.getElem?_set_ne (by omega), List.getElem?_set_ne (by omega)]
end
end dN
noncomputable section
namespace dN
open PySem PySem.Spec PyProof.Rows L2 PD
section
variable {B : Nat} {h : AH} {m : Mo} {many : Int}
theorem w_lit (w : WS B h m many) : h[B]? = some (.ins "Watch" [("sizes", .ref (B + 4)), ("raw", .bl false), ("tasks", .ref (B + 5)), ("latest", .ref (B + 9)), ("homes", .ref (B + 10)), ("must", jt m.must), ("many", .int many)]) := w.w
theorem Vd (w : WS B h m many) : h[B + 6]? = some (.ins "Seen" [("beginner", .non), ("called", .non), ("ending", yI m.fin), ("owed", .bl m.due), ("shut", .bl m.shut), ("state", gU m.goes), ("had", .ref (B + 7)), ("lasts", .ref (B + 8))]) := w.s
def h0 (B : Nat) (h : AH) (many : Int) : AH := h.set B (.ins "Watch" (cQ B false .non many))
theorem Ve (w : WS B h m many) : WS B (h0 B h many) { m with must := none } many := by
  have l0 := (List.getElem?_eq_some_iff.mp w.w).1
  unfold h0
  refine w.of rfl ?_ ?_ ?_ fun i h1 h2 h3 => ?_
  · rw [List.getElem?_set_self l0]; rfl
  · rw [List.getElem?_set_ne (by omega)]; exact w.s
  · rw [List.getElem?_set_ne (by omega)]; exact w.b
  · rw [List.getElem?_set_ne (by omega)]
theorem pZ (w : WS B h m many) (m' : Mo) (hc : m'.child = m.child) (hl : m'.lasts = m.lasts) (hm : m'.must = m.must) : WS B (h.set (B + 6) (.ins "Seen" (fY B m'))) m' many := by
  have l6 := (List.getElem?_eq_some_iff.mp w.s).1
  refine w.of hc ?_ ?_ ?_ fun i h1 h2 h3 => ?_
  · rw [List.getElem?_set_ne (by omega), hm]; exact w.w
  · rw [List.getElem?_set_self l6]
  · rw [List.getElem?_set_ne (by omega), hl]; exact w.b
  · rw [List.getElem?_set_ne (by omega)]
theorem keepI {h : AH} {i j : Nat} {c : Cell} (hij : j ≠ i) : (h.set j c)[i]? = h[i]? := List.getElem?_set_ne hij
def uz (B : Nat) (h g : AH) : Prop := g.length = h.length ∧ ∀ i, i ≠ B → i ≠ B + 6 → i ≠ B + 8 → g[i]? = h[i]?
theorem uz.set {g : AH} (a : uz B h g) {n : Nat} {c : Cell} (hn : n = B ∨ n = B + 6 ∨ n = B + 8) : uz B h (g.set n c) :=
  ⟨by rw [List.length_set]; exact a.1, fun i h1 h2 h3 => by rw [keepI (by omega)]; exact a.2 i h1 h2 h3⟩
theorem uz.refl : uz B h h := ⟨rfl, fun _ _ _ _ => rfl⟩
theorem yL (w : WS B h m many) (r : Rw) (hr : r = .masked ∨ r = .opened ∨ r = .kill) : cM [.ref B, r.enc] h = .ok .non ((h0 B h many).set (B + 6) (.ins "Seen" (fY B (eff m r)))) := by
  have dr := fun h => Fe r h
  have wl := w_lit w
  have w0 := Ve w
  have sl := Vd w0
  have e1 := fO w0.w
  have v0 := Fb B m.child
  have wt := w0.t
  unfold cM fY
  unfold h0 cQ at *
  generalize dI = P1 at dr ⊢
  rcases hr with rfl | rfl | rfl
  · have dr := dr (h.set B (.ins "Watch" [("sizes", .ref (B + 4)), ("raw", .bl false), ("tasks", .ref (B + 5)), ("latest", .ref (B + 9)), ("homes", .ref (B + 10)), ("must", .non), ("many", .int many)]))
    simp only [Rw.enc, eff] at dr ⊢
    (wp_walk using "ew", aM, aA, aG, aH, aJ, aK, bO, eX, wl, dr, e1, wt, v0, sl, eZ, eY, d9, List.mem_singleton, Nat.reduceLT, aY, iW)
  · have dr := dr (h.set B (.ins "Watch" [("sizes", .ref (B + 4)), ("raw", .bl false), ("tasks", .ref (B + 5)), ("latest", .ref (B + 9)), ("homes", .ref (B + 10)), ("must", .non), ("many", .int many)]))
    simp only [Rw.enc, eff] at dr ⊢
    (wp_walk using "ew", aM, aA, aG, aH, aJ, aK, bO, eX, wl, dr, e1, wt, v0, sl, eZ, eY, d9, List.mem_singleton, Nat.reduceLT, aY, iW)
  · have dr := dr (h.set B (.ins "Watch" [("sizes", .ref (B + 4)), ("raw", .bl false), ("tasks", .ref (B + 5)), ("latest", .ref (B + 9)), ("homes", .ref (B + 10)), ("must", .non), ("many", .int many)]))
    simp only [Rw.enc, eff] at dr ⊢
    (wp_walk using "ew", aM, aA, aG, aH, aJ, aK, bO, eX, wl, dr, e1, wt, v0, sl, eZ, eY, d9, List.mem_singleton, Nat.reduceLT, aY, iW)
end
end dN
noncomputable section
namespace dN
open PySem PySem.Spec PyProof.Rows L2 PD
section
variable {B : Nat} {h g : AH} {m : Mo} {many : Int}
def goR : Rw → Prop
  | .landed | .failed _ | .rescued _ | .tell _ | .ended _ => True
  | _ => False
theorem go_eq (w : WS B g m many) (r : Rw) (hr : goR r) : dY [.ref B, .ref (B + 6), r.enc] g = .ok .non (g.set (B + 6) (.ins "Seen" (fY B (eff m r)))) := by
  have sl := Vd w
  have ln := (List.getElem?_eq_some_iff.mp sl).1
  have ss : ∀ c, (g.set (B + 6) c)[B + 6]? = some c := fun c => by rw [List.getElem?_set_self ln]
  have sid := lG sl
  unfold dY fY
  cases r with
  | landed =>
    (wp_walk using "ew", aM, aA, aG, aH, aJ, aK, Rw.enc, eff, bO, eX, sl, eZ, eY, d9, List.mem_singleton, Nat.reduceLT, ss, iW)
    rfl
  | failed s =>
    (wp_walk using "ew", aM, aA, aG, aH, aJ, aK, Rw.enc, eff, bO, eX, sl, eZ, eY, d9, List.mem_singleton, Nat.reduceLT, ss, iW)
    rfl
  | rescued s =>
    (wp_walk using "ew", aM, aA, aG, aH, aJ, aK, Rw.enc, eff, bO, eX, sl, eZ, eY, d9, List.mem_singleton, Nat.reduceLT, ss, iW)
    rfl
  | tell i =>
    (wp_walk using "ew", aM, aA, aG, aH, aJ, aK, Rw.enc, eff, bO, eX, sl, eZ, eY, d9, List.mem_singleton, Nat.reduceLT, ss, iW, sid)
  | ended o =>
    (wp_walk using "ew", aM, aA, aG, aH, aJ, aK, Rw.enc, eff, bO, eX, sl, eZ, eY, d9, List.mem_singleton, Nat.reduceLT, ss, iW)
    rfl
  | _ => exact hr.elim
theorem zj (w : WS B h m many) (r : Rw) (hr : goR r) : cM [.ref B, r.enc] h = .ok .non ((h0 B h many).set (B + 6) (.ins "Seen" (fY B (eff m r)))) := by
  have w0 := Ve w
  have wl := w_lit w
  have e1 := fO w0.w
  have v0 := Fb B m.child
  have wt := w0.t
  have ig := pq (cs := uh) (mn := "go_on") w0.w (by simp) (fV (by decide +kernel))
  have ge := go_eq w0 r hr
  have ef : eff { m with must := none } r = eff m r := by cases r <;> first | rfl | exact hr.elim
  rw [ef] at ge
  have dr := Fe r (h0 B h many)
  unfold cM
  unfold h0 cQ at *
  generalize dI = P1 at dr ⊢
  generalize dY = P2 at ge ⊢
  cases r with
  | landed =>
    simp only [Rw.enc] at dr ge ⊢
    (wp_walk using "ew", aM, aA, aG, aH, aJ, aK, bO, eX, wl, dr, e1, wt, v0, eZ, eY, d9, List.mem_singleton, Nat.reduceLT, aY, dZ, ig, ge)
  | failed s =>
    simp only [Rw.enc] at dr ge ⊢
    (wp_walk using "ew", aM, aA, aG, aH, aJ, aK, bO, eX, wl, dr, e1, wt, v0, eZ, eY, d9, List.mem_singleton, Nat.reduceLT, aY, dZ, ig, ge)
  | rescued s =>
    simp only [Rw.enc] at dr ge ⊢
    (wp_walk using "ew", aM, aA, aG, aH, aJ, aK, bO, eX, wl, dr, e1, wt, v0, eZ, eY, d9, List.mem_singleton, Nat.reduceLT, aY, dZ, ig, ge)
  | tell i =>
    simp only [Rw.enc] at dr ge ⊢
    (wp_walk using "ew", aM, aA, aG, aH, aJ, aK, bO, eX, wl, dr, e1, wt, v0, eZ, eY, d9, List.mem_singleton, Nat.reduceLT, aY, dZ, ig, ge)
  | ended o =>
    simp only [Rw.enc] at dr ge ⊢
    (wp_walk using "ew", aM, aA, aG, aH, aJ, aK, bO, eX, wl, dr, e1, wt, v0, eZ, eY, d9, List.mem_singleton, Nat.reduceLT, aY, dZ, ig, ge)
  | _ => exact hr.elim
theorem gwo : gU .on = .tup [.str "on"] := rfl
theorem aea (w : WS B g m many) (hm : m.must = none) (hl : m.lasts.length < 1000) : gM [.ref B, .ref (B + 6), Rw.last.enc] g = .ok .non (canon B g (eff m .last) many) := by
  have sl := Vd w
  have wl := w_lit w
  rw [hm] at wl
  have l0 := (List.getElem?_eq_some_iff.mp w.w).1
  have l6 := (List.getElem?_eq_some_iff.mp w.s).1
  have l8 := (List.getElem?_eq_some_iff.mp w.b).1
  have f1 := xG w.s
  have f2 := xq w.s
  have f3 := vQ w.s
  have a1 : zP (.ref (B + 8)) [.tup [gU m.goes, .bl m.shut]] g = some (.non, g.set (B + 8) (.lst ((m.lasts ++ [(m.goes, m.shut)]).map fun q => .tup [gU q.1, .bl q.2]))) := by
    have hl2 : (m.lasts.map fun q => D.tup [gU q.1, .bl q.2]).length < 16777216 := by simp; omega
    simp only [zP, w.b, hl2, if_true, List.map_append, List.map_cons, List.map_nil]
  have it := zX w.b
  have gw : ∀ c, (g.set (B + 8) c)[B + 6]? = some (.ins "Seen" [("beginner", .non), ("called", .non), ("ending", yI m.fin), ("owed", .bl m.due), ("shut", .bl m.shut), ("state", gU m.goes), ("had", .ref (B + 7)), ("lasts", .ref (B + 8))]) := fun c => by rw [keepI (by omega)]; exact sl
  have gB : ∀ c d, ((g.set (B + 8) c).set (B + 6) d)[B]? = some (.ins "Watch" [("sizes", .ref (B + 4)), ("raw", .bl false), ("tasks", .ref (B + 5)), ("latest", .ref (B + 9)), ("homes", .ref (B + 10)), ("must", jt none), ("many", .int many)]) := fun c d => by rw [keepI (by omega), keepI (by omega)]; exact wl
  have s6 : ∀ c, ((g.set (B + 8) c).set (B + 6) (.ins "Seen" (fY B (eff m .last))))[B + 6]? = some (.ins "Seen" (fY B (eff m .last))) := fun c => List.getElem?_set_self (by rw [List.length_set]; exact l6)
  have f4 := fun c => vQ (s6 c)
  have sB : ∀ c d, ((g.set (B + 8) c).set (B + 6) d).set B (.ins "Watch" (cQ B false .non many)) = (g.set (B + 8) c).set (B + 6) d := fun c d => lG (by rw [keepI (by omega), keepI (by omega), w.w, hm]; rfl)
  unfold gM canon
  unfold fY iW cQ at *
  cases h1 : m.shut with
  | true =>
    simp only [eff, h1, gwo] at f4 ⊢
    rw [h1] at a1 f3 gw
    simp only [if_true, jt] at sB ⊢
    rw [sB]
    (wp_walk using "ew", aM, aA, aG, aH, aJ, aK, Rw.enc, aY, f1, qM, it, f2, f3, a1, bO, eX, gw, eZ, eY, d9, List.mem_singleton, Nat.reduceLT, f4, gwo)
  | false =>
    simp only [eff, h1, gwo] at f4 ⊢
    rw [h1] at a1 f3 gw
    (wp_walk using "ew", aM, aA, aG, aH, aJ, aK, Rw.enc, aY, f1, qM, it, f2, f3, a1, bO, eX, gw, gB, eZ, eY, d9, List.mem_singleton, Nat.reduceLT, f4, gwo, jt)
end
end dN
noncomputable section
namespace dN
open PySem PySem.Spec PyProof.Rows L2 PD
section
variable {B : Nat} {h g : AH} {m : Mo} {many : Int}
theorem abV {F : Go × Bool → D} {n : Nat} {g : AH} {l : List (Go × Bool)} (hl : l ≠ []) (e : g[n]? = some (.lst (l.map F))) : Rf (.ref n) [] g = some (F (l.getLastD (.on, true)), g.set n (.lst (l.dropLast.map F))) := by
  have el := Ar hl
  generalize l.getLastD (.on, true) = q at el
  generalize l.dropLast = d at el
  subst el
  have e2 : ((d ++ [q]).map F)[((d ++ [q]).map F).length - 1]? = some (F q) := by simp
  have e3 : ((d ++ [q]).map F).dropLast = d.map F := by simp
  simp only [Rf, e, e2, e3]
theorem abk (w : WS B g m many) (ok : m.ok) (hm : m.must = none) (hl : m.lasts ≠ []) : gM [.ref B, .ref (B + 6), Rw.lasted.enc] g = .ok .non (canon B g (eff m .lasted) many) := by
  have sl := Vd w
  have wl := w_lit w
  rw [hm] at wl
  have l0 := (List.getElem?_eq_some_iff.mp w.w).1
  have l6 := (List.getElem?_eq_some_iff.mp w.s).1
  have f1 := xG w.s
  have pm := abV hl w.b
  have it := zX w.b
  have lm : tE m = m.lasts.getLastD (.on, true) := rfl
  rw [← lm] at pm
  have lq : (tE m).1.ok := by
    have e := Ar hl
    have hm2 : m.lasts.getLastD (.on, true) ∈ m.lasts.dropLast ++ [m.lasts.getLastD (.on, true)] := List.mem_append_right _ List.mem_cons_self
    rw [← e] at hm2
    exact ok.l _ hm2
  have ne := fun h => Vc lq (h := h)
  have gw : ∀ c, (g.set (B + 8) c)[B + 6]? = some (.ins "Seen" [("beginner", .non), ("called", .non), ("ending", yI m.fin), ("owed", .bl m.due), ("shut", .bl m.shut), ("state", gU m.goes), ("had", .ref (B + 7)), ("lasts", .ref (B + 8))]) := fun c => by rw [keepI (by omega)]; exact sl
  have gB : ∀ c d, ((g.set (B + 8) c).set (B + 6) d)[B]? = some (.ins "Watch" [("sizes", .ref (B + 4)), ("raw", .bl false), ("tasks", .ref (B + 5)), ("latest", .ref (B + 9)), ("homes", .ref (B + 10)), ("must", jt none), ("many", .int many)]) := fun c d => by rw [keepI (by omega), keepI (by omega)]; exact wl
  have gB1 : ∀ c, (g.set (B + 8) c)[B]? = some (.ins "Watch" [("sizes", .ref (B + 4)), ("raw", .bl false), ("tasks", .ref (B + 5)), ("latest", .ref (B + 9)), ("homes", .ref (B + 10)), ("must", jt none), ("many", .int many)]) := fun c => by rw [keepI (by omega)]; exact wl
  have s6 : ∀ c, (g.set (B + 8) c).set (B + 6) (.ins "Seen" [("beginner", .non), ("called", .non), ("ending", yI m.fin), ("owed", .bl m.due), ("shut", .bl m.shut), ("state", gU m.goes), ("had", .ref (B + 7)), ("lasts", .ref (B + 8))]) = g.set (B + 8) c := fun c => lG (gw c)
  have sB : ∀ c d, ((g.set (B + 8) c).set (B + 6) d).set B (.ins "Watch" (cQ B false .non many)) = (g.set (B + 8) c).set (B + 6) d := fun c d => lG (by rw [keepI (by omega), keepI (by omega), w.w, hm]; rfl)
  have sB1 : ∀ c, (g.set (B + 8) c).set B (.ins "Watch" (cQ B false .non many)) = g.set (B + 8) c := fun c => lG (by rw [keepI (by omega), w.w, hm]; rfl)
  unfold gM canon
  unfold fY iW cQ at *
  simp only [eff]
  generalize tE m = Q at *
  obtain ⟨q1, q2⟩ := Q
  simp only at ne pm
  cases ho : offB q1 <;> simp only [ho] at ne <;> cases q2 <;> simp only [Bool.false_eq_true, if_true, if_false, jt] at sB sB1 ⊢ <;>
    (wp_walk using "ew", aM, aA, aG, aH, aJ, aK, Rw.enc, aY, f1, aal, it, pm, ne, bO, eX, gw, gB, gB1, s6, sB, sB1, eZ, eY, d9, List.mem_singleton, Nat.reduceLT, jt)
end
end dN
noncomputable section
namespace dN
open PySem PySem.Spec PyProof.Rows L2 PD
section
variable {B : Nat} {h g : AH} {m : Mo} {many : Int}
theorem Tg (w : WS B h m many) (ok : m.ok) (hl : m.lasts.length < 1000) (r : Rw) (hr : r = .last ∨ (r = .lasted ∧ m.lasts ≠ [])) : cM [.ref B, r.enc] h = .ok .non (canon B (h0 B h many) (eff m r) many) := by
  have w0 := Ve w
  have wl := w_lit w
  have e1 := fO w0.w
  have v0 := Fb B m.child
  have wt := w0.t
  have ig := pq (cs := Ez) (mn := "turn") w0.w (by simp) (fV (by decide +kernel))
  have dr := Fe r (h0 B h many)
  rcases hr with rfl | ⟨rfl, hne⟩
  · have ge := aea w0 rfl hl
    have ef : eff { m with must := none } .last = eff m .last := rfl
    rw [ef] at ge
    unfold cM
    unfold h0 cQ at *
    generalize dI = P1 at dr ⊢
    generalize gM = P2 at ge ⊢
    simp only [Rw.enc] at dr ge ⊢
    (wp_walk using "ew", aM, aA, aG, aH, aJ, aK, bO, eX, wl, dr, e1, wt, v0, eZ, eY, d9, List.mem_singleton, Nat.reduceLT, aY, dZ, ig, ge)
  · have ge := abk w0 ⟨ok.g, ok.l, ok.c⟩ rfl hne
    have ef : eff { m with must := none } .lasted = eff m .lasted := rfl
    rw [ef] at ge
    unfold cM
    unfold h0 cQ at *
    generalize dI = P1 at dr ⊢
    generalize gM = P2 at ge ⊢
    simp only [Rw.enc] at dr ge ⊢
    (wp_walk using "ew", aM, aA, aG, aH, aJ, aK, bO, eX, wl, dr, e1, wt, v0, eZ, eY, d9, List.mem_singleton, Nat.reduceLT, aY, dZ, ig, ge)
theorem QD {m' : Mo} (a : uz B h g) : uz B h (canon B g m' many) := ((a.set (.inr (.inr rfl))).set (.inr (.inl rfl))).set (.inl rfl)
theorem take_eq (w : WS B h m many) (ok : m.ok) (hl : m.lasts.length < 1000) (r : Rw) (hr : r = .lasted → m.lasts ≠ []) : ∃ h', cM [.ref B, r.enc] h = .ok .non h' ∧ WS B h' (eff m r) many ∧ uz B h h' := by
  have w0 := Ve w
  have a0 : uz B h (h0 B h many) := uz.refl.set (.inl rfl)
  cases r with
  | last => exact ⟨_, Tg w ok hl .last (.inl rfl), aaT w0 rfl, QD a0⟩
  | lasted => exact ⟨_, Tg w ok hl .lasted (.inr ⟨rfl, hr rfl⟩), aaT w0 rfl, QD a0⟩
  | masked => exact ⟨_, yL w .masked (.inl rfl), pZ w0 _ rfl rfl rfl, a0.set (.inr (.inl rfl))⟩
  | opened => exact ⟨_, yL w .opened (.inr (.inl rfl)), pZ w0 _ rfl rfl rfl, a0.set (.inr (.inl rfl))⟩
  | kill => exact ⟨_, yL w .kill (.inr (.inr rfl)), pZ w0 _ rfl rfl rfl, a0.set (.inr (.inl rfl))⟩
  | landed => exact ⟨_, zj w .landed trivial, pZ w0 _ rfl rfl rfl, a0.set (.inr (.inl rfl))⟩
  | failed s => exact ⟨_, zj w (.failed s) trivial, pZ w0 _ rfl rfl rfl, a0.set (.inr (.inl rfl))⟩
  | rescued s => exact ⟨_, zj w (.rescued s) trivial, pZ w0 _ rfl rfl rfl, a0.set (.inr (.inl rfl))⟩
  | tell i => exact ⟨_, zj w (.tell i) trivial, pZ w0 _ rfl rfl rfl, a0.set (.inr (.inl rfl))⟩
  | ended o => exact ⟨_, zj w (.ended o) trivial, pZ w0 _ rfl rfl rfl, a0.set (.inr (.inl rfl))⟩
def tick (B : Nat) (m : Mo) (many : Int) (h : AH) : AH := h.set B (.ins "Watch" (cQ B false (jt m.must) (many + 1)))
theorem abW (w : WS B h m many) : WS B (tick B m many h) m (many + 1) := by
  have l0 := (List.getElem?_eq_some_iff.mp w.w).1
  unfold tick
  refine w.of rfl ?_ ?_ ?_ fun i h1 h2 h3 => ?_
  · rw [List.getElem?_set_self l0]
  · rw [List.getElem?_set_ne (by omega)]; exact w.s
  · rw [List.getElem?_set_ne (by omega)]; exact w.b
  · rw [List.getElem?_set_ne (by omega)]
theorem afe {w : String} (h : ¬ w = "") : afZ w = .str w := if_neg h
theorem abX (w : WS B h m many) (e : En) (e0 : e[0]? = some (some (.ref B))) : oO iG "many" (aq 0) (eC (.int 1)) e h = .nx e (tick B m many h) := by
  have wl := w_lit w
  unfold tick cQ oO
  simp only [aq, e0, Res.xT, wl, List.mem_singleton, if_true, fX, fW, String.reduceEq, if_false, eC, List.length_cons, List.length_nil, Nat.reduceAdd, Nat.reduceLT, and_self, eY, eZ, d9]
theorem aiC (w : WS B h m many) (ok : m.ok) (hl : m.lasts.length < 1000) (r : Rw) (ro : r.ok) (hd : rG m r = "") : ∃ h', dG [.ref B, r.enc] h = .ok .non h' ∧ WS B h' (eff m r) (many + 1) ∧ uz B h h' := by
  have er := Td w ok r ro
  rw [abU m r, hd] at er
  have er : cO [.ref B, r.enc] h = .ok .non h := er
  have hne : r = .lasted → m.lasts ≠ [] := fun z e => by
    subst z
    unfold rG at hd
    split at hd
    · exact absurd hd (by decide)
    · split at hd
      · exact absurd hd (by decide)
      · simp only [fU, e, List.isEmpty_nil, if_true] at hd
        exact absurd hd (by decide)
  obtain ⟨h1, et, w1, a1⟩ := take_eq w ok hl r hne
  have i1 := pq (cs := pW) (mn := "reason") w.w (by simp) (fV (by decide +kernel))
  have i2 := pq (cs := vO) (mn := "take") w.w (by simp) (fV (by decide +kernel))
  have fa := abX w1 [some (.ref B), some r.enc, some .non] rfl
  refine ⟨_, ?_, abW w1, a1.set (.inl rfl)⟩
  unfold dG
  generalize cO = P1 at er ⊢
  generalize cM = P2 at et ⊢
  generalize oO iG "many" (aq 0) (eC (.int 1)) = S1 at fa ⊢
  (wp_walk using "ew", aM, aA, aG, aH, aJ, aK, GZ, dZ, i1, i2, er, et, fa, noX)
theorem agN (w : WS B h m many) (ok : m.ok) (r : Rw) (ro : r.ok) (hd : ¬ rG m r = "") : dG [.ref B, r.enc] h = .exc "Broken" [("at", .int many), ("why", .str (rG m r))] (tick B m many h) := by
  have er := Td w ok r ro
  rw [abU m r, afe hd] at er
  have e1 := abR w.w
  have i1 := pq (cs := pW) (mn := "reason") w.w (by simp) (fV (by decide +kernel))
  have fa := abX w [some (.ref B), some r.enc, some (.str (rG m r))] rfl
  unfold dG
  generalize cO = P1 at er ⊢
  generalize oO iG "many" (aq 0) (eC (.int 1)) = S1 at fa ⊢
  (wp_walk using "ew", aM, aA, aG, aH, aJ, aK, GZ, dZ, i1, er, fa, Cm, Ac, aY, e1)
theorem aeb {h h' : AH} {r : Rw} (e : dG [.ref B, r.enc] h = .ok .non h') (i1 : U7 uV "see" (.ref B) h) : fM [.ref B, r.enc] h = .ok (.str "") h' := by
  unfold fM
  generalize dG = P1 at e ⊢
  (wp_walk using "ew", aM, aA, aG, aH, aJ, aK, zR, dZ, i1, e)
theorem acN {h h' : AH} {r : Rw} {w : Str} (e : dG [.ref B, r.enc] h = .exc "Broken" [("at", .int many), ("why", .str w)] h') (i1 : U7 uV "see" (.ref B) h) : fM [.ref B, r.enc] h = .ok (.tup [.int many, .str w]) h' := by
  have ex : jo "Broken" = some true := rfl
  have xt : acn [xF "at", xF "why"] [("at", .int many), ("why", .str w)] h' = some (.tup [.int many, .str w]) := by
    simp [acn, xF, List.mapM_cons, fW, fX]
  unfold fM
  generalize dG = P1 at e ⊢
  (wp_walk using "ew", aM, aA, aG, aH, aJ, aK, zR, dZ, i1, e, ex, xt, Nat.reduceLT)
end
end dN
noncomputable section
namespace dN
open PySem PySem.Spec PyProof.Rows L2 PD
theorem o7 {a b c d e f g v : D} : gR [(.inr "goes", a), (.inr "shut", b), (.inr "due", c), (.inr "lasts", d), (.inr "must", e), (.inr "ended", f), (.inr "child", g)] (.inr "goes") v = [(.inr "goes", v), (.inr "shut", b), (.inr "due", c), (.inr "lasts", d), (.inr "must", e), (.inr "ended", f), (.inr "child", g)] := by
  simp [gR, d9]
theorem o8 {a b c d e f g v : D} : gR [(.inr "goes", a), (.inr "shut", b), (.inr "due", c), (.inr "lasts", d), (.inr "must", e), (.inr "ended", f), (.inr "child", g)] (.inr "shut") v = [(.inr "goes", a), (.inr "shut", v), (.inr "due", c), (.inr "lasts", d), (.inr "must", e), (.inr "ended", f), (.inr "child", g)] := by
  simp [gR, d9]
theorem qO {a b c d e f g v : D} : gR [(.inr "goes", a), (.inr "shut", b), (.inr "due", c), (.inr "lasts", d), (.inr "must", e), (.inr "ended", f), (.inr "child", g)] (.inr "due") v = [(.inr "goes", a), (.inr "shut", b), (.inr "due", v), (.inr "lasts", d), (.inr "must", e), (.inr "ended", f), (.inr "child", g)] := by
  simp [gR, d9]
theorem o9 {a b c d e f g v : D} : gR [(.inr "goes", a), (.inr "shut", b), (.inr "due", c), (.inr "lasts", d), (.inr "must", e), (.inr "ended", f), (.inr "child", g)] (.inr "must") v = [(.inr "goes", a), (.inr "shut", b), (.inr "due", c), (.inr "lasts", d), (.inr "must", v), (.inr "ended", f), (.inr "child", g)] := by
  simp [gR, d9]
theorem lZ {a b c d e f g v : D} : gR [(.inr "goes", a), (.inr "shut", b), (.inr "due", c), (.inr "lasts", d), (.inr "must", e), (.inr "ended", f), (.inr "child", g)] (.inr "ended") v = [(.inr "goes", a), (.inr "shut", b), (.inr "due", c), (.inr "lasts", d), (.inr "must", e), (.inr "ended", v), (.inr "child", g)] := by
  simp [gR, d9]
theorem afg {a b c d e f g v : D} : gR [(.inr "goes", a), (.inr "shut", b), (.inr "due", c), (.inr "lasts", d), (.inr "must", e), (.inr "ended", f), (.inr "child", g)] (.inr "child") v = [(.inr "goes", a), (.inr "shut", b), (.inr "due", c), (.inr "lasts", d), (.inr "must", e), (.inr "ended", f), (.inr "child", v)] := by
  simp [gR, d9]
section
variable {B : Nat} {h g : AH} {m : Mo}
def qD (B : Nat) (h g : AH) : Prop := g.length = h.length ∧ ∀ i, i ≠ B + 11 → i ≠ B + 12 → g[i]? = h[i]?
theorem qD.set (a : qD B h g) {n : Nat} {c : Cell} (hn : n = B + 11 ∨ n = B + 12) : qD B h (g.set n c) :=
  ⟨by rw [List.length_set]; exact a.1, fun i h1 h2 => by rw [keepI (by omega)]; exact a.2 i h1 h2⟩
theorem qD.refl : qD B h h := ⟨rfl, fun _ _ _ => rfl⟩
theorem ajP (l : LS B h m) (m' : Mo) (hl : m'.lasts = m.lasts) : LS B (h.set (B + 11) (.dict (iY B m'))) m' := by
  have l1 := (List.getElem?_eq_some_iff.mp l.d).1
  exact ⟨by rw [List.getElem?_set_self l1], by rw [keepI (by omega), hl]; exact l.b⟩
theorem af2 (l : LS B h m) (m' : Mo) (c : Cell) : LS B (((h.set (B + 11) c).set (B + 12) (.lst (m'.lasts.map fun q => .tup [qF q.1, .bl q.2]))).set (B + 11) (.dict (iY B m'))) m' := by
  have l1 := (List.getElem?_eq_some_iff.mp l.d).1
  have l2 := (List.getElem?_eq_some_iff.mp l.b).1
  exact ⟨by rw [List.getElem?_set_self (by simp only [List.length_set]; exact l1)], by rw [keepI (by omega), List.getElem?_set_self (by simp only [List.length_set]; exact l2)]⟩
theorem agO (l : LS B h m) (ok : m.ok) (hl : m.lasts.length < 1000) (r : Rw) (hr : r = .lasted → m.lasts ≠ []) : ∃ h', rF [.ref (B + 11), r.enc] h = .ok .non h' ∧ LS B h' (eff m r) ∧ qD B h h' := by
  have ld := Fg l
  have l1 := (List.getElem?_eq_some_iff.mp l.d).1
  have ss : ∀ c, (h.set (B + 11) c)[B + 11]? = some c := fun c => by rw [List.getElem?_set_self l1]
  have one : ∀ (r : Rw), (eff m r).lasts = m.lasts → LS B (h.set (B + 11) (.dict (iY B (eff m r)))) (eff m r) ∧ qD B h (h.set (B + 11) (.dict (iY B (eff m r)))) := fun r e => ⟨ajP l _ e, qD.refl.set (.inl rfl)⟩
  unfold rF
  cases r with
  | masked =>
    obtain ⟨a, b⟩ := one .masked rfl
    refine ⟨_, ?_, a, b⟩
    unfold iY
    (wp_walk using "ew", aM, aA, aG, aH, aJ, aK, Rw.enc, ld, ss, o7, o8, qO, o9, lZ, Nat.reduceLT)
    first | done | rfl
  | opened =>
    obtain ⟨a, b⟩ := one .opened rfl
    refine ⟨_, ?_, a, b⟩
    unfold iY
    (wp_walk using "ew", aM, aA, aG, aH, aJ, aK, Rw.enc, ld, ss, o7, o8, qO, o9, lZ, Nat.reduceLT)
    first | done | rfl
  | landed =>
    obtain ⟨a, b⟩ := one .landed rfl
    refine ⟨_, ?_, a, b⟩
    unfold iY
    (wp_walk using "ew", aM, aA, aG, aH, aJ, aK, Rw.enc, ld, ss, o7, o8, qO, o9, lZ, Nat.reduceLT)
    first | done | rfl
  | kill =>
    obtain ⟨a, b⟩ := one .kill rfl
    refine ⟨_, ?_, a, b⟩
    unfold iY
    (wp_walk using "ew", aM, aA, aG, aH, aJ, aK, Rw.enc, ld, ss, o7, o8, qO, o9, lZ, Nat.reduceLT)
    first | done | rfl
  | failed s =>
    obtain ⟨a, b⟩ := one (.failed s) rfl
    refine ⟨_, ?_, a, b⟩
    unfold iY
    (wp_walk using "ew", aM, aA, aG, aH, aJ, aK, Rw.enc, ld, ss, o7, o8, qO, o9, lZ, Nat.reduceLT)
    first | done | rfl
  | rescued s =>
    obtain ⟨a, b⟩ := one (.rescued s) rfl
    refine ⟨_, ?_, a, b⟩
    unfold iY
    (wp_walk using "ew", aM, aA, aG, aH, aJ, aK, Rw.enc, ld, ss, o7, o8, qO, o9, lZ, Nat.reduceLT)
    first | done | rfl
  | tell i =>
    obtain ⟨a, b⟩ := one (.tell i) rfl
    refine ⟨_, ?_, a, b⟩
    unfold iY
    (wp_walk using "ew", aM, aA, aG, aH, aJ, aK, Rw.enc, ld, ss, o7, o8, qO, o9, lZ, Nat.reduceLT)
    first | done | rfl
  | ended o =>
    obtain ⟨a, b⟩ := one (.ended o) rfl
    refine ⟨_, ?_, a, b⟩
    unfold iY
    (wp_walk using "ew", aM, aA, aG, aH, aJ, aK, Rw.enc, ld, ss, o7, o8, qO, o9, lZ, Nat.reduceLT)
    first | done | rfl
  | last =>
    have L2 := af2 l (eff m .last) (.dict (iY B { m with must := none }))
    have A2 : qD B h (((h.set (B + 11) (.dict (iY B { m with must := none }))).set (B + 12) (.lst ((eff m .last).lasts.map fun q => .tup [qF q.1, .bl q.2]))).set (B + 11) (.dict (iY B (eff m .last)))) := ((qD.refl.set (.inl rfl)).set (.inr rfl)).set (.inl rfl)
    refine ⟨_, ?_, L2, A2⟩
    have b1 : ∀ c, (h.set (B + 11) c)[B + 12]? = some (.lst (m.lasts.map fun q => .tup [qF q.1, .bl q.2])) := fun c => by rw [keepI (by omega)]; exact l.b
    have it := fun c => zX (b1 c)
    have a1 : ∀ c, zP (.ref (B + 12)) [.tup [qF m.goes, .bl m.shut]] (h.set (B + 11) c) = some (.non, (h.set (B + 11) c).set (B + 12) (.lst ((m.lasts ++ [(m.goes, m.shut)]).map fun q => .tup [qF q.1, .bl q.2]))) := fun c => by
      have hl2 : (m.lasts.map fun q => D.tup [qF q.1, .bl q.2]).length < 16777216 := by simp; omega
      simp only [zP, b1 c, hl2, if_true, List.map_append, List.map_cons, List.map_nil]
    have s2 : ∀ c d, ((h.set (B + 11) c).set (B + 12) d)[B + 11]? = some c := fun c d => by rw [keepI (by omega)]; exact ss c
    have s3 : ∀ c d e, (((h.set (B + 11) c).set (B + 12) d).set (B + 11) e)[B + 11]? = some e := fun c d e => List.getElem?_set_self (by simp only [List.length_set]; exact l1)
    unfold iY
    cases h1 : m.shut <;> rw [h1] at ld a1 <;> simp only [eff, h1] <;> (wp_walk using "ew", aM, aA, aG, aH, aJ, aK, Rw.enc, ld, ss, qM, it, a1, s2, s3, o7, o8, qO, o9, lZ, Nat.reduceLT, cU)
    all_goals (try rfl)
  | lasted =>
    have hne := hr rfl
    have L2 := af2 l (eff m .lasted) (.dict (iY B { m with must := none }))
    have A2 : qD B h (((h.set (B + 11) (.dict (iY B { m with must := none }))).set (B + 12) (.lst ((eff m .lasted).lasts.map fun q => .tup [qF q.1, .bl q.2]))).set (B + 11) (.dict (iY B (eff m .lasted)))) := ((qD.refl.set (.inl rfl)).set (.inr rfl)).set (.inl rfl)
    refine ⟨_, ?_, L2, A2⟩
    have b1 : ∀ c, (h.set (B + 11) c)[B + 12]? = some (.lst (m.lasts.map fun q => .tup [qF q.1, .bl q.2])) := fun c => by rw [keepI (by omega)]; exact l.b
    have it := fun c => zX (b1 c)
    have pm := fun c => abV hne (b1 c)
    have lm : tE m = m.lasts.getLastD (.on, true) := rfl
    simp only [← lm] at pm
    have lq : (tE m).1.ok := by
      have e := Ar hne
      have hm2 : m.lasts.getLastD (.on, true) ∈ m.lasts.dropLast ++ [m.lasts.getLastD (.on, true)] := List.mem_append_right _ List.mem_cons_self
      rw [← e] at hm2
      exact ok.l _ hm2
    have ne := fun h => (acJ lq (h := h)).2
    have s2 : ∀ c d, ((h.set (B + 11) c).set (B + 12) d)[B + 11]? = some c := fun c d => by rw [keepI (by omega)]; exact ss c
    have s3 : ∀ c d e, (((h.set (B + 11) c).set (B + 12) d).set (B + 11) e)[B + 11]? = some e := fun c d e => List.getElem?_set_self (by simp only [List.length_set]; exact l1)
    unfold iY
    simp only [eff]
    generalize tE m = Q at *
    obtain ⟨q1, q2⟩ := Q
    simp only at ne pm
    cases ho : offB q1 <;> simp only [ho] at ne <;> cases q2 <;> simp only [Bool.false_eq_true, if_true, if_false] <;> (wp_walk using "ew", aM, aA, aG, aH, aJ, aK, Rw.enc, ld, ss, aal, it, pm, ne, s2, s3, o7, o8, qO, o9, lZ, Nat.reduceLT, cU)
    all_goals (try rfl)
end
end dN
noncomputable section
namespace dN
open PySem PySem.Spec PyProof.Rows L2 PD
theorem rO {ds : List D} : (List.replicate (Int.toNat 1) ds).flatten = ds := by
  show (List.replicate 1 ds).flatten = ds
  simp
theorem rP {ds : List D} : (List.replicate (Int.toNat 0) ds).flatten = [] := rfl
theorem h11 : 1 * Int.toNat 1 ≤ 16777216 := by decide
theorem h10 : 1 * Int.toNat 0 ≤ 16777216 := by decide
theorem q1 : -(2 ^ 63) ≤ (1 : Int) ∧ (1 : Int) < 2 ^ 63 := by decide
theorem q0 : -(2 ^ 63) ≤ (0 : Int) ∧ (0 : Int) < 2 ^ 63 := by decide
def qP : List D := [.str "last", .str "last", .str "lasted", .str "lasted", .str "failed", .str "rescued", .str "kill", .str "landed", .str "masked", .str "opened", .str "tell"]
theorem af3 {d : D} (h : d ∈ qP ∨ d = .str "ended") : d = .str "last" ∨ d = .str "lasted" ∨ d = .str "failed" ∨ d = .str "rescued" ∨ d = .str "kill" ∨ d = .str "landed" ∨ d = .str "masked" ∨ d = .str "opened" ∨ d = .str "tell" ∨ d = .str "ended" := by
  rcases h with h | h
  · simp only [qP, List.mem_cons, List.not_mem_nil, or_false] at h
    rcases h with h | h | h | h | h | h | h | h | h | h | h <;> simp [h]
  · simp [h]
theorem ajQ {d : D} {a b c : Str} (na : Nm a) (nb : Nm b) (nc : Nm c) (h : d ∈ ([.str a, .str b, .str c] : List D)) : ∃ s, d = .str s ∧ Nm s := by
  simp only [List.mem_cons, List.not_mem_nil, or_false] at h
  rcases h with rfl | rfl | rfl
  · exact ⟨a, rfl, na⟩
  · exact ⟨b, rfl, nb⟩
  · exact ⟨c, rfl, nc⟩
theorem ajR {d : D} {s : Str} (n : Nm s) (h : d ∈ ([.tup [.str "done"], .tup [.str "killed"], .tup [.str "failed", .str s]] : List D)) : ∃ o : Ot, d = o.enc ∧ o.ok := by
  simp only [List.mem_cons, List.not_mem_nil, or_false] at h
  rcases h with rfl | rfl | rfl
  · exact ⟨.done, rfl, trivial⟩
  · exact ⟨.killed, rfl, trivial⟩
  · exact ⟨.failed s, rfl, n⟩
section
variable {B j k : Nat} {h : AH} {m : Mo}
theorem aiD (w : Well j h k) (hk : k < 1000) (hj : B + 12 < j) (l : LS B h m) {a b c : Str} (na : Nm a) (nb : Nm b) (nc : Nm c) :
    ∃ (r : Rw) (h' : AH), oZ [.ref j, .ref (B + 11), .lst [.str a, .str b, .str c]] h = .ok r.enc h' ∧ r.ok ∧ Fr j h h' := by
  have ld := Fg l
  have p9 : (0 : Int) ≤ 9 ∧ (9 : Int) ≤ 1000000 ∧ (10 : Int).natAbs < 2 ^ 64 := by decide
  have tail : ∀ (h0 : AH) (k0 : Nat), Well j h0 k0 → k0 < 2000 → ∃ (i4 : Int) (g1 : AH) (d : D) (g2 : AH), gj [.ref j, .int 4] h0 = .ok (.int i4) g1 ∧
      oX [.ref j, .lst (if i4 = 0 then qP ++ [.str "ended"] else qP)] g1 = .ok d g2 ∧ (d ∈ qP ∨ d = .str "ended") ∧ Fr j h0 g2 ∧
      (∃ (i : Int) (g3 : AH), gj [.ref j, .int (10 ^ (9 : Int).toNat)] g2 = .ok (.int i) g3 ∧ 0 ≤ i ∧ i < 10 ^ 9 ∧ Fr j h0 g3) ∧
      (∃ (s : Str) (g3 : AH), oX [.ref j, .lst [.str a, .str b, .str c]] g2 = .ok (.str s) g3 ∧ Nm s ∧ Fr j h0 g3 ∧
        ∃ (o : Ot) (g4 : AH), oX [.ref j, .lst [.tup [.str "done"], .tup [.str "killed"], .tup [.str "failed", .str s]]] g3 = .ok o.enc g4 ∧ o.ok ∧ Fr j h0 g4) := by
    intro h0 k0 w0 hk0
    obtain ⟨i4, g1, e1, _, _, w1, f1⟩ := ux (m := 4) w0 (by omega) (by decide) (by decide)
    obtain ⟨d, g2, e2, m2, w2, f2⟩ := RD (ds := if i4 = 0 then qP ++ [.str "ended"] else qP) w1 (by omega) (by split <;> simp [qP]) (by split <;> simp [qP])
    obtain ⟨i, g3, e3, i0, i1, w3, f3⟩ := ux (m := 10 ^ (9 : Int).toNat) w2 (by omega) (by decide) (by decide)
    obtain ⟨ds, g5, e5, m5, w5, f5⟩ := RD (ds := [.str a, .str b, .str c]) w2 (by omega) (by simp) (by simp)
    obtain ⟨s, rfl, ns⟩ := ajQ na nb nc m5
    obtain ⟨dq, g6, e6, m6, w6, f6⟩ := RD (ds := [.tup [.str "done"], .tup [.str "killed"], .tup [.str "failed", .str s]]) w5 (by omega) (by simp) (by simp)
    obtain ⟨o, rfl, oo⟩ := ajR ns m6
    refine ⟨i4, g1, d, g2, e1, e2, ?_, f1.trans f2, ⟨i, g3, e3, i0, i1, (f1.trans f2).trans f3⟩, s, g5, e5, ns, (f1.trans f2).trans f5, o, g6, e6, oo, ((f1.trans f2).trans f5).trans f6⟩
    split at m2
    · rcases List.mem_append.mp m2 with z | z
      · exact .inl z
      · exact .inr (List.mem_singleton.mp z)
    · exact .inl m2
  have go : ∀ (h0 : AH) (k0 : Nat), Well j h0 k0 → k0 < 2000 → Fr j h h0 → ((m.must = none ∧ h0 = h) ∨ (∃ (bb : Bool) (i3 : Int), m.must = some bb ∧ gj [.ref j, .int 3] h = .ok (.int i3) h0 ∧ ¬ (0 : Int) < i3)) →
      ∃ (r : Rw) (h' : AH), oZ [.ref j, .ref (B + 11), .lst [.str a, .str b, .str c]] h = .ok r.enc h' ∧ r.ok ∧ Fr j h h' := by
    intro h0 k0 w0 hk0 f0 hs
    obtain ⟨i4, g1, d, g2, e1, e2, hd, f2, ⟨i, g3, e3, i0, i1, f3⟩, s, g5, e5, ns, f5, o, g6, e6, oo, f6⟩ := tail h0 k0 w0 hk0
    have nn : Num (i - 5) := ⟨by have : (10 : Int) ^ 9 ≤ 10 ^ 40 - 1 := by decide
                                 have : (1 : Int) - 10 ^ 40 ≤ -5 := by decide
                                 omega, by have : (10 : Int) ^ 9 ≤ 10 ^ 40 - 1 := by decide
                                           omega⟩
    unfold qP at e2
    unfold oZ
    rcases hs with ⟨hm, rfl⟩ | ⟨bb, i3, hm, ed, hi⟩
    · have mu : ∀ h, eU (qY m.must) (.str "") h = some (.bl false, h) := fun h => by rw [hm]; exact jD
      rcases af3 hd with rfl | rfl | rfl | rfl | rfl | rfl | rfl | rfl | rfl | rfl
      · refine ⟨.last, g2, ?_, trivial, f0.trans f2⟩
        by_cases z : i4 = 0 <;> simp only [z, if_true, if_false, List.cons_append, List.nil_append] at e2 <;> (wp_walk using "ew", aM, aA, aG, aH, aJ, aK, ld, mu, e1, e2, e3, e5, e6, z, cU, g8, mulM, h11, h10, q1, q0, rO, rP, p9, Rw.enc, iK)
      · refine ⟨.lasted, g2, ?_, trivial, f0.trans f2⟩
        by_cases z : i4 = 0 <;> simp only [z, if_true, if_false, List.cons_append, List.nil_append] at e2 <;> (wp_walk using "ew", aM, aA, aG, aH, aJ, aK, ld, mu, e1, e2, e3, e5, e6, z, cU, g8, mulM, h11, h10, q1, q0, rO, rP, p9, Rw.enc, iK)
      · refine ⟨.failed s, g5, ?_, ns, f0.trans f5⟩
        by_cases z : i4 = 0 <;> simp only [z, if_true, if_false, List.cons_append, List.nil_append] at e2 <;> (wp_walk using "ew", aM, aA, aG, aH, aJ, aK, ld, mu, e1, e2, e3, e5, e6, z, cU, g8, mulM, h11, h10, q1, q0, rO, rP, p9, Rw.enc, iK)
      · refine ⟨.rescued s, g5, ?_, ns, f0.trans f5⟩
        by_cases z : i4 = 0 <;> simp only [z, if_true, if_false, List.cons_append, List.nil_append] at e2 <;> (wp_walk using "ew", aM, aA, aG, aH, aJ, aK, ld, mu, e1, e2, e3, e5, e6, z, cU, g8, mulM, h11, h10, q1, q0, rO, rP, p9, Rw.enc, iK)
      · refine ⟨.kill, g2, ?_, trivial, f0.trans f2⟩
        by_cases z : i4 = 0 <;> simp only [z, if_true, if_false, List.cons_append, List.nil_append] at e2 <;> (wp_walk using "ew", aM, aA, aG, aH, aJ, aK, ld, mu, e1, e2, e3, e5, e6, z, cU, g8, mulM, h11, h10, q1, q0, rO, rP, p9, Rw.enc, iK)
      · refine ⟨.landed, g2, ?_, trivial, f0.trans f2⟩
        by_cases z : i4 = 0 <;> simp only [z, if_true, if_false, List.cons_append, List.nil_append] at e2 <;> (wp_walk using "ew", aM, aA, aG, aH, aJ, aK, ld, mu, e1, e2, e3, e5, e6, z, cU, g8, mulM, h11, h10, q1, q0, rO, rP, p9, Rw.enc, iK)
      · refine ⟨.masked, g2, ?_, trivial, f0.trans f2⟩
        by_cases z : i4 = 0 <;> simp only [z, if_true, if_false, List.cons_append, List.nil_append] at e2 <;> (wp_walk using "ew", aM, aA, aG, aH, aJ, aK, ld, mu, e1, e2, e3, e5, e6, z, cU, g8, mulM, h11, h10, q1, q0, rO, rP, p9, Rw.enc, iK)
      · refine ⟨.opened, g2, ?_, trivial, f0.trans f2⟩
        by_cases z : i4 = 0 <;> simp only [z, if_true, if_false, List.cons_append, List.nil_append] at e2 <;> (wp_walk using "ew", aM, aA, aG, aH, aJ, aK, ld, mu, e1, e2, e3, e5, e6, z, cU, g8, mulM, h11, h10, q1, q0, rO, rP, p9, Rw.enc, iK)
      · refine ⟨.tell (i - 5), g3, ?_, nn, f0.trans f3⟩
        by_cases z : i4 = 0 <;> simp only [z, if_true, if_false, List.cons_append, List.nil_append] at e2 <;> (wp_walk using "ew", aM, aA, aG, aH, aJ, aK, ld, mu, e1, e2, e3, e5, e6, z, cU, g8, mulM, h11, h10, q1, q0, rO, rP, p9, Rw.enc, iK)
      · refine ⟨.ended o, g6, ?_, oo, f0.trans f6⟩
        by_cases z : i4 = 0 <;> simp only [z, if_true, if_false, List.cons_append, List.nil_append] at e2 <;> (wp_walk using "ew", aM, aA, aG, aH, aJ, aK, ld, mu, e1, e2, e3, e5, e6, z, cU, g8, mulM, h11, h10, q1, q0, rO, rP, p9, Rw.enc, iK)
    · have mu : ∀ h, eU (qY m.must) (.str "") h = some (.bl true, h) := fun h => by rw [hm]; cases bb <;> exact jD
      rcases af3 hd with rfl | rfl | rfl | rfl | rfl | rfl | rfl | rfl | rfl | rfl
      · refine ⟨.last, g2, ?_, trivial, f0.trans f2⟩
        by_cases z : i4 = 0 <;> simp only [z, if_true, if_false, List.cons_append, List.nil_append] at e2 <;> (wp_walk using "ew", aM, aA, aG, aH, aJ, aK, ld, mu, ed, hi, gt_iff_lt, e1, e2, e3, e5, e6, z, cU, g8, mulM, h11, h10, q1, q0, rO, rP, p9, Rw.enc, iK)
      · refine ⟨.lasted, g2, ?_, trivial, f0.trans f2⟩
        by_cases z : i4 = 0 <;> simp only [z, if_true, if_false, List.cons_append, List.nil_append] at e2 <;> (wp_walk using "ew", aM, aA, aG, aH, aJ, aK, ld, mu, ed, hi, gt_iff_lt, e1, e2, e3, e5, e6, z, cU, g8, mulM, h11, h10, q1, q0, rO, rP, p9, Rw.enc, iK)
      · refine ⟨.failed s, g5, ?_, ns, f0.trans f5⟩
        by_cases z : i4 = 0 <;> simp only [z, if_true, if_false, List.cons_append, List.nil_append] at e2 <;> (wp_walk using "ew", aM, aA, aG, aH, aJ, aK, ld, mu, ed, hi, gt_iff_lt, e1, e2, e3, e5, e6, z, cU, g8, mulM, h11, h10, q1, q0, rO, rP, p9, Rw.enc, iK)
      · refine ⟨.rescued s, g5, ?_, ns, f0.trans f5⟩
        by_cases z : i4 = 0 <;> simp only [z, if_true, if_false, List.cons_append, List.nil_append] at e2 <;> (wp_walk using "ew", aM, aA, aG, aH, aJ, aK, ld, mu, ed, hi, gt_iff_lt, e1, e2, e3, e5, e6, z, cU, g8, mulM, h11, h10, q1, q0, rO, rP, p9, Rw.enc, iK)
      · refine ⟨.kill, g2, ?_, trivial, f0.trans f2⟩
        by_cases z : i4 = 0 <;> simp only [z, if_true, if_false, List.cons_append, List.nil_append] at e2 <;> (wp_walk using "ew", aM, aA, aG, aH, aJ, aK, ld, mu, ed, hi, gt_iff_lt, e1, e2, e3, e5, e6, z, cU, g8, mulM, h11, h10, q1, q0, rO, rP, p9, Rw.enc, iK)
      · refine ⟨.landed, g2, ?_, trivial, f0.trans f2⟩
        by_cases z : i4 = 0 <;> simp only [z, if_true, if_false, List.cons_append, List.nil_append] at e2 <;> (wp_walk using "ew", aM, aA, aG, aH, aJ, aK, ld, mu, ed, hi, gt_iff_lt, e1, e2, e3, e5, e6, z, cU, g8, mulM, h11, h10, q1, q0, rO, rP, p9, Rw.enc, iK)
      · refine ⟨.masked, g2, ?_, trivial, f0.trans f2⟩
        by_cases z : i4 = 0 <;> simp only [z, if_true, if_false, List.cons_append, List.nil_append] at e2 <;> (wp_walk using "ew", aM, aA, aG, aH, aJ, aK, ld, mu, ed, hi, gt_iff_lt, e1, e2, e3, e5, e6, z, cU, g8, mulM, h11, h10, q1, q0, rO, rP, p9, Rw.enc, iK)
      · refine ⟨.opened, g2, ?_, trivial, f0.trans f2⟩
        by_cases z : i4 = 0 <;> simp only [z, if_true, if_false, List.cons_append, List.nil_append] at e2 <;> (wp_walk using "ew", aM, aA, aG, aH, aJ, aK, ld, mu, ed, hi, gt_iff_lt, e1, e2, e3, e5, e6, z, cU, g8, mulM, h11, h10, q1, q0, rO, rP, p9, Rw.enc, iK)
      · refine ⟨.tell (i - 5), g3, ?_, nn, f0.trans f3⟩
        by_cases z : i4 = 0 <;> simp only [z, if_true, if_false, List.cons_append, List.nil_append] at e2 <;> (wp_walk using "ew", aM, aA, aG, aH, aJ, aK, ld, mu, ed, hi, gt_iff_lt, e1, e2, e3, e5, e6, z, cU, g8, mulM, h11, h10, q1, q0, rO, rP, p9, Rw.enc, iK)
      · refine ⟨.ended o, g6, ?_, oo, f0.trans f6⟩
        by_cases z : i4 = 0 <;> simp only [z, if_true, if_false, List.cons_append, List.nil_append] at e2 <;> (wp_walk using "ew", aM, aA, aG, aH, aJ, aK, ld, mu, ed, hi, gt_iff_lt, e1, e2, e3, e5, e6, z, cU, g8, mulM, h11, h10, q1, q0, rO, rP, p9, Rw.enc, iK)
  cases hm : m.must with
  | none => exact go h k w (by omega) ⟨_, (List.set_getElem_self w.lt).symm⟩ (.inl ⟨hm, rfl⟩)
  | some bb =>
    obtain ⟨i3, g1, e1, i0, i1, w1, f1⟩ := ux (m := 3) w (by omega) (by decide) (by decide)
    by_cases hi : (0 : Int) < i3
    · have mu : eU (qY m.must) (.str "") h = some (.bl true, h) := by rw [hm]; cases bb <;> exact jD
      have g11 : g1[B + 11]? = h[B + 11]? := by
        obtain ⟨x, rfl⟩ := f1
        exact keepI (by omega)
      have ld1 := ld
      rw [← g11] at ld1
      rw [hm] at ld ld1 mu
      refine ⟨if bb then .masked else .opened, g1, ?_, by cases bb <;> trivial, f1⟩
      unfold oZ
      cases bb <;> (wp_walk using "ew", aM, aA, aG, aH, aJ, aK, ld, ld1, mu, e1, hi, gt_iff_lt, qY, Rw.enc)
    · exact go g1 (k + 1) w1 (by omega) f1 (.inr ⟨bb, i3, hm, e1, hi⟩)
end
end dN
noncomputable section
namespace dN
open PySem PySem.Spec PyProof.Rows L2 PD
def CB : MS := (aZ (bW (bf 3 0 oZ (ak (bf 1 0 kY (ak (aq 6) aN) aN) (ak (aq 4) (ak (aq 2) aN))) aN) (PD.gName 7))
    (aZ (bW (bf 2 0 uw (ak (aq 4) (ak (aq 7) aN)) aN) (PD.gName 8))
    (aZ (cX (dh (aQ eU (bf 2 0 fM (ak (aq 3) (ak (aq 7) aN)) aN) (aQ bH (bx cW (ak (eC (.str "")) (ak (bx bM (ak (aq 5) (ak (aq 8) aN))) aN))) (bx cU (ak (aQ eU (aq 8) (eC (.str ""))) aN))))) (bU (eC (.bl false))) cD)
    (aZ (cX (dh (aQ cP (aq 8) (eC (.str "")))) (mK (bf 2 0 rF (ak (aq 4) (ak (aq 7) aN)) aN)) cD)
    (bW (aQ gY (aq 5) (eC (.int (1)))) (PD.gName 5))))))
theorem aiE {w : String} {h : AH} : eU (.str (PySem.Str.ofString w)) (.str (PySem.Str.ofString w)) h = some (.bl false, h) := by
  rw [jD]
  simp
theorem afh {i : Int} {w : String} {h : AH} : eU (.tup [.int i, .str (PySem.Str.ofString w)]) (.tup [.int i, .str (PySem.Str.ofString w)]) h = some (.bl false, h) := by
  show (ji h _ _).map _ = _
  have e : ji h (.tup [.int i, .str (PySem.Str.ofString w)]) (.tup [.int i, .str (PySem.Str.ofString w)]) = some true := by
    have s1 : SeqAt.shaped (.tuple [.int i, .str (PySem.Str.ofString w)]) = true := by
      unfold SeqAt.shaped
      simp only [PyData.canLay0, PyData.canLayAll0, PyData.depth, PyData.depthAll, GB.ju (GB.cA w), Bool.and_true, Bool.true_and]
      rfl
    show (if SeqAt.shaped (.tuple [.int i, .str (PySem.Str.ofString w)]) = true ∧ SeqAt.shaped (.tuple [.int i, .str (PySem.Str.ofString w)]) = true then some (PyData.eqv (.tuple [.int i, .str (PySem.Str.ofString w)]) (.tuple [.int i, .str (PySem.Str.ofString w)])) else none) = _
    rw [if_pos ⟨s1, s1⟩]
    have e2 : PyData.eqv (.tuple [.int i, .str (PySem.Str.ofString w)]) (.tuple [.int i, .str (PySem.Str.ofString w)]) = (decide (i = i) && ((PySem.Str.ofString w == PySem.Str.ofString w) && true)) := rfl
    rw [e2]
    simp
  rw [e]
  rfl
theorem ajS {w : String} {h : AH} (e : ¬ w = "") : eU (.str (PySem.Str.ofString w)) (.str (PySem.Str.ofString "")) h = some (.bl true, h) := by
  rw [jD, decide_eq_false e]
  rfl
theorem ajT {w : String} {h : AH} (e : ¬ w = "") : cP (.str (PySem.Str.ofString w)) (.str (PySem.Str.ofString "")) h = some (.bl false, h) := by
  rw [lA, decide_eq_false e]
structure St (B : Nat) (h : AH) (m : Mo) (many : Int) (n : Nat) : Prop where
  w : WS B h m many
  l : LS B h m
  ok : m.ok
  n : m.lasts.length ≤ n
section
variable {B : Nat} {h g : AH} {m : Mo} {many : Int} {n : Nat}
theorem lJ {h l : AH} {n : Nat} {c : Cell} (e : h[n]? = some c) : (h ++ l)[n]? = some c := by
  rw [List.getElem?_append_left (List.getElem?_eq_some_iff.mp e).1]; exact e
theorem WS.app (w : WS B h m many) (l : AH) : WS B (h ++ l) m many := by
  refine ⟨lJ w.w, lJ w.t, lJ w.s, lJ w.a, lJ w.b, ?_⟩
  have c := w.c
  cases hh : m.child with
  | none => trivial
  | some x =>
    rw [hh] at c
    obtain ⟨fs, a, b⟩ := c
    exact ⟨fs, lJ a, b⟩
theorem LS.app (w : LS B h m) (l : AH) : LS B (h ++ l) m := ⟨lJ w.d, lJ w.b⟩
theorem LS.away (l : LS B h m) (a : uz B h g) : LS B g m := ⟨by rw [a.2 _ (by omega) (by omega) (by omega)]; exact l.d, by rw [a.2 _ (by omega) (by omega) (by omega)]; exact l.b⟩
theorem WS.away (w : WS B h m many) (a : qD B h g) : WS B g m many := by
  refine ⟨by rw [a.2 _ (by omega) (by omega)]; exact w.w, by rw [a.2 _ (by omega) (by omega)]; exact w.t, by rw [a.2 _ (by omega) (by omega)]; exact w.s, by rw [a.2 _ (by omega) (by omega)]; exact w.a, by rw [a.2 _ (by omega) (by omega)]; exact w.b, ?_⟩
  have c := w.c
  cases hh : m.child with
  | none => trivial
  | some x =>
    rw [hh] at c
    obtain ⟨fs, e, b⟩ := c
    exact ⟨fs, by rw [a.2 _ (by omega) (by omega)]; exact e, b⟩
theorem agP (m : Mo) (r : Rw) : (eff m r).lasts.length ≤ m.lasts.length + 1 := by
  cases r <;> simp [eff] <;> omega
theorem Tj {r : Rw} (hd : rG m r = "") : r = .lasted → m.lasts ≠ [] := fun z e => by
  subst z
  unfold rG at hd
  split at hd
  · exact absurd hd (by decide)
  · split at hd
    · exact absurd hd (by decide)
    · simp only [fU, e, List.isEmpty_nil, if_true] at hd
      exact absurd hd (by decide)
theorem cell_step {x0 x1 x7 x8 : Option D} {a b c : Str} (na : Nm a) (nb : Nm b) (nc : Nm c) (i : Int) (S : St B h m many n) (hn : n < 900) : ∃ (m' : Mo) (y7 y8 : Option D) (h' : AH), St B h' m' (many + 1) (n + 1) ∧
    CB [x0, x1, some (.lst [.str a, .str b, .str c]), some (.ref B), some (.ref (B + 11)), some (.int many), some (.int i), x7, x8] h = .nx [x0, x1, some (.lst [.str a, .str b, .str c]), some (.ref B), some (.ref (B + 11)), some (.int (many + 1)), some (.int i), y7, y8] h' := by
  obtain ⟨h1, e1, w1, x, rfl⟩ := abN i h
  have lb := (List.getElem?_eq_some_iff.mp S.l.b).1
  obtain ⟨r, h2, e2, ro, f2⟩ := aiD w1 (by decide) lb (S.l.app [x]) na nb nc
  obtain ⟨y, rfl⟩ := f2
  rw [SM] at e2
  have e2 : oZ [.ref h.length, .ref (B + 11), .lst [.str a, .str b, .str c]] (h ++ [x]) = .ok r.enc (h ++ [y]) := e2
  obtain ⟨h3, e3, hh⟩ := afd (S.l.app [y]) S.ok r ro
  have W : WS B h3 m many := by
    rcases hh with rfl | ⟨c, rfl⟩
    · exact S.w.app [y]
    · exact (S.w.app [y]).app [c]
  have Lx : LS B h3 m := by
    rcases hh with rfl | ⟨c, rfl⟩
    · exact S.l.app [y]
    · exact (S.l.app [y]).app [c]
  have hl : m.lasts.length < 1000 := by have := S.n; omega
  have i1 := pq (cs := uV) (mn := "see") W.w (by simp) (fV (by decide +kernel))
  by_cases hd : rG m r = ""
  · obtain ⟨h4, es, W4, a4⟩ := aiC W S.ok hl r ro hd
    have e4 := aeb es i1
    rw [hd] at e3
    obtain ⟨h5, e5, L5, a5⟩ := agO (Lx.away a4) S.ok hl r (Tj hd)
    refine ⟨eff m r, some r.enc, some (.str ""), h5, ⟨W4.away a5, L5, aiB S.ok ro (Tj hd), by have := agP m r; have := S.n; omega⟩, ?_⟩
    unfold CB
    generalize kY = P1 at e1 ⊢
    generalize oZ = P2 at e2 ⊢
    generalize uw = P3 at e3 ⊢
    generalize fM = P4 at e4 ⊢
    generalize rF = P5 at e5 ⊢
    (wp_walk using "ew", aM, aA, aG, aH, aJ, aK, e1, e2, e3, e4, e5, cU)
  · have e4 := acN (agN W S.ok r ro hd) i1
    have L4 : LS B (tick B m many h3) m := Lx.away (uz.refl.set (.inl rfl))
    refine ⟨m, some r.enc, some (.str (rG m r)), _, ⟨abW W, L4, S.ok, by have := S.n; omega⟩, ?_⟩
    unfold CB
    have n1 := fun h => ajS hd (h := h)
    have n2 := fun h => ajT hd (h := h)
    have n3 := fun h => afh (i := many) (w := rG m r) (h := h)
    generalize kY = P1 at e1 ⊢
    generalize oZ = P2 at e2 ⊢
    generalize uw = P3 at e3 ⊢
    generalize fM = P4 at e4 ⊢
    generalize rF = P5
    generalize rG m r = dw at *
    (wp_walk using "ew", aM, aA, aG, aH, aJ, aK, e1, e2, e3, e4, cU, n1, n2, n3)
theorem QF {x0 x1 : Option D} {a b c : Str} (na : Nm a) (nb : Nm b) (nc : Nm c) : ∀ (ds : List D) (x6 x7 x8 : Option D) (m : Mo) (many : Int) (n : Nat) (h : AH), (∀ d ∈ ds, ∃ c : Int, d = .int c) → St B h m many n → n + ds.length < 900 →
    ∃ (y6 y7 y8 : Option D) (m2 : Mo) (k2 : Int) (n2 : Nat) (h' : AH), St B h' m2 k2 n2 ∧
      forL (PD.gName 6) CB ds [x0, x1, some (.lst [.str a, .str b, .str c]), some (.ref B), some (.ref (B + 11)), some (.int many), x6, x7, x8] h = .nx [x0, x1, some (.lst [.str a, .str b, .str c]), some (.ref B), some (.ref (B + 11)), some (.int k2), y6, y7, y8] h'
  | [], x6, x7, x8, m, many, n, h, _, S, _ => ⟨x6, x7, x8, m, many, n, h, S, rfl⟩
  | d :: ds, x6, x7, x8, m, many, n, h, hd, S, hn => by
    rw [List.length_cons] at hn
    obtain ⟨i, rfl⟩ := hd d List.mem_cons_self
    obtain ⟨m1, y7, y8, h1, S1, e1⟩ := cell_step (x0 := x0) (x1 := x1) (x7 := x7) (x8 := x8) na nb nc i S (by omega)
    obtain ⟨z6, z7, z8, m2, k2, n2, h2, S2, e2⟩ := QF (x0 := x0) (x1 := x1) na nb nc ds (some (.int i)) y7 y8 m1 (many + 1) (n + 1) h1 (fun d h => hd d (List.mem_cons_of_mem _ h)) S1 (by omega)
    refine ⟨z6, z7, z8, m2, k2, n2, h2, S2, ?_⟩
    unfold forL
    generalize CB = C at e1 e2 ⊢
    (wp_walk using "ew", aM, aA, aG, aH, aJ, aK, e1)
    exact e2
end
end dN
noncomputable section
namespace dN
open PySem PySem.Spec PyProof.Rows L2 PD
theorem ajU {n : Nat} (h : n < 1000) : Sm (n : Int) := ⟨by omega, by omega⟩
def uY (n : Nat) (s : Str) : D := .tup [.str "begun", .int (n : Int), .int 0, .str s, .int 0]
theorem Vf {a b c d e : D} : atI [a, b, c, d, e] 0 = some a := rfl
theorem af4 {a b c d e : D} : atI [a, b, c, d, e] 1 = some b := rfl
theorem acO {a b c d e : D} : atI [a, b, c, d, e] 2 = some c := rfl
theorem ajV {a b c d e : D} : atI [a, b, c, d, e] 3 = some d := rfl
theorem af5 {a b c d e : D} : atI [a, b, c, d, e] 4 = some e := rfl
theorem ali {a b c d a' b' c' d' : D} {h : AH} : Ro [.tup [a, b, c, d], .tup [a', b', c', d']] h = .ok [.tup [a, a'], .tup [b, b'], .tup [c, c'], .tup [d, d']] h := rfl
theorem ajW {a b c d e : D} {h : AH} : Qe (.tup [a, b, c, d, e]) (some 1) none h = some (.tup [b, c, d, e], h) := rfl
theorem aec {n : Nat} {s : Str} (hn : n < 1000) (hs : Nm s) (h : AH) : d7 [uY n s] h = .ok (.bl true) h := by
  have p1 := uX (ajU hn) h
  have p2 := uX sm0 h
  have p3 := yg hs h
  unfold d7 uY
  (wp_walk using "ew", aM, aA, aG, aH, aJ, aK, pD, lH, oE, oA, cY, allM, dM, bJ, List.all_cons, List.all_nil, id, Nat.reduceLT, c0, c1, c2, c3, c4, c5, Int.reduceEq, Int.reduceAdd, Vf, agI, p1, p2, p3, aiu, ali, ajW)
  rfl
theorem QG {n : Nat} {s : Str} (h : AH) : dI [uY n s] h = .ok (.int 0) h := by
  unfold dI uY
  (wp_walk using "ew", aM, aA, aG, aH, aJ, aK, Vf, acO)
def m0 (c : Option Str) : Mo := ⟨.on, false, false, [], none, none, c⟩
structure W0 (B : Nat) (h : AH) : Prop where
  w : WS B h (m0 none) 0
  l : h[B + 9]? = some (.dict [])
  o : h[B + 10]? = some (.dict [])
section
variable {B : Nat} {h : AH}
theorem aaU (w : W0 B h) {s : Str} : uI [.ref B, .ref (B + 6), uY 1 s] h = .ok .non h := by
  have e1 := fO w.w.w
  have e2 := aaM w.w.w
  have e3 := xq w.w.s
  have e4 := Vc (g := .on) trivial (h := h)
  have wt := w.w.t
  have wo := w.o
  have v1 : valD ([] : List (Key × D)) (.inl 0) = none := rfl
  unfold uI uY
  unfold m0 at *
  unfold fj at wt
  (wp_walk using "ew", aM, aA, aG, aH, aJ, aK, aY, e1, e2, e3, e4, offB, wt, af4, acO, af5, qM, getM, wo, v1, fs3, zW wo, c1, Int.reduceEq, ge_iff_le, Int.reduceLE)
  rfl
theorem aaV (w : W0 B h) {s : Str} (hs : Nm s) : cO [.ref B, uY 1 s] h = .ok .non h := by
  have lr := aec (n := 1) (by omega) hs h
  have dr := QG (n := 1) (s := s) h
  have ea := aaU w (s := s)
  have e0 := EY w.w.w
  have e1 := fO w.w.w
  have e6 := Dd w.w.s
  have wt := w.w.t
  have v0 := Fb B none
  unfold cO
  generalize d7 = P1 at lr ⊢
  generalize dI = P2 at dr ⊢
  unfold uY at lr dr ea ⊢
  unfold m0 at *
  simp only [jt, yI] at e0 e6
  (wp_walk using "ew", aM, aA, aG, aH, aJ, aK, lr, aY, e0, dr, cY, e1, wt, v0, allM, dM, bJ, List.all_cons, List.all_nil, id, Nat.reduceLT, Bool.and_self, Vf, e6, jL, jK, agL, fJ, iZ, ea)
end
end dN
noncomputable section
namespace dN
open PySem PySem.Spec PyProof.Rows L2 PD
structure W1 (B : Nat) (h : AH) (many : Int) (nm : Str) (st en : D) : Prop where
  w : h[B]? = some (.ins "Watch" (cQ B false .non many))
  t : h[B + 5]? = some (.dict [(.inl 0, .ref (B + 6)), (.inl 1, .ref (B + 13))])
  s : h[B + 6]? = some (.ins "Seen" (fY B (m0 none)))
  a : h[B + 7]? = some (.lst [])
  b : h[B + 8]? = some (.lst [])
  c : h[B + 13]? = some (.ins "Seen" [("beginner", .int 0), ("called", .str nm), ("ending", en), ("owed", .bl false), ("shut", .bl false), ("state", st), ("had", .ref (B + 14)), ("lasts", .ref (B + 15))])
  d : h[B + 14]? = some (.lst [])
  e : h[B + 15]? = some (.lst [])
section
variable {B : Nat} {h : AH} {many : Int} {nm : Str} {st en : D}
def mU (B : Nat) (many : Int) (h : AH) : AH := h.set B (.ins "Watch" (cQ B false .non (many + 1)))
theorem aed (w : W1 B h many nm st en) : h[B]? = some (.ins "Watch" [("sizes", .ref (B + 4)), ("raw", .bl false), ("tasks", .ref (B + 5)), ("latest", .ref (B + 9)), ("homes", .ref (B + 10)), ("must", .non), ("many", .int many)]) := w.w
theorem aaW {h : AH} {many : Int} (wl : h[B]? = some (.ins "Watch" (cQ B false .non many))) (e : En) (e0 : e[0]? = some (some (.ref B))) : oO iG "many" (aq 0) (eC (.int 1)) e h = .nx e (mU B many h) := by
  unfold mU
  unfold cQ at wl ⊢
  unfold oO
  simp only [aq, e0, Res.xT, wl, List.mem_singleton, if_true, fX, fW, String.reduceEq, if_false, eC, List.length_cons, List.length_nil, Nat.reduceAdd, Nat.reduceLT, and_self, eY, eZ, d9]
def fD (a : Str) : D := .tup [.str "failed", .int 1, .str a]
def eD (a : Str) : D := .tup [.str "ended", .int 1, .tup [.str "failed", .str a]]
theorem sm1 : Sm 1 := ⟨by decide, by decide⟩
theorem ajX {a : Str} (na : Nm a) (h : AH) : d7 [fD a] h = .ok (.bl true) h := by
  have p0 := uX sm1 h
  have pb := yg na h
  unfold d7 fD
  (wp_walk using "ew", aM, aA, aG, aH, aJ, aK, pD, lH, oE, oA, cY, allM, dM, bJ, List.all_cons, List.all_nil, id, Nat.reduceLT, c0, c1, c2, c3, Int.reduceEq, Int.reduceAdd, aaH, p0, pb, wZ, zip2, Am)
  rfl
theorem ajY {a : Str} (na : Nm a) (h : AH) : d7 [eD a] h = .ok (.bl true) h := by
  have p0 := uX sm1 h
  have pb := S9 (o := .failed a) na h
  simp only [Ot.enc] at pb
  unfold d7 eD
  (wp_walk using "ew", aM, aA, aG, aH, aJ, aK, pD, lH, oE, oA, cY, allM, dM, bJ, List.all_cons, List.all_nil, id, Nat.reduceLT, c0, c1, c2, c3, Int.reduceEq, Int.reduceAdd, abQ, p0, pb, wZ, zip2, Am)
  rfl
theorem aee {a : Str} (h : AH) : dI [fD a] h = .ok (.int 1) h := by
  unfold dI fD
  (wp_walk using "ew", aM, aA, aG, aH, aJ, aK)
theorem aef {a : Str} (h : AH) : dI [eD a] h = .ok (.int 1) h := by
  unfold dI eD
  (wp_walk using "ew", aM, aA, aG, aH, aJ, aK)
theorem kv1 : valD [((.inl 0 : Key), D.ref (B + 6)), (.inl 1, .ref (B + 13))] (.inl 1) = some (.ref (B + 13)) := rfl
theorem yh {cs : List Str} {f : Str} {v : D} (w : W1 B h many nm st en) (hc : ("Seen" : Str) ∈ cs) (hl : List.lookup f [(("beginner" : Str), D.int 0), ("called", .str nm), ("ending", en), ("owed", .bl false), ("shut", .bl false), ("state", st), ("had", .ref (B + 14)), ("lasts", .ref (B + 15))] = some v) : fB cs f (.ref (B + 13)) h = .ok v h := iI w.c hc hl
theorem afi (w : W1 B h many nm (gU .on) .non) {a : Str} (na : Nm a) : cO [.ref B, fD a] h = .ok .non h := by
  have lr := ajX na h
  have dr := aee (a := a) h
  have e0 := EY w.w
  have e1 := fO w.w
  have e6 : fB eV "ending" (.ref (B + 13)) h = .ok .non h := yh w (by simp) (by simp only [fX, fW, String.reduceEq, if_false])
  have e7 : fB cZ "state" (.ref (B + 13)) h = .ok (gU .on) h := yh w (by simp) (by simp only [fX, fW, String.reduceEq, if_false])
  have e8 := Vc (g := .on) trivial (h := h)
  have ea : ∀ d, oV [.ref B, .ref (B + 13), d] h = .ok .non h := fun d => by
    unfold oV
    (wp_walk using "ew", aM, aA, aG, aH, aJ, aK, aY, e7, e8, offB, fs1)
    rfl
  unfold cO
  generalize d7 = P1 at lr ⊢
  generalize dI = P2 at dr ⊢
  unfold fD at lr dr ⊢
  (wp_walk using "ew", aM, aA, aG, aH, aJ, aK, lr, aY, e0, dr, cY, e1, w.t, kv1, allM, dM, bJ, List.all_cons, List.all_nil, id, Nat.reduceLT, Bool.and_self, e6, jL, jK, G9, fJ, iZ, ea)
end
end dN
noncomputable section
namespace dN
open PySem PySem.Spec PyProof.Rows L2 PD
section
variable {B : Nat} {h : AH} {many : Int} {nm : Str} {st en : D}
theorem aeh {a : Str} (w : W1 B h many nm (gU (.failed a)) .non) (na : Nm a) : dB [.ref B, .int 1, .str a] h = .ok (.bl true) h := by
  have e1 := fO w.w
  have e2 : fB cZ "state" (.ref (B + 13)) h = .ok (gU (.failed a)) h := yh w (by simp) (by simp only [fX, fW, String.reduceEq, if_false])
  have e3 := aaK (g := .failed a) na (h := h)
  have l5 := (List.getElem?_eq_some_iff.mp w.t).1
  have wt := w.t
  have eb := je w.w (n := B + 5) (by omega) (.dO [(.inl 0, .ref (B + 6)), (.inl 1, .ref (B + 13))])
  have es := je w.s (n := B + 5) (by omega) (.dO [(.inl 0, .ref (B + 6)), (.inl 1, .ref (B + 13))])
  have ec := je w.c (n := B + 5) (by omega) (.dO [(.inl 0, .ref (B + 6)), (.inl 1, .ref (B + 13))])
  have e4 := fO eb
  have e5 := uJ es
  have e6 : (h.set (B + 5) (.dO [(.inl 0, .ref (B + 6)), (.inl 1, .ref (B + 13))]))[B + 5]? = some (.dO [(.inl 0, .ref (B + 6)), (.inl 1, .ref (B + 13))]) := by rw [List.getElem?_set_self l5]
  have e7 := lG w.t
  have e8 : fB fG "beginner" (.ref (B + 13)) (h.set (B + 5) (.dO [(.inl 0, .ref (B + 6)), (.inl 1, .ref (B + 13))])) = .ok (.int 0) (h.set (B + 5) (.dO [(.inl 0, .ref (B + 6)), (.inl 1, .ref (B + 13))])) := iI ec (by simp) (by simp only [fX, fW, String.reduceEq, if_false])
  have ne := fun i h => qN (i := i) (h := h)
  have i1 := in_one (g := .failed a) na na (h := h)
  have gi : yJ (.failed a) a = true := by simp [yJ]
  rw [gi] at i1
  unfold dB
  (wp_walk using "ew", aM, aA, aG, aH, aJ, aK, aY, e1, wt, kv1, e2, e3, Ao, Ey, yV, e4, e6, cY, e5, ne, e8, e7, i1, Int.reduceEq)
theorem afj {a : Str} (w : W1 B h many nm (gU (.failed a)) .non) (na : Nm a) : cO [.ref B, eD a] h = .ok .non h := by
  have lr := ajY na h
  have dr := aef (a := a) h
  have e0 := EY w.w
  have e1 := fO w.w
  have wt := w.t
  have f0 : fB eV "ending" (.ref (B + 13)) h = .ok .non h := yh w (by simp) (by simp only [fX, fW, String.reduceEq, if_false])
  have f1 : fB gA "shut" (.ref (B + 13)) h = .ok (.bl false) h := yh w (by simp) (by simp only [fX, fW, String.reduceEq, if_false])
  have f2 : fB iw "lasts" (.ref (B + 13)) h = .ok (.ref (B + 15)) h := yh w (by simp) (by simp only [fX, fW, String.reduceEq, if_false])
  have f3 : fB jW "owed" (.ref (B + 13)) h = .ok (.bl false) h := yh w (by simp) (by simp only [fX, fW, String.reduceEq, if_false])
  have f4 : fB sO "had" (.ref (B + 13)) h = .ok (.ref (B + 14)) h := yh w (by simp) (by simp only [fX, fW, String.reduceEq, if_false])
  have r1 := xH w.d
  have r2 := xH w.e
  have f6 := ad3 w.w
  have mf := aeh w na
  have i6 := pq (cs := jR) (mn := "may_fail") w.w (by simp) (fV (by decide +kernel))
  have l5 := (List.getElem?_eq_some_iff.mp w.t).1
  have eb := je w.w (n := B + 5) (by omega) (.dO [(.inl 0, .ref (B + 6)), (.inl 1, .ref (B + 13))])
  have es := je w.s (n := B + 5) (by omega) (.dO [(.inl 0, .ref (B + 6)), (.inl 1, .ref (B + 13))])
  have ec := je w.c (n := B + 5) (by omega) (.dO [(.inl 0, .ref (B + 6)), (.inl 1, .ref (B + 13))])
  have e4 := fO eb
  have e5 := uJ es
  have e6 : (h.set (B + 5) (.dO [(.inl 0, .ref (B + 6)), (.inl 1, .ref (B + 13))]))[B + 5]? = some (.dO [(.inl 0, .ref (B + 6)), (.inl 1, .ref (B + 13))]) := by rw [List.getElem?_set_self l5]
  have e7 := lG w.t
  have e8 : fB fG "beginner" (.ref (B + 13)) (h.set (B + 5) (.dO [(.inl 0, .ref (B + 6)), (.inl 1, .ref (B + 13))])) = .ok (.int 0) (h.set (B + 5) (.dO [(.inl 0, .ref (B + 6)), (.inl 1, .ref (B + 13))])) := iI ec (by simp) (by simp only [fX, fW, String.reduceEq, if_false])
  have ne := fun i h => qN (i := i) (h := h)
  have ea : oW [.ref B, .ref (B + 13), eD a] h = .ok .non h := by
    unfold oW eD
    generalize dB = P at mf ⊢
    (wp_walk using "ew", aM, aA, aG, aH, aJ, aK, pC, aY, e1, wt, yV, e4, e6, cY, e5, ne, e8, e7, anyM, dM, bJ, List.any_cons, List.any_nil, id, Nat.reduceLT, Int.reduceEq, f1, f2, f3, f4, f6, r1, r2, List.isEmpty_nil, fs6, dZ, i6, mf)
    rfl
  unfold cO
  generalize d7 = P1 at lr ⊢
  generalize dI = P2 at dr ⊢
  unfold eD at lr dr ea ⊢
  (wp_walk using "ew", aM, aA, aG, aH, aJ, aK, lr, aY, e0, dr, cY, e1, wt, kv1, allM, dM, bJ, List.all_cons, List.all_nil, id, Nat.reduceLT, Bool.and_self, f0, jL, jK, RK, fJ, iZ, ea)
def tG (B : Nat) (nm : Str) (st en : D) (h : AH) : AH := h.set (B + 13) (.ins "Seen" [("beginner", .int 0), ("called", .str nm), ("ending", en), ("owed", .bl false), ("shut", .bl false), ("state", st), ("had", .ref (B + 14)), ("lasts", .ref (B + 15))])
theorem aei (w : W1 B h many nm st en) (st' en' : D) : W1 B (tG B nm st' en' h) many nm st' en' := by
  have lc := (List.getElem?_eq_some_iff.mp w.c).1
  unfold tG
  exact ⟨by rw [keepI (by omega)]; exact w.w, by rw [keepI (by omega)]; exact w.t, by rw [keepI (by omega)]; exact w.s, by rw [keepI (by omega)]; exact w.a, by rw [keepI (by omega)]; exact w.b, by rw [List.getElem?_set_self lc], by rw [keepI (by omega)]; exact w.d, by rw [keepI (by omega)]; exact w.e⟩
theorem RL (w : W1 B h many nm st en) : W1 B (mU B many h) (many + 1) nm st en := by
  have lc := (List.getElem?_eq_some_iff.mp w.w).1
  unfold mU
  exact ⟨by rw [List.getElem?_set_self lc], by rw [keepI (by omega)]; exact w.t, by rw [keepI (by omega)]; exact w.s, by rw [keepI (by omega)]; exact w.a, by rw [keepI (by omega)]; exact w.b, by rw [keepI (by omega)]; exact w.c, by rw [keepI (by omega)]; exact w.d, by rw [keepI (by omega)]; exact w.e⟩
theorem aiF {a : Str} (w : W1 B h many nm (gU .on) .non) : cM [.ref B, fD a] h = .ok .non (tG B nm (gU (.failed a)) .non h) := by
  have dr := aee (a := a) h
  have wl := aed w
  have wi := lG wl
  have e1 := fO w.w
  have wt := w.t
  have sc := w.c
  have ig := pq (cs := uh) (mn := "go_on") w.w (by simp) (fV (by decide +kernel))
  have ge : dY [.ref B, .ref (B + 13), fD a] h = .ok .non (tG B nm (gU (.failed a)) .non h) := by
    unfold dY tG fD
    (wp_walk using "ew", aM, aA, aG, aH, aJ, aK, bO, eX, sc, eZ, eY, d9, List.mem_singleton, Nat.reduceLT)
    rfl
  unfold cM
  generalize dI = P1 at dr ⊢
  generalize dY = P2 at ge ⊢
  unfold fD at dr ge ⊢
  (wp_walk using "ew", aM, aA, aG, aH, aJ, aK, bO, eX, wl, wi, dr, e1, wt, kv1, eZ, eY, d9, List.mem_singleton, Nat.reduceLT, aY, dZ, ig, ge)
theorem aiG {a : Str} (w : W1 B h many nm st .non) : cM [.ref B, eD a] h = .ok .non (tG B nm st (.tup [.str "failed", .str a]) h) := by
  have dr := aef (a := a) h
  have wl := aed w
  have wi := lG wl
  have e1 := fO w.w
  have wt := w.t
  have sc := w.c
  have ig := pq (cs := uh) (mn := "go_on") w.w (by simp) (fV (by decide +kernel))
  have ge : dY [.ref B, .ref (B + 13), eD a] h = .ok .non (tG B nm st (.tup [.str "failed", .str a]) h) := by
    unfold dY tG eD
    (wp_walk using "ew", aM, aA, aG, aH, aJ, aK, bO, eX, sc, eZ, eY, d9, List.mem_singleton, Nat.reduceLT)
  unfold cM
  generalize dI = P1 at dr ⊢
  generalize dY = P2 at ge ⊢
  unfold eD at dr ge ⊢
  (wp_walk using "ew", aM, aA, aG, aH, aJ, aK, bO, eX, wl, wi, dr, e1, wt, kv1, eZ, eY, d9, List.mem_singleton, Nat.reduceLT, aY, dZ, ig, ge)
theorem aej {R : D} {h1 : AH} (w : W1 B h many nm st en) (er : cO [.ref B, R] h = .ok .non h) (et : cM [.ref B, R] h = .ok .non h1) (w1 : h1[B]? = some (.ins "Watch" (cQ B false .non many))) : fM [.ref B, R] h = .ok (.str "") (mU B many h1) := by
  have i1 := pq (cs := pW) (mn := "reason") w.w (by simp) (fV (by decide +kernel))
  have i2 := pq (cs := vO) (mn := "take") w.w (by simp) (fV (by decide +kernel))
  have i3 := pq (cs := uV) (mn := "see") w.w (by simp) (fV (by decide +kernel))
  have fa := aaW w1 [some (.ref B), some R, some .non] rfl
  have es : dG [.ref B, R] h = .ok .non (mU B many h1) := by
    unfold dG
    generalize cO = P1 at er ⊢
    generalize cM = P2 at et ⊢
    generalize oO iG "many" (aq 0) (eC (.int 1)) = S1 at fa ⊢
    (wp_walk using "ew", aM, aA, aG, aH, aJ, aK, GZ, dZ, i1, i2, er, et, fa, noX)
  unfold fM
  generalize dG = P3 at es ⊢
  (wp_walk using "ew", aM, aA, aG, aH, aJ, aK, zR, dZ, i3, es)
theorem ajZ {a : Str} (w : W1 B h many nm (gU .on) .non) (na : Nm a) : ∃ h', fM [.ref B, fD a] h = .ok (.str "") h' ∧ W1 B h' (many + 1) nm (gU (.failed a)) .non ∧ h'.length = h.length ∧ h'[B + 11]? = h[B + 11]? ∧ h'[B + 12]? = h[B + 12]? := by
  have w1 := aei w (gU (.failed a)) .non
  refine ⟨_, aej w (afi w na) (aiF w) w1.w, RL w1, ?_, ?_, ?_⟩
  · unfold mU tG; simp
  · unfold mU tG; rw [keepI (by omega), keepI (by omega)]
  · unfold mU tG; rw [keepI (by omega), keepI (by omega)]
theorem aj0 {a : Str} (w : W1 B h many nm (gU (.failed a)) .non) (na : Nm a) : ∃ h', fM [.ref B, eD a] h = .ok (.str "") h' ∧ W1 B h' (many + 1) nm (gU (.failed a)) (.tup [.str "failed", .str a]) ∧ h'.length = h.length ∧ h'[B + 11]? = h[B + 11]? ∧ h'[B + 12]? = h[B + 12]? := by
  have w1 := aei w (gU (.failed a)) (.tup [.str "failed", .str a])
  refine ⟨_, aej w (afj w na) (aiG w) w1.w, RL w1, ?_, ?_, ?_⟩
  · unfold mU tG; simp
  · unfold mU tG; rw [keepI (by omega), keepI (by omega)]
  · unfold mU tG; rw [keepI (by omega), keepI (by omega)]
end
end dN
noncomputable section
namespace dN
open PySem PySem.Spec PyProof.Rows L2 PD
section
variable {B : Nat} {h : AH}
def seen1 (B : Nat) (s : Str) : Cell := .ins "Seen" [("beginner", .int 0), ("called", .str s), ("ending", .non), ("owed", .bl false), ("shut", .bl false), ("state", gU .on), ("had", .ref (B + 14)), ("lasts", .ref (B + 15))]
def grown (B : Nat) (s : Str) (h : AH) : AH := (((h ++ [seen1 B s, .lst [], .lst []]).set (B + 5) (.dict [(.inl 0, .ref (B + 6)), (.inl 1, .ref (B + 13))])).set (B + 9) (.dict [(.inr s, .int 1)])).set (B + 10) (.dict [(.inl 0, .int 0)])
theorem acP (w : W0 B h) (hl : h.length = B + 13) {s : Str} : cM [.ref B, uY 1 s] h = .ok .non (grown B s h) := by
  have dr := QG (n := 1) (s := s) h
  have wl : h[B]? = some (.ins "Watch" [("sizes", .ref (B + 4)), ("raw", .bl false), ("tasks", .ref (B + 5)), ("latest", .ref (B + 9)), ("homes", .ref (B + 10)), ("must", .non), ("many", .int 0)]) := w.w.w
  have wi := lG wl
  have si := SN h (.int 0) (.str s)
  have sc : (.ins "Seen" (iW (.int 0) (.str s) .non false false (.tup [.str "on"]) (.ref (h.length + 1)) (.ref (h.length + 2))) : Cell) = seen1 B s := by
    rw [hl]
    rfl
  rw [sc, hl] at si
  have g1w : (h ++ [seen1 B s, .lst [], .lst []])[B]? = some (.ins "Watch" (cQ B false .non 0)) := lJ w.w.w
  have g1t : (h ++ [seen1 B s, .lst [], .lst []])[B + 5]? = some (.dict [(.inl 0, .ref (B + 6))]) := lJ w.w.t
  have f1 := fO g1w
  have w2 : ∀ c, ((h ++ [seen1 B s, .lst [], .lst []]).set (B + 5) c)[B]? = some (.ins "Watch" (cQ B false .non 0)) := fun c => by rw [keepI (by omega)]; exact g1w
  have w3 : ∀ c d, (((h ++ [seen1 B s, .lst [], .lst []]).set (B + 5) c).set (B + 9) d)[B]? = some (.ins "Watch" (cQ B false .non 0)) := fun c d => by rw [keepI (by omega)]; exact w2 _
  have l2 : ∀ c, ((h ++ [seen1 B s, .lst [], .lst []]).set (B + 5) c)[B + 9]? = some (.dict []) := fun c => by rw [keepI (by omega)]; exact lJ w.l
  have o3 : ∀ c d, (((h ++ [seen1 B s, .lst [], .lst []]).set (B + 5) c).set (B + 9) d)[B + 10]? = some (.dict []) := fun c d => by rw [keepI (by omega), keepI (by omega)]; exact lJ w.o
  have f2 := fun c => ad2 (w2 c)
  have f3 := fun c d => aaM (w3 c d)
  have p1 : gR [(.inl 0, .ref (B + 6))] (.inl 1) (.ref (B + 13)) = [(.inl 0, .ref (B + 6)), (.inl 1, .ref (B + 13))] := by simp [gR]
  have p2 : ∀ (k : Key) (v : D), gR [] k v = [(k, v)] := fun k v => rfl
  unfold cM grown
  generalize dI = P1 at dr ⊢
  generalize (oh "Seen" fun ds => jU (GB.picked (ds ++ []) [0, 1, 2])) = P2 at si ⊢
  unfold uY at dr ⊢
  have cc : ((1 : Nat) : Int) = 1 := rfl
  rw [cc] at dr
  (wp_walk using "ew", aM, aA, aG, aH, aJ, aK, cc, bO, eX, wl, wi, dr, eZ, eY, d9, List.mem_singleton, Nat.reduceLT, aY, si, Vf, af4, acO, ajV, af5, f1, g1t, p1, f2, l2, f3, o3, p2)
theorem aj1 (w : W0 B h) (hl : h.length = B + 13) {s : Str} (ns : Nm s) : ∃ h', fM [.ref B, uY 1 s] h = .ok (.str "") h' ∧ W1 B h' (0 + 1) s (gU .on) .non ∧ h'[B + 11]? = h[B + 11]? ∧ h'[B + 12]? = h[B + 12]? := by
  have er := aaV w ns
  have et := acP w hl (s := s)
  have l5 := (List.getElem?_eq_some_iff.mp w.w.t).1
  have g1w : (grown B s h)[B]? = some (.ins "Watch" (cQ B false .non 0)) := by
    unfold grown
    rw [keepI (by omega), keepI (by omega), keepI (by omega)]
    exact lJ w.w.w
  have i1 := pq (cs := pW) (mn := "reason") w.w.w (by simp) (fV (by decide +kernel))
  have i2 := pq (cs := vO) (mn := "take") w.w.w (by simp) (fV (by decide +kernel))
  have i3 := pq (cs := uV) (mn := "see") w.w.w (by simp) (fV (by decide +kernel))
  have fa := aaW g1w [some (.ref B), some (uY 1 s), some .non] rfl
  have es : dG [.ref B, uY 1 s] h = .ok .non (mU B 0 (grown B s h)) := by
    unfold dG
    generalize cO = P1 at er ⊢
    generalize cM = P2 at et ⊢
    generalize oO iG "many" (aq 0) (eC (.int 1)) = S1 at fa ⊢
    generalize uY 1 s = R at *
    (wp_walk using "ew", aM, aA, aG, aH, aJ, aK, GZ, dZ, i1, i2, er, et, fa, noX)
  have le : fM [.ref B, uY 1 s] h = .ok (.str "") (mU B 0 (grown B s h)) := by
    unfold fM
    generalize dG = P3 at es ⊢
    generalize uY 1 s = R at *
    (wp_walk using "ew", aM, aA, aG, aH, aJ, aK, zR, dZ, i3, es)
  have new : ∀ i : Nat, (grown B s h)[B + 13 + i]? = [seen1 B s, Cell.lst [], .lst []][i]? := fun i => by
    unfold grown
    rw [keepI (by omega), keepI (by omega), keepI (by omega), ← hl, ga]
  have old : ∀ (i : Nat) (c : Cell), h[i]? = some c → i ≠ B + 5 → i ≠ B + 9 → i ≠ B + 10 → (grown B s h)[i]? = some c := fun i c e h1 h2 h3 => by
    unfold grown
    rw [keepI (by omega), keepI (by omega), keepI (by omega)]
    exact lJ e
  have t5 : (grown B s h)[B + 5]? = some (.dict [(.inl 0, .ref (B + 6)), (.inl 1, .ref (B + 13))]) := by
    unfold grown
    rw [keepI (by omega), keepI (by omega), List.getElem?_set_self (by rw [List.length_append]; omega)]
  have W : W1 B (grown B s h) 0 s (gU .on) .non := ⟨g1w, t5, old _ _ w.w.s (by omega) (by omega) (by omega), old _ _ w.w.a (by omega) (by omega) (by omega), old _ _ w.w.b (by omega) (by omega) (by omega), new 0, new 1, new 2⟩
  have hi : ∀ i, i = B + 11 ∨ i = B + 12 → (mU B 0 (grown B s h))[i]? = h[i]? := fun i e => by
    unfold mU grown
    rw [keepI (by omega), keepI (by omega), keepI (by omega), keepI (by omega), List.getElem?_append_left (by omega)]
  exact ⟨_, le, RL W, hi _ (.inl rfl), hi _ (.inr rfl)⟩
end
end dN
noncomputable section
namespace dN
open PySem PySem.Spec PyProof.Rows L2 PD
theorem aj2 {P : Program} {w : World} {outer : List Env} {H : Hp} {s : Shared} {e : Value} {s' : Shared} (h : L2.CX P w outer H s (fun _ _ _ => False) e s') : False := by
  obtain ⟨_, _, _, _, _, _, _, _, _, _, _, _, z⟩ := h
  exact z
theorem agQ {P : Program} {w : World} {K : PySem.W.Frag} {mg : Str → Option Value} {base : Heap} {k : Nat} {f : Addr} {fd : FuncData} {ps : List Str} {m : Mn} (F : GB.Fn P w K mg base (L2.CX P w) k f fd ps (Cg K m)) :
    GB.Fn P w K mg base L2.CX0 k f fd ps (fun vs H Q _ => Cg K m vs H Q fun _ _ _ => False) := by
  refine ⟨fun vs H Q E h => F.len vs H Q _ h, fun A outer s H args us vs Q E hr hg env b v h => codeAny_mono (F.go A outer s H args us vs Q _ hr hg env b v h) ?_⟩
  rintro (err | fl) s' z
  · exact (aj2 z).elim
  · cases fl <;> exact z
theorem Fj {K : PySem.W.Frag} {H : Hp} {al : Al} : ∀ ns : List Int, bD K H al (ns.map D.int) (ns.map V.int)
  | [] => .nil
  | n :: ns => .cons (.int n) (Fj ns)
theorem agR {K : PySem.W.Frag} {x q : Str} {st : Stmt} {dvs : List V} {kws : List (Str × V)} {f : Addr} {fd fd' : FuncData} (a : FunD K x q (defArgs st) (defBody st) (defScope st) dvs kws f fd) (b : FunD K x q (defArgs st) (defBody st) (defScope st) dvs kws f fd') : fd = fd' := by
  obtain ⟨oc, od, dV, kV, doc, pm, an, cdv, ct, osl, rfl, lk, _⟩ := a.ex
  obtain ⟨oc2, od2, dV2, kV2, amd, pm2, an2, ame, ct2, osl2, rfl, lk2, _⟩ := b.ex
  have e := lk.symm.trans lk2
  cases e
  rfl
theorem acQ {S : List D → D} (hS : S = D.dW ∨ S = D.lst) (ns : List Int) (h : AH) : ∃ c, lX [S (ns.map D.int), .int 0] h = .ok (.int c) h := by
  cases ns with
  | nil => exact ⟨0, by unfold lX; rcases hS with rfl | rfl <;> (wp_walk using "ew", aM, aA, aG, aH, aJ, aK, Int.lt_irrefl) <;> rfl⟩
  | cons n ns =>
    have p : (0 : Int) < ((((ns.map D.int).length + 1 : Nat)) : Int) := by omega
    exact ⟨n, by unfold lX; rcases hS with rfl | rfl <;> (wp_walk using "ew", aM, aA, aG, aH, aJ, aK, p)⟩
theorem ael (ns : List Int) (lo hi : Option Int) : ∀ d ∈ PD.cutD (ns.map D.int) lo hi, ∃ c : Int, d = .int c := fun d hd => by
  unfold PD.cutD at hd
  obtain ⟨i, _, rfl⟩ := List.mem_map.mp (List.mem_of_mem_drop (List.mem_of_mem_take hd))
  exact ⟨i, rfl⟩
theorem afk (ns : List Int) (hn : ns.length ≤ 63) (lo hi : Option Int) : (PD.cutD (ns.map D.int) lo hi).length ≤ 63 := by
  unfold PD.cutD
  rw [List.length_take, List.length_drop, List.length_map]
  omega
def Tn (B : Nat) (raw : Bool) : AH := [.ins "Watch" (cQ B raw .non 0), .dict [], .dict [], .dict [], .dict [], .dict [(.inl 0, .ref (B + 6))], .ins "Seen" (iW .non .non .non false false (.tup [.str "on"]) (.ref (B + 7)) (.ref (B + 8))), .lst [], .lst [], .dict [], .dict []]
def K13 (B : Nat) : AH := Tn B false ++ [.dict (iY B (m0 none)), .lst []]
theorem aiH {g : AH} {B : Nat} (hB : g.length = B) : W0 B (g ++ K13 B) ∧ LS B (g ++ K13 B) (m0 none) ∧ (g ++ K13 B).length = B + 13 := by
  subst hB
  refine ⟨⟨⟨ga0, ga, ga, ga, ga, trivial⟩, ga, ga⟩, ⟨ga, ga⟩, ?_⟩
  rw [List.length_append]
  rfl
section
variable {B : Nat} {h g : AH}
theorem W0.low (w : W0 B h) (e : ∀ i, B ≤ i → g[i]? = h[i]?) : W0 B g :=
  ⟨⟨by rw [e _ (by omega)]; exact w.w.w, by rw [e _ (by omega)]; exact w.w.t, by rw [e _ (by omega)]; exact w.w.s, by rw [e _ (by omega)]; exact w.w.a, by rw [e _ (by omega)]; exact w.w.b, trivial⟩, by rw [e _ (by omega)]; exact w.l, by rw [e _ (by omega)]; exact w.o⟩
theorem LS.low {m : Mo} (l : LS B h m) (e : ∀ i, B ≤ i → g[i]? = h[i]?) : LS B g m := ⟨by rw [e _ (by omega)]; exact l.d, by rw [e _ (by omega)]; exact l.b⟩
theorem W1.ws {many : Int} {nm a : Str} (w : W1 B h many nm (gU (.failed a)) (.tup [.str "failed", .str a])) : WS B h (m0 (some a)) many :=
  ⟨w.w, w.t, w.s, w.a, w.b, _, w.c, by simp only [fW], by simp only [fX, fW, String.reduceEq, if_false]⟩
theorem agS {m : Mo} {many : Int} (w : WS B h m many) : jy [.ref B] h = .ok (.int many) h := by
  have e := abR w.w
  unfold jy
  (wp_walk using "ew", aM, aA, aG, aH, aJ, aK, aY, e)
theorem af6 {c : Option Str} (hc : ∀ s, c = some s → Nm s) : (m0 c).ok := ⟨trivial, fun q hq => (by cases hq), hc⟩
end
def A5 : MS := (cX (dh (aQ cP (bf 2 0 gj (ak (aq 1) (ak (eC (.int (2))) aN)) aN) (eC (.int (0))))) (aZ (bW (aQ bH (aq 2) (eC (.int (0)))) (iV (aq 4) (eC (.str "child"))))
    (aZ (u6 (nZ (bx cW (ak (bx bM (ak (eC (.str "begun")) (ak (eC (.int (1))) (ak (eC (.int (0))) (ak (aQ bH (aq 2) (eC (.int (1)))) (ak (eC (.int (0))) aN)))))) (ak (bx bM (ak (eC (.str "failed")) (ak (eC (.int (1))) (ak (aQ bH (aq 2) (eC (.int (0)))) aN)))) (ak (bx bM (ak (eC (.str "ended")) (ak (eC (.int (1))) (ak (bx bM (ak (eC (.str "failed")) (ak (aQ bH (aq 2) (eC (.int (0)))) aN))) aN)))) aN))))) (PD.gName 7) (cX (dh (aQ eU (bf 2 0 fM (ak (aq 3) (ak (aq 7) aN)) aN) (eC (.str "")))) (bU (eC (.bl false))) cD))
    (bW (eC (.int (3))) (PD.gName 5)))) cD)
theorem afl {j B k : Nat} {x0 x6 x7 x8 : Option D} {a b c : Str} {h : AH} (wl : Well j h k) (hk : k < 1000) (hj : j < B) (w : W0 B h) (l : LS B h (m0 none)) (hl : h.length = B + 13) (na : Nm a) (nb : Nm b) :
    ∃ (m : Mo) (k' : Int) (y7 : Option D) (h' : AH), St B h' m k' 0 ∧ A5 [x0, some (.ref j), some (.lst [.str a, .str b, .str c]), some (.ref B), some (.ref (B + 11)), some (.int 0), x6, x7, x8] h = .nx [x0, some (.ref j), some (.lst [.str a, .str b, .str c]), some (.ref B), some (.ref (B + 11)), some (.int k'), x6, y7, x8] h' := by
  obtain ⟨i, h1, e1, i0, i1, w1, f1⟩ := ux (m := 2) wl (by omega) (by decide) (by decide)
  obtain ⟨z, rfl⟩ := f1
  have lo : ∀ i, B ≤ i → (h.set j z)[i]? = h[i]? := fun i hi => keepI (by omega)
  have W := w.low lo
  have Lx := l.low lo
  have len : (h.set j z).length = B + 13 := by rw [List.length_set, hl]
  by_cases hi : i = 0
  · subst hi
    have ld : (h.set j z)[B + 11]? = some (.dict [(.inr "goes", .str "on"), (.inr "shut", .bl false), (.inr "due", .bl false), (.inr "lasts", .ref (B + 12)), (.inr "must", .str ""), (.inr "ended", .bl false), (.inr "child", .non)]) := Lx.d
    have l11 := (List.getElem?_eq_some_iff.mp ld).1
    have lo2 : ∀ c i, i < B + 11 → ((h.set j z).set (B + 11) c)[i]? = (h.set j z)[i]? := fun c i hi => keepI (by omega)
    have W2 : W0 B ((h.set j z).set (B + 11) (.dict (iY B (m0 (some a))))) := ⟨⟨by rw [lo2 _ _ (by omega)]; exact W.w.w, by rw [lo2 _ _ (by omega)]; exact W.w.t, by rw [lo2 _ _ (by omega)]; exact W.w.s, by rw [lo2 _ _ (by omega)]; exact W.w.a, by rw [lo2 _ _ (by omega)]; exact W.w.b, trivial⟩, by rw [lo2 _ _ (by omega)]; exact W.l, by rw [lo2 _ _ (by omega)]; exact W.o⟩
    have d2 : ((h.set j z).set (B + 11) (.dict (iY B (m0 (some a)))))[B + 11]? = some (.dict (iY B (m0 (some a)))) := List.getElem?_set_self l11
    have b2 : ((h.set j z).set (B + 11) (.dict (iY B (m0 (some a)))))[B + 12]? = some (.lst []) := by rw [keepI (by omega)]; exact Lx.b
    obtain ⟨h3, sb, w3, c3, g3⟩ := aj1 W2 (by rw [List.length_set]; exact len) nb
    obtain ⟨h4, sf, w4, _, c4, g4⟩ := ajZ w3 na
    obtain ⟨h5, se, w5, _, c5, g5⟩ := aj0 w4 na
    refine ⟨m0 (some a), 3, some (eD a), h5, ⟨w5.ws, ⟨by rw [c5, c4, c3]; exact d2, by rw [g5, g4, g3]; exact b2⟩, af6 (fun s e => by cases e; exact na), by simp [m0]⟩, ?_⟩
    unfold A5
    unfold iY m0 at sb
    unfold uY at sb
    unfold fD at sf
    unfold eD at se ⊢
    simp only [qF, qY, opS, Option.isSome_none, c1] at sb
    generalize fM = P at sb sf se ⊢
    (wp_walk using "ew", aM, aA, aG, aH, aJ, aK, e1, ld, afg, Nat.reduceLT, forL, sb, sf, se, aiE)
  · refine ⟨m0 none, 0, x7, _, ⟨W.w, Lx, af6 (fun s e => by cases e), by simp [m0]⟩, ?_⟩
    have d0 : decide (i = 0) = false := decide_eq_false hi
    unfold A5
    (wp_walk using "ew", aM, aA, aG, aH, aJ, aK, e1, d0)
end dN
noncomputable section
namespace dN
open PySem PySem.Spec PyProof.Rows L2 PD
theorem aiI : Ak = body 1 9
    (aZ (bW (bf 1 0 kY (ak (bf 2 0 lX (ak (aq 0) (ak (eC (.int (0))) aN)) aN) aN) aN) (PD.gName 1))
    (aZ (bW (bx cW (ak (bf 1 0 lY (ak (aq 1) aN) aN) (ak (bf 1 0 lY (ak (aq 1) aN) aN) (ak (bf 1 0 lY (ak (aq 1) aN) aN) aN)))) (PD.gName 2))
    (aZ (bW (bf 0 0 (oh "Watch" fun ds => kW (GB.picked (ds ++ [.non, .bl false]) [0, 1, 2])) aN aN) (PD.gName 3))
    (aZ (bW (qW [((eC (.str "goes")), (eC (.str "on"))), ((eC (.str "shut")), (eC (.bl false))), ((eC (.str "due")), (eC (.bl false))), ((eC (.str "lasts")), (bx jA aN)), ((eC (.str "must")), (eC (.str ""))), ((eC (.str "ended")), (eC (.bl false))), ((eC (.str "child")), (eC .non))]) (PD.gName 4))
    (aZ (bW (eC (.int (0))) (PD.gName 5))
    (aZ A5
    (aZ (u6 (nZ (aQ gY (Cu (aq 0) (qm (eC (.int (1)))) (qm (eC (.int (41))))) (bx cW (ak (eC (.int (0))) (ak (eC (.int (1))) (ak (eC (.int (2))) aN)))))) (PD.gName 6) CB)
    (bU (aQ cP (dZ yZ "seen" 0 jy (aq 3) aN) (aq 5)))))))))) := rfl
def MD : ME := (qW [((eC (.str "goes")), (eC (.str "on"))), ((eC (.str "shut")), (eC (.bl false))), ((eC (.str "due")), (eC (.bl false))), ((eC (.str "lasts")), (bx jA aN)), ((eC (.str "must")), (eC (.str ""))), ((eC (.str "ended")), (eC (.bl false))), ((eC (.str "child")), (eC .non))])
theorem aj3 {g : AH} {B : Nat} (hB : g.length = B) (e : En) : MD e (g ++ Tn B false) = .ok (.ref (B + 11)) (g ++ K13 B) := by
  have l1 : (g ++ Tn B false).length = B + 11 := by rw [List.length_append, hB]; rfl
  have ea : g ++ K13 B = (g ++ Tn B false) ++ [.dict (iY B (m0 none)), .lst []] := by unfold K13; rw [List.append_assoc]
  rw [ea]
  have hr : (B + 12 : Nat) = (g ++ Tn B false).length + 1 := by omega
  have hr2 : (B + 11 : Nat) = (g ++ Tn B false).length := by omega
  unfold iY m0
  rw [hr, hr2]
  generalize g ++ Tn B false = H
  unfold MD
  (wp_walk using "ew", aM, aA, aG, aH, aJ, aK, qW, uR, keysOf, uQ, List.foldl_cons, List.foldl_nil, List.append_assoc, List.length_append, ga, ga0, sa, SM, qF, qY, opS, Option.isSome_none)
  simp [gR, d9]
theorem aiJ {S : List D → D} (hS : S = D.dW ∨ S = D.lst) (ns : List Int) (hn : ns.length ≤ 63) (h : AH) : ∃ h', Ak [S (ns.map D.int)] h = .ok (.bl true) h' := by
  obtain ⟨c, ec⟩ := acQ hS ns h
  obtain ⟨h1, e1, w1, x, rfl⟩ := abN c h
  obtain ⟨a, h2, e2, na, w2, f2⟩ := RG w1 (by decide)
  obtain ⟨y2, rfl⟩ := f2
  rw [SM] at e2 w2
  obtain ⟨b, h3, e3, nb, w3, f3⟩ := RG w2 (by decide)
  obtain ⟨y3, rfl⟩ := f3
  rw [SM] at e3 w3
  obtain ⟨d, h4, e4, nd, w4, f4⟩ := RG w3 (by decide)
  obtain ⟨y4, rfl⟩ := f4
  rw [SM] at e4 w4
  simp only [List.set_cons_zero] at e2 e3 e4 w2 w3 w4
  have lg : (h ++ [y4]).length = h.length + 1 := by simp
  obtain ⟨B, hB⟩ : ∃ B, B = h.length + 1 := ⟨_, rfl⟩
  have e5 : oh "Watch" (fun ds => kW (GB.picked (ds ++ [.non, .bl false]) [0, 1, 2])) [] (h ++ [y4]) = .ok (.ref B) (h ++ [y4] ++ Tn B false) := by
    have q := acG (h ++ [y4]) false
    rw [lg, ← hB] at q
    exact q
  have em := fun e => aj3 (g := h ++ [y4]) (B := B) (by rw [lg, hB]) e
  obtain ⟨w0, l0, len0⟩ := aiH (g := h ++ [y4]) (B := B) (by rw [lg, hB])
  have wk : Well h.length (h ++ [y4] ++ K13 B) (0 + 9 + 9 + 9) := w4.app _
  obtain ⟨m, k', y7, h6, S6, e6⟩ := afl (x0 := some (S (ns.map D.int))) (x6 := none) (x7 := none) (x8 := none) (c := d) wk (by decide) (by omega) w0 l0 len0 na nb
  have cut : ∀ d ∈ PD.cutD (ns.map D.int) (some 1) (some 41) ++ [.int 0, .int 1, .int 2], ∃ c : Int, d = .int c := fun d hd => by
    rcases List.mem_append.mp hd with hd | hd
    · exact ael ns _ _ d hd
    · simp only [List.mem_cons, List.not_mem_nil, or_false] at hd
      rcases hd with rfl | rfl | rfl <;> exact ⟨_, rfl⟩
  have hl3 := afk ns hn (some 1) (some 41)
  obtain ⟨z6, z7, z8, m2, k2, n2, h8, S8, e8⟩ := QF (x0 := some (S (ns.map D.int))) (x1 := some (.ref h.length)) na nb nd (PD.cutD (ns.map D.int) (some 1) (some 41) ++ [.int 0, .int 1, .int 2]) none y7 none m k' 0 h6 cut S6 (by rw [List.length_append]; simp only [List.length_cons, List.length_nil]; omega)
  have e9 := agS S8.w
  have i1 := pq (cs := yZ) (mn := "seen") S8.w.w (by simp) (fV (by decide +kernel))
  have hlen : (PD.cutD (ns.map D.int) (some 1) (some 41)).length + 3 ≤ 16777216 := by omega
  have d3 : decide (k2 = k2) = true := decide_eq_true rfl
  refine ⟨h8, ?_⟩
  rw [aiI]
  unfold MD at em
  generalize hDI : (qW [((eC (.str "goes")), (eC (.str "on"))), ((eC (.str "shut")), (eC (.bl false))), ((eC (.str "due")), (eC (.bl false))), ((eC (.str "lasts")), (bx jA aN)), ((eC (.str "must")), (eC (.str ""))), ((eC (.str "ended")), (eC (.bl false))), ((eC (.str "child")), (eC .non))]) = DI at em ⊢
  generalize lX = P1 at ec ⊢
  generalize kY = P2 at e1 ⊢
  generalize lY = P3 at e2 e3 e4 ⊢
  generalize (oh "Watch" fun ds => kW (GB.picked (ds ++ [.non, .bl false]) [0, 1, 2])) = P5 at e5 ⊢
  generalize jy = P6 at e9 ⊢
  generalize A5 = S5 at e6 ⊢
  generalize CB = C8 at e8 ⊢
  generalize (gName 6 : MG) = G6 at e8 ⊢
  clear hDI
  rcases hS with rfl | rfl <;>
    (wp_walk using "ew", aM, aA, aG, aH, aJ, aK, ec, e1, e2, e3, e4, e5, em, e6, Qe, hlen, e8, dZ, i1, e9, d3)
end dN
noncomputable section
namespace dN
open PySem PySem.Spec PyProof.Rows L2 PD
theorem aiK {K : PySem.W.Frag} {H : Hp} {a : Addr} {ns : List Int} (hl : ns.length ≤ 63) (hS : SqL K H a (ns.map V.int)) : Cg K Ak [.ref a] H (fun v _ => v = .bl true) fun _ _ _ => False := by
  have hr : HR K H ⟨[], []⟩ [] := ⟨List.nodup_nil, rfl, fun a h => (by cases h), fun a h => (by cases h), fun n c a h => (by simp at h)⟩
  have no : ¬ Al.has ⟨[], []⟩ a := fun z => z.elim (fun w => (by cases w)) (fun w => (by cases w))
  have go : ∀ S : List D → D, (S = D.dW ∨ S = D.lst) → Rp K H ⟨[], []⟩ (S (ns.map D.int)) (.ref a) → Cg K Ak [.ref a] H (fun v _ => v = .bl true) fun _ _ _ => False := fun S hS rp => by
    obtain ⟨h', e⟩ := aiJ hS ns hl []
    refine ⟨[S (ns.map D.int)], ⟨[], []⟩, [], hr, .cons rp .nil, ?_⟩
    rw [e]
    intro v H' aU _ _ q
    cases q
    rfl
  rcases hS with (hS | ⟨o, hS⟩) | hS
  · exact go _ (.inr rfl) (.lst ⟨hS, no⟩ (Fj ns))
  · exact go _ (.inl rfl) (.dW (.inl ⟨o, hS, no⟩) (Fj ns))
  · exact go _ (.inl rfl) (.dW (.inr hS) (Fj ns))
theorem aem {K : PySem.W.Frag} {fd : FuncData} (F : FunD K "law" "law" (defArgs qd) (defBody qd) (defScope qd) [] [] (He.ga K "law") fd) (s : Shared) (v : Value) : BindsTo s fd ⟨[v], []⟩ [("_law_script", v)] :=
  FunD.bindsA (ps := ["_law_script"]) F (fun _ _ _ _ _ _ us hl => match us, hl with | [_], _ => rfl) s [v] rfl
theorem aiL {P : Program} {w : World} {K : PySem.W.Frag} {mg : Str → Option Value} {base : Heap} (T : Top w K mg) {fd : FuncData} (F : FunD K "law" "law" (defArgs qd) (defBody qd) (defScope qd) [] [] (He.ga K "law") fd) :
    GB.Fn P w K mg base L2.CX0 9 (He.ga K "law") fd ["_law_script"] (fun vs H Q _ => Cg K Ak vs H Q fun _ _ _ => False) := by
  obtain ⟨fd', D1, F1⟩ := (ajL (P := P) (base := base) T).ex
  rw [agR F D1]
  exact agQ F1
end dN
open PySem PySem.W PySem.Calls PyProof.Rows
set_option maxHeartbeats 0 in
theorem PySem.Challenge.cw_givenback_k24_lasts_failures_and_ends_holds : PySem.Challenge.rw_givenback_k24_lasts_failures_and_ends.Holds := by
  refine hold0 ?hc
  case hc =>
    refine GB.aiP (l := PySem.Challenge.rw_givenback_k24_lasts_failures_and_ends) (n := 63) (k := 9) (x := "_law_script") (CX := L2.CX0) rfl (by decide) (by kernel_rfl) ⟨rfl, by decide, by decide⟩ ?F (fun _ _ _ _ z => z)
    intro w mg fa h Y G hmg0
    obtain ⟨K, KX, c⟩ := Y
    have hmg : mg ("law" : PySem.Str) = some (.ref fa) := by
      have e : (HandSHeadRun.topDef (OpenLaw.row PySem.Challenge.rw_givenback_k24_lasts_failures_and_ends).prog 54).name = ("law" : PySem.Str) := by kernel_rfl
      rw [← e]
      exact hmg0
    have T := dN.ahH KX G c
    have e := hmg.symm.trans T.ab2.gl
    cases e
    obtain ⟨fd, F⟩ := T.ab2.ex
    exact ⟨K, fd, fun vs H Q _ => PD.Cg K dN.Ak vs H Q fun _ _ _ => False, KX, fun s v => dN.aem F s v, fun H a ns hl hS => dN.aiK hl hS, fun base _ _ => dN.aiL T F⟩
