import PyProof.Rows.All
import Wide.All
import OpenK.AllK
import Wide.FinOn
import PyProof.EqAt
import PyProof.EqKinds
import PyProof.TupleCall
import KE.KStateDown
import Lean
import HandS.ForMost
import HandS.Exc
import HandS.TryOnly
import HandS.WordsExc
import HandS.More
import HandS.Flow
import HandS.Wide
import HandS.IsInst
import HandS.Defaults
import HandS.RaiseMore
import HandS.Deep
import HandS.Walk
import HandS.TupAny
import HandS.Head0
import HandS.Head1
import HandS.Head2
import HandS.HeadEnd
import HandS.HeadHook1
import HandS.HeadHook2
import HandS.ExcInit
import HandS.ExcField
import HandS.ExcIs
import HandS.TryMany
import HandS.ClsMeth
import HandS.CallLocal
import HandS.HeadHook3
import HandS.SortKw
import HandS.MakeKw
import HandS.MakeKwOnly
import KE.DatumOrd
import KE.KExcInit
import HandS.ExcOwn
import HandS.TupMul
import HandS.FStr
import HandS.SortRule
import HandS.OwnEq
import KE.KCallOwn
import KE.KUnpackStar
import HandS.Zip
import KE.GoesMore
import HandS.Style
import KE.KTryMore
import PyProof.NeKinds
import PyProof.P3Eq
import HandS.Iter
import HandS.Finally
import PyProof.AssignAttr
import KE.KDictWalk
import HandS.Text
import PySem.Challenge.RW_givenback_k22_kills_seen_and_landed
set_option Elab.async false
set_option linter.all false
set_option maxRecDepth 100000
set_option maxHeartbeats 4000000
namespace GB
open PySem PySem.Spec PyProof.Rows L2
structure Fn (P : Program) (w : World) (K : PySem.W.Frag) (mg : Str → Option Value) (base : Heap) (CX : CXT)
    (k : Nat) (f : Addr) (fd : FuncData) (ps : List Str) (sp : Sp) : Prop where
  len : ∀ vs H Q E, sp vs H Q E → vs.length = ps.length
  go : ∀ (A : Around) (outer : List Env) (s : Shared) (H : Hp) (args : Args) (us : List Value) (vs : List V)
    (Q : VK) (E : XK), Room k A → A.guards = some [] → Env0 P w K mg base A outer s H →
    BindsTo s fd args (ps.zip us) → Vals vs us → sp vs H Q E →
    codeAny (model P w) A (.call (.ref f) args) (CR CX outer P w H s Q E) s
section
variable {P : Program} {w : World} {K : PySem.W.Frag} {mg : Str → Option Value} {base : Heap} {CX : CXT}
  {j k : Nat} {f : Addr} {fd : FuncData} {ps : List Str} {sp sp' : Sp}
theorem Fn.ako (F : FnOk P w K mg base CX k f fd ps sp) : Fn P w K mg base CX k f fd ps sp :=
  ⟨F.len, fun A outer s H args us vs Q E hr _ => F.run A outer s H args us vs Q E hr⟩
theorem Fn.mono (F : Fn P w K mg base CX j f fd ps sp) (h : j ≤ k) : Fn P w K mg base CX k f fd ps sp :=
  ⟨F.len, fun A outer s H args us vs Q E hr => F.go A outer s H args us vs Q E (hr.mono h)⟩
theorem Fn.imp (F : Fn P w K mg base CX k f fd ps sp) (h : ∀ vs H Q E, sp' vs H Q E → sp vs H Q E) :
    Fn P w K mg base CX k f fd ps sp' :=
  ⟨fun vs H Q E q => F.len vs H Q E (h _ _ _ _ q),
    fun A outer s H args us vs Q E hr g he hb hv hs => F.go A outer s H args us vs Q E hr g he hb hv (h _ _ _ _ hs)⟩
end
section
variable {P : Program} {w : World} {K : PySem.W.Frag} {mg : Str → Option Value} {base : Heap} {CX : CXT}
  {x qual : Str} {params : Arguments} {body : List Stmt} {scope : Scope} {dvs : List V} {kws : List (Str × V)}
  {k : Nat} {f : Addr} {fd : FuncData} {N ps : List Str} {sp : Sp}
theorem fnG (F : FunD K x qual params body scope dvs kws f fd) (S : FnScope N ps scope)
    (len : ∀ vs H Q E, sp vs H Q E → vs.length = ps.length)
    (hb : ∀ (cdv : Value) (A : Around) (outer : List Env) (s : Shared) (H : Hp) (vs : List V) (Q : VK) (E : XK),
      Room k (A.deeper (envOfC qual scope s.heap.objs.size f cdv)) → A.guards = some [] → sp vs H Q E →
      ∃ t, PSs (cxOf CX P w K mg base N qual scope f cdv A outer s H E) body t ∧
        t { nx := fun _ H' => Q .non H', rt := Q } (start N vs) H) :
    Fn P w K mg base CX (k + 1) f fd ps sp := by
  obtain ⟨oc, od, dV, kV, doc, pm, an, cdv, ct, osl, rfl, lk, hcd, _, _⟩ := F.ex
  refine ⟨len, ?_⟩
  intro A outer s H args us vs Q E hr hg e0 hbi r hsp
  have kb : ∀ b o, base.get? b = some o → s.heap.get? b = some o := fun b o e => (e0.bs b o e).1
  have X0 : K.In s.heap := e0.mod.kin.keeps kb
  have par : ∀ y ∈ ps.zip us, scope.names.lookup y.1 = some .local ∨
      (scope.names.lookup y.1 = some .cell ∧ ((cellsFrom (s.heap.objs.size + 1) scope.names []).lookup y.1).isSome = true) := by
    rintro ⟨n, v⟩ hy
    cases S.par n (List.of_mem_zip hy).1 with
    | inl q => exact .inl q
    | inr q => exact .inr ⟨q, PySem.W.cellsFrom_some _ _ _ (.inl q)⟩
  refine codeAny_call_function hr.depth (X0 _ _ lk) rfl S.co S.gen rfl (PySem.W.codeRec_of X0 hcd) (hbi _ _ _ _ ?_)
  refine wpAny_newFunctionEnv_cells S.kind par ?_
  rintro env rfl s1 x
  refine ⟨(e0.mod.nolimit.keeps kb).keeps x.toInCall.keep, codeAny_func ?_⟩
  obtain ⟨t, ht, hq⟩ := hb cdv A outer s H vs Q E (hr.deeper _) hg hsp
  refine wpAny_mono (ht.run [] s1 (start N vs) H _ (inv_start S hr.hd e0 (len _ _ _ _ hsp) r x) hq) ?_ (fun _ _ z => z)
  intro fl s' hs
  match fl, hs with
  | .ret u, ⟨v, σ', H', J, rv, q⟩ => exact ⟨v, H', J.os, J.bare, J.base, J.hok, rv, q⟩
  | .next, ⟨σ', H', J, q⟩ => exact ⟨V.non, H', J.os, J.bare, J.base, J.hok, rfl, q⟩
  | .brk, ⟨_, _, _, q⟩ => exact q.elim
  | .cont, ⟨_, _, _, q⟩ => exact q.elim
end
structure Tp (K : PySem.W.Frag) (mg : Str → Option Value) (x : Str) (st : Stmt) (dvs : List V) (kws : List (Str × V)) : Prop where
  ex : ∃ fd, FunD K x x (defArgs st) (defBody st) (defScope st) dvs kws (He.ga K x) fd
  gl : mg x = some (.ref (He.ga K x))
structure Cal (P : Program) (w : World) (K : PySem.W.Frag) (mg : Str → Option Value) (base : Heap) (CX : CXT)
    (k : Nat) (x : Str) (ps : List Str) (sp : Sp) : Prop where
  ex : ∃ fd, Binds K fd ps [] ∧ PySem.W.keepIn K (.ref (He.ga K x)) = true ∧ Fn P w K mg base CX k (He.ga K x) fd ps sp
  gl : mg x = some (.ref (He.ga K x))
section
variable {P : Program} {w : World} {K : PySem.W.Frag} {mg : Str → Option Value} {base : Heap} {CX : CXT}
  {x : Str} {st : Stmt} {kws : List (Str × V)} {j k : Nat} {N ps : List Str} {sp sp' : Sp}
theorem Cal.mono (c : Cal P w K mg base CX j x ps sp) (h : j ≤ k) : Cal P w K mg base CX k x ps sp := by
  obtain ⟨fd, b, kp, F⟩ := c.ex
  exact ⟨⟨fd, b, kp, F.mono h⟩, c.gl⟩
theorem Cal.imp (c : Cal P w K mg base CX k x ps sp) (h : ∀ vs H Q E, sp' vs H Q E → sp vs H Q E) : Cal P w K mg base CX k x ps sp' := by
  obtain ⟨fd, b, kp, F⟩ := c.ex
  exact ⟨⟨fd, b, kp, F.imp h⟩, c.gl⟩
theorem Tp.cal (T : Tp K mg x st [] kws) (S : FnScope N ps (defScope st))
    (hbd : ∀ (kV doc pm : Value) (an : Option Addr) (cdv ct : Value) (us : List Value), us.length = ps.length →
      bindArgs (PySem.W.fnOf x x (defArgs st) (defBody st) (defScope st) .none kV doc pm an cdv ct) ⟨us, []⟩ = pure (ps.zip us))
    (len : ∀ vs H Q E, sp vs H Q E → vs.length = ps.length)
    (hb : ∀ (cdv : Value) (A : Around) (outer : List Env) (s : Shared) (H : Hp) (vs : List V) (Q : VK) (E : XK),
      Room k (A.deeper (envOfC x (defScope st) s.heap.objs.size (He.ga K x) cdv)) → A.guards = some [] → sp vs H Q E →
      ∃ t, PSs (cxOf CX P w K mg base N x (defScope st) (He.ga K x) cdv A outer s H E) (defBody st) t ∧
        t { nx := fun _ H' => Q .non H', rt := Q } (start N vs) H) :
    Cal P w K mg base CX (k + 1) x ps sp := by
  obtain ⟨fd, F⟩ := T.ex
  exact ⟨⟨fd, F.bindsN hbd, F.kp, fnG F S len hb⟩, T.gl⟩
end
section
variable {X : Cx} {CX : CXT} {k : Nat} {ps : List Str} {sp : Sp} {E : XK} {x : Str} {p pos : Pos} {e : Expr} {es : List Expr} {t : TA}
end
structure Av (P : Program) (w : World) (K : PySem.W.Frag) (mg : Str → Option Value) (base : Heap) (CX : CXT)
    (k : Nat) (x : Str) (st : Stmt) (kws : List (Str × V)) (ps : List Str) (sp : Sp) : Prop where
  ex : ∃ fd, FunD K x x (defArgs st) (defBody st) (defScope st) [] kws (He.ga K x) fd ∧ Fn P w K mg base CX k (He.ga K x) fd ps sp
  gl : mg x = some (.ref (He.ga K x))
def picked {α : Type} (xs : List α) (is : List Nat) : List α := is.filterMap fun i => xs[i]?
theorem yW {xs : List V} {us : List Value} (r : Vals xs us) : ∀ is : List Nat, Vals (picked xs is) (picked us is)
  | [] => .nil
  | i :: is => by
    have ih := yW r is
    unfold picked at ih ⊢
    rw [List.filterMap_cons, List.filterMap_cons]
    cases e : xs[i]? with
    | none =>
      rw [Vals.none_of r e]
      exact ih
    | some x =>
      obtain ⟨u, hu, ru⟩ := Vals.get r e
      rw [hu]
      exact .cons ru ih
section
variable {P : Program} {w : World} {K : PySem.W.Frag} {mg : Str → Option Value} {base : Heap} {CX : CXT}
  {x : Str} {st : Stmt} {kws : List (Str × V)} {j k : Nat} {N ps : List Str} {sp sp' : Sp}
theorem Av.mono (c : Av P w K mg base CX j x st kws ps sp) (h : j ≤ k) : Av P w K mg base CX k x st kws ps sp := by
  obtain ⟨fd, F, G⟩ := c.ex
  exact ⟨⟨fd, F, G.mono h⟩, c.gl⟩
theorem Av.imp (c : Av P w K mg base CX k x st kws ps sp) (h : ∀ vs H Q E, sp' vs H Q E → sp vs H Q E) : Av P w K mg base CX k x st kws ps sp' := by
  obtain ⟨fd, F, G⟩ := c.ex
  exact ⟨⟨fd, F, G.imp h⟩, c.gl⟩
theorem Av.cal (c : Av P w K mg base CX k x st kws ps sp)
    (hbd : ∀ (kV doc pm : Value) (an : Option Addr) (cdv ct : Value) (us : List Value), us.length = ps.length →
      bindArgs (PySem.W.fnOf x x (defArgs st) (defBody st) (defScope st) .none kV doc pm an cdv ct) ⟨us, []⟩ = pure (ps.zip us)) :
    Cal P w K mg base CX k x ps sp := by
  obtain ⟨fd, F, G⟩ := c.ex
  exact ⟨⟨fd, F.bindsN hbd, F.kp, G⟩, c.gl⟩
end
def aiI (n m : Nat) (is : List Nat) (sp : Sp) (E : XK) (t tk : TA) : TE := fun σ H Q => t σ H fun vs H1 => tk σ H1 fun zs H2 => vs.length = n ∧ zs.length = m ∧ sp (picked (vs ++ zs) is) H2 Q E
section
variable {X : Cx} {CX : CXT} {k n : Nat} {ps ks : List Str} {sp : Sp} {E : XK} {x : Str} {st : Stmt} {kwd : List (Str × V)} {p pos : Pos} {e : Expr} {es : List Expr} {kws : List Keyword} {t tk : TA} {is : List Nat}
end
theorem ad3 {P : Program} {w : World} {K : PySem.W.Frag} {mg mb : Str → Option Value} {CX : CXT} {k : Nat} {fa a : Addr}
    {fd : FuncData} {x : Str} {sp : Sp} {s1 : Shared} {vs : List Value} {ns : List Int}
    (KX : K.In s1.heap) (hns : s1.heap.Ns mainGlobals mg) (hb : s1.heap.Ns builtinsNs mb)
    (hbb : ∀ x : Str, x ≠ "__name__" → mb x = bootBuiltins x) (hlim : s1.heap.NoLimit) (hg : s1.gens = #[])
    (ha : s1.heap.get? a = some { cls := .type "list", data := .seq vs.toArray }) (hi : IntsAre vs ns)
    (hl : ns.length ≤ sizeLine) (hr : Room k callerA)
    (F : ∀ base : Heap, K.In base → base.Ns mainGlobals mg → Fn P w K mg base CX k fa fd [x] sp)
    (hbind : ∀ (s : Shared) (u : Value), BindsTo s fd ⟨[u], []⟩ [(x, u)])
    (hsp : ∀ H : Hp, SqL K H a (ns.map V.int) → sp [.ref a] H (fun v _ => v = .bl true) fun _ _ _ => False)
    (hCX : ∀ H e s', CX [] H s1 (fun _ _ _ => False) e s' → False) :
    codeAny (model P w) callerA (.call (.ref fa) ⟨[.ref a], []⟩)
      (fun r s' => r = .ok (.ret (.bool true)) ∧ OldK s1.heap s'.heap ∧ s'.os = s1.os ∧ AllBare s'.gens) s1 := by
  have rv := vals_ints hi
  have lenV := hi.length
  have key : ∀ H : Hp, Only H → SqL K H a (ns.map V.int) → HOk P w H s1.heap → (∀ b, H b ≠ none → b = a ∧ K.lookup a = none) →
      codeAny (model P w) callerA (.call (.ref fa) ⟨[.ref a], []⟩)
        (fun r s' => r = .ok (.ret (.bool true)) ∧ OldK s1.heap s'.heap ∧ s'.os = s1.os ∧ AllBare s'.gens) s1 := by
    intro H hO hS hok hA
    have off : ∀ b, (b ≠ a ∨ K.lookup a ≠ none) → H b = none := fun b hb => by
      cases q : H b with
      | none => rfl
      | some u =>
        have z := hA b (by rw [q]; exact fun h => nomatch h)
        rcases hb with h | h
        · exact absurd z.1 h
        · exact absurd z.2 h
    have nsT : ∀ {b : Addr} {m : Str → Option Value}, s1.heap.Ns b m → (hidT s1.heap H).Ns b m := by
      rintro b m ⟨o, es, ep, e, d, r⟩
      refine ⟨o, es, ep, hidT_get e (off b (.inl ?_)), d, r⟩
      rintro rfl
      rw [ha] at e
      cases e
      have d' : Data.seq vs.toArray _ = Data.dict es ep := d
      cases d'
    have KT : K.In (hidT s1.heap H) := fun b o e => hidT_get (KX b o e) (off b (by
      by_cases h : b = a
      · refine .inr ?_
        rw [← h, e]
        exact fun z => nomatch z
      · exact .inl h))
    obtain ⟨mc, h1, h2⟩ := hlim
    have M0 : Mod K mg (hidT s1.heap H) := ⟨KT, nsT hns, ⟨mb, nsT hb, hbb⟩, ⟨mc, nsT h1, h2⟩⟩
    have e0 : Env0 P w K mg (hidT s1.heap H) callerA [] s1 H :=
      ⟨rfl, M0, fun b o e => of_hidT e, Nat.le_of_eq (hidT_size _ _), trivial, fun b hb => (nomatch (show b ∈ ([] : List Addr) from hb)), hok, .of_eq hg⟩
    refine codeAny_mono ((F _ KT (nsT hns)).go callerA [] s1 H ⟨[.ref a], []⟩ [.ref a] [.ref a] _ _ hr rfl e0 (hbind s1 (.ref a)) (.cons rfl .nil) (hsp H hS)) ?_
    intro r s' h
    match r, h with
    | .error e, h => exact (hCX H e s' h).elim
    | .ok (.ret u), ⟨v, H', os, bare, un, hok', r', q⟩ =>
      cases (show v = V.bl true from q)
      cases (show u = Value.bool true from r')
      refine ⟨rfl, OldK.of_keep ?_, os, bare⟩
      intro b o e
      cases q : H b with
      | none => exact un.keep b o e q (fun z => nomatch (show b ∈ ([] : List Addr) from z)) (fun z => nomatch z)
      | some u =>
        rcases hO b with z | ⟨ob, xs, z⟩
        · rw [q] at z
          cases z
        · have e1 := (hok b _ z).1
          have e2 := (hok' b _ (un.frzs b ob _ z)).1
          rw [e] at e1
          cases e1
          exact e2
  cases hk : K.lookup a with
  | some o =>
    have e := KX a o hk
    rw [ha] at e
    cases e
    refine key (fun _ => none) (fun _ => .inl rfl) (.inr ⟨_, vs.toArray, _, hk, rfl, rfl, rfl, ?_, by simpa using rv⟩) (fun b u z => nomatch z) (fun b z => absurd rfl z)
    rw [List.size_toArray, lenV]
    exact hl
  | none =>
    let H0 : Hp := fun b => if b = a then some (.frz { cls := .type "list", data := .seq vs.toArray } (.lst (ns.map V.int))) else none
    have at0 : H0 a = some (.frz { cls := .type "list", data := .seq vs.toArray } (.lst (ns.map V.int))) := if_pos rfl
    have ne0 : ∀ b, b ≠ a → H0 b = none := fun b h => if_neg h
    refine key H0 ?_ (.inl (.inr ⟨_, at0⟩)) ?_ ?_
    · intro b
      by_cases h : b = a
      · rw [h]
        exact .inr ⟨_, _, at0⟩
      · exact .inl (ne0 b h)
    · intro b u z
      by_cases h : b = a
      · subst h
        rw [at0] at z
        cases z
        exact ⟨ha, by rw [List.length_map]; exact hl, vs, _, rv, ha⟩
      · rw [ne0 b h] at z
        cases z
    · intro b z
      by_cases h : b = a
      · exact ⟨h, hk⟩
      · exact absurd (ne0 b h) z
theorem aiJ {l : PySem.W.OpenLaw} {n k : Nat} {q : Program} {loose : List Str} {XP : (Str → Option Value) → Heap → Prop}
    {YP : World → Heap → Prop} {d : DefRec} {CX : CXT} {x : Str}
    (hn : l.most = some n) (hn2 : n ≤ sizeLine) (hdf : d.params.defaults = []) (hr : Room k callerA)
    (F : ∀ (w : World) (mg : Str → Option Value) (fa : Addr) (h : Heap), YP w h → h.Ns mainGlobals mg → mg d.name = some (.ref fa) →
      ∃ (K : PySem.W.Frag) (fd : FuncData) (sp : Sp), K.In h ∧ (∀ (s : Shared) (u : Value), BindsTo s fd ⟨[u], []⟩ [(x, u)]) ∧
        (∀ (H : Hp) (a : Addr) (ns : List Int), ns.length ≤ n → SqL K H a (ns.map V.int) → sp [.ref a] H (fun v _ => v = .bl true) fun _ _ _ => False) ∧
        ∀ base : Heap, K.In base → base.Ns mainGlobals mg → Fn l.prog w K mg base CX k fa fd [x] sp)
    (hCX : ∀ (H : Hp) (s : Shared) (e : Value) (s' : Shared), CX [] H s (fun _ _ _ => False) e s' → False) :
    PySem.W.WalkO q loose XP YP l.row.toRowW d [] (fun f vs => PySem.call f vs) := by
  refine Att.attach_call hn hdf ?_
  intro w s0 s1 mg mb fa o pm cd doc a vs ns G Y ho hd hcd hmg hobj hints hlen hg
  obtain ⟨K, fd, sp, KX, hb, hsp, hF⟩ := F w mg fa _ Y G.T.g hmg
  exact ad3 KX G.T.g G.T.b G.T.builtins G.T.nolimit hg hobj hints (Nat.le_trans hlen hn2) hr hF hb (fun H hS => hsp H a ns hlen hS) (fun H e s' => hCX H s1 e s')
end GB
namespace GB
open PySem PySem.Spec PyProof.Rows L2
def Has (H : Hp) (L : List (Addr × HO)) : Prop := (∀ p ∈ L, H p.1 = some p.2) ∧ (L.map (·.1)).Nodup
def Ext (w : Addr) (H H' : Hp) : Prop := ∀ a o, a ≠ w → H a = some o → H' a = some o
section
variable {H H' H2 : Hp} {L : List (Addr × HO)} {a p w : Addr} {o o' : HO} {i : Nat}
theorem Ext.refl : Ext w H H := fun _ _ _ h => h
theorem Ext.trans (e : Ext w H H') (f : Ext w H' H2) : Ext w H H2 := fun a o n h => f a o n (e a o n h)
theorem Ext.new (h : H p = none) : Ext w H (upd H p o) := fun a u _ e => by
  rw [upd_ne (ne_of_none e h)]
  exact e
theorem Ext.put : Ext w H (upd H w o) := fun a u n e => by
  rw [upd_ne n]
  exact e
theorem Ext.of {H H' : Hp} (e : ∀ a o, H a = some o → H' a = some o) : Ext w H H' := fun a o _ h => e a o h
theorem Has.nil : Has H [] := ⟨fun _ h => (nomatch h), List.nodup_nil⟩
theorem Has.one (h : H a = some o) : Has H [(a, o)] := ⟨fun p hp => by
  cases List.mem_singleton.mp hp
  exact h, by simp⟩
theorem Has.mem (h : Has H L) (m : (a, o) ∈ L) : H a = some o := h.1 _ m
theorem Has.at (h : Has H L) (i : Nat) (m : L[i]? = some (a, o)) : H a = some o := h.1 _ (List.mem_of_getElem? m)
theorem Has.new (h : Has H L) (n : H p = none) : Has (upd H p o) ((p, o) :: L) := by
  refine ⟨fun q hq => ?_, ?_⟩
  · rcases List.mem_cons.mp hq with rfl | hq
    · exact upd_same
    · rw [upd_ne (ne_of_none (h.1 q hq) n)]
      exact h.1 q hq
  · rw [List.map_cons, List.nodup_cons]
    refine ⟨fun z => ?_, h.2⟩
    obtain ⟨q, hq, e⟩ := List.mem_map.mp z
    have z2 := h.1 q hq
    have e2 : q.1 = p := e
    rw [e2, n] at z2
    cases z2
theorem afP (i : Nat) (m : L[i]? = some (a, o)) : (L.set i (a, o')).map (·.1) = L.map (·.1) := by
  rw [List.map_set]
  apply List.ext_getElem?
  intro j
  rw [List.getElem?_set]
  split
  · rename_i e
    subst e
    have hi : i < L.length := by
      rcases Nat.lt_or_ge i L.length with h | h
      · exact h
      · rw [List.getElem?_eq_none h] at m
        cases m
    rw [List.length_map, if_pos hi, List.getElem?_map, m]
    rfl
  · rfl
theorem Has.go (h : Has H L) (i : Nat) (m : L[i]? = some (w, o)) (e : Ext w H H') (n : H' w = some o') : Has H' (L.set i (w, o')) := by
  have hi : i < L.length := by
    rcases Nat.lt_or_ge i L.length with h | h
    · exact h
    · rw [List.getElem?_eq_none h] at m
      cases m
  refine ⟨fun q hq => ?_, by rw [afP i m]; exact h.2⟩
  obtain ⟨j, hj, rfl⟩ := List.getElem_of_mem hq
  rw [List.length_set] at hj
  by_cases hji : i = j
  · subst hji
    rw [List.getElem_set_self]
    exact n
  · rw [List.getElem_set_ne hji]
    refine e _ _ (fun z => ?_) (h.1 _ (List.getElem_mem hj))
    have hm : L[i] = (w, o) := by
      rw [List.getElem?_eq_getElem hi] at m
      exact Option.some.inj m
    refine hji ((List.getElem?_inj (l := L.map (·.1)) (by rw [List.length_map]; exact hi) h.2).mp ?_)
    rw [List.getElem?_map, List.getElem?_map, List.getElem?_eq_getElem hi, List.getElem?_eq_getElem hj, hm]
    show some w = some L[j].1
    rw [z]
theorem Has.put (h : Has H L) (i : Nat) (m : L[i]? = some (w, o)) : Has (upd H w o') (L.set i (w, o')) := h.go i m Ext.put upd_same
theorem Has.ex (h : Has H L) (e : ∀ a o, H a = some o → H' a = some o) : Has H' L := ⟨fun q hq => e _ _ (h.1 q hq), h.2⟩
theorem Has.drop (h : Has H ((a, o) :: L)) : Has H L := ⟨fun q hq => h.1 q (List.mem_cons_of_mem _ hq), (List.nodup_cons.mp h.2).2⟩
theorem Has.ne (h : Has H L) (i j : Nat) {b : Addr} {u : HO} (hij : i ≠ j) (m : L[i]? = some (a, o)) (m2 : L[j]? = some (b, u)) : a ≠ b := by
  rintro rfl
  have li : i < L.length := by
    rcases Nat.lt_or_ge i L.length with h | h
    · exact h
    · rw [List.getElem?_eq_none h] at m
      cases m
  refine hij ((List.getElem?_inj (l := L.map (·.1)) (by rw [List.length_map]; exact li) h.2).mp ?_)
  rw [List.getElem?_map, List.getElem?_map, m, m2]
  rfl
end
theorem sqL {K : PySem.W.Frag} {H : Hp} {a : Addr} {xs : List V} (h : H a = some (.lst xs)) : SqL K H a xs := .inl (.inl h)
theorem sqT {K : PySem.W.Frag} {H : Hp} {a : Addr} {xs : List V} (h : H a = some (.tup xs)) : SqT K H a xs := .inl (.inl h)
section
variable {K : PySem.W.Frag} {σ : L2.St} {H : Hp} {Q : VK} {D : Ends} {ta tb te : TE} {tt tu : TT} {t u : TS} {r : R2} {tA tR : TA} {v : V} {i : Nat}
theorem aiK (h : t { D with nx := u D } σ H) : tSeq t u D σ H := h
theorem agO (h : D.nx σ H) : tNext D σ H := h
theorem aiL {g : TG} (h : te σ H fun x H1 => g x σ H1 D.nx) : tAsg te g D σ H := h
theorem agP {v : V} {P : L2.St → Hp → Prop} (h : P (σ.set i (some v)) H) : gName i v σ H P := h
theorem agQ (h : te σ H fun _ H1 => D.nx σ H1) : tDrop te D σ H := h
theorem aiM (h : te σ H D.rt) : tRet te D σ H := h
theorem aiN (h : tt σ H fun b H1 => if b = true then t D σ H1 else u D σ H1) : tIfS tt t u D σ H := h
theorem aiO (h : σ[i]? = some (some v)) (q : Q v H) : tVar i σ H Q := ⟨v, h, q⟩
theorem r_c (q : Q v H) : tC v σ H Q := q
theorem akp (h : ta σ H fun x H1 => tb σ H1 fun y H2 => r x y H2 Q) : tOp r ta tb σ H Q := h
theorem akq {r : V → Hp → VK → Prop} (h : ta σ H fun x H1 => r x H1 Q) : tUn r ta σ H Q := h
theorem aiP {Q : List V → Hp → Prop} (h : Q [] H) : tNil σ H Q := h
theorem agR {Q : List V → Hp → Prop} (h : ta σ H fun x H1 => tR σ H1 fun xs H2 => Q (x :: xs) H2) : tCons ta tR σ H Q := h
theorem akr {r : List V → Hp → VK → Prop} (h : tA σ H fun vs H1 => r vs H1 Q) : tCB r tA σ H Q := h
theorem agS {sp : Sp} {E : XK} (h : tA σ H fun vs H1 => sp (vs ++ []) H1 Q E) : tCall sp [] E tA σ H Q := h
theorem agT {n m : Nat} {is : List Nat} {sp : Sp} {E : XK} {tk : TA} (h : tA σ H fun vs H1 => tk σ H1 fun zs H2 => vs.length = n ∧ zs.length = m ∧ sp (picked (vs ++ zs) is) H2 Q E) : aiI n m is sp E tA tk σ H Q := h
theorem agU {P : Bool → Hp → Prop} (h : te σ H fun x H' => ∃ k, x = .bl k ∧ P k H') : tTest te σ H P := h
theorem aks {b : Bool} {P : Bool → Prop} (h : P b) : ∃ k, V.bl b = .bl k ∧ P k := ⟨b, rfl, h⟩
theorem akt {P : Bool → Hp → Prop} (h : te σ H fun x H' => ∃ k, x = .bl k ∧ P k H') : tB te σ H P := h
theorem aiQ {P : Bool → Hp → Prop} (h : tt σ H fun c H1 => if c = true then tu σ H1 P else P false H1) : tAnd tt tu σ H P := h
theorem aku {P : Bool → Hp → Prop} (h : tt σ H fun c H1 => if c = true then P true H1 else tu σ H1 P) : tOr tt tu σ H P := h
theorem aiR {P : Bool → Hp → Prop} (h : tt σ H fun c H1 => P (!c) H1) : tNot tt σ H P := h
theorem agV (h : ta σ H fun x H1 => ∃ c, x = .bl c ∧ if c = true then tb σ H1 Q else Q (.bl false) H1) : tAndV ta tb σ H Q := h
theorem aiS (h : ta σ H fun x H1 => ∃ c, x = .bl c ∧ if c = true then Q (.bl true) H1 else tb σ H1 Q) : tOrV ta tb σ H Q := h
theorem agW (h : ta σ H fun x H1 => ∃ c, x = .bl c ∧ Q (.bl (!c)) H1) : tNotV ta σ H Q := h
theorem aiT (h : tt σ H fun c H1 => if c = true then ta σ H1 Q else tb σ H1 Q) : tIf tt ta tb σ H Q := h
theorem afQ {r r' : R2} {tc : TE} (h : ta σ H fun x H1 => tb σ H1 fun y H2 => r x y H2 fun z H3 => ∃ k, z = .bl k ∧ if k = true then tc σ H3 fun w H4 => r' y w H4 Q else Q (.bl false) H3) : tChain r r' ta tb tc σ H Q := h
theorem agX : tLst tA = fun σ H Q => tA σ H fun xs H1 => xs.length ≤ sizeLine ∧ ∀ p H2, H1 p = none → H2 = upd H1 p (.lst xs) → Q (.ref p) H2 := by
  funext σ H Q
  have e : (fun (xs : List V) (H1 : Hp) => xs.length ≤ sizeLine ∧ ∀ p, H1 p = none → Q (.ref p) (upd H1 p (.lst xs))) = fun xs H1 => xs.length ≤ sizeLine ∧ ∀ p H2, H1 p = none → H2 = upd H1 p (.lst xs) → Q (.ref p) H2 := by
    funext xs H1
    exact propext ⟨fun h => ⟨h.1, fun p H2 hp e => by rw [e]; exact h.2 p hp⟩, fun h => ⟨h.1, fun p hp => h.2 p _ hp rfl⟩⟩
  show tA σ H _ = tA σ H _
  exact congrArg (tA σ H) e
theorem agY : tTup tA = fun σ H Q => tA σ H fun xs H1 => xs.length ≤ sizeLine ∧ ∀ p H2, H1 p = none → H2 = upd H1 p (.tup xs) → Q (.ref p) H2 := by
  funext σ H Q
  have e : (fun (xs : List V) (H1 : Hp) => xs.length ≤ sizeLine ∧ ∀ p, H1 p = none → Q (.ref p) (upd H1 p (.tup xs))) = fun xs H1 => xs.length ≤ sizeLine ∧ ∀ p H2, H1 p = none → H2 = upd H1 p (.tup xs) → Q (.ref p) H2 := by
    funext xs H1
    exact propext ⟨fun h => ⟨h.1, fun p H2 hp e => by rw [e]; exact h.2 p hp⟩, fun h => ⟨h.1, fun p hp => h.2 p _ hp rfl⟩⟩
  show tA σ H _ = tA σ H _
  exact congrArg (tA σ H) e
theorem aiU (h : tA σ H fun xs H1 => xs.length ≤ sizeLine ∧ ∀ p H2, H1 p = none → H2 = upd H1 p (.lst xs) → Q (.ref p) H2) : tLst tA σ H Q := by
  rw [agX]
  exact h
theorem aiV (h : tA σ H fun xs H1 => xs.length ≤ sizeLine ∧ ∀ p H2, H1 p = none → H2 = upd H1 p (.tup xs) → Q (.ref p) H2) : tTup tA σ H Q := by
  rw [agY]
  exact h
theorem ad4 {Q : Option Int → Hp → Prop} (h : Q none H) : tNoPart σ H Q := h
theorem agZ {Q : Option Int → Hp → Prop} (h : te σ H fun x H1 => ∃ i, x = .int i ∧ Q (some i) H1) : tPart te σ H Q := h
theorem aiW {j : Int} {P : Int → Prop} (h : P j) : ∃ k, V.int j = .int k ∧ P k := ⟨j, rfl, h⟩
theorem akv {r : V → Option Int → Option Int → Hp → VK → Prop} {tl th : TO} (h : te σ H fun x H1 => tl σ H1 fun l H2 => th σ H2 fun u H3 => r x l u H3 Q) : tSl r te tl th σ H Q := h
theorem akx {T : String} {r : V → List V → Hp → VK → Prop} (h : te σ H fun x H1 => tyV K T x H1 ∧ tA σ H1 fun xs H2 => r x xs H2 Q) : tBM K T r te tA σ H Q := h
theorem aky {r : V → List V → Hp → VK → Prop} (h : ta σ H fun x H1 => (∃ a, x = .str a) ∧ tb σ H1 fun y H2 => r x [y] H2 Q) : tM1 r ta tb σ H Q := h
theorem aiX {z : Str} {P : Prop} (h : P) : (∃ a, V.str z = .str a) ∧ P := ⟨⟨z, rfl⟩, h⟩
theorem akz {g : Int → Int → V} {a b : Int} (q : Q (g a b) H) : rI0 g (.int a) (.int b) H Q := ⟨a, b, rfl, rfl, q⟩
theorem v_I {C : Int → Int → Prop} {g : Int → Int → V} {a b : Int} (c : C a b) (q : Q (g a b) H) : rI C g (.int a) (.int b) H Q := ⟨a, b, rfl, rfl, c, q⟩
theorem v_U {g : Int → V} {a : Int} (q : Q (g a) H) : rU g (.int a) H Q := ⟨a, rfl, q⟩
theorem aiY {a b : Int} (q : Q (.bl (decide (a = b))) H) : rEq (.int a) (.int b) H Q := ⟨rfl, by
  have e : decide (V.int a = V.int b) = decide (a = b) := decide_eq_decide.mpr ⟨fun h => V.int.inj h, fun h => by rw [h]⟩
  rw [e]
  exact q⟩
theorem aiZ {a b : Int} (q : Q (.bl (!decide (a = b))) H) : rNe (.int a) (.int b) H Q := ⟨rfl, by
  have e : decide (V.int a = V.int b) = decide (a = b) := decide_eq_decide.mpr ⟨fun h => V.int.inj h, fun h => by rw [h]⟩
  rw [e]
  exact q⟩
theorem ai0 {a b : Str} (q : Q (.bl (decide (a = b))) H) : rEq (.str a) (.str b) H Q := ⟨rfl, by
  have e : decide (V.str a = V.str b) = decide (a = b) := decide_eq_decide.mpr ⟨fun h => V.str.inj h, fun h => by rw [h]⟩
  rw [e]
  exact q⟩
theorem ai1 {a b : Str} (q : Q (.bl (!decide (a = b))) H) : rNe (.str a) (.str b) H Q := ⟨rfl, by
  have e : decide (V.str a = V.str b) = decide (a = b) := decide_eq_decide.mpr ⟨fun h => V.str.inj h, fun h => by rw [h]⟩
  rw [e]
  exact q⟩
theorem ai2 {p : Addr} {xs : List V} {j : Int} (s : SqL K H p xs) (a : atI xs j = some v) (q : Q v H) : rIxL K (.ref p) (.int j) H Q := ⟨p, xs, j, v, rfl, rfl, s, a, q⟩
theorem ai3 {p : Addr} {xs : List V} {j : Int} (s : SqT K H p xs) (a : atI xs j = some v) (q : Q v H) : rIxT K (.ref p) (.int j) H Q := ⟨p, xs, j, v, rfl, rfl, s, a, q⟩
theorem ai4 {z : Str} {lo hi : Option Int} (s : z.length ≤ 100000) (q : Q (.str (cutS z lo hi)) H) : rSlS (.str z) lo hi H Q := ⟨z, rfl, Nat.le_trans s (by decide), q⟩
end
def rAddS : R2 := fun x y H Q => ∃ i j, x = .str i ∧ y = .str j ∧ i.length + j.length ≤ sizeLine ∧ Q (.str (i ++ j)) H
def akA : R2 := fun x y H Q => ∃ (c : Nat) (z : Str), x = .str ⟨#[c]⟩ ∧ y = .str z ∧ Q (.bl (decide (c ∈ z.cps.toList))) H
def akB : R2 := fun x y H Q => ∃ (c : Nat) (z : Str), x = .str ⟨#[c]⟩ ∧ y = .str z ∧ Q (.bl (!decide (c ∈ z.cps.toList))) H
def ae9 (K : PySem.W.Frag) : List V → Hp → VK → Prop := fun xs H Q => ∃ p ys, xs = [.ref p] ∧ (SqL K H p ys ∨ SqT K H p ys) ∧ Q (.int ys.length) H
def rLenS : List V → Hp → VK → Prop := fun xs H Q => ∃ z : Str, xs = [.str z] ∧ z.length ≤ sizeLine ∧ Q (.int z.length) H
def afa : List V → Hp → VK → Prop := fun xs H Q => (∃ i, xs = [.int i] ∧ Q (.int i) H) ∨ ∃ k, xs = [.bl k] ∧ Q (.int (if k then 1 else 0)) H
section
variable {X : Cx}
end
section
variable {K : PySem.W.Frag} {H : Hp} {Q : VK}
theorem ag0 {a b : Str} (n : a.length + b.length ≤ 100000) (q : Q (.str (a ++ b)) H) : rAddS (.str a) (.str b) H Q := ⟨a, b, rfl, rfl, Nat.le_trans n (by decide), q⟩
theorem ai5 {c : Nat} {z : Str} (q : Q (.bl (decide (c ∈ z.cps.toList))) H) : akA (.str ⟨#[c]⟩) (.str z) H Q := ⟨c, z, rfl, rfl, q⟩
theorem ai6 {c : Nat} {z : Str} (q : Q (.bl (!decide (c ∈ z.cps.toList))) H) : akB (.str ⟨#[c]⟩) (.str z) H Q := ⟨c, z, rfl, rfl, q⟩
theorem ag1 {p : Addr} {xs : List V} (s : SqL K H p xs) (q : Q (.int xs.length) H) : ae9 K [.ref p] H Q := ⟨p, xs, rfl, .inl s, q⟩
theorem ag3 {p : Addr} {xs : List V} (s : SqT K H p xs) (q : Q (.int xs.length) H) : ae9 K [.ref p] H Q := ⟨p, xs, rfl, .inr s, q⟩
theorem ag4 {z : Str} (n : z.length ≤ 100000) (q : Q (.int z.length) H) : rLenS [.str z] H Q := ⟨z, rfl, Nat.le_trans n (by decide), q⟩
theorem ag5 {i : Int} (q : Q (.int i) H) : afa [.int i] H Q := .inl ⟨i, rfl, q⟩
theorem ag6 {b : Bool} (q : Q (.int (if b then 1 else 0)) H) : afa [.bl b] H Q := .inr ⟨b, rfl, q⟩
end
def Wl (H : Hp) (w : Addr) (n : Nat) : Prop := ∃ a b c : Int, H w = some (.lst [.int a, .int b, .int c]) ∧ 0 ≤ c ∧ c ≤ n
structure Wd (H0 H : Hp) (w : Addr) (n : Nat) (L : List (Addr × HO)) : Prop where
  wl : Wl H w n
  has : Has H L
  off : ∀ p ∈ L, p.1 ≠ w
  ext : Ext w H0 H
section
variable {H0 H H' : Hp} {w p a : Addr} {n m : Nat} {L : List (Addr × HO)} {o o' : HO}
theorem Wl.mono (h : Wl H w n) (e : n ≤ m) : Wl H w m := by
  obtain ⟨a, b, c, h1, h2, h3⟩ := h
  exact ⟨a, b, c, h1, h2, by omega⟩
theorem Wl.fresh (h : Wl H w n) (q : H p = none) : p ≠ w := by
  obtain ⟨a, b, c, h1, _⟩ := h
  exact (ne_of_none h1 q).symm
theorem Wl.new (h : Wl H w n) (q : H p = none) : Wl (upd H p o) w n := by
  obtain ⟨a, b, c, h1, h2⟩ := h
  exact ⟨a, b, c, by rw [upd_ne (ne_of_none h1 q)]; exact h1, h2⟩
theorem Wd.of (h : Wl H w n) : Wd H H w n [] := ⟨h, Has.nil, fun _ z => (nomatch z), Ext.refl⟩
theorem Wd.new (h : Wd H0 H w n L) (q : H p = none) : Wd H0 (upd H p o) w n ((p, o) :: L) :=
  ⟨h.wl.new q, h.has.new q, fun x hx => by
    rcases List.mem_cons.mp hx with rfl | hx
    · exact h.wl.fresh q
    · exact h.off x hx, h.ext.trans (Ext.new q)⟩
theorem Wd.go (h : Wd H0 H w n L) (e : Ext w H H') (q : Wl H' w m) : Wd H0 H' w m L :=
  ⟨q, ⟨fun x hx => e _ _ (h.off x hx) (h.has.1 x hx), h.has.2⟩, h.off, h.ext.trans e⟩
theorem Wd.mono (h : Wd H0 H w n L) (e : n ≤ m) : Wd H0 H w m L := ⟨h.wl.mono e, h.has, h.off, h.ext⟩
theorem Wd.at (h : Wd H0 H w n L) (i : Nat) (q : L[i]? = some (a, o)) : H a = some o := h.has.at i q
theorem Wd.ne (h : Wd H0 H w n L) (i : Nat) (q : L[i]? = some (a, o)) : a ≠ w := h.off _ (List.mem_of_getElem? q)
theorem Wd.put (h : Wd H0 H w n L) (i : Nat) (q : L[i]? = some (a, o)) (f : H0 a = none) : Wd H0 (upd H a o') w n (L.set i (a, o')) := by
  have ne : a ≠ w := h.off _ (List.mem_of_getElem? q)
  obtain ⟨x, b, c, h1, h2⟩ := h.wl
  refine ⟨⟨x, b, c, by rw [upd_ne ne.symm]; exact h1, h2⟩, h.has.put i q, fun p hp => ?_, fun y u ny hy => ?_⟩
  · rcases List.mem_or_eq_of_mem_set hp with hp | rfl
    · exact h.off p hp
    · exact ne
  · rw [upd_ne (ne_of_none hy f)]
    exact h.ext y u ny hy
theorem Wd.fresh (h : Wd H0 H w n L) (q : H p = none) (ne : p ≠ w) : H0 p = none := by
  cases e : H0 p with
  | none => rfl
  | some o =>
    rw [h.ext p o ne e] at q
    cases q
theorem Wd.fr (h : Wd H0 H w n L) (q : H p = none) : H0 p = none := h.fresh q (h.wl.fresh q)
theorem Wd.add (h : Wd H0 H w n L) (q : H a = some o) (ne : a ≠ w) (nd : ∀ p ∈ L, p.1 ≠ a) : Wd H0 H w n ((a, o) :: L) :=
  ⟨h.wl, ⟨fun x hx => by
    rcases List.mem_cons.mp hx with rfl | hx
    · exact q
    · exact h.has.1 x hx, by
    rw [List.map_cons, List.nodup_cons]
    refine ⟨fun z => ?_, h.has.2⟩
    obtain ⟨y, hy, e⟩ := List.mem_map.mp z
    exact nd y hy e⟩, fun x hx => by
    rcases List.mem_cons.mp hx with rfl | hx
    · exact ne
    · exact h.off x hx, h.ext⟩
end
section
variable {K : PySem.W.Frag} {σ : L2.St} {H : Hp} {ta : TA} {te : TE}
theorem ai7 {R : It → Hp → Prop} (h : ta σ H fun vs H1 => ∃ j : Int, vs = [.int j] ∧ -(2 ^ 62) ≤ j ∧ j < 2 ^ 62 ∧ R (Itr 0 j.toNat) H1) : iRng1 ta σ H R := h
theorem akC {R : It → Hp → Prop} (h : te σ H fun x H1 => ∃ a, x = .ref a ∧ (∃ xs, SqL K H1 a xs) ∧ R (Itl K a) H1) : iList K te σ H R := h
theorem ai8 {a : Addr} {xs : List V} {R : Addr → Prop} (s : SqL K H a xs) (h : R a) : ∃ b, V.ref a = .ref b ∧ (∃ xs, SqL K H b xs) ∧ R b := ⟨a, rfl, ⟨xs, s⟩, h⟩
theorem akD {R : It → Hp → Prop} (h : te σ H fun v H1 => ∃ x, v = .str x ∧ R (Its x) H1) : iStr te σ H R := h
theorem ai9 {z : Str} {P : Str → Prop} (h : P z) : ∃ x, V.str z = .str x ∧ P x := ⟨z, rfl, h⟩
end
section
variable {K : PySem.W.Frag} {σ : L2.St} {H : Hp} {Q : VK} {ta tb : TE} {v : V}
theorem aja {t : TSet} {P : L2.St → Hp → Prop} (h : ta σ H fun o H1 => tb σ H1 fun i H2 => t o i v H2 fun H3 => P σ H3) : gSub ta tb t v σ H P := h
theorem ag7 {p : Addr} {xs : List V} {j : Int} {k : Nat} {P : Hp → Prop} (h : H p = some (.lst xs)) (i : ixN xs.length j = some k) (q : P (upd H p (.lst (xs.set k v)))) : rSetL (.ref p) (.int j) v H P :=
  ⟨p, xs, j, k, rfl, rfl, h, i, q⟩
theorem ajb {p : Addr} {xs : List V} (h : H p = some (.lst xs)) (n : xs.length < 100000) (q : Q .non (upd H p (.lst (xs ++ [v])))) :
    rAppend (.ref p) [v] H Q :=
  ⟨p, xs, v, rfl, rfl, h, Nat.lt_of_lt_of_le n (by decide), q⟩
theorem akE {p : Addr} {xs : List V} {P : Prop} (h : H p = some (.lst xs)) (q : P) : tyV K "list" (.ref p) H ∧ P := ⟨.inl ⟨rfl, xs, .inl (.inl h)⟩, q⟩
theorem ad5 {i j : Int} (h : (decide (0 ≤ j) && decide (j ≤ 1000000) && decide (i.natAbs < 2 ^ 64)) = true) : CPow i j := by
  simp only [Bool.and_eq_true, decide_eq_true_eq] at h
  exact ⟨h.1.1, h.1.2, h.2⟩
end
theorem same_new {H : Hp} {p : Addr} {o : HO} (h : H p = none) : Same H (upd H p o) := fun a u e => by
  rw [upd_ne (ne_of_none e h)]
  exact e
theorem akF {wi : TI} {g : TG} {tt : TT} {te : TE} {vs : List Nat} {σ : L2.St} {H : Hp} {Q : VK} (h : wi σ H fun J H1 => ∀ D, H1 D = none → ∃ W : Nat → Nat → Hp → Prop, (∃ m, W 0 m (upd H1 D (.lst []))) ∧ ∀ i m H, W i m H →
    (J.stop i H ∧ Q (.ref D) H) ∨ (J.go i H ∧ ∃ Nx : Hp → Prop, (∀ H', Nx H' → ∃ m', m' < m ∧ W (i + 1) m' H') ∧ ∀ x H', J.yld i H x H' → g x (wipe σ vs) H' fun σ2 H2 => wipe σ2 vs = wipe σ vs ∧ tt σ2 H2 fun b H3 =>
      if b = true then te σ2 H3 fun y H4 => ∃ acc, H4 D = some (.lst acc) ∧ acc.length < sizeLine ∧ Nx (upd H4 D (.lst (acc ++ [y]))) else Nx H3)) : tLc wi g tt te vs σ H Q := h
theorem ajc {σ : L2.St} {H : Hp} {P : Bool → Hp → Prop} (h : P true H) : tYes σ H P := h
theorem str_len (z : Str) : z.length = z.cps.toList.length := by
  show z.cps.size = _
  simp
theorem Q5 : ∀ ps : List (List Nat), TL.joinL [] ps = ps.flatten
  | [] => rfl
  | [p] => by simp [TL.joinL]
  | p :: q :: r => by
    rw [TL.joinL, Q5 (q :: r)]
    simp
theorem aaN (ys : List Str) : (Txt.join "" ys).cps.toList = (ys.map fun y => y.cps.toList).flatten := by
  rw [TL.join_eq]
  exact (TL.tl_join "" ys).trans (Q5 _)
theorem ad6 (ys : List Str) : (Txt.join "" ys).length = (ys.map (·.length)).sum := by
  rw [str_len, aaN, List.length_flatten, List.map_map]
  rfl
theorem Uk : ∀ {ys : List Str}, (∀ y ∈ ys, y.length = 1) → (ys.map (·.length)).sum = ys.length
  | [], _ => rfl
  | y :: r, h => by
    rw [List.map_cons, List.sum_cons, h y List.mem_cons_self, Uk fun z hz => h z (List.mem_cons_of_mem _ hz), List.length_cons, Nat.add_comm]
theorem yL {J : It} {xs : List V} {G : Hp → Prop} (wk : Walk J xs.length G (YAt xs)) {g : TG} {tt : TT} {te : TE} {vs : List Nat} {σ : L2.St} {H : Hp} {D : Addr} {Qd : Hp → Prop} (hD : H D = none)
    (hG : ∀ H', Same H H' → G H') (hn : xs.length ≤ 50000) (P : V → Bool) (f : V → V)
    (step : ∀ x ∈ xs, ∀ (H' : Hp) (R : Hp → Prop) (Ra : VK), Same H H' → (P x = false → R H') → (P x = true → Ra (f x) H') →
      g x (wipe σ vs) H' fun σ2 H2 => wipe σ2 vs = wipe σ vs ∧ tt σ2 H2 fun b H3 => if b = true then te σ2 H3 Ra else R H3)
    (hd : ∀ H', Same H H' → H' D = some (.lst ((xs.filter P).map f)) → Qd H') :
    ∃ W : Nat → Nat → Hp → Prop, (∃ m, W 0 m (upd H D (.lst []))) ∧ ∀ i m H, W i m H →
      (J.stop i H ∧ Qd H) ∨ (J.go i H ∧ ∃ Nx : Hp → Prop, (∀ H', Nx H' → ∃ m', m' < m ∧ W (i + 1) m' H') ∧ ∀ x H', J.yld i H x H' → g x (wipe σ vs) H' fun σ2 H2 => wipe σ2 vs = wipe σ vs ∧ tt σ2 H2 fun b H3 =>
        if b = true then te σ2 H3 fun y H4 => ∃ acc, H4 D = some (.lst acc) ∧ acc.length < sizeLine ∧ Nx (upd H4 D (.lst (acc ++ [y]))) else Nx H3) := by
  refine lc_it wk (fun i H' => Same H H' ∧ H' D = some (.lst (((xs.take i).filter P).map f))) ⟨same_new hD, upd_same⟩ (fun i H' _ h => hG H' h.1) (fun i x H1 H2 hi hP hY => ?_) (fun H' h => hd H' h.1 (by rw [h.2, List.take_length]))
  obtain ⟨rfl, hx⟩ := hY
  obtain ⟨hs, hd1⟩ := hP
  have hx2 : xs.take (i + 1) = xs.take i ++ [x] := by rw [List.take_add_one, hx]; rfl
  refine step x (List.mem_of_getElem? hx) H2 (fun H3 => Same H H3 ∧ H3 D = some (.lst (((xs.take (i + 1)).filter P).map f))) _ hs (fun hp => ⟨hs, ?_⟩) (fun hp => ⟨_, hd1, ?_, fun a o ha => ?_, ?_⟩)
  · rw [hd1, hx2, List.filter_append]
    simp [hp]
  · rw [List.length_map]
    refine Nat.lt_of_le_of_lt (List.length_filter_le _ _) ?_
    rw [List.length_take]
    exact Nat.lt_of_le_of_lt (Nat.min_le_right _ _) (Nat.lt_of_le_of_lt hn (by decide))
  · rw [upd_ne (ne_of_none ha hD)]
    exact hs a o ha
  · rw [upd_same, hx2, List.filter_append]
    simp [hp]
def Ed (z : Str) : Prop := ∀ c ∈ z.cps.toList, c < 0x110000
theorem jB (s : String) : Ed (Str.ofString s) := by
  intro c hc
  rw [Str.ofString_eq_toList] at hc
  simp only [List.mem_map] at hc
  obtain ⟨d, _, rfl⟩ := hc
  have h := d.valid
  have h2 : d.toNat = d.val.toNat := rfl
  rw [h2]
  rcases h with h | h
  · exact Nat.lt_trans h (by decide)
  · exact h.2
theorem rO {z : Str} (h : Ed z) : PyData.strOk z = true := by
  unfold PyData.strOk
  rw [Array.all_eq_true]
  intro i hi
  exact decide_eq_true (h _ (by simp))
theorem ag8 {σ : L2.St} {H : Hp} {Q : VK} (h : ∀ p H2, H p = none → H2 = upd H p (.dK []) → Q (.ref p) H2) : tDNewK σ H Q := fun p hp => h p _ hp rfl
theorem ajd {wi : TI} {g : TG} {tb : TS} {D : Ends} {σ : L2.St} {H : Hp} (h : wi σ H fun J H1 => ∃ W : Nat → Nat → L2.St → Hp → Prop, (∃ m, W 0 m σ H1) ∧ ∀ i m σ H, W i m σ H →
  (J.stop i H ∧ D.nx σ H) ∨ (J.go i H ∧ ∃ N : L2.St → Hp → Prop, (∀ σ' H', N σ' H' → ∃ m', m' < m ∧ W (i + 1) m' σ' H') ∧ ∀ x H', J.yld i H x H' → g x σ H' fun σ2 H2 => tb { D with nx := N, ct := N, bk := D.nx } σ2 H2)) : tFor wi g tb D σ H := h
theorem Wd.same {H0 H H' : Hp} {w : Addr} {n : Nat} {L : List (Addr × HO)} (h : Wd H0 H w n L) (e : Same H H') : Wd H0 H' w n L := by
  obtain ⟨a, b, c, h1, h2⟩ := h.wl
  exact h.go (Ext.of e) ⟨a, b, c, e _ _ h1, h2⟩
theorem Has.sub {H : Hp} {L M : List (Addr × HO)} (h : Has H L) (s : M.Sublist L) : Has H M := ⟨fun p hp => h.1 p (s.subset hp), h.2.sublist (s.map _)⟩
theorem Wd.drop {H0 H : Hp} {w : Addr} {n : Nat} {L : List (Addr × HO)} (h : Wd H0 H w n L) (k : Nat) : Wd H0 H w n (L.drop k) :=
  ⟨h.wl, h.has.sub (List.drop_sublist k L), fun p hp => h.off p ((List.drop_sublist k L).subset hp), h.ext⟩
end GB
namespace GB
open PySem PySem.Spec PyProof.Rows L2
def Dn (K : PySem.W.Frag) (f : Addr) (x q : Str) (st : Stmt) (dvs : List V) (kws : List (Str × V)) : Prop :=
  ∃ fd, FunD K x q (defArgs st) (defBody st) (defScope st) dvs kws f fd
structure FO (P : Program) (w : World) (K : PySem.W.Frag) (mg : Str → Option Value) (base : Heap) (CX : CXT) (k : Nat) (f : Addr) (ps : List Str) (sp : Sp) : Prop where
  ex : ∃ fd, Binds K fd ps [] ∧ PySem.W.keepIn K (.ref f) = true ∧ FnOk P w K mg base CX k f fd ps sp
section
variable {P : Program} {w : World} {K : PySem.W.Frag} {mg : Str → Option Value} {base : Heap} {CX : CXT} {j k : Nat} {f : Addr} {x q : Str} {st : Stmt} {dvs : List V} {kws : List (Str × V)} {N ps : List Str} {sp sp' : Sp}
theorem FO.mono (c : FO P w K mg base CX j f ps sp) (h : j ≤ k) : FO P w K mg base CX k f ps sp := by
  obtain ⟨fd, b, kp, F⟩ := c.ex
  exact ⟨fd, b, kp, F.mono h⟩
theorem FO.imp (c : FO P w K mg base CX k f ps sp) (h : ∀ vs H Q E, sp' vs H Q E → sp vs H Q E) : FO P w K mg base CX k f ps sp' := by
  obtain ⟨fd, b, kp, F⟩ := c.ex
  exact ⟨fd, b, kp, F.imp h⟩
theorem FO.cal (c : FO P w K mg base CX k (He.ga K x) ps sp) (g : mg x = some (.ref (He.ga K x))) : Cal P w K mg base CX k x ps sp := by
  obtain ⟨fd, b, kp, F⟩ := c.ex
  exact ⟨⟨fd, b, kp, .ako F⟩, g⟩
abbrev afb (x q : Str) (st : Stmt) (ps : List Str) : Prop := ∀ (kV doc pm : Value) (an : Option Addr) (cdv ct : Value) (us : List Value), us.length = ps.length →
  bindArgs (PySem.W.fnOf x q (defArgs st) (defBody st) (defScope st) .none kV doc pm an cdv ct) ⟨us, []⟩ = pure (ps.zip us)
theorem Dn.fo (T : Dn K f x q st [] kws) (S : FnScope N ps (defScope st)) (hbd : afb x q st ps) (len : ∀ vs H Q E, sp vs H Q E → vs.length = ps.length)
    (hb : ∀ (cdv : Value) (A : Around) (outer : List Env) (s : Shared) (H : Hp) (vs : List V) (Q : VK) (E : XK), Room k (A.deeper (envOfC q (defScope st) s.heap.objs.size f cdv)) → sp vs H Q E →
      ∃ t, PSs (cxOf CX P w K mg base N q (defScope st) f cdv A outer s H E) (defBody st) t ∧ t { nx := fun _ H' => Q .non H', rt := Q } (start N vs) H) :
    FO P w K mg base CX (k + 1) f ps sp := by
  obtain ⟨fd, F⟩ := T
  exact ⟨fd, F.bindsN hbd, F.kp, F.ok S len hb⟩
theorem Dn.fo0 (T : Dn K f x q st [] kws) (S : FnScope N ps (defScope st)) (hbd : afb x q st ps) (len : ∀ vs H Q E, sp vs H Q E → vs.length = ps.length)
    (hb : ∀ (cdv : Value) (A : Around) (outer : List Env) (s : Shared) (H : Hp) (vs : List V) (Q : VK) (E : XK), Room k (A.deeper (envOfC q (defScope st) s.heap.objs.size f cdv)) → sp vs H Q E →
      ∃ t, PSs (cxOf CX0 P w K mg base N q (defScope st) f cdv A outer s H E).nox (defBody st) t ∧ t { nx := fun _ H' => Q .non H', rt := Q } (start N vs) H) :
    FO P w K mg base CX0 (k + 1) f ps sp := by
  refine T.fo S hbd len ?_
  intro cdv A outer s H vs Q E hr h
  obtain ⟨t, a, b⟩ := hb cdv A outer s H vs Q E hr h
  exact ⟨t, a.nox, b⟩
end
section
variable {X : Cx} {CX : CXT} {k : Nat} {f C : Addr} {ps : List Str} {sp : Sp} {E : XK} {x m : Str} {p p1 p2 pos : Pos} {e : Expr} {es : List Expr} {t : TA}
theorem ad7 {mc : Value} {pl : Sem Bool} (c : FO X.prog X.w X.K X.mg X.base CX k f ps sp) (hr : Room k X.A) (hg : Gl X x) (hm : X.mg x = some (.ref C)) (r : ClX.CRead X.K C mc) (v : ClX.CVal X.K C mc m (.ref f) (.ref f)) (hx : Passes CX X E) (ha : PA X (e :: es) t)
    (hc : eval (.Call (.Attribute (.Name x p1) m p2) (e :: es) [] pos) X.env = (do
      let ov ← eval (.Name x p1) X.env
      standAt p2.atName
      let (f, first) ← holding [ov] (getMethod ov m pl)
      callWith pos f first (backTo pos (starEach (e :: es) X.env)) (backToKw pos (keywordEach [] X.env))) := by rfl)
    (hdb : (x == ("__debug__" : Str)) = false := by decide) (he : starEach (e :: es) X.env = (false, eval e X.env) :: starEach es X.env := by rfl)
    (hpl : (backTo pos (starEach es X.env)).any (·.1) = false := by rfl) :
    PE X (.Call (.Attribute (.Name x p1) m p2) (e :: es) [] pos) (tCall sp [] E t) := by
  obtain ⟨fd, b, kp, F⟩ := c.ex
  constructor
  intro pins s σ H Q I h
  refine PySem.W.methodCall_KW (ld_glob I hg hm ?_ hdb) hc
  refine PySem.W.method_cls I.kIn r.ga (ClX.getcval_ok I r v ?_)
  intro s' J
  show wpAny _ _ (callWith pos (Value.ref f) [] (backTo pos (starEach (e :: es) X.env)) []) _ _ _
  refine PySem.W.callWith_K (h₀ := X.base) J.ok.mod.kin kp (thn (ha.run pos pins s' σ H _ J h) ?_) he hpl
  rintro us s1 ⟨vs, H1, I1, r1, q⟩
  exact ⟨I1.kIn, run_fn F hr b .nil hx I1 r1 q⟩
end
def clA (ta : TA) : TA := fun σ H Q => ∃ P : List V → Hp → Prop, ta σ H P ∧ ∀ vs H1, P vs H1 → Q vs H1
theorem PA.cl {X : Cx} {es : List Expr} {ta : TA} (h : PA X es ta) : PA X es (clA ta) := by
  constructor
  rintro pos pins s σ H Q I ⟨P, hP, imp⟩
  refine thn (h.run pos pins s σ H P I hP) ?_
  rintro us s' ⟨vs, H', I', r, q⟩
  exact ⟨vs, H', I', r, imp _ _ q⟩
def clE (te : TE) : TE := fun σ H Q => ∃ P : VK, te σ H P ∧ ∀ v H1, P v H1 → Q v H1
theorem PE.cl {X : Cx} {e : Expr} {te : TE} (h : PE X e te) : PE X e (clE te) := by
  constructor
  rintro pins s σ H Q I ⟨P, hP, imp⟩
  refine thn (h.run pins s σ H P I hP) ?_
  rintro u s' ⟨v, H', I', r, q⟩
  exact ⟨v, H', I', r, imp _ _ q⟩
def spInit (K : PySem.W.Frag) (names : List Str) (mk : List V → Option (List (Str × V))) : Sp := fun vs H Q _ => ∃ (a C : Addr) (args : List V) (fs : List (Str × V)), vs = .ref a :: args ∧ mk args = some fs ∧ OexC K C ∧
  (∀ n ∈ names, PySem.W.findIn K (.ref C) n = some none) ∧ H a = some (exo a C none) ∧ ∀ dx H', H dx = none → dx ≠ a → H' = upd (upd H dx (exd dx fs)) a (exo a C (some dx)) → Q .non H'
structure Ef (P : Program) (w : World) (K : PySem.W.Frag) (mg : Str → Option Value) (base : Heap) (k : Nat) (x : Str) (ps names : List Str) (mk : List V → Option (List (Str × V))) : Prop where
  oex : OexC K (He.ga K x)
  gl : mg x = some (.ref (He.ga K x))
  at_ : PySem.W.findIn K (.ref (He.ga K x)) "__init__" = some (some (.ref (He.ma K (He.ga K x) "__init__")))
  ty : PySem.W.typeIn K (.ref (He.ma K (He.ga K x) "__init__")) = some (.type "function")
  no : ∀ n ∈ names, PySem.W.findIn K (.ref (He.ga K x)) n = some none
  fo : FO P w K mg base CX0 k (He.ma K (He.ga K x) "__init__") ps (spInit K names mk)
theorem Ef.mono {P : Program} {w : World} {K : PySem.W.Frag} {mg : Str → Option Value} {base : Heap} {j k : Nat} {x : Str} {ps names : List Str} {mk : List V → Option (List (Str × V))} (c : Ef P w K mg base j x ps names mk) (h : j ≤ k) : Ef P w K mg base k x ps names mk :=
  ⟨c.oex, c.gl, c.at_, c.ty, c.no, c.fo.mono h⟩
def ad8 (C : Addr) (mk : List V → Option (List (Str × V))) (ta : TA) : L2.St → Hp → XK → Prop := fun σ H Q => ta σ H fun vs H1 => vs.length ≤ 1000 ∧ ∃ fs, mk vs = some fs ∧ ∀ d H2, H1 d = none → H2 = upd H1 d (.xd fs) → Q (.ref C) (some d) H2
theorem aje {X : Cx} {k : Nat} {x : Str} {ps names : List Str} {mk : List V → Option (List (Str × V))} {e : Expr} {es : List Expr} {ta : TA} {p pos : Pos} (c : Ef X.prog X.w X.K X.mg X.base k x ps names mk) (hr : Room (k + 1) X.A) (hg : Gl X x) (ha : PA X (e :: es) ta)
    (hdb : (x == ("__debug__" : Str)) = false := by decide) (he : starEach (e :: es) X.env = (false, eval e X.env) :: starEach es X.env := by rfl) (hpl : (backTo pos (starEach es X.env)).any (·.1) = false := by rfl) :
    PMk X (.Call (.Name x p) (e :: es) [] pos) (ad8 (He.ga X.K x) mk ta) := by
  obtain ⟨fd, b, kp, F⟩ := c.fo.ex
  intro pins s σ H Q I h
  refine pmk_oex c.oex c.at_ c.ty F hr b .nil (fun _ _ _ _ _ _ _ z => z.elim) hg c.gl (PA.cl ha) hdb he hpl pins s σ H Q I ?_
  refine ⟨_, h, ?_⟩
  rintro vs H1 ⟨hl, fs, hm, q⟩
  refine ⟨hl, fun a ha0 => ?_⟩
  rw [List.append_nil]
  refine ⟨a, _, vs, fs, rfl, hm, c.oex, c.no, upd_same, ?_⟩
  intro dx H' hdx hne e'
  subst e'
  have aha : H1 dx = none := by
    rw [upd_ne hne] at hdx
    exact hdx
  refine ⟨rfl, dx, fs, upd_same, ?_, aha, q dx _ aha ?_⟩
  · rw [upd_ne hne, upd_same]
  · funext b
    by_cases hb : b = dx
    · rw [hb, upd_same, upd_same]
    · rw [upd_ne hb, upd_ne hb]
      by_cases hba : b = a
      · rw [hba, del_same, ha0]
      · rw [del_ne hba, upd_ne hba, upd_ne hb, upd_ne hba]
theorem acz {X : Cx} {W : WX} {k : Nat} {x : Str} {ps names : List Str} {mk : List V → Option (List (Str × V))} {e : Expr} {es : List Expr} {ta : TA} {p pos pos2 : Pos} (c : Ef X.prog X.w X.K X.mg X.base k x ps names mk) (hr : Room (k + 1) X.A) (hc : X.calm = true) (tk : Takes X W) (hg : Gl X x) (ha : PA X (e :: es) ta)
    (hdb : (x == ("__debug__" : Str)) = false := by decide) (he : starEach (e :: es) X.env = (false, eval e X.env) :: starEach es X.env := by rfl) (hpl : (backTo pos (starEach es X.env)).any (·.1) = false := by rfl) :
    PS X (.Raise (some (.Call (.Name x p) (e :: es) [] pos)) none pos2) (fun _ σ H => ad8 (He.ga X.K x) mk ta σ H fun cls d H' => W cls d σ H') := ps_raise hc tk (aje c hr hg ha hdb he hpl)
section
variable {K : PySem.W.Frag} {σ : L2.St} {H : Hp} {Q : VK} {D : Ends} {ta : TA} {to te : TE} {a C : Addr} {f : Str}
theorem ajf (h : ta σ H fun vs H1 => ∃ (a C : Addr) (ws : List V), vs = .ref a :: ws ∧ ws.length ≤ 1000 ∧ OexC K C ∧ H1 a = some (exo a C none) ∧ Q .non H1) : tVeI K ta σ H Q := h
theorem afd (h : te σ H fun y H1 => to σ H1 fun x H2 => ∃ a C : Addr, x = .ref a ∧ OexC K C ∧ PySem.W.findIn K (.ref C) f = some none ∧
  ((H2 a = some (exo a C none) ∧ ∀ dx, H2 dx = none → dx ≠ a → D.nx σ (upd (upd H2 dx (exd dx [(f, y)])) a (exo a C (some dx)))) ∨
    ∃ (dx : Addr) (fs : List (Str × V)), H2 a = some (exo a C (some dx)) ∧ H2 dx = some (exd dx fs) ∧ fs.length ≤ 900 ∧ D.nx σ (upd H2 dx (exd dx ((f, y) :: fs))))) : tOst K f to te D σ H := h
end
end GB
namespace GB
open PySem PySem.Spec PyProof.Rows L2
def Ax (K : PySem.W.Frag) (C : Addr) : Bool := (match K.lookup C with
  | some ⟨.type "type", _, .cls cd, sl⟩ => (match cd.mro, sl.toList with
    | .ref C' :: bm, [_, _, _, _, some (.builtin n), _] => C' == C && (n == "ValueError.__new__" && (!cd.hasDel && (cd.hasDict && PySem.HandSPX.refsVE bm)))
    | _, _ => false)
  | _ => false) && (decide (PySem.W.findIn K (.ref C) "__setattr__" = some (some (.builtin "object.__setattr__"))) && (decide (PySem.W.subIn K (.ref C) (.type "BaseException") = some true) &&
    (decide (PySem.W.typeIn K (.ref C) = some (.type "type")) && PySem.W.keepIn K (.ref C))))
theorem aaO {K : PySem.W.Frag} {C : Addr} (h : Ax K C = true) : OexC K C := by
  unfold Ax at h
  obtain ⟨h1, h⟩ := Bool.and_eq_true_iff.mp h
  obtain ⟨h2, h⟩ := Bool.and_eq_true_iff.mp h
  obtain ⟨h3, h⟩ := Bool.and_eq_true_iff.mp h
  obtain ⟨h4, h5⟩ := Bool.and_eq_true_iff.mp h
  refine ⟨?_, of_decide_eq_true h2, of_decide_eq_true h3, of_decide_eq_true h4, h5⟩
  split at h1
  · rename_i dd cd sl ho
    split at h1
    · rename_i C' bm k0 k1 k2 k3 n k5 hm hs
      simp only [Bool.and_eq_true, beq_iff_eq, Bool.not_eq_true'] at h1
      obtain ⟨rfl, rfl, hd, hh, hr⟩ := h1
      obtain ⟨nm, bs, mro, ns, qn, hdd, sn, sb, ab, col, del⟩ := cd
      dsimp only at hm hd hh
      subst hm hd hh
      have hsl : sl = #[k0, k1, k2, k3, some (.builtin "ValueError.__new__"), k5] := by
        rw [← Array.toArray_toList (xs := sl), hs]
      subst hsl
      exact ⟨nm, qn, ns, bs, bm, sn, sb, ab, col, dd, k0, k1, k2, k3, k5, ho, hr⟩
    · cases h1
  · cases h1
def Tq (K : PySem.W.Frag) (C : Addr) (m : Str) (f : Addr) : Bool := PySem.W.readsIn K C (.type "type") && (decide (PySem.W.specialIn K (.ref C) "__getattribute__" = some (some (.builtin "type.__getattribute__"))) &&
  (match PySem.W.findCls K (.ref C) (.type "type") m with
  | some (.val (.ref g)) => g == f
  | _ => false))
theorem Ul {K : PySem.W.Frag} {C f : Addr} {m : Str} (h : Tq K C m f = true) : ClX.CRead K C (.type "type") ∧ ClX.CVal K C (.type "type") m (.ref f) (.ref f) := by
  unfold Tq at h
  obtain ⟨h1, h⟩ := Bool.and_eq_true_iff.mp h
  obtain ⟨h2, h3⟩ := Bool.and_eq_true_iff.mp h
  refine ⟨⟨h1, of_decide_eq_true h2⟩, ⟨?_, rfl⟩⟩
  split at h3
  · rename_i g hg
    rw [hg, beq_iff_eq.mp h3]
  · cases h3
def yX (K : PySem.W.Frag) (C : Addr) (m : Str) : Bool := decide (PySem.W.findIn K (.ref C) m = some (some (.ref (He.ma K C m)))) && decide (PySem.W.typeIn K (.ref (He.ma K C m)) = some (.type "function"))
theorem yZ {K : PySem.W.Frag} {C : Addr} {m : Str} (h : yX K C m = true) : PySem.W.findIn K (.ref C) m = some (some (.ref (He.ma K C m))) ∧ PySem.W.typeIn K (.ref (He.ma K C m)) = some (.type "function") := by
  obtain ⟨h1, h2⟩ := Bool.and_eq_true_iff.mp h
  exact ⟨of_decide_eq_true h1, of_decide_eq_true h2⟩
def Um (K : PySem.W.Frag) (C : Addr) (names : List Str) : Bool := names.all fun n => decide (PySem.W.findIn K (.ref C) n = some none)
theorem Uo {K : PySem.W.Frag} {C : Addr} {names : List Str} (h : Um K C names = true) : ∀ n ∈ names, PySem.W.findIn K (.ref C) n = some none := fun n hn => of_decide_eq_true (List.all_eq_true.mp h n hn)
def xX (K : PySem.W.Frag) (D : Addr) : Bool := decide (PySem.W.findIn K (.ref D) "__getattribute__" = some (some (.builtin "BaseException.__getattribute__"))) && (decide (PySem.W.findIn K (.ref D) "__getattr__" = some none) &&
  (decide (PySem.W.subIn K (.ref D) (.type "BaseException") = some true) && (PySem.W.hasDictIn K D && (decide (PySem.W.findIn K (.ref D) "__class__" = some (some (.builtin "object.__class__"))) &&
  (decide (PySem.W.specialIn K (.builtin "object.__class__") "__get__" = some (some (.builtin "getset_descriptor.__get__"))) && (decide (PySem.W.takesIn K (.builtin "object.__class__") = some true) && decide (PySem.W.mroIn K D (.type "object") = some true)))))))
theorem Uq {K : PySem.W.Frag} {D : Addr} (h : xX K D = true) : ExcC K D ∧ XfC K D := by
  unfold xX at h
  obtain ⟨h1, h⟩ := Bool.and_eq_true_iff.mp h
  obtain ⟨h2, h⟩ := Bool.and_eq_true_iff.mp h
  obtain ⟨h3, h⟩ := Bool.and_eq_true_iff.mp h
  obtain ⟨h4, h⟩ := Bool.and_eq_true_iff.mp h
  obtain ⟨h5, h⟩ := Bool.and_eq_true_iff.mp h
  obtain ⟨h6, h⟩ := Bool.and_eq_true_iff.mp h
  obtain ⟨h7, h8⟩ := Bool.and_eq_true_iff.mp h
  exact ⟨⟨of_decide_eq_true h1, of_decide_eq_true h2, of_decide_eq_true h3, h4, of_decide_eq_true h5, of_decide_eq_true h6, of_decide_eq_true h7, of_decide_eq_true h8⟩, ⟨of_decide_eq_true h1, of_decide_eq_true h2, of_decide_eq_true h3, h4⟩⟩
def tupB (K : PySem.W.Frag) (a : Addr) (vs : List V) : Bool := match K.lookup a with
  | some ⟨.type "tuple", _, .seq its _, _⟩ => decide (its.size ≤ 1000) && He.relAll vs its.toList
  | _ => false
theorem tupB_ok {K : PySem.W.Frag} {a : Addr} {vs : List V} (h : tupB K a vs = true) (H : Hp) : SqT K H a vs := by
  unfold tupB at h
  split at h
  · rename_i od its n sl ho
    obtain ⟨h1, h2⟩ := Bool.and_eq_true_iff.mp h
    have r := He.relAll_ok h2
    refine .inr ?_
    exact ⟨_, its, n, ho, rfl, rfl, Nat.le_trans (of_decide_eq_true h1) (by decide), r⟩
  · cases h
abbrev Ur : Type := He.AlT × Bool
def obsE (fa : List He.Fa) (fn : List He.DefD) (ts : List He.Tab) (ex : List (PySem.W.Frag → Bool)) (K : PySem.W.Frag) : Ur := (He.obsT fa fn ts K, ex.all fun f => f K)
def valE (fn : List He.DefD) (ts : List He.Tab) (w : World) : Ur := (He.valT fn ts w, true)
def SaysE (fa : List He.Fa) (fn : List He.DefD) (ts : List He.Tab) (ex : List (PySem.W.Frag → Bool)) (w : World) (K : PySem.W.Frag) : Prop := obsE fa fn ts ex K = valE fn ts w
def Ay (r : PySem.W.OpenRow) {α : Type} (ob : PySem.W.SharedT → α) (M : Nat) (v : World → α) (w : World) : Prop := ∀ os : OsState, (HandSHeadRun.endF (HandSHeadRun.stepQ (HandSHeadRun.denQ HandSHeadRun.tabQ) r.prog w) M r.prog w os).map ob = some (v w)
theorem Ay.row {r : PySem.W.OpenRow} {α : Type} {ob : PySem.W.SharedT → α} {M : Nat} {v : World → α} (hf : ∀ w : World, Ay r ob M v (w.withFollow "special-get-raises" false)) (ht : ∀ w : World, Ay r ob M v (w.withFollow "special-get-raises" true)) (w : World) : Ay r ob M v w :=
  PySem.W.byRow2 "special-get-raises" (P := fun w => Ay r ob M v w) hf ht w
theorem Ay.map {r : PySem.W.OpenRow} {α β : Type} {ob : PySem.W.SharedT → α} {oc : PySem.W.SharedT → β} {M : Nat} {v : World → α} {u : World → β} {w : World} (h : Ay r ob M v w) (f : ∀ s, ob s = v w → oc s = u w) : Ay r oc M u w := by
  intro os
  have a := h os
  cases e : HandSHeadRun.endF (HandSHeadRun.stepQ (HandSHeadRun.denQ HandSHeadRun.tabQ) r.prog w) M r.prog w os with
  | none =>
    rw [e] at a
    cases a
  | some s =>
    rw [e] at a
    show some (oc s) = _
    rw [f s (Option.some.inj a)]
abbrev Part : Type := List He.Fa × List He.DefD × List (PySem.W.Frag → Bool)
def Us (ps : List Part) (w : World) : List Ur := ps.map fun p => valE p.2.1 [] w
abbrev AlP : Type := Ur × List Ur
structure afe (fa : List He.Fa) (ts : List He.Tab) (ps : List Part) (w : World) (K : PySem.W.Frag) : Prop where
  b : SaysE fa [] ts [] w K
  p : ∀ (i : Nat) (q : Part), ps[i]? = some q → SaysE q.1 q.2.1 [] q.2.2 w K
section
variable {fa : List He.Fa} {fn : List He.DefD} {ts : List He.Tab} {ex : List (PySem.W.Frag → Bool)} {w : World} {K : PySem.W.Frag}
theorem SaysE.t (c : SaysE fa fn ts ex w K) : He.SaysT fa fn ts w K := congrArg (fun z : Ur => z.1) c
theorem SaysE.x (c : SaysE fa fn ts ex w K) (i : Nat) {f : PySem.W.Frag → Bool} (h : ex[i]? = some f := by rfl) : f K = true := by
  have c1 : (ex.all fun f => f K) = true := congrArg (fun z : Ur => z.2) c
  exact List.all_eq_true.mp c1 f (List.mem_of_getElem? h)
end
end GB
namespace GB
open PySem PySem.Spec PyProof.Rows L2
def za (K : PySem.W.Frag) (C : Addr) : Bool := decide (PySem.W.findIn K (.ref C) "__class__" = some (some (.builtin "object.__class__"))) && (decide (PySem.W.specialIn K (.builtin "object.__class__") "__get__" = some (some (.builtin "getset_descriptor.__get__"))) &&
  (decide (PySem.W.takesIn K (.builtin "object.__class__") = some true) && decide (PySem.W.mroIn K C (.type "object") = some true)))
theorem aaP {K : PySem.W.Frag} {H : Hp} {a C dx : Addr} {fs : List (Str × V)} (h : za K C = true) (cl : Cls K C) (e : H a = some (.ins C dx fs)) : TyX K H (.ref a) (.ref C) := by
  unfold za at h
  obtain ⟨h1, h⟩ := Bool.and_eq_true_iff.mp h
  obtain ⟨h2, h⟩ := Bool.and_eq_true_iff.mp h
  obtain ⟨h3, h4⟩ := Bool.and_eq_true_iff.mp h
  exact .base (.ins e cl (of_decide_eq_true h1) (of_decide_eq_true h2) (of_decide_eq_true h3) (of_decide_eq_true h4))
def veB (K : PySem.W.Frag) : Bool := match PySem.W.findCls K (.type "ValueError") (.type "type") "__init__" with
  | some (.val (.builtin n)) => n == "ValueError.__init__"
  | _ => false
theorem ahb {K : PySem.W.Frag} (h : veB K = true) : PySem.W.findCls K (.type "ValueError") (.type "type") "__init__" = some (.val (.builtin "ValueError.__init__")) := by
  unfold veB at h
  split at h
  · rename_i n hn
    rw [hn, beq_iff_eq.mp h]
  · cases h
end GB
noncomputable section
namespace HP
open PySem PySem.W PySem.Calls PyProof.Rows
def acA : List Stmt → Env → Sem Flow := PySem.W.Fast.tw12563942051412417395
theorem acB : @PySem.execs = acA := PySem.W.Fast.te12563942051412417395
abbrev Q6 (p : Program) (w : World) : SharedT → Thread → Option (SharedT × Thread) := HandSHeadRun.stepQ (HandSHeadRun.denQ HandSHeadRun.tabQ) p w
theorem Gp (p : Program) (w : World) : stepT (denote treeTable) p w = Q6 p w := by
  unfold Q6
  rw [HandSHeadRun.stepQ_eq, HandSHeadRun.denQ_eq, HandSHeadRun.tabQ_eq]
section
variable (st : SharedT → Thread → Option (SharedT × Thread)) (n0 : Nat) (ann : Option Value)
def PL : Nat → SharedT → Thread → Option (Flow × SharedT × Code × Pos)
  | 0, _, _ => none
  | m + 1, s, t => match endAt 1 t with
    | some f => some (f, s, t.code, t.pos)
    | none => match stepOk n0 ann t with
      | false => none
      | true => match st s t with
        | some (s', t') => HandSHeadRun.frS s' fun s' => PL m s' t'
        | none => none
def goP : Nat → SharedT → Thread → Option (SharedT × Thread)
  | 0, s, t => some (s, t)
  | m + 1, s, t => match through t with
    | true => none
    | false => match stepOk n0 ann t with
      | false => none
      | true => match st s t with
        | some (s', t') => HandSHeadRun.frS s' fun s' => goP m s' t'
        | none => none
end
theorem PN {tb : String → Option Builtin} {p : Program} {w : World} {n0 : Nat} {ann : Option Value} : ∀ (m : Nat) (s : SharedT) (t : Thread), PL (stepT (denote tb) p w) n0 ann m s t = segRunT tb p w n0 ann 1 m s t
  | 0, _, _ => rfl
  | m + 1, s, t => by
    unfold PL segRunT
    cases endAt 1 t with
    | some f => rfl
    | none =>
      cases stepOk n0 ann t with
      | false => rfl
      | true =>
        cases h : stepT (denote tb) p w s t with
        | none => rfl
        | some r =>
          dsimp only
          rw [HandSHeadRun.frS_eq]
          exact PN m r.1 r.2
theorem acC {tb : String → Option Builtin} {p : Program} {w : World} {n0 : Nat} {ann : Option Value} : ∀ {m : Nat} {s s' : SharedT} {t t' : Thread}, goP (stepT (denote tb) p w) n0 ann m s t = some (s', t') → topGo tb p w n0 ann m s.abs t = some (s'.abs, t')
  | 0, s, s', t, t', h => by
    have h1 : some (s, t) = some (s', t') := h
    cases h1
    rfl
  | m + 1, s, s', t, t', h => by
    unfold goP at h
    unfold topGo
    cases h1 : through t with
    | true => rw [h1] at h; cases h
    | false =>
      rw [h1] at h
      cases h2 : stepOk n0 ann t with
      | false => rw [h2] at h; cases h
      | true =>
        rw [h2] at h
        cases h3 : stepT (denote tb) p w s t with
        | none => rw [h3] at h; cases h
        | some r =>
          rw [h3] at h
          dsimp only at h
          rw [HandSHeadRun.frS_eq] at h
          rw [stepT_spec h3]
          exact acC h
section
variable {p : Program} {w : World} {n0 : Nat} {ann : Option Value} {env : Env} {q : Pos} {c : Code} {pos pos' : Pos} {s s' : SharedT} {r : Shared} {n N i m : Nat} {b : List Stmt}
def Piece (p : Program) (w : World) (n0 : Nat) (ann : Option Value) (env : Env) (q : Pos) (c : Code) (b : List Stmt) (i m n : Nat) (s s' : SharedT) (pos pos' : Pos) : Prop :=
  PL (Q6 p w) n0 ann n s ⟨(acA ((b.drop i).take m) env).wrap doneF deadEnd id id, c, pos, [topFrame q]⟩ = some (.next, s', c, pos')
theorem Piece.app (h : Piece p w n0 ann env q c b i m n s s' pos pos') (k : topRun treeTable p w n0 ann N s'.abs (restOf (b.drop (i + m)) env c pos' [topFrame q]) = some r) :
    topRun treeTable p w n0 ann (n + N) s.abs (restOf (b.drop i) env c pos [topFrame q]) = some r := by
  unfold Piece at h
  rw [← Gp, PN, ← acB] at h
  have e : b.drop i = (b.drop i).take m ++ b.drop (i + m) := by
    rw [← List.drop_drop, List.take_append_drop]
  rw [e]
  exact piece_app (segRun_of h) k
theorem abC (hl : b.length ≤ i) (k : HandSHeadRun.goF (Q6 p w) n0 ann N s ⟨doneF .next, c, pos, [topFrame q]⟩ = some s') : topRun treeTable p w n0 ann N s.abs (restOf (b.drop i) env c pos [topFrame q]) = some s'.abs := by
  rw [List.drop_of_length_le hl]
  rw [← Gp] at k
  exact piece_nil (HandSHeadRun.goF_ok k)
theorem block_start (h : PL (Q6 p w) n0 ann n s (blockOf b env c pos [topFrame q]) = some (.next, s', c, pos')) (k : topRun treeTable p w n0 ann N s'.abs (restOf (b.drop 0) env c pos' [topFrame q]) = some r) :
    topRun treeTable p w n0 ann (n + N) s.abs ⟨denote treeTable (.body b env), c, pos, [topFrame q]⟩ = some r := by
  rw [← Gp, PN] at h
  exact piece_block (segRun_of h) k
def Cy (p : Program) (w : World) (os : OsState) (n : Nat) (r : SharedT × Thread) : Prop := (match HandSHeadRun.putAll (boot_heap w.params).objs.toList .nil 0 with
  | some (t, k) => HandSHeadRun.frNat k fun k => goP (Q6 p w) k (HandSHeadRun.bootAnn w) n (HandSHeadRun.bootT w os (t, k)) (topStub p)
  | none => none) = some r
theorem Cy.top {os : OsState} {t : Thread} (h : Cy p w os n (s, t)) (k : topRun treeTable p w (boot_heap w.params).objs.size (HandSHeadRun.bootAnn w) N s.abs t = some r) :
    topRun treeTable p w (boot_heap w.params).objs.size (HandSHeadRun.bootAnn w) (n + N) ⟨boot_heap w.params, #[], boot_drawn, boot_toks, os⟩ (topStub p) = some r := by
  unfold Cy at h
  cases e : HandSHeadRun.putAll (boot_heap w.params).objs.toList .nil 0 with
  | none => rw [e] at h; cases h
  | some x =>
    obtain ⟨T, j⟩ := x
    rw [e] at h
    dsimp only at h
    rw [HandSHeadRun.frNat_eq, ← Gp] at h
    have hh := HandSHeadRun.putAll_heap e
    have hj : (boot_heap w.params).objs.size = j := by
      rw [← hh]
      exact absHeap_size T j _
    have g := acC h
    have eb : (HandSHeadRun.bootT w os (T, j)).abs = ⟨boot_heap w.params, #[], boot_drawn, boot_toks, os⟩ := by
      show (⟨absHeap T j (boot_heap w.params).life, #[], boot_drawn, boot_toks, os⟩ : Shared) = _
      rw [hh]
    rw [eb] at g
    rw [← hj] at g
    exact go_top g k
end
structure Ends (p q : Program) (loose : List PySem.Str) (Xt : Shared → Bool) {α : Type} (Yf : Shared → α) (Ya : World → α) (M : Nat) (w : World) (os : OsState) (s : SharedT) : Prop where
  run : topRun treeTable p w (boot_heap w.params).objs.size (HandSHeadRun.bootAnn w) M ⟨boot_heap w.params, #[], boot_drawn, boot_toks, os⟩ (topStub p) = some s.abs
  looks : HandSHeadRun.looksF p (boot_heap w.params) s.abs = true
  seen : HandSHeadRun.seenQ q loose (importedModules p.main.body) Xt s.abs = openGood q loose
  says : Yf s.abs = Ya w
theorem afR {p q : Program} {loose : List PySem.Str} {Xt : Shared → Bool} {α : Type} {Yf : Shared → α} {Ya : World → α} {M : Nat} (e : opening p = plainProg p.main.scope.names) (f : ∀ s, fenceModules? p s = some s)
    (h : ∀ w os, ∃ s, Ends p q loose Xt Yf Ya M w os s) : LeftO p q loose Xt Yf Ya (M + 600) true := by
  intro w
  obtain ⟨⟨hp, gs, dr, tk, os⟩, a, a'⟩ := Option.map_eq_some_iff.mp (boot_open (N := M + 600) e (Nat.ble_eq_true_of_le (by omega)) f w)
  obtain ⟨rfl, rfl, rfl, rfl⟩ : hp = boot_heap w.params ∧ gs = Array.mk [] ∧ dr = boot_drawn ∧ tk = boot_toks := by simpa using a'
  obtain ⟨s, E⟩ := h w os
  have r := topRun_mono 600 _ _ _ _ E.run
  have t : topFrom treeTable p w (M + 600) ⟨boot_heap w.params, Array.mk [], boot_drawn, boot_toks, os⟩ = some s.abs := by
    unfold topFrom
    dsimp only
    rw [HandSHeadRun.boot_ns]
    show Option.bind (topRun treeTable p w (boot_heap w.params).objs.size (HandSHeadRun.bootAnn w) (M + 600) ⟨boot_heap w.params, #[], boot_drawn, boot_toks, os⟩ (topStub p)) _ = some s.abs
    rw [r]
    have l := E.looks
    unfold HandSHeadRun.looksF at l
    show (match staticsOk (importedModules p.main.body) (boot_heap w.params) s.abs.heap && namesBound p s.abs.heap && gensDone s.abs && laidKept (boot_heap w.params) s.abs.heap with | true => some s.abs | false => none) = some s.abs
    rw [l]
  have sn := E.seen
  rw [← HandSHeadRun.seenQ_eq] at sn
  unfold openEnds
  rw [a]
  show Option.map _ (topFrom treeTable p w (M + 600) _) = _
  rw [t]
  exact congrArg some (Prod.ext sn E.says)
theorem head {r : OpenRow} {q : Program} {H : Hook} {M : Nat} {loose : List PySem.Str} {d : DefRec} {kwd : List (PySem.Str × PySem.Expr)}
    (e : opening r.prog = plainProg r.prog.main.scope.names) (f : ∀ s, fenceModules? r.prog s = some s) (h : ∀ w os, ∃ s, Ends r.prog q loose (fun s => xlAt q [] s && recOk r.toRowW.records s) H.obs H.val M w os s)
    (hdef : defOf q r.name = some (d, kwd)) (hp : r.prog.theDef r.name = some (d.params, d.body, d.scope)) (hk : kwWritten? d.params.kwonlyargs d.params.kw_defaults = some kwd)
    (hwr : (!r.writes || r.records.isEmpty) = true) (k1 : r.wellSaid = true) (ok : (chainsOk q && opensWell r.prog && (frees r.toRowW && r.within.isEmpty)) = true) (hb : r.prog.bare) (hw : r.toRowW.promised)
    (call : WalkO q loose (XL q []) H.says r.toRowW d kwd fun f vs => PySem.call f vs) : r.Holds :=
  holds_open (r := r) (q := q) (loose := loose) (XP := XL q []) (YP := H.says) (d := d) (kwd := kwd) (afR e f h) H.of H.keeps (fun s z => xl_of s (Bool.and_eq_true_iff.mp z).1) XL.keeps hdef hp hk
    (fun s z => recFacts_of (Bool.and_eq_true_iff.mp z).2) hwr k1 ok hb hw call
end HP
end
namespace PD
open PySem PySem.Spec PyProof.Rows L2
def keyB (K : PySem.W.Frag) (a : Addr) (ks : List Str) : Bool := match K.lookup a with
  | some ⟨_, _, .dict es _, _⟩ => es.toList.all fun e => !e.refKey && ks.any fun k => e.key.isStr k
  | _ => false
inductive Tv where
  | int (i : Int) | str (x : Str) | tup (l : List Tv)
mutual
def P0 (K : PySem.W.Frag) : Value → Tv → Bool
  | u, .int i => match u with
    | .int j _ => decide (j = i)
    | _ => false
  | u, .str x => match u with
    | .str y _ => decide (y = x)
    | _ => false
  | u, .tup l => match u with
    | .ref b => (match K.lookup b with
      | some ⟨.type "tuple", _, .seq its _, _⟩ => decide (its.size ≤ 1000) && Ut K its.toList l
      | _ => false)
    | _ => false
def Ut (K : PySem.W.Frag) : List Value → List Tv → Bool
  | us, [] => us.isEmpty
  | us, t :: ts => match us with
    | u :: us => P0 K u t && Ut K us ts
    | [] => false
end
def ad9 (K : PySem.W.Frag) (a : Addr) (kvs : List (Str × Tv)) : Bool := kvs.all fun q => match PySem.W.nsIn K a q.1 with
  | some (some u) => P0 K u q.2
  | _ => false
def yw (K : PySem.W.Frag) : List DictEntry → List (Int × Str) → Bool
  | [], [] => true
  | e :: es, q :: qs => (match e.key with
      | .int i _ => decide (i = q.1)
      | _ => false) && decide (e.hash = hashInt q.1) && decide (e.val = .ref (He.ga K q.2)) && yw K es qs
  | _, _ => false
def afi (K : PySem.W.Frag) (x : Str) (qs : List (Int × Str)) : Bool := match K.lookup (He.ga K x) with
  | some ⟨.type "dict", none, .dict es _, sl⟩ => decide (sl = #[]) && !(He.ga K x == sysModules) && yw K es.toList qs
  | _ => false
end PD
namespace HP
open PySem PySem.W PySem.Calls PyProof.Rows
theorem afS {p q : Program} {loose : List PySem.Str} {Xt : Shared → Bool} {α : Type} {Yf : Shared → α} {Ya : World → α} {M0 : Nat} {w : World} {os : OsState} {s : SharedT}
    (h : ∃ M, M ≤ M0 ∧ topRun treeTable p w (boot_heap w.params).objs.size (HandSHeadRun.bootAnn w) M ⟨boot_heap w.params, #[], boot_drawn, boot_toks, os⟩ (topStub p) = some s.abs)
    (h1 : HandSHeadRun.looksF p (boot_heap w.params) s.abs = true) (h2 : HandSHeadRun.seenQ q loose (importedModules p.main.body) Xt s.abs = openGood q loose) (h3 : Yf s.abs = Ya w) : ∃ s, Ends p q loose Xt Yf Ya M0 w os s := by
  obtain ⟨M, hM, h⟩ := h
  obtain ⟨k, hk⟩ := Nat.exists_eq_add_of_le hM
  refine ⟨s, ?_, h1, h2, h3⟩
  rw [hk]
  exact topRun_mono k _ _ _ _ h
def aea (as : List Addr) (fa : List He.Fa) (ts : List He.Tab) (ps : List GB.Part) (g : Addr → Option Obj) : GB.AlP := (GB.obsE fa [] ts [] (He.frG g as), ps.map fun p => GB.obsE p.1 p.2.1 [] p.2.2 (He.frG g as))
def abD (as : List Addr) (fa : List He.Fa) (ts : List He.Tab) (ps : List GB.Part) : PySem.W.Hook where
  α := GB.AlP
  obs := fun s => aea as fa ts ps s.heap.get?
  val := fun w => (GB.valE [] ts w, GB.Us ps w)
  says := fun w h => ∃ K : PySem.W.Frag, K.In h ∧ GB.afe fa ts ps w K
  of := fun w s e => by
    have e1 : GB.obsE fa [] ts [] (He.frG s.heap.get? as) = GB.valE [] ts w := congrArg Prod.fst e
    have e2 : (ps.map fun p => GB.obsE p.1 p.2.1 [] p.2.2 (He.frG s.heap.get? as)) = ps.map fun p => GB.valE p.2.1 [] w := congrArg Prod.snd e
    refine ⟨_, He.frG_in, e1, fun i q hq => ?_⟩
    have e3 := congrArg (fun l => l[i]?) e2
    rw [List.getElem?_map, List.getElem?_map, hq] at e3
    exact Option.some.inj e3
  keeps := fun _ _ _ ⟨K, hK, c⟩ k => ⟨K, PySem.W.Frag.In.keeps hK k, c⟩
theorem aeb {as : List Addr} {fa : List He.Fa} {ts : List He.Tab} {ps : List GB.Part} {s : SharedT} {w : World} {K : PySem.W.Frag} (hK : He.frG (HandSHeadRun.getT s) as = K) (hb : GB.obsE fa [] ts [] K = GB.valE [] ts w) (hq : (ps.map fun p => GB.obsE p.1 p.2.1 [] p.2.2 K) = GB.Us ps w) :
    (abD as fa ts ps).obs s.abs = (abD as fa ts ps).val w := by
  have e : s.abs.heap.get? = HandSHeadRun.getT s := funext fun a => (HandSHeadRun.getT_eq s a).symm
  show aea as fa ts ps s.abs.heap.get? = (GB.valE [] ts w, GB.Us ps w)
  unfold aea
  rw [e, hK, hb, hq]
end HP
namespace GB
open PySem PySem.Spec PyProof.Rows L2
mutual
inductive Im (K : PySem.W.Frag) (H : Hp) : V → PyData → Prop
  | non : Im K H .non .none
  | bl (b : Bool) : Im K H (.bl b) (.bool b)
  | int (i : Int) : Im K H (.int i) (.int i)
  | str (z : Str) : Im K H (.str z) (.str z)
  | tup {a : Addr} {xs : List V} {ds : List PyData} : SqT K H a xs → iz K H xs ds → Im K H (.ref a) (.tuple ds)
inductive iz (K : PySem.W.Frag) (H : Hp) : List V → List PyData → Prop
  | nil : iz K H [] []
  | cons {v : V} {vs : List V} {d : PyData} {ds : List PyData} : Im K H v d → iz K H vs ds → iz K H (v :: vs) (d :: ds)
end
structure Kp (H H' : Hp) : Prop where
  tup : ∀ a xs, H a = some (.tup xs) → H' a = some (.tup xs)
  frz : ∀ a o u, H a = some (.frz o u) → H' a = some (.frz o u)
section
variable {K : PySem.W.Frag} {H H' H2 : Hp}
theorem Kp.refl : Kp H H := ⟨fun _ _ h => h, fun _ _ _ h => h⟩
theorem Kp.trans (a : Kp H H') (b : Kp H' H2) : Kp H H2 := ⟨fun x y h => b.tup x y (a.tup x y h), fun x y z h => b.frz x y z (a.frz x y z h)⟩
theorem Kp.same (s : Same H H') : Kp H H' := ⟨fun a _ h => s a _ h, fun a _ _ h => s a _ h⟩
theorem Kp.new {p : Addr} {o : HO} (h : H p = none) : Kp H (upd H p o) := .same (same_new h)
theorem Kp.put {p : Addr} {o u : HO} (h : H p = some u) (m : Mut (some u)) : Kp H (upd H p o) := by
  refine ⟨fun a xs e => ?_, fun a ob x e => ?_⟩
  · have ne : a ≠ p := fun z => by
      rw [z, h] at e
      cases e
      exact m
    rw [upd_ne ne]
    exact e
  · have ne : a ≠ p := fun z => by
      rw [z, h] at e
      cases e
      exact m
    rw [upd_ne ne]
    exact e
theorem Kp.ext {w : Addr} {u : HO} (e : Ext w H H') (h : H w = some u) (m : Mut (some u)) : Kp H H' := by
  refine ⟨fun a xs q => e a _ (fun z => ?_) q, fun a ob x q => e a _ (fun z => ?_) q⟩
  · rw [z, h] at q
    cases q
    exact m
  · rw [z, h] at q
    cases q
    exact m
theorem Kp.sq (k : Kp H H') {a : Addr} {xs : List V} (h : SqT K H a xs) : SqT K H' a xs := by
  rcases h with (h | ⟨o, h⟩) | h
  · exact .inl (.inl (k.tup _ _ h))
  · exact .inl (.inr ⟨o, k.frz _ _ _ h⟩)
  · exact .inr h
mutual
theorem Im.kp (k : Kp H H') : ∀ {v : V} {d : PyData}, Im K H v d → Im K H' v d
  | _, _, .non => .non
  | _, _, .bl b => .bl b
  | _, _, .int i => .int i
  | _, _, .str z => .str z
  | _, _, .tup h a => .tup (k.sq h) (iz.kp k a)
theorem iz.kp (k : Kp H H') : ∀ {vs : List V} {ds : List PyData}, iz K H vs ds → iz K H' vs ds
  | _, _, .nil => .nil
  | _, _, .cons a b => .cons (Im.kp k a) (iz.kp k b)
end
mutual
theorem Im.dp : ∀ {v : V} {d : PyData}, Im K H v d → Dp K H v d
  | _, _, .non => .non
  | _, _, .bl b => .bl b
  | _, _, .int i => .int i
  | _, _, .str z => .str z
  | _, _, .tup h a => .tup h (iz.dp a)
theorem iz.dp : ∀ {vs : List V} {ds : List PyData}, iz K H vs ds → DpAll K H vs ds
  | _, _, .nil => .nil
  | _, _, .cons a b => .cons (Im.dp a) (iz.dp b)
end
theorem iz.length : ∀ {vs : List V} {ds : List PyData}, iz K H vs ds → vs.length = ds.length
  | _, _, .nil => rfl
  | _, _, .cons _ b => by rw [List.length_cons, List.length_cons, iz.length b]
theorem iz.get : ∀ {vs : List V} {ds : List PyData} {i : Nat} {v : V}, iz K H vs ds → vs[i]? = some v → ∃ d, ds[i]? = some d ∧ Im K H v d
  | _, _, _, _, .nil, e => by cases e
  | _, _, 0, _, .cons a _, e => by
    cases e
    exact ⟨_, rfl, a⟩
  | _, _, i + 1, _, .cons _ b, e => by
    rw [List.getElem?_cons_succ] at e
    obtain ⟨d, h1, h2⟩ := iz.get b e
    exact ⟨d, by rw [List.getElem?_cons_succ]; exact h1, h2⟩
theorem iz.app : ∀ {vs us : List V} {ds es : List PyData}, iz K H vs ds → iz K H us es → iz K H (vs ++ us) (ds ++ es)
  | _, _, _, _, .nil, b => b
  | _, _, _, _, .cons a r, b => .cons a (iz.app r b)
def isTup : PyData → Bool
  | .tuple _ => true
  | _ => false
def isRef : V → Bool
  | .ref _ => true
  | _ => false
theorem Im.ref : ∀ {v : V} {d : PyData}, Im K H v d → isRef v = isTup d
  | _, _, .non => rfl
  | _, _, .bl _ => rfl
  | _, _, .int _ => rfl
  | _, _, .str _ => rfl
  | _, _, .tup _ _ => rfl
end
mutual
def cnt : PyData → Nat
  | .tuple ds => 1 + acD ds
  | _ => 0
def acD : List PyData → Nat
  | [] => 0
  | d :: r => cnt d + acD r
end
mutual
def dep : PyData → Nat
  | .tuple ds => 1 + acE ds
  | _ => 0
def acE : List PyData → Nat
  | [] => 0
  | d :: r => max (dep d) (acE r)
end
mutual
def sz : PyData → Nat
  | .tuple ds => 1 + afj ds
  | _ => 1
def afj : List PyData → Nat
  | [] => 0
  | d :: r => sz d + afj r
end
theorem Paired.len {α β : Type} {F : α → β → Prop} : ∀ {l : List α} {m : List β}, Paired F l m → l.length = m.length
  | _, _, .nil => rfl
  | _, _, .cons _ t => by rw [List.length_cons, List.length_cons, Paired.len t]
theorem Paired.snoc {α β : Type} {F : α → β → Prop} {a : α} {b : β} (h : F a b) : ∀ {l : List α} {m : List β}, Paired F l m → Paired F (l ++ [a]) (m ++ [b])
  | _, _, .nil => .cons h .nil
  | _, _, .cons r t => .cons r (Paired.snoc h t)
theorem Uu {J : It} {xs : List V} {G : Hp → Prop} (wk : Walk J xs.length G (YAt xs)) {g : TG} {tt : TT} {te : TE} {vs : List Nat} {σ : L2.St} {H : Hp} {D : Addr} {Qd : Hp → Prop} (hD : H D = none)
    (hG : ∀ H', Same H H' → G H') (hn : xs.length ≤ 50000) (P : V → Bool) (E : Hp → V → V → Prop) (hE : ∀ H1 H2 x y, Kp H1 H2 → E H1 x y → E H2 x y)
    (step : ∀ x ∈ xs, ∀ (H' : Hp) (R : Hp → Prop) (Ra : VK), Same H H' → (P x = false → ∀ H'', Same H' H'' → R H'') → (P x = true → ∀ y H'', Same H' H'' → E H'' x y → Ra y H'') →
      g x (wipe σ vs) H' fun σ2 H2 => wipe σ2 vs = wipe σ vs ∧ tt σ2 H2 fun b H3 => if b = true then te σ2 H3 Ra else R H3)
    (hd : ∀ H' ys, Same H H' → H' D = some (.lst ys) → Paired (E H') (xs.filter P) ys → Qd H') :
    ∃ W : Nat → Nat → Hp → Prop, (∃ m, W 0 m (upd H D (.lst []))) ∧ ∀ i m H, W i m H →
      (J.stop i H ∧ Qd H) ∨ (J.go i H ∧ ∃ Nx : Hp → Prop, (∀ H', Nx H' → ∃ m', m' < m ∧ W (i + 1) m' H') ∧ ∀ x H', J.yld i H x H' → g x (wipe σ vs) H' fun σ2 H2 => wipe σ2 vs = wipe σ vs ∧ tt σ2 H2 fun b H3 =>
        if b = true then te σ2 H3 fun y H4 => ∃ acc, H4 D = some (.lst acc) ∧ acc.length < sizeLine ∧ Nx (upd H4 D (.lst (acc ++ [y]))) else Nx H3) := by
  refine lc_it wk (fun i H' => Same H H' ∧ ∃ ys, H' D = some (.lst ys) ∧ Paired (E H') ((xs.take i).filter P) ys) ⟨same_new hD, [], upd_same, .nil⟩ (fun i H' _ h => hG H' h.1) (fun i x H1 H2 hi hP hY => ?_) (fun H' h => ?_)
  · obtain ⟨rfl, hx⟩ := hY
    obtain ⟨hs, ys, hd1, hp1⟩ := hP
    have hx2 : xs.take (i + 1) = xs.take i ++ [x] := by rw [List.take_add_one, hx]; rfl
    have hlen : ys.length ≤ 50000 := by
      rw [← Paired.len hp1]
      refine Nat.le_trans (List.length_filter_le _ _) ?_
      rw [List.length_take]
      omega
    refine step x (List.mem_of_getElem? hx) H2 (fun H3 => Same H H3 ∧ ∃ ys, H3 D = some (.lst ys) ∧ Paired (E H3) ((xs.take (i + 1)).filter P) ys) _ hs (fun hp H3 s3 => ⟨hs.trans s3, ys, s3 _ _ hd1, ?_⟩) (fun hp y H3 s3 e3 => ⟨ys, s3 _ _ hd1, Nat.lt_of_le_of_lt hlen (by decide), fun a o ha => ?_, ys ++ [y], upd_same, ?_⟩)
    · rw [hx2, List.filter_append, List.filter_cons, if_neg (by rw [hp]; exact Bool.false_ne_true), List.filter_nil, List.append_nil]
      exact Paired.mapP hp1 fun a b z => hE _ _ _ _ (.same s3) z
    · rw [upd_ne (ne_of_none ha hD)]
      exact s3 a o (hs a o ha)
    · rw [hx2, List.filter_append, List.filter_cons, if_pos hp, List.filter_nil]
      have kp : Kp H3 (upd H3 D (.lst (ys ++ [y]))) := Kp.put (s3 _ _ hd1) trivial
      exact Paired.snoc (hE _ _ _ _ kp e3) (Paired.mapP hp1 fun a b z => hE _ _ _ _ ((Kp.same s3).trans kp) z)
  · obtain ⟨hs, ys, hd1, hp1⟩ := h
    rw [List.take_length] at hp1
    exact hd H' ys hs hd1 hp1
end GB
namespace GB
open PySem PySem.Spec PyProof.Rows L2
def afk (K : PySem.W.Frag) (w : World) (td ty tx : TE) : TE := fun σ H Q => td σ H fun x H1 => ∃ a es n, x = .ref a ∧ KDict K w a es n ∧ ty σ H1 fun y H2 => tx σ H2 fun z H3 => ∃ (k : Str), y = .str k ∧
  ((∃ u v, PySem.W.nsIn K a k = some (some u) ∧ RelV v u ∧ Q v H3) ∨ (PySem.W.nsIn K a k = some none ∧ Q z H3))
theorem afT {X : Cx} {o e f : Expr} {apos cpos : Pos} {td ty tx : TE} (ho : PE X o td) (he : PE X e ty) (hf : PE X f tx) (m : M2 X o "get" apos e f cpos) : PE X (.Call (.Attribute o "get" apos) [e, f] [] cpos) (afk X.K X.w td ty tx) := by
  refine ⟨fun pins s σ H Q I h => ?_⟩
  refine wpAny_Call_method m.base m.few m.line PySem.F.plainAttrs_dict PySem.F.slot_dict_get PySem.F.type_dict_get (thn (ho.run pins s σ H _ I h) fun u s1 ⟨x, H1, I1, rx, a, es, n, ex, D, q1⟩ => ?_)
  subst ex
  obtain rfl : u = Value.ref a := rx
  refine ⟨kd_type D I1, fun b hb => ?_, ?_⟩
  · cases hb
    exact ⟨_, I1.kIn a _ D.at_, rfl⟩
  rw [m.trees]
  refine Calls.callWith_builtin rfl (Calls.evalArgs_plain (Calls.spliced_cons (thn (he.run pins s1 σ H1 _ I1 q1) fun iv s2 ⟨y, H2, I2, ry, q2⟩ =>
    Calls.spliced_cons (thn (hf.run pins s2 σ H2 _ I2 q2) fun fv s3 ⟨z, H3, I3, rz, k, ek, q3⟩ => Calls.spliced_nil ?_))))
  subst ek
  obtain ⟨t, rfl⟩ := (show ∃ t, iv = Value.str k t from ry)
  refine call_meetsIn PySem.F.slot_dict_get (kd_type D I3) PySem.F.entry_dict_get (PySem.F.args_dict_get_3 _ _ _) (meets_dict_get_default (PySem.strKind X.prog X.w) a (PySem.strKind_is X.prog X.w k t) D.low fv) ⟨_, PySem.W.mapOf_K (prog := X.prog) I3.kIn D.at_ D.lit, ?_⟩
  rcases q3 with ⟨u, v, e1, r1, q⟩ | ⟨e1, q⟩
  · rw [PySem.W.find_K D.at_ e1]
    exact ⟨v, H3, I3.tok _, r1, q⟩
  · rw [PySem.W.find_K D.at_ e1]
    exact ⟨z, H3, I3.tok _, rz, q⟩
def tCallS (i : Nat) (S : Addr → Sp → Prop) (E : XK) (t : TA) : TE := fun σ H Q => ∃ f sp, σ[i]? = some (some (.ref f)) ∧ S f sp ∧ t σ H fun vs H1 => sp vs H1 Q E
section
variable {X : Cx} {CX : CXT} {k i : Nat} {f C : Addr} {ps : List Str} {sp : Sp} {E : XK} {x m : Str} {p pos apos : Pos} {e o : Expr} {es : List Expr} {ta : TE} {t : TA}
def tMethS (S : Addr → Prop) (m : Str) (sp : Sp) (E : XK) (ta : TE) (t : TA) : TE := fun σ H Q => ta σ H fun x H1 => ∃ a C dx fs, x = .ref a ∧ S C ∧ H1 a = some (.ins C dx fs) ∧ fs.lookup m = none ∧ t σ H1 fun vs H2 => sp (x :: vs) H2 Q E
end
structure FOd (P : Program) (w : World) (K : PySem.W.Frag) (mg : Str → Option Value) (base : Heap) (CX : CXT) (k : Nat) (f : Addr) (x q : Str) (st : Stmt) (kws : List (Str × V)) (ps : List Str) (sp : Sp) : Prop where
  ex : ∃ fd, FunD K x q (defArgs st) (defBody st) (defScope st) [] kws f fd ∧ FnOk P w K mg base CX k f fd ps sp
section
variable {P : Program} {w : World} {K : PySem.W.Frag} {mg : Str → Option Value} {base : Heap} {CX : CXT} {j k : Nat} {f : Addr} {x q : Str} {st : Stmt} {dvs : List V} {kws : List (Str × V)} {N ps : List Str} {sp sp' : Sp}
theorem FOd.mono (c : FOd P w K mg base CX j f x q st kws ps sp) (h : j ≤ k) : FOd P w K mg base CX k f x q st kws ps sp := by
  obtain ⟨fd, F, G⟩ := c.ex
  exact ⟨fd, F, G.mono h⟩
end
section
variable {X : Cx} {CX : CXT} {k : Nat} {f C : Addr} {ps : List Str} {sp : Sp} {E : XK} {x y q : Str} {st : Stmt} {kwd : List (Str × V)} {p pos apos : Pos} {e o : Expr} {es : List Expr} {t tk : TA} {kws : List Keyword}
end
theorem Tp.dn {K : PySem.W.Frag} {mg : Str → Option Value} {x : Str} {st : Stmt} {dvs : List V} {kws : List (Str × V)} (T : Tp K mg x st dvs kws) : Dn K (He.ga K x) x x st dvs kws := T.ex
theorem Dn.foD {P : Program} {w : World} {K : PySem.W.Frag} {mg : Str → Option Value} {base : Heap} {CX : CXT} {k : Nat} {f : Addr} {x q : Str} {st : Stmt} {dvs : List V} {kws : List (Str × V)} {N ps : List Str} {sp : Sp}
    (T : Dn K f x q st dvs kws) (S : FnScope N ps (defScope st)) (hd : dvs ≠ [])
    (hbd : ∀ (T : Addr) (kV doc pm : Value) (an : Option Addr) (cdv ct : Value) (us its : List Value), us.length = ps.length → its.length = dvs.length →
      ∃ k, bindArgs (PySem.W.fnOf x q (defArgs st) (defBody st) (defScope st) (.ref T) kV doc pm an cdv ct) ⟨us, []⟩ = seqItems? (.ref T) >>= k ∧ k (some its.toArray) = pure (ps.zip us))
    (len : ∀ vs H Q E, sp vs H Q E → vs.length = ps.length)
    (hb : ∀ (cdv : Value) (A : Around) (outer : List Env) (s : Shared) (H : Hp) (vs : List V) (Q : VK) (E : XK), Room k (A.deeper (envOfC q (defScope st) s.heap.objs.size f cdv)) → sp vs H Q E →
      ∃ t, PSs (cxOf CX P w K mg base N q (defScope st) f cdv A outer s H E) (defBody st) t ∧ t { nx := fun _ H' => Q .non H', rt := Q } (start N vs) H) :
    FO P w K mg base CX (k + 1) f ps sp := by
  obtain ⟨fd, F⟩ := T
  obtain ⟨ds, v, b⟩ := F.binds1 (ps := ps) ps.length dvs.length hd (by omega) (fun T kV doc pm an cdv ct us its h1 h2 => by
    obtain ⟨k, e1, e2⟩ := hbd T kV doc pm an cdv ct us its h1 h2
    refine ⟨k, e1, ?_⟩
    rw [e2, List.drop_of_length_le (by omega), List.append_nil])
  rw [List.drop_of_length_le (Nat.le_refl _)] at v
  cases v
  exact ⟨fd, b, F.kp, F.ok S len hb⟩
theorem Dn.akG {P : Program} {w : World} {K : PySem.W.Frag} {mg : Str → Option Value} {base : Heap} {k : Nat} {f : Addr} {x q : Str} {st : Stmt} {dvs : List V} {kws : List (Str × V)} {N ps : List Str} {sp : Sp}
    (T : Dn K f x q st dvs kws) (S : FnScope N ps (defScope st)) (hd : dvs ≠ [])
    (hbd : ∀ (T : Addr) (kV doc pm : Value) (an : Option Addr) (cdv ct : Value) (us its : List Value), us.length = ps.length → its.length = dvs.length →
      ∃ k, bindArgs (PySem.W.fnOf x q (defArgs st) (defBody st) (defScope st) (.ref T) kV doc pm an cdv ct) ⟨us, []⟩ = seqItems? (.ref T) >>= k ∧ k (some its.toArray) = pure (ps.zip us))
    (len : ∀ vs H Q E, sp vs H Q E → vs.length = ps.length)
    (hb : ∀ (cdv : Value) (A : Around) (outer : List Env) (s : Shared) (H : Hp) (vs : List V) (Q : VK) (E : XK), Room k (A.deeper (envOfC q (defScope st) s.heap.objs.size f cdv)) → sp vs H Q E →
      ∃ t, PSs (cxOf CX0 P w K mg base N q (defScope st) f cdv A outer s H E).nox (defBody st) t ∧ t { nx := fun _ H' => Q .non H', rt := Q } (start N vs) H) :
    FO P w K mg base CX0 (k + 1) f ps sp := by
  refine T.foD S hd hbd len ?_
  intro cdv A outer s H vs Q E hr h
  obtain ⟨t, a, b⟩ := hb cdv A outer s H vs Q E hr h
  exact ⟨t, a.nox, b⟩
end GB
namespace GB
open PySem PySem.Spec PyProof.Rows L2
inductive Slot
  | work | name | num | many | mark
  deriving DecidableEq
def slots (w : Str) : Option (List Slot) :=
  if w = "skip" then some [] else if w = "tell" then some [.num] else if w = "add" then some [.name, .num] else if w = "when" then some [.name, .num] else if w = "then" then some [.work, .work]
  else if w = "times" then some [.work, .many] else if w = "fail" then some [.name] else if w = "try" then some [.work, .work, .mark] else if w = "hold" then some [.name, .work]
  else if w = "behind" then some [.work, .work] else if w = "mask" then some [.work] else if w = "open" then some [.work] else if w = "room" then some [.work] else if w = "fork" then some [.name, .work]
  else if w = "kill" then some [.name] else if w = "wait" then some [.name] else if w = "get" then some [.name] else if w = "give" then some [.name] else none
def aec : Str := "abcdefghijklmnopqrstuvwxyz"
def nameS (z : Str) : Bool := decide (1 ≤ z.length) && decide (z.length ≤ 8) && z.cps.toList.all fun c => decide (c ∈ aec.cps.toList)
def afl : PyData → Bool
  | .str z => nameS z
  | _ => false
def acF (lo hi : Int) : PyData → Bool
  | .int i => decide (lo ≤ i) && decide (i ≤ hi)
  | _ => false
def akH : PyData → Bool := acF (1 - 10 ^ 40) (10 ^ 40 - 1)
def ajg : PyData → Bool := acF 0 1000
def markD : PyData → Bool
  | .none => true
  | d => afl d
def ajh : Slot → PyData → Bool
  | .work, _ => true
  | .name, d => afl d
  | .num, d => akH d
  | .many, d => ajg d
  | .mark, d => markD d
def Uv : List Slot → List PyData → Bool
  | [], [] => true
  | s :: ss, d :: ds => ajh s d && Uv ss ds
  | _, _ => false
mutual
def shp : PyData → Bool
  | .tuple (.str w :: ds) => match slots w with
    | some ss => Uv ss ds && acG ss ds
    | none => false
  | _ => false
def acG : List Slot → List PyData → Bool
  | [], [] => true
  | s :: ss, d :: ds => (match s with | .work => shp d | _ => true) && acG ss ds
  | _, _ => false
end
def waiting (w : Str) : Bool := decide (w ∈ (["when", "wait", "hold", "room"] : List Str))
def setting (w : Str) (i : Nat) (h o : Bool) : Bool × Bool :=
  if w = "mask" then (true, h) else if w = "open" then (o, o) else if w = "behind" then (if i = 0 then (h, o) else (true, true)) else if w = "fork" then (false, false) else (h, o)
mutual
def waits : PyData → Bool → Bool → Bool
  | .tuple (.str w :: ds), h, o => (h && waiting w) || Uw w 0 ds h o
  | _, _, _ => false
def Uw (w : Str) : Nat → List PyData → Bool → Bool → Bool
  | _, [], _, _ => false
  | i, d :: r, h, o => (isTup d && waits d (setting w i h o).1 (setting w i h o).2) || Uw w (i + 1) r h o
end
def refuse (d : PyData) : Option Str := if 60 < cnt d then some "parts" else if 12 < dep d then some "deep" else if waits d false false = true then some "waits" else none
mutual
def why : PyData → Option Str
  | .tuple (.str w :: ds) => match slots w with
    | some ss => if ss.length = ds.length then (match Ux ss ds with
      | some r => some r
      | none => if Uv ss ds = true then refuse (.tuple (.str w :: ds)) else some "kind") else some "kind"
    | none => some "kind"
  | _ => some "kind"
def Ux : List Slot → List PyData → Option Str
  | s :: ss, d :: ds => match s with
    | .work => (match why d with
      | some r => some r
      | none => Ux ss ds)
    | _ => Ux ss ds
  | _, _ => none
end
theorem ahd {K : PySem.W.Frag} {H : Hp} {a : Addr} {xs : List V} (h : SqT K H a xs) : TyX K H (.ref a) (.type "tuple") := by
  rcases h with (h | ⟨o, h⟩) | ⟨o, its, n, h, c, _⟩
  · exact .base (.tup h)
  · exact .fTuple h
  · exact .kTuple h c
def tyD : PyData → String
  | .none => "NoneType"
  | .bool _ => "bool"
  | .int _ => "int"
  | .str _ => "str"
  | .tuple _ => "tuple"
  | .list _ => "list"
  | .dict _ => "dict"
theorem Im.ty {K : PySem.W.Frag} {H : Hp} : ∀ {v : V} {d : PyData}, Im K H v d → TyX K H v (.type (tyD d))
  | _, _, .non => .base .non
  | _, _, .bl b => .base (.bl b)
  | _, _, .int i => .base (.int i)
  | _, _, .str z => .base (.str z)
  | _, _, .tup h _ => ahd h
section
variable {K : PySem.W.Frag} {σ : L2.St} {H : Hp} {Q : VK} {D : Ends} {ta tk : TA} {te to tx : TE} {a : Addr}
theorem akI {R : It → Hp → Prop} (h : te σ H fun x H1 => ∃ a, x = .ref a ∧ (∃ xs, SqT K H1 a xs) ∧ R (Itt K a) H1) : iTup K te σ H R := h
theorem aji {a : Addr} {xs : List V} {R : Addr → Prop} (s : SqT K H a xs) (h : R a) : ∃ b, V.ref a = .ref b ∧ (∃ xs, SqT K H b xs) ∧ R b := ⟨a, rfl, ⟨xs, s⟩, h⟩
theorem ajj {r : List V → List V → Hp → VK → Prop} (h : ta σ H fun vs H1 => tk σ H1 fun zs H2 => r vs zs H2 Q) : tCKw r ta tk σ H Q := h
theorem akJ {C : Addr} {sp : Sp} {dvs : List V} {E : XK} (h : ta σ H fun vs H1 => ∀ x dx, H1 x = none → H1 dx = none → dx ≠ x → sp (.ref x :: (vs ++ dvs)) (upd (upd H1 dx (.own x)) x (.ins C dx [])) (fun v H2 => v = .non ∧ Q (.ref x) H2) E) : tMake C sp dvs E ta σ H Q := h
theorem ajk {C : Addr} {n m : Nat} {sp : Sp} {gV : List V → List V → List V} {E : XK} (h : ta σ H fun vs H1 => tk σ H1 fun zs H2 => vs.length = n ∧ zs.length = m ∧ ∀ x dx, H2 x = none → H2 dx = none → dx ≠ x → sp (gV (.ref x :: vs) zs) (upd (upd H2 dx (.own x)) x (.ins C dx [])) (fun v H3 => v = .non ∧ Q (.ref x) H3) E) : tMakeK C n m sp gV E ta tk σ H Q := h
theorem afU {S : Addr → Prop} {m : Str} {sp : Sp} {E : XK} (h : te σ H fun x H1 => ∃ a C dx fs, x = .ref a ∧ S C ∧ H1 a = some (.ins C dx fs) ∧ fs.lookup m = none ∧ ta σ H1 fun vs H2 => sp (x :: vs) H2 Q E) : tMethS S m sp E te ta σ H Q := h
theorem ajl {C : Addr} {mk : List V → Option (List (Str × V))} {Q : XK} (h : ta σ H fun vs H1 => vs.length ≤ 1000 ∧ ∃ fs, mk vs = some fs ∧ ∀ d H2, H1 d = none → H2 = upd H1 d (.xd fs) → Q (.ref C) (some d) H2) : ad8 C mk ta σ H Q := h
theorem ajm {f : Str} (h : te σ H fun x H1 => ∃ a C dx fs v, x = .ref a ∧ H1 a = some (.ins C dx fs) ∧ Cls K C ∧ NoAttr K C f ∧ fs.lookup f = some v ∧ Q v H1) : tFld K te f σ H Q := h
theorem ahe {f : Str} (h : tx σ H fun y H1 => te σ H1 fun x H2 => ∃ a C dx fs, x = .ref a ∧ H2 a = some (.ins C dx fs) ∧ Cls K C ∧ NoAttr K C f ∧ fs.length < 1000 ∧ D.nx σ (upd H2 a (.ins C dx (putF f y fs)))) : sFld K te tx f D σ H := h
theorem afV {i : Nat} {S : Addr → Sp → Prop} {E : XK} (h : ∃ f sp, σ[i]? = some (some (.ref f)) ∧ S f sp ∧ ta σ H fun vs H1 => sp vs H1 Q E) : tCallS i S E ta σ H Q := h
theorem ahf {w : World} (h : te σ H fun x H1 => ∃ a es n, x = .ref a ∧ KDict K w a es n ∧ to σ H1 fun y H2 => tx σ H2 fun z H3 => ∃ (k : Str), y = .str k ∧
  ((∃ u v, PySem.W.nsIn K a k = some (some u) ∧ RelV v u ∧ Q v H3) ∨ (PySem.W.nsIn K a k = some none ∧ Q z H3))) : afk K w te to tx σ H Q := h
theorem same_upd {H H' : Hp} {p : Addr} {o : HO} (s : Same H H') (h : H' p = none) : Same H (upd H' p o) := s.trans (same_new h)
end
def isB : V → Bool
  | .bl _ => true
  | _ => false
def NL (H1 H2 : Hp) : Prop := ∀ a o, H1 a = some o → (∀ xs, o ≠ .lst xs) → H2 a = some o
theorem NL.kp {H1 H2 : Hp} (n : NL H1 H2) : Kp H1 H2 := ⟨fun a xs h => n a _ h (fun _ e => by cases e), fun a o u h => n a _ h (fun _ e => by cases e)⟩
theorem NL.same {H1 H2 : Hp} (s : Same H1 H2) : NL H1 H2 := fun a o h _ => s a o h
theorem NL.trans {H1 H2 H3 : Hp} (a : NL H1 H2) (b : NL H2 H3) : NL H1 H3 := fun x o h n => b x o (a x o h n) n
theorem NL.refl {H1 : Hp} : NL H1 H1 := fun _ _ h _ => h
theorem NL.put {H : Hp} {p : Addr} {xs : List V} {o : HO} (h : H p = some (.lst xs)) : NL H (upd H p o) := fun a u e n => by
  have ne : a ≠ p := fun z => by
    rw [z, h] at e
    cases e
    exact n xs rfl
  rw [upd_ne ne]
  exact e
def aed (K : PySem.W.Frag) (H : Hp) (y : V) (p : PyData × Bool × Bool) : Prop := ∃ t x, y = .ref t ∧ H t = some (.tup [x, .bl p.2.1, .bl p.2.2]) ∧ Im K H x p.1
theorem aed.nl {K : PySem.W.Frag} {H H' : Hp} {y : V} {p : PyData × Bool × Bool} (n : NL H H') (h : aed K H y p) : aed K H' y p := by
  obtain ⟨t, x, rfl, h1, h2⟩ := h
  exact ⟨t, x, rfl, n _ _ h1 (fun _ e => by cases e), h2.kp n.kp⟩
theorem ajn {α : Type} {x : α} {xr : List α} : atI (x :: xr) 0 = some x := by
  unfold atI ixN
  rw [if_pos (by decide), if_pos (by rw [List.length_cons]; omega)]
  rfl
theorem Paired.at {α β : Type} {F : α → β → Prop} : ∀ {l : List α} {m : List β} {i : Nat} {a : α} {b : β}, Paired F l m → l[i]? = some a → m[i]? = some b → F a b
  | _, _, _, _, _, .nil, h, _ => by cases h
  | _, _, 0, _, _, .cons r _, h1, h2 => by
    cases h1
    cases h2
    exact r
  | _, _, i + 1, _, _, .cons _ t, h1, h2 => by
    rw [List.getElem?_cons_succ] at h1 h2
    exact Paired.at t h1 h2
end GB
namespace GB
open PySem PySem.Spec PyProof.Rows L2
structure ahg (newId : String) (bmB : List Value) (K : PySem.W.Frag) (C : Addr) : Prop where
  lay : ∃ nm q N bs bm sn sub ab col dd k0 k1 k2 k3 k5, K.lookup C = some (excClassObj nm q C N bs bm true sn sub ab col dd k0 k1 k2 k3 k5 newId) ∧ PySem.W.excTail bmB bm = true
  ov : PySem.W.excOver K C bmB = true
  st : PySem.W.findIn K (.ref C) "__setattr__" = some (some (.builtin "object.__setattr__"))
  be : PySem.W.subIn K (.ref C) (.type "BaseException") = some true
  ty : PySem.W.typeIn K (.ref C) = some (.type "type")
  kp : PySem.W.keepIn K (.ref C) = true
section
open Builtin Builtin.ObjectAttr
variable {prog : Program} {w : World} {A : Around} {R : Result → Shared → Prop} {hp : Heap} {g : Array GenState} {d : Drawn} {t : Nat} {os : OsState} {B newId initId : String} {bmB : List Value}
end
section
variable {X : Cx} {pins : List (Addr × Obj)} {σ : L2.St} {H : Hp} {s : Shared} {a C dx : Addr} {f : Str} {y : V} {u : Value} {E : Value → Shared → Prop} {A : Around} {B newId initId : String} {bmB : List Value}
end
section
variable {X : Cx} {o e : Expr} {es : List Expr} {to te : TE} {ta : TA} {f x : Str} {p p' p1 p2 pos : Pos} {B newId initId : String} {bmB : List Value}
end
def ahh (newId : String) (bmB : List Value) (K : PySem.W.Frag) (names : List Str) (mk : List V → Option (List (Str × V))) : Sp := fun vs H Q _ => ∃ (a C : Addr) (args : List V) (fs : List (Str × V)), vs = .ref a :: args ∧ mk args = some fs ∧ ahg newId bmB K C ∧
  (∀ n ∈ names, PySem.W.findIn K (.ref C) n = some none) ∧ H a = some (exo a C none) ∧ ∀ dx H', H dx = none → dx ≠ a → H' = upd (upd H dx (exd dx fs)) a (exo a C (some dx)) → Q .non H'
structure ExG (newId : String) (bmB : List Value) (P : Program) (w : World) (K : PySem.W.Frag) (mg : Str → Option Value) (base : Heap) (k : Nat) (x : Str) (ps names : List Str) (mk : List V → Option (List (Str × V))) : Prop where
  cl : ahg newId bmB K (He.ga K x)
  here : mg x = some (.ref (He.ga K x))
  ini : PySem.W.findIn K (.ref (He.ga K x)) "__init__" = some (some (.ref (He.ma K (He.ga K x) "__init__")))
  fn : PySem.W.typeIn K (.ref (He.ma K (He.ga K x) "__init__")) = some (.type "function")
  no : ∀ n ∈ names, PySem.W.findIn K (.ref (He.ga K x)) n = some none
  fo : FO P w K mg base CX0 k (He.ma K (He.ga K x) "__init__") ps (ahh newId bmB K names mk)
section
variable {X : Cx} {x : Str} {k : Nat} {ps names : List Str} {mk : List V → Option (List (Str × V))} {e : Expr} {es : List Expr} {ta : TA} {p pos pos2 : Pos} {B newId initId : String} {bmB : List Value}
end
end GB
namespace cY
open PySem PySem.Spec PyProof.Rows L2
def top (i : Nat) : Stmt := PySem.Challenge.pw_givenback_k22_kills_seen_and_landed.main.body.getD i (.Pass ⟨0, 0, 0, 0⟩)
abbrev oX : Stmt := top 7
abbrev o7 : Stmt := top 8
abbrev nJ : Stmt := top 9
abbrev lA : Stmt := top 12
abbrev o8 : Stmt := top 13
abbrev qK : Stmt := top 14
abbrev jC : Stmt := top 15
abbrev qL : Stmt := top 16
abbrev iH : Stmt := top 18
abbrev o9 : Stmt := top 25
abbrev u9 : Stmt := top 26
abbrev nM : Stmt := top 27
abbrev pq : Stmt := top 28
abbrev pA : Stmt := top 29
abbrev tW : Stmt := top 30
abbrev xY : Stmt := top 31
abbrev vf : Stmt := top 32
abbrev lC : Stmt := top 33
abbrev lD : Stmt := top 34
abbrev lE : Stmt := top 35
abbrev vQ : Stmt := top 36
abbrev tX : Stmt := top 37
abbrev rZ : Stmt := top 38
abbrev j6 : Stmt := top 39
abbrev nO : Stmt := top 43
abbrev sU : Stmt := top 44
abbrev sV : Stmt := top 45
abbrev uM : Stmt := top 46
abbrev qM : Stmt := top 47
abbrev sW : Stmt := top 48
abbrev mU : Stmt := top 49
abbrev lF : Stmt := top 50
abbrev j7 : Stmt := top 51
abbrev tM : Stmt := top 52
abbrev sX : Stmt := top 53
abbrev uN : Stmt := top 54
abbrev sY : Stmt := top 55
abbrev qZ : Stmt := top 56
abbrev lG : Stmt := inClass (top 1) 0
abbrev pO : Stmt := inClass (top 3) 0
abbrev nQ : Stmt := inClass (top 24) 0
abbrev jD : Stmt := inClass (top 41) 0
abbrev nU : Stmt := inClass (top 41) 1
abbrev lH : Stmt := inClass (top 41) 2
abbrev g8 : Stmt := inClass (top 41) 3
abbrev gJ : Stmt := inClass (top 41) 4
abbrev qF : Stmt := inClass (top 41) 5
abbrev lJ : Stmt := inClass (top 41) 6
abbrev lK : Stmt := inClass (top 41) 7
abbrev qN : Stmt := inClass (top 41) 8
abbrev qO : Stmt := inClass (top 41) 9
abbrev jO : Stmt := inClass (top 41) 10
theorem zf : FnScope ["thing", "sign"] ["thing"] (defScope oX) := ⟨rfl, rfl, rfl, by decide +kernel, rfl, by decide +kernel, by decide +kernel⟩
theorem aau : FnScope ["thing", "least", "most"] ["thing", "least", "most"] (defScope o7) := ⟨rfl, rfl, rfl, by decide +kernel, rfl, by decide +kernel, by decide +kernel⟩
theorem Uy : FnScope ["thing"] ["thing"] (defScope nJ) := ⟨rfl, rfl, rfl, by decide +kernel, rfl, by decide +kernel, by decide +kernel⟩
theorem RJ : FnScope ["thing"] ["thing"] (defScope lA) := ⟨rfl, rfl, rfl, by decide +kernel, rfl, by decide +kernel, by decide +kernel⟩
theorem aav : FnScope ["thing"] ["thing"] (defScope o8) := ⟨rfl, rfl, rfl, by decide +kernel, rfl, by decide +kernel, by decide +kernel⟩
theorem abE : FnScope ["kind", "thing"] ["kind", "thing"] (defScope qK) := ⟨rfl, rfl, rfl, by decide +kernel, rfl, by decide +kernel, by decide +kernel⟩
theorem pP : FnScope ["thing", "kinds", "kind", "part"] ["thing"] (defScope jC) := ⟨rfl, rfl, rfl, by decide +kernel, rfl, by decide +kernel, by decide +kernel⟩
theorem abF : FnScope ["row"] ["row"] (defScope qL) := ⟨rfl, rfl, rfl, by decide +kernel, rfl, by decide +kernel, by decide +kernel⟩
theorem jP : FnScope ["things", "cells", "name", "many", "worth"] ["things", "cells"] (defScope iH) := ⟨rfl, rfl, rfl, by decide +kernel, rfl, by decide +kernel, by decide +kernel⟩
theorem yx : FnScope ["rows", "word", "is_so"] ["rows"] (defScope o9) := ⟨rfl, rfl, rfl, by decide +kernel, rfl, by decide +kernel, by decide +kernel⟩
theorem wg : FnScope ["watch", "task", "row", "wrong", "home"] ["watch", "task", "row"] (defScope nM) := ⟨rfl, rfl, rfl, by decide +kernel, rfl, by decide +kernel, by decide +kernel⟩
theorem rP : FnScope ["watch", "task", "row", "other", "over", "own", "unwinds"] ["watch", "task", "row"] (defScope pq) := ⟨rfl, rfl, rfl, by decide +kernel, rfl, by decide +kernel, by decide +kernel⟩
theorem Eh : FnScope ["watch", "task", "row", "lives"] ["watch", "task", "row"] (defScope pA) := ⟨rfl, rfl, rfl, by decide +kernel, rfl, by decide +kernel, by decide +kernel⟩
theorem RK : FnScope ["watch", "task", "row"] ["watch", "task", "row"] (defScope lC) := ⟨rfl, rfl, rfl, by decide +kernel, rfl, by decide +kernel, by decide +kernel⟩
theorem RL : FnScope ["watch", "task", "row"] ["watch", "task", "row"] (defScope lD) := ⟨rfl, rfl, rfl, by decide +kernel, rfl, by decide +kernel, by decide +kernel⟩
theorem RM : FnScope ["watch", "task", "row"] ["watch", "task", "row"] (defScope lE) := ⟨rfl, rfl, rfl, by decide +kernel, rfl, by decide +kernel, by decide +kernel⟩
theorem iI : FnScope ["watch", "task", "row", "outlives", "keeps", "rows", "right", "one"] ["watch", "task", "row"] (defScope j6) := ⟨rfl, rfl, rfl, by decide +kernel, rfl, by decide +kernel, by decide +kernel⟩
theorem Uz : FnScope ["_law_script", "_law_k"] ["_law_script", "_law_k"] (defScope nO) := ⟨rfl, rfl, rfl, by decide +kernel, rfl, by decide +kernel, by decide +kernel⟩
theorem acH : FnScope ["_law_cell"] ["_law_cell"] (defScope sU) := ⟨rfl, rfl, rfl, by decide +kernel, rfl, by decide +kernel, by decide +kernel⟩
theorem xZ : FnScope ["_law_well_here", "_law_many", "_law_number", "_law_digit"] ["_law_well_here", "_law_many"] (defScope sV) := ⟨rfl, rfl, rfl, by decide +kernel, rfl, by decide +kernel, by decide +kernel⟩
theorem aee : FnScope ["_law_well_here", "_law_some"] ["_law_well_here", "_law_some"] (defScope uM) := ⟨rfl, rfl, rfl, by decide +kernel, rfl, by decide +kernel, by decide +kernel⟩
theorem yc : FnScope ["_law_well_here", "_law_letters", "_law_k"] ["_law_well_here"] (defScope qM) := ⟨rfl, rfl, rfl, by decide +kernel, rfl, by decide +kernel, by decide +kernel⟩
theorem acI : FnScope ["_law_name"] ["_law_name"] (defScope sW) := ⟨rfl, rfl, rfl, by decide +kernel, rfl, by decide +kernel, by decide +kernel⟩
theorem yC : FnScope ["_law_tasks", "_law_number", "_law_later", "_law_task_here"] ["_law_tasks", "_law_number"] (defScope mU) := ⟨rfl, rfl, rfl, by decide +kernel, rfl, by decide +kernel, by decide +kernel⟩
theorem mH : FnScope ["_law_tasks", "_law_row_here", "_law_ended", "_law_word_here", "_law_by", "_law_number", "_law_own"] ["_law_tasks", "_law_row_here"] (defScope lF) := ⟨rfl, rfl, rfl, by decide +kernel, rfl, by decide +kernel, by decide +kernel⟩
theorem tY : FnScope ["_law_tasks", "_law_row_here", "_law_task_here", "_law_one_here"] ["_law_tasks", "_law_row_here"] (defScope j7) := ⟨rfl, rfl, rfl, by decide +kernel, rfl, by decide +kernel, by decide +kernel⟩
theorem wj : FnScope ["_law_tasks", "_law_row_here", "_law_some", "_law_task_here", "_law_one_here"] ["_law_tasks", "_law_row_here"] (defScope tM) := ⟨rfl, rfl, rfl, by decide +kernel, rfl, by decide +kernel, by decide +kernel⟩
theorem acJ : FnScope ["_law_tasks", "_law_row_here"] ["_law_tasks", "_law_row_here"] (defScope sX) := ⟨rfl, rfl, rfl, by decide +kernel, rfl, by decide +kernel, by decide +kernel⟩
theorem Eu : FnScope ["_law_well_here", "_law_many", "_law_word_here", "_law_number"] ["_law_well_here", "_law_many"] (defScope uN) := ⟨rfl, rfl, rfl, by decide +kernel, rfl, by decide +kernel, by decide +kernel⟩
theorem Q7 : FnScope ["_law_watch", "_law_row_here", "e"] ["_law_watch", "_law_row_here"] (defScope sY) := ⟨rfl, rfl, rfl, by decide +kernel, rfl, by decide +kernel, by decide +kernel⟩
theorem pQ : FnScope ["_law_script", "_law_well_here", "_law_names", "_law_watch", "_law_tasks", "_law_k", "_law_ahead", "_law_cell", "_law_teller", "_law_row_here", "_law_why"] ["_law_script"] (defScope qZ) := ⟨rfl, rfl, rfl, by decide +kernel, rfl, by decide +kernel, by decide +kernel⟩
theorem Ea : FnScope ["self", "why"] ["self", "why"] (defScope lG) := ⟨rfl, rfl, rfl, by decide +kernel, rfl, by decide +kernel, by decide +kernel⟩
theorem Qa : FnScope ["self", "at", "why"] ["self", "at", "why"] (defScope pO) := ⟨rfl, rfl, rfl, by decide +kernel, rfl, by decide +kernel, by decide +kernel⟩
theorem UG : FnScope ["self", "beginner", "called"] ["self", "beginner", "called"] (defScope nQ) := ⟨rfl, rfl, rfl, by decide +kernel, rfl, by decide +kernel, by decide +kernel⟩
theorem RN : FnScope ["self", "things", "raw"] ["self", "things", "raw"] (defScope jD) := ⟨rfl, rfl, rfl, by decide +kernel, rfl, by decide +kernel, by decide +kernel⟩
theorem Az : FnScope ["self", "row", "why"] ["self", "row"] (defScope nU) := ⟨rfl, rfl, rfl, by decide +kernel, rfl, by decide +kernel, by decide +kernel⟩
theorem RP : FnScope ["self"] ["self"] (defScope lH) := ⟨rfl, rfl, rfl, by decide +kernel, rfl, by decide +kernel, by decide +kernel⟩
theorem gM : FnScope ["self", "row", "doer", "others", "task", "asking", "number"] ["self", "row"] (defScope g8) := ⟨rfl, rfl, rfl, by decide +kernel, rfl, by decide +kernel, by decide +kernel⟩
theorem Ba : FnScope ["self", "number"] ["self", "number"] (defScope gJ) := ⟨rfl, rfl, rfl, by decide +kernel, rfl, by decide +kernel, by decide +kernel⟩
theorem Ak : FnScope ["self", "row", "doer"] ["self", "row"] (defScope lK) := ⟨rfl, rfl, rfl, by decide +kernel, rfl, by decide +kernel, by decide +kernel⟩
theorem Qc : FnScope ["self", "task", "row"] ["self", "task", "row"] (defScope jO) := ⟨rfl, rfl, rfl, by decide +kernel, rfl, by decide +kernel, by decide +kernel⟩
structure Top (w : World) (K : PySem.W.Frag) (mg : Str → Option Value) : Prop where
  mV : GB.Tp K mg "is_name" oX [] []
  tZ : GB.Tp K mg "is_whole" o7 [] []
  nW : GB.Tp K mg "is_number" nJ [] []
  wu : GB.Tp K mg "is_outcome" lA [] []
  zj : GB.Tp K mg "is_count" o8 [] []
  Bb : GB.Tp K mg "is_part" qK [] []
  wz : GB.Tp K mg "is_log_row" jC [] []
  vC : GB.Tp K mg "doer_of" qL [] []
  wA : GB.Tp K mg "check_told" iH [] []
  cZ : GB.Tp K mg "first_so" o9 [] []
  aiF : GB.Tp K mg "ask_doing" u9 [] []
  Ei : GB.Tp K mg "ask_begun" nM [] []
  Gq : GB.Tp K mg "ask_kill" pq [] []
  Gu : GB.Tp K mg "ask_late" pA [] []
  ahi : GB.Tp K mg "ask_nobody" tW [] []
  ajU : GB.Tp K mg "ask_got" xY [] []
  aiG : GB.Tp K mg "ask_given" vf [] []
  Bc : GB.Tp K mg "ask_landed" lC [] []
  Bf : GB.Tp K mg "ask_masked" lD [] []
  Bh : GB.Tp K mg "ask_opened" lE [] []
  ajo : GB.Tp K mg "ask_last" vQ [] []
  ahj : GB.Tp K mg "ask_lasted" tX [] []
  agK : GB.Tp K mg "ask_rescued" rZ [] []
  Ek : GB.Tp K mg "ask_ended" j6 [] []
  yD : GB.Tp K mg "_law_cell_at" nO [] []
  wB : GB.Tp K mg "_law_well" sU [] []
  fD : GB.Tp K mg "_law_draw" sV [] []
  rA : GB.Tp K mg "_law_one" uM [] []
  wC : GB.Tp K mg "_law_word" qM [] []
  wD : GB.Tp K mg "_law_task" sW [] []
  zm : GB.Tp K mg "_law_latest" mU [] []
  wF : GB.Tp K mg "_law_told_due" lF [] []
  yE : GB.Tp K mg "_law_end_due" j7 [] []
  Qe : GB.Tp K mg "_law_due" tM [] []
  Ew : GB.Tp K mg "_law_done" sX [] []
  Qg : GB.Tp K mg "_law_row" uN [] []
  Ey : GB.Tp K mg "_law_seen" sY [] []
  abG : GB.Tp K mg "law" qZ [] []
  Ez : GB.Dn K (He.ma K (He.ga K "WorkError") "__init__") "__init__" "WorkError.__init__" lG [.str "refused"] []
  RQ : GB.Dn K (He.ma K (He.ga K "Broken") "__init__") "__init__" "Broken.__init__" pO [] []
  aaw : GB.Dn K (He.ma K (He.ga K "Seen") "__init__") "__init__" "Seen.__init__" nQ [] []
  UJ : GB.Dn K (He.ma K (He.ga K "Watch") "__init__") "__init__" "Watch.__init__" jD [] [("things", .non), ("raw", .bl false)]
  aax : GB.Dn K (He.ma K (He.ga K "Watch") "see") "see" "Watch.see" nU [] []
  UL : GB.Dn K (He.ma K (He.ga K "Watch") "seen") "seen" "Watch.seen" lH [] []
  Qh : GB.Dn K (He.ma K (He.ga K "Watch") "reason") "reason" "Watch.reason" g8 [] []
  Eb : GB.Dn K (He.ma K (He.ga K "Watch") "is_latest") "is_latest" "Watch.is_latest" gJ [] []
  afm : GB.Dn K (He.ma K (He.ga K "Watch") "is_full") "is_full" "Watch.is_full" qF [] []
  EY : GB.Dn K (He.ma K (He.ga K "Watch") "may_fail") "may_fail" "Watch.may_fail" lJ [] []
  UW : GB.Dn K (He.ma K (He.ga K "Watch") "take") "take" "Watch.take" lK [] []
  U0 : GB.Dn K (He.ma K (He.ga K "Watch") "hold") "hold" "Watch.hold" qN [] []
  U3 : GB.Dn K (He.ma K (He.ga K "Watch") "turn") "turn" "Watch.turn" qO [] []
  RW : GB.Dn K (He.ma K (He.ga K "Watch") "go_on") "go_on" "Watch.go_on" jO [] []
  aay : mg "WorkError" = some (.ref (He.ga K "WorkError"))
  aiH : GB.Ax K (He.ga K "WorkError") = true ∧ GB.yX K (He.ga K "WorkError") "__init__" = true ∧ GB.Um K (He.ga K "WorkError") ["why"] = true ∧ GB.xX K (He.ga K "WorkError") = true
  wG : GB.Tq K (He.ga K "WorkError") "__init__" (He.ma K (He.ga K "WorkError") "__init__") = true
  aef : mg "BadRun" = some (.ref (He.ga K "BadRun"))
  Fb : GB.Ax K (He.ga K "BadRun") = true ∧ GB.yX K (He.ga K "BadRun") "__init__" = true ∧ GB.Um K (He.ga K "BadRun") ["why"] = true ∧ GB.xX K (He.ga K "BadRun") = true
  RX : He.ma K (He.ga K "BadRun") "__init__" = He.ma K (He.ga K "WorkError") "__init__"
  U4 : mg "Broken" = some (.ref (He.ga K "Broken"))
  zp : GB.Ax K (He.ga K "Broken") = true ∧ GB.yX K (He.ga K "Broken") "__init__" = true ∧ GB.Um K (He.ga K "Broken") ["at", "why"] = true ∧ GB.xX K (He.ga K "Broken") = true
  acK : mg "Seen" = some (.ref (He.ga K "Seen"))
  vD : Cls K (He.ga K "Seen")
  Gv : Mk K (He.ga K "Seen") (He.ma K (He.ga K "Seen") "__init__")
  Gx : NoAttr K (He.ga K "Seen") "beginner"
  R4 : NoAttr K (He.ga K "Seen") "called"
  R5 : NoAttr K (He.ga K "Seen") "ending"
  aaz : NoAttr K (He.ga K "Seen") "owed"
  aaA : NoAttr K (He.ga K "Seen") "shut"
  U5 : NoAttr K (He.ga K "Seen") "state"
  abH : NoAttr K (He.ga K "Seen") "had"
  U6 : NoAttr K (He.ga K "Seen") "lasts"
  alj : GB.za K (He.ga K "Seen") = true
  afW : mg "Watch" = some (.ref (He.ga K "Watch"))
  iW : Cls K (He.ga K "Watch")
  aaQ : Mk K (He.ga K "Watch") (He.ma K (He.ga K "Watch") "__init__")
  R6 : NoAttr K (He.ga K "Watch") "sizes"
  aaB : NoAttr K (He.ga K "Watch") "raw"
  R7 : NoAttr K (He.ga K "Watch") "tasks"
  Qi : NoAttr K (He.ga K "Watch") "latest"
  R8 : NoAttr K (He.ga K "Watch") "homes"
  U7 : NoAttr K (He.ga K "Watch") "must"
  U8 : NoAttr K (He.ga K "Watch") "many"
  dh : Meth K (He.ga K "Watch") "see" (He.ma K (He.ga K "Watch") "see")
  lM : Meth K (He.ga K "Watch") "seen" (He.ma K (He.ga K "Watch") "seen")
  dJ : Meth K (He.ga K "Watch") "reason" (He.ma K (He.ga K "Watch") "reason")
  gK : Meth K (He.ga K "Watch") "is_latest" (He.ma K (He.ga K "Watch") "is_latest")
  Gy : Meth K (He.ga K "Watch") "is_full" (He.ma K (He.ga K "Watch") "is_full")
  pB : Meth K (He.ga K "Watch") "may_fail" (He.ma K (He.ga K "Watch") "may_fail")
  gW : Meth K (He.ga K "Watch") "take" (He.ma K (He.ga K "Watch") "take")
  uf : Meth K (He.ga K "Watch") "hold" (He.ma K (He.ga K "Watch") "hold")
  ug : Meth K (He.ga K "Watch") "turn" (He.ma K (He.ga K "Watch") "turn")
  dM : Meth K (He.ga K "Watch") "go_on" (He.ma K (He.ga K "Watch") "go_on")
  ak9 : GB.za K (He.ga K "Watch") = true
  acy : PySem.W.exmOne K (.ref (He.ga K "WorkError")) (.ref (He.ga K "Broken")) = some false
  aeg : PySem.W.exmOne K (.ref (He.ga K "BadRun")) (.ref (He.ga K "Broken")) = some false
  Fe : PySem.W.exmOne K (.ref (He.ga K "Broken")) (.ref (He.ga K "Broken")) = some true
  ve : GB.veB K = true
  U9 : mg "ValueError" = none
  Gz : mg "all" = none
  ajp : mg "any" = none
  ahk : mg "bool" = none
  ahl : mg "dict" = none
  Tr : mg "int" = none
  oF : mg "isinstance" = none
  sE : mg "len" = none
  ahm : mg "list" = none
  aaR : mg "range" = none
  afn : mg "str" = none
  alU : mg "sum" = none
  aaS : mg "tuple" = none
  ajq : mg "zip" = none
  acL : ∃ t, mg "LETTERS" = some (.str "abcdefghijklmnopqrstuvwxyz" t)
  acM : ∃ t, mg "LONGEST" = some (.int 8 t)
  afX : mg "FORMS" = some (.ref (He.ga K "FORMS"))
  afY : ∃ es n, KDict K w (He.ga K "FORMS") es n
  afZ : PD.ad9 K (He.ga K "FORMS") [("tell", .tup [.str "task", .str "number"]), ("add", .tup [.str "task", .str "name", .str "number"]), ("failed", .tup [.str "task", .str "name"]), ("rescued", .tup [.str "task", .str "name"]), ("got", .tup [.str "task", .str "name"]), ("given", .tup [.str "task", .str "name"]), ("masked", .tup [.str "task"]), ("opened", .tup [.str "task"]), ("last", .tup [.str "task"]), ("lasted", .tup [.str "task"]), ("begun", .tup [.str "task", .str "task", .str "name", .str "task"]), ("kill", .tup [.str "doer", .str "task"]), ("late", .tup [.str "doer", .str "task"]), ("nobody", .tup [.str "task", .str "name"]), ("landed", .tup [.str "task"]), ("ended", .tup [.str "task", .str "outcome"])] = true
  af0 : PD.keyB K (He.ga K "FORMS") ["tell", "add", "failed", "rescued", "got", "given", "masked", "opened", "last", "lasted", "begun", "kill", "late", "nobody", "landed", "ended"] = true
  Ql : mg "ON" = some (.ref (He.ga K "ON"))
  akK : GB.tupB K (He.ga K "ON") [.str "on"] = true
  Fg : mg "KILLED" = some (.ref (He.ga K "KILLED"))
  aeh : GB.tupB K (He.ga K "KILLED") [.str "killed"] = true
  Va : ∃ t, mg "MOST_TASKS" = some (.int 12 t)
  ahn : ∃ t, mg "PLAIN_SIZE" = some (.int 1 t)
  aei : mg "ASKING" = some (.ref (He.ga K "ASKING"))
  aej : ∃ es n, KDict K w (He.ga K "ASKING") es n
  aek : He.valsB K (He.ga K "ASKING") [("tell", .glo "ask_doing"), ("add", .glo "ask_doing"), ("failed", .glo "ask_doing"), ("rescued", .glo "ask_rescued"), ("got", .glo "ask_got"), ("given", .glo "ask_given"), ("masked", .glo "ask_masked"), ("opened", .glo "ask_opened"), ("last", .glo "ask_last"), ("lasted", .glo "ask_lasted"), ("begun", .glo "ask_begun"), ("kill", .glo "ask_kill"), ("late", .glo "ask_late"), ("nobody", .glo "ask_nobody"), ("landed", .glo "ask_landed"), ("ended", .glo "ask_ended")] = true
  ael : PD.keyB K (He.ga K "ASKING") ["tell", "add", "failed", "rescued", "got", "given", "masked", "opened", "last", "lasted", "begun", "kill", "late", "nobody", "landed", "ended"] = true
def fa0 : List He.Fa := []
def tabs : List He.Tab := [(fun K => He.ga K "FORMS", ["tell", "add", "failed", "rescued", "got", "given", "masked", "opened", "last", "lasted", "begun", "kill", "late", "nobody", "landed", "ended"]), (fun K => He.ga K "ASKING", ["tell", "add", "failed", "rescued", "got", "given", "masked", "opened", "last", "lasted", "begun", "kill", "late", "nobody", "landed", "ended"])]
def fa1 : List He.Fa := [.glo "is_name", .glo "is_whole", .glo "is_number", .glo "is_outcome", .glo "is_count", .glo "is_part", .glo "is_log_row", .glo "doer_of", .glo "check_told", .glo "first_so", .glo "ask_doing", .glo "ask_begun", .glo "ask_kill", .glo "ask_late", .glo "ask_nobody", .glo "ask_got", .glo "ask_given", .glo "ask_landed", .glo "ask_masked", .glo "ask_opened"]
def fn0 : List He.DefD := [⟨("is_name", none), "is_name", "is_name", defArgs oX, defBody oX, defScope oX, [], []⟩,
  ⟨("is_whole", none), "is_whole", "is_whole", defArgs o7, defBody o7, defScope o7, [], []⟩,
  ⟨("is_number", none), "is_number", "is_number", defArgs nJ, defBody nJ, defScope nJ, [], []⟩,
  ⟨("is_outcome", none), "is_outcome", "is_outcome", defArgs lA, defBody lA, defScope lA, [], []⟩,
  ⟨("is_count", none), "is_count", "is_count", defArgs o8, defBody o8, defScope o8, [], []⟩,
  ⟨("is_part", none), "is_part", "is_part", defArgs qK, defBody qK, defScope qK, [], []⟩,
  ⟨("is_log_row", none), "is_log_row", "is_log_row", defArgs jC, defBody jC, defScope jC, [], []⟩,
  ⟨("doer_of", none), "doer_of", "doer_of", defArgs qL, defBody qL, defScope qL, [], []⟩,
  ⟨("check_told", none), "check_told", "check_told", defArgs iH, defBody iH, defScope iH, [], []⟩,
  ⟨("first_so", none), "first_so", "first_so", defArgs o9, defBody o9, defScope o9, [], []⟩,
  ⟨("ask_doing", none), "ask_doing", "ask_doing", defArgs u9, defBody u9, defScope u9, [], []⟩,
  ⟨("ask_begun", none), "ask_begun", "ask_begun", defArgs nM, defBody nM, defScope nM, [], []⟩,
  ⟨("ask_kill", none), "ask_kill", "ask_kill", defArgs pq, defBody pq, defScope pq, [], []⟩,
  ⟨("ask_late", none), "ask_late", "ask_late", defArgs pA, defBody pA, defScope pA, [], []⟩,
  ⟨("ask_nobody", none), "ask_nobody", "ask_nobody", defArgs tW, defBody tW, defScope tW, [], []⟩,
  ⟨("ask_got", none), "ask_got", "ask_got", defArgs xY, defBody xY, defScope xY, [], []⟩,
  ⟨("ask_given", none), "ask_given", "ask_given", defArgs vf, defBody vf, defScope vf, [], []⟩,
  ⟨("ask_landed", none), "ask_landed", "ask_landed", defArgs lC, defBody lC, defScope lC, [], []⟩,
  ⟨("ask_masked", none), "ask_masked", "ask_masked", defArgs lD, defBody lD, defScope lD, [], []⟩,
  ⟨("ask_opened", none), "ask_opened", "ask_opened", defArgs lE, defBody lE, defScope lE, [], []⟩]
def ex0 : List (PySem.W.Frag → Bool) := [fun K => GB.Ax K (He.ga K "WorkError"),
  fun K => GB.yX K (He.ga K "WorkError") "__init__",
  fun K => GB.Um K (He.ga K "WorkError") ["why"],
  fun K => GB.xX K (He.ga K "WorkError"),
  fun K => GB.Tq K (He.ga K "WorkError") "__init__" (He.ma K (He.ga K "WorkError") "__init__"),
  fun K => GB.Ax K (He.ga K "BadRun"),
  fun K => GB.yX K (He.ga K "BadRun") "__init__",
  fun K => GB.Um K (He.ga K "BadRun") ["why"],
  fun K => GB.xX K (He.ga K "BadRun"),
  fun K => decide (He.ma K (He.ga K "BadRun") "__init__" = He.ma K (He.ga K "WorkError") "__init__"),
  fun K => GB.Ax K (He.ga K "Broken"),
  fun K => GB.yX K (He.ga K "Broken") "__init__",
  fun K => GB.Um K (He.ga K "Broken") ["at", "why"],
  fun K => GB.xX K (He.ga K "Broken"),
  fun K => GB.za K (He.ga K "Seen"),
  fun K => GB.za K (He.ga K "Watch"),
  fun K => decide (PySem.W.exmOne K (.ref (He.ga K "WorkError")) (.ref (He.ga K "Broken")) = some false),
  fun K => decide (PySem.W.exmOne K (.ref (He.ga K "BadRun")) (.ref (He.ga K "Broken")) = some false),
  fun K => decide (PySem.W.exmOne K (.ref (He.ga K "Broken")) (.ref (He.ga K "Broken")) = some true),
  fun K => GB.veB K]
def fa2 : List He.Fa := [.glo "ask_last", .glo "ask_lasted", .glo "ask_rescued", .glo "ask_ended", .glo "_law_cell_at", .glo "_law_well", .glo "_law_draw", .glo "_law_one", .glo "_law_word", .glo "_law_task", .glo "_law_latest", .glo "_law_told_due", .glo "_law_end_due", .glo "_law_due", .glo "_law_done", .glo "_law_row", .glo "_law_seen", .glo "law", .glo "WorkError", .glo "BadRun"]
def fn1 : List He.DefD := [⟨("ask_last", none), "ask_last", "ask_last", defArgs vQ, defBody vQ, defScope vQ, [], []⟩,
  ⟨("ask_lasted", none), "ask_lasted", "ask_lasted", defArgs tX, defBody tX, defScope tX, [], []⟩,
  ⟨("ask_rescued", none), "ask_rescued", "ask_rescued", defArgs rZ, defBody rZ, defScope rZ, [], []⟩,
  ⟨("ask_ended", none), "ask_ended", "ask_ended", defArgs j6, defBody j6, defScope j6, [], []⟩,
  ⟨("_law_cell_at", none), "_law_cell_at", "_law_cell_at", defArgs nO, defBody nO, defScope nO, [], []⟩,
  ⟨("_law_well", none), "_law_well", "_law_well", defArgs sU, defBody sU, defScope sU, [], []⟩,
  ⟨("_law_draw", none), "_law_draw", "_law_draw", defArgs sV, defBody sV, defScope sV, [], []⟩,
  ⟨("_law_one", none), "_law_one", "_law_one", defArgs uM, defBody uM, defScope uM, [], []⟩,
  ⟨("_law_word", none), "_law_word", "_law_word", defArgs qM, defBody qM, defScope qM, [], []⟩,
  ⟨("_law_task", none), "_law_task", "_law_task", defArgs sW, defBody sW, defScope sW, [], []⟩,
  ⟨("_law_latest", none), "_law_latest", "_law_latest", defArgs mU, defBody mU, defScope mU, [], []⟩,
  ⟨("_law_told_due", none), "_law_told_due", "_law_told_due", defArgs lF, defBody lF, defScope lF, [], []⟩,
  ⟨("_law_end_due", none), "_law_end_due", "_law_end_due", defArgs j7, defBody j7, defScope j7, [], []⟩,
  ⟨("_law_due", none), "_law_due", "_law_due", defArgs tM, defBody tM, defScope tM, [], []⟩,
  ⟨("_law_done", none), "_law_done", "_law_done", defArgs sX, defBody sX, defScope sX, [], []⟩,
  ⟨("_law_row", none), "_law_row", "_law_row", defArgs uN, defBody uN, defScope uN, [], []⟩,
  ⟨("_law_seen", none), "_law_seen", "_law_seen", defArgs sY, defBody sY, defScope sY, [], []⟩,
  ⟨("law", none), "law", "law", defArgs qZ, defBody qZ, defScope qZ, [], []⟩,
  ⟨("WorkError", some "__init__"), "__init__", "WorkError.__init__", defArgs lG, defBody lG, defScope lG, [.str "refused"], []⟩,
  ⟨("Broken", some "__init__"), "__init__", "Broken.__init__", defArgs pO, defBody pO, defScope pO, [], []⟩]
def ex1 : List (PySem.W.Frag → Bool) := [fun K => PD.ad9 K (He.ga K "FORMS") [("tell", .tup [.str "task", .str "number"]), ("add", .tup [.str "task", .str "name", .str "number"]), ("failed", .tup [.str "task", .str "name"]), ("rescued", .tup [.str "task", .str "name"]), ("got", .tup [.str "task", .str "name"]), ("given", .tup [.str "task", .str "name"]), ("masked", .tup [.str "task"]), ("opened", .tup [.str "task"]), ("last", .tup [.str "task"]), ("lasted", .tup [.str "task"]), ("begun", .tup [.str "task", .str "task", .str "name", .str "task"]), ("kill", .tup [.str "doer", .str "task"]), ("late", .tup [.str "doer", .str "task"]), ("nobody", .tup [.str "task", .str "name"]), ("landed", .tup [.str "task"]), ("ended", .tup [.str "task", .str "outcome"])],
  fun K => PD.keyB K (He.ga K "FORMS") ["tell", "add", "failed", "rescued", "got", "given", "masked", "opened", "last", "lasted", "begun", "kill", "late", "nobody", "landed", "ended"],
  fun K => GB.tupB K (He.ga K "ON") [.str "on"],
  fun K => GB.tupB K (He.ga K "KILLED") [.str "killed"],
  fun K => He.valsB K (He.ga K "ASKING") [("tell", .glo "ask_doing"), ("add", .glo "ask_doing"), ("failed", .glo "ask_doing"), ("rescued", .glo "ask_rescued"), ("got", .glo "ask_got"), ("given", .glo "ask_given"), ("masked", .glo "ask_masked"), ("opened", .glo "ask_opened"), ("last", .glo "ask_last"), ("lasted", .glo "ask_lasted"), ("begun", .glo "ask_begun"), ("kill", .glo "ask_kill"), ("late", .glo "ask_late"), ("nobody", .glo "ask_nobody"), ("landed", .glo "ask_landed"), ("ended", .glo "ask_ended")],
  fun K => PD.keyB K (He.ga K "ASKING") ["tell", "add", "failed", "rescued", "got", "given", "masked", "opened", "last", "lasted", "begun", "kill", "late", "nobody", "landed", "ended"]]
def fa3 : List He.Fa := [.glo "Broken", .glo "Seen", .cls "Seen", .mkr "Seen", .noat "Seen" "beginner", .noat "Seen" "called", .noat "Seen" "ending", .noat "Seen" "owed", .noat "Seen" "shut", .noat "Seen" "state", .noat "Seen" "had", .noat "Seen" "lasts", .glo "Watch", .cls "Watch", .mkr "Watch", .noat "Watch" "sizes", .noat "Watch" "raw", .noat "Watch" "tasks", .noat "Watch" "latest", .noat "Watch" "homes"]
def fn2 : List He.DefD := [⟨("Seen", some "__init__"), "__init__", "Seen.__init__", defArgs nQ, defBody nQ, defScope nQ, [], []⟩,
  ⟨("Watch", some "__init__"), "__init__", "Watch.__init__", defArgs jD, defBody jD, defScope jD, [], [("things", .non), ("raw", .bl false)]⟩,
  ⟨("Watch", some "see"), "see", "Watch.see", defArgs nU, defBody nU, defScope nU, [], []⟩,
  ⟨("Watch", some "seen"), "seen", "Watch.seen", defArgs lH, defBody lH, defScope lH, [], []⟩,
  ⟨("Watch", some "reason"), "reason", "Watch.reason", defArgs g8, defBody g8, defScope g8, [], []⟩,
  ⟨("Watch", some "is_latest"), "is_latest", "Watch.is_latest", defArgs gJ, defBody gJ, defScope gJ, [], []⟩,
  ⟨("Watch", some "is_full"), "is_full", "Watch.is_full", defArgs qF, defBody qF, defScope qF, [], []⟩,
  ⟨("Watch", some "may_fail"), "may_fail", "Watch.may_fail", defArgs lJ, defBody lJ, defScope lJ, [], []⟩,
  ⟨("Watch", some "take"), "take", "Watch.take", defArgs lK, defBody lK, defScope lK, [], []⟩,
  ⟨("Watch", some "hold"), "hold", "Watch.hold", defArgs qN, defBody qN, defScope qN, [], []⟩,
  ⟨("Watch", some "turn"), "turn", "Watch.turn", defArgs qO, defBody qO, defScope qO, [], []⟩,
  ⟨("Watch", some "go_on"), "go_on", "Watch.go_on", defArgs jO, defBody jO, defScope jO, [], []⟩]
def ex2 : List (PySem.W.Frag → Bool) := []
def fa4 : List He.Fa := [.noat "Watch" "must", .noat "Watch" "many", .meth "Watch" "see", .meth "Watch" "seen", .meth "Watch" "reason", .meth "Watch" "is_latest", .meth "Watch" "is_full", .meth "Watch" "may_fail", .meth "Watch" "take", .meth "Watch" "hold", .meth "Watch" "turn", .meth "Watch" "go_on", .free "ValueError", .free "all", .free "any", .free "bool", .free "dict", .free "int", .free "isinstance", .free "len"]
def fn3 : List He.DefD := []
def ex3 : List (PySem.W.Frag → Bool) := []
def fa5 : List He.Fa := [.free "list", .free "range", .free "str", .free "sum", .free "tuple", .free "zip", .str "LETTERS" "abcdefghijklmnopqrstuvwxyz", .int "LONGEST" 8, .glo "FORMS", .glo "ON", .glo "KILLED", .int "MOST_TASKS" 12, .int "PLAIN_SIZE" 1, .glo "ASKING"]
def fn4 : List He.DefD := []
def ex4 : List (PySem.W.Frag → Bool) := []
def pt0 : List GB.Part := [(fa1, fn0, ex0), (fa2, fn1, ex1), (fa3, fn2, ex2), (fa4, fn3, ex3), (fa5, fn4, ex4)]
def parts : List GB.Part := pt0
theorem ahB {w : World} {K : PySem.W.Frag} {h : Heap} {mg : Str → Option Value} (X : K.In h) (G : h.Ns mainGlobals mg) (c : GB.afe fa0 tabs parts w K) : Top w K mg := by
  have c0 : GB.SaysE fa1 fn0 [] ex0 w K := c.p 0 (fa1, fn0, ex0) rfl
  have c1 : GB.SaysE fa2 fn1 [] ex1 w K := c.p 1 (fa2, fn1, ex1) rfl
  have c2 : GB.SaysE fa3 fn2 [] ex2 w K := c.p 2 (fa3, fn2, ex2) rfl
  have c3 : GB.SaysE fa4 fn3 [] ex3 w K := c.p 3 (fa4, fn3, ex3) rfl
  have c4 : GB.SaysE fa5 fn4 [] ex4 w K := c.p 4 (fa5, fn4, ex4) rfl
  exact ⟨⟨c0.t.d.def_ 0 rfl, He.glo_ok X G (c0.t.d.fact 0 (f := .glo "is_name") rfl)⟩,
  ⟨c0.t.d.def_ 1 rfl, He.glo_ok X G (c0.t.d.fact 1 (f := .glo "is_whole") rfl)⟩,
  ⟨c0.t.d.def_ 2 rfl, He.glo_ok X G (c0.t.d.fact 2 (f := .glo "is_number") rfl)⟩,
  ⟨c0.t.d.def_ 3 rfl, He.glo_ok X G (c0.t.d.fact 3 (f := .glo "is_outcome") rfl)⟩,
  ⟨c0.t.d.def_ 4 rfl, He.glo_ok X G (c0.t.d.fact 4 (f := .glo "is_count") rfl)⟩,
  ⟨c0.t.d.def_ 5 rfl, He.glo_ok X G (c0.t.d.fact 5 (f := .glo "is_part") rfl)⟩,
  ⟨c0.t.d.def_ 6 rfl, He.glo_ok X G (c0.t.d.fact 6 (f := .glo "is_log_row") rfl)⟩,
  ⟨c0.t.d.def_ 7 rfl, He.glo_ok X G (c0.t.d.fact 7 (f := .glo "doer_of") rfl)⟩,
  ⟨c0.t.d.def_ 8 rfl, He.glo_ok X G (c0.t.d.fact 8 (f := .glo "check_told") rfl)⟩,
  ⟨c0.t.d.def_ 9 rfl, He.glo_ok X G (c0.t.d.fact 9 (f := .glo "first_so") rfl)⟩,
  ⟨c0.t.d.def_ 10 rfl, He.glo_ok X G (c0.t.d.fact 10 (f := .glo "ask_doing") rfl)⟩,
  ⟨c0.t.d.def_ 11 rfl, He.glo_ok X G (c0.t.d.fact 11 (f := .glo "ask_begun") rfl)⟩,
  ⟨c0.t.d.def_ 12 rfl, He.glo_ok X G (c0.t.d.fact 12 (f := .glo "ask_kill") rfl)⟩,
  ⟨c0.t.d.def_ 13 rfl, He.glo_ok X G (c0.t.d.fact 13 (f := .glo "ask_late") rfl)⟩,
  ⟨c0.t.d.def_ 14 rfl, He.glo_ok X G (c0.t.d.fact 14 (f := .glo "ask_nobody") rfl)⟩,
  ⟨c0.t.d.def_ 15 rfl, He.glo_ok X G (c0.t.d.fact 15 (f := .glo "ask_got") rfl)⟩,
  ⟨c0.t.d.def_ 16 rfl, He.glo_ok X G (c0.t.d.fact 16 (f := .glo "ask_given") rfl)⟩,
  ⟨c0.t.d.def_ 17 rfl, He.glo_ok X G (c0.t.d.fact 17 (f := .glo "ask_landed") rfl)⟩,
  ⟨c0.t.d.def_ 18 rfl, He.glo_ok X G (c0.t.d.fact 18 (f := .glo "ask_masked") rfl)⟩,
  ⟨c0.t.d.def_ 19 rfl, He.glo_ok X G (c0.t.d.fact 19 (f := .glo "ask_opened") rfl)⟩,
  ⟨c1.t.d.def_ 0 rfl, He.glo_ok X G (c1.t.d.fact 0 (f := .glo "ask_last") rfl)⟩,
  ⟨c1.t.d.def_ 1 rfl, He.glo_ok X G (c1.t.d.fact 1 (f := .glo "ask_lasted") rfl)⟩,
  ⟨c1.t.d.def_ 2 rfl, He.glo_ok X G (c1.t.d.fact 2 (f := .glo "ask_rescued") rfl)⟩,
  ⟨c1.t.d.def_ 3 rfl, He.glo_ok X G (c1.t.d.fact 3 (f := .glo "ask_ended") rfl)⟩,
  ⟨c1.t.d.def_ 4 rfl, He.glo_ok X G (c1.t.d.fact 4 (f := .glo "_law_cell_at") rfl)⟩,
  ⟨c1.t.d.def_ 5 rfl, He.glo_ok X G (c1.t.d.fact 5 (f := .glo "_law_well") rfl)⟩,
  ⟨c1.t.d.def_ 6 rfl, He.glo_ok X G (c1.t.d.fact 6 (f := .glo "_law_draw") rfl)⟩,
  ⟨c1.t.d.def_ 7 rfl, He.glo_ok X G (c1.t.d.fact 7 (f := .glo "_law_one") rfl)⟩,
  ⟨c1.t.d.def_ 8 rfl, He.glo_ok X G (c1.t.d.fact 8 (f := .glo "_law_word") rfl)⟩,
  ⟨c1.t.d.def_ 9 rfl, He.glo_ok X G (c1.t.d.fact 9 (f := .glo "_law_task") rfl)⟩,
  ⟨c1.t.d.def_ 10 rfl, He.glo_ok X G (c1.t.d.fact 10 (f := .glo "_law_latest") rfl)⟩,
  ⟨c1.t.d.def_ 11 rfl, He.glo_ok X G (c1.t.d.fact 11 (f := .glo "_law_told_due") rfl)⟩,
  ⟨c1.t.d.def_ 12 rfl, He.glo_ok X G (c1.t.d.fact 12 (f := .glo "_law_end_due") rfl)⟩,
  ⟨c1.t.d.def_ 13 rfl, He.glo_ok X G (c1.t.d.fact 13 (f := .glo "_law_due") rfl)⟩,
  ⟨c1.t.d.def_ 14 rfl, He.glo_ok X G (c1.t.d.fact 14 (f := .glo "_law_done") rfl)⟩,
  ⟨c1.t.d.def_ 15 rfl, He.glo_ok X G (c1.t.d.fact 15 (f := .glo "_law_row") rfl)⟩,
  ⟨c1.t.d.def_ 16 rfl, He.glo_ok X G (c1.t.d.fact 16 (f := .glo "_law_seen") rfl)⟩,
  ⟨c1.t.d.def_ 17 rfl, He.glo_ok X G (c1.t.d.fact 17 (f := .glo "law") rfl)⟩,
  c1.t.d.def_ 18 rfl,
  c1.t.d.def_ 19 rfl,
  c2.t.d.def_ 0 rfl,
  c2.t.d.def_ 1 rfl,
  c2.t.d.def_ 2 rfl,
  c2.t.d.def_ 3 rfl,
  c2.t.d.def_ 4 rfl,
  c2.t.d.def_ 5 rfl,
  c2.t.d.def_ 6 rfl,
  c2.t.d.def_ 7 rfl,
  c2.t.d.def_ 8 rfl,
  c2.t.d.def_ 9 rfl,
  c2.t.d.def_ 10 rfl,
  c2.t.d.def_ 11 rfl,
  He.glo_ok X G (c1.t.d.fact 18 (f := .glo "WorkError") rfl),
  ⟨c0.x 0, c0.x 1, c0.x 2, c0.x 3⟩,
  c0.x 4,
  He.glo_ok X G (c1.t.d.fact 19 (f := .glo "BadRun") rfl),
  ⟨c0.x 5, c0.x 6, c0.x 7, c0.x 8⟩,
  of_decide_eq_true (c0.x 9),
  He.glo_ok X G (c2.t.d.fact 0 (f := .glo "Broken") rfl),
  ⟨c0.x 10, c0.x 11, c0.x 12, c0.x 13⟩,
  He.glo_ok X G (c2.t.d.fact 1 (f := .glo "Seen") rfl),
  He.cls_ok (c2.t.d.fact 2 (f := .cls "Seen") rfl),
  He.mkr_ok (c2.t.d.fact 3 (f := .mkr "Seen") rfl),
  He.noat_ok (c2.t.d.fact 4 (f := .noat "Seen" "beginner") rfl),
  He.noat_ok (c2.t.d.fact 5 (f := .noat "Seen" "called") rfl),
  He.noat_ok (c2.t.d.fact 6 (f := .noat "Seen" "ending") rfl),
  He.noat_ok (c2.t.d.fact 7 (f := .noat "Seen" "owed") rfl),
  He.noat_ok (c2.t.d.fact 8 (f := .noat "Seen" "shut") rfl),
  He.noat_ok (c2.t.d.fact 9 (f := .noat "Seen" "state") rfl),
  He.noat_ok (c2.t.d.fact 10 (f := .noat "Seen" "had") rfl),
  He.noat_ok (c2.t.d.fact 11 (f := .noat "Seen" "lasts") rfl),
  c0.x 14,
  He.glo_ok X G (c2.t.d.fact 12 (f := .glo "Watch") rfl),
  He.cls_ok (c2.t.d.fact 13 (f := .cls "Watch") rfl),
  He.mkr_ok (c2.t.d.fact 14 (f := .mkr "Watch") rfl),
  He.noat_ok (c2.t.d.fact 15 (f := .noat "Watch" "sizes") rfl),
  He.noat_ok (c2.t.d.fact 16 (f := .noat "Watch" "raw") rfl),
  He.noat_ok (c2.t.d.fact 17 (f := .noat "Watch" "tasks") rfl),
  He.noat_ok (c2.t.d.fact 18 (f := .noat "Watch" "latest") rfl),
  He.noat_ok (c2.t.d.fact 19 (f := .noat "Watch" "homes") rfl),
  He.noat_ok (c3.t.d.fact 0 (f := .noat "Watch" "must") rfl),
  He.noat_ok (c3.t.d.fact 1 (f := .noat "Watch" "many") rfl),
  He.meth_ok (c3.t.d.fact 2 (f := .meth "Watch" "see") rfl),
  He.meth_ok (c3.t.d.fact 3 (f := .meth "Watch" "seen") rfl),
  He.meth_ok (c3.t.d.fact 4 (f := .meth "Watch" "reason") rfl),
  He.meth_ok (c3.t.d.fact 5 (f := .meth "Watch" "is_latest") rfl),
  He.meth_ok (c3.t.d.fact 6 (f := .meth "Watch" "is_full") rfl),
  He.meth_ok (c3.t.d.fact 7 (f := .meth "Watch" "may_fail") rfl),
  He.meth_ok (c3.t.d.fact 8 (f := .meth "Watch" "take") rfl),
  He.meth_ok (c3.t.d.fact 9 (f := .meth "Watch" "hold") rfl),
  He.meth_ok (c3.t.d.fact 10 (f := .meth "Watch" "turn") rfl),
  He.meth_ok (c3.t.d.fact 11 (f := .meth "Watch" "go_on") rfl),
  c0.x 15,
  of_decide_eq_true (c0.x 16),
  of_decide_eq_true (c0.x 17),
  of_decide_eq_true (c0.x 18),
  c0.x 19,
  He.free_ok X G (c3.t.d.fact 12 (f := .free "ValueError") rfl),
  He.free_ok X G (c3.t.d.fact 13 (f := .free "all") rfl),
  He.free_ok X G (c3.t.d.fact 14 (f := .free "any") rfl),
  He.free_ok X G (c3.t.d.fact 15 (f := .free "bool") rfl),
  He.free_ok X G (c3.t.d.fact 16 (f := .free "dict") rfl),
  He.free_ok X G (c3.t.d.fact 17 (f := .free "int") rfl),
  He.free_ok X G (c3.t.d.fact 18 (f := .free "isinstance") rfl),
  He.free_ok X G (c3.t.d.fact 19 (f := .free "len") rfl),
  He.free_ok X G (c4.t.d.fact 0 (f := .free "list") rfl),
  He.free_ok X G (c4.t.d.fact 1 (f := .free "range") rfl),
  He.free_ok X G (c4.t.d.fact 2 (f := .free "str") rfl),
  He.free_ok X G (c4.t.d.fact 3 (f := .free "sum") rfl),
  He.free_ok X G (c4.t.d.fact 4 (f := .free "tuple") rfl),
  He.free_ok X G (c4.t.d.fact 5 (f := .free "zip") rfl),
  He.str_ok X G (c4.t.d.fact 6 (f := .str "LETTERS" "abcdefghijklmnopqrstuvwxyz") rfl),
  He.int_ok X G (c4.t.d.fact 7 (f := .int "LONGEST" 8) rfl),
  He.glo_ok X G (c4.t.d.fact 8 (f := .glo "FORMS") rfl),
  c.b.t.tab 0,
  c1.x 0,
  c1.x 1,
  He.glo_ok X G (c4.t.d.fact 9 (f := .glo "ON") rfl),
  c1.x 2,
  He.glo_ok X G (c4.t.d.fact 10 (f := .glo "KILLED") rfl),
  c1.x 3,
  He.int_ok X G (c4.t.d.fact 11 (f := .int "MOST_TASKS" 12) rfl),
  He.int_ok X G (c4.t.d.fact 12 (f := .int "PLAIN_SIZE" 1) rfl),
  He.glo_ok X G (c4.t.d.fact 13 (f := .glo "ASKING") rfl),
  c.b.t.tab 1,
  c1.x 4,
  c1.x 5⟩
end cY
noncomputable section
namespace Fj
open PySem PySem.W PySem.Calls PyProof.Rows cY
abbrev S (x : String) : PySem.Str := PySem.Str.ofString x
def E (P : Params) (x : String) (t : Tok) (v : Value) : DictEntry := ⟨PyData.keyHash P (S x), .str (S x) t, v⟩
def env0 : Env := { scope := PySem.Challenge.pw_givenback_k22_kills_seen_and_landed.main.scope, locals := mainNs, globals := mainNs, cells := [], code := (.ref 13), frame := some 14 }
def pC : List Stmt := behindTheImports PySem.Challenge.pw_givenback_k22_kills_seen_and_landed
def c0 : Code := .body pC env0
def zq (P : Params) : Obj := ⟨(.type "dict"), none, (.dict [E P "__name__" 1 (.str (S "builtins") 160), E P "__doc__" 2 (.builtin "builtins.__doc__:str#opaque"), E P "__package__" 3 (.builtin "builtins.__package__:str#opaque"), E P "__loader__" 4 (.builtin "builtins.__loader__:shared#opaque"), E P "__spec__" 5 (.builtin "builtins.__spec__#opaque"), E P "__build_class__" 6 (.builtin "__build_class__"), E P "__import__" 7 (.builtin "__import__"), E P "abs" 8 (.builtin "abs"), E P "all" 9 (.builtin "all"), E P "any" 10 (.builtin "any"), E P "ascii" 11 (.builtin "ascii"), E P "bin" 12 (.builtin "bin"), E P "breakpoint" 13 (.builtin "breakpoint"), E P "callable" 14 (.builtin "callable"), E P "chr" 15 (.builtin "chr"), E P "compile" 16 (.builtin "compile"), E P "delattr" 17 (.builtin "delattr"), E P "dir" 18 (.builtin "dir"), E P "divmod" 19 (.builtin "divmod"), E P "eval" 20 (.builtin "eval"), E P "exec" 21 (.builtin "exec"), E P "format" 22 (.builtin "format"), E P "getattr" 23 (.builtin "getattr"), E P "globals" 24 (.builtin "globals"), E P "hasattr" 25 (.builtin "hasattr"), E P "hash" 26 (.builtin "hash"), E P "hex" 27 (.builtin "hex"), E P "id" 28 (.builtin "id"), E P "input" 29 (.builtin "input"), E P "isinstance" 30 (.builtin "isinstance"), E P "issubclass" 31 (.builtin "issubclass"), E P "iter" 32 (.builtin "iter"), E P "aiter" 33 (.builtin "aiter"), E P "len" 34 (.builtin "len"), E P "locals" 35 (.builtin "locals"), E P "max" 36 (.builtin "max"), E P "min" 37 (.builtin "min"), E P "next" 38 (.builtin "next"), E P "anext" 39 (.builtin "anext"), E P "oct" 40 (.builtin "oct"), E P "ord" 41 (.builtin "ord"), E P "pow" 42 (.builtin "pow"), E P "print" 43 (.builtin "print"), E P "repr" 44 (.builtin "repr"), E P "round" 45 (.builtin "round"), E P "setattr" 46 (.builtin "setattr"), E P "sorted" 47 (.builtin "sorted"), E P "sum" 48 (.builtin "sum"), E P "vars" 49 (.builtin "vars"), E P "None" 50 .none, E P "Ellipsis" 51 .ellipsis, E P "NotImplemented" 52 .notImplemented, E P "False" 53 (.bool false), E P "True" 54 (.bool true), E P "bool" 55 (.type "bool"), E P "memoryview" 56 (.type "memoryview"), E P "bytearray" 57 (.type "bytearray"), E P "bytes" 58 (.type "bytes"), E P "classmethod" 59 (.type "classmethod"), E P "complex" 60 (.type "complex"), E P "dict" 61 (.type "dict"), E P "enumerate" 62 (.type "enumerate"), E P "filter" 63 (.type "filter"), E P "float" 64 (.type "float"), E P "frozenset" 65 (.type "frozenset"), E P "property" 66 (.type "property"), E P "int" 67 (.type "int"), E P "list" 68 (.type "list"), E P "map" 69 (.type "map"), E P "object" 70 (.type "object"), E P "range" 71 (.type "range"), E P "reversed" 72 (.type "reversed"), E P "set" 73 (.type "set"), E P "slice" 74 (.type "slice"), E P "staticmethod" 75 (.type "staticmethod"), E P "str" 76 (.type "str"), E P "super" 77 (.type "super"), E P "tuple" 78 (.type "tuple"), E P "type" 79 (.type "type"), E P "zip" 80 (.type "zip"), E P "__debug__" 81 (.bool true), E P "BaseException" 82 (.type "BaseException"), E P "BaseExceptionGroup" 83 (.type "BaseExceptionGroup"), E P "Exception" 84 (.type "Exception"), E P "GeneratorExit" 85 (.type "GeneratorExit"), E P "KeyboardInterrupt" 86 (.type "KeyboardInterrupt"), E P "SystemExit" 87 (.type "SystemExit"), E P "ArithmeticError" 88 (.type "ArithmeticError"), E P "AssertionError" 89 (.type "AssertionError"), E P "AttributeError" 90 (.type "AttributeError"), E P "BufferError" 91 (.type "BufferError"), E P "EOFError" 92 (.type "EOFError"), E P "ImportError" 93 (.type "ImportError"), E P "LookupError" 94 (.type "LookupError"), E P "MemoryError" 95 (.type "MemoryError"), E P "NameError" 96 (.type "NameError"), E P "OSError" 97 (.type "OSError"), E P "ReferenceError" 98 (.type "ReferenceError"), E P "RuntimeError" 99 (.type "RuntimeError"), E P "StopAsyncIteration" 100 (.type "StopAsyncIteration"), E P "StopIteration" 101 (.type "StopIteration"), E P "SyntaxError" 102 (.type "SyntaxError"), E P "SystemError" 103 (.type "SystemError"), E P "TypeError" 104 (.type "TypeError"), E P "ValueError" 105 (.type "ValueError"), E P "Warning" 106 (.type "Warning"), E P "FloatingPointError" 107 (.type "FloatingPointError"), E P "OverflowError" 108 (.type "OverflowError"), E P "ZeroDivisionError" 109 (.type "ZeroDivisionError"), E P "BytesWarning" 110 (.type "BytesWarning"), E P "DeprecationWarning" 111 (.type "DeprecationWarning"), E P "EncodingWarning" 112 (.type "EncodingWarning"), E P "FutureWarning" 113 (.type "FutureWarning"), E P "ImportWarning" 114 (.type "ImportWarning"), E P "PendingDeprecationWarning" 115 (.type "PendingDeprecationWarning"), E P "ResourceWarning" 116 (.type "ResourceWarning"), E P "RuntimeWarning" 117 (.type "RuntimeWarning"), E P "SyntaxWarning" 118 (.type "SyntaxWarning"), E P "UnicodeWarning" 119 (.type "UnicodeWarning"), E P "UserWarning" 120 (.type "UserWarning"), E P "BlockingIOError" 121 (.type "BlockingIOError"), E P "ChildProcessError" 122 (.type "ChildProcessError"), E P "ConnectionError" 123 (.type "ConnectionError"), E P "FileExistsError" 124 (.type "FileExistsError"), E P "FileNotFoundError" 125 (.type "FileNotFoundError"), E P "InterruptedError" 126 (.type "InterruptedError"), E P "IsADirectoryError" 127 (.type "IsADirectoryError"), E P "NotADirectoryError" 128 (.type "NotADirectoryError"), E P "PermissionError" 129 (.type "PermissionError"), E P "ProcessLookupError" 130 (.type "ProcessLookupError"), E P "TimeoutError" 131 (.type "TimeoutError"), E P "IndentationError" 132 (.type "IndentationError"), E P "_IncompleteInputError" 133 (.type "_IncompleteInputError"), E P "IndexError" 134 (.type "IndexError"), E P "KeyError" 135 (.type "KeyError"), E P "ModuleNotFoundError" 136 (.type "ModuleNotFoundError"), E P "NotImplementedError" 137 (.type "NotImplementedError"), E P "PythonFinalizationError" 138 (.type "PythonFinalizationError"), E P "RecursionError" 139 (.type "RecursionError"), E P "UnboundLocalError" 140 (.type "UnboundLocalError"), E P "UnicodeError" 141 (.type "UnicodeError"), E P "BrokenPipeError" 142 (.type "BrokenPipeError"), E P "ConnectionAbortedError" 143 (.type "ConnectionAbortedError"), E P "ConnectionRefusedError" 144 (.type "ConnectionRefusedError"), E P "ConnectionResetError" 145 (.type "ConnectionResetError"), E P "TabError" 146 (.type "TabError"), E P "UnicodeDecodeError" 147 (.type "UnicodeDecodeError"), E P "UnicodeEncodeError" 148 (.type "UnicodeEncodeError"), E P "UnicodeTranslateError" 149 (.type "UnicodeTranslateError"), E P "ExceptionGroup" 150 (.type "ExceptionGroup"), E P "EnvironmentError" 151 (.type "OSError"), E P "IOError" 152 (.type "OSError"), E P "open" 153 (.builtin "open"), E P "quit" 154 (.builtin "builtins.quit#opaque"), E P "exit" 155 (.builtin "builtins.exit#opaque"), E P "copyright" 156 (.builtin "builtins.copyright#opaque"), E P "credits" 157 (.builtin "builtins.credits#opaque"), E P "license" 158 (.builtin "builtins.license#opaque"), E P "help" 159 (.builtin "builtins.help#opaque")].toArray 159), [].toArray⟩
def Bj (P : Params) : Obj := ⟨(.type "dict"), none, (.dict [E P "builtins" 162 (.ref 4), E P "__main__" 163 (.ref 5)].toArray 2), [].toArray⟩
def Bl (P : Params) : Obj := ⟨.none, none, (.dict [].toArray 0), [].toArray⟩
def ahC (P : Params) : Obj := ⟨(.type "dict"), none, (.dict [E P "__name__" 165 (.str (S "__main__") 164), E P "__doc__" 166 .none, E P "__package__" 167 .none, E P "__loader__" 168 (.builtin "__main__.__loader__#opaque"), E P "__spec__" 169 .none, E P "__annotations__" 170 (.ref 6), E P "__builtins__" 171 (.ref 4), E P "__file__" 173 (.str (S "/claim/cut.py") 172), E P "__cached__" 174 .none].toArray 9), [].toArray⟩
def Bm (P : Params) : Obj := ⟨(.type "module"), (some 0), .plain, [].toArray⟩
def Fl (P : Params) : Obj := ⟨(.type "module"), (some 3), .plain, [].toArray⟩
def Bo (P : Params) : Obj := ⟨(.type "dict"), none, (.dict [].toArray 0), [].toArray⟩
def Fo (P : Params) : Obj := ⟨(.type "tuple"), none, (.seq [].toArray 0), [].toArray⟩
def Fp (P : Params) : Obj := ⟨.none, none, (.fields [].toArray), [].toArray⟩
def Fq (P : Params) : Obj := ⟨(.type "code"), none, (.fields [(.str (S "<module>") 176), (.str (S "<module>") 177), (.str (S "/claim/cut.py") 178), (.int (1) 0), (.int (0) 0), (.int (0) 0), (.int (0) 0), (.int (0) 0), (.ref 7), (.bool false), (.int (175) 0), (.ref 8), .none, .none, .none, .none, (.int (179) 0), (.int (1) 0), (.str (S "/claim/cut.py") 180)].toArray), [].toArray⟩
def zu (P : Params) : Obj := ⟨(.type "frame"), none, .plain, [(some (.ref 9)), (some (.ref 3)), (some (.ref 3)), none, (some (.str (S "__main__") 164)), none, (some (.ref 0))].toArray⟩
def yd (P : Params) : Obj := ⟨(.type "tuple"), none, (.seq [].toArray 0), [].toArray⟩
def afo (P : Params) : Obj := ⟨.none, none, (.fields [].toArray), [].toArray⟩
def zA (P : Params) : Obj := ⟨(.type "code"), none, (.fields [(.str (S "<module>") 182), (.str (S "<module>") 183), (.str (S "/claim/cut.py") 184), (.int (1) 0), (.int (0) 0), (.int (0) 0), (.int (0) 0), (.int (0) 0), (.ref 11), (.bool false), (.int (181) 0), (.ref 12), .none, .none, .none, .none, (.int (185) 0), (.int (1) 0), (.str (S "/claim/cut.py") 186)].toArray), [].toArray⟩
def zB (P : Params) : Obj := ⟨(.type "frame"), none, .plain, [(some (.ref 13)), (some (.ref 3)), (some (.ref 3)), none, (some (.str (S "__main__") 164)), none, (some (.ref 0))].toArray⟩
def ak (o : Obj) : BT := .node o .nil .nil
def t0 (P : Params) : BT := (.node (zq P) (.node (Bj P) (.node (ahC P) (ak (Fo P)) (ak (yd P))) (.node (Fl P) (ak (Fq P)) (ak (zA P)))) (.node (Bl P) (.node (Bm P) (ak (Fp P)) (ak (afo P))) (.node (Bo P) (ak (zu P)) (ak (zB P)))))
def S0 (w : World) (os : OsState) : SharedT := ⟨t0 w.params, 15, ⟨[], [], [], 0, [], [], false, [].toArray, [], 0, false, false, false, 0, [2000, 10, 10], false, 0, true, [], [], 0, false⟩, #[], ⟨0, 0, 0, 0⟩, 187, os⟩
abbrev n0 : Nat := 11
abbrev yg : Option Value := (some (.ref 6))
abbrev q0 : Pos := ⟨0, 0, 0, 0⟩
theorem hb (w : World) (os : OsState) : HP.Cy PySem.Challenge.pw_givenback_k22_kills_seen_and_landed w os 12 (S0 w os, ⟨HandSHeadRun.denQ HandSHeadRun.tabQ c0, c0, ⟨0, 0, 0, 0⟩, [topFrame q0]⟩) := by
  unfold HP.Cy
  kernel_rfl
def t1 (P : Params) : BT := (.node (zq P) (.node (Bj P) (.node (ahC P) (ak (Fo P)) (ak (yd P))) (.node (Fl P) (ak (Fq P)) (ak (zA P)))) (.node (Bl P) (.node (Bm P) (ak (Fp P)) (ak (afo P))) (.node (Bo P) (ak (zu P)) (ak (zB P)))))
def S1 (w : World) (os : OsState) : SharedT := ⟨t1 w.params, 15, ⟨[], [], [], 0, [], [], false, [].toArray, [], 0, false, false, false, 0, [2000, 10, 10], false, 0, true, [], [], 0, false⟩, #[], ⟨0, 0, 0, 0⟩, 187, os⟩
theorem hs (w : World) (os : OsState) : HP.PL (HP.Q6 PySem.Challenge.pw_givenback_k22_kills_seen_and_landed w) n0 yg 1 (S0 w os) (blockOf pC env0 c0 ⟨0, 0, 0, 0⟩ [topFrame q0]) = some (.next, S1 w os, c0, ⟨0, 0, 0, 0⟩) := by kernel_rfl
def akL (P : Params) : Obj := ⟨(.type "dict"), none, (.dict [E P "__name__" 165 (.str (S "givenback.rowforms") 287), E P "__doc__" 166 .none, E P "__package__" 167 .none, E P "__loader__" 168 (.builtin "__main__.__loader__#opaque"), E P "__spec__" 169 .none, E P "__annotations__" 170 (.ref 6), E P "__builtins__" 171 (.ref 4), E P "__file__" 173 (.str (S "/claim/cut.py") 172), E P "__cached__" 174 .none, E P "WorkError" 216 (.ref 32), E P "BadRun" 232 (.ref 45), E P "Broken" 258 (.ref 64), E P "LETTERS" 262 (.str (S "abcdefghijklmnopqrstuvwxyz") 261), E P "LONGEST" 264 (.int (8) 263), E P "is_name" 270 (.ref 71), E P "is_whole" 279 (.ref 78), E P "is_number" 286 (.ref 85)].toArray 17), [].toArray⟩
def afp (P : Params) : Obj := ⟨.none, none, (.fields [(.int (2) 0), (.int (0) 0), (.ref 20), (.int (7) 0), (.int (0) 0), (.ref 41), (.int (9) 0), (.int (0) 0), (.ref 53), (.int (17) 0), (.int (0) 0), (.ref 70), (.int (19) 0), (.int (0) 0), (.ref 77), (.int (21) 0), (.int (0) 0), (.ref 84)].toArray), [].toArray⟩
def GD (P : Params) : Obj := ⟨(.type "tuple"), none, (.seq [(.type "ValueError")].toArray 0), [].toArray⟩
def GJ (P : Params) : Obj := ⟨(.type "builtin_function_or_method"), none, (.fields [(.builtin "type.__prepare__"), (.type "type")].toArray), [].toArray⟩
def GX (P : Params) : Obj := ⟨(.type "dict"), none, (.dict [E P "__module__" 196 (.str (S "givenback.errors") 187), E P "__qualname__" 198 (.str (S "WorkError") 197), E P "__firstlineno__" 200 (.int (2) 199), E P "__init__" 209 (.ref 29), E P "__static_attributes__" 211 (.ref 30)].toArray 5), [].toArray⟩
def GZ (P : Params) : Obj := ⟨(.type "tuple"), none, (.seq [].toArray 0), [].toArray⟩
def G4 (P : Params) : Obj := ⟨.none, none, (.fields [(.int (4) 0), (.int (4) 0), (.ref 28)].toArray), [].toArray⟩
def G6 (P : Params) : Obj := ⟨(.type "code"), none, (.fields [(.str (S "WorkError") 191), (.str (S "WorkError") 192), (.str (S "/claim/cut.py") 193), (.int (2) 0), (.int (0) 0), (.int (0) 0), (.int (0) 0), (.int (0) 0), (.ref 18), (.bool false), (.int (181) 0), (.ref 19), .none, .none, .none, .none, (.int (194) 0), (.int (2) 0), (.str (S "/claim/cut.py") 195)].toArray), [].toArray⟩
def G8 (P : Params) : Obj := ⟨(.type "frame"), none, .plain, [(some (.ref 20)), (some (.ref 3)), (some (.ref 17)), none, (some (.str (S "givenback.errors") 187)), none, (some (.ref 0))].toArray⟩
def Cz (P : Params) : Obj := ⟨(.type "tuple"), none, (.seq [(.str (S "refused") 201)].toArray 0), [].toArray⟩
def CG (P : Params) : Obj := ⟨(.type "tuple"), none, (.seq [].toArray 0), [].toArray⟩
def CJ (P : Params) : Obj := ⟨.none, none, (.fields [].toArray), [].toArray⟩
def CK (P : Params) : Obj := ⟨(.type "tuple"), none, (.seq [(.str (S "self") 205), (.str (S "why") 206)].toArray 0), [].toArray⟩
def CN (P : Params) : Obj := ⟨(.type "tuple"), none, (.seq [].toArray 0), [].toArray⟩
def zE (P : Params) : Obj := ⟨.none, none, (.func ⟨(S "__init__"), (S "WorkError.__init__"), L2.defArgs (L2.inClass (top 1) 0), .stmts (L2.defBody (L2.inClass (top 1) 0)), L2.defScope (L2.inClass (top 1) 0), 0, [], .none, .none, .none, .none, none, .none, .none, 0⟩), [].toArray⟩
def CP (P : Params) : Obj := ⟨(.type "code"), none, (.fields [(.str (S "__init__") 202), (.str (S "WorkError.__init__") 203), (.str (S "/claim/cut.py") 204), (.int (4) 0), (.int (2) 0), (.int (0) 0), (.int (0) 0), (.int (3) 0), (.ref 23), (.bool true), (.int (181) 0), (.ref 24), .none, (.ref 25), (.ref 26), (.ref 27), (.int (207) 0), (.int (4) 0), (.str (S "/claim/cut.py") 208)].toArray), [].toArray⟩
def CQ (P : Params) : Obj := ⟨(.type "function"), none, (.func ⟨(S "__init__"), (S "WorkError.__init__"), L2.defArgs (L2.inClass (top 1) 0), .stmts (L2.defBody (L2.inClass (top 1) 0)), L2.defScope (L2.inClass (top 1) 0), 3, [], (.ref 22), .none, .none, (.str (S "givenback.errors") 187), none, (.ref 28), .none, 0⟩), [].toArray⟩
def CT (P : Params) : Obj := ⟨(.type "tuple"), none, (.seq [(.str (S "why") 210)].toArray 0), [].toArray⟩
def CV (P : Params) : Obj := ⟨(.type "dict"), none, (.dict [E P "__module__" 196 (.str (S "givenback.errors") 187), E P "__firstlineno__" 200 (.int (2) 199), E P "__init__" 209 (.ref 29), E P "__static_attributes__" 211 (.ref 30), E P "__weakref__" 213 (.ref 33), E P "__doc__" 214 .none].toArray 3), [].toArray⟩
def CW (P : Params) : Obj := ⟨(.type "type"), none, (.cls ⟨(S "WorkError"), [(.type "ValueError")], [(.ref 32), (.type "ValueError"), (.type "Exception"), (.type "BaseException"), (.type "object")], 31, (S "WorkError"), true, [], [(.ref 45), (.ref 64)], false, none, false⟩), [(some (.ref 15)), none, (some (.str (S "WorkError") 189)), (some (.str (S "WorkError") 197)), (some (.builtin "ValueError.__new__")), (some (.bool true))].toArray⟩
def CZ (P : Params) : Obj := ⟨(.type "getset_descriptor"), none, (.fields [(.str (S "__weakref__") 212), (.ref 32), (.builtin "ExceptionGroup.__weakref__"), .none].toArray), [].toArray⟩
def G9 (P : Params) : Obj := ⟨(.type "super"), none, (.fields [(.ref 32), (.ref 32), (.ref 32)].toArray), [].toArray⟩
def Hf (P : Params) : Obj := ⟨(.type "builtin_function_or_method"), none, (.fields [(.builtin "object.__init_subclass__"), (.ref 32)].toArray), [].toArray⟩
def Hg (P : Params) : Obj := ⟨(.type "tuple"), none, (.seq [(.ref 32)].toArray 0), [].toArray⟩
def Hh (P : Params) : Obj := ⟨(.type "builtin_function_or_method"), none, (.fields [(.builtin "type.__prepare__"), (.type "type")].toArray), [].toArray⟩
def Hi (P : Params) : Obj := ⟨(.type "dict"), none, (.dict [E P "__module__" 224 (.str (S "givenback.errors") 187), E P "__qualname__" 226 (.str (S "BadRun") 225), E P "__firstlineno__" 228 (.int (7) 227), E P "__static_attributes__" 229 (.ref 43)].toArray 4), [].toArray⟩
def Tt (P : Params) : Obj := ⟨(.type "tuple"), none, (.seq [].toArray 0), [].toArray⟩
def Tw (P : Params) : Obj := ⟨.none, none, (.fields [].toArray), [].toArray⟩
def Tz (P : Params) : Obj := ⟨(.type "code"), none, (.fields [(.str (S "BadRun") 219), (.str (S "BadRun") 220), (.str (S "/claim/cut.py") 221), (.int (7) 0), (.int (0) 0), (.int (0) 0), (.int (0) 0), (.int (0) 0), (.ref 39), (.bool false), (.int (181) 0), (.ref 40), .none, .none, .none, .none, (.int (222) 0), (.int (7) 0), (.str (S "/claim/cut.py") 223)].toArray), [].toArray⟩
def TF (P : Params) : Obj := ⟨(.type "frame"), none, .plain, [(some (.ref 41)), (some (.ref 3)), (some (.ref 38)), none, (some (.str (S "givenback.errors") 187)), none, (some (.ref 0))].toArray⟩
def Dc (P : Params) : Obj := ⟨(.type "tuple"), none, (.seq [].toArray 0), [].toArray⟩
def Hj (P : Params) : Obj := ⟨(.type "dict"), none, (.dict [E P "__module__" 224 (.str (S "givenback.errors") 187), E P "__firstlineno__" 228 (.int (7) 227), E P "__static_attributes__" 229 (.ref 43), E P "__doc__" 230 .none].toArray 2), [].toArray⟩
def Hl (P : Params) : Obj := ⟨(.type "type"), none, (.cls ⟨(S "BadRun"), [(.ref 32)], [(.ref 45), (.ref 32), (.type "ValueError"), (.type "Exception"), (.type "BaseException"), (.type "object")], 44, (S "BadRun"), true, [], [], false, none, false⟩), [(some (.ref 36)), none, (some (.str (S "BadRun") 217)), (some (.str (S "BadRun") 225)), (some (.builtin "ValueError.__new__")), (some (.bool true))].toArray⟩
def TJ (P : Params) : Obj := ⟨(.type "super"), none, (.fields [(.ref 45), (.ref 45), (.ref 45)].toArray), [].toArray⟩
def TQ (P : Params) : Obj := ⟨(.type "builtin_function_or_method"), none, (.fields [(.builtin "object.__init_subclass__"), (.ref 45)].toArray), [].toArray⟩
def TV (P : Params) : Obj := ⟨(.type "tuple"), none, (.seq [(.ref 32)].toArray 0), [].toArray⟩
def TX (P : Params) : Obj := ⟨(.type "builtin_function_or_method"), none, (.fields [(.builtin "type.__prepare__"), (.type "type")].toArray), [].toArray⟩
def TY (P : Params) : Obj := ⟨(.type "dict"), none, (.dict [E P "__module__" 240 (.str (S "givenback.errors") 187), E P "__qualname__" 242 (.str (S "Broken") 241), E P "__firstlineno__" 244 (.int (9) 243), E P "__init__" 253 (.ref 61), E P "__static_attributes__" 255 (.ref 62)].toArray 5), [].toArray⟩
def T5 (P : Params) : Obj := ⟨(.type "tuple"), none, (.seq [].toArray 0), [].toArray⟩
def T6 (P : Params) : Obj := ⟨.none, none, (.fields [(.int (11) 0), (.int (4) 0), (.ref 60)].toArray), [].toArray⟩
def T7 (P : Params) : Obj := ⟨(.type "code"), none, (.fields [(.str (S "Broken") 235), (.str (S "Broken") 236), (.str (S "/claim/cut.py") 237), (.int (9) 0), (.int (0) 0), (.int (0) 0), (.int (0) 0), (.int (0) 0), (.ref 51), (.bool false), (.int (181) 0), (.ref 52), .none, .none, .none, .none, (.int (238) 0), (.int (9) 0), (.str (S "/claim/cut.py") 239)].toArray), [].toArray⟩
def Ho (P : Params) : Obj := ⟨(.type "frame"), none, .plain, [(some (.ref 53)), (some (.ref 3)), (some (.ref 50)), none, (some (.str (S "givenback.errors") 187)), none, (some (.ref 0))].toArray⟩
def Dd (P : Params) : Obj := ⟨(.type "tuple"), none, (.seq [].toArray 0), [].toArray⟩
def Df (P : Params) : Obj := ⟨.none, none, (.fields [].toArray), [].toArray⟩
def Dg (P : Params) : Obj := ⟨(.type "tuple"), none, (.seq [(.str (S "self") 248), (.str (S "at") 249), (.str (S "why") 250)].toArray 0), [].toArray⟩
def Dh (P : Params) : Obj := ⟨(.type "tuple"), none, (.seq [].toArray 0), [].toArray⟩
def Di (P : Params) : Obj := ⟨.none, none, (.func ⟨(S "__init__"), (S "Broken.__init__"), L2.defArgs (L2.inClass (top 3) 0), .stmts (L2.defBody (L2.inClass (top 3) 0)), L2.defScope (L2.inClass (top 3) 0), 0, [], .none, .none, .none, .none, none, .none, .none, 0⟩), [].toArray⟩
def Dj (P : Params) : Obj := ⟨(.type "code"), none, (.fields [(.str (S "__init__") 245), (.str (S "Broken.__init__") 246), (.str (S "/claim/cut.py") 247), (.int (11) 0), (.int (3) 0), (.int (0) 0), (.int (0) 0), (.int (3) 0), (.ref 55), (.bool true), (.int (181) 0), (.ref 56), .none, (.ref 57), (.ref 58), (.ref 59), (.int (251) 0), (.int (11) 0), (.str (S "/claim/cut.py") 252)].toArray), [].toArray⟩
def Dk (P : Params) : Obj := ⟨(.type "function"), none, (.func ⟨(S "__init__"), (S "Broken.__init__"), L2.defArgs (L2.inClass (top 3) 0), .stmts (L2.defBody (L2.inClass (top 3) 0)), L2.defScope (L2.inClass (top 3) 0), 3, [], .none, .none, .none, (.str (S "givenback.errors") 187), none, (.ref 60), .none, 0⟩), [].toArray⟩
def Dm (P : Params) : Obj := ⟨(.type "tuple"), none, (.seq [(.str (S "at") 254)].toArray 0), [].toArray⟩
def Dq (P : Params) : Obj := ⟨(.type "dict"), none, (.dict [E P "__module__" 240 (.str (S "givenback.errors") 187), E P "__firstlineno__" 244 (.int (9) 243), E P "__init__" 253 (.ref 61), E P "__static_attributes__" 255 (.ref 62), E P "__doc__" 256 .none].toArray 2), [].toArray⟩
def Dr (P : Params) : Obj := ⟨(.type "type"), none, (.cls ⟨(S "Broken"), [(.ref 32)], [(.ref 64), (.ref 32), (.type "ValueError"), (.type "Exception"), (.type "BaseException"), (.type "object")], 63, (S "Broken"), true, [], [], false, none, false⟩), [(some (.ref 48)), none, (some (.str (S "Broken") 233)), (some (.str (S "Broken") 241)), (some (.builtin "ValueError.__new__")), (some (.bool true))].toArray⟩
def Hq (P : Params) : Obj := ⟨(.type "super"), none, (.fields [(.ref 64), (.ref 64), (.ref 64)].toArray), [].toArray⟩
def Hr (P : Params) : Obj := ⟨(.type "builtin_function_or_method"), none, (.fields [(.builtin "object.__init_subclass__"), (.ref 64)].toArray), [].toArray⟩
def Ds (P : Params) : Obj := ⟨(.type "tuple"), none, (.seq [].toArray 0), [].toArray⟩
def Dt (P : Params) : Obj := ⟨.none, none, (.fields [].toArray), [].toArray⟩
def Du (P : Params) : Obj := ⟨.none, none, (.func ⟨(S "is_name"), (S "is_name"), L2.defArgs (top 7), .stmts (L2.defBody (top 7)), L2.defScope (top 7), 0, [], .none, .none, .none, .none, none, .none, .none, 0⟩), [].toArray⟩
def Dy (P : Params) : Obj := ⟨(.type "code"), none, (.fields [(.str (S "is_name") 265), (.str (S "is_name") 266), (.str (S "/claim/cut.py") 267), (.int (17) 0), (.int (1) 0), (.int (0) 0), (.int (0) 0), (.int (3) 0), (.ref 67), (.bool true), (.int (181) 0), (.ref 68), .none, .none, .none, (.ref 69), (.int (268) 0), (.int (17) 0), (.str (S "/claim/cut.py") 269)].toArray), [].toArray⟩
def Ht (P : Params) : Obj := ⟨(.type "function"), none, (.func ⟨(S "is_name"), (S "is_name"), L2.defArgs (top 7), .stmts (L2.defBody (top 7)), L2.defScope (top 7), 3, [], .none, .none, .none, (.str (S "givenback.words") 259), none, (.ref 70), .none, 0⟩), [].toArray⟩
def Hu (P : Params) : Obj := ⟨(.type "tuple"), none, (.seq [].toArray 0), [].toArray⟩
def Hv (P : Params) : Obj := ⟨.none, none, (.fields [].toArray), [].toArray⟩
def Hw (P : Params) : Obj := ⟨(.type "tuple"), none, (.seq [(.str (S "thing") 274), (.str (S "least") 275), (.str (S "most") 276)].toArray 0), [].toArray⟩
def Dz (P : Params) : Obj := ⟨(.type "tuple"), none, (.seq [].toArray 0), [].toArray⟩
def Hz (P : Params) : Obj := ⟨.none, none, (.func ⟨(S "is_whole"), (S "is_whole"), L2.defArgs (top 8), .stmts (L2.defBody (top 8)), L2.defScope (top 8), 0, [], .none, .none, .none, .none, none, .none, .none, 0⟩), [].toArray⟩
def HD (P : Params) : Obj := ⟨(.type "code"), none, (.fields [(.str (S "is_whole") 271), (.str (S "is_whole") 272), (.str (S "/claim/cut.py") 273), (.int (19) 0), (.int (1) 0), (.int (0) 0), (.int (2) 0), (.int (3) 0), (.ref 72), (.bool true), (.int (181) 0), (.ref 73), .none, (.ref 74), (.ref 75), (.ref 76), (.int (277) 0), (.int (19) 0), (.str (S "/claim/cut.py") 278)].toArray), [].toArray⟩
def HF (P : Params) : Obj := ⟨(.type "function"), none, (.func ⟨(S "is_whole"), (S "is_whole"), L2.defArgs (top 8), .stmts (L2.defBody (top 8)), L2.defScope (top 8), 3, [], .none, .none, .none, (.str (S "givenback.words") 259), none, (.ref 77), .none, 0⟩), [].toArray⟩
def HJ (P : Params) : Obj := ⟨(.type "tuple"), none, (.seq [].toArray 0), [].toArray⟩
def HS (P : Params) : Obj := ⟨.none, none, (.fields [].toArray), [].toArray⟩
def HW (P : Params) : Obj := ⟨(.type "tuple"), none, (.seq [(.str (S "thing") 283)].toArray 0), [].toArray⟩
def HX (P : Params) : Obj := ⟨(.type "tuple"), none, (.seq [].toArray 0), [].toArray⟩
def HY (P : Params) : Obj := ⟨.none, none, (.func ⟨(S "is_number"), (S "is_number"), L2.defArgs (top 9), .stmts (L2.defBody (top 9)), L2.defScope (top 9), 0, [], .none, .none, .none, .none, none, .none, .none, 0⟩), [].toArray⟩
def Ib (P : Params) : Obj := ⟨(.type "code"), none, (.fields [(.str (S "is_number") 280), (.str (S "is_number") 281), (.str (S "/claim/cut.py") 282), (.int (21) 0), (.int (1) 0), (.int (0) 0), (.int (0) 0), (.int (3) 0), (.ref 79), (.bool true), (.int (181) 0), (.ref 80), .none, (.ref 81), (.ref 82), (.ref 83), (.int (284) 0), (.int (21) 0), (.str (S "/claim/cut.py") 285)].toArray), [].toArray⟩
def Ie (P : Params) : Obj := ⟨(.type "function"), none, (.func ⟨(S "is_number"), (S "is_number"), L2.defArgs (top 9), .stmts (L2.defBody (top 9)), L2.defScope (top 9), 3, [], .none, .none, .none, (.str (S "givenback.words") 259), none, (.ref 84), .none, 0⟩), [].toArray⟩
def b3 (P : Params) : BT := (.node (TQ P) (ak (HJ P)) .nil)
def b4 (P : Params) : BT := (.node (Tt P) (ak (Ht P)) .nil)
def b5 (P : Params) : BT := (.node (T5 P) (ak (HY P)) .nil)
def b6 (P : Params) : BT := (.node (Dc P) (ak (Dz P)) .nil)
def b7 (P : Params) : BT := (.node (TX P) (ak (HW P)) .nil)
def b8 (P : Params) : BT := (.node (Tz P) (ak (Hv P)) .nil)
def b9 (P : Params) : BT := (.node (T7 P) (ak (Ie P)) .nil)
def b10 (P : Params) : BT := (.node (Hl P) (ak (HD P)) .nil)
def b11 (P : Params) : BT := (.node (TV P) (ak (HS P)) .nil)
def b12 (P : Params) : BT := (.node (Tw P) (ak (Hu P)) .nil)
def b13 (P : Params) : BT := (.node (T6 P) (ak (Ib P)) .nil)
def b14 (P : Params) : BT := (.node (Hj P) (ak (Hz P)) .nil)
def b15 (P : Params) : BT := (.node (TY P) (ak (HX P)) .nil)
def b16 (P : Params) : BT := (.node (TF P) (ak (Hw P)) .nil)
def b17 (P : Params) : BT := (.node (TJ P) (ak (HF P)) .nil)
def t2 (P : Params) : BT := (.node (zq P) (.node (Bj P) (.node (akL P) (.node (Fo P) (.node (GD P) (.node (CV P) (ak (Dq P)) .nil) (b3 P)) (.node (CG P) (b4 P) (ak (Dd P)))) (.node (yd P) (.node (G4 P) (.node (Hf P) (ak (Ds P)) .nil) (b5 P)) (.node (zE P) (b6 P) (ak (Di P))))) (.node (Fl P) (.node (Fq P) (.node (GX P) (.node (CZ P) (ak (Hq P)) .nil) (b7 P)) (.node (CK P) (b8 P) (ak (Dg P)))) (.node (zA P) (.node (G8 P) (.node (Hh P) (ak (Du P)) .nil) (b9 P)) (.node (CQ P) (b10 P) (ak (Dk P)))))) (.node (Bl P) (.node (Bm P) (.node (Fp P) (.node (GJ P) (.node (CW P) (ak (Dr P)) .nil) (b11 P)) (.node (CJ P) (b12 P) (ak (Df P)))) (.node (afp P) (.node (G6 P) (.node (Hg P) (ak (Dt P)) .nil) (b13 P)) (.node (CP P) (b14 P) (ak (Dj P))))) (.node (Bo P) (.node (zu P) (.node (GZ P) (.node (G9 P) (ak (Hr P)) .nil) (b15 P)) (.node (CN P) (b16 P) (ak (Dh P)))) (.node (zB P) (.node (Cz P) (.node (Hi P) (ak (Dy P)) .nil) (ak (Ho P))) (.node (CT P) (b17 P) (ak (Dm P)))))))
def S2 (w : World) (os : OsState) : SharedT := ⟨t2 w.params, 86, ⟨[], [], [], 0, [], [], false, [].toArray, [], 0, false, false, false, 0, [2000, 10, 10], false, 0, true, [], [], 0, false⟩, #[], ⟨0, 0, 0, 0⟩, 289, os⟩
theorem p2 (w : World) : ∀ os : OsState, HP.Piece PySem.Challenge.pw_givenback_k22_kills_seen_and_landed w n0 yg env0 q0 c0 pC 0 11 811 (S1 w os) (S2 w os) ⟨0, 0, 0, 0⟩ ⟨23, 0, 23, 8⟩ := by
  intro os
  unfold HP.Piece
  kernel_rfl
def akM (P : Params) : Obj := ⟨(.type "dict"), none, (.dict [E P "__name__" 165 (.str (S "givenback.rowforms") 287), E P "__doc__" 166 .none, E P "__package__" 167 .none, E P "__loader__" 168 (.builtin "__main__.__loader__#opaque"), E P "__spec__" 169 .none, E P "__annotations__" 170 (.ref 6), E P "__builtins__" 171 (.ref 4), E P "__file__" 173 (.str (S "/claim/cut.py") 172), E P "__cached__" 174 .none, E P "WorkError" 216 (.ref 32), E P "BadRun" 232 (.ref 45), E P "Broken" 258 (.ref 64), E P "LETTERS" 262 (.str (S "abcdefghijklmnopqrstuvwxyz") 261), E P "LONGEST" 264 (.int (8) 263), E P "is_name" 270 (.ref 71), E P "is_whole" 279 (.ref 78), E P "is_number" 286 (.ref 85), E P "FORMS" 351 (.ref 86)].toArray 18), [].toArray⟩
def Ig (P : Params) : Obj := ⟨(.type "dict"), none, (.dict [E P "tell" 289 (.ref 87), E P "add" 293 (.ref 88), E P "failed" 298 (.ref 89), E P "rescued" 302 (.ref 90), E P "got" 306 (.ref 91), E P "given" 310 (.ref 92), E P "masked" 314 (.ref 93), E P "opened" 317 (.ref 94), E P "last" 320 (.ref 95), E P "lasted" 323 (.ref 96), E P "begun" 326 (.ref 97), E P "kill" 332 (.ref 98), E P "late" 336 (.ref 99), E P "nobody" 340 (.ref 100), E P "landed" 344 (.ref 101), E P "ended" 347 (.ref 102)].toArray 16), [].toArray⟩
def Ih (P : Params) : Obj := ⟨(.type "tuple"), none, (.seq [(.str (S "task") 290), (.str (S "number") 291)].toArray 0), [].toArray⟩
def Ii (P : Params) : Obj := ⟨(.type "tuple"), none, (.seq [(.str (S "task") 294), (.str (S "name") 295), (.str (S "number") 296)].toArray 0), [].toArray⟩
def Ij (P : Params) : Obj := ⟨(.type "tuple"), none, (.seq [(.str (S "task") 299), (.str (S "name") 300)].toArray 0), [].toArray⟩
def Ik (P : Params) : Obj := ⟨(.type "tuple"), none, (.seq [(.str (S "task") 303), (.str (S "name") 304)].toArray 0), [].toArray⟩
def Il (P : Params) : Obj := ⟨(.type "tuple"), none, (.seq [(.str (S "task") 307), (.str (S "name") 308)].toArray 0), [].toArray⟩
def Io (P : Params) : Obj := ⟨(.type "tuple"), none, (.seq [(.str (S "task") 311), (.str (S "name") 312)].toArray 0), [].toArray⟩
def Ip (P : Params) : Obj := ⟨(.type "tuple"), none, (.seq [(.str (S "task") 315)].toArray 0), [].toArray⟩
def Ir (P : Params) : Obj := ⟨(.type "tuple"), none, (.seq [(.str (S "task") 318)].toArray 0), [].toArray⟩
def Iu (P : Params) : Obj := ⟨(.type "tuple"), none, (.seq [(.str (S "task") 321)].toArray 0), [].toArray⟩
def Iw (P : Params) : Obj := ⟨(.type "tuple"), none, (.seq [(.str (S "task") 324)].toArray 0), [].toArray⟩
def Iz (P : Params) : Obj := ⟨(.type "tuple"), none, (.seq [(.str (S "task") 327), (.str (S "task") 328), (.str (S "name") 329), (.str (S "task") 330)].toArray 0), [].toArray⟩
def IK (P : Params) : Obj := ⟨(.type "tuple"), none, (.seq [(.str (S "doer") 333), (.str (S "task") 334)].toArray 0), [].toArray⟩
def IV (P : Params) : Obj := ⟨(.type "tuple"), none, (.seq [(.str (S "doer") 337), (.str (S "task") 338)].toArray 0), [].toArray⟩
def Bp (P : Params) : Obj := ⟨(.type "tuple"), none, (.seq [(.str (S "task") 341), (.str (S "name") 342)].toArray 0), [].toArray⟩
def Bq (P : Params) : Obj := ⟨(.type "tuple"), none, (.seq [(.str (S "task") 345)].toArray 0), [].toArray⟩
def Br (P : Params) : Obj := ⟨(.type "tuple"), none, (.seq [(.str (S "task") 348), (.str (S "outcome") 349)].toArray 0), [].toArray⟩
def t3 (P : Params) : BT := (.node (zq P) (.node (Bj P) (.node (akM P) (.node (Fo P) (.node (GD P) (.node (CV P) (ak (Dq P)) (ak (Iu P))) (b3 P)) (.node (CG P) (b4 P) (.node (Dd P) (ak (Ih P)) .nil))) (.node (yd P) (.node (G4 P) (.node (Hf P) (ak (Ds P)) (ak (IV P))) (b5 P)) (.node (zE P) (b6 P) (.node (Di P) (ak (Il P)) .nil)))) (.node (Fl P) (.node (Fq P) (.node (GX P) (.node (CZ P) (ak (Hq P)) (ak (Iz P))) (b7 P)) (.node (CK P) (b8 P) (.node (Dg P) (ak (Ij P)) .nil))) (.node (zA P) (.node (G8 P) (.node (Hh P) (ak (Du P)) (ak (Bq P))) (b9 P)) (.node (CQ P) (b10 P) (.node (Dk P) (ak (Ip P)) .nil))))) (.node (Bl P) (.node (Bm P) (.node (Fp P) (.node (GJ P) (.node (CW P) (ak (Dr P)) (ak (Iw P))) (b11 P)) (.node (CJ P) (b12 P) (.node (Df P) (ak (Ii P)) .nil))) (.node (afp P) (.node (G6 P) (.node (Hg P) (ak (Dt P)) (ak (Bp P))) (b13 P)) (.node (CP P) (b14 P) (.node (Dj P) (ak (Io P)) .nil)))) (.node (Bo P) (.node (zu P) (.node (GZ P) (.node (G9 P) (ak (Hr P)) (ak (IK P))) (b15 P)) (.node (CN P) (b16 P) (.node (Dh P) (ak (Ik P)) .nil))) (.node (zB P) (.node (Cz P) (.node (Hi P) (ak (Dy P)) (ak (Br P))) (.node (Ho P) (ak (Ig P)) .nil)) (.node (CT P) (b17 P) (.node (Dm P) (ak (Ir P)) .nil))))))
def S3 (w : World) (os : OsState) : SharedT := ⟨t3 w.params, 103, ⟨[], [], [], 0, [], [], false, [].toArray, [], 0, false, false, false, 0, [2000, 10, 10], false, 0, true, [], [], 0, false⟩, #[], ⟨0, 0, 0, 0⟩, 352, os⟩
theorem akN (w : World) : ∀ os : OsState, HP.Piece PySem.Challenge.pw_givenback_k22_kills_seen_and_landed (w.withFollow "special-get-raises" false) n0 yg env0 q0 c0 pC 11 1 298 (S2 (w.withFollow "special-get-raises" false) os) (S3 (w.withFollow "special-get-raises" false) os) ⟨23, 0, 23, 8⟩ ⟨24, 0, 24, 5⟩ := by
  intro os
  unfold HP.Piece
  kernel_rfl
theorem akO (w : World) : ∀ os : OsState, HP.Piece PySem.Challenge.pw_givenback_k22_kills_seen_and_landed (w.withFollow "special-get-raises" true) n0 yg env0 q0 c0 pC 11 1 298 (S2 (w.withFollow "special-get-raises" true) os) (S3 (w.withFollow "special-get-raises" true) os) ⟨23, 0, 23, 8⟩ ⟨24, 0, 24, 5⟩ := by
  intro os
  unfold HP.Piece
  kernel_rfl
theorem p3 (w : World) : ∀ os : OsState, HP.Piece PySem.Challenge.pw_givenback_k22_kills_seen_and_landed w n0 yg env0 q0 c0 pC 11 1 298 (S2 w os) (S3 w os) ⟨23, 0, 23, 8⟩ ⟨24, 0, 24, 5⟩ := byRow2 "special-get-raises" (P := fun w => ∀ os : OsState, HP.Piece PySem.Challenge.pw_givenback_k22_kills_seen_and_landed w n0 yg env0 q0 c0 pC 11 1 298 (S2 w os) (S3 w os) ⟨23, 0, 23, 8⟩ ⟨24, 0, 24, 5⟩) akN akO w
def akP (P : Params) : Obj := ⟨(.type "dict"), none, (.dict [E P "__name__" 165 (.str (S "givenback.watch") 395), E P "__doc__" 166 .none, E P "__package__" 167 .none, E P "__loader__" 168 (.builtin "__main__.__loader__#opaque"), E P "__spec__" 169 .none, E P "__annotations__" 170 (.ref 6), E P "__builtins__" 171 (.ref 4), E P "__file__" 173 (.str (S "/claim/cut.py") 172), E P "__cached__" 174 .none, E P "WorkError" 216 (.ref 32), E P "BadRun" 232 (.ref 45), E P "Broken" 258 (.ref 64), E P "LETTERS" 262 (.str (S "abcdefghijklmnopqrstuvwxyz") 261), E P "LONGEST" 264 (.int (8) 263), E P "is_name" 270 (.ref 71), E P "is_whole" 279 (.ref 78), E P "is_number" 286 (.ref 85), E P "FORMS" 351 (.ref 86), E P "is_outcome" 358 (.ref 109), E P "is_count" 365 (.ref 116), E P "is_part" 373 (.ref 123), E P "is_log_row" 379 (.ref 128), E P "doer_of" 386 (.ref 135), E P "check_told" 394 (.ref 140), E P "ON" 398 (.ref 141), E P "KILLED" 400 (.ref 142), E P "MOST_TASKS" 402 (.int (12) 401), E P "PLAIN_SIZE" 404 (.int (1) 403), E P "Seen" 441 (.ref 159), E P "first_so" 450 (.ref 170), E P "ask_doing" 459 (.ref 177), E P "ask_begun" 470 (.ref 184), E P "ask_kill" 483 (.ref 191), E P "ask_late" 493 (.ref 198), E P "ask_nobody" 502 (.ref 205), E P "ask_got" 512 (.ref 212), E P "ask_given" 521 (.ref 219), E P "ask_landed" 530 (.ref 226), E P "ask_masked" 539 (.ref 233), E P "ask_opened" 548 (.ref 240), E P "ask_last" 557 (.ref 247), E P "ask_lasted" 566 (.ref 254), E P "ask_rescued" 575 (.ref 261), E P "ask_ended" 581 (.ref 266)].toArray 44), [].toArray⟩
def ajr (P : Params) : Obj := ⟨.none, none, (.fields [(.int (2) 0), (.int (0) 0), (.ref 20), (.int (7) 0), (.int (0) 0), (.ref 41), (.int (9) 0), (.int (0) 0), (.ref 53), (.int (17) 0), (.int (0) 0), (.ref 70), (.int (19) 0), (.int (0) 0), (.ref 77), (.int (21) 0), (.int (0) 0), (.ref 84), (.int (25) 0), (.int (0) 0), (.ref 108), (.int (29) 0), (.int (0) 0), (.ref 115), (.int (31) 0), (.int (0) 0), (.ref 122), (.int (41) 0), (.int (0) 0), (.ref 127), (.int (48) 0), (.int (0) 0), (.ref 134), (.int (53) 0), (.int (0) 0), (.ref 139), (.int (63) 0), (.int (0) 0), (.ref 148), (.int (73) 0), (.int (0) 0), (.ref 169), (.int (78) 0), (.int (0) 0), (.ref 176), (.int (80) 0), (.int (0) 0), (.ref 183), (.int (84) 0), (.int (0) 0), (.ref 190), (.int (92) 0), (.int (0) 0), (.ref 197), (.int (97) 0), (.int (0) 0), (.ref 204), (.int (99) 0), (.int (0) 0), (.ref 211), (.int (102) 0), (.int (0) 0), (.ref 218), (.int (106) 0), (.int (0) 0), (.ref 225), (.int (108) 0), (.int (0) 0), (.ref 232), (.int (110) 0), (.int (0) 0), (.ref 239), (.int (112) 0), (.int (0) 0), (.ref 246), (.int (114) 0), (.int (0) 0), (.ref 253), (.int (116) 0), (.int (0) 0), (.ref 260), (.int (118) 0), (.int (0) 0), (.ref 265)].toArray), [].toArray⟩
def IW (P : Params) : Obj := ⟨(.type "tuple"), none, (.seq [].toArray 0), [].toArray⟩
def Ja (P : Params) : Obj := ⟨.none, none, (.fields [].toArray), [].toArray⟩
def Jb (P : Params) : Obj := ⟨(.type "tuple"), none, (.seq [(.str (S "thing") 355)].toArray 0), [].toArray⟩
def Jc (P : Params) : Obj := ⟨(.type "tuple"), none, (.seq [].toArray 0), [].toArray⟩
def Jd (P : Params) : Obj := ⟨.none, none, (.func ⟨(S "is_outcome"), (S "is_outcome"), L2.defArgs (top 12), .stmts (L2.defBody (top 12)), L2.defScope (top 12), 0, [], .none, .none, .none, .none, none, .none, .none, 0⟩), [].toArray⟩
def Je (P : Params) : Obj := ⟨(.type "code"), none, (.fields [(.str (S "is_outcome") 352), (.str (S "is_outcome") 353), (.str (S "/claim/cut.py") 354), (.int (25) 0), (.int (1) 0), (.int (0) 0), (.int (0) 0), (.int (3) 0), (.ref 103), (.bool true), (.int (181) 0), (.ref 104), .none, (.ref 105), (.ref 106), (.ref 107), (.int (356) 0), (.int (25) 0), (.str (S "/claim/cut.py") 357)].toArray), [].toArray⟩
def Jf (P : Params) : Obj := ⟨(.type "function"), none, (.func ⟨(S "is_outcome"), (S "is_outcome"), L2.defArgs (top 12), .stmts (L2.defBody (top 12)), L2.defScope (top 12), 3, [], .none, .none, .none, (.str (S "givenback.rowforms") 287), none, (.ref 108), .none, 0⟩), [].toArray⟩
def Jg (P : Params) : Obj := ⟨(.type "tuple"), none, (.seq [].toArray 0), [].toArray⟩
def Jh (P : Params) : Obj := ⟨.none, none, (.fields [].toArray), [].toArray⟩
def Ji (P : Params) : Obj := ⟨(.type "tuple"), none, (.seq [(.str (S "thing") 362)].toArray 0), [].toArray⟩
def Jj (P : Params) : Obj := ⟨(.type "tuple"), none, (.seq [].toArray 0), [].toArray⟩
def Jk (P : Params) : Obj := ⟨.none, none, (.func ⟨(S "is_count"), (S "is_count"), L2.defArgs (top 13), .stmts (L2.defBody (top 13)), L2.defScope (top 13), 0, [], .none, .none, .none, .none, none, .none, .none, 0⟩), [].toArray⟩
def Jl (P : Params) : Obj := ⟨(.type "code"), none, (.fields [(.str (S "is_count") 359), (.str (S "is_count") 360), (.str (S "/claim/cut.py") 361), (.int (29) 0), (.int (1) 0), (.int (0) 0), (.int (0) 0), (.int (3) 0), (.ref 110), (.bool true), (.int (181) 0), (.ref 111), .none, (.ref 112), (.ref 113), (.ref 114), (.int (363) 0), (.int (29) 0), (.str (S "/claim/cut.py") 364)].toArray), [].toArray⟩
def Jm (P : Params) : Obj := ⟨(.type "function"), none, (.func ⟨(S "is_count"), (S "is_count"), L2.defArgs (top 13), .stmts (L2.defBody (top 13)), L2.defScope (top 13), 3, [], .none, .none, .none, (.str (S "givenback.rowforms") 287), none, (.ref 115), .none, 0⟩), [].toArray⟩
def Jo (P : Params) : Obj := ⟨(.type "tuple"), none, (.seq [].toArray 0), [].toArray⟩
def Jp (P : Params) : Obj := ⟨.none, none, (.fields [].toArray), [].toArray⟩
def Jq (P : Params) : Obj := ⟨(.type "tuple"), none, (.seq [(.str (S "kind") 369), (.str (S "thing") 370)].toArray 0), [].toArray⟩
def Jr (P : Params) : Obj := ⟨(.type "tuple"), none, (.seq [].toArray 0), [].toArray⟩
def Jt (P : Params) : Obj := ⟨.none, none, (.func ⟨(S "is_part"), (S "is_part"), L2.defArgs (top 14), .stmts (L2.defBody (top 14)), L2.defScope (top 14), 0, [], .none, .none, .none, .none, none, .none, .none, 0⟩), [].toArray⟩
def Ju (P : Params) : Obj := ⟨(.type "code"), none, (.fields [(.str (S "is_part") 366), (.str (S "is_part") 367), (.str (S "/claim/cut.py") 368), (.int (31) 0), (.int (2) 0), (.int (0) 0), (.int (0) 0), (.int (3) 0), (.ref 117), (.bool true), (.int (181) 0), (.ref 118), .none, (.ref 119), (.ref 120), (.ref 121), (.int (371) 0), (.int (31) 0), (.str (S "/claim/cut.py") 372)].toArray), [].toArray⟩
def Jv (P : Params) : Obj := ⟨(.type "function"), none, (.func ⟨(S "is_part"), (S "is_part"), L2.defArgs (top 14), .stmts (L2.defBody (top 14)), L2.defScope (top 14), 3, [], .none, .none, .none, (.str (S "givenback.rowforms") 287), none, (.ref 122), .none, 0⟩), [].toArray⟩
def Jw (P : Params) : Obj := ⟨(.type "tuple"), none, (.seq [].toArray 0), [].toArray⟩
def Jx (P : Params) : Obj := ⟨.none, none, (.fields [].toArray), [].toArray⟩
def Jy (P : Params) : Obj := ⟨.none, none, (.func ⟨(S "is_log_row"), (S "is_log_row"), L2.defArgs (top 15), .stmts (L2.defBody (top 15)), L2.defScope (top 15), 0, [], .none, .none, .none, .none, none, .none, .none, 0⟩), [].toArray⟩
def Jz (P : Params) : Obj := ⟨(.type "code"), none, (.fields [(.str (S "is_log_row") 374), (.str (S "is_log_row") 375), (.str (S "/claim/cut.py") 376), (.int (41) 0), (.int (1) 0), (.int (0) 0), (.int (0) 0), (.int (3) 0), (.ref 124), (.bool true), (.int (181) 0), (.ref 125), .none, .none, .none, (.ref 126), (.int (377) 0), (.int (41) 0), (.str (S "/claim/cut.py") 378)].toArray), [].toArray⟩
def JB (P : Params) : Obj := ⟨(.type "function"), none, (.func ⟨(S "is_log_row"), (S "is_log_row"), L2.defArgs (top 15), .stmts (L2.defBody (top 15)), L2.defScope (top 15), 3, [], .none, .none, .none, (.str (S "givenback.rowforms") 287), none, (.ref 127), .none, 0⟩), [].toArray⟩
def JC (P : Params) : Obj := ⟨(.type "tuple"), none, (.seq [].toArray 0), [].toArray⟩
def JD (P : Params) : Obj := ⟨.none, none, (.fields [].toArray), [].toArray⟩
def JF (P : Params) : Obj := ⟨(.type "tuple"), none, (.seq [(.str (S "row") 383)].toArray 0), [].toArray⟩
def JG (P : Params) : Obj := ⟨(.type "tuple"), none, (.seq [].toArray 0), [].toArray⟩
def JH (P : Params) : Obj := ⟨.none, none, (.func ⟨(S "doer_of"), (S "doer_of"), L2.defArgs (top 16), .stmts (L2.defBody (top 16)), L2.defScope (top 16), 0, [], .none, .none, .none, .none, none, .none, .none, 0⟩), [].toArray⟩
def JK (P : Params) : Obj := ⟨(.type "code"), none, (.fields [(.str (S "doer_of") 380), (.str (S "doer_of") 381), (.str (S "/claim/cut.py") 382), (.int (48) 0), (.int (1) 0), (.int (0) 0), (.int (0) 0), (.int (3) 0), (.ref 129), (.bool true), (.int (181) 0), (.ref 130), .none, (.ref 131), (.ref 132), (.ref 133), (.int (384) 0), (.int (48) 0), (.str (S "/claim/cut.py") 385)].toArray), [].toArray⟩
def JL (P : Params) : Obj := ⟨(.type "function"), none, (.func ⟨(S "doer_of"), (S "doer_of"), L2.defArgs (top 16), .stmts (L2.defBody (top 16)), L2.defScope (top 16), 3, [], .none, .none, .none, (.str (S "givenback.rowforms") 287), none, (.ref 134), .none, 0⟩), [].toArray⟩
def JM (P : Params) : Obj := ⟨(.type "tuple"), none, (.seq [].toArray 0), [].toArray⟩
def JN (P : Params) : Obj := ⟨.none, none, (.fields [].toArray), [].toArray⟩
def JQ (P : Params) : Obj := ⟨.none, none, (.func ⟨(S "check_told"), (S "check_told"), L2.defArgs (top 18), .stmts (L2.defBody (top 18)), L2.defScope (top 18), 0, [], .none, .none, .none, .none, none, .none, .none, 0⟩), [].toArray⟩
def Bs (P : Params) : Obj := ⟨(.type "code"), none, (.fields [(.str (S "check_told") 389), (.str (S "check_told") 390), (.str (S "/claim/cut.py") 391), (.int (53) 0), (.int (2) 0), (.int (0) 0), (.int (0) 0), (.int (3) 0), (.ref 136), (.bool true), (.int (181) 0), (.ref 137), .none, .none, .none, (.ref 138), (.int (392) 0), (.int (53) 0), (.str (S "/claim/cut.py") 393)].toArray), [].toArray⟩
def JR (P : Params) : Obj := ⟨(.type "function"), none, (.func ⟨(S "check_told"), (S "check_told"), L2.defArgs (top 18), .stmts (L2.defBody (top 18)), L2.defScope (top 18), 3, [], .none, .none, .none, (.str (S "givenback.run") 387), none, (.ref 139), .none, 0⟩), [].toArray⟩
def JT (P : Params) : Obj := ⟨(.type "tuple"), none, (.seq [(.str (S "on") 397)].toArray 0), [].toArray⟩
def JV (P : Params) : Obj := ⟨(.type "tuple"), none, (.seq [(.str (S "killed") 399)].toArray 0), [].toArray⟩
def Vb (P : Params) : Obj := ⟨(.type "tuple"), none, (.seq [].toArray 0), [].toArray⟩
def Vc (P : Params) : Obj := ⟨(.type "builtin_function_or_method"), none, (.fields [(.builtin "type.__prepare__"), (.type "type")].toArray), [].toArray⟩
def Vd (P : Params) : Obj := ⟨(.type "dict"), none, (.dict [E P "__module__" 412 (.str (S "givenback.watch") 395), E P "__qualname__" 414 (.str (S "Seen") 413), E P "__firstlineno__" 416 (.int (63) 415), E P "__init__" 425 (.ref 156), E P "__static_attributes__" 434 (.ref 157)].toArray 5), [].toArray⟩
def Ve (P : Params) : Obj := ⟨(.type "tuple"), none, (.seq [].toArray 0), [].toArray⟩
def Vf (P : Params) : Obj := ⟨.none, none, (.fields [(.int (65) 0), (.int (4) 0), (.ref 155)].toArray), [].toArray⟩
def Vg (P : Params) : Obj := ⟨(.type "code"), none, (.fields [(.str (S "Seen") 407), (.str (S "Seen") 408), (.str (S "/claim/cut.py") 409), (.int (63) 0), (.int (0) 0), (.int (0) 0), (.int (0) 0), (.int (0) 0), (.ref 146), (.bool false), (.int (181) 0), (.ref 147), .none, .none, .none, .none, (.int (410) 0), (.int (63) 0), (.str (S "/claim/cut.py") 411)].toArray), [].toArray⟩
def Vh (P : Params) : Obj := ⟨(.type "frame"), none, .plain, [(some (.ref 148)), (some (.ref 3)), (some (.ref 145)), none, (some (.str (S "givenback.watch") 395)), none, (some (.ref 0))].toArray⟩
def JW (P : Params) : Obj := ⟨(.type "tuple"), none, (.seq [].toArray 0), [].toArray⟩
def JX (P : Params) : Obj := ⟨.none, none, (.fields [].toArray), [].toArray⟩
def JZ (P : Params) : Obj := ⟨(.type "tuple"), none, (.seq [(.str (S "self") 420), (.str (S "beginner") 421), (.str (S "called") 422)].toArray 0), [].toArray⟩
def J8 (P : Params) : Obj := ⟨(.type "tuple"), none, (.seq [].toArray 0), [].toArray⟩
def J9 (P : Params) : Obj := ⟨.none, none, (.func ⟨(S "__init__"), (S "Seen.__init__"), L2.defArgs (L2.inClass (top 24) 0), .stmts (L2.defBody (L2.inClass (top 24) 0)), L2.defScope (L2.inClass (top 24) 0), 0, [], .none, .none, .none, .none, none, .none, .none, 0⟩), [].toArray⟩
def Ka (P : Params) : Obj := ⟨(.type "code"), none, (.fields [(.str (S "__init__") 417), (.str (S "Seen.__init__") 418), (.str (S "/claim/cut.py") 419), (.int (65) 0), (.int (3) 0), (.int (0) 0), (.int (0) 0), (.int (3) 0), (.ref 150), (.bool true), (.int (181) 0), (.ref 151), .none, (.ref 152), (.ref 153), (.ref 154), (.int (423) 0), (.int (65) 0), (.str (S "/claim/cut.py") 424)].toArray), [].toArray⟩
def Kc (P : Params) : Obj := ⟨(.type "function"), none, (.func ⟨(S "__init__"), (S "Seen.__init__"), L2.defArgs (L2.inClass (top 24) 0), .stmts (L2.defBody (L2.inClass (top 24) 0)), L2.defScope (L2.inClass (top 24) 0), 3, [], .none, .none, .none, (.str (S "givenback.watch") 395), none, (.ref 155), .none, 0⟩), [].toArray⟩
def Kd (P : Params) : Obj := ⟨(.type "tuple"), none, (.seq [(.str (S "beginner") 426), (.str (S "called") 427), (.str (S "ending") 428), (.str (S "had") 429), (.str (S "lasts") 430), (.str (S "owed") 431), (.str (S "shut") 432), (.str (S "state") 433)].toArray 0), [].toArray⟩
def Ke (P : Params) : Obj := ⟨(.type "dict"), none, (.dict [E P "__module__" 412 (.str (S "givenback.watch") 395), E P "__firstlineno__" 416 (.int (63) 415), E P "__init__" 425 (.ref 156), E P "__static_attributes__" 434 (.ref 157), E P "__dict__" 436 (.ref 160), E P "__weakref__" 438 (.ref 161), E P "__doc__" 439 .none].toArray 4), [].toArray⟩
def Kf (P : Params) : Obj := ⟨(.type "type"), none, (.cls ⟨(S "Seen"), [(.type "object")], [(.ref 159), (.type "object")], 158, (S "Seen"), true, [], [], false, none, false⟩), [none, none, (some (.str (S "Seen") 405)), (some (.str (S "Seen") 413)), (some (.builtin "object.__new__")), (some (.bool true))].toArray⟩
def Kg (P : Params) : Obj := ⟨(.type "getset_descriptor"), none, (.fields [(.str (S "__dict__") 435), (.ref 159), (.builtin "function.__dict__"), (.builtin "function.__dict__#set")].toArray), [].toArray⟩
def Kh (P : Params) : Obj := ⟨(.type "getset_descriptor"), none, (.fields [(.str (S "__weakref__") 437), (.ref 159), (.builtin "ExceptionGroup.__weakref__"), .none].toArray), [].toArray⟩
def Vi (P : Params) : Obj := ⟨(.type "super"), none, (.fields [(.ref 159), (.ref 159), (.ref 159)].toArray), [].toArray⟩
def Vj (P : Params) : Obj := ⟨(.type "builtin_function_or_method"), none, (.fields [(.builtin "object.__init_subclass__"), (.ref 159)].toArray), [].toArray⟩
def Km (P : Params) : Obj := ⟨(.type "tuple"), none, (.seq [].toArray 0), [].toArray⟩
def Ko (P : Params) : Obj := ⟨.none, none, (.fields [].toArray), [].toArray⟩
def Kr (P : Params) : Obj := ⟨(.type "tuple"), none, (.seq [(.str (S "rows") 445), (.str (S "word") 446), (.str (S "is_so") 447)].toArray 0), [].toArray⟩
def Ks (P : Params) : Obj := ⟨(.type "tuple"), none, (.seq [].toArray 0), [].toArray⟩
def Ku (P : Params) : Obj := ⟨.none, none, (.func ⟨(S "first_so"), (S "first_so"), L2.defArgs (top 25), .stmts (L2.defBody (top 25)), L2.defScope (top 25), 0, [], .none, .none, .none, .none, none, .none, .none, 0⟩), [].toArray⟩
def Kv (P : Params) : Obj := ⟨(.type "code"), none, (.fields [(.str (S "first_so") 442), (.str (S "first_so") 443), (.str (S "/claim/cut.py") 444), (.int (73) 0), (.int (1) 0), (.int (0) 0), (.int (0) 0), (.int (3) 0), (.ref 164), (.bool true), (.int (181) 0), (.ref 165), .none, (.ref 166), (.ref 167), (.ref 168), (.int (448) 0), (.int (73) 0), (.str (S "/claim/cut.py") 449)].toArray), [].toArray⟩
def Kw (P : Params) : Obj := ⟨(.type "function"), none, (.func ⟨(S "first_so"), (S "first_so"), L2.defArgs (top 25), .stmts (L2.defBody (top 25)), L2.defScope (top 25), 3, [], .none, .none, .none, (.str (S "givenback.watch") 395), none, (.ref 169), .none, 0⟩), [].toArray⟩
def Ky (P : Params) : Obj := ⟨(.type "tuple"), none, (.seq [].toArray 0), [].toArray⟩
def Kz (P : Params) : Obj := ⟨.none, none, (.fields [].toArray), [].toArray⟩
def KC (P : Params) : Obj := ⟨(.type "tuple"), none, (.seq [(.str (S "watch") 454), (.str (S "task") 455), (.str (S "row") 456)].toArray 0), [].toArray⟩
def KD (P : Params) : Obj := ⟨(.type "tuple"), none, (.seq [].toArray 0), [].toArray⟩
def KH (P : Params) : Obj := ⟨.none, none, (.func ⟨(S "ask_doing"), (S "ask_doing"), L2.defArgs (top 26), .stmts (L2.defBody (top 26)), L2.defScope (top 26), 0, [], .none, .none, .none, .none, none, .none, .none, 0⟩), [].toArray⟩
def KJ (P : Params) : Obj := ⟨(.type "code"), none, (.fields [(.str (S "ask_doing") 451), (.str (S "ask_doing") 452), (.str (S "/claim/cut.py") 453), (.int (78) 0), (.int (3) 0), (.int (0) 0), (.int (0) 0), (.int (3) 0), (.ref 171), (.bool true), (.int (181) 0), (.ref 172), .none, (.ref 173), (.ref 174), (.ref 175), (.int (457) 0), (.int (78) 0), (.str (S "/claim/cut.py") 458)].toArray), [].toArray⟩
def KN (P : Params) : Obj := ⟨(.type "function"), none, (.func ⟨(S "ask_doing"), (S "ask_doing"), L2.defArgs (top 26), .stmts (L2.defBody (top 26)), L2.defScope (top 26), 3, [], .none, .none, .none, (.str (S "givenback.watch") 395), none, (.ref 176), .none, 0⟩), [].toArray⟩
def KQ (P : Params) : Obj := ⟨(.type "tuple"), none, (.seq [].toArray 0), [].toArray⟩
def KY (P : Params) : Obj := ⟨.none, none, (.fields [].toArray), [].toArray⟩
def KZ (P : Params) : Obj := ⟨(.type "tuple"), none, (.seq [(.str (S "watch") 463), (.str (S "task") 464), (.str (S "row") 465), (.str (S "wrong") 466), (.str (S "home") 467)].toArray 0), [].toArray⟩
def K6 (P : Params) : Obj := ⟨(.type "tuple"), none, (.seq [].toArray 0), [].toArray⟩
def K7 (P : Params) : Obj := ⟨.none, none, (.func ⟨(S "ask_begun"), (S "ask_begun"), L2.defArgs (top 27), .stmts (L2.defBody (top 27)), L2.defScope (top 27), 0, [], .none, .none, .none, .none, none, .none, .none, 0⟩), [].toArray⟩
def K8 (P : Params) : Obj := ⟨(.type "code"), none, (.fields [(.str (S "ask_begun") 460), (.str (S "ask_begun") 461), (.str (S "/claim/cut.py") 462), (.int (80) 0), (.int (3) 0), (.int (0) 0), (.int (0) 0), (.int (3) 0), (.ref 178), (.bool true), (.int (181) 0), (.ref 179), .none, (.ref 180), (.ref 181), (.ref 182), (.int (468) 0), (.int (80) 0), (.str (S "/claim/cut.py") 469)].toArray), [].toArray⟩
def K9 (P : Params) : Obj := ⟨(.type "function"), none, (.func ⟨(S "ask_begun"), (S "ask_begun"), L2.defArgs (top 27), .stmts (L2.defBody (top 27)), L2.defScope (top 27), 3, [], .none, .none, .none, (.str (S "givenback.watch") 395), none, (.ref 183), .none, 0⟩), [].toArray⟩
def La (P : Params) : Obj := ⟨(.type "tuple"), none, (.seq [].toArray 0), [].toArray⟩
def Ld (P : Params) : Obj := ⟨.none, none, (.fields [].toArray), [].toArray⟩
def Lf (P : Params) : Obj := ⟨(.type "tuple"), none, (.seq [(.str (S "watch") 474), (.str (S "task") 475), (.str (S "row") 476), (.str (S "other") 477), (.str (S "over") 478), (.str (S "own") 479), (.str (S "unwinds") 480)].toArray 0), [].toArray⟩
def Lg (P : Params) : Obj := ⟨(.type "tuple"), none, (.seq [].toArray 0), [].toArray⟩
def Lh (P : Params) : Obj := ⟨.none, none, (.func ⟨(S "ask_kill"), (S "ask_kill"), L2.defArgs (top 28), .stmts (L2.defBody (top 28)), L2.defScope (top 28), 0, [], .none, .none, .none, .none, none, .none, .none, 0⟩), [].toArray⟩
def Lj (P : Params) : Obj := ⟨(.type "code"), none, (.fields [(.str (S "ask_kill") 471), (.str (S "ask_kill") 472), (.str (S "/claim/cut.py") 473), (.int (84) 0), (.int (3) 0), (.int (0) 0), (.int (0) 0), (.int (3) 0), (.ref 185), (.bool true), (.int (181) 0), (.ref 186), .none, (.ref 187), (.ref 188), (.ref 189), (.int (481) 0), (.int (84) 0), (.str (S "/claim/cut.py") 482)].toArray), [].toArray⟩
def Lk (P : Params) : Obj := ⟨(.type "function"), none, (.func ⟨(S "ask_kill"), (S "ask_kill"), L2.defArgs (top 28), .stmts (L2.defBody (top 28)), L2.defScope (top 28), 3, [], .none, .none, .none, (.str (S "givenback.watch") 395), none, (.ref 190), .none, 0⟩), [].toArray⟩
def Ln (P : Params) : Obj := ⟨(.type "tuple"), none, (.seq [].toArray 0), [].toArray⟩
def Lp (P : Params) : Obj := ⟨.none, none, (.fields [].toArray), [].toArray⟩
def Lq (P : Params) : Obj := ⟨(.type "tuple"), none, (.seq [(.str (S "watch") 487), (.str (S "task") 488), (.str (S "row") 489), (.str (S "lives") 490)].toArray 0), [].toArray⟩
def Lr (P : Params) : Obj := ⟨(.type "tuple"), none, (.seq [].toArray 0), [].toArray⟩
def Ly (P : Params) : Obj := ⟨.none, none, (.func ⟨(S "ask_late"), (S "ask_late"), L2.defArgs (top 29), .stmts (L2.defBody (top 29)), L2.defScope (top 29), 0, [], .none, .none, .none, .none, none, .none, .none, 0⟩), [].toArray⟩
def Lz (P : Params) : Obj := ⟨(.type "code"), none, (.fields [(.str (S "ask_late") 484), (.str (S "ask_late") 485), (.str (S "/claim/cut.py") 486), (.int (92) 0), (.int (3) 0), (.int (0) 0), (.int (0) 0), (.int (3) 0), (.ref 192), (.bool true), (.int (181) 0), (.ref 193), .none, (.ref 194), (.ref 195), (.ref 196), (.int (491) 0), (.int (92) 0), (.str (S "/claim/cut.py") 492)].toArray), [].toArray⟩
def LC (P : Params) : Obj := ⟨(.type "function"), none, (.func ⟨(S "ask_late"), (S "ask_late"), L2.defArgs (top 29), .stmts (L2.defBody (top 29)), L2.defScope (top 29), 3, [], .none, .none, .none, (.str (S "givenback.watch") 395), none, (.ref 197), .none, 0⟩), [].toArray⟩
def LK (P : Params) : Obj := ⟨(.type "tuple"), none, (.seq [].toArray 0), [].toArray⟩
def LQ (P : Params) : Obj := ⟨.none, none, (.fields [].toArray), [].toArray⟩
def LR (P : Params) : Obj := ⟨(.type "tuple"), none, (.seq [(.str (S "watch") 497), (.str (S "task") 498), (.str (S "row") 499)].toArray 0), [].toArray⟩
def Ma (P : Params) : Obj := ⟨(.type "tuple"), none, (.seq [].toArray 0), [].toArray⟩
def Bt (P : Params) : Obj := ⟨.none, none, (.func ⟨(S "ask_nobody"), (S "ask_nobody"), L2.defArgs (top 30), .stmts (L2.defBody (top 30)), L2.defScope (top 30), 0, [], .none, .none, .none, .none, none, .none, .none, 0⟩), [].toArray⟩
def Mf (P : Params) : Obj := ⟨(.type "code"), none, (.fields [(.str (S "ask_nobody") 494), (.str (S "ask_nobody") 495), (.str (S "/claim/cut.py") 496), (.int (97) 0), (.int (3) 0), (.int (0) 0), (.int (0) 0), (.int (3) 0), (.ref 199), (.bool true), (.int (181) 0), (.ref 200), .none, (.ref 201), (.ref 202), (.ref 203), (.int (500) 0), (.int (97) 0), (.str (S "/claim/cut.py") 501)].toArray), [].toArray⟩
def Mg (P : Params) : Obj := ⟨(.type "function"), none, (.func ⟨(S "ask_nobody"), (S "ask_nobody"), L2.defArgs (top 30), .stmts (L2.defBody (top 30)), L2.defScope (top 30), 3, [], .none, .none, .none, (.str (S "givenback.watch") 395), none, (.ref 204), .none, 0⟩), [].toArray⟩
def Mh (P : Params) : Obj := ⟨(.type "tuple"), none, (.seq [].toArray 0), [].toArray⟩
def Mi (P : Params) : Obj := ⟨.none, none, (.fields [].toArray), [].toArray⟩
def Mj (P : Params) : Obj := ⟨(.type "tuple"), none, (.seq [(.str (S "watch") 506), (.str (S "task") 507), (.str (S "row") 508), (.str (S "held") 509)].toArray 0), [].toArray⟩
def Ml (P : Params) : Obj := ⟨(.type "tuple"), none, (.seq [].toArray 0), [].toArray⟩
def Mp (P : Params) : Obj := ⟨.none, none, (.func ⟨(S "ask_got"), (S "ask_got"), L2.defArgs (top 31), .stmts (L2.defBody (top 31)), L2.defScope (top 31), 0, [], .none, .none, .none, .none, none, .none, .none, 0⟩), [].toArray⟩
def Mq (P : Params) : Obj := ⟨(.type "code"), none, (.fields [(.str (S "ask_got") 503), (.str (S "ask_got") 504), (.str (S "/claim/cut.py") 505), (.int (99) 0), (.int (3) 0), (.int (0) 0), (.int (0) 0), (.int (3) 0), (.ref 206), (.bool true), (.int (181) 0), (.ref 207), .none, (.ref 208), (.ref 209), (.ref 210), (.int (510) 0), (.int (99) 0), (.str (S "/claim/cut.py") 511)].toArray), [].toArray⟩
def Mr (P : Params) : Obj := ⟨(.type "function"), none, (.func ⟨(S "ask_got"), (S "ask_got"), L2.defArgs (top 31), .stmts (L2.defBody (top 31)), L2.defScope (top 31), 3, [], .none, .none, .none, (.str (S "givenback.watch") 395), none, (.ref 211), .none, 0⟩), [].toArray⟩
def Ms (P : Params) : Obj := ⟨(.type "tuple"), none, (.seq [].toArray 0), [].toArray⟩
def Mu (P : Params) : Obj := ⟨.none, none, (.fields [].toArray), [].toArray⟩
def Mv (P : Params) : Obj := ⟨(.type "tuple"), none, (.seq [(.str (S "watch") 516), (.str (S "task") 517), (.str (S "row") 518)].toArray 0), [].toArray⟩
def Mw (P : Params) : Obj := ⟨(.type "tuple"), none, (.seq [].toArray 0), [].toArray⟩
def Mx (P : Params) : Obj := ⟨.none, none, (.func ⟨(S "ask_given"), (S "ask_given"), L2.defArgs (top 32), .stmts (L2.defBody (top 32)), L2.defScope (top 32), 0, [], .none, .none, .none, .none, none, .none, .none, 0⟩), [].toArray⟩
def Mz (P : Params) : Obj := ⟨(.type "code"), none, (.fields [(.str (S "ask_given") 513), (.str (S "ask_given") 514), (.str (S "/claim/cut.py") 515), (.int (102) 0), (.int (3) 0), (.int (0) 0), (.int (0) 0), (.int (3) 0), (.ref 213), (.bool true), (.int (181) 0), (.ref 214), .none, (.ref 215), (.ref 216), (.ref 217), (.int (519) 0), (.int (102) 0), (.str (S "/claim/cut.py") 520)].toArray), [].toArray⟩
def MF (P : Params) : Obj := ⟨(.type "function"), none, (.func ⟨(S "ask_given"), (S "ask_given"), L2.defArgs (top 32), .stmts (L2.defBody (top 32)), L2.defScope (top 32), 3, [], .none, .none, .none, (.str (S "givenback.watch") 395), none, (.ref 218), .none, 0⟩), [].toArray⟩
def MJ (P : Params) : Obj := ⟨(.type "tuple"), none, (.seq [].toArray 0), [].toArray⟩
def MK (P : Params) : Obj := ⟨.none, none, (.fields [].toArray), [].toArray⟩
def MN (P : Params) : Obj := ⟨(.type "tuple"), none, (.seq [(.str (S "watch") 525), (.str (S "task") 526), (.str (S "row") 527)].toArray 0), [].toArray⟩
def MP (P : Params) : Obj := ⟨(.type "tuple"), none, (.seq [].toArray 0), [].toArray⟩
def M4 (P : Params) : Obj := ⟨.none, none, (.func ⟨(S "ask_landed"), (S "ask_landed"), L2.defArgs (top 33), .stmts (L2.defBody (top 33)), L2.defScope (top 33), 0, [], .none, .none, .none, .none, none, .none, .none, 0⟩), [].toArray⟩
def M5 (P : Params) : Obj := ⟨(.type "code"), none, (.fields [(.str (S "ask_landed") 522), (.str (S "ask_landed") 523), (.str (S "/claim/cut.py") 524), (.int (106) 0), (.int (3) 0), (.int (0) 0), (.int (0) 0), (.int (3) 0), (.ref 220), (.bool true), (.int (181) 0), (.ref 221), .none, (.ref 222), (.ref 223), (.ref 224), (.int (528) 0), (.int (106) 0), (.str (S "/claim/cut.py") 529)].toArray), [].toArray⟩
def M6 (P : Params) : Obj := ⟨(.type "function"), none, (.func ⟨(S "ask_landed"), (S "ask_landed"), L2.defArgs (top 33), .stmts (L2.defBody (top 33)), L2.defScope (top 33), 3, [], .none, .none, .none, (.str (S "givenback.watch") 395), none, (.ref 225), .none, 0⟩), [].toArray⟩
def M7 (P : Params) : Obj := ⟨(.type "tuple"), none, (.seq [].toArray 0), [].toArray⟩
def M8 (P : Params) : Obj := ⟨.none, none, (.fields [].toArray), [].toArray⟩
def M9 (P : Params) : Obj := ⟨(.type "tuple"), none, (.seq [(.str (S "watch") 534), (.str (S "task") 535), (.str (S "row") 536)].toArray 0), [].toArray⟩
def Nb (P : Params) : Obj := ⟨(.type "tuple"), none, (.seq [].toArray 0), [].toArray⟩
def Nf (P : Params) : Obj := ⟨.none, none, (.func ⟨(S "ask_masked"), (S "ask_masked"), L2.defArgs (top 34), .stmts (L2.defBody (top 34)), L2.defScope (top 34), 0, [], .none, .none, .none, .none, none, .none, .none, 0⟩), [].toArray⟩
def Nh (P : Params) : Obj := ⟨(.type "code"), none, (.fields [(.str (S "ask_masked") 531), (.str (S "ask_masked") 532), (.str (S "/claim/cut.py") 533), (.int (108) 0), (.int (3) 0), (.int (0) 0), (.int (0) 0), (.int (3) 0), (.ref 227), (.bool true), (.int (181) 0), (.ref 228), .none, (.ref 229), (.ref 230), (.ref 231), (.int (537) 0), (.int (108) 0), (.str (S "/claim/cut.py") 538)].toArray), [].toArray⟩
def Nk (P : Params) : Obj := ⟨(.type "function"), none, (.func ⟨(S "ask_masked"), (S "ask_masked"), L2.defArgs (top 34), .stmts (L2.defBody (top 34)), L2.defScope (top 34), 3, [], .none, .none, .none, (.str (S "givenback.watch") 395), none, (.ref 232), .none, 0⟩), [].toArray⟩
def Np (P : Params) : Obj := ⟨(.type "tuple"), none, (.seq [].toArray 0), [].toArray⟩
def Nq (P : Params) : Obj := ⟨.none, none, (.fields [].toArray), [].toArray⟩
def Nr (P : Params) : Obj := ⟨(.type "tuple"), none, (.seq [(.str (S "watch") 543), (.str (S "task") 544), (.str (S "row") 545)].toArray 0), [].toArray⟩
def Nt (P : Params) : Obj := ⟨(.type "tuple"), none, (.seq [].toArray 0), [].toArray⟩
def Nu (P : Params) : Obj := ⟨.none, none, (.func ⟨(S "ask_opened"), (S "ask_opened"), L2.defArgs (top 35), .stmts (L2.defBody (top 35)), L2.defScope (top 35), 0, [], .none, .none, .none, .none, none, .none, .none, 0⟩), [].toArray⟩
def Nv (P : Params) : Obj := ⟨(.type "code"), none, (.fields [(.str (S "ask_opened") 540), (.str (S "ask_opened") 541), (.str (S "/claim/cut.py") 542), (.int (110) 0), (.int (3) 0), (.int (0) 0), (.int (0) 0), (.int (3) 0), (.ref 234), (.bool true), (.int (181) 0), (.ref 235), .none, (.ref 236), (.ref 237), (.ref 238), (.int (546) 0), (.int (110) 0), (.str (S "/claim/cut.py") 547)].toArray), [].toArray⟩
def Ny (P : Params) : Obj := ⟨(.type "function"), none, (.func ⟨(S "ask_opened"), (S "ask_opened"), L2.defArgs (top 35), .stmts (L2.defBody (top 35)), L2.defScope (top 35), 3, [], .none, .none, .none, (.str (S "givenback.watch") 395), none, (.ref 239), .none, 0⟩), [].toArray⟩
def Nz (P : Params) : Obj := ⟨(.type "tuple"), none, (.seq [].toArray 0), [].toArray⟩
def NK (P : Params) : Obj := ⟨.none, none, (.fields [].toArray), [].toArray⟩
def NP (P : Params) : Obj := ⟨(.type "tuple"), none, (.seq [(.str (S "watch") 552), (.str (S "task") 553), (.str (S "row") 554)].toArray 0), [].toArray⟩
def NQ (P : Params) : Obj := ⟨(.type "tuple"), none, (.seq [].toArray 0), [].toArray⟩
def NT (P : Params) : Obj := ⟨.none, none, (.func ⟨(S "ask_last"), (S "ask_last"), L2.defArgs (top 36), .stmts (L2.defBody (top 36)), L2.defScope (top 36), 0, [], .none, .none, .none, .none, none, .none, .none, 0⟩), [].toArray⟩
def NZ (P : Params) : Obj := ⟨(.type "code"), none, (.fields [(.str (S "ask_last") 549), (.str (S "ask_last") 550), (.str (S "/claim/cut.py") 551), (.int (112) 0), (.int (3) 0), (.int (0) 0), (.int (0) 0), (.int (3) 0), (.ref 241), (.bool true), (.int (181) 0), (.ref 242), .none, (.ref 243), (.ref 244), (.ref 245), (.int (555) 0), (.int (112) 0), (.str (S "/claim/cut.py") 556)].toArray), [].toArray⟩
def N5 (P : Params) : Obj := ⟨(.type "function"), none, (.func ⟨(S "ask_last"), (S "ask_last"), L2.defArgs (top 36), .stmts (L2.defBody (top 36)), L2.defScope (top 36), 3, [], .none, .none, .none, (.str (S "givenback.watch") 395), none, (.ref 246), .none, 0⟩), [].toArray⟩
def N6 (P : Params) : Obj := ⟨(.type "tuple"), none, (.seq [].toArray 0), [].toArray⟩
def N7 (P : Params) : Obj := ⟨.none, none, (.fields [].toArray), [].toArray⟩
def N8 (P : Params) : Obj := ⟨(.type "tuple"), none, (.seq [(.str (S "watch") 561), (.str (S "task") 562), (.str (S "row") 563)].toArray 0), [].toArray⟩
def Oa (P : Params) : Obj := ⟨(.type "tuple"), none, (.seq [].toArray 0), [].toArray⟩
def Oc (P : Params) : Obj := ⟨.none, none, (.func ⟨(S "ask_lasted"), (S "ask_lasted"), L2.defArgs (top 37), .stmts (L2.defBody (top 37)), L2.defScope (top 37), 0, [], .none, .none, .none, .none, none, .none, .none, 0⟩), [].toArray⟩
def Od (P : Params) : Obj := ⟨(.type "code"), none, (.fields [(.str (S "ask_lasted") 558), (.str (S "ask_lasted") 559), (.str (S "/claim/cut.py") 560), (.int (114) 0), (.int (3) 0), (.int (0) 0), (.int (0) 0), (.int (3) 0), (.ref 248), (.bool true), (.int (181) 0), (.ref 249), .none, (.ref 250), (.ref 251), (.ref 252), (.int (564) 0), (.int (114) 0), (.str (S "/claim/cut.py") 565)].toArray), [].toArray⟩
def Oe (P : Params) : Obj := ⟨(.type "function"), none, (.func ⟨(S "ask_lasted"), (S "ask_lasted"), L2.defArgs (top 37), .stmts (L2.defBody (top 37)), L2.defScope (top 37), 3, [], .none, .none, .none, (.str (S "givenback.watch") 395), none, (.ref 253), .none, 0⟩), [].toArray⟩
def Og (P : Params) : Obj := ⟨(.type "tuple"), none, (.seq [].toArray 0), [].toArray⟩
def Oh (P : Params) : Obj := ⟨.none, none, (.fields [].toArray), [].toArray⟩
def Oi (P : Params) : Obj := ⟨(.type "tuple"), none, (.seq [(.str (S "watch") 570), (.str (S "task") 571), (.str (S "row") 572)].toArray 0), [].toArray⟩
def Oj (P : Params) : Obj := ⟨(.type "tuple"), none, (.seq [].toArray 0), [].toArray⟩
def Ol (P : Params) : Obj := ⟨.none, none, (.func ⟨(S "ask_rescued"), (S "ask_rescued"), L2.defArgs (top 38), .stmts (L2.defBody (top 38)), L2.defScope (top 38), 0, [], .none, .none, .none, .none, none, .none, .none, 0⟩), [].toArray⟩
def Om (P : Params) : Obj := ⟨(.type "code"), none, (.fields [(.str (S "ask_rescued") 567), (.str (S "ask_rescued") 568), (.str (S "/claim/cut.py") 569), (.int (116) 0), (.int (3) 0), (.int (0) 0), (.int (0) 0), (.int (3) 0), (.ref 255), (.bool true), (.int (181) 0), (.ref 256), .none, (.ref 257), (.ref 258), (.ref 259), (.int (573) 0), (.int (116) 0), (.str (S "/claim/cut.py") 574)].toArray), [].toArray⟩
def Oo (P : Params) : Obj := ⟨(.type "function"), none, (.func ⟨(S "ask_rescued"), (S "ask_rescued"), L2.defArgs (top 38), .stmts (L2.defBody (top 38)), L2.defScope (top 38), 3, [], .none, .none, .none, (.str (S "givenback.watch") 395), none, (.ref 260), .none, 0⟩), [].toArray⟩
def Oq (P : Params) : Obj := ⟨(.type "tuple"), none, (.seq [].toArray 0), [].toArray⟩
def Ot (P : Params) : Obj := ⟨.none, none, (.fields [].toArray), [].toArray⟩
def Ou (P : Params) : Obj := ⟨.none, none, (.func ⟨(S "ask_ended"), (S "ask_ended"), L2.defArgs (top 39), .stmts (L2.defBody (top 39)), L2.defScope (top 39), 0, [], .none, .none, .none, .none, none, .none, .none, 0⟩), [].toArray⟩
def Ov (P : Params) : Obj := ⟨(.type "code"), none, (.fields [(.str (S "ask_ended") 576), (.str (S "ask_ended") 577), (.str (S "/claim/cut.py") 578), (.int (118) 0), (.int (3) 0), (.int (0) 0), (.int (0) 0), (.int (3) 0), (.ref 262), (.bool true), (.int (181) 0), (.ref 263), .none, .none, .none, (.ref 264), (.int (579) 0), (.int (118) 0), (.str (S "/claim/cut.py") 580)].toArray), [].toArray⟩
def Ow (P : Params) : Obj := ⟨(.type "function"), none, (.func ⟨(S "ask_ended"), (S "ask_ended"), L2.defArgs (top 39), .stmts (L2.defBody (top 39)), L2.defScope (top 39), 3, [], .none, .none, .none, (.str (S "givenback.watch") 395), none, (.ref 265), .none, 0⟩), [].toArray⟩
def b18 (P : Params) : BT := (.node (Fo P) (.node (GD P) (.node (CV P) (.node (Dq P) (.node (Jz P) (ak (Og P)) .nil) (ak (Lk P))) (.node (Iu P) (ak (Kf P)) (ak (MP P)))) (.node (TQ P) (.node (HJ P) (ak (Vb P)) (ak (Mi P))) (.node (Jh P) (ak (KH P)) (ak (Nv P))))) (.node (CG P) (.node (Tt P) (.node (Ht P) (.node (JL P) (ak (Ot P)) .nil) (ak (LK P))) (.node (IW P) (ak (Ks P)) (ak (Nf P)))) (.node (Dd P) (.node (Ih P) (ak (JX P)) (ak (Mv P))) (.node (Jq P) (ak (K8 P)) (ak (N5 P))))))
def b19 (P : Params) : BT := (.node (G4 P) (.node (Hf P) (.node (Ds P) (.node (JF P) (ak (Ol P)) .nil) (ak (Lr P))) (.node (IV P) (ak (Vj P)) (ak (M7 P)))) (.node (T5 P) (.node (HY P) (ak (Vf P)) (ak (Mq P))) (.node (Jl P) (ak (KY P)) (ak (NP P)))))
def b20 (P : Params) : BT := (.node (Jd P) (ak (Ky P)) (ak (Nq P)))
def b21 (P : Params) : BT := (.node (Di P) (.node (Il P) (ak (Ka P)) (ak (MF P))) (.node (Jv P) (ak (Lf P)) (ak (Oa P))))
def b22 (P : Params) : BT := (.node (Fl P) (.node (Fq P) (.node (GX P) (.node (CZ P) (.node (Hq P) (.node (JC P) (ak (Oi P)) .nil) (ak (Lp P))) (.node (Iz P) (ak (Kh P)) (ak (M5 P)))) (.node (TX P) (.node (HW P) (ak (Vd P)) (ak (Ml P))) (.node (Jj P) (ak (KN P)) (ak (Nz P))))) (.node (CK P) (.node (Tz P) (.node (Hv P) (.node (JN P) (ak (Ov P)) .nil) (ak (LR P))) (.node (Jb P) (ak (Kv P)) (ak (Nk P)))) (.node (Dg P) (.node (Ij P) (ak (J8 P)) (ak (Mx P))) (.node (Jt P) (ak (La P)) (ak (N7 P)))))) (.node (zA P) (.node (G8 P) (.node (Hh P) (.node (Du P) (.node (JH P) (ak (Oo P)) .nil) (ak (Lz P))) (.node (Bq P) (ak (Ko P)) (ak (M9 P)))) (.node (T7 P) (.node (Ie P) (ak (Vh P)) (ak (Ms P))) (.node (Jo P) (ak (K6 P)) (ak (NT P))))) (.node (CQ P) (.node (Hl P) (.node (HD P) (ak (JT P)) (ak (Mg P))) (.node (Jf P) (ak (KC P)) (ak (Nt P)))) (.node (Dk P) (.node (Ip P) (ak (Kd P)) (ak (MK P))) (.node (Jx P) (ak (Lh P)) (ak (Od P)))))))
def b23 (P : Params) : BT := (.node (Bl P) (.node (Bm P) (.node (Fp P) (.node (GJ P) (.node (CW P) (.node (Dr P) (.node (JB P) (ak (Oh P)) .nil) (ak (Ln P))) (.node (Iw P) (ak (Kg P)) (ak (M4 P)))) (.node (TV P) (.node (HS P) (ak (Vc P)) (ak (Mj P))) (.node (Ji P) (ak (KJ P)) (ak (Ny P))))) (.node (CJ P) (.node (Tw P) (.node (Hu P) (.node (JM P) (ak (Ou P)) .nil) (ak (LQ P))) (.node (Ja P) (ak (Ku P)) (ak (Nh P)))) (.node (Df P) (.node (Ii P) (ak (JZ P)) (ak (Mw P))) (.node (Jr P) (ak (K9 P)) (ak (N6 P)))))) (.node (ajr P) (.node (G6 P) (.node (Hg P) (.node (Dt P) (.node (JG P) (ak (Om P)) .nil) (ak (Ly P))) (.node (Bp P) (ak (Km P)) (ak (M8 P)))) (.node (T6 P) (.node (Ib P) (ak (Vg P)) (ak (Mr P))) (.node (Jm P) (ak (KZ P)) (ak (NQ P))))) (.node (CP P) (.node (Hj P) (.node (Hz P) (ak (JR P)) (ak (Mf P))) (.node (Je P) (ak (Kz P)) (ak (Nr P)))) (.node (Dj P) (.node (Io P) (ak (Kc P)) (ak (MJ P))) (.node (Jw P) (ak (Lg P)) (ak (Oc P))))))) (.node (Bo P) (.node (zu P) (.node (GZ P) (.node (G9 P) (.node (Hr P) (.node (JD P) (ak (Oj P)) .nil) (ak (Lq P))) (.node (IK P) (ak (Vi P)) (ak (M6 P)))) (.node (TY P) (.node (HX P) (ak (Ve P)) (ak (Mp P))) (.node (Jk P) (ak (KQ P)) (ak (NK P))))) (.node (CN P) (.node (TF P) (.node (Hw P) (.node (JQ P) (ak (Ow P)) .nil) (ak (Ma P))) (.node (Jc P) (ak (Kw P)) (ak (Np P)))) (.node (Dh P) (.node (Ik P) (ak (J9 P)) (ak (Mz P))) (.node (Ju P) (ak (Ld P)) (ak (N8 P)))))) (.node (zB P) (.node (Cz P) (.node (Hi P) (.node (Dy P) (.node (JK P) (ak (Oq P)) .nil) (ak (LC P))) (.node (Br P) (ak (Kr P)) (ak (Nb P)))) (.node (Ho P) (.node (Ig P) (ak (JW P)) (ak (Mu P))) (.node (Jp P) (ak (K7 P)) (ak (NZ P))))) (.node (CT P) (.node (TJ P) (.node (HF P) (ak (JV P)) (ak (Mh P))) (.node (Jg P) (ak (KD P)) (ak (Nu P)))) (.node (Dm P) (.node (Ir P) (ak (Ke P)) (ak (MN P))) (.node (Jy P) (ak (Lj P)) (ak (Oe P))))))))
def t4 (P : Params) : BT := (.node (zq P) (.node (Bj P) (.node (akP P) (b18 P) (.node (yd P) (b19 P) (.node (zE P) (.node (Dc P) (.node (Dz P) (ak (Bs P)) (ak (Bt P))) (b20 P)) (b21 P)))) (b22 P)) (b23 P))
def S4 (w : World) (os : OsState) : SharedT := ⟨t4 w.params, 267, ⟨[], [], [], 0, [], [], false, [].toArray, [], 0, false, false, false, 0, [2000, 10, 10], false, 0, true, [], [], 0, false⟩, #[], ⟨0, 0, 0, 0⟩, 582, os⟩
theorem p4 (w : World) : ∀ os : OsState, HP.Piece PySem.Challenge.pw_givenback_k22_kills_seen_and_landed w n0 yg env0 q0 c0 pC 12 28 926 (S3 w os) (S4 w os) ⟨24, 0, 24, 5⟩ ⟨118, 0, 128, 70⟩ := by
  intro os
  unfold HP.Piece
  kernel_rfl
def akQ (P : Params) : Obj := ⟨(.type "dict"), none, (.dict [E P "__name__" 165 (.str (S "givenback.watch") 395), E P "__doc__" 166 .none, E P "__package__" 167 .none, E P "__loader__" 168 (.builtin "__main__.__loader__#opaque"), E P "__spec__" 169 .none, E P "__annotations__" 170 (.ref 6), E P "__builtins__" 171 (.ref 4), E P "__file__" 173 (.str (S "/claim/cut.py") 172), E P "__cached__" 174 .none, E P "WorkError" 216 (.ref 32), E P "BadRun" 232 (.ref 45), E P "Broken" 258 (.ref 64), E P "LETTERS" 262 (.str (S "abcdefghijklmnopqrstuvwxyz") 261), E P "LONGEST" 264 (.int (8) 263), E P "is_name" 270 (.ref 71), E P "is_whole" 279 (.ref 78), E P "is_number" 286 (.ref 85), E P "FORMS" 351 (.ref 86), E P "is_outcome" 358 (.ref 109), E P "is_count" 365 (.ref 116), E P "is_part" 373 (.ref 123), E P "is_log_row" 379 (.ref 128), E P "doer_of" 386 (.ref 135), E P "check_told" 394 (.ref 140), E P "ON" 398 (.ref 141), E P "KILLED" 400 (.ref 142), E P "MOST_TASKS" 402 (.int (12) 401), E P "PLAIN_SIZE" 404 (.int (1) 403), E P "Seen" 441 (.ref 159), E P "first_so" 450 (.ref 170), E P "ask_doing" 459 (.ref 177), E P "ask_begun" 470 (.ref 184), E P "ask_kill" 483 (.ref 191), E P "ask_late" 493 (.ref 198), E P "ask_nobody" 502 (.ref 205), E P "ask_got" 512 (.ref 212), E P "ask_given" 521 (.ref 219), E P "ask_landed" 530 (.ref 226), E P "ask_masked" 539 (.ref 233), E P "ask_opened" 548 (.ref 240), E P "ask_last" 557 (.ref 247), E P "ask_lasted" 566 (.ref 254), E P "ask_rescued" 575 (.ref 261), E P "ask_ended" 581 (.ref 266), E P "ASKING" 614 (.ref 267)].toArray 45), [].toArray⟩
def Ox (P : Params) : Obj := ⟨(.type "dict"), none, (.dict [E P "tell" 582 (.ref 177), E P "add" 584 (.ref 177), E P "failed" 586 (.ref 177), E P "rescued" 588 (.ref 261), E P "got" 590 (.ref 212), E P "given" 592 (.ref 219), E P "masked" 594 (.ref 233), E P "opened" 596 (.ref 240), E P "last" 598 (.ref 247), E P "lasted" 600 (.ref 254), E P "begun" 602 (.ref 184), E P "kill" 604 (.ref 191), E P "late" 606 (.ref 198), E P "nobody" 608 (.ref 205), E P "landed" 610 (.ref 226), E P "ended" 612 (.ref 266)].toArray 16), [].toArray⟩
def t5 (P : Params) : BT := (.node (zq P) (.node (Bj P) (.node (akQ P) (b18 P) (.node (yd P) (b19 P) (.node (zE P) (.node (Dc P) (.node (Dz P) (.node (Bs P) (ak (Ox P)) .nil) (ak (Bt P))) (b20 P)) (b21 P)))) (b22 P)) (b23 P))
def S5 (w : World) (os : OsState) : SharedT := ⟨t5 w.params, 268, ⟨[], [], [], 0, [], [], false, [].toArray, [], 0, false, false, false, 0, [2000, 10, 10], false, 0, true, [], [], 0, false⟩, #[], ⟨0, 0, 0, 0⟩, 615, os⟩
theorem akR (w : World) : ∀ os : OsState, HP.Piece PySem.Challenge.pw_givenback_k22_kills_seen_and_landed (w.withFollow "special-get-raises" false) n0 yg env0 q0 c0 pC 40 1 268 (S4 (w.withFollow "special-get-raises" false) os) (S5 (w.withFollow "special-get-raises" false) os) ⟨118, 0, 128, 70⟩ ⟨129, 0, 129, 6⟩ := by
  intro os
  unfold HP.Piece
  kernel_rfl
theorem akS (w : World) : ∀ os : OsState, HP.Piece PySem.Challenge.pw_givenback_k22_kills_seen_and_landed (w.withFollow "special-get-raises" true) n0 yg env0 q0 c0 pC 40 1 268 (S4 (w.withFollow "special-get-raises" true) os) (S5 (w.withFollow "special-get-raises" true) os) ⟨118, 0, 128, 70⟩ ⟨129, 0, 129, 6⟩ := by
  intro os
  unfold HP.Piece
  kernel_rfl
theorem p5 (w : World) : ∀ os : OsState, HP.Piece PySem.Challenge.pw_givenback_k22_kills_seen_and_landed w n0 yg env0 q0 c0 pC 40 1 268 (S4 w os) (S5 w os) ⟨118, 0, 128, 70⟩ ⟨129, 0, 129, 6⟩ := byRow2 "special-get-raises" (P := fun w => ∀ os : OsState, HP.Piece PySem.Challenge.pw_givenback_k22_kills_seen_and_landed w n0 yg env0 q0 c0 pC 40 1 268 (S4 w os) (S5 w os) ⟨118, 0, 128, 70⟩ ⟨129, 0, 129, 6⟩) akR akS w
def aem (P : Params) : Obj := ⟨(.type "dict"), none, (.dict [E P "__name__" 165 (.str (S "law_givenback_k22_kills_seen_and_landed") 733), E P "__doc__" 166 .none, E P "__package__" 167 .none, E P "__loader__" 168 (.builtin "__main__.__loader__#opaque"), E P "__spec__" 169 .none, E P "__annotations__" 170 (.ref 6), E P "__builtins__" 171 (.ref 4), E P "__file__" 173 (.str (S "/claim/cut.py") 172), E P "__cached__" 174 .none, E P "WorkError" 216 (.ref 32), E P "BadRun" 232 (.ref 45), E P "Broken" 258 (.ref 64), E P "LETTERS" 262 (.str (S "abcdefghijklmnopqrstuvwxyz") 261), E P "LONGEST" 264 (.int (8) 263), E P "is_name" 270 (.ref 71), E P "is_whole" 279 (.ref 78), E P "is_number" 286 (.ref 85), E P "FORMS" 351 (.ref 86), E P "is_outcome" 358 (.ref 109), E P "is_count" 365 (.ref 116), E P "is_part" 373 (.ref 123), E P "is_log_row" 379 (.ref 128), E P "doer_of" 386 (.ref 135), E P "check_told" 394 (.ref 140), E P "ON" 398 (.ref 141), E P "KILLED" 400 (.ref 142), E P "MOST_TASKS" 402 (.int (12) 401), E P "PLAIN_SIZE" 404 (.int (1) 403), E P "Seen" 441 (.ref 159), E P "first_so" 450 (.ref 170), E P "ask_doing" 459 (.ref 177), E P "ask_begun" 470 (.ref 184), E P "ask_kill" 483 (.ref 191), E P "ask_late" 493 (.ref 198), E P "ask_nobody" 502 (.ref 205), E P "ask_got" 512 (.ref 212), E P "ask_given" 521 (.ref 219), E P "ask_landed" 530 (.ref 226), E P "ask_masked" 539 (.ref 233), E P "ask_opened" 548 (.ref 240), E P "ask_last" 557 (.ref 247), E P "ask_lasted" 566 (.ref 254), E P "ask_rescued" 575 (.ref 261), E P "ask_ended" 581 (.ref 266), E P "ASKING" 614 (.ref 267), E P "Watch" 732 (.ref 349), E P "_law_cell_at" 742 (.ref 360), E P "_law_well" 749 (.ref 367), E P "_law_draw" 759 (.ref 374), E P "_law_one" 767 (.ref 381), E P "_law_word" 773 (.ref 386), E P "_law_task" 780 (.ref 393), E P "_law_latest" 786 (.ref 398), E P "_law_told_due" 799 (.ref 405), E P "_law_end_due" 805 (.ref 410), E P "_law_due" 811 (.ref 415), E P "_law_done" 819 (.ref 422), E P "_law_row" 829 (.ref 429), E P "_law_seen" 838 (.ref 436), E P "law" 855 (.ref 443)].toArray 60), [].toArray⟩
def afq (P : Params) : Obj := ⟨.none, none, (.fields [(.int (2) 0), (.int (0) 0), (.ref 20), (.int (7) 0), (.int (0) 0), (.ref 41), (.int (9) 0), (.int (0) 0), (.ref 53), (.int (17) 0), (.int (0) 0), (.ref 70), (.int (19) 0), (.int (0) 0), (.ref 77), (.int (21) 0), (.int (0) 0), (.ref 84), (.int (25) 0), (.int (0) 0), (.ref 108), (.int (29) 0), (.int (0) 0), (.ref 115), (.int (31) 0), (.int (0) 0), (.ref 122), (.int (41) 0), (.int (0) 0), (.ref 127), (.int (48) 0), (.int (0) 0), (.ref 134), (.int (53) 0), (.int (0) 0), (.ref 139), (.int (63) 0), (.int (0) 0), (.ref 148), (.int (73) 0), (.int (0) 0), (.ref 169), (.int (78) 0), (.int (0) 0), (.ref 176), (.int (80) 0), (.int (0) 0), (.ref 183), (.int (84) 0), (.int (0) 0), (.ref 190), (.int (92) 0), (.int (0) 0), (.ref 197), (.int (97) 0), (.int (0) 0), (.ref 204), (.int (99) 0), (.int (0) 0), (.ref 211), (.int (102) 0), (.int (0) 0), (.ref 218), (.int (106) 0), (.int (0) 0), (.ref 225), (.int (108) 0), (.int (0) 0), (.ref 232), (.int (110) 0), (.int (0) 0), (.ref 239), (.int (112) 0), (.int (0) 0), (.ref 246), (.int (114) 0), (.int (0) 0), (.ref 253), (.int (116) 0), (.int (0) 0), (.ref 260), (.int (118) 0), (.int (0) 0), (.ref 265), (.int (130) 0), (.int (0) 0), (.ref 273), (.int (235) 0), (.int (0) 0), (.ref 359), (.int (239) 0), (.int (0) 0), (.ref 366), (.int (241) 0), (.int (0) 0), (.ref 373), (.int (250) 0), (.int (0) 0), (.ref 380), (.int (252) 0), (.int (0) 0), (.ref 385), (.int (255) 0), (.int (0) 0), (.ref 392), (.int (257) 0), (.int (0) 0), (.ref 397), (.int (260) 0), (.int (0) 0), (.ref 404), (.int (274) 0), (.int (0) 0), (.ref 409), (.int (285) 0), (.int (0) 0), (.ref 414), (.int (303) 0), (.int (0) 0), (.ref 421), (.int (313) 0), (.int (0) 0), (.ref 428), (.int (321) 0), (.int (0) 0), (.ref 435), (.int (328) 0), (.int (0) 0), (.ref 442)].toArray), [].toArray⟩
def acN (P : Params) : Obj := ⟨(.type "tuple"), none, (.seq [].toArray 0), [].toArray⟩
def acO (P : Params) : Obj := ⟨(.type "builtin_function_or_method"), none, (.fields [(.builtin "type.__prepare__"), (.type "type")].toArray), [].toArray⟩
def acP (P : Params) : Obj := ⟨(.type "dict"), none, (.dict [E P "__module__" 622 (.str (S "givenback.watch") 395), E P "__qualname__" 624 (.str (S "Watch") 623), E P "__firstlineno__" 626 (.int (130) 625), E P "__init__" 637 (.ref 282), E P "see" 646 (.ref 289), E P "seen" 653 (.ref 296), E P "reason" 659 (.ref 301), E P "is_latest" 667 (.ref 308), E P "is_full" 673 (.ref 313), E P "may_fail" 679 (.ref 318), E P "take" 688 (.ref 325), E P "hold" 697 (.ref 332), E P "turn" 708 (.ref 339), E P "go_on" 717 (.ref 346), E P "__static_attributes__" 725 (.ref 347)].toArray 15), [].toArray⟩
def acQ (P : Params) : Obj := ⟨(.type "tuple"), none, (.seq [].toArray 0), [].toArray⟩
def acR (P : Params) : Obj := ⟨.none, none, (.fields [(.int (132) 0), (.int (4) 0), (.ref 281), (.int (142) 0), (.int (4) 0), (.ref 288), (.int (151) 0), (.int (4) 0), (.ref 295), (.int (154) 0), (.int (4) 0), (.ref 300), (.int (171) 0), (.int (4) 0), (.ref 307), (.int (174) 0), (.int (4) 0), (.ref 312), (.int (178) 0), (.int (4) 0), (.ref 317), (.int (185) 0), (.int (4) 0), (.ref 324), (.int (203) 0), (.int (4) 0), (.ref 331), (.int (211) 0), (.int (4) 0), (.ref 338), (.int (224) 0), (.int (4) 0), (.ref 345)].toArray), [].toArray⟩
def acS (P : Params) : Obj := ⟨(.type "code"), none, (.fields [(.str (S "Watch") 617), (.str (S "Watch") 618), (.str (S "/claim/cut.py") 619), (.int (130) 0), (.int (0) 0), (.int (0) 0), (.int (0) 0), (.int (0) 0), (.ref 271), (.bool false), (.int (181) 0), (.ref 272), .none, .none, .none, .none, (.int (620) 0), (.int (130) 0), (.str (S "/claim/cut.py") 621)].toArray), [].toArray⟩
def acT (P : Params) : Obj := ⟨(.type "frame"), none, .plain, [(some (.ref 273)), (some (.ref 3)), (some (.ref 270)), none, (some (.str (S "givenback.watch") 395)), none, (some (.ref 0))].toArray⟩
def Vk (P : Params) : Obj := ⟨(.type "dict"), none, (.dict [E P "things" 627 .none, E P "raw" 628 (.bool false)].toArray 2), [].toArray⟩
def Vl (P : Params) : Obj := ⟨(.type "tuple"), none, (.seq [].toArray 0), [].toArray⟩
def Vm (P : Params) : Obj := ⟨.none, none, (.fields [].toArray), [].toArray⟩
def Vn (P : Params) : Obj := ⟨(.type "tuple"), none, (.seq [(.str (S "self") 632), (.str (S "things") 633), (.str (S "raw") 634)].toArray 0), [].toArray⟩
def Vo (P : Params) : Obj := ⟨(.type "tuple"), none, (.seq [].toArray 0), [].toArray⟩
def Vp (P : Params) : Obj := ⟨.none, none, (.func ⟨(S "__init__"), (S "Watch.__init__"), L2.defArgs (L2.inClass (top 41) 0), .stmts (L2.defBody (L2.inClass (top 41) 0)), L2.defScope (L2.inClass (top 41) 0), 0, [], .none, .none, .none, .none, none, .none, .none, 0⟩), [].toArray⟩
def Vq (P : Params) : Obj := ⟨(.type "code"), none, (.fields [(.str (S "__init__") 629), (.str (S "Watch.__init__") 630), (.str (S "/claim/cut.py") 631), (.int (132) 0), (.int (1) 0), (.int (0) 0), (.int (2) 0), (.int (3) 0), (.ref 276), (.bool true), (.int (181) 0), (.ref 277), .none, (.ref 278), (.ref 279), (.ref 280), (.int (635) 0), (.int (132) 0), (.str (S "/claim/cut.py") 636)].toArray), [].toArray⟩
def Vr (P : Params) : Obj := ⟨(.type "function"), none, (.func ⟨(S "__init__"), (S "Watch.__init__"), L2.defArgs (L2.inClass (top 41) 0), .stmts (L2.defBody (L2.inClass (top 41) 0)), L2.defScope (L2.inClass (top 41) 0), 3, [], .none, (.ref 275), .none, (.str (S "givenback.watch") 395), none, (.ref 281), .none, 0⟩), [].toArray⟩
def Vs (P : Params) : Obj := ⟨(.type "tuple"), none, (.seq [].toArray 0), [].toArray⟩
def Vt (P : Params) : Obj := ⟨.none, none, (.fields [].toArray), [].toArray⟩
def Vu (P : Params) : Obj := ⟨(.type "tuple"), none, (.seq [(.str (S "self") 641), (.str (S "row") 642), (.str (S "why") 643)].toArray 0), [].toArray⟩
def Vv (P : Params) : Obj := ⟨(.type "tuple"), none, (.seq [].toArray 0), [].toArray⟩
def Vw (P : Params) : Obj := ⟨.none, none, (.func ⟨(S "see"), (S "Watch.see"), L2.defArgs (L2.inClass (top 41) 1), .stmts (L2.defBody (L2.inClass (top 41) 1)), L2.defScope (L2.inClass (top 41) 1), 0, [], .none, .none, .none, .none, none, .none, .none, 0⟩), [].toArray⟩
def Vx (P : Params) : Obj := ⟨(.type "code"), none, (.fields [(.str (S "see") 638), (.str (S "Watch.see") 639), (.str (S "/claim/cut.py") 640), (.int (142) 0), (.int (2) 0), (.int (0) 0), (.int (0) 0), (.int (3) 0), (.ref 283), (.bool true), (.int (181) 0), (.ref 284), .none, (.ref 285), (.ref 286), (.ref 287), (.int (644) 0), (.int (142) 0), (.str (S "/claim/cut.py") 645)].toArray), [].toArray⟩
def Vy (P : Params) : Obj := ⟨(.type "function"), none, (.func ⟨(S "see"), (S "Watch.see"), L2.defArgs (L2.inClass (top 41) 1), .stmts (L2.defBody (L2.inClass (top 41) 1)), L2.defScope (L2.inClass (top 41) 1), 3, [], .none, .none, .none, (.str (S "givenback.watch") 395), none, (.ref 288), .none, 0⟩), [].toArray⟩
def Vz (P : Params) : Obj := ⟨(.type "tuple"), none, (.seq [].toArray 0), [].toArray⟩
def VB (P : Params) : Obj := ⟨.none, none, (.fields [].toArray), [].toArray⟩
def VD (P : Params) : Obj := ⟨(.type "tuple"), none, (.seq [(.str (S "self") 650)].toArray 0), [].toArray⟩
def VF (P : Params) : Obj := ⟨(.type "tuple"), none, (.seq [].toArray 0), [].toArray⟩
def VG (P : Params) : Obj := ⟨.none, none, (.func ⟨(S "seen"), (S "Watch.seen"), L2.defArgs (L2.inClass (top 41) 2), .stmts (L2.defBody (L2.inClass (top 41) 2)), L2.defScope (L2.inClass (top 41) 2), 0, [], .none, .none, .none, .none, none, .none, .none, 0⟩), [].toArray⟩
def VH (P : Params) : Obj := ⟨(.type "code"), none, (.fields [(.str (S "seen") 647), (.str (S "Watch.seen") 648), (.str (S "/claim/cut.py") 649), (.int (151) 0), (.int (1) 0), (.int (0) 0), (.int (0) 0), (.int (3) 0), (.ref 290), (.bool true), (.int (181) 0), (.ref 291), .none, (.ref 292), (.ref 293), (.ref 294), (.int (651) 0), (.int (151) 0), (.str (S "/claim/cut.py") 652)].toArray), [].toArray⟩
def VJ (P : Params) : Obj := ⟨(.type "function"), none, (.func ⟨(S "seen"), (S "Watch.seen"), L2.defArgs (L2.inClass (top 41) 2), .stmts (L2.defBody (L2.inClass (top 41) 2)), L2.defScope (L2.inClass (top 41) 2), 3, [], .none, .none, .none, (.str (S "givenback.watch") 395), none, (.ref 295), .none, 0⟩), [].toArray⟩
def VL (P : Params) : Obj := ⟨(.type "tuple"), none, (.seq [].toArray 0), [].toArray⟩
def VN (P : Params) : Obj := ⟨.none, none, (.fields [].toArray), [].toArray⟩
def VP (P : Params) : Obj := ⟨.none, none, (.func ⟨(S "reason"), (S "Watch.reason"), L2.defArgs (L2.inClass (top 41) 3), .stmts (L2.defBody (L2.inClass (top 41) 3)), L2.defScope (L2.inClass (top 41) 3), 0, [], .none, .none, .none, .none, none, .none, .none, 0⟩), [].toArray⟩
def VR (P : Params) : Obj := ⟨(.type "code"), none, (.fields [(.str (S "reason") 654), (.str (S "Watch.reason") 655), (.str (S "/claim/cut.py") 656), (.int (154) 0), (.int (2) 0), (.int (0) 0), (.int (0) 0), (.int (3) 0), (.ref 297), (.bool true), (.int (181) 0), (.ref 298), .none, .none, .none, (.ref 299), (.int (657) 0), (.int (154) 0), (.str (S "/claim/cut.py") 658)].toArray), [].toArray⟩
def V1 (P : Params) : Obj := ⟨(.type "function"), none, (.func ⟨(S "reason"), (S "Watch.reason"), L2.defArgs (L2.inClass (top 41) 3), .stmts (L2.defBody (L2.inClass (top 41) 3)), L2.defScope (L2.inClass (top 41) 3), 3, [], .none, .none, .none, (.str (S "givenback.watch") 395), none, (.ref 300), .none, 0⟩), [].toArray⟩
def V2 (P : Params) : Obj := ⟨(.type "tuple"), none, (.seq [].toArray 0), [].toArray⟩
def V3 (P : Params) : Obj := ⟨.none, none, (.fields [].toArray), [].toArray⟩
def V4 (P : Params) : Obj := ⟨(.type "tuple"), none, (.seq [(.str (S "self") 663), (.str (S "number") 664)].toArray 0), [].toArray⟩
def V5 (P : Params) : Obj := ⟨(.type "tuple"), none, (.seq [].toArray 0), [].toArray⟩
def V6 (P : Params) : Obj := ⟨.none, none, (.func ⟨(S "is_latest"), (S "Watch.is_latest"), L2.defArgs (L2.inClass (top 41) 4), .stmts (L2.defBody (L2.inClass (top 41) 4)), L2.defScope (L2.inClass (top 41) 4), 0, [], .none, .none, .none, .none, none, .none, .none, 0⟩), [].toArray⟩
def V7 (P : Params) : Obj := ⟨(.type "code"), none, (.fields [(.str (S "is_latest") 660), (.str (S "Watch.is_latest") 661), (.str (S "/claim/cut.py") 662), (.int (171) 0), (.int (2) 0), (.int (0) 0), (.int (0) 0), (.int (3) 0), (.ref 302), (.bool true), (.int (181) 0), (.ref 303), .none, (.ref 304), (.ref 305), (.ref 306), (.int (665) 0), (.int (171) 0), (.str (S "/claim/cut.py") 666)].toArray), [].toArray⟩
def V8 (P : Params) : Obj := ⟨(.type "function"), none, (.func ⟨(S "is_latest"), (S "Watch.is_latest"), L2.defArgs (L2.inClass (top 41) 4), .stmts (L2.defBody (L2.inClass (top 41) 4)), L2.defScope (L2.inClass (top 41) 4), 3, [], .none, .none, .none, (.str (S "givenback.watch") 395), none, (.ref 307), .none, 0⟩), [].toArray⟩
def V9 (P : Params) : Obj := ⟨(.type "tuple"), none, (.seq [].toArray 0), [].toArray⟩
def Wb (P : Params) : Obj := ⟨.none, none, (.fields [].toArray), [].toArray⟩
def Wc (P : Params) : Obj := ⟨.none, none, (.func ⟨(S "is_full"), (S "Watch.is_full"), L2.defArgs (L2.inClass (top 41) 5), .stmts (L2.defBody (L2.inClass (top 41) 5)), L2.defScope (L2.inClass (top 41) 5), 0, [], .none, .none, .none, .none, none, .none, .none, 0⟩), [].toArray⟩
def Wf (P : Params) : Obj := ⟨(.type "code"), none, (.fields [(.str (S "is_full") 668), (.str (S "Watch.is_full") 669), (.str (S "/claim/cut.py") 670), (.int (174) 0), (.int (2) 0), (.int (0) 0), (.int (0) 0), (.int (3) 0), (.ref 309), (.bool true), (.int (181) 0), (.ref 310), .none, .none, .none, (.ref 311), (.int (671) 0), (.int (174) 0), (.str (S "/claim/cut.py") 672)].toArray), [].toArray⟩
def Wh (P : Params) : Obj := ⟨(.type "function"), none, (.func ⟨(S "is_full"), (S "Watch.is_full"), L2.defArgs (L2.inClass (top 41) 5), .stmts (L2.defBody (L2.inClass (top 41) 5)), L2.defScope (L2.inClass (top 41) 5), 3, [], .none, .none, .none, (.str (S "givenback.watch") 395), none, (.ref 312), .none, 0⟩), [].toArray⟩
def Wi (P : Params) : Obj := ⟨(.type "tuple"), none, (.seq [].toArray 0), [].toArray⟩
def Wj (P : Params) : Obj := ⟨.none, none, (.fields [].toArray), [].toArray⟩
def Wk (P : Params) : Obj := ⟨.none, none, (.func ⟨(S "may_fail"), (S "Watch.may_fail"), L2.defArgs (L2.inClass (top 41) 6), .stmts (L2.defBody (L2.inClass (top 41) 6)), L2.defScope (L2.inClass (top 41) 6), 0, [], .none, .none, .none, .none, none, .none, .none, 0⟩), [].toArray⟩
def Wm (P : Params) : Obj := ⟨(.type "code"), none, (.fields [(.str (S "may_fail") 674), (.str (S "Watch.may_fail") 675), (.str (S "/claim/cut.py") 676), (.int (178) 0), (.int (3) 0), (.int (0) 0), (.int (0) 0), (.int (3) 0), (.ref 314), (.bool true), (.int (181) 0), (.ref 315), .none, .none, .none, (.ref 316), (.int (677) 0), (.int (178) 0), (.str (S "/claim/cut.py") 678)].toArray), [].toArray⟩
def Wn (P : Params) : Obj := ⟨(.type "function"), none, (.func ⟨(S "may_fail"), (S "Watch.may_fail"), L2.defArgs (L2.inClass (top 41) 6), .stmts (L2.defBody (L2.inClass (top 41) 6)), L2.defScope (L2.inClass (top 41) 6), 3, [], .none, .none, .none, (.str (S "givenback.watch") 395), none, (.ref 317), .none, 0⟩), [].toArray⟩
def Wq (P : Params) : Obj := ⟨(.type "tuple"), none, (.seq [].toArray 0), [].toArray⟩
def Wr (P : Params) : Obj := ⟨.none, none, (.fields [].toArray), [].toArray⟩
def Ws (P : Params) : Obj := ⟨(.type "tuple"), none, (.seq [(.str (S "self") 683), (.str (S "row") 684), (.str (S "doer") 685)].toArray 0), [].toArray⟩
def Wt (P : Params) : Obj := ⟨(.type "tuple"), none, (.seq [].toArray 0), [].toArray⟩
def Wu (P : Params) : Obj := ⟨.none, none, (.func ⟨(S "take"), (S "Watch.take"), L2.defArgs (L2.inClass (top 41) 7), .stmts (L2.defBody (L2.inClass (top 41) 7)), L2.defScope (L2.inClass (top 41) 7), 0, [], .none, .none, .none, .none, none, .none, .none, 0⟩), [].toArray⟩
def Wv (P : Params) : Obj := ⟨(.type "code"), none, (.fields [(.str (S "take") 680), (.str (S "Watch.take") 681), (.str (S "/claim/cut.py") 682), (.int (185) 0), (.int (2) 0), (.int (0) 0), (.int (0) 0), (.int (3) 0), (.ref 319), (.bool true), (.int (181) 0), (.ref 320), .none, (.ref 321), (.ref 322), (.ref 323), (.int (686) 0), (.int (185) 0), (.str (S "/claim/cut.py") 687)].toArray), [].toArray⟩
def Ww (P : Params) : Obj := ⟨(.type "function"), none, (.func ⟨(S "take"), (S "Watch.take"), L2.defArgs (L2.inClass (top 41) 7), .stmts (L2.defBody (L2.inClass (top 41) 7)), L2.defScope (L2.inClass (top 41) 7), 3, [], .none, .none, .none, (.str (S "givenback.watch") 395), none, (.ref 324), .none, 0⟩), [].toArray⟩
def Wx (P : Params) : Obj := ⟨(.type "tuple"), none, (.seq [].toArray 0), [].toArray⟩
def Wy (P : Params) : Obj := ⟨.none, none, (.fields [].toArray), [].toArray⟩
def Wz (P : Params) : Obj := ⟨(.type "tuple"), none, (.seq [(.str (S "self") 692), (.str (S "had") 693), (.str (S "row") 694)].toArray 0), [].toArray⟩
def WD (P : Params) : Obj := ⟨(.type "tuple"), none, (.seq [].toArray 0), [].toArray⟩
def WK (P : Params) : Obj := ⟨.none, none, (.func ⟨(S "hold"), (S "Watch.hold"), L2.defArgs (L2.inClass (top 41) 8), .stmts (L2.defBody (L2.inClass (top 41) 8)), L2.defScope (L2.inClass (top 41) 8), 0, [], .none, .none, .none, .none, none, .none, .none, 0⟩), [].toArray⟩
def WL (P : Params) : Obj := ⟨(.type "code"), none, (.fields [(.str (S "hold") 689), (.str (S "Watch.hold") 690), (.str (S "/claim/cut.py") 691), (.int (203) 0), (.int (3) 0), (.int (0) 0), (.int (0) 0), (.int (3) 0), (.ref 326), (.bool true), (.int (181) 0), (.ref 327), .none, (.ref 328), (.ref 329), (.ref 330), (.int (695) 0), (.int (203) 0), (.str (S "/claim/cut.py") 696)].toArray), [].toArray⟩
def WM (P : Params) : Obj := ⟨(.type "function"), none, (.func ⟨(S "hold"), (S "Watch.hold"), L2.defArgs (L2.inClass (top 41) 8), .stmts (L2.defBody (L2.inClass (top 41) 8)), L2.defScope (L2.inClass (top 41) 8), 3, [], .none, .none, .none, (.str (S "givenback.watch") 395), none, (.ref 331), .none, 0⟩), [].toArray⟩
def WQ (P : Params) : Obj := ⟨(.type "tuple"), none, (.seq [].toArray 0), [].toArray⟩
def WR (P : Params) : Obj := ⟨.none, none, (.fields [].toArray), [].toArray⟩
def WT (P : Params) : Obj := ⟨(.type "tuple"), none, (.seq [(.str (S "self") 701), (.str (S "task") 702), (.str (S "row") 703), (.str (S "state") 704), (.str (S "shut") 705)].toArray 0), [].toArray⟩
def WW (P : Params) : Obj := ⟨(.type "tuple"), none, (.seq [].toArray 0), [].toArray⟩
def WY (P : Params) : Obj := ⟨.none, none, (.func ⟨(S "turn"), (S "Watch.turn"), L2.defArgs (L2.inClass (top 41) 9), .stmts (L2.defBody (L2.inClass (top 41) 9)), L2.defScope (L2.inClass (top 41) 9), 0, [], .none, .none, .none, .none, none, .none, .none, 0⟩), [].toArray⟩
def W0 (P : Params) : Obj := ⟨(.type "code"), none, (.fields [(.str (S "turn") 698), (.str (S "Watch.turn") 699), (.str (S "/claim/cut.py") 700), (.int (211) 0), (.int (3) 0), (.int (0) 0), (.int (0) 0), (.int (3) 0), (.ref 333), (.bool true), (.int (181) 0), (.ref 334), .none, (.ref 335), (.ref 336), (.ref 337), (.int (706) 0), (.int (211) 0), (.str (S "/claim/cut.py") 707)].toArray), [].toArray⟩
def W6 (P : Params) : Obj := ⟨(.type "function"), none, (.func ⟨(S "turn"), (S "Watch.turn"), L2.defArgs (L2.inClass (top 41) 9), .stmts (L2.defBody (L2.inClass (top 41) 9)), L2.defScope (L2.inClass (top 41) 9), 3, [], .none, .none, .none, (.str (S "givenback.watch") 395), none, (.ref 338), .none, 0⟩), [].toArray⟩
def W7 (P : Params) : Obj := ⟨(.type "tuple"), none, (.seq [].toArray 0), [].toArray⟩
def W8 (P : Params) : Obj := ⟨.none, none, (.fields [].toArray), [].toArray⟩
def W9 (P : Params) : Obj := ⟨(.type "tuple"), none, (.seq [(.str (S "self") 712), (.str (S "task") 713), (.str (S "row") 714)].toArray 0), [].toArray⟩
def Xa (P : Params) : Obj := ⟨(.type "tuple"), none, (.seq [].toArray 0), [].toArray⟩
def Xb (P : Params) : Obj := ⟨.none, none, (.func ⟨(S "go_on"), (S "Watch.go_on"), L2.defArgs (L2.inClass (top 41) 10), .stmts (L2.defBody (L2.inClass (top 41) 10)), L2.defScope (L2.inClass (top 41) 10), 0, [], .none, .none, .none, .none, none, .none, .none, 0⟩), [].toArray⟩
def Xc (P : Params) : Obj := ⟨(.type "code"), none, (.fields [(.str (S "go_on") 709), (.str (S "Watch.go_on") 710), (.str (S "/claim/cut.py") 711), (.int (224) 0), (.int (3) 0), (.int (0) 0), (.int (0) 0), (.int (3) 0), (.ref 340), (.bool true), (.int (181) 0), (.ref 341), .none, (.ref 342), (.ref 343), (.ref 344), (.int (715) 0), (.int (224) 0), (.str (S "/claim/cut.py") 716)].toArray), [].toArray⟩
def Xd (P : Params) : Obj := ⟨(.type "function"), none, (.func ⟨(S "go_on"), (S "Watch.go_on"), L2.defArgs (L2.inClass (top 41) 10), .stmts (L2.defBody (L2.inClass (top 41) 10)), L2.defScope (L2.inClass (top 41) 10), 3, [], .none, .none, .none, (.str (S "givenback.watch") 395), none, (.ref 345), .none, 0⟩), [].toArray⟩
def Xe (P : Params) : Obj := ⟨(.type "tuple"), none, (.seq [(.str (S "homes") 718), (.str (S "latest") 719), (.str (S "many") 720), (.str (S "must") 721), (.str (S "raw") 722), (.str (S "sizes") 723), (.str (S "tasks") 724)].toArray 0), [].toArray⟩
def Xf (P : Params) : Obj := ⟨(.type "dict"), none, (.dict [E P "__module__" 622 (.str (S "givenback.watch") 395), E P "__firstlineno__" 626 (.int (130) 625), E P "__init__" 637 (.ref 282), E P "see" 646 (.ref 289), E P "seen" 653 (.ref 296), E P "reason" 659 (.ref 301), E P "is_latest" 667 (.ref 308), E P "is_full" 673 (.ref 313), E P "may_fail" 679 (.ref 318), E P "take" 688 (.ref 325), E P "hold" 697 (.ref 332), E P "turn" 708 (.ref 339), E P "go_on" 717 (.ref 346), E P "__static_attributes__" 725 (.ref 347), E P "__dict__" 727 (.ref 350), E P "__weakref__" 729 (.ref 351), E P "__doc__" 730 .none].toArray 4), [].toArray⟩
def Xg (P : Params) : Obj := ⟨(.type "type"), none, (.cls ⟨(S "Watch"), [(.type "object")], [(.ref 349), (.type "object")], 348, (S "Watch"), true, [], [], false, none, false⟩), [none, none, (some (.str (S "Watch") 615)), (some (.str (S "Watch") 623)), (some (.builtin "object.__new__")), (some (.bool true))].toArray⟩
def Xh (P : Params) : Obj := ⟨(.type "getset_descriptor"), none, (.fields [(.str (S "__dict__") 726), (.ref 349), (.builtin "function.__dict__"), (.builtin "function.__dict__#set")].toArray), [].toArray⟩
def Xi (P : Params) : Obj := ⟨(.type "getset_descriptor"), none, (.fields [(.str (S "__weakref__") 728), (.ref 349), (.builtin "ExceptionGroup.__weakref__"), .none].toArray), [].toArray⟩
def acU (P : Params) : Obj := ⟨(.type "super"), none, (.fields [(.ref 349), (.ref 349), (.ref 349)].toArray), [].toArray⟩
def acV (P : Params) : Obj := ⟨(.type "builtin_function_or_method"), none, (.fields [(.builtin "object.__init_subclass__"), (.ref 349)].toArray), [].toArray⟩
def Xj (P : Params) : Obj := ⟨(.type "tuple"), none, (.seq [].toArray 0), [].toArray⟩
def Xk (P : Params) : Obj := ⟨.none, none, (.fields [].toArray), [].toArray⟩
def Xl (P : Params) : Obj := ⟨(.type "tuple"), none, (.seq [(.str (S "_law_script") 738), (.str (S "_law_k") 739)].toArray 0), [].toArray⟩
def Xm (P : Params) : Obj := ⟨(.type "tuple"), none, (.seq [].toArray 0), [].toArray⟩
def Xn (P : Params) : Obj := ⟨.none, none, (.func ⟨(S "_law_cell_at"), (S "_law_cell_at"), L2.defArgs (top 43), .stmts (L2.defBody (top 43)), L2.defScope (top 43), 0, [], .none, .none, .none, .none, none, .none, .none, 0⟩), [].toArray⟩
def Xo (P : Params) : Obj := ⟨(.type "code"), none, (.fields [(.str (S "_law_cell_at") 735), (.str (S "_law_cell_at") 736), (.str (S "/claim/cut.py") 737), (.int (235) 0), (.int (2) 0), (.int (0) 0), (.int (0) 0), (.int (3) 0), (.ref 354), (.bool true), (.int (181) 0), (.ref 355), .none, (.ref 356), (.ref 357), (.ref 358), (.int (740) 0), (.int (235) 0), (.str (S "/claim/cut.py") 741)].toArray), [].toArray⟩
def Xp (P : Params) : Obj := ⟨(.type "function"), none, (.func ⟨(S "_law_cell_at"), (S "_law_cell_at"), L2.defArgs (top 43), .stmts (L2.defBody (top 43)), L2.defScope (top 43), 3, [], .none, .none, .none, (.str (S "law_givenback_k22_kills_seen_and_landed") 733), none, (.ref 359), .none, 0⟩), [].toArray⟩
def Xq (P : Params) : Obj := ⟨(.type "tuple"), none, (.seq [].toArray 0), [].toArray⟩
def Xr (P : Params) : Obj := ⟨.none, none, (.fields [].toArray), [].toArray⟩
def Xu (P : Params) : Obj := ⟨(.type "tuple"), none, (.seq [(.str (S "_law_cell") 746)].toArray 0), [].toArray⟩
def Xv (P : Params) : Obj := ⟨(.type "tuple"), none, (.seq [].toArray 0), [].toArray⟩
def Xw (P : Params) : Obj := ⟨.none, none, (.func ⟨(S "_law_well"), (S "_law_well"), L2.defArgs (top 44), .stmts (L2.defBody (top 44)), L2.defScope (top 44), 0, [], .none, .none, .none, .none, none, .none, .none, 0⟩), [].toArray⟩
def Xx (P : Params) : Obj := ⟨(.type "code"), none, (.fields [(.str (S "_law_well") 743), (.str (S "_law_well") 744), (.str (S "/claim/cut.py") 745), (.int (239) 0), (.int (1) 0), (.int (0) 0), (.int (0) 0), (.int (3) 0), (.ref 361), (.bool true), (.int (181) 0), (.ref 362), .none, (.ref 363), (.ref 364), (.ref 365), (.int (747) 0), (.int (239) 0), (.str (S "/claim/cut.py") 748)].toArray), [].toArray⟩
def Xy (P : Params) : Obj := ⟨(.type "function"), none, (.func ⟨(S "_law_well"), (S "_law_well"), L2.defArgs (top 44), .stmts (L2.defBody (top 44)), L2.defScope (top 44), 3, [], .none, .none, .none, (.str (S "law_givenback_k22_kills_seen_and_landed") 733), none, (.ref 366), .none, 0⟩), [].toArray⟩
def Xz (P : Params) : Obj := ⟨(.type "tuple"), none, (.seq [].toArray 0), [].toArray⟩
def XC (P : Params) : Obj := ⟨.none, none, (.fields [].toArray), [].toArray⟩
def XD (P : Params) : Obj := ⟨(.type "tuple"), none, (.seq [(.str (S "_law_well_here") 753), (.str (S "_law_many") 754), (.str (S "_law_digit") 755), (.str (S "_law_number") 756)].toArray 0), [].toArray⟩
def XF (P : Params) : Obj := ⟨(.type "tuple"), none, (.seq [].toArray 0), [].toArray⟩
def XH (P : Params) : Obj := ⟨.none, none, (.func ⟨(S "_law_draw"), (S "_law_draw"), L2.defArgs (top 45), .stmts (L2.defBody (top 45)), L2.defScope (top 45), 0, [], .none, .none, .none, .none, none, .none, .none, 0⟩), [].toArray⟩
def XJ (P : Params) : Obj := ⟨(.type "code"), none, (.fields [(.str (S "_law_draw") 750), (.str (S "_law_draw") 751), (.str (S "/claim/cut.py") 752), (.int (241) 0), (.int (2) 0), (.int (0) 0), (.int (0) 0), (.int (3) 0), (.ref 368), (.bool true), (.int (181) 0), (.ref 369), .none, (.ref 370), (.ref 371), (.ref 372), (.int (757) 0), (.int (241) 0), (.str (S "/claim/cut.py") 758)].toArray), [].toArray⟩
def XM (P : Params) : Obj := ⟨(.type "function"), none, (.func ⟨(S "_law_draw"), (S "_law_draw"), L2.defArgs (top 45), .stmts (L2.defBody (top 45)), L2.defScope (top 45), 3, [], .none, .none, .none, (.str (S "law_givenback_k22_kills_seen_and_landed") 733), none, (.ref 373), .none, 0⟩), [].toArray⟩
def XQ (P : Params) : Obj := ⟨(.type "tuple"), none, (.seq [].toArray 0), [].toArray⟩
def XR (P : Params) : Obj := ⟨.none, none, (.fields [].toArray), [].toArray⟩
def XS (P : Params) : Obj := ⟨(.type "tuple"), none, (.seq [(.str (S "_law_well_here") 763), (.str (S "_law_some") 764)].toArray 0), [].toArray⟩
def X3 (P : Params) : Obj := ⟨(.type "tuple"), none, (.seq [].toArray 0), [].toArray⟩
def X4 (P : Params) : Obj := ⟨.none, none, (.func ⟨(S "_law_one"), (S "_law_one"), L2.defArgs (top 46), .stmts (L2.defBody (top 46)), L2.defScope (top 46), 0, [], .none, .none, .none, .none, none, .none, .none, 0⟩), [].toArray⟩
def X5 (P : Params) : Obj := ⟨(.type "code"), none, (.fields [(.str (S "_law_one") 760), (.str (S "_law_one") 761), (.str (S "/claim/cut.py") 762), (.int (250) 0), (.int (2) 0), (.int (0) 0), (.int (0) 0), (.int (3) 0), (.ref 375), (.bool true), (.int (181) 0), (.ref 376), .none, (.ref 377), (.ref 378), (.ref 379), (.int (765) 0), (.int (250) 0), (.str (S "/claim/cut.py") 766)].toArray), [].toArray⟩
def X6 (P : Params) : Obj := ⟨(.type "function"), none, (.func ⟨(S "_law_one"), (S "_law_one"), L2.defArgs (top 46), .stmts (L2.defBody (top 46)), L2.defScope (top 46), 3, [], .none, .none, .none, (.str (S "law_givenback_k22_kills_seen_and_landed") 733), none, (.ref 380), .none, 0⟩), [].toArray⟩
def X7 (P : Params) : Obj := ⟨(.type "tuple"), none, (.seq [].toArray 0), [].toArray⟩
def X8 (P : Params) : Obj := ⟨.none, none, (.fields [].toArray), [].toArray⟩
def Yb (P : Params) : Obj := ⟨.none, none, (.func ⟨(S "_law_word"), (S "_law_word"), L2.defArgs (top 47), .stmts (L2.defBody (top 47)), L2.defScope (top 47), 0, [], .none, .none, .none, .none, none, .none, .none, 0⟩), [].toArray⟩
def Yc (P : Params) : Obj := ⟨(.type "code"), none, (.fields [(.str (S "_law_word") 768), (.str (S "_law_word") 769), (.str (S "/claim/cut.py") 770), (.int (252) 0), (.int (1) 0), (.int (0) 0), (.int (0) 0), (.int (3) 0), (.ref 382), (.bool true), (.int (181) 0), (.ref 383), .none, .none, .none, (.ref 384), (.int (771) 0), (.int (252) 0), (.str (S "/claim/cut.py") 772)].toArray), [].toArray⟩
def Yd (P : Params) : Obj := ⟨(.type "function"), none, (.func ⟨(S "_law_word"), (S "_law_word"), L2.defArgs (top 47), .stmts (L2.defBody (top 47)), L2.defScope (top 47), 3, [], .none, .none, .none, (.str (S "law_givenback_k22_kills_seen_and_landed") 733), none, (.ref 385), .none, 0⟩), [].toArray⟩
def Ye (P : Params) : Obj := ⟨(.type "tuple"), none, (.seq [].toArray 0), [].toArray⟩
def Yg (P : Params) : Obj := ⟨.none, none, (.fields [].toArray), [].toArray⟩
def Yh (P : Params) : Obj := ⟨(.type "tuple"), none, (.seq [(.str (S "_law_name") 777)].toArray 0), [].toArray⟩
def Yi (P : Params) : Obj := ⟨(.type "tuple"), none, (.seq [].toArray 0), [].toArray⟩
def Yj (P : Params) : Obj := ⟨.none, none, (.func ⟨(S "_law_task"), (S "_law_task"), L2.defArgs (top 48), .stmts (L2.defBody (top 48)), L2.defScope (top 48), 0, [], .none, .none, .none, .none, none, .none, .none, 0⟩), [].toArray⟩
def Yk (P : Params) : Obj := ⟨(.type "code"), none, (.fields [(.str (S "_law_task") 774), (.str (S "_law_task") 775), (.str (S "/claim/cut.py") 776), (.int (255) 0), (.int (1) 0), (.int (0) 0), (.int (0) 0), (.int (3) 0), (.ref 387), (.bool true), (.int (181) 0), (.ref 388), .none, (.ref 389), (.ref 390), (.ref 391), (.int (778) 0), (.int (255) 0), (.str (S "/claim/cut.py") 779)].toArray), [].toArray⟩
def Yl (P : Params) : Obj := ⟨(.type "function"), none, (.func ⟨(S "_law_task"), (S "_law_task"), L2.defArgs (top 48), .stmts (L2.defBody (top 48)), L2.defScope (top 48), 3, [], .none, .none, .none, (.str (S "law_givenback_k22_kills_seen_and_landed") 733), none, (.ref 392), .none, 0⟩), [].toArray⟩
def Ym (P : Params) : Obj := ⟨(.type "tuple"), none, (.seq [].toArray 0), [].toArray⟩
def Yn (P : Params) : Obj := ⟨.none, none, (.fields [].toArray), [].toArray⟩
def Yo (P : Params) : Obj := ⟨.none, none, (.func ⟨(S "_law_latest"), (S "_law_latest"), L2.defArgs (top 49), .stmts (L2.defBody (top 49)), L2.defScope (top 49), 0, [], .none, .none, .none, .none, none, .none, .none, 0⟩), [].toArray⟩
def Yp (P : Params) : Obj := ⟨(.type "code"), none, (.fields [(.str (S "_law_latest") 781), (.str (S "_law_latest") 782), (.str (S "/claim/cut.py") 783), (.int (257) 0), (.int (2) 0), (.int (0) 0), (.int (0) 0), (.int (3) 0), (.ref 394), (.bool true), (.int (181) 0), (.ref 395), .none, .none, .none, (.ref 396), (.int (784) 0), (.int (257) 0), (.str (S "/claim/cut.py") 785)].toArray), [].toArray⟩
def Yq (P : Params) : Obj := ⟨(.type "function"), none, (.func ⟨(S "_law_latest"), (S "_law_latest"), L2.defArgs (top 49), .stmts (L2.defBody (top 49)), L2.defScope (top 49), 3, [], .none, .none, .none, (.str (S "law_givenback_k22_kills_seen_and_landed") 733), none, (.ref 397), .none, 0⟩), [].toArray⟩
def Yr (P : Params) : Obj := ⟨(.type "tuple"), none, (.seq [].toArray 0), [].toArray⟩
def Ys (P : Params) : Obj := ⟨.none, none, (.fields [].toArray), [].toArray⟩
def Yt (P : Params) : Obj := ⟨(.type "tuple"), none, (.seq [(.str (S "_law_tasks") 790), (.str (S "_law_row_here") 791), (.str (S "_law_word_here") 792), (.str (S "_law_by") 793), (.str (S "_law_number") 794), (.str (S "_law_ended") 795), (.str (S "_law_own") 796)].toArray 0), [].toArray⟩
def Yu (P : Params) : Obj := ⟨(.type "tuple"), none, (.seq [].toArray 0), [].toArray⟩
def Yv (P : Params) : Obj := ⟨.none, none, (.func ⟨(S "_law_told_due"), (S "_law_told_due"), L2.defArgs (top 50), .stmts (L2.defBody (top 50)), L2.defScope (top 50), 0, [], .none, .none, .none, .none, none, .none, .none, 0⟩), [].toArray⟩
def Yw (P : Params) : Obj := ⟨(.type "code"), none, (.fields [(.str (S "_law_told_due") 787), (.str (S "_law_told_due") 788), (.str (S "/claim/cut.py") 789), (.int (260) 0), (.int (2) 0), (.int (0) 0), (.int (0) 0), (.int (3) 0), (.ref 399), (.bool true), (.int (181) 0), (.ref 400), .none, (.ref 401), (.ref 402), (.ref 403), (.int (797) 0), (.int (260) 0), (.str (S "/claim/cut.py") 798)].toArray), [].toArray⟩
def Yx (P : Params) : Obj := ⟨(.type "function"), none, (.func ⟨(S "_law_told_due"), (S "_law_told_due"), L2.defArgs (top 50), .stmts (L2.defBody (top 50)), L2.defScope (top 50), 3, [], .none, .none, .none, (.str (S "law_givenback_k22_kills_seen_and_landed") 733), none, (.ref 404), .none, 0⟩), [].toArray⟩
def Yy (P : Params) : Obj := ⟨(.type "tuple"), none, (.seq [].toArray 0), [].toArray⟩
def Yz (P : Params) : Obj := ⟨.none, none, (.fields [].toArray), [].toArray⟩
def YB (P : Params) : Obj := ⟨.none, none, (.func ⟨(S "_law_end_due"), (S "_law_end_due"), L2.defArgs (top 51), .stmts (L2.defBody (top 51)), L2.defScope (top 51), 0, [], .none, .none, .none, .none, none, .none, .none, 0⟩), [].toArray⟩
def YC (P : Params) : Obj := ⟨(.type "code"), none, (.fields [(.str (S "_law_end_due") 800), (.str (S "_law_end_due") 801), (.str (S "/claim/cut.py") 802), (.int (274) 0), (.int (2) 0), (.int (0) 0), (.int (0) 0), (.int (3) 0), (.ref 406), (.bool true), (.int (181) 0), (.ref 407), .none, .none, .none, (.ref 408), (.int (803) 0), (.int (274) 0), (.str (S "/claim/cut.py") 804)].toArray), [].toArray⟩
def YD (P : Params) : Obj := ⟨(.type "function"), none, (.func ⟨(S "_law_end_due"), (S "_law_end_due"), L2.defArgs (top 51), .stmts (L2.defBody (top 51)), L2.defScope (top 51), 3, [], .none, .none, .none, (.str (S "law_givenback_k22_kills_seen_and_landed") 733), none, (.ref 409), .none, 0⟩), [].toArray⟩
def YF (P : Params) : Obj := ⟨(.type "tuple"), none, (.seq [].toArray 0), [].toArray⟩
def YG (P : Params) : Obj := ⟨.none, none, (.fields [].toArray), [].toArray⟩
def YH (P : Params) : Obj := ⟨.none, none, (.func ⟨(S "_law_due"), (S "_law_due"), L2.defArgs (top 52), .stmts (L2.defBody (top 52)), L2.defScope (top 52), 0, [], .none, .none, .none, .none, none, .none, .none, 0⟩), [].toArray⟩
def YJ (P : Params) : Obj := ⟨(.type "code"), none, (.fields [(.str (S "_law_due") 806), (.str (S "_law_due") 807), (.str (S "/claim/cut.py") 808), (.int (285) 0), (.int (2) 0), (.int (0) 0), (.int (0) 0), (.int (3) 0), (.ref 411), (.bool true), (.int (181) 0), (.ref 412), .none, .none, .none, (.ref 413), (.int (809) 0), (.int (285) 0), (.str (S "/claim/cut.py") 810)].toArray), [].toArray⟩
def YK (P : Params) : Obj := ⟨(.type "function"), none, (.func ⟨(S "_law_due"), (S "_law_due"), L2.defArgs (top 52), .stmts (L2.defBody (top 52)), L2.defScope (top 52), 3, [], .none, .none, .none, (.str (S "law_givenback_k22_kills_seen_and_landed") 733), none, (.ref 414), .none, 0⟩), [].toArray⟩
def YL (P : Params) : Obj := ⟨(.type "tuple"), none, (.seq [].toArray 0), [].toArray⟩
def YM (P : Params) : Obj := ⟨.none, none, (.fields [].toArray), [].toArray⟩
def YQ (P : Params) : Obj := ⟨(.type "tuple"), none, (.seq [(.str (S "_law_tasks") 815), (.str (S "_law_row_here") 816)].toArray 0), [].toArray⟩
def YS (P : Params) : Obj := ⟨(.type "tuple"), none, (.seq [].toArray 0), [].toArray⟩
def YT (P : Params) : Obj := ⟨.none, none, (.func ⟨(S "_law_done"), (S "_law_done"), L2.defArgs (top 53), .stmts (L2.defBody (top 53)), L2.defScope (top 53), 0, [], .none, .none, .none, .none, none, .none, .none, 0⟩), [].toArray⟩
def YW (P : Params) : Obj := ⟨(.type "code"), none, (.fields [(.str (S "_law_done") 812), (.str (S "_law_done") 813), (.str (S "/claim/cut.py") 814), (.int (303) 0), (.int (2) 0), (.int (0) 0), (.int (0) 0), (.int (3) 0), (.ref 416), (.bool true), (.int (181) 0), (.ref 417), .none, (.ref 418), (.ref 419), (.ref 420), (.int (817) 0), (.int (303) 0), (.str (S "/claim/cut.py") 818)].toArray), [].toArray⟩
def YX (P : Params) : Obj := ⟨(.type "function"), none, (.func ⟨(S "_law_done"), (S "_law_done"), L2.defArgs (top 53), .stmts (L2.defBody (top 53)), L2.defScope (top 53), 3, [], .none, .none, .none, (.str (S "law_givenback_k22_kills_seen_and_landed") 733), none, (.ref 421), .none, 0⟩), [].toArray⟩
def YZ (P : Params) : Obj := ⟨(.type "tuple"), none, (.seq [].toArray 0), [].toArray⟩
def Y0 (P : Params) : Obj := ⟨.none, none, (.fields [].toArray), [].toArray⟩
def Y4 (P : Params) : Obj := ⟨(.type "tuple"), none, (.seq [(.str (S "_law_well_here") 823), (.str (S "_law_many") 824), (.str (S "_law_word_here") 825), (.str (S "_law_number") 826)].toArray 0), [].toArray⟩
def Y5 (P : Params) : Obj := ⟨(.type "tuple"), none, (.seq [].toArray 0), [].toArray⟩
def Y6 (P : Params) : Obj := ⟨.none, none, (.func ⟨(S "_law_row"), (S "_law_row"), L2.defArgs (top 54), .stmts (L2.defBody (top 54)), L2.defScope (top 54), 0, [], .none, .none, .none, .none, none, .none, .none, 0⟩), [].toArray⟩
def Y7 (P : Params) : Obj := ⟨(.type "code"), none, (.fields [(.str (S "_law_row") 820), (.str (S "_law_row") 821), (.str (S "/claim/cut.py") 822), (.int (313) 0), (.int (2) 0), (.int (0) 0), (.int (0) 0), (.int (3) 0), (.ref 423), (.bool true), (.int (181) 0), (.ref 424), .none, (.ref 425), (.ref 426), (.ref 427), (.int (827) 0), (.int (313) 0), (.str (S "/claim/cut.py") 828)].toArray), [].toArray⟩
def Y8 (P : Params) : Obj := ⟨(.type "function"), none, (.func ⟨(S "_law_row"), (S "_law_row"), L2.defArgs (top 54), .stmts (L2.defBody (top 54)), L2.defScope (top 54), 3, [], .none, .none, .none, (.str (S "law_givenback_k22_kills_seen_and_landed") 733), none, (.ref 428), .none, 0⟩), [].toArray⟩
def Y9 (P : Params) : Obj := ⟨(.type "tuple"), none, (.seq [].toArray 0), [].toArray⟩
def Za (P : Params) : Obj := ⟨.none, none, (.fields [].toArray), [].toArray⟩
def Zb (P : Params) : Obj := ⟨(.type "tuple"), none, (.seq [(.str (S "_law_watch") 833), (.str (S "_law_row_here") 834), (.str (S "e") 835)].toArray 0), [].toArray⟩
def Zd (P : Params) : Obj := ⟨(.type "tuple"), none, (.seq [].toArray 0), [].toArray⟩
def Ze (P : Params) : Obj := ⟨.none, none, (.func ⟨(S "_law_seen"), (S "_law_seen"), L2.defArgs (top 55), .stmts (L2.defBody (top 55)), L2.defScope (top 55), 0, [], .none, .none, .none, .none, none, .none, .none, 0⟩), [].toArray⟩
def Zf (P : Params) : Obj := ⟨(.type "code"), none, (.fields [(.str (S "_law_seen") 830), (.str (S "_law_seen") 831), (.str (S "/claim/cut.py") 832), (.int (321) 0), (.int (2) 0), (.int (0) 0), (.int (0) 0), (.int (3) 0), (.ref 430), (.bool true), (.int (181) 0), (.ref 431), .none, (.ref 432), (.ref 433), (.ref 434), (.int (836) 0), (.int (321) 0), (.str (S "/claim/cut.py") 837)].toArray), [].toArray⟩
def Zg (P : Params) : Obj := ⟨(.type "function"), none, (.func ⟨(S "_law_seen"), (S "_law_seen"), L2.defArgs (top 55), .stmts (L2.defBody (top 55)), L2.defScope (top 55), 3, [], .none, .none, .none, (.str (S "law_givenback_k22_kills_seen_and_landed") 733), none, (.ref 435), .none, 0⟩), [].toArray⟩
def Zh (P : Params) : Obj := ⟨(.type "tuple"), none, (.seq [].toArray 0), [].toArray⟩
def Zi (P : Params) : Obj := ⟨.none, none, (.fields [].toArray), [].toArray⟩
def Zj (P : Params) : Obj := ⟨(.type "tuple"), none, (.seq [(.str (S "_law_script") 842), (.str (S "_law_well_here") 843), (.str (S "_law_names") 844), (.str (S "_law_watch") 845), (.str (S "_law_tasks") 846), (.str (S "_law_k") 847), (.str (S "_law_ahead") 848), (.str (S "_law_cell") 849), (.str (S "_law_teller") 850), (.str (S "_law_row_here") 851), (.str (S "_law_why") 852)].toArray 0), [].toArray⟩
def Zk (P : Params) : Obj := ⟨(.type "tuple"), none, (.seq [].toArray 0), [].toArray⟩
def Zm (P : Params) : Obj := ⟨.none, none, (.func ⟨(S "law"), (S "law"), L2.defArgs (top 56), .stmts (L2.defBody (top 56)), L2.defScope (top 56), 0, [], .none, .none, .none, .none, none, .none, .none, 0⟩), [].toArray⟩
def Zo (P : Params) : Obj := ⟨(.type "code"), none, (.fields [(.str (S "law") 839), (.str (S "law") 840), (.str (S "/claim/cut.py") 841), (.int (328) 0), (.int (1) 0), (.int (0) 0), (.int (0) 0), (.int (3) 0), (.ref 437), (.bool true), (.int (181) 0), (.ref 438), .none, (.ref 439), (.ref 440), (.ref 441), (.int (853) 0), (.int (328) 0), (.str (S "/claim/cut.py") 854)].toArray), [].toArray⟩
def Zq (P : Params) : Obj := ⟨(.type "function"), none, (.func ⟨(S "law"), (S "law"), L2.defArgs (top 56), .stmts (L2.defBody (top 56)), L2.defScope (top 56), 3, [], .none, .none, .none, (.str (S "law_givenback_k22_kills_seen_and_landed") 733), none, (.ref 442), .none, 0⟩), [].toArray⟩
def t6 (P : Params) : BT := (.node (zq P) (.node (Bj P) (.node (aem P) (.node (Fo P) (.node (GD P) (.node (CV P) (.node (Dq P) (.node (Jz P) (ak (Og P)) (ak (X8 P))) (.node (Lk P) (ak (Wq P)) .nil)) (.node (Iu P) (.node (Kf P) (ak (Vw P)) (ak (YK P))) (.node (MP P) (ak (Xi P)) .nil))) (.node (TQ P) (.node (HJ P) (.node (Vb P) (ak (acQ P)) (ak (Yr P))) (.node (Mi P) (ak (WT P)) .nil)) (.node (Jh P) (.node (KH P) (ak (V3 P)) (ak (Za P))) (.node (Nv P) (ak (Xy P)) .nil)))) (.node (CG P) (.node (Tt P) (.node (Ht P) (.node (JL P) (ak (Ot P)) (ak (Yj P))) (.node (LK P) (ak (Wy P)) .nil)) (.node (IW P) (.node (Ks P) (ak (VH P)) (ak (YZ P))) (.node (Nf P) (ak (Xo P)) .nil))) (.node (Dd P) (.node (Ih P) (.node (JX P) (ak (Vo P)) (ak (Yz P))) (.node (Mv P) (ak (Xa P)) .nil)) (.node (Jq P) (.node (K8 P) (ak (Wc P)) (ak (Zj P))) (.node (N5 P) (ak (XQ P)) .nil))))) (.node (yd P) (.node (G4 P) (.node (Hf P) (.node (Ds P) (.node (JF P) (ak (Ol P)) (ak (Ye P))) (.node (Lr P) (ak (Wu P)) .nil)) (.node (IV P) (.node (Vj P) (ak (VB P)) (ak (YS P))) (.node (M7 P) (ak (Xk P)) .nil))) (.node (T5 P) (.node (HY P) (.node (Vf P) (ak (Vk P)) (ak (Yv P))) (.node (Mq P) (ak (W6 P)) .nil)) (.node (Jl P) (.node (KY P) (ak (V7 P)) (ak (Zf P))) (.node (NP P) (ak (XF P)) .nil)))) (.node (zE P) (.node (Dc P) (.node (Dz P) (.node (Bs P) (ak (Ox P)) (ak (Yn P))) (.node (Bt P) (ak (WL P)) .nil)) (.node (Jd P) (.node (Ky P) (ak (VP P)) (ak (Y6 P))) (.node (Nq P) (ak (Xu P)) .nil))) (.node (Di P) (.node (Il P) (.node (Ka P) (ak (Vs P)) (ak (YF P))) (.node (MF P) (ak (Xe P)) .nil)) (.node (Jv P) (.node (Lf P) (ak (Wj P)) (ak (Zq P))) (.node (Oa P) (ak (X4 P)) .nil)))))) (.node (Fl P) (.node (Fq P) (.node (GX P) (.node (CZ P) (.node (Hq P) (.node (JC P) (ak (Oi P)) (ak (Yc P))) (.node (Lp P) (ak (Ws P)) .nil)) (.node (Iz P) (.node (Kh P) (ak (Vy P)) (ak (YM P))) (.node (M5 P) (ak (acV P)) .nil))) (.node (TX P) (.node (HW P) (.node (Vd P) (ak (acS P)) (ak (Yt P))) (.node (Ml P) (ak (WY P)) .nil)) (.node (Jj P) (.node (KN P) (ak (V5 P)) (ak (Zd P))) (.node (Nz P) (ak (XC P)) .nil)))) (.node (CK P) (.node (Tz P) (.node (Hv P) (.node (JN P) (ak (Ov P)) (ak (Yl P))) (.node (LR P) (ak (WD P)) .nil)) (.node (Jb P) (.node (Kv P) (ak (VL P)) (ak (Y4 P))) (.node (Nk P) (ak (Xq P)) .nil))) (.node (Dg P) (.node (Ij P) (.node (J8 P) (ak (Vq P)) (ak (YC P))) (.node (Mx P) (ak (Xc P)) .nil)) (.node (Jt P) (.node (La P) (ak (Wh P)) (ak (Zm P))) (.node (N7 P) (ak (XS P)) .nil))))) (.node (zA P) (.node (G8 P) (.node (Hh P) (.node (Du P) (.node (JH P) (ak (Oo P)) (ak (Yh P))) (.node (Lz P) (ak (Ww P)) .nil)) (.node (Bq P) (.node (Ko P) (ak (VF P)) (ak (YW P))) (.node (M9 P) (ak (Xm P)) .nil))) (.node (T7 P) (.node (Ie P) (.node (Vh P) (ak (Vm P)) (ak (Yx P))) (.node (Ms P) (ak (W8 P)) .nil)) (.node (Jo P) (.node (K6 P) (ak (V9 P)) (ak (Zh P))) (.node (NT P) (ak (XJ P)) .nil)))) (.node (CQ P) (.node (Hl P) (.node (HD P) (.node (JT P) (ak (acO P)) (ak (Yp P))) (.node (Mg P) (ak (WQ P)) .nil)) (.node (Jf P) (.node (KC P) (ak (V1 P)) (ak (Y8 P))) (.node (Nt P) (ak (Xw P)) .nil))) (.node (Dk P) (.node (Ip P) (.node (Kd P) (ak (Vu P)) (ak (YH P))) (.node (MK P) (ak (Xg P)) .nil)) (.node (Jx P) (.node (Lh P) (ak (Wm P)) .nil) (.node (Od P) (ak (X6 P)) .nil))))))) (.node (Bl P) (.node (Bm P) (.node (Fp P) (.node (GJ P) (.node (CW P) (.node (Dr P) (.node (JB P) (ak (Oh P)) (ak (Yb P))) (.node (Ln P) (ak (Wr P)) .nil)) (.node (Iw P) (.node (Kg P) (ak (Vx P)) (ak (YL P))) (.node (M4 P) (ak (acU P)) .nil))) (.node (TV P) (.node (HS P) (.node (Vc P) (ak (acR P)) (ak (Ys P))) (.node (Mj P) (ak (WW P)) .nil)) (.node (Ji P) (.node (KJ P) (ak (V4 P)) (ak (Zb P))) (.node (Ny P) (ak (Xz P)) .nil)))) (.node (CJ P) (.node (Tw P) (.node (Hu P) (.node (JM P) (ak (Ou P)) (ak (Yk P))) (.node (LQ P) (ak (Wz P)) .nil)) (.node (Ja P) (.node (Ku P) (ak (VJ P)) (ak (Y0 P))) (.node (Nh P) (ak (Xp P)) .nil))) (.node (Df P) (.node (Ii P) (.node (JZ P) (ak (Vp P)) (ak (YB P))) (.node (Mw P) (ak (Xb P)) .nil)) (.node (Jr P) (.node (K9 P) (ak (Wf P)) (ak (Zk P))) (.node (N6 P) (ak (XR P)) .nil))))) (.node (afq P) (.node (G6 P) (.node (Hg P) (.node (Dt P) (.node (JG P) (ak (Om P)) (ak (Yg P))) (.node (Ly P) (ak (Wv P)) .nil)) (.node (Bp P) (.node (Km P) (ak (VD P)) (ak (YT P))) (.node (M8 P) (ak (Xl P)) .nil))) (.node (T6 P) (.node (Ib P) (.node (Vg P) (ak (Vl P)) (ak (Yw P))) (.node (Mr P) (ak (W7 P)) .nil)) (.node (Jm P) (.node (KZ P) (ak (V8 P)) (ak (Zg P))) (.node (NQ P) (ak (XH P)) .nil)))) (.node (CP P) (.node (Hj P) (.node (Hz P) (.node (JR P) (ak (acN P)) (ak (Yo P))) (.node (Mf P) (ak (WM P)) .nil)) (.node (Je P) (.node (Kz P) (ak (VR P)) (ak (Y7 P))) (.node (Nr P) (ak (Xv P)) .nil))) (.node (Dj P) (.node (Io P) (.node (Kc P) (ak (Vt P)) (ak (YG P))) (.node (MJ P) (ak (Xf P)) .nil)) (.node (Jw P) (.node (Lg P) (ak (Wk P)) .nil) (.node (Oc P) (ak (X5 P)) .nil)))))) (.node (Bo P) (.node (zu P) (.node (GZ P) (.node (G9 P) (.node (Hr P) (.node (JD P) (ak (Oj P)) (ak (Yd P))) (.node (Lq P) (ak (Wt P)) .nil)) (.node (IK P) (.node (Vi P) (ak (Vz P)) (ak (YQ P))) (.node (M6 P) (ak (Xj P)) .nil))) (.node (TY P) (.node (HX P) (.node (Ve P) (ak (acT P)) (ak (Yu P))) (.node (Mp P) (ak (W0 P)) .nil)) (.node (Jk P) (.node (KQ P) (ak (V6 P)) (ak (Ze P))) (.node (NK P) (ak (XD P)) .nil)))) (.node (CN P) (.node (TF P) (.node (Hw P) (.node (JQ P) (ak (Ow P)) (ak (Ym P))) (.node (Ma P) (ak (WK P)) .nil)) (.node (Jc P) (.node (Kw P) (ak (VN P)) (ak (Y5 P))) (.node (Np P) (ak (Xr P)) .nil))) (.node (Dh P) (.node (Ik P) (.node (J9 P) (ak (Vr P)) (ak (YD P))) (.node (Mz P) (ak (Xd P)) .nil)) (.node (Ju P) (.node (Ld P) (ak (Wi P)) (ak (Zo P))) (.node (N8 P) (ak (X3 P)) .nil))))) (.node (zB P) (.node (Cz P) (.node (Hi P) (.node (Dy P) (.node (JK P) (ak (Oq P)) (ak (Yi P))) (.node (LC P) (ak (Wx P)) .nil)) (.node (Br P) (.node (Kr P) (ak (VG P)) (ak (YX P))) (.node (Nb P) (ak (Xn P)) .nil))) (.node (Ho P) (.node (Ig P) (.node (JW P) (ak (Vn P)) (ak (Yy P))) (.node (Mu P) (ak (W9 P)) .nil)) (.node (Jp P) (.node (K7 P) (ak (Wb P)) (ak (Zi P))) (.node (NZ P) (ak (XM P)) .nil)))) (.node (CT P) (.node (TJ P) (.node (HF P) (.node (JV P) (ak (acP P)) (ak (Yq P))) (.node (Mh P) (ak (WR P)) .nil)) (.node (Jg P) (.node (KD P) (ak (V2 P)) (ak (Y9 P))) (.node (Nu P) (ak (Xx P)) .nil))) (.node (Dm P) (.node (Ir P) (.node (Ke P) (ak (Vv P)) (ak (YJ P))) (.node (MN P) (ak (Xh P)) .nil)) (.node (Jy P) (.node (Lj P) (ak (Wn P)) .nil) (.node (Oe P) (ak (X7 P)) .nil))))))))
def S6 (w : World) (os : OsState) : SharedT := ⟨t6 w.params, 444, ⟨[], [], [], 0, [], [], false, [].toArray, [], 0, false, false, false, 0, [2000, 10, 10], false, 0, true, [], [], 0, false⟩, #[], ⟨0, 0, 0, 0⟩, 856, os⟩
theorem p6 (w : World) : ∀ os : OsState, HP.Piece PySem.Challenge.pw_givenback_k22_kills_seen_and_landed w n0 yg env0 q0 c0 pC 41 16 983 (S5 w os) (S6 w os) ⟨129, 0, 129, 6⟩ ⟨328, 0, 347, 42⟩ := by
  intro os
  unfold HP.Piece
  kernel_rfl
def t7 (P : Params) : BT := (.node (zq P) (.node (Bj P) (.node (aem P) (.node (Fo P) (.node (GD P) (.node (CV P) (.node (Dq P) (.node (Jz P) (ak (Og P)) (ak (X8 P))) (.node (Lk P) (ak (Wq P)) .nil)) (.node (Iu P) (.node (Kf P) (ak (Vw P)) (ak (YK P))) (.node (MP P) (ak (Xi P)) .nil))) (.node (TQ P) (.node (HJ P) (.node (Vb P) (ak (acQ P)) (ak (Yr P))) (.node (Mi P) (ak (WT P)) .nil)) (.node (Jh P) (.node (KH P) (ak (V3 P)) (ak (Za P))) (.node (Nv P) (ak (Xy P)) .nil)))) (.node (CG P) (.node (Tt P) (.node (Ht P) (.node (JL P) (ak (Ot P)) (ak (Yj P))) (.node (LK P) (ak (Wy P)) .nil)) (.node (IW P) (.node (Ks P) (ak (VH P)) (ak (YZ P))) (.node (Nf P) (ak (Xo P)) .nil))) (.node (Dd P) (.node (Ih P) (.node (JX P) (ak (Vo P)) (ak (Yz P))) (.node (Mv P) (ak (Xa P)) .nil)) (.node (Jq P) (.node (K8 P) (ak (Wc P)) (ak (Zj P))) (.node (N5 P) (ak (XQ P)) .nil))))) (.node (yd P) (.node (G4 P) (.node (Hf P) (.node (Ds P) (.node (JF P) (ak (Ol P)) (ak (Ye P))) (.node (Lr P) (ak (Wu P)) .nil)) (.node (IV P) (.node (Vj P) (ak (VB P)) (ak (YS P))) (.node (M7 P) (ak (Xk P)) .nil))) (.node (T5 P) (.node (HY P) (.node (Vf P) (ak (Vk P)) (ak (Yv P))) (.node (Mq P) (ak (W6 P)) .nil)) (.node (Jl P) (.node (KY P) (ak (V7 P)) (ak (Zf P))) (.node (NP P) (ak (XF P)) .nil)))) (.node (zE P) (.node (Dc P) (.node (Dz P) (.node (Bs P) (ak (Ox P)) (ak (Yn P))) (.node (Bt P) (ak (WL P)) .nil)) (.node (Jd P) (.node (Ky P) (ak (VP P)) (ak (Y6 P))) (.node (Nq P) (ak (Xu P)) .nil))) (.node (Di P) (.node (Il P) (.node (Ka P) (ak (Vs P)) (ak (YF P))) (.node (MF P) (ak (Xe P)) .nil)) (.node (Jv P) (.node (Lf P) (ak (Wj P)) (ak (Zq P))) (.node (Oa P) (ak (X4 P)) .nil)))))) (.node (Fl P) (.node (Fq P) (.node (GX P) (.node (CZ P) (.node (Hq P) (.node (JC P) (ak (Oi P)) (ak (Yc P))) (.node (Lp P) (ak (Ws P)) .nil)) (.node (Iz P) (.node (Kh P) (ak (Vy P)) (ak (YM P))) (.node (M5 P) (ak (acV P)) .nil))) (.node (TX P) (.node (HW P) (.node (Vd P) (ak (acS P)) (ak (Yt P))) (.node (Ml P) (ak (WY P)) .nil)) (.node (Jj P) (.node (KN P) (ak (V5 P)) (ak (Zd P))) (.node (Nz P) (ak (XC P)) .nil)))) (.node (CK P) (.node (Tz P) (.node (Hv P) (.node (JN P) (ak (Ov P)) (ak (Yl P))) (.node (LR P) (ak (WD P)) .nil)) (.node (Jb P) (.node (Kv P) (ak (VL P)) (ak (Y4 P))) (.node (Nk P) (ak (Xq P)) .nil))) (.node (Dg P) (.node (Ij P) (.node (J8 P) (ak (Vq P)) (ak (YC P))) (.node (Mx P) (ak (Xc P)) .nil)) (.node (Jt P) (.node (La P) (ak (Wh P)) (ak (Zm P))) (.node (N7 P) (ak (XS P)) .nil))))) (.node (zA P) (.node (G8 P) (.node (Hh P) (.node (Du P) (.node (JH P) (ak (Oo P)) (ak (Yh P))) (.node (Lz P) (ak (Ww P)) .nil)) (.node (Bq P) (.node (Ko P) (ak (VF P)) (ak (YW P))) (.node (M9 P) (ak (Xm P)) .nil))) (.node (T7 P) (.node (Ie P) (.node (Vh P) (ak (Vm P)) (ak (Yx P))) (.node (Ms P) (ak (W8 P)) .nil)) (.node (Jo P) (.node (K6 P) (ak (V9 P)) (ak (Zh P))) (.node (NT P) (ak (XJ P)) .nil)))) (.node (CQ P) (.node (Hl P) (.node (HD P) (.node (JT P) (ak (acO P)) (ak (Yp P))) (.node (Mg P) (ak (WQ P)) .nil)) (.node (Jf P) (.node (KC P) (ak (V1 P)) (ak (Y8 P))) (.node (Nt P) (ak (Xw P)) .nil))) (.node (Dk P) (.node (Ip P) (.node (Kd P) (ak (Vu P)) (ak (YH P))) (.node (MK P) (ak (Xg P)) .nil)) (.node (Jx P) (.node (Lh P) (ak (Wm P)) .nil) (.node (Od P) (ak (X6 P)) .nil))))))) (.node (Bl P) (.node (Bm P) (.node (Fp P) (.node (GJ P) (.node (CW P) (.node (Dr P) (.node (JB P) (ak (Oh P)) (ak (Yb P))) (.node (Ln P) (ak (Wr P)) .nil)) (.node (Iw P) (.node (Kg P) (ak (Vx P)) (ak (YL P))) (.node (M4 P) (ak (acU P)) .nil))) (.node (TV P) (.node (HS P) (.node (Vc P) (ak (acR P)) (ak (Ys P))) (.node (Mj P) (ak (WW P)) .nil)) (.node (Ji P) (.node (KJ P) (ak (V4 P)) (ak (Zb P))) (.node (Ny P) (ak (Xz P)) .nil)))) (.node (CJ P) (.node (Tw P) (.node (Hu P) (.node (JM P) (ak (Ou P)) (ak (Yk P))) (.node (LQ P) (ak (Wz P)) .nil)) (.node (Ja P) (.node (Ku P) (ak (VJ P)) (ak (Y0 P))) (.node (Nh P) (ak (Xp P)) .nil))) (.node (Df P) (.node (Ii P) (.node (JZ P) (ak (Vp P)) (ak (YB P))) (.node (Mw P) (ak (Xb P)) .nil)) (.node (Jr P) (.node (K9 P) (ak (Wf P)) (ak (Zk P))) (.node (N6 P) (ak (XR P)) .nil))))) (.node (afq P) (.node (G6 P) (.node (Hg P) (.node (Dt P) (.node (JG P) (ak (Om P)) (ak (Yg P))) (.node (Ly P) (ak (Wv P)) .nil)) (.node (Bp P) (.node (Km P) (ak (VD P)) (ak (YT P))) (.node (M8 P) (ak (Xl P)) .nil))) (.node (T6 P) (.node (Ib P) (.node (Vg P) (ak (Vl P)) (ak (Yw P))) (.node (Mr P) (ak (W7 P)) .nil)) (.node (Jm P) (.node (KZ P) (ak (V8 P)) (ak (Zg P))) (.node (NQ P) (ak (XH P)) .nil)))) (.node (CP P) (.node (Hj P) (.node (Hz P) (.node (JR P) (ak (acN P)) (ak (Yo P))) (.node (Mf P) (ak (WM P)) .nil)) (.node (Je P) (.node (Kz P) (ak (VR P)) (ak (Y7 P))) (.node (Nr P) (ak (Xv P)) .nil))) (.node (Dj P) (.node (Io P) (.node (Kc P) (ak (Vt P)) (ak (YG P))) (.node (MJ P) (ak (Xf P)) .nil)) (.node (Jw P) (.node (Lg P) (ak (Wk P)) .nil) (.node (Oc P) (ak (X5 P)) .nil)))))) (.node (Bo P) (.node (zu P) (.node (GZ P) (.node (G9 P) (.node (Hr P) (.node (JD P) (ak (Oj P)) (ak (Yd P))) (.node (Lq P) (ak (Wt P)) .nil)) (.node (IK P) (.node (Vi P) (ak (Vz P)) (ak (YQ P))) (.node (M6 P) (ak (Xj P)) .nil))) (.node (TY P) (.node (HX P) (.node (Ve P) (ak (acT P)) (ak (Yu P))) (.node (Mp P) (ak (W0 P)) .nil)) (.node (Jk P) (.node (KQ P) (ak (V6 P)) (ak (Ze P))) (.node (NK P) (ak (XD P)) .nil)))) (.node (CN P) (.node (TF P) (.node (Hw P) (.node (JQ P) (ak (Ow P)) (ak (Ym P))) (.node (Ma P) (ak (WK P)) .nil)) (.node (Jc P) (.node (Kw P) (ak (VN P)) (ak (Y5 P))) (.node (Np P) (ak (Xr P)) .nil))) (.node (Dh P) (.node (Ik P) (.node (J9 P) (ak (Vr P)) (ak (YD P))) (.node (Mz P) (ak (Xd P)) .nil)) (.node (Ju P) (.node (Ld P) (ak (Wi P)) (ak (Zo P))) (.node (N8 P) (ak (X3 P)) .nil))))) (.node (zB P) (.node (Cz P) (.node (Hi P) (.node (Dy P) (.node (JK P) (ak (Oq P)) (ak (Yi P))) (.node (LC P) (ak (Wx P)) .nil)) (.node (Br P) (.node (Kr P) (ak (VG P)) (ak (YX P))) (.node (Nb P) (ak (Xn P)) .nil))) (.node (Ho P) (.node (Ig P) (.node (JW P) (ak (Vn P)) (ak (Yy P))) (.node (Mu P) (ak (W9 P)) .nil)) (.node (Jp P) (.node (K7 P) (ak (Wb P)) (ak (Zi P))) (.node (NZ P) (ak (XM P)) .nil)))) (.node (CT P) (.node (TJ P) (.node (HF P) (.node (JV P) (ak (acP P)) (ak (Yq P))) (.node (Mh P) (ak (WR P)) .nil)) (.node (Jg P) (.node (KD P) (ak (V2 P)) (ak (Y9 P))) (.node (Nu P) (ak (Xx P)) .nil))) (.node (Dm P) (.node (Ir P) (.node (Ke P) (ak (Vv P)) (ak (YJ P))) (.node (MN P) (ak (Xh P)) .nil)) (.node (Jy P) (.node (Lj P) (ak (Wn P)) .nil) (.node (Oe P) (ak (X7 P)) .nil))))))))
def S7 (w : World) (os : OsState) : SharedT := ⟨t7 w.params, 444, ⟨[], [], [], 0, [], [], false, [].toArray, [], 0, false, false, false, 0, [2000, 10, 10], false, 0, true, [], [], 0, false⟩, #[], ⟨0, 0, 0, 0⟩, 856, os⟩
theorem hf (w : World) (os : OsState) : HandSHeadRun.goF (HP.Q6 PySem.Challenge.pw_givenback_k22_kills_seen_and_landed w) n0 yg 3 (S6 w os) ⟨doneF .next, c0, ⟨328, 0, 347, 42⟩, [topFrame q0]⟩ = some (S7 w os) := by kernel_rfl
abbrev SF (w : World) (os : OsState) : SharedT := S7 w os
def as0 : List Addr := [3, 2, 6, 4, 32, 45, 64, 71, 78, 85, 86, 109, 116, 123, 128, 135, 140, 141, 142, 159, 170, 177, 184, 191, 198, 205, 212, 219, 226, 233, 240, 247, 254, 261, 266, 267, 349, 360, 367, 374, 381, 386, 393, 398, 405, 410, 415, 422, 429, 436, 443, 0, 31, 44, 63, 70, 77, 84, 87, 88, 89, 90, 91, 92, 93, 94, 95, 96, 97, 98, 99, 100, 101, 102, 108, 115, 122, 127, 134, 139, 158, 169, 176, 183, 190, 197, 204, 211, 218, 225, 232, 239, 246, 253, 260, 265, 348, 359, 366, 373, 380, 385, 392, 397, 404, 409, 414, 421, 428, 435, 442, 29, 30, 33, 43, 61, 62, 67, 68, 69, 72, 73, 74, 75, 76, 79, 80, 81, 82, 83, 103, 104, 105, 106, 107, 110, 111, 112, 113, 114, 117, 118, 119, 120, 121, 124, 125, 126, 129, 130, 131, 132, 133, 136, 137, 138, 156, 157, 160, 161, 164, 165, 166, 167, 168, 171, 172, 173, 174, 175, 178, 179, 180, 181, 182, 185, 186, 187, 188, 189, 192, 193, 194, 195, 196, 199, 200, 201, 202, 203, 206, 207, 208, 209, 210, 213, 214, 215, 216, 217, 220, 221, 222, 223, 224, 227, 228, 229, 230, 231, 234, 235, 236, 237, 238, 241, 242, 243, 244, 245, 248, 249, 250, 251, 252, 255, 256, 257, 258, 259, 262, 263, 264, 282, 289, 296, 301, 308, 313, 318, 325, 332, 339, 346, 347, 350, 351, 354, 355, 356, 357, 358, 361, 362, 363, 364, 365, 368, 369, 370, 371, 372, 375, 376, 377, 378, 379, 382, 383, 384, 387, 388, 389, 390, 391, 394, 395, 396, 399, 400, 401, 402, 403, 406, 407, 408, 411, 412, 413, 416, 417, 418, 419, 420, 423, 424, 425, 426, 427, 430, 431, 432, 433, 434, 437, 438, 439, 440, 441, 28, 22, 60, 155, 281, 275, 288, 295, 300, 307, 312, 317, 324, 331, 338, 345, 23, 24, 25, 26, 27, 55, 56, 57, 58, 59, 150, 151, 152, 153, 154, 276, 277, 278, 279, 280, 283, 284, 285, 286, 287, 290, 291, 292, 293, 294, 297, 298, 299, 302, 303, 304, 305, 306, 309, 310, 311, 314, 315, 316, 319, 320, 321, 322, 323, 326, 327, 328, 329, 330, 333, 334, 335, 336, 337, 340, 341, 342, 343, 344]
def KF (P : Params) : PySem.W.Frag := [(3, aem P), (2, Bl P), (6, Bo P), (4, Bm P), (32, CW P), (45, Hl P), (64, Dr P), (71, Ht P), (78, HF P), (85, Ie P), (86, Ig P), (109, Jf P), (116, Jm P), (123, Jv P), (128, JB P), (135, JL P), (140, JR P), (141, JT P), (142, JV P), (159, Kf P), (170, Kw P), (177, KN P), (184, K9 P), (191, Lk P), (198, LC P), (205, Mg P), (212, Mr P), (219, MF P), (226, M6 P), (233, Nk P), (240, Ny P), (247, N5 P), (254, Oe P), (261, Oo P), (266, Ow P), (267, Ox P), (349, Xg P), (360, Xp P), (367, Xy P), (374, XM P), (381, X6 P), (386, Yd P), (393, Yl P), (398, Yq P), (405, Yx P), (410, YD P), (415, YK P), (422, YX P), (429, Y8 P), (436, Zg P), (443, Zq P), (0, zq P), (31, CV P), (44, Hj P), (63, Dq P), (70, Dy P), (77, HD P), (84, Ib P), (87, Ih P), (88, Ii P), (89, Ij P), (90, Ik P), (91, Il P), (92, Io P), (93, Ip P), (94, Ir P), (95, Iu P), (96, Iw P), (97, Iz P), (98, IK P), (99, IV P), (100, Bp P), (101, Bq P), (102, Br P), (108, Je P), (115, Jl P), (122, Ju P), (127, Jz P), (134, JK P), (139, Bs P), (158, Ke P), (169, Kv P), (176, KJ P), (183, K8 P), (190, Lj P), (197, Lz P), (204, Mf P), (211, Mq P), (218, Mz P), (225, M5 P), (232, Nh P), (239, Nv P), (246, NZ P), (253, Od P), (260, Om P), (265, Ov P), (348, Xf P), (359, Xo P), (366, Xx P), (373, XJ P), (380, X5 P), (385, Yc P), (392, Yk P), (397, Yp P), (404, Yw P), (409, YC P), (414, YJ P), (421, YW P), (428, Y7 P), (435, Zf P), (442, Zo P), (29, CQ P), (30, CT P), (33, CZ P), (43, Dc P), (61, Dk P), (62, Dm P), (67, Ds P), (68, Dt P), (69, Du P), (72, Hu P), (73, Hv P), (74, Hw P), (75, Dz P), (76, Hz P), (79, HJ P), (80, HS P), (81, HW P), (82, HX P), (83, HY P), (103, IW P), (104, Ja P), (105, Jb P), (106, Jc P), (107, Jd P), (110, Jg P), (111, Jh P), (112, Ji P), (113, Jj P), (114, Jk P), (117, Jo P), (118, Jp P), (119, Jq P), (120, Jr P), (121, Jt P), (124, Jw P), (125, Jx P), (126, Jy P), (129, JC P), (130, JD P), (131, JF P), (132, JG P), (133, JH P), (136, JM P), (137, JN P), (138, JQ P), (156, Kc P), (157, Kd P), (160, Kg P), (161, Kh P), (164, Km P), (165, Ko P), (166, Kr P), (167, Ks P), (168, Ku P), (171, Ky P), (172, Kz P), (173, KC P), (174, KD P), (175, KH P), (178, KQ P), (179, KY P), (180, KZ P), (181, K6 P), (182, K7 P), (185, La P), (186, Ld P), (187, Lf P), (188, Lg P), (189, Lh P), (192, Ln P), (193, Lp P), (194, Lq P), (195, Lr P), (196, Ly P), (199, LK P), (200, LQ P), (201, LR P), (202, Ma P), (203, Bt P), (206, Mh P), (207, Mi P), (208, Mj P), (209, Ml P), (210, Mp P), (213, Ms P), (214, Mu P), (215, Mv P), (216, Mw P), (217, Mx P), (220, MJ P), (221, MK P), (222, MN P), (223, MP P), (224, M4 P), (227, M7 P), (228, M8 P), (229, M9 P), (230, Nb P), (231, Nf P), (234, Np P), (235, Nq P), (236, Nr P), (237, Nt P), (238, Nu P), (241, Nz P), (242, NK P), (243, NP P), (244, NQ P), (245, NT P), (248, N6 P), (249, N7 P), (250, N8 P), (251, Oa P), (252, Oc P), (255, Og P), (256, Oh P), (257, Oi P), (258, Oj P), (259, Ol P), (262, Oq P), (263, Ot P), (264, Ou P), (282, Vr P), (289, Vy P), (296, VJ P), (301, V1 P), (308, V8 P), (313, Wh P), (318, Wn P), (325, Ww P), (332, WM P), (339, W6 P), (346, Xd P), (347, Xe P), (350, Xh P), (351, Xi P), (354, Xj P), (355, Xk P), (356, Xl P), (357, Xm P), (358, Xn P), (361, Xq P), (362, Xr P), (363, Xu P), (364, Xv P), (365, Xw P), (368, Xz P), (369, XC P), (370, XD P), (371, XF P), (372, XH P), (375, XQ P), (376, XR P), (377, XS P), (378, X3 P), (379, X4 P), (382, X7 P), (383, X8 P), (384, Yb P), (387, Ye P), (388, Yg P), (389, Yh P), (390, Yi P), (391, Yj P), (394, Ym P), (395, Yn P), (396, Yo P), (399, Yr P), (400, Ys P), (401, Yt P), (402, Yu P), (403, Yv P), (406, Yy P), (407, Yz P), (408, YB P), (411, YF P), (412, YG P), (413, YH P), (416, YL P), (417, YM P), (418, YQ P), (419, YS P), (420, YT P), (423, YZ P), (424, Y0 P), (425, Y4 P), (426, Y5 P), (427, Y6 P), (430, Y9 P), (431, Za P), (432, Zb P), (433, Zd P), (434, Ze P), (437, Zh P), (438, Zi P), (439, Zj P), (440, Zk P), (441, Zm P), (28, CP P), (22, Cz P), (60, Dj P), (155, Ka P), (281, Vq P), (275, Vk P), (288, Vx P), (295, VH P), (300, VR P), (307, V7 P), (312, Wf P), (317, Wm P), (324, Wv P), (331, WL P), (338, W0 P), (345, Xc P), (23, CG P), (24, CJ P), (25, CK P), (26, CN P), (27, zE P), (55, Dd P), (56, Df P), (57, Dg P), (58, Dh P), (59, Di P), (150, JW P), (151, JX P), (152, JZ P), (153, J8 P), (154, J9 P), (276, Vl P), (277, Vm P), (278, Vn P), (279, Vo P), (280, Vp P), (283, Vs P), (284, Vt P), (285, Vu P), (286, Vv P), (287, Vw P), (290, Vz P), (291, VB P), (292, VD P), (293, VF P), (294, VG P), (297, VL P), (298, VN P), (299, VP P), (302, V2 P), (303, V3 P), (304, V4 P), (305, V5 P), (306, V6 P), (309, V9 P), (310, Wb P), (311, Wc P), (314, Wi P), (315, Wj P), (316, Wk P), (319, Wq P), (320, Wr P), (321, Ws P), (322, Wt P), (323, Wu P), (326, Wx P), (327, Wy P), (328, Wz P), (329, WD P), (330, WK P), (333, WQ P), (334, WR P), (335, WT P), (336, WW P), (337, WY P), (340, W7 P), (341, W8 P), (342, W9 P), (343, Xa P), (344, Xb P)]
theorem hK (w : World) (os : OsState) : He.frG (HandSHeadRun.getT (SF w os)) as0 = KF w.params := by kernel_rfl
theorem hn (w : World) : (boot_heap w.params).objs.size = n0 := by kernel_rfl
theorem ha (w : World) : HandSHeadRun.bootAnn w = yg := by kernel_rfl
theorem run (w : World) (os : OsState) : ∃ M, M ≤ 200000 ∧ topRun treeTable PySem.Challenge.pw_givenback_k22_kills_seen_and_landed w (boot_heap w.params).objs.size (HandSHeadRun.bootAnn w) M ⟨boot_heap w.params, #[], boot_drawn, boot_toks, os⟩ (topStub PySem.Challenge.pw_givenback_k22_kills_seen_and_landed) = some (SF w os).abs := by
  have h1 := (HP.Piece.app (p2 w os) (HP.Piece.app (p3 w os) (HP.Piece.app (p4 w os) (HP.Piece.app (p5 w os) (HP.Piece.app (p6 w os) (HP.abC (env := env0) (b := pC) (by decide +kernel) (hf w os)))))))
  have h2 := HP.block_start (hs w os) h1
  rw [← hn w, ← ha w] at h2
  have e : HandSHeadRun.denQ HandSHeadRun.tabQ c0 = denote treeTable (.body pC env0) := by
    rw [← HandSHeadRun.denQ_eq, ← HandSHeadRun.tabQ_eq]
    rfl
  have h0 := hb w os
  rw [e] at h0
  exact ⟨_, by decide, HP.Cy.top h0 h2⟩
end Fj
end
noncomputable section
namespace Fj
open PySem PySem.W PyProof.Rows L2 cY
abbrev R : PySem.W.OpenRow := PySem.W.OpenLaw.row PySem.Challenge.rw_givenback_k22_kills_seen_and_landed
abbrev hk : PySem.W.Hook := HP.abD as0 fa0 tabs parts
def others : List PySem.Str := ((["is_name", "is_whole", "is_number", "is_outcome", "is_count", "is_part", "is_log_row", "doer_of", "check_told", "first_so", "ask_doing", "ask_begun", "ask_kill", "ask_late", "ask_nobody", "ask_got", "ask_given", "ask_landed", "ask_masked", "ask_opened"] : List PySem.Str) ++ (["ask_last", "ask_lasted", "ask_rescued", "ask_ended", "_law_cell_at", "_law_well", "_law_draw", "_law_one", "_law_word", "_law_task", "_law_latest", "_law_told_due", "_law_end_due", "_law_due", "_law_done", "_law_row", "_law_seen", "LETTERS", "LONGEST", "FORMS"] : List PySem.Str) ++ (["ON", "KILLED", "MOST_TASKS", "PLAIN_SIZE", "ASKING", "WorkError", "BadRun", "Broken", "Seen", "Watch"] : List PySem.Str))
abbrev Q : Program := PySem.W.view R.prog [56]
abbrev xt : Shared → Bool := fun s => PySem.W.xlAt Q [] s && PySem.W.recOk R.toRowW.records s
theorem af2 (w : World) (os : OsState) : HandSHeadRun.looksF R.prog (PySem.W.boot_heap w.params) (SF w os).abs = true := by kernel_rfl
theorem ahD (w : World) (os : OsState) : HandSHeadRun.seenQ Q others (importedModules R.prog.main.body) xt (SF w os).abs = PySem.W.openGood Q others := by kernel_rfl
theorem ahE (w : World) : GB.obsE fa0 [] tabs [] (KF w.params) = GB.valE [] tabs w := by kernel_rfl
theorem akT (w : World) : (pt0.map fun p => GB.obsE p.1 p.2.1 [] p.2.2 (KF w.params)) = GB.Us pt0 w := by kernel_rfl
theorem af3 (w : World) : (parts.map fun p => GB.obsE p.1 p.2.1 [] p.2.2 (KF w.params)) = GB.Us parts w := akT w
theorem ends (w : World) (os : OsState) : ∃ s, HP.Ends R.prog Q others xt hk.obs hk.val 200000 w os s :=
  HP.afS (run w os) (af2 w os) (ahD w os) (HP.aeb (hK w os) (ahE w) (af3 w))
end Fj
end
section
open PySem PySem.W PySem.Calls PyProof.Rows
set_option maxHeartbeats 0 in
theorem hold0 (call : PySem.W.WalkO Fj.Q Fj.others (XL Fj.Q []) (Hook.says Fj.hk) (OpenRow.toRowW (OpenLaw.row PySem.Challenge.rw_givenback_k22_kills_seen_and_landed)) (HandSHeadRun.topDef (OpenLaw.row PySem.Challenge.rw_givenback_k22_kills_seen_and_landed).prog 56) [] fun f vs => PySem.call f vs) : PySem.Challenge.rw_givenback_k22_kills_seen_and_landed.Holds := by
  w_on; o_law
  refine HP.head (r := OpenLaw.row PySem.Challenge.rw_givenback_k22_kills_seen_and_landed) (q := Fj.Q) (H := Fj.hk) (M := 200000) (loose := Fj.others) (d := HandSHeadRun.topDef (OpenLaw.row PySem.Challenge.rw_givenback_k22_kills_seen_and_landed).prog 56) (kwd := [])
    (by kernel_rfl) (fun s => by kernel_rfl) Fj.ends (by kernel_rfl) (by kernel_rfl) (by kernel_rfl) (by rfl) (by first | assumption | decide +kernel) (by decide +kernel) ⟨rfl, rfl, rfl, rfl, rfl, by decide +kernel⟩ ?hw call
  case hw => w_witness2
end
namespace PD
open PySem PySem.Spec PyProof.Rows L2
inductive D where
  | non | bl (b : Bool) | int (i : Int) | str (x : Str) | tup (ds : List D) | lst (ds : List D) | dB (ds : List D)
  | obj (c : Str) (fs : List (Str × D)) | ref (n : Nat) | glo (x : Str) | ty (n : String)
  deriving Inhabited
inductive Cell where
  | lst (ds : List D) | dict (kvs : List (Key × D)) | ins (c : Str) (fs : List (Str × D)) | jE (kvs : List (Key × D))
abbrev AH := List Cell
inductive Res (β : Type) where
  | ok (b : β) (h : AH) | exc (c : Str) (fs : List (Str × D)) (h : AH) | stuck
def Res.bind {β γ : Type} : Res β → (β → AH → Res γ) → Res γ
  | .ok b h, g => g b h
  | .exc c fs h, _ => .exc c fs h
  | .stuck, _ => .stuck
@[simp] theorem Res.d7 {β γ : Type} {b : β} {h : AH} {g : β → AH → Res γ} : (Res.ok b h).bind g = g b h := rfl
@[simp] theorem Res.dG {β γ : Type} {c : Str} {fs : List (Str × D)} {h : AH} {g : β → AH → Res γ} : (Res.exc c fs h).bind g = .exc c fs h := rfl
@[simp] theorem Res.ajs {β γ : Type} {g : β → AH → Res γ} : (Res.stuck : Res β).bind g = .stuck := rfl
def El {β : Type} : Option (β × AH) → Res β
  | some p => .ok p.1 p.2
  | none => .stuck
@[simp] theorem dH {β : Type} {p : β × AH} : El (some p) = .ok p.1 p.2 := rfl
@[simp] theorem akU {β : Type} : El (none : Option (β × AH)) = .stuck := rfl
abbrev En := List (Option D)
abbrev ME := En → AH → Res D
abbrev MT := En → AH → Res Bool
abbrev MA := En → AH → Res (List D)
inductive RS where
  | nx (e : En) (h : AH) | rt (d : D) (h : AH) | bk (e : En) (h : AH) | ct (e : En) (h : AH)
  | exc (c : Str) (fs : List (Str × D)) (e : En) (h : AH) | stuck
abbrev MS := En → AH → RS
abbrev MG := D → En → AH → Res En
def Res.st {β : Type} (e : En) : Res β → (β → AH → RS) → RS
  | .ok b h, g => g b h
  | .exc c fs h, _ => .exc c fs e h
  | .stuck, _ => .stuck
@[simp] theorem Res.iJ {β : Type} {e : En} {b : β} {h : AH} {g : β → AH → RS} : (Res.ok b h).st e g = g b h := rfl
@[simp] theorem Res.gA {β : Type} {e : En} {c : Str} {fs : List (Str × D)} {h : AH} {g : β → AH → RS} : (Res.exc c fs h).st e g = .exc c fs e h := rfl
@[simp] theorem Res.akV {β : Type} {e : En} {g : β → AH → RS} : (Res.stuck : Res β).st e g = .stuck := rfl
def RS.seq : RS → (En → AH → RS) → RS
  | .nx e h, g => g e h
  | r, _ => r
@[simp] theorem RS.gD {e : En} {h : AH} {g : En → AH → RS} : (RS.nx e h).seq g = g e h := rfl
@[simp] theorem RS.gG {d : D} {h : AH} {g : En → AH → RS} : (RS.rt d h).seq g = .rt d h := rfl
@[simp] theorem RS.eV {c : Str} {fs : List (Str × D)} {e : En} {h : AH} {g : En → AH → RS} : (RS.exc c fs e h).seq g = .exc c fs e h := rfl
@[simp] theorem RS.aj8 {g : En → AH → RS} : RS.stuck.seq g = .stuck := rfl
@[simp] theorem RS.alk {e : En} {h : AH} {g : En → AH → RS} : (RS.bk e h).seq g = .bk e h := rfl
@[simp] theorem RS.alm {e : En} {h : AH} {g : En → AH → RS} : (RS.ct e h).seq g = .ct e h := rfl
def ao (i : Nat) : ME := fun e h => match e[i]? with
  | some (some d) => .ok d h
  | _ => .stuck
def eC (d : D) : ME := fun _ h => .ok d h
abbrev O1 := D → AH → Option (D × AH)
abbrev O2 := D → D → AH → Option (D × AH)
abbrev ON := List D → AH → Option (D × AH)
def pU (o : O1) (fa : ME) : ME := fun e h => (fa e h).bind fun a h1 => El (o a h1)
def aG (o : O2) (fa fb : ME) : ME := fun e h => (fa e h).bind fun a h1 => (fb e h1).bind fun b h2 => El (o a b h2)
def aA : MA := fun _ h => .ok [] h
def aq (fa : ME) (fr : MA) : MA := fun e h => (fa e h).bind fun a h1 => (fr e h1).bind fun r h2 => .ok (a :: r) h2
def bH (o : ON) (fa : MA) : ME := fun e h => (fa e h).bind fun as h1 => El (o as h1)
def truth : D → AH → Option Bool
  | .non, _ => some false
  | .bl b, _ => some b
  | .int i, _ => some (i != 0)
  | .str x, _ => if x.length ≤ 16777216 then some ((x.length : Int) != 0) else none
  | .lst ds, _ => some (!ds.isEmpty)
  | .dB ds, _ => some (!ds.isEmpty)
  | .tup ds, _ => some (!ds.isEmpty)
  | .ref n, h => match h[n]? with
    | some (.lst ds) => some (!ds.isEmpty)
    | some (.dict kvs) => some (!kvs.isEmpty)
    | _ => none
  | _, _ => none
def tTru (d : D) (h : AH) : Res Bool := match truth d h with
  | some b => .ok b h
  | none => .stuck
def eO (fa fb : ME) : ME := fun e h => (fa e h).bind fun a h1 => (tTru a h1).bind fun b h1 => if b = true then fb e h1 else .ok a h1
def oG (fa fb : ME) : ME := fun e h => (fa e h).bind fun a h1 => (tTru a h1).bind fun b h1 => if b = true then .ok a h1 else fb e h1
def gY (fa : ME) : ME := fun e h => (fa e h).bind fun a h1 => (tTru a h1).bind fun b h1 => .ok (.bl (!b)) h1
def qG (c : MT) (fa fb : ME) : ME := fun e h => (c e h).bind fun b h1 => if b = true then fa e h1 else fb e h1
def eU (o o' : O2) (fa fb fc : ME) : ME := fun e h => (fa e h).bind fun a h1 => (fb e h1).bind fun b h2 => (El (o a b h2)).bind fun z h3 => match z with
  | .bl k => if k = true then (fc e h3).bind fun c h4 => El (o' b c h4) else .ok (.bl false) h3
  | _ => .stuck
def dX (fa : ME) : MT := fun e h => (fa e h).bind fun a h1 => tTru a h1
def isB : D → AH → Res Bool
  | .bl b, h => .ok b h
  | _, _ => .stuck
@[simp] theorem gH {b : Bool} {h : AH} : isB (.bl b) h = .ok b h := rfl
def bY (fa : ME) : MT := fun e h => (fa e h).bind fun a h1 => isB a h1
def fV (c d : MT) : MT := fun e h => (c e h).bind fun b h1 => if b = true then d e h1 else .ok false h1
def mW (c d : MT) : MT := fun e h => (c e h).bind fun b h1 => if b = true then .ok true h1 else d e h1
def fW (c : MT) : MT := fun e h => (c e h).bind fun b h1 => .ok (!b) h1
def bV : MS := fun e h => .nx e h
def aZ (f g : MS) : MS := fun e h => (f e h).seq g
def eE (fa : ME) : MS := fun e h => (fa e h).st e fun _ h1 => .nx e h1
def bK (fa : ME) : MS := fun e h => (fa e h).st e fun d h1 => .rt d h1
def jg : MS := fun _ h => .rt .non h
def cA (c : MT) (f g : MS) : MS := fun e h => (c e h).st e fun b h1 => if b = true then f e h1 else g e h1
def bO (fa : ME) (g : MG) : MS := fun e h => (fa e h).st e fun d h1 => (g d e h1).st e fun e' h2 => .nx e' h2
def gName (i : Nat) : MG := fun d e h => .ok (e.set i (some d)) h
def gNil : List D → En → AH → Res En := fun ds e h => match ds with
  | [] => .ok e h
  | _ => .stuck
def gCons (g : MG) (r : List D → En → AH → Res En) : List D → En → AH → Res En := fun ds e h => match ds with
  | d :: ds => (g d e h).bind fun e' h1 => r ds e' h1
  | _ => .stuck
def forL (g : MG) (b : MS) : List D → En → AH → RS
  | [], e, h => .nx e h
  | d :: ds, e, h => (g d e h).st e fun e1 h1 => match b e1 h1 with
    | .nx e2 h2 => forL g b ds e2 h2
    | .ct e2 h2 => forL g b ds e2 h2
    | .bk e2 h2 => .nx e2 h2
    | r => r
def jG (it : En → AH → Res (List D)) (g : MG) (b : MS) : MS := fun e h => (it e h).st e fun ds h1 => forL g b ds e h1
def dN (e : En) : List Nat → En
  | [] => e
  | i :: is => (dN e is).set i none
def cQ (g : MG) (t : MT) (f : ME) (own : List Nat) (e : En) : List D → List D → AH → Res (List D)
  | acc, [], h => .ok acc h
  | acc, d :: ds, h => match g d (dN e own) h with
    | .ok e1 h1 => match t e1 h1 with
      | .ok true h2 => match f e1 h2 with
        | .ok x h3 => if acc.length < 16777216 then cQ g t f own e (acc ++ [x]) ds h3 else .stuck
        | _ => .stuck
      | .ok false h2 => cQ g t f own e acc ds h2
      | _ => .stuck
    | _ => .stuck
def jH (it : En → AH → Res (List D)) (g : MG) (t : MT) (f : ME) (own : List Nat) : ME := fun e h => (it e h).bind fun ds h1 => (cQ g t f own e [] ds h1).bind fun r h2 => .ok (.lst r) h2
def fG : MT := fun _ h => .ok true h
def body (n N : Nat) (f : MS) : List D → AH → Res D := fun ds h => if ds.length = n then match f (ds.map some ++ List.replicate (N - n) none) h with
  | .nx _ h' => .ok .non h'
  | .rt d h' => .ok d h'
  | .exc c fs _ h' => .exc c fs h'
  | _ => .stuck
  else .stuck
def aY (n k : Nat) (m : List D → AH → Res D) (fa fk : MA) : ME := fun e h => (fa e h).bind fun ds h1 => (fk e h1).bind fun es h2 => if ds.length = n ∧ es.length = k then m (ds ++ es) h2 else .stuck
end PD
namespace PD
open PySem PySem.Spec PyProof.Rows L2
structure Al where
  c : List Addr
  r : List Addr
def Al.has (al : Al) (a : Addr) : Prop := a ∈ al.c ∨ a ∈ al.r
def Ls (H : Hp) (al : Al) (a : Addr) (vs : List V) : Prop := H a = some (.lst vs) ∧ ¬ al.has a
def Kl (K : PySem.W.Frag) (H : Hp) (al : Al) (a : Addr) (vs : List V) : Prop :=
  (∃ o, H a = some (.frz o (.lst vs)) ∧ ¬ al.has a) ∨
    ∃ (o : Obj) (its : Array Value) (n : Nat), K.lookup a = some o ∧ o.cls = .type "list" ∧ o.dict = none ∧ o.data = .seq its n ∧ its.size ≤ sizeLine ∧ Vals vs its.toList
theorem Ls.sq {K : PySem.W.Frag} {H : Hp} {al : Al} {a : Addr} {vs : List V} (h : Ls H al a vs) : SqL K H a vs := .inl (.inl h.1)
theorem Kl.sq {K : PySem.W.Frag} {H : Hp} {al : Al} {a : Addr} {vs : List V} (h : Kl K H al a vs) : SqL K H a vs := by
  rcases h with ⟨o, h, _⟩ | h
  · exact .inl (.inr ⟨o, h⟩)
  · exact .inr h
mutual
inductive Rp (K : PySem.W.Frag) (H : Hp) (al : Al) : D → V → Prop
  | non : Rp K H al .non .non
  | bl (b : Bool) : Rp K H al (.bl b) (.bl b)
  | int (i : Int) : Rp K H al (.int i) (.int i)
  | str (x : Str) : Rp K H al (.str x) (.str x)
  | ty (n : String) : Rp K H al (.ty n) (.ty n)
  | glo (x : Str) : Rp K H al (.glo x) (.ref (He.ga K x))
  | ref {n : Nat} {a : Addr} : al.c[n]? = some a → Rp K H al (.ref n) (.ref a)
  | tup {a : Addr} {ds : List D} {vs : List V} : SqT K H a vs → bx K H al ds vs → Rp K H al (.tup ds) (.ref a)
  | lst {a : Addr} {ds : List D} {vs : List V} : Ls H al a vs → bx K H al ds vs → Rp K H al (.lst ds) (.ref a)
  | dB {a : Addr} {ds : List D} {vs : List V} : Kl K H al a vs → bx K H al ds vs → Rp K H al (.dB ds) (.ref a)
  | obj {c : Str} {a dx : Addr} {fs : List (Str × D)} {gs : List (Str × V)} : H a = some (.ins (He.ga K c) dx gs) → ¬ al.has a → dU K H al fs gs → Rp K H al (.obj c fs) (.ref a)
inductive bx (K : PySem.W.Frag) (H : Hp) (al : Al) : List D → List V → Prop
  | nil : bx K H al [] []
  | cons {d : D} {v : V} {ds : List D} {vs : List V} : Rp K H al d v → bx K H al ds vs → bx K H al (d :: ds) (v :: vs)
inductive dU (K : PySem.W.Frag) (H : Hp) (al : Al) : List (Str × D) → List (Str × V) → Prop
  | nil : dU K H al [] []
  | cons {f : Str} {d : D} {v : V} {ds : List (Str × D)} {vs : List (Str × V)} : Rp K H al d v → dU K H al ds vs → dU K H al ((f, d) :: ds) ((f, v) :: vs)
end
structure Le (H : Hp) (al : Al) (H' : Hp) (aQ : Al) : Prop where
  pre : ∃ t, aQ.c = al.c ++ t
  wH : aQ.r = al.r
  keep : ∀ a o, H a = some o → ¬ al.has a → H' a = some o
  res : ∀ a ∈ al.r, H' a = H a
  new : ∀ a ∈ aQ.c, a ∈ al.c ∨ H a = none
  lk : ∀ a o u, H a = some (.frz o u) → H' a = some (.frz o u)
section
variable {K : PySem.W.Frag} {H H' H2 : Hp} {al aQ dD : Al} {a : Addr} {vs : List V}
theorem Le.refl : Le H al H al := ⟨⟨[], by simp⟩, rfl, fun _ _ h _ => h, fun _ _ => rfl, fun _ h => .inl h, fun _ _ _ h => h⟩
theorem Le.out (l : Le H al H' aQ) {o : HO} (h : H a = some o) (n : ¬ al.has a) : ¬ aQ.has a := fun z => by
  rcases z with z | z
  · rcases l.new a z with q | q
    · exact n (.inl q)
    · rw [h] at q
      cases q
  · rw [l.wH] at z
    exact n (.inr z)
theorem Le.trans (l : Le H al H' aQ) (m : Le H' aQ H2 dD) : Le H al H2 dD := by
  obtain ⟨t, ht⟩ := l.pre
  obtain ⟨u, hu⟩ := m.pre
  refine ⟨⟨t ++ u, by rw [hu, ht, List.append_assoc]⟩, m.wH.trans l.wH, fun a o e n => m.keep a o (l.keep a o e n) (l.out e n), fun a ha => (m.res a (by rw [l.wH]; exact ha)).trans (l.res a ha), fun a ha => ?_, fun a o u e => m.lk a o u (l.lk a o u e)⟩
  rcases m.new a ha with h | h
  · exact l.new a h
  · by_cases q : al.has a
    · rcases q with q | q
      · exact .inl q
      · rw [l.res a q] at h
        exact .inr h
    · cases e : H a with
      | none => exact .inr rfl
      | some o =>
        rw [l.keep a o e q] at h
        cases h
structure jr (H : Hp) (al : Al) (H' : Hp) (aQ : Al) : Prop where
  pre : ∃ t, aQ.c = al.c ++ t
  keep : ∀ a o, H a = some o → ¬ al.has a → H' a = some o
  out : ∀ a o, H a = some o → ¬ al.has a → ¬ aQ.has a
  lk : ∀ a o u, H a = some (.frz o u) → H' a = some (.frz o u)
theorem Le.Bu (l : Le H al H' aQ) : jr H al H' aQ := ⟨l.pre, l.keep, fun _ _ h n => l.out h n, l.lk⟩
theorem jr.get (l : jr H al H' aQ) {n : Nat} (h : al.c[n]? = some a) : aQ.c[n]? = some a := by
  obtain ⟨t, ht⟩ := l.pre
  rw [ht, List.getElem?_append_left]
  · exact h
  · exact (List.getElem?_eq_some_iff.mp h).1
theorem Ls.cU (h : Ls H al a vs) (l : jr H al H' aQ) : Ls H' aQ a vs := ⟨l.keep _ _ h.1 h.2, l.out _ _ h.1 h.2⟩
theorem Kl.cU (h : Kl K H al a vs) (l : jr H al H' aQ) : Kl K H' aQ a vs := by
  rcases h with ⟨o, h, n⟩ | h
  · exact .inl ⟨o, l.keep _ _ h n, l.out _ _ h n⟩
  · exact .inr h
end
def fL (K : PySem.W.Frag) (H : Hp) (al : Al) (a : Addr) : Cell → Prop
  | .lst ds => ∃ vs, H a = some (.lst vs) ∧ bx K H al ds vs
  | .dict kvs => ∃ ws, H a = some (.dK ws) ∧ ws.map (·.1) = kvs.map (·.1) ∧ bx K H al (kvs.map (·.2)) (ws.map (·.2))
  | .ins c fs => ∃ dx gs, H a = some (.ins (He.ga K c) dx gs) ∧ dU K H al fs gs
  | .jE kvs => ∃ o ws, H a = some (.frz o (.dK ws)) ∧ ws.map (·.1) = kvs.map (·.1) ∧ bx K H al (kvs.map (·.2)) (ws.map (·.2))
theorem fL.some {K : PySem.W.Frag} {H : Hp} {al : Al} {a : Addr} {c : Cell} (h : fL K H al a c) : ∃ o, H a = some o ∧ ∀ xs, o ≠ .tup xs := by
  cases c with
  | lst ds =>
    obtain ⟨vs, e, _⟩ := h
    exact ⟨_, e, fun _ z => nomatch z⟩
  | dict kvs =>
    obtain ⟨vs, e, _⟩ := h
    exact ⟨_, e, fun _ z => nomatch z⟩
  | ins c fs =>
    obtain ⟨dx, gs, e, _⟩ := h
    exact ⟨_, e, fun _ z => nomatch z⟩
  | jE kvs =>
    obtain ⟨o, ws, e, _⟩ := h
    exact ⟨_, e, fun _ z => nomatch z⟩
structure HR (K : PySem.W.Frag) (H : Hp) (al : Al) (h : AH) : Prop where
  nd : al.c.Nodup
  len : al.c.length = h.length
  dis : ∀ a ∈ al.c, a ∉ al.r
  rs : ∀ a ∈ al.r, ∃ vs, H a = some (.lst vs)
  at_ : ∀ (n : Nat) (c : Cell) (a : Addr), h[n]? = some c → al.c[n]? = some a → fL K H al a c
section
variable {K : PySem.W.Frag} {H H' H2 : Hp} {al aQ dD : Al} {a p : Addr} {vs : List V} {h h' : AH} {n : Nat} {c : Cell}
theorem HR.addr (r : HR K H al h) (e : h[n]? = some c) : ∃ a, al.c[n]? = some a ∧ fL K H al a c := by
  have hl : n < al.c.length := by
    rw [r.len]
    exact (List.getElem?_eq_some_iff.mp e).1
  exact ⟨al.c[n], by simp [hl], r.at_ n c _ e (by simp [hl])⟩
theorem HR.cell (r : HR K H al h) (e : al.c[n]? = some a) : ∃ c, h[n]? = some c ∧ fL K H al a c := by
  have hl : n < h.length := by
    rw [← r.len]
    exact (List.getElem?_eq_some_iff.mp e).1
  exact ⟨h[n], by simp [hl], r.at_ n _ a (by simp [hl]) e⟩
theorem HR.here (r : HR K H al h) (m : a ∈ al.c) : ∃ o, H a = some o ∧ ∀ xs, o ≠ .tup xs := by
  obtain ⟨n, e⟩ := List.getElem?_of_mem m
  obtain ⟨c, _, q⟩ := r.cell e
  exact q.some
theorem HR.acW (r : HR K H al h) {xs : List V} (e : Rd H a (.tup xs)) : ¬ al.has a := fun m => by
  rcases m with m | m
  · obtain ⟨n, e2⟩ := List.getElem?_of_mem m
    obtain ⟨c, _, q⟩ := r.cell e2
    cases c with
    | lst ds =>
      obtain ⟨vs, q, _⟩ := q
      rcases e with e | ⟨o, e⟩ <;> rw [q] at e <;> cases e
    | dict kvs =>
      obtain ⟨vs, q, _⟩ := q
      rcases e with e | ⟨o, e⟩ <;> rw [q] at e <;> cases e
    | ins c fs =>
      obtain ⟨dx, gs, q, _⟩ := q
      rcases e with e | ⟨o, e⟩ <;> rw [q] at e <;> cases e
    | jE kvs =>
      obtain ⟨o2, ws, q, _⟩ := q
      rcases e with e | ⟨o, e⟩ <;> rw [q] at e <;> cases e
  · obtain ⟨vs, q⟩ := r.rs a m
    rcases e with e | ⟨o, e⟩ <;> rw [q] at e <;> cases e
theorem Ft {xs : List V} (r : HR K H al h) (s : SqT K H a xs) (l : jr H al H' aQ) : SqT K H' a xs := by
  rcases s with s | s
  · have n := r.acW s
    rcases s with s | ⟨o, s⟩
    · exact .inl (.inl (l.keep _ _ s n))
    · exact .inl (.inr ⟨o, l.keep _ _ s n⟩)
  · exact .inr s
mutual
theorem Rp.cU (r : HR K H al h) (l : jr H al H' aQ) : ∀ {d : D} {v : V}, Rp K H al d v → Rp K H' aQ d v
  | _, _, .non => .non
  | _, _, .bl b => .bl b
  | _, _, .int i => .int i
  | _, _, .str x => .str x
  | _, _, .ty n => .ty n
  | _, _, .glo x => .glo x
  | _, _, .ref e => .ref (l.get e)
  | _, _, .tup s q => .tup (Ft r s l) (bx.cU r l q)
  | _, _, .lst s q => .lst (s.cU l) (bx.cU r l q)
  | _, _, .dB s q => .dB (s.cU l) (bx.cU r l q)
  | _, _, .obj e n q => .obj (l.keep _ _ e n) (l.out _ _ e n) (dU.cU r l q)
theorem bx.cU (r : HR K H al h) (l : jr H al H' aQ) : ∀ {ds : List D} {vs : List V}, bx K H al ds vs → bx K H' aQ ds vs
  | _, _, .nil => .nil
  | _, _, .cons q qs => .cons (Rp.cU r l q) (bx.cU r l qs)
theorem dU.cU (r : HR K H al h) (l : jr H al H' aQ) : ∀ {ds : List (Str × D)} {vs : List (Str × V)}, dU K H al ds vs → dU K H' aQ ds vs
  | _, _, .nil => .nil
  | _, _, .cons q qs => .cons (Rp.cU r l q) (dU.cU r l qs)
end
theorem Rp.mono (r : HR K H al h) (l : Le H al H' aQ) {d : D} {v : V} (q : Rp K H al d v) : Rp K H' aQ d v := q.cU r l.Bu
theorem bx.mono (r : HR K H al h) (l : Le H al H' aQ) {d : List D} {v : List V} (q : bx K H al d v) : bx K H' aQ d v := q.cU r l.Bu
theorem dU.mono (r : HR K H al h) (l : Le H al H' aQ) {d : List (Str × D)} {v : List (Str × V)} (q : dU K H al d v) : dU K H' aQ d v := q.cU r l.Bu
theorem bx.length {ds : List D} : ∀ {vs : List V}, bx K H al ds vs → ds.length = vs.length := by
  induction ds with
  | nil => intro vs h; cases h; rfl
  | cons d ds ih => intro vs h; cases h with | cons _ q => simp [ih q]
theorem bx.get {ds : List D} {vs : List V} (q : bx K H al ds vs) {i : Nat} {d : D} (e : ds[i]? = some d) : ∃ v, vs[i]? = some v ∧ Rp K H al d v := by
  induction ds generalizing vs i with
  | nil => simp at e
  | cons x ds ih =>
    cases q with
    | cons q qs =>
      cases i with
      | zero => simp at e; subst e; exact ⟨_, rfl, q⟩
      | succ i => simpa using ih qs (by simpa using e)
theorem bx.get' {ds : List D} {vs : List V} (q : bx K H al ds vs) {i : Nat} {v : V} (e : vs[i]? = some v) : ∃ d, ds[i]? = some d ∧ Rp K H al d v := by
  induction ds generalizing vs i with
  | nil => cases q; simp at e
  | cons x ds ih =>
    cases q with
    | cons q qs =>
      cases i with
      | zero => simp at e; subst e; exact ⟨_, rfl, q⟩
      | succ i => simpa using ih qs (by simpa using e)
theorem bx.append {ds es : List D} {vs ws : List V} (q : bx K H al ds vs) (r : bx K H al es ws) : bx K H al (ds ++ es) (vs ++ ws) := by
  induction ds generalizing vs with
  | nil => cases q; exact r
  | cons d ds ih => cases q with | cons q qs => exact .cons q (ih qs)
theorem bx.set {ds : List D} {vs : List V} (q : bx K H al ds vs) {d : D} {v : V} (r : Rp K H al d v) (i : Nat) : bx K H al (ds.set i d) (vs.set i v) := by
  induction ds generalizing vs i with
  | nil => cases q; exact .nil
  | cons x ds ih =>
    cases q with
    | cons q qs =>
      cases i with
      | zero => exact .cons r qs
      | succ i => exact .cons q (ih qs i)
theorem bx.take {ds : List D} {vs : List V} (q : bx K H al ds vs) (n : Nat) : bx K H al (ds.take n) (vs.take n) := by
  induction ds generalizing vs n with
  | nil => cases q; simp; exact .nil
  | cons x ds ih =>
    cases q with
    | cons q qs =>
      cases n with
      | zero => exact .nil
      | succ n => exact .cons q (ih qs n)
theorem bx.drop {ds : List D} {vs : List V} (q : bx K H al ds vs) (n : Nat) : bx K H al (ds.drop n) (vs.drop n) := by
  induction ds generalizing vs n with
  | nil => cases q; simp; exact .nil
  | cons x ds ih =>
    cases q with
    | cons q qs =>
      cases n with
      | zero => exact .cons q qs
      | succ n => exact ih qs n
theorem fL.cU (r : HR K H al h) (l : jr H al H' aQ) (q : fL K H al a c) (e : H' a = H a) : fL K H' aQ a c := by
  cases c with
  | lst ds =>
    obtain ⟨vs, z, q⟩ := q
    exact ⟨vs, e.trans z, q.cU r l⟩
  | dict kvs =>
    obtain ⟨ws, z, k, q⟩ := q
    exact ⟨ws, e.trans z, k, q.cU r l⟩
  | ins c fs =>
    obtain ⟨dx, gs, z, q⟩ := q
    exact ⟨dx, gs, e.trans z, q.cU r l⟩
  | jE kvs =>
    obtain ⟨o, ws, z, k, q⟩ := q
    exact ⟨o, ws, e.trans z, k, q.cU r l⟩
theorem fL.mono (r : HR K H al h) (l : Le H al H' aQ) (q : fL K H al a c) (e : H' a = H a) : fL K H' aQ a c := q.cU r l.Bu e
theorem Le.same (r : HR K H al h) (s : Same H H') : Le H al H' al := ⟨⟨[], by simp⟩, rfl, fun a u q _ => s a u q, fun a ha => by
  obtain ⟨vs, e⟩ := r.rs a ha
  rw [e]
  exact s _ _ e, fun _ z => .inl z, fun a o u e => s _ _ e⟩
theorem HR.same (r : HR K H al h) (s : Same H H') : HR K H' al h := ⟨r.nd, r.len, r.dis, fun a ha => by
  obtain ⟨vs, e⟩ := r.rs a ha
  exact ⟨vs, s _ _ e⟩, fun n c a e1 e2 => by
  have q := r.at_ n c a e1 e2
  obtain ⟨o, z, _⟩ := q.some
  exact q.mono r (Le.same r s) ((s _ _ z).trans z.symm)⟩
theorem same_upd {o : HO} (e : H p = none) : Same H (upd H p o) := fun a u q => by
  rw [upd_ne (ne_of_none q e)]
  exact q
theorem Le.fresh {o : HO} (r : HR K H al h) (e : H p = none) : Le H al (upd H p o) al := Le.same r (same_upd e)
theorem HR.fresh {o : HO} (r : HR K H al h) (e : H p = none) : HR K (upd H p o) al h := r.same (same_upd e)
theorem HR.T8 (r : HR K H al h) (e : H p = none) : ¬ al.has p := fun m => by
  rcases m with m | m
  · obtain ⟨o, z, _⟩ := r.here m
    rw [e] at z
    cases z
  · obtain ⟨vs, z⟩ := r.rs p m
    rw [e] at z
    cases z
theorem HR.push {o : HO} (r : HR K H al h) (e : H p = none) (q : ∀ H' aQ, Le H al H' aQ → H' p = some o → fL K H' aQ p c) : HR K (upd H p o) ⟨al.c ++ [p], al.r⟩ (h ++ [c]) ∧ Le H al (upd H p o) ⟨al.c ++ [p], al.r⟩ := by
  have np := r.T8 e
  have l : Le H al (upd H p o) ⟨al.c ++ [p], al.r⟩ := ⟨⟨[p], rfl⟩, rfl, fun a u q _ => by
    rw [upd_ne (ne_of_none q e)]
    exact q, fun a ha => upd_ne fun z => np (.inr (z ▸ ha)), fun b hb => by
    rcases List.mem_append.mp hb with z | z
    · exact .inl z
    · cases List.mem_singleton.mp z
      exact .inr e, fun b o' u q => by
    rw [upd_ne (ne_of_none q e)]
    exact q⟩
  refine ⟨⟨?_, by simp [r.len], fun a ha => ?_, fun a ha => ?_, fun n c' a e1 e2 => ?_⟩, l⟩
  · rw [List.nodup_append]
    refine ⟨r.nd, by simp, fun x hx y hy => ?_⟩
    cases List.mem_singleton.mp hy
    intro z
    subst z
    exact np (.inl hx)
  · rcases List.mem_append.mp ha with z | z
    · exact r.dis a z
    · cases List.mem_singleton.mp z
      exact fun w => np (.inr w)
  · obtain ⟨vs, z⟩ := r.rs a ha
    exact ⟨vs, (l.res a ha).trans z⟩
  · have e2 : (al.c ++ [p])[n]? = some a := e2
    by_cases hn : n < h.length
    · rw [List.getElem?_append_left hn] at e1
      rw [List.getElem?_append_left (by rw [r.len]; exact hn)] at e2
      have q := r.at_ n c' a e1 e2
      obtain ⟨o, z, _⟩ := q.some
      exact q.mono r l (upd_ne (ne_of_none z e))
    · have hn' : n = h.length := by
        rw [List.getElem?_append_right (by omega)] at e1
        have := (List.getElem?_eq_some_iff.mp e1).1
        simp at this
        omega
      subst hn'
      simp at e1
      rw [← r.len] at e2
      simp at e2
      subst e1 e2
      exact q _ _ l upd_same
theorem HR.nofrz (r : HR K H al h) (e : al.c[n]? = some a) (hn : ∀ kvs, h[n]? ≠ some (.jE kvs)) : ∀ o u, H a ≠ some (.frz o u) := fun o u z => by
  obtain ⟨c, hc, q⟩ := r.cell e
  cases c with
  | lst ds =>
    obtain ⟨vs, q, _⟩ := q
    rw [z] at q
    cases q
  | dict kvs =>
    obtain ⟨vs, q, _⟩ := q
    rw [z] at q
    cases q
  | ins c fs =>
    obtain ⟨dx, gs, q, _⟩ := q
    rw [z] at q
    cases q
  | jE kvs => exact hn kvs hc
theorem HR.put {o : HO} (r : HR K H al h) (e : al.c[n]? = some a) (q : ∀ H' aQ, Le H al H' aQ → H' a = some o → fL K H' aQ a c) (hn : ∀ kvs, h[n]? ≠ some (.jE kvs) := by intro kvs w; simp_all) : HR K (upd H a o) al (h.set n c) ∧ Le H al (upd H a o) al := by
  have ha : a ∈ al.c := List.mem_of_getElem? e
  have l : Le H al (upd H a o) al := ⟨⟨[], by simp⟩, rfl, fun b u q n => by
    rw [upd_ne fun z => n (.inl (by rw [z]; exact ha))]
    exact q, fun b hb => upd_ne fun z => r.dis a ha (z ▸ hb), fun b hb => .inl hb, fun b o' u q => by
    have ne : b ≠ a := fun z => r.nofrz e hn o' u (by rw [← z]; exact q)
    rw [upd_ne ne]
    exact q⟩
  refine ⟨⟨r.nd, by simp [r.len], r.dis, fun b hb => ?_, fun m c' b e1 e2 => ?_⟩, l⟩
  · obtain ⟨vs, z⟩ := r.rs b hb
    exact ⟨vs, (l.res b hb).trans z⟩
  by_cases hm : n = m
  · subst hm
    rw [e] at e2
    cases e2
    have hn : n < h.length := by
      rw [← r.len]
      exact (List.getElem?_eq_some_iff.mp e).1
    rw [List.getElem?_set_self hn] at e1
    cases e1
    exact q _ _ l upd_same
  · rw [List.getElem?_set_ne hm] at e1
    have z := r.at_ m c' b e1 e2
    refine z.mono r l (upd_ne fun z2 => hm ?_)
    subst z2
    have l1 := (List.getElem?_eq_some_iff.mp e).1
    exact (List.getElem?_inj l1 r.nd).mp (e.trans e2.symm)
theorem jr.Zr {o : HO} (e : a ∈ al.r) (hl : ∃ ws, H a = some (.lst ws)) : jr H al (upd H a o) al := ⟨⟨[], by simp⟩, fun b u q n => by
  have ne : b ≠ a := fun z => n (.inr (by rw [z]; exact e))
  rw [upd_ne ne]
  exact q, fun _ _ _ n => n, fun b o' u q => by
  have ne : b ≠ a := fun z => by
    obtain ⟨ws, hl⟩ := hl
    rw [z, hl] at q
    cases q
  rw [upd_ne ne]
  exact q⟩
theorem HR.Zr {ws : List V} (r : HR K H al h) (e : a ∈ al.r) : HR K (upd H a (.lst ws)) al h := by
  refine ⟨r.nd, r.len, r.dis, fun b hb => ?_, fun n c b e1 e2 => ?_⟩
  · by_cases z : b = a
    · subst z
      exact ⟨ws, upd_same⟩
    · rw [upd_ne z]
      exact r.rs b hb
  · exact (r.at_ n c b e1 e2).cU r (jr.Zr e (r.rs a e)) (upd_ne fun z => r.dis b (List.mem_of_getElem? e2) (z ▸ e))
theorem jr.hold {o : HO} (e : H p = none) : jr H al (upd H p o) ⟨al.c, p :: al.r⟩ := ⟨⟨[], by simp⟩, fun b u q _ => by
  rw [upd_ne (ne_of_none q e)]
  exact q, fun b u q n z => by
  rcases z with z | z
  · exact n (.inl z)
  · rcases List.mem_cons.mp z with z | z
    · exact ne_of_none q e z
    · exact n (.inr z), fun b o' u q => by
  rw [upd_ne (ne_of_none q e)]
  exact q⟩
theorem HR.hold {ws : List V} (r : HR K H al h) (e : H p = none) : HR K (upd H p (.lst ws)) ⟨al.c, p :: al.r⟩ h := by
  have np := r.T8 e
  refine ⟨r.nd, r.len, fun a ha z => ?_, fun b hb => ?_, fun n c b e1 e2 => ?_⟩
  · rcases List.mem_cons.mp z with z | z
    · exact np (.inl (z ▸ ha))
    · exact r.dis a ha z
  · rcases List.mem_cons.mp hb with z | z
    · subst z
      exact ⟨ws, upd_same⟩
    · have ne : b ≠ p := fun w => np (.inr (by rw [← w]; exact z))
      rw [upd_ne ne]
      exact r.rs b z
  · exact (r.at_ n c b e1 e2).cU r (jr.hold e) (upd_ne fun z => np (.inl (z ▸ List.mem_of_getElem? e2)))
theorem jr.free {q : Addr} : jr H ⟨al.c, q :: al.r⟩ H al := ⟨⟨[], by simp⟩, fun _ _ h _ => h, fun _ _ _ n z => n (z.elim .inl fun w => .inr (List.mem_cons_of_mem _ w)), fun _ _ _ h => h⟩
theorem HR.free {q : Addr} (r : HR K H ⟨al.c, q :: al.r⟩ h) : HR K H al h :=
  ⟨r.nd, r.len, fun a ha z => r.dis a ha (List.mem_cons_of_mem _ z), fun b hb => r.rs b (List.mem_cons_of_mem _ hb), fun n c b e1 e2 => (r.at_ n c b e1 e2).cU r jr.free rfl⟩
end
def bJ (K : PySem.W.Frag) {β γ : Type} (R : Hp → Al → β → γ → Prop) (H : Hp) (al : Al) (E : XK) (Q : γ → Hp → Prop) : Res β → Prop
  | .ok d h' => ∀ v H' aQ, Le H al H' aQ → HR K H' aQ h' → R H' aQ d v → Q v H'
  | .exc c fs h' => ∀ a H' aQ gs, Le H al H' aQ → HR K H' aQ h' → H' a = some (.xd gs) → dU K H' aQ fs gs → E (.ref (He.ga K c)) (some a) H'
  | .stuck => False
abbrev rB (K : PySem.W.Frag) : Hp → Al → XK → VK → Res D → Prop := bJ K (fun H al d v => Rp K H al d v)
abbrev ajt (K : PySem.W.Frag) : Hp → Al → XK → (List V → Hp → Prop) → Res (List D) → Prop := bJ K (fun H al d v => bx K H al d v)
abbrev afr (K : PySem.W.Frag) : Hp → Al → XK → (Bool → Hp → Prop) → Res Bool → Prop := bJ K (fun _ _ b c => b = c)
def cO (K : PySem.W.Frag) (H : Hp) (al : Al) (Q : VK) : Option (D × AH) → Prop
  | some p => ∀ v H' aQ, Le H al H' aQ → HR K H' aQ p.2 → Rp K H' aQ p.1 v → Q v H'
  | none => False
section
variable {K : PySem.W.Frag} {H H' : Hp} {al aQ : Al} {E : XK} {Q : VK} {β γ : Type} {R : Hp → Al → β → γ → Prop}
theorem bJ.mono {Q Q' : γ → Hp → Prop} {m : Res β} (p : bJ K R H al E Q m) (i : ∀ v H', Q v H' → Q' v H') : bJ K R H al E Q' m := by
  cases m with
  | ok d h => exact fun v H' aQ l r q => i _ _ (p v H' aQ l r q)
  | exc c fs h => exact p
  | stuck => exact p
theorem bJ.le {Q : γ → Hp → Prop} {m : Res β} (p : bJ K R H al E Q m) (l : Le H al H' aQ) : bJ K R H' aQ E Q m := by
  cases m with
  | ok d h => exact fun v H2 dD l2 r q => p v H2 dD (l.trans l2) r q
  | exc c fs h => exact fun a H2 dD gs l2 r e q => p a H2 dD gs (l.trans l2) r e q
  | stuck => exact p
theorem bJ.bind {δ ε : Type} {R' : Hp → Al → δ → ε → Prop} {Q : ε → Hp → Prop} {m : Res β} {g : β → AH → Res δ} (p : bJ K R' H al E Q (m.bind g)) :
    bJ K R H al E (fun v H1 => ∃ d bf h1, Le H al H1 bf ∧ HR K H1 bf h1 ∧ R H1 bf d v ∧ bJ K R' H1 bf E Q (g d h1)) m := by
  cases m with
  | ok d h => exact fun v H' aQ l r q => ⟨d, aQ, h, l, r, q, bJ.le p l⟩
  | exc c fs h => exact p
  | stuck => exact p
theorem cO.of {m : Option (D × AH)} (p : rB K H al E Q (El m)) : cO K H al Q m := by
  cases m with
  | none => exact p
  | some q => exact p
theorem cO.le {m : Option (D × AH)} (p : cO K H al Q m) (l : Le H al H' aQ) : cO K H' aQ Q m := by
  cases m with
  | none => exact p
  | some q => exact fun v H2 dD l2 r q => p v H2 dD (l.trans l2) r q
end
def iG (K : PySem.W.Frag) (H : Hp) (al : Al) (e : En) (st : L2.St) : Prop := e.length = st.length ∧ ∀ (i : Nat) (d : D), e[i]? = some (some d) → ∃ v, st[i]? = some (some v) ∧ Rp K H al d v
theorem iG.cU {K : PySem.W.Frag} {H H' : Hp} {al aQ : Al} {e : En} {st : L2.St} {h : AH} (r : HR K H al h) (l : jr H al H' aQ) (q : iG K H al e st) : iG K H' aQ e st := ⟨q.1, fun i d z => by
  obtain ⟨v, e1, e2⟩ := q.2 i d z
  exact ⟨v, e1, e2.cU r l⟩⟩
theorem iG.mono {K : PySem.W.Frag} {H H' : Hp} {al aQ : Al} {e : En} {st : L2.St} {h : AH} (r : HR K H al h) (l : Le H al H' aQ) (q : iG K H al e st) : iG K H' aQ e st := q.cU r l.Bu
theorem iG.set {K : PySem.W.Frag} {H : Hp} {al : Al} {e : En} {st : L2.St} {d : D} {v : V} (q : iG K H al e st) (r : Rp K H al d v) (i : Nat) : iG K H al (e.set i (some d)) (st.set i (some v)) := by
  refine ⟨by simp [q.1], fun j d' z => ?_⟩
  by_cases hj : i = j
  · subst hj
    by_cases hl : i < e.length
    · rw [List.getElem?_set_self hl] at z
      cases z
      exact ⟨v, by rw [List.getElem?_set_self (by rw [← q.1]; exact hl)], r⟩
    · rw [List.getElem?_eq_none (by simp; omega)] at z
      cases z
  · rw [List.getElem?_set_ne hj] at z ⊢
    exact q.2 j d' z
def rd (K : PySem.W.Frag) (W : WX) (f : ME) : TE := fun st H Q => ∃ e al h, HR K H al h ∧ iG K H al e st ∧ rB K H al (fun c d H' => W c d st H') Q (f e h)
def qP (K : PySem.W.Frag) (W : WX) (f : MT) : TT := fun st H Q => ∃ e al h, HR K H al h ∧ iG K H al e st ∧ afr K H al (fun c d H' => W c d st H') Q (f e h)
def mX (K : PySem.W.Frag) (W : WX) (f : MA) : TA := fun st H Q => ∃ e al h, HR K H al h ∧ iG K H al e st ∧ ajt K H al (fun c d H' => W c d st H') Q (f e h)
def mY (K : PySem.W.Frag) (W : WX) (H : Hp) (al : Al) (N : Ends) : RS → Prop
  | .nx e h' => ∀ st H' aQ, Le H al H' aQ → HR K H' aQ h' → iG K H' aQ e st → N.nx st H'
  | .bk e h' => ∀ st H' aQ, Le H al H' aQ → HR K H' aQ h' → iG K H' aQ e st → N.bk st H'
  | .ct e h' => ∀ st H' aQ, Le H al H' aQ → HR K H' aQ h' → iG K H' aQ e st → N.ct st H'
  | .rt d h' => ∀ v H' aQ, Le H al H' aQ → HR K H' aQ h' → Rp K H' aQ d v → N.rt v H'
  | .exc c fs e h' => ∀ a st H' aQ gs, Le H al H' aQ → HR K H' aQ h' → iG K H' aQ e st → H' a = some (.xd gs) → dU K H' aQ fs gs → W (.ref (He.ga K c)) (some a) st H'
  | .stuck => False
def oH (K : PySem.W.Frag) (W : WX) (f : MS) : TS := fun N st H => ∃ e al h, HR K H al h ∧ iG K H al e st ∧ mY K W H al N (f e h)
def Bv (K : PySem.W.Frag) (W : WX) (g : MG) : TG := fun v st H Q => ∃ d e al h, HR K H al h ∧ iG K H al e st ∧ Rp K H al d v ∧
  bJ K (fun H al e st => iG K H al e st) H al (fun c d H' => W c d st H') Q (g d e h)
def Bw (K : PySem.W.Frag) (f : List D → AH → Res D) : Sp := fun vs H Q E => ∃ ds al h, HR K H al h ∧ bx K H al ds vs ∧ rB K H al E Q (f ds h)
section
variable {X : Cx} {e : Expr} {st : Stmt} {sts : List Stmt}
theorem _root_.L2.PE.weak {t t' : TE} (h : PE X e t) (i : ∀ σ H Q, t' σ H Q → t σ H Q) : PE X e t' := ⟨fun pins s σ H Q I q => h.run pins s σ H Q I (i _ _ _ q)⟩
theorem _root_.L2.PT.weak {t t' : TT} (h : PT X e t) (i : ∀ σ H Q, t' σ H Q → t σ H Q) : PT X e t' := ⟨fun pins s σ H Q I q => h.run pins s σ H Q I (i _ _ _ q)⟩
theorem _root_.L2.PW.weak {t t' : TT} (h : PW X e t) (i : ∀ σ H Q, t' σ H Q → t σ H Q) : PW X e t' := ⟨fun wh pins s σ H Q I q => h.run wh pins s σ H Q I (i _ _ _ q)⟩
theorem _root_.L2.PA.weak {es : List Expr} {t t' : TA} (h : PA X es t) (i : ∀ σ H Q, t' σ H Q → t σ H Q) : PA X es t' := ⟨fun pos pins s σ H Q I q => h.run pos pins s σ H Q I (i _ _ _ q)⟩
theorem _root_.L2.PK.weak {es : List Keyword} {t t' : TA} (h : PK X es t) (i : ∀ σ H Q, t' σ H Q → t σ H Q) : PK X es t' := ⟨fun pos pins s σ H Q I q => h.run pos pins s σ H Q I (i _ _ _ q)⟩
theorem _root_.L2.PS.weak {t t' : TS} (h : PS X st t) (i : ∀ D σ H, t' D σ H → t D σ H) : PS X st t' := ⟨fun pins s σ H D I q => h.run pins s σ H D I (i _ _ _ q)⟩
theorem _root_.L2.PSs.weak {t t' : TS} (h : PSs X sts t) (i : ∀ D σ H, t' D σ H → t D σ H) : PSs X sts t' := ⟨fun pins s σ H D I q => h.run pins s σ H D I (i _ _ _ q)⟩
theorem _root_.L2.PG.weak {t t' : TG} (h : PG X e t) (i : ∀ v σ H Q, t' v σ H Q → t v σ H Q) : PG X e t' := ⟨fun pins s σ H v u Q I r q => h.run pins s σ H v u Q I r (i _ _ _ _ q)⟩
theorem _root_.L2.PI.weak {tg : Expr} {t t' : TI} (h : PI X tg e t) (i : ∀ σ H Q, t' σ H Q → t σ H Q) : PI X tg e t' := ⟨fun pins s σ H Q I q => h.run pins s σ H Q I (i _ _ _ q)⟩
theorem _root_.L2.OpR.weak {f : Value → Value → Sem Value} {r r' : R2} (h : OpR X f r) (i : ∀ x y H Q, r' x y H Q → r x y H Q) : OpR X f r' := fun pins s σ H x y v u Q I rx ry q => h pins s σ H x y v u Q I rx ry (i _ _ _ _ q)
end
end PD
namespace PD
open PySem PySem.Spec PyProof.Rows L2
section
variable {X : Cx} {W : WX} {a b c e : Expr} {es : List Expr} {fa fb fc : ME} {fr : MA} {pos p1 p2 : Pos} {i : Nat} {x : Str}
theorem aj (hN : X.N[i]? = some x) (hv : Vis X.env.scope x) (hd : (x == ("__debug__" : Str)) = false := by decide) (hcd : (x == ("__classdict__" : Str)) = false := by decide) : PE X (.Name x pos) (rd X.K W (ao i)) :=
  (pe_var hN hv hd hcd).weak fun σ H Q ⟨e, al, h, r, re, p⟩ => by
    unfold ao at p
    split at p
    · rename_i d hd
      obtain ⟨v, hv, q⟩ := re.2 i d hd
      exact ⟨v, hv, p v H al .refl r q⟩
    · exact p.elim
theorem Q8 {d : D} {v : V} (h : PE X e (tC v)) (q : ∀ H al, Rp X.K H al d v) : PE X e (rd X.K W (eC d)) :=
  h.weak fun σ H Q ⟨e, al, h, r, re, p⟩ => p v H al .refl r (q H al)
theorem aR {i : Int} {j} : PE X (.Constant (.int i) j pos) (rd X.K W (eC (.int i))) := Q8 pe_int fun _ _ => .int i
theorem tD {b : Bool} {j} : PE X (.Constant (.bool b) j pos) (rd X.K W (eC (.bl b))) := Q8 pe_bl fun _ _ => .bl b
theorem fH {j} : PE X (.Constant .none j pos) (rd X.K W (eC .non)) := Q8 pe_non fun _ _ => .non
theorem aU {x : Str} {j} : PE X (.Constant (.str x) j pos) (rd X.K W (eC (.str x))) := Q8 pe_str fun _ _ => .str x
theorem acX {i : Int} {t : Tok} (hg : Gl X x) (hm : X.mg x = some (.int i t)) (hd : (x == ("__debug__" : Str)) = false := by decide) : PE X (.Name x pos) (rd X.K W (eC (.int i))) :=
  Q8 (pe_glob (v := .int i) hg hm ⟨t, rfl⟩ hd) fun _ _ => .int i
theorem ahF {s : Str} {t : Tok} (hg : Gl X x) (hm : X.mg x = some (.str s t)) (hd : (x == ("__debug__" : Str)) = false := by decide) : PE X (.Name x pos) (rd X.K W (eC (.str s))) :=
  Q8 (pe_glob (v := .str s) hg hm ⟨t, rfl⟩ hd) fun _ _ => .str s
theorem uh {d : D} (hg : Gl X x) (hm : X.mg x = some (.ref (He.ga X.K x))) (q : ∀ H al, Rp X.K H al d (.ref (He.ga X.K x))) (hd : (x == ("__debug__" : Str)) = false := by decide) : PE X (.Name x pos) (rd X.K W (eC d)) :=
  Q8 (pe_glob (v := .ref (He.ga X.K x)) hg hm rfl hd) q
theorem Qm {n : String} (hg : Gl X x) (hm : X.mg x = none) (hv : bootBuiltins x = some (.type n)) (hn : x ≠ "__name__" := by decide) (hd : (x == ("__debug__" : Str)) = false := by decide) : PE X (.Name x pos) (rd X.K W (eC (.ty n))) :=
  Q8 (pe_bltn (v := .ty n) hg hm hv rfl hn hd) fun _ _ => .ty n
def r1 (K : PySem.W.Frag) (o : O1) : V → Hp → VK → Prop := fun x H Q => ∃ d al h, HR K H al h ∧ Rp K H al d x ∧ cO K H al Q (o d h)
def r2 (K : PySem.W.Frag) (o : O2) : R2 := fun x y H Q => ∃ d e al h, HR K H al h ∧ Rp K H al d x ∧ Rp K H al e y ∧ cO K H al Q (o d e h)
def rN (K : PySem.W.Frag) (o : ON) : List V → Hp → VK → Prop := fun xs H Q => ∃ ds al h, HR K H al h ∧ bx K H al ds xs ∧ cO K H al Q (o ds h)
theorem Oz {o : O2} {σ : L2.St} {H : Hp} {Q : VK} {K : PySem.W.Frag} : rd K W (aG o fa fb) σ H Q → tOp (r2 K o) (rd K W fa) (rd K W fb) σ H Q := by
  rintro ⟨e, al, h, r, re, p⟩
  refine ⟨e, al, h, r, re, (bJ.bind p).mono ?_⟩
  rintro v H1 ⟨d, bf, h1, l, r1, q, p1⟩
  refine ⟨e, bf, h1, r1, re.mono r l, (bJ.bind p1).mono ?_⟩
  rintro u H2 ⟨d2, dD, h2, l2, r2, q2, p2⟩
  exact ⟨d, d2, dD, h2, r2, q.mono r1 l2, q2, cO.of p2⟩
theorem dY {op : Operator} {o : O2} (ho : OpR X (binaryOp op) (r2 X.K o)) (ha : PE X a (rd X.K W fa)) (hb : PE X b (rd X.K W fb)) : PE X (.BinOp a op b pos) (rd X.K W (aG o fa fb)) :=
  (pe_op ho ha hb).weak fun σ H Q h => Oz h
theorem akW {op : UnaryOp} {o : O1} (ho : UnR X (unaryOp op) (r1 X.K o)) (ha : PE X a (rd X.K W fa)) : PE X (.UnaryOp op a pos) (rd X.K W (pU o fa)) :=
  (pe_un ho ha).weak fun σ H Q ⟨e, al, h, r, re, p⟩ => by
    refine ⟨e, al, h, r, re, (bJ.bind p).mono ?_⟩
    rintro v H1 ⟨d, bf, h1, l, r1, q, p1⟩
    exact ⟨d, bf, h1, r1, q, cO.of p1⟩
theorem dO {op : CmpOp} {o : O2} (ho : OpR X (compareOp op) (r2 X.K o)) (ha : PE X a (rd X.K W fa)) (hb : PE X b (rd X.K W fb)) (hm : behindInMarks op b = false) : PE X (.Compare a [op] [b] pos) (rd X.K W (aG o fa fb)) :=
  (pe_cmpR ho ha hb hm).weak fun σ H Q h => Oz h
theorem bQ {op : CmpOp} {o : O2} (ho : OpR X (compareOp op) (r2 X.K o)) (ha : PE X a (rd X.K W fa)) (hb : PE X b (rd X.K W fb)) (hm : behindInMarks op b = false) : PT X (.Compare a [op] [b] pos) (qP X.K W (bY (aG o fa fb))) :=
  (pt_cmpR ho ha hb hm).weak fun σ H Q ⟨e, al, h, r, re, p⟩ => by
    refine Oz (W := W) ⟨e, al, h, r, re, (bJ.bind p).mono ?_⟩
    rintro v H1 ⟨d, bf, h1, l, r1, q, p1⟩
    cases q with
    | bl k => exact ⟨k, rfl, p1 _ _ _ .refl r1 rfl⟩
    | _ => exact p1.elim
theorem Zt {K : PySem.W.Frag} {H : Hp} {al : Al} {h : AH} {d : D} {v : V} {b : Bool} (r : HR K H al h) (q : Rp K H al d v) (e : truth d h = some b) : TruV K v H b := by
  have hs : sizeLine = 16777216 := sizeLine_eq
  cases q with
  | non => cases e; rfl
  | bl k => cases e; rfl
  | int i => cases e; rfl
  | str x =>
    simp only [truth] at e
    split at e
    · cases e
      rename_i hz
      exact ⟨by rw [hs]; exact hz, rfl⟩
    · cases e
  | ty n => cases e
  | glo x => cases e
  | tup s q =>
    cases e
    exact .inr (.inl ⟨_, s, by cases q <;> rfl⟩)
  | lst s q =>
    cases e
    exact .inl ⟨_, s.sq, by cases q <;> rfl⟩
  | dB s q =>
    cases e
    exact .inl ⟨_, s.sq, by cases q <;> rfl⟩
  | obj _ _ _ => cases e
  | ref z =>
    obtain ⟨c, hc, ok⟩ := r.cell z
    simp only [truth, hc] at e
    cases c with
    | lst ds =>
      cases e
      obtain ⟨vs, z, q⟩ := ok
      exact .inl ⟨vs, SqL.of z, by cases q <;> rfl⟩
    | dict kvs =>
      cases e
      obtain ⟨ws, z, k, q⟩ := ok
      refine .inr (.inr ⟨ws, z, ?_⟩)
      have := congrArg List.length k
      simp only [List.length_map] at this
      cases kvs <;> cases ws <;> simp_all
    | ins c fs => cases e
    | jE kvs => cases e
theorem Qn {K : PySem.W.Frag} {H : Hp} {al : Al} {h : AH} {d : D} {v : V} {E : XK} {β γ : Type} {R : Hp → Al → β → γ → Prop} {Q : γ → Hp → Prop} {g : Bool → AH → Res β} (r : HR K H al h) (q : Rp K H al d v) (p : bJ K R H al E Q ((tTru d h).bind g)) :
    ∃ k, TruV K v H k ∧ bJ K R H al E Q (g k h) := by
  unfold tTru at p
  cases e : truth d h with
  | none =>
    rw [e] at p
    exact p.elim
  | some b =>
    rw [e] at p
    exact ⟨b, Zt r q e, p⟩
theorem lU (ha : PE X a (rd X.K W fa)) (he : ∀ whole, isTrue a X.env whole = (do let v ← whole; standAt a.pos; holding [v] (truthy v))) : PT X a (qP X.K W (dX fa)) :=
  (pt_truth ha he).weak fun σ H Q ⟨e, al, h, r, re, p⟩ => by
    refine ⟨e, al, h, r, re, (bJ.bind p).mono ?_⟩
    rintro v H1 ⟨d, bf, h1, l, r1, q, p1⟩
    unfold tTru at p1
    cases e : truth d h1 with
    | none =>
      rw [e] at p1
      exact p1.elim
    | some b =>
      rw [e] at p1
      exact ⟨b, Zt r1 q e, p1 _ _ _ .refl r1 rfl⟩
variable {rest : List Expr}
theorem jU {op} (ha : PE X a (rd X.K W fa)) : PE X (.BoolOp op [a] pos) (rd X.K W fa) := pe_one ha
theorem ou (ha : PE X a (rd X.K W fa)) (hb : PE X (.BoolOp .And (b :: rest) pos) (rd X.K W fb)) : PE X (.BoolOp .And (a :: b :: rest) pos) (rd X.K W (eO fa fb)) :=
  (pe_andT ha hb).weak fun σ H Q ⟨e, al, h, r, re, p⟩ => by
    refine ⟨e, al, h, r, re, (bJ.bind p).mono ?_⟩
    rintro v H1 ⟨d, bf, h1, l, r1, q, p1⟩
    obtain ⟨k, t, p2⟩ := Qn r1 q p1
    refine ⟨k, t, ?_⟩
    cases k with
    | true => exact ⟨e, bf, h1, r1, re.mono r l, p2⟩
    | false => exact p2 _ _ _ .refl r1 q
theorem abI (ha : PE X a (rd X.K W fa)) (hb : PE X (.BoolOp .Or (b :: rest) pos) (rd X.K W fb)) : PE X (.BoolOp .Or (a :: b :: rest) pos) (rd X.K W (oG fa fb)) :=
  (pe_orT ha hb).weak fun σ H Q ⟨e, al, h, r, re, p⟩ => by
    refine ⟨e, al, h, r, re, (bJ.bind p).mono ?_⟩
    rintro v H1 ⟨d, bf, h1, l, r1, q, p1⟩
    obtain ⟨k, t, p2⟩ := Qn r1 q p1
    refine ⟨k, t, ?_⟩
    cases k with
    | false => exact ⟨e, bf, h1, r1, re.mono r l, p2⟩
    | true => exact p2 _ _ _ .refl r1 q
theorem vR (ha : PE X a (rd X.K W fa)) : PE X (.UnaryOp .Not a pos) (rd X.K W (gY fa)) :=
  (pe_notT ha).weak fun σ H Q ⟨e, al, h, r, re, p⟩ => by
    refine ⟨e, al, h, r, re, (bJ.bind p).mono ?_⟩
    rintro v H1 ⟨d, bf, h1, l, r1, q, p1⟩
    obtain ⟨k, t, p2⟩ := Qn r1 q p1
    exact ⟨k, t, p2 _ _ _ .refl r1 (.bl _)⟩
variable {ta tb : MT}
theorem T9 {K : PySem.W.Frag} {H : Hp} {al : Al} {E : XK} {β γ : Type} {R : Hp → Al → β → γ → Prop} {Q : γ → Hp → Prop} {m : Res Bool} {g : Bool → AH → Res β} (p : bJ K R H al E Q (m.bind g)) :
    afr K H al E (fun b H1 => ∃ bf h1, Le H al H1 bf ∧ HR K H1 bf h1 ∧ bJ K R H1 bf E Q (g b h1)) m := (bJ.bind p).mono fun b H1 ⟨d, bf, h1, l, r, q, p1⟩ => by
  subst q
  exact ⟨bf, h1, l, r, p1⟩
theorem pW (ha : PT X a (qP X.K W ta)) : PW X (.BoolOp .And [a] pos) (qP X.K W ta) := pw_and1 ha
theorem OD (ha : PT X a (qP X.K W ta)) : PW X (.BoolOp .Or [a] pos) (qP X.K W ta) := pw_or1 ha
theorem sG (ha : PT X a (qP X.K W ta)) (hb : PW X (.BoolOp .And (b :: rest) pos) (qP X.K W tb)) : PW X (.BoolOp .And (a :: b :: rest) pos) (qP X.K W (fV ta tb)) :=
  (pw_and ha hb).weak fun σ H Q ⟨e, al, h, r, re, p⟩ => by
    refine ⟨e, al, h, r, re, (T9 p).mono ?_⟩
    rintro v H1 ⟨bf, h1, l, r1, p1⟩
    cases v with
    | true => exact ⟨e, bf, h1, r1, re.mono r l, p1⟩
    | false => exact p1 _ _ _ .refl r1 rfl
theorem Qo (ha : PT X a (qP X.K W ta)) (hb : PW X (.BoolOp .Or (b :: rest) pos) (qP X.K W tb)) : PW X (.BoolOp .Or (a :: b :: rest) pos) (qP X.K W (mW ta tb)) :=
  (pw_or ha hb).weak fun σ H Q ⟨e, al, h, r, re, p⟩ => by
    refine ⟨e, al, h, r, re, (T9 p).mono ?_⟩
    rintro v H1 ⟨bf, h1, l, r1, p1⟩
    cases v with
    | false => exact ⟨e, bf, h1, r1, re.mono r l, p1⟩
    | true => exact p1 _ _ _ .refl r1 rfl
theorem sH (ha : PT X a (qP X.K W ta)) : PT X (.UnaryOp .Not a pos) (qP X.K W (fW ta)) :=
  (pt_not ha).weak fun σ H Q ⟨e, al, h, r, re, p⟩ => by
    refine ⟨e, al, h, r, re, (T9 p).mono ?_⟩
    rintro v H1 ⟨bf, h1, l, r1, p1⟩
    exact p1 _ _ _ .refl r1 rfl
theorem akX (hc : PT X c (qP X.K W ta)) (ha : PE X a (rd X.K W fa)) (hb : PE X b (rd X.K W fb)) : PE X (.IfExp c a b pos) (rd X.K W (qG ta fa fb)) :=
  (pe_ifExp hc ha hb).weak fun σ H Q ⟨e, al, h, r, re, p⟩ => by
    refine ⟨e, al, h, r, re, (T9 p).mono ?_⟩
    rintro v H1 ⟨bf, h1, l, r1, p1⟩
    cases v with
    | true => exact ⟨e, bf, h1, r1, re.mono r l, p1⟩
    | false => exact ⟨e, bf, h1, r1, re.mono r l, p1⟩
theorem aJ : PA X [] (mX X.K W aA) := pa_nil.weak fun σ H Q ⟨e, al, h, r, re, p⟩ => p [] H al .refl r .nil
theorem afs {σ : L2.St} {H : Hp} {Q : List V → Hp → Prop} {K : PySem.W.Frag} : mX K W (aq fa fr) σ H Q → tCons (rd K W fa) (mX K W fr) σ H Q := by
  rintro ⟨e, al, h, r, re, p⟩
  refine ⟨e, al, h, r, re, (bJ.bind p).mono ?_⟩
  rintro v H1 ⟨d, bf, h1, l, r1, q, p1⟩
  refine ⟨e, bf, h1, r1, re.mono r l, (bJ.bind p1).mono ?_⟩
  rintro vs H2 ⟨ds, dD, h2, l2, r2, q2, p2⟩
  exact p2 _ _ _ .refl r2 (.cons (q.mono r1 l2) q2)
theorem au (ha : PE X e (rd X.K W fa)) (hr : PA X es (mX X.K W fr)) (hs : starEach (e :: es) X.env = (false, eval e X.env) :: starEach es X.env := by rfl) : PA X (e :: es) (mX X.K W (aq fa fr)) :=
  (pa_cons ha hr hs).weak fun σ H Q h => afs h
theorem abJ : PK X [] (mX X.K W aA) := pk_nil.weak fun σ H Q ⟨e, al, h, r, re, p⟩ => p [] H al .refl r .nil
theorem Bx {nm : Option Str} {kpos : Pos} {kws : List Keyword} (ha : PE X e (rd X.K W fa)) (hr : PK X kws (mX X.K W fr)) : PK X (⟨nm, e, kpos⟩ :: kws) (mX X.K W (aq fa fr)) :=
  (pk_cons ha hr).weak fun σ H Q h => afs h
def bL : ON := fun ds h => if ds.length ≤ 16777216 then some (.tup ds, h) else none
def cC : ON := fun ds h => if ds.length ≤ 16777216 then some (.lst ds, h) else none
def dR : ON := fun ds h => if ds.length ≤ 16777216 then some (.ref h.length, h ++ [.lst ds]) else none
section
variable {K : PySem.W.Frag} {H : Hp} {al : Al} {h : AH} {Q : VK} {ds : List D} {vs : List V} {p : Addr}
theorem cO.OJ (r : HR K H al h) (q : bx K H al ds vs) (po : cO K H al Q (some (.tup ds, h))) (n : H p = none) : Q (.ref p) (upd H p (.tup vs)) :=
  po _ _ _ (Le.fresh r n) (r.fresh n) (.tup (SqT.of upd_same) (q.mono r (Le.fresh r n)))
theorem cO.oJ (r : HR K H al h) (q : bx K H al ds vs) (po : cO K H al Q (some (.lst ds, h))) (n : H p = none) : Q (.ref p) (upd H p (.lst vs)) :=
  po _ _ _ (Le.fresh r n) (r.fresh n) (.lst ⟨upd_same, r.T8 n⟩ (q.mono r (Le.fresh r n)))
theorem cO.aaT (r : HR K H al h) (q : bx K H al ds vs) (po : cO K H al Q (some (.ref h.length, h ++ [.lst ds]))) (n : H p = none) : Q (.ref p) (upd H p (.lst vs)) := by
  obtain ⟨r', l⟩ := r.push (o := .lst vs) (c := .lst ds) n fun H' aQ l e => ⟨vs, e, q.mono r l⟩
  exact po _ _ _ l r' (.ref (by rw [← r.len]; simp))
theorem acY (r : HR K H al h) (q : bx K H al ds vs) (po : cO K H al Q (bL ds h)) : vs.length ≤ sizeLine ∧ ∀ p, H p = none → Q (.ref p) (upd H p (.tup vs)) := by
  unfold bL at po
  split at po
  · rename_i hl
    exact ⟨by rw [← q.length, sizeLine_eq]; exact hl, fun p n => po.OJ r q n⟩
  · exact po.elim
theorem acZ (r : HR K H al h) (q : bx K H al ds vs) (po : cO K H al Q (cC ds h)) : vs.length ≤ sizeLine ∧ ∀ p, H p = none → Q (.ref p) (upd H p (.lst vs)) := by
  unfold cC at po
  split at po
  · rename_i hl
    exact ⟨by rw [← q.length, sizeLine_eq]; exact hl, fun p n => po.oJ r q n⟩
  · exact po.elim
theorem abK (r : HR K H al h) (q : bx K H al ds vs) (po : cO K H al Q (dR ds h)) : vs.length ≤ sizeLine ∧ ∀ p, H p = none → Q (.ref p) (upd H p (.lst vs)) := by
  unfold dR at po
  split at po
  · rename_i hl
    exact ⟨by rw [← q.length, sizeLine_eq]; exact hl, fun p n => po.aaT r q n⟩
  · exact po.elim
end
theorem BJ {o : ON} {K : PySem.W.Frag} {σ : L2.St} {H : Hp} {Q : VK} : rd K W (bH o fr) σ H Q → mX K W fr σ H fun vs H1 => rN K o vs H1 Q := by
  rintro ⟨e, al, h, r, re, p⟩
  refine ⟨e, al, h, r, re, (bJ.bind p).mono ?_⟩
  rintro v H1 ⟨d, bf, h1, l, r1, q, p1⟩
  exact ⟨d, bf, h1, r1, q, cO.of p1⟩
theorem cM {x1} (ha : PA X es (mX X.K W fr)) : PE X (.Tuple es x1 pos) (rd X.K W (bH bL fr)) :=
  (pe_tup (GB.PA.cl ha)).weak fun σ H Q h => ⟨_, BJ h, fun vs H1 ⟨ds, al, h, r, q, p⟩ => acY r q p⟩
theorem iK (ha : PA X es (mX X.K W fr)) : PE X (.List es pos) (rd X.K W (bH cC fr)) :=
  (pe_lst (GB.PA.cl ha)).weak fun σ H Q h => ⟨_, BJ h, fun vs H1 ⟨ds, al, h, r, q, p⟩ => acZ r q p⟩
theorem O4 (ha : PA X es (mX X.K W fr)) : PE X (.List es pos) (rd X.K W (bH dR fr)) :=
  (pe_lst (GB.PA.cl ha)).weak fun σ H Q h => ⟨_, BJ h, fun vs H1 ⟨ds, al, h, r, q, p⟩ => abK r q p⟩
theorem jY {id : String} {o : ON} (hc : CallR X (.builtin id) (rN X.K o)) (hg : Gl X x) (hm : X.mg x = none) (hv : bootBuiltins x = some (.builtin id)) (ha : PA X (e :: es) (mX X.K W fr))
    (hn : x ≠ "__name__" := by decide) (hdb : (x == ("__debug__" : Str)) = false := by decide) (he : starEach (e :: es) X.env = (false, eval e X.env) :: starEach es X.env := by rfl) (hpl : (backTo pos (starEach es X.env)).any (·.1) = false := by rfl) :
    PE X (.Call (.Name x p1) (e :: es) [] pos) (rd X.K W (bH o fr)) := (pe_callB hc hg hm hv (GB.PA.cl ha) hn hdb he hpl).weak fun σ H Q h => ⟨_, BJ h, fun _ _ z => z⟩
theorem O5 {T : String} {o : ON} (hc : CallR X (.type T) (rN X.K o)) (hg : Gl X x) (hm : X.mg x = none) (hv : bootBuiltins x = some (.type T)) (ha : PA X (e :: es) (mX X.K W fr))
    (hn : x ≠ "__name__" := by decide) (hdb : (x == ("__debug__" : Str)) = false := by decide) (he : starEach (e :: es) X.env = (false, eval e X.env) :: starEach es X.env := by rfl) (hpl : (backTo pos (starEach es X.env)).any (·.1) = false := by rfl) :
    PE X (.Call (.Name x p1) (e :: es) [] pos) (rd X.K W (bH o fr)) := (pe_callTy hc hg hm hv (GB.PA.cl ha) hn hdb he hpl).weak fun σ H Q h => ⟨_, BJ h, fun _ _ z => z⟩
end
end PD
namespace PD
open PySem PySem.Spec PyProof.Rows L2
section
variable {K : PySem.W.Frag} {W : WX} {H H' : Hp} {al aQ : Al} {N N' : Ends}
theorem mY.le {m : RS} (p : mY K W H al N m) (l : Le H al H' aQ) : mY K W H' aQ N m := by
  cases m with
  | nx e h => exact fun st H2 dD l2 r q => p st H2 dD (l.trans l2) r q
  | bk e h => exact fun st H2 dD l2 r q => p st H2 dD (l.trans l2) r q
  | ct e h => exact fun st H2 dD l2 r q => p st H2 dD (l.trans l2) r q
  | rt d h => exact fun v H2 dD l2 r q => p v H2 dD (l.trans l2) r q
  | exc c fs e h => exact fun a st H2 dD gs l2 r re e q => p a st H2 dD gs (l.trans l2) r re e q
  | stuck => exact p
theorem jV {β γ : Type} {R : Hp → Al → β → γ → Prop} {m : Res β} {g : β → AH → RS} {e : En} {st : L2.St} {h : AH} (r : HR K H al h) (re : iG K H al e st) (p : mY K W H al N (m.st e g)) :
    bJ K R H al (fun c d H' => W c d st H') (fun v H1 => ∃ d bf h1, Le H al H1 bf ∧ HR K H1 bf h1 ∧ R H1 bf d v ∧ mY K W H1 bf N (g d h1)) m := by
  cases m with
  | ok d h => exact fun v H' aQ l r q => ⟨d, aQ, h, l, r, q, mY.le p l⟩
  | exc c fs h => exact fun a H' aQ gs l r' x q => p a st H' aQ gs l r' (re.mono r l) x q
  | stuck => exact p
end
section
variable {X : Cx} {W : WX} {a b c e : Expr} {es : List Expr} {fa fb fc : ME} {fr : MA} {tc : MT} {f g : MS} {gt : MG} {pos p1 p2 : Pos} {i : Nat} {x : Str} {st : Stmt} {sts aen : List Stmt}
theorem cD : PSs X [] (oH X.K W bV) := pss_nil.weak fun N σ H ⟨e, al, h, r, re, p⟩ => p σ H al .refl r re
theorem aW (h : PS X st (oH X.K W f)) : PSs X [st] (oH X.K W f) := pss_one h
theorem aV (h1 : PS X st (oH X.K W f)) (h2 : PSs X sts (oH X.K W g)) : PSs X (st :: sts) (oH X.K W (aZ f g)) :=
  (pss_cons h1 h2).weak fun N σ H ⟨e, al, h, r, re, p⟩ => by
    refine ⟨e, al, h, r, re, ?_⟩
    unfold aZ at p
    cases q : f e h with
    | nx e' h' =>
      rw [q] at p
      exact fun st H' aQ l r' yh => ⟨e', aQ, h', r', yh, mY.le p l⟩
    | rt d h' => rw [q] at p; exact p
    | bk e' h' => rw [q] at p; exact p
    | ct e' h' => rw [q] at p; exact p
    | exc c fs e' h' => rw [q] at p; exact p
    | stuck => rw [q] at p; exact p
theorem wI (he : PE X e (rd X.K W fa)) (hs : swapsWith e none pos.line X.env = pure false := by rfl) : PS X (.Expr e pos) (oH X.K W (eE fa)) :=
  (ps_expr he hs).weak fun N σ H ⟨e, al, h, r, re, p⟩ => by
    refine ⟨e, al, h, r, re, (jV r re p).mono ?_⟩
    rintro v H1 ⟨d, bf, h1, l, r1, q, p1⟩
    exact p1 σ H1 bf .refl r1 (re.mono r l)
theorem s_ret (he : PE X e (rd X.K W fa)) : PS X (.Return (some e) pos) (oH X.K W (bK fa)) :=
  (ps_ret he).weak fun N σ H ⟨e, al, h, r, re, p⟩ => by
    refine ⟨e, al, h, r, re, (jV r re p).mono ?_⟩
    rintro v H1 ⟨d, bf, h1, l, r1, q, p1⟩
    exact p1 v H1 bf .refl r1 q
theorem s_if (hc : PT X c (qP X.K W tc)) (ha : PSs X sts (oH X.K W f)) (hb : PSs X aen (oH X.K W g)) : PS X (.If c sts aen pos) (oH X.K W (cA tc f g)) :=
  (ps_if hc ha hb).weak fun N σ H ⟨e, al, h, r, re, p⟩ => by
    refine ⟨e, al, h, r, re, (jV r re p).mono ?_⟩
    rintro v H1 ⟨d, bf, h1, l, r1, q, p1⟩
    subst q
    cases d with
    | true => exact ⟨e, bf, h1, r1, re.mono r l, p1⟩
    | false => exact ⟨e, bf, h1, r1, re.mono r l, p1⟩
theorem bW (hN : X.N.Nodup) (hi : X.N[i]? = some x) (hx : Loc X.env.scope x) (hf : X.fn x = true ∨ X.env.scope.names.lookup x = some .local := by first | exact .inl rfl | exact .inr rfl | assumption) : PG X (.Name x pos) (Bv X.K W (gName i)) :=
  (pg_name hN hi hx hf).weak fun v σ H Q ⟨d, e, al, h, r, re, q, p⟩ => p _ H al .refl r (re.set q i)
def abL (K : PySem.W.Frag) (W : WX) (g : List D → En → AH → Res En) : TGs := fun vs st H Q => ∃ ds e al h, HR K H al h ∧ iG K H al e st ∧ bx K H al ds vs ∧
  bJ K (fun H al e st => iG K H al e st) H al (fun c d H' => W c d st H') Q (g ds e h)
theorem PGs.weak {t t' : TGs} (h : PGs X es t) (i : ∀ v σ H Q, t' v σ H Q → t v σ H Q) : PGs X es t' := ⟨fun pins s σ H v u Q I r q => h.run pins s σ H v u Q I r (i _ _ _ _ q)⟩
theorem ac0 : PGs X [] (abL X.K W gNil) := PGs.weak pgs_nil fun v σ H Q ⟨ds, e, al, h, r, re, q, p⟩ => by
  cases q with
  | nil => exact ⟨rfl, p _ H al .refl r re⟩
  | cons _ _ => exact p.elim
theorem yM {gr : List D → En → AH → Res En} (h1 : PG X e (Bv X.K (fun _ _ _ _ => False) gt)) (h2 : PGs X es (abL X.K (fun _ _ _ _ => False) gr))
    (hs : (assignEach (e :: es) X.env).map (·.2) = assign e X.env :: (assignEach es X.env).map (·.2) := by rfl) : PGs X (e :: es) (abL X.K (fun _ _ _ _ => False) (gCons gt gr)) := PGs.weak (pgs_cons h1 h2 hs) fun v σ H Q ⟨ds, e, al, h, r, re, q, p⟩ => by
  cases q with
  | nil => exact p.elim
  | cons q qs =>
    refine ⟨_, _, rfl, _, e, al, h, r, re, q, (bJ.bind p).mono ?_⟩
    rintro st H1 ⟨e1, bf, h1, l, r1, Q9, p1⟩
    exact ⟨_, e1, bf, h1, r1, Q9, qs.mono r l, p1⟩
def eG (n : Nat) (r : List D → En → AH → Res En) : MG := fun d e h => match d with
  | .tup ds => if ds.length = n then r ds e h else .stuck
  | _ => .stuck
theorem aft {k n : Nat} {gr : List D → En → AH → Res En} (hc : X.calm = true) (h : PGs X es (abL X.K (fun _ _ _ _ => False) gr))
    (hn : (assignEach es X.env).length = n := by rfl) (hst : (assignEach es X.env).findIdx? (·.1) = none := by rfl) : PG X (.Tuple es k pos) (Bv X.K (fun _ _ _ _ => False) (eG n gr)) :=
  (pg_tup hc h hn hst).weak fun v σ H Q ⟨d, e, al, h, r, re, q, p⟩ => by
    cases q with
    | tup s q =>
      simp only [eG] at p
      split at p
      · rename_i hl
        exact ⟨_, _, rfl, s, by rw [← q.length]; exact hl, _, e, al, h, r, re, q, p⟩
      · exact p.elim
    | _ => exact p.elim
def gj (g : MG) : MG := fun d e h => match g d e h with
  | .ok e' h' => .ok e' h'
  | _ => .stuck
theorem afu (h : PG X e (Bv X.K (fun _ _ _ _ => False) gt)) : PG X e (Bv X.K W (gj gt)) := h.weak fun v σ H Q ⟨d, e, al, h, r, re, q, p⟩ => by
  refine ⟨d, e, al, h, r, re, q, ?_⟩
  unfold gj at p
  cases z : gt d e h with
  | ok e' h' => rw [z] at p; exact p
  | exc c fs h' => rw [z] at p; exact p.elim
  | stuck => rw [z] at p; exact p.elim
theorem s_asg {tg : Expr} (he : PE X e (rd X.K W fa)) (hg : PG X tg (Bv X.K W gt)) (hs : swapsWithSole [tg] e pos.line X.env = pure false := by rfl) (hw : swappedStores [tg] e X.env = pure none := by rfl)
    (h1 : (assignEach [tg] X.env).map (·.2) = [assign tg X.env] := by rfl) : PS X (.Assign [tg] e pos) (oH X.K W (bO fa gt)) :=
  (ps_asg he hg hs hw h1).weak fun N σ H ⟨e, al, h, r, re, p⟩ => by
    refine ⟨e, al, h, r, re, (jV r re p).mono ?_⟩
    rintro v H1 ⟨d, bf, h1, l, r1, q, p1⟩
    refine ⟨d, e, bf, h1, r1, re.mono r l, q, (jV r1 (re.mono r l) p1).mono ?_⟩
    rintro st H2 ⟨e2, dD, h2, l2, r2, yN, p2⟩
    exact p2 st H2 dD .refl r2 yN
def qH (K : PySem.W.Frag) (J : It) (ds : List D) (H0 : Hp) (al0 : Al) : Prop := ∀ H al h, jr H0 al0 H al → HR K H al h →
  (∀ i, i < ds.length → J.go i H) ∧ J.stop ds.length H ∧ ∀ i x H', i < ds.length → J.yld i H x H' → Le H al H' al ∧ HR K H' al h ∧ ∃ d, ds[i]? = some d ∧ Rp K H' al d x
def BK (K : PySem.W.Frag) (W : WX) (it : En → AH → Res (List D)) : TI := fun st H R => ∃ e al h, HR K H al h ∧ iG K H al e st ∧
  bJ K (fun H al ds J => qH K J ds H al) H al (fun c d H' => W c d st H') R (it e h)
theorem jr.trans {H H' H2 : Hp} {al aQ dD : Al} (l : jr H al H' aQ) (m : jr H' aQ H2 dD) : jr H al H2 dD := by
  obtain ⟨t, ht⟩ := l.pre
  obtain ⟨u, hu⟩ := m.pre
  exact ⟨⟨t ++ u, by rw [hu, ht, List.append_assoc]⟩, fun a o e n => m.keep a o (l.keep a o e n) (l.out a o e n), fun a o e n => m.out a o (l.keep a o e n) (l.out a o e n), fun a o u e => m.lk a o u (l.lk a o u e)⟩
theorem qH.le {K : PySem.W.Frag} {J : It} {ds : List D} {H H' : Hp} {al aQ : Al} (w : qH K J ds H al) (l : jr H al H' aQ) : qH K J ds H' aQ := fun H2 dD h l2 r => w H2 dD h (l.trans l2) r
theorem abM {tg iter : Expr} {it : En → AH → Res (List D)} {body : List Stmt} (hp : PassesOwn (model X.prog X.w) X.A X.env X.xe) (hc : X.calm = true) (hi : PI X tg iter (BK X.K W it)) (hg : PG X tg (Bv X.K W gt)) (hb : PSs X body (oH X.K W f))
    (hs : ∀ x, foldedSetIterable iter X.env x = pure x := by intro _; rfl) : PS X (.For tg iter body [] pos) (oH X.K W (jG it gt f)) :=
  (ps_for hp hc hi hg hb hs).weak fun N σ H ⟨e, al, h, r, re, p⟩ => by
    refine ⟨e, al, h, r, re, (jV r re p).mono ?_⟩
    rintro J H1 ⟨ds, bf, h1, l, r1, w, p1⟩
    refine ⟨fun i m σ' H' => m = ds.length - i ∧ i ≤ ds.length ∧ ∃ e' aQ h', Le H1 bf H' aQ ∧ HR X.K H' aQ h' ∧ iG X.K H' aQ e' σ' ∧ mY X.K W H' aQ N (forL gt f (ds.drop i) e' h'), ⟨ds.length, by omega, Nat.zero_le _, e, bf, h1, .refl, r1, re.mono r l, p1⟩, ?_⟩
    rintro i m σ' H' ⟨rfl, hle, e', aQ, h', l', r', yh, p'⟩
    obtain ⟨w1, w2, w3⟩ := w H' aQ h' l'.Bu r'
    by_cases hlt : i < ds.length
    · refine .inr ⟨w1 i hlt, fun σ2 H2 => i + 1 ≤ ds.length ∧ ∃ e' aQ h', Le H1 bf H2 aQ ∧ HR X.K H2 aQ h' ∧ iG X.K H2 aQ e' σ2 ∧ mY X.K W H2 aQ N (forL gt f (ds.drop (i + 1)) e' h'), ?_, ?_⟩
      · rintro σ2 H2 ⟨hl2, z⟩
        exact ⟨ds.length - (i + 1), by omega, rfl, hl2, z⟩
      · intro x H2 y
        obtain ⟨l2, r2, d, hd, rp⟩ := w3 i x H2 hlt y
        have ed : ds.drop i = d :: ds.drop (i + 1) := by
          rw [List.drop_eq_getElem_cons hlt]
          congr 1
          rw [List.getElem?_eq_getElem hlt] at hd
          exact Option.some.inj hd
        rw [ed, forL] at p'
        have yN := yh.mono r' l2
        refine ⟨d, e', aQ, h', r2, yN, rp, (jV r2 yN (mY.le p' l2)).mono ?_⟩
        rintro st H3 ⟨e3, Rb, h3, l3, r3, re3, p3⟩
        refine ⟨e3, Rb, h3, r3, re3, ?_⟩
        cases q : f e3 h3 with
        | nx e4 h4 =>
          rw [q] at p3
          exact fun st' H4 al4 l4 r4 re4 => ⟨hlt, e4, al4, h4, ((l'.trans l2).trans l3).trans l4, r4, re4, mY.le p3 l4⟩
        | ct e4 h4 =>
          rw [q] at p3
          exact fun st' H4 al4 l4 r4 re4 => ⟨hlt, e4, al4, h4, ((l'.trans l2).trans l3).trans l4, r4, re4, mY.le p3 l4⟩
        | bk e4 h4 =>
          rw [q] at p3
          exact p3
        | rt d h4 => rw [q] at p3; exact p3
        | exc c fs e4 h4 => rw [q] at p3; exact p3
        | stuck => rw [q] at p3; exact p3
    · have hi' : i = ds.length := by omega
      subst hi'
      rw [List.drop_length] at p'
      exact .inl ⟨w2, p' σ' H' aQ .refl r' yh⟩
def items : D → AH → Res (List D)
  | .lst ds, h => .ok ds h
  | .dB ds, h => .ok ds h
  | .tup ds, h => .ok ds h
  | .str x, h => .ok (x.cps.toList.map fun c => .str ⟨#[c]⟩) h
  | _, _ => .stuck
def fX (fa : ME) : En → AH → Res (List D) := fun e h => (fa e h).bind fun d h1 => items d h1
theorem Zu {K : PySem.W.Frag} {H : Hp} {al : Al} {ds : List D} {vs : List V} {a : Addr} (s : ∀ H' aQ, jr H al H' aQ → SqL K H' a vs) {h : AH} (r : HR K H al h) (q : bx K H al ds vs) : qH K (Itl K a) ds H al := by
  intro H' aQ h' l r'
  have s' := s H' aQ l
  have q' := q.cU r l
  have w := walk_list (K := K) (a := a) (xs := vs)
  rw [← q.length] at w
  refine ⟨fun i hi => w.goes i H' hi s', w.stops H' s', fun i x H2 hi y => ?_⟩
  obtain ⟨rfl, e⟩ := w.yields i H' x H2 hi s' y
  obtain ⟨d, hd, rp⟩ := q'.get' e
  exact ⟨.refl, r', d, hd, rp⟩
theorem abN {K : PySem.W.Frag} {H : Hp} {al : Al} {ds : List D} {vs : List V} {a : Addr} (s : Ls H al a vs) {h : AH} (r : HR K H al h) (q : bx K H al ds vs) : qH K (Itl K a) ds H al := Zu (fun _ _ l => (s.cU l).sq) r q
theorem aaC {K : PySem.W.Frag} {H : Hp} {al : Al} {ds : List D} {vs : List V} {a : Addr} (s : Kl K H al a vs) {h : AH} (r : HR K H al h) (q : bx K H al ds vs) : qH K (Itl K a) ds H al := Zu (fun _ _ l => (s.cU l).sq) r q
theorem ac2 {K : PySem.W.Frag} {H : Hp} {al : Al} {ds : List D} {vs : List V} {a : Addr} (s : SqT K H a vs) {h : AH} (r : HR K H al h) (q : bx K H al ds vs) : qH K (Itt K a) ds H al := by
  intro H' aQ h' l r'
  have s' := Ft r s l
  have q' := q.cU r l
  have w := walk_tup (K := K) (a := a) (xs := vs)
  rw [← q.length] at w
  refine ⟨fun i hi => w.goes i H' hi s', w.stops H' s', fun i x H2 hi y => ?_⟩
  obtain ⟨rfl, e⟩ := w.yields i H' x H2 hi s' y
  obtain ⟨d, hd, rp⟩ := q'.get' e
  exact ⟨.refl, r', d, hd, rp⟩
theorem ac3 {K : PySem.W.Frag} {H : Hp} {al : Al} {z : Str} : qH K (Its z) (z.cps.toList.map fun c => .str ⟨#[c]⟩) H al := by
  intro H' aQ h' l r'
  have w := walk_str (z := z)
  have hl : (z.cps.toList.map fun c => D.str ⟨#[c]⟩).length = z.cps.size := by simp
  rw [hl]
  refine ⟨fun i hi => w.goes i H' hi trivial, w.stops H' trivial, fun i x H2 hi y => ?_⟩
  obtain ⟨rfl, c, e, rfl⟩ := w.yields i H' x H2 hi trivial y
  exact ⟨.refl, r', _, by rw [List.getElem?_map, Array.getElem?_toList, e]; rfl, .str _⟩
theorem zF {tg : Expr} (he : PE X e (rd X.K W fa)) : PI X tg e (BK X.K W (fX fa)) := by
  constructor
  rintro pins s σ H R I ⟨e, al, h, r, re, p⟩
  have p' := bJ.bind (R := fun H al d v => Rp X.K H al d v) p
  cases q : fa e h with
  | exc c fs h' =>
    refine (pi_list (tg := tg) he).run pins s σ H R I ⟨e, al, h, r, re, ?_⟩
    rw [q] at p' ⊢
    exact p'
  | stuck =>
    rw [q] at p'
    exact p'.elim
  | ok d h' =>
    rw [q] at p'
    cases d with
    | lst ds =>
      refine (pi_list (tg := tg) he).run pins s σ H R I ⟨e, al, h, r, re, ?_⟩
      rw [q]
      intro v H' aQ l r' rp
      obtain ⟨d, bf, h1, l1, r1, q1, p1⟩ := p' v H' aQ l r' rp
      unfold fX at p
      rw [q] at p
      cases rp with
      | lst s rl => exact ⟨_, rfl, ⟨_, s.sq⟩, p _ H' aQ l r' (abN s r' rl)⟩
    | dB ds =>
      refine (pi_list (tg := tg) he).run pins s σ H R I ⟨e, al, h, r, re, ?_⟩
      rw [q]
      intro v H' aQ l r' rp
      unfold fX at p
      rw [q] at p
      cases rp with
      | dB s rl => exact ⟨_, rfl, ⟨_, s.sq⟩, p _ H' aQ l r' (aaC s r' rl)⟩
    | tup ds =>
      refine (pi_tup (tg := tg) he).run pins s σ H R I ⟨e, al, h, r, re, ?_⟩
      rw [q]
      intro v H' aQ l r' rp
      unfold fX at p
      rw [q] at p
      cases rp with
      | tup s rl => exact ⟨_, rfl, ⟨_, s⟩, p _ H' aQ l r' (ac2 s r' rl)⟩
    | str z =>
      refine (pi_str (tg := tg) he).run pins s σ H R I ⟨e, al, h, r, re, ?_⟩
      rw [q]
      intro v H' aQ l r' rp
      unfold fX at p
      rw [q] at p
      cases rp with
      | str z => exact ⟨z, rfl, p _ H' aQ l r' ac3⟩
    | _ =>
      unfold fX at p
      rw [q] at p
      exact p.elim
end
end PD
namespace PD
open PySem PySem.Spec PyProof.Rows L2
abbrev WF : WX := fun _ _ _ _ => False
structure bZ (X : Cx) (W : WX) : Prop where
  tk : Takes X W
  po : PassesOwn (model X.prog X.w) X.A X.env X.xe
  gd : X.A.guards = some []
theorem bZ.blk {X : Cx} {W : WX} (ct : bZ X W) {s : Shared} {H : Hp} {scope : Scope} {cenv : Env} {fp : List Addr} : bZ (X.blk s H scope cenv fp) WF :=
  ⟨fun u s' ⟨_, _, _, _, _, _, _, _, _, _, _, _, _, _, _, _, w⟩ => w.elim, PassesOwn.never, ct.gd⟩
theorem bZ.def_ {P : Program} {w : World} {K : PySem.W.Frag} {mg : Str → Option Value} {base : Heap} {N : List Str} {q : Str} {sc : Scope} {f : Addr} {cdv : Value} {A : Around} {outer : List Env} {s : Shared} {H : Hp} {E : XK} (hG : A.guards = some []) :
    bZ (cxOf (L2.CX P w) P w K mg base N q sc f cdv A outer s H E) (fun cls d _ H => E cls d H) := ⟨takes_of rfl rfl rfl rfl, passes_of rfl, hG⟩
section
variable {K : PySem.W.Frag} {H H' H2 : Hp} {al aQ : Al} {p q : Addr} {h : AH}
theorem Le.free {c c' r : List Addr} (l : Le H ⟨c, q :: r⟩ H' ⟨c', q :: r⟩) (hq : ∃ o, H q = some o) : Le H ⟨c, r⟩ H' ⟨c', r⟩ := by
  refine ⟨l.pre, rfl, fun a o e n => ?_, fun a ha => l.res a (List.mem_cons_of_mem _ ha), l.new, l.lk⟩
  by_cases z : a = q
  · subst z
    rw [l.res a (List.mem_cons_self)]
    exact e
  · refine l.keep a o e fun w => ?_
    rcases w with w | w
    · exact n (.inl w)
    · rcases List.mem_cons.mp w with w | w
      · exact z w
      · exact n (.inr w)
theorem Le.putN {o : HO} (l : Le H al H' aQ) (e : H p = none) (n : p ∉ al.r) : Le H al (upd H' p o) aQ := by
  refine ⟨l.pre, l.wH, fun a u q m => ?_, fun a ha => ?_, l.new, fun a o' u q => by
    rw [upd_ne (ne_of_none q e)]
    exact l.lk a o' u q⟩
  · rw [upd_ne (ne_of_none q e)]
    exact l.keep a u q m
  · have ne : a ≠ p := fun z => n (by rw [← z]; exact ha)
    rw [upd_ne ne]
    exact l.res a ha
theorem iG.wipe {e : En} {st : L2.St} (q : iG K H al e st) : ∀ vs : List Nat, iG K H al (dN e vs) (L2.wipe st vs)
  | [] => q
  | v :: vs => by
    have ih := iG.wipe q vs
    refine ⟨by simp [dN, L2.wipe, ih.1], fun i d z => ?_⟩
    unfold dN at z
    unfold L2.wipe
    by_cases hi : v = i
    · subst hi
      by_cases hl : v < (dN e vs).length
      · rw [List.getElem?_set_self hl] at z
        cases z
      · rw [List.getElem?_eq_none (by simp; omega)] at z
        cases z
    · rw [List.getElem?_set_ne hi] at z ⊢
      exact ih.2 i d z
end
section
variable {X : Cx} {W : WX} {a b c e : Expr} {es : List Expr} {fa fb fc : ME} {fr fk : MA} {tc : MT} {f g : MS} {gt : MG} {pos p1 p2 : Pos} {i : Nat} {x : Str} {st : Stmt} {sts aen : List Stmt}
def Zv (K : PySem.W.Frag) (vs : List Nat) (g : MG) : TG := fun v st H Q => ∃ d e al h, HR K H al h ∧ iG K H al e st ∧ Rp K H al d v ∧
  bJ K (fun H al e st' => iG K H al e st' ∧ wipe st' vs = wipe st vs) H al (fun _ _ _ => False) Q (g d e h)
theorem Zw {st : L2.St} {v : Option V} : ∀ {vs : List Nat} {i : Nat}, i ∈ vs → wipe (st.set i v) vs = wipe st vs
  | [], i, h => nomatch h
  | w :: vs, i, h => by
    unfold wipe
    by_cases hi : i ∈ vs
    · rw [Zw hi]
    · have hw : i = w := by
        rcases List.mem_cons.mp h with z | z
        · exact z
        · exact absurd z hi
      subst hw
      have key : ∀ us : List Nat, i ∉ us → wipe (st.set i v) us = (wipe st us).set i v := by
        intro us
        induction us with
        | nil => intro _; rfl
        | cons u us ih =>
          intro hn
          simp only [List.mem_cons, not_or] at hn
          unfold wipe
          rw [ih hn.2, List.set_comm _ _ hn.1]
      rw [key vs hi, List.set_set]
theorem Fv {st : L2.St} {i : Nat} : ∀ {vs : List Nat}, (wipe st vs)[i]? = if i ∈ vs then (st[i]?).map (fun _ => none) else st[i]?
  | [] => by simp [wipe]
  | w :: vs => by
    unfold wipe
    have hl := wipe_length st vs
    by_cases hw : w = i
    · subst hw
      rw [if_pos List.mem_cons_self]
      by_cases hn : w < st.length
      · rw [List.getElem?_set_self (by rw [hl]; exact hn), List.getElem?_eq_getElem hn]
        rfl
      · rw [List.getElem?_eq_none (by rw [List.length_set, hl]; omega), List.getElem?_eq_none (by omega)]
        rfl
    · rw [List.getElem?_set_ne hw, Fv]
      have : (i ∈ w :: vs) = (i ∈ vs) := propext ⟨fun z => (List.mem_cons.mp z).resolve_left (fun q => hw q.symm), List.mem_cons_of_mem _⟩
      simp only [this]
theorem ac4 {st : L2.St} {vs : List Nat} : wipe (wipe st vs) vs = wipe st vs := by
  apply List.ext_getElem?
  intro i
  rw [Fv, Fv]
  by_cases hi : i ∈ vs
  · simp only [if_pos hi, Option.map_map]
    rfl
  · simp only [if_neg hi]
theorem kW {vs : List Nat} (hv : i ∈ vs) (hN : X.N.Nodup) (hi : X.N[i]? = some x) (hx : Loc X.env.scope x) (hf : X.fn x = true ∨ X.env.scope.names.lookup x = some .local := by first | exact .inl rfl | exact .inr rfl | assumption) : PG X (.Name x pos) (Zv X.K vs (gName i)) :=
  (pg_name hN hi hx hf).weak fun v σ H Q ⟨d, e, al, h, r, re, q, p⟩ => p _ H al .refl r ⟨re.set q i, Zw hv⟩
def abO (K : PySem.W.Frag) (vs : List Nat) (g : List D → En → AH → Res En) : TGs := fun ws st H Q => ∃ ds e al h, HR K H al h ∧ iG K H al e st ∧ bx K H al ds ws ∧
  bJ K (fun H al e st' => iG K H al e st' ∧ wipe st' vs = wipe st vs) H al (fun _ _ _ => False) Q (g ds e h)
theorem Qp {vs : List Nat} : PGs X [] (abO X.K vs gNil) := PGs.weak pgs_nil fun v σ H Q ⟨ds, e, al, h, r, re, q, p⟩ => by
  cases q with
  | nil => exact ⟨rfl, p _ H al .refl r ⟨re, rfl⟩⟩
  | cons _ _ => exact p.elim
theorem uO {vs : List Nat} {gr : List D → En → AH → Res En} (h1 : PG X e (Zv X.K vs gt)) (h2 : PGs X es (abO X.K vs gr))
    (hs : (assignEach (e :: es) X.env).map (·.2) = assign e X.env :: (assignEach es X.env).map (·.2) := by rfl) : PGs X (e :: es) (abO X.K vs (gCons gt gr)) := PGs.weak (pgs_cons h1 h2 hs) fun v σ H Q ⟨ds, e, al, h, r, re, q, p⟩ => by
  cases q with
  | nil => exact p.elim
  | cons q qs =>
    refine ⟨_, _, rfl, _, e, al, h, r, re, q, (bJ.bind p).mono ?_⟩
    rintro st H1 ⟨e1, bf, h1, l, r1, ⟨Q9, w1⟩, p1⟩
    refine ⟨_, e1, bf, h1, r1, Q9, qs.mono r l, ?_⟩
    cases z : gr _ e1 h1 with
    | ok e2 h2 =>
      rw [z] at p1
      exact fun v H' aQ l' r' q' => p1 v H' aQ l' r' ⟨q'.1, q'.2.trans w1⟩
    | exc c fs h2 => rw [z] at p1; exact p1
    | stuck => rw [z] at p1; exact p1
theorem Zx {vs : List Nat} {k n : Nat} {gr : List D → En → AH → Res En} (hc : X.calm = true) (h : PGs X es (abO X.K vs gr))
    (hn : (assignEach es X.env).length = n := by rfl) (hst : (assignEach es X.env).findIdx? (·.1) = none := by rfl) : PG X (.Tuple es k pos) (Zv X.K vs (eG n gr)) :=
  (pg_tup hc h hn hst).weak fun v σ H Q ⟨d, e, al, h, r, re, q, p⟩ => by
    cases q with
    | tup s q =>
      simp only [eG] at p
      split at p
      · rename_i hl
        exact ⟨_, _, rfl, s, by rw [← q.length]; exact hl, _, e, al, h, r, re, q, p⟩
      · exact p.elim
    | _ => exact p.elim
theorem wJ : PTs X [] (qP X.K W fG) := ⟨fun pins s σ H Q I ⟨e, al, h, r, re, p⟩ => pts_nil.run pins s σ H Q I (p true H al .refl r rfl)⟩
theorem Zy {c : Expr} {t : MT} (h : PT X c (qP X.K W t)) : PTs X [c] (qP X.K W t) := pts_one h
def akY (fin : List D → AH → Res D) (it : En → AH → Res (List D)) (g : MG) (t : MT) (f : ME) (own : List Nat) : ME := fun e h => (it e h).bind fun ds h1 => (cQ g t f own e [] ds h1).bind fun r h2 => fin r h2
theorem af4 {fin : List D → AH → Res D} {it : En → AH → Res (List D)} {t : MT} {f : ME} {vs : List Nat} {σ : L2.St} {H : Hp} {Q : VK} {K : PySem.W.Frag} (hf : ∀ (H1 : Hp) (bf : Al) (H' : Hp) (c' : List Addr) (h' : AH) (acc : List D) (ws : List V) (A : Addr), Le H1 bf H' ⟨c', bf.r⟩ → HR K H' ⟨c', A :: bf.r⟩ h' → H' A = some (.lst ws) → bx K H' ⟨c', A :: bf.r⟩ acc ws → H1 A = none → ¬ bf.has A → rB K H1 bf (fun c d H' => W c d σ H') Q (fin acc h') → Q (.ref A) H') : rd K W (akY fin it gt t f vs) σ H Q → tLc (BK K W it) (Zv K vs gt) (qP K WF t) (rd K WF f) vs σ H Q := by
  rintro ⟨e, al, h, r, re, p⟩
  refine ⟨e, al, h, r, re, (bJ.bind p).mono ?_⟩
  rintro J H1 ⟨ds, bf, h1, l, r1, w, p1⟩ A hA
  have nA := r1.T8 hA
  have hs : sizeLine = 16777216 := sizeLine_eq
  refine ⟨fun i m H' => m = ds.length - i ∧ i ≤ ds.length ∧ ∃ c' h' acc ws, Le H1 bf H' ⟨c', bf.r⟩ ∧ HR K H' ⟨c', A :: bf.r⟩ h' ∧ H' A = some (.lst ws) ∧ bx K H' ⟨c', A :: bf.r⟩ acc ws ∧ jr H1 bf H' ⟨c', A :: bf.r⟩ ∧
    rB K H1 bf (fun c d H' => W c d σ H') Q ((cQ gt t f vs e acc (ds.drop i) h').bind fun r h2 => fin r h2), ⟨ds.length, by omega, Nat.zero_le _, bf.c, h1, [], [], (Le.fresh r1 hA), r1.hold hA, upd_same, .nil, jr.hold hA, p1⟩, ?_⟩
  rintro i m H' ⟨rfl, hle, c', h', acc, ws, l', r', eA, ra, l0, p'⟩
  obtain ⟨w1, w2, w3⟩ := w H' _ h' l0 r'
  by_cases hlt : i < ds.length
  · refine .inr ⟨w1 i hlt, fun H2 => i + 1 ≤ ds.length ∧ ∃ c' h' acc ws, Le H1 bf H2 ⟨c', bf.r⟩ ∧ HR K H2 ⟨c', A :: bf.r⟩ h' ∧ H2 A = some (.lst ws) ∧ bx K H2 ⟨c', A :: bf.r⟩ acc ws ∧ jr H1 bf H2 ⟨c', A :: bf.r⟩ ∧
      rB K H1 bf (fun c d H' => W c d σ H') Q ((cQ gt t f vs e acc (ds.drop (i + 1)) h').bind fun r h2 => fin r h2), ?_, ?_⟩
    · rintro H2 ⟨hl2, z⟩
      exact ⟨ds.length - (i + 1), by omega, rfl, hl2, z⟩
    · intro x H2 y
      obtain ⟨l2, r2, d, hd, rp⟩ := w3 i x H2 hlt y
      have ed : ds.drop i = d :: ds.drop (i + 1) := by
        rw [List.drop_eq_getElem_cons hlt]
        congr 1
        rw [List.getElem?_eq_getElem hlt] at hd
        exact Option.some.inj hd
      rw [ed, cQ] at p'
      have Q9 : iG K H1 bf e σ := re.mono r l
      have yN : iG K H2 ⟨c', A :: bf.r⟩ (dN e vs) (L2.wipe σ vs) := ((Q9.cU r1 l0).mono r' l2).wipe vs
      refine ⟨d, dN e vs, _, h', r2, yN, rp, ?_⟩
      cases z : gt d (dN e vs) h' with
      | exc c fs h3 => rw [z] at p'; exact p'.elim
      | stuck => rw [z] at p'; exact p'.elim
      | ok e3 h3 =>
        rw [z] at p'
        rintro σ3 H3 ⟨c3, r3x⟩ l3 r3 ⟨re3, hw3⟩
        obtain rfl : r3x = A :: bf.r := l3.wH
        rw [ac4] at hw3
        refine ⟨hw3, e3, _, h3, r3, re3, ?_⟩
        dsimp only at p'
        cases z2 : t e3 h3 with
        | exc c fs h4 => rw [z2] at p'; exact p'.elim
        | stuck => rw [z2] at p'; exact p'.elim
        | ok b h4 =>
          rw [z2] at p'
          rintro b' H4 ⟨c4, r4x⟩ l4 r4 rfl
          obtain rfl : r4x = A :: bf.r := l4.wH
          have l24 : Le H' ⟨c', A :: bf.r⟩ H4 ⟨c4, A :: bf.r⟩ := (l2.trans l3).trans l4
          cases b with
          | false =>
            have akZ := l24.free ⟨_, eA⟩
            exact ⟨hlt, c4, h4, acc, ws, l'.trans akZ, r4, by rw [l24.res A List.mem_cons_self]; exact eA, ra.mono r' l24, l0.trans l24.Bu, p'⟩
          | true =>
            refine ⟨e3, _, h4, r4, re3.mono r3 l4, ?_⟩
            dsimp only at p'
            cases z3 : f e3 h4 with
            | exc c fs h5 => rw [z3] at p'; exact p'.elim
            | stuck => rw [z3] at p'; exact p'.elim
            | ok y h5 =>
              rw [z3] at p'
              rintro v H5 ⟨c5, r5x⟩ l5 r5 rv
              obtain rfl : r5x = A :: bf.r := l5.wH
              have l25 := l24.trans l5
              have ak0 := l25.free ⟨_, eA⟩
              have eA5 : H5 A = some (.lst ws) := by rw [l25.res A List.mem_cons_self]; exact eA
              dsimp only at p'
              split at p'
              · rename_i hsz
                have ra5 := ra.mono r' l25
                have L1 := (l'.trans ak0).putN (o := .lst (ws ++ [v])) hA fun z => nA (.inr z)
                refine ⟨ws, eA5, by rw [← ra5.length, hs]; exact hsz, hlt, c5, h5, acc ++ [y], ws ++ [v], L1, r5.Zr List.mem_cons_self, upd_same, (ra5.append (.cons rv .nil)).cU r5 (jr.Zr List.mem_cons_self ⟨_, eA5⟩), (l0.trans l25.Bu).trans (jr.Zr List.mem_cons_self ⟨_, eA5⟩), p'⟩
              · exact p'.elim
  · have hi' : i = ds.length := by omega
    subst hi'
    rw [List.drop_length, cQ] at p'
    exact .inl ⟨w2, hf H1 bf H' c' h' acc ws A l' r' eA ra hA nA p'⟩
theorem ac6 {it : En → AH → Res (List D)} {t : MT} {f : ME} {vs : List Nat} {σ : L2.St} {H : Hp} {Q : VK} {K : PySem.W.Frag} (p : rd K W (jH it gt t f vs) σ H Q) : tLc (BK K W it) (Zv K vs gt) (qP K WF t) (rd K WF f) vs σ H Q :=
  af4 (fin := fun r h2 => .ok (.lst r) h2) (fun H1 bf H' c' h' acc ws A l' r' eA ra hA nA p' => p' _ H' ⟨c', bf.r⟩ l' (HR.free (al := ⟨c', bf.r⟩) r') (.lst ⟨eA, fun z => by
    rcases z with z | z
    · exact r'.dis A z List.mem_cons_self
    · exact nA (.inr z)⟩ (ra.cU r' (jr.free (al := ⟨c', bf.r⟩))))) p
theorem zG {elt tg iter : Expr} {ifs : List Expr} {scope : Scope} {own : List (Str × Nat)} {it : En → AH → Res (List D)} {t : MT} {f : ME} (hc : X.calm = true) (hN : X.N.Nodup) (hi : PI X tg iter (BK X.K W it)) (ok : BlkOk X.N X.env.scope scope own)
    (hg : ∀ (s : Shared) (H : Hp) (C : Addr) (cl : List (Str × Addr)) (fp : List Addr), PG (X.blk s H scope (compEnvC scope cl C X.env) fp) tg (Zv X.K (own.map (·.2)) gt))
    (ht : ∀ (s : Shared) (H : Hp) (C : Addr) (cl : List (Str × Addr)) (fp : List Addr), PTs (X.blk s H scope (compEnvC scope cl C X.env) fp) ifs (qP X.K WF t))
    (he : ∀ (s : Shared) (H : Hp) (C : Addr) (cl : List (Str × Addr)) (fp : List Addr), PE (X.blk s H scope (compEnvC scope cl C X.env) fp) elt (rd X.K WF f)) (hs : ∀ x, foldedSetIterable iter X.env x = pure x := by intro _; rfl) :
    PE X (.ListComp elt [⟨tg, iter, ifs, 0⟩] scope pos) (rd X.K W (jH it gt t f (own.map (·.2)))) := (pe_lc hc hN hi ok hg ht he hs).weak fun σ H Q h => ac6 h
theorem af5 {y : Str} {py spos : Pos} {elt tg iter : Expr} {ifs : List Expr} {scope : Scope} {own : List (Str × Nat)} {it : En → AH → Res (List D)} {t : MT} {f : ME} (hc : X.calm = true) (hN : X.N.Nodup) (hy : X.N[i]? = some y) (hyl : X.env.scope.names.lookup y = some .local)
    (hsw : swapsWith (.ListComp elt [⟨tg, iter, ifs, 0⟩] scope pos) (some (.Name y py)) spos.line X.env = pure true) (hi : PI X tg iter (BK X.K W it)) (ok : BlkOk X.N X.env.scope scope own)
    (hg : ∀ (s : Shared) (H : Hp) (C : Addr) (cl : List (Str × Addr)) (fp : List Addr), PG (X.blk s H scope (compEnvC scope cl C X.env) fp) tg (Zv X.K (own.map (·.2)) gt))
    (ht : ∀ (s : Shared) (H : Hp) (C : Addr) (cl : List (Str × Addr)) (fp : List Addr), PTs (X.blk s H scope (compEnvC scope cl C X.env) fp) ifs (qP X.K WF t))
    (he : ∀ (s : Shared) (H : Hp) (C : Addr) (cl : List (Str × Addr)) (fp : List Addr), PE (X.blk s H scope (compEnvC scope cl C X.env) fp) elt (rd X.K WF f)) (hs : ∀ x, foldedSetIterable iter X.env x = pure x := by intro _; rfl) :
    PS X (.Assign [.Name y py] (.ListComp elt [⟨tg, iter, ifs, 0⟩] scope pos) spos) (oH X.K W (bO (jH it gt t f (own.map (·.2))) (gName i))) :=
  (ps_setLc hc hN hy hyl hsw hi ok hg ht he hs).weak fun N σ H ⟨e, al, h, r, re, p⟩ => by
    refine ac6 (W := W) ⟨e, al, h, r, re, (jV r re p).mono ?_⟩
    rintro v H1 ⟨d, bf, h1, l, r1, q, p1⟩
    exact p1 _ H1 bf .refl r1 ((re.mono r l).set q i)
def vg (lo : Int) (n : Nat) : List D := (List.range n).map fun k => .int (lo + (k : Nat))
def Qq : List D → AH → Res (List D)
  | [.int j], h => if -(2 ^ 62) ≤ j ∧ j < 2 ^ 62 then .ok (vg 0 j.toNat) h else .stuck
  | _, _ => .stuck
def jd (o : List D → AH → Res (List D)) (fa : MA) : En → AH → Res (List D) := fun e h => (fa e h).bind fun ds h1 => o ds h1
theorem aaD {K : PySem.W.Frag} {H : Hp} {al : Al} {lo : Int} {n : Nat} : qH K (Itr lo n) (vg lo n) H al := by
  intro H' aQ h' l r'
  have w := walk_range (lo := lo) (n := n)
  have hl : (vg lo n).length = n := by simp [vg]
  rw [hl]
  refine ⟨fun i hi => w.goes i H' hi trivial, w.stops H' trivial, fun i x H2 hi y => ?_⟩
  obtain ⟨rfl, rfl⟩ := w.yields i H' x H2 hi trivial y
  exact ⟨.refl, r', .int (lo + (i : Nat)), by simp [vg, hi], .int _⟩
theorem Rf {o : List D → AH → Res (List D)} {σ : L2.St} {H : Hp} {R : It → Hp → Prop} {K : PySem.W.Frag} : BK K W (jd o fr) σ H R → GB.clA (mX K W fr) σ H fun vs H1 => ∃ ds al h, HR K H1 al h ∧ bx K H1 al ds vs ∧ bJ K (fun H al ds J => qH K J ds H al) H1 al (fun c d H' => W c d σ H') R (o ds h) := by
  rintro ⟨e, al, h, r, re, p⟩
  refine ⟨_, ⟨e, al, h, r, re, bJ.bind p⟩, ?_⟩
  rintro vs H1 ⟨ds, bf, h1, l, r1, q, p1⟩
  exact ⟨ds, bf, h1, r1, q, p1⟩
theorem Zz {t : TA} {σ : L2.St} {H : Hp} {Q Q' : List V → Hp → Prop} (h : GB.clA t σ H Q) (i : ∀ v H, Q v H → Q' v H) : GB.clA t σ H Q' := by
  obtain ⟨P, hP, j⟩ := h
  exact ⟨P, hP, fun v H z => i _ _ (j v H z)⟩
theorem ac7 {tg : Expr} (hg : Gl X "range") (hm : X.mg "range" = none) (ha : PA X [a] (mX X.K W fr)) (hs : starEach [a] X.env = [(false, eval a X.env)] := by rfl) : PI X tg (.Call (.Name "range" p1) [a] [] pos) (BK X.K W (jd Qq fr)) :=
  (pi_range1 hg hm (GB.PA.cl ha) hs).weak fun σ H R h => by
    refine Zz (Rf h) ?_
    rintro vs H1 ⟨ds, bf, h1, r1, q, p1⟩
    unfold Qq at p1
    split at p1
    · cases q with
      | cons q qs =>
        cases q
        cases qs
        split at p1
        · rename_i hb
          exact ⟨_, rfl, hb.1, hb.2, p1 _ _ _ .refl r1 aaD⟩
        · exact p1.elim
    · exact p1.elim
def wL : List D → List D → List D
  | d :: ds, e :: es => .tup [d, e] :: wL ds es
  | _, _ => []
theorem Fw : ∀ (ds es : List D), (wL ds es).length = min ds.length es.length
  | [], _ => by simp [wL]
  | _ :: _, [] => by simp [wL]
  | d :: ds, e :: es => by simp [wL, Fw ds es]
theorem ZC : ∀ (ds es : List D) (i : Nat) (d e : D), ds[i]? = some d → es[i]? = some e → (wL ds es)[i]? = some (.tup [d, e])
  | [], _, i, d, e, h, _ => by simp at h
  | _ :: _, [], i, d, e, _, h => by simp at h
  | x :: ds, y :: es, 0, d, e, h, h2 => by simp at h h2; subst h h2; simp [wL]
  | x :: ds, y :: es, i + 1, d, e, h, h2 => by simpa [wL] using ZC ds es i d e (by simpa using h) (by simpa using h2)
end
end PD
namespace PD
open PySem PySem.Spec PyProof.Rows L2
def lV (X : Cx) (W : WX) (f : Value) (n : Nat) (ks : List Str) (m : List D → AH → Res D) : Prop :=
  ∀ (pins : List (Addr × Obj)) (s : Shared) (σ : L2.St) (H : Hp) (us ws : List Value) (vs zs : List V) (Q : VK), Inv X pins σ H s → Vals vs us → Vals zs ws → us.length = n → ws.length = ks.length →
    (∃ ds es al h, HR X.K H al h ∧ bx X.K H al ds vs ∧ bx X.K H al es zs ∧ rB X.K H al (fun c d H' => W c d σ H') Q (m (ds ++ es) h)) →
    wpAny (model X.prog X.w) X.A (call f us (ks.zip ws)) (EP X pins σ Q) X.xe s
section
variable {X : Cx} {W : WX} {e o : Expr} {es : List Expr} {kws : List Keyword} {fo : ME} {fa fk : MA} {x : Str} {f : Value} {p pos apos : Pos} {n : Nat} {ks : List Str} {m : List D → AH → Res D}
theorem Rg {K : PySem.W.Frag} {k : Nat} {σ : L2.St} {H : Hp} {Q : VK} : rd K W (aY n k m fa fk) σ H Q → mX K W fa σ H fun vs H1 => mX K W fk σ H1 fun zs H2 => vs.length = n ∧ zs.length = k ∧
    ∃ ds es al h, HR K H2 al h ∧ bx K H2 al ds vs ∧ bx K H2 al es zs ∧ rB K H2 al (fun c d H' => W c d σ H') Q (m (ds ++ es) h) := by
  rintro ⟨e, al, h, r, re, po⟩
  refine ⟨e, al, h, r, re, (bJ.bind po).mono ?_⟩
  rintro vs H1 ⟨ds, bf, h1, l, r1, q, p1⟩
  refine ⟨e, bf, h1, r1, re.mono r l, (bJ.bind p1).mono ?_⟩
  rintro zs H2 ⟨es, dD, h2, l2, r2, q2, p2⟩
  have q' := q.mono r1 l2
  split at p2
  · rename_i hl
    exact ⟨by rw [← q'.length]; exact hl.1, by rw [← q2.length]; exact hl.2, ds, es, dD, h2, r2, q', q2, p2⟩
  · exact p2.elim
theorem bU (c : lV X W f n [] m) (hg : Gl X x) (hm : X.mg x = some f) (kp : PySem.W.keepIn X.K f = true) (ha : PA X (e :: es) (mX X.K W fa))
    (hdb : (x == ("__debug__" : Str)) = false := by decide) (he : starEach (e :: es) X.env = (false, eval e X.env) :: starEach es X.env := by rfl)
    (hpl : (backTo pos (starEach es X.env)).any (·.1) = false := by rfl) : PE X (.Call (.Name x p) (e :: es) [] pos) (rd X.K W (aY n 0 m fa aA)) := by
  constructor
  intro pins s σ H Q I h
  refine wpAny_Call_Name_kw (ld_glob I hg hm ?_ hdb)
  refine PySem.W.callWith_K (h₀ := X.base) I.ok.mod.kin kp (thn ((GB.PA.cl ha).run pos pins s σ H _ I ⟨_, Rg h, fun _ _ z => z⟩) ?_) he hpl
  rintro us s1 ⟨vs, H1, I1, r, ⟨e1, bf, h1, hr, hre, z⟩⟩
  obtain ⟨l1, l2, w⟩ := z [] H1 bf .refl hr .nil
  exact ⟨I1.kIn, c pins s1 σ H1 us [] vs [] Q I1 r .nil (r.length.symm.trans l1) rfl w⟩
theorem aaV (c : lV X W f n ks m) (hg : Gl X x) (hm : X.mg x = some f) (kp : PySem.W.keepIn X.K f = true) (ha : PA X (e :: es) (mX X.K W fa)) (hkw : PK X kws (mX X.K W fk))
    (hall : (backToKw pos (keywordEach kws X.env)).all (·.1.isSome) = true := by rfl) (hks : (backToKw pos (keywordEach kws X.env)).filterMap (·.1) = ks := by rfl)
    (hdb : (x == ("__debug__" : Str)) = false := by decide) (he : starEach (e :: es) X.env = (false, eval e X.env) :: starEach es X.env := by rfl)
    (hpl : ((backTo pos (starEach (e :: es) X.env)).any (·.1) || (backToKw pos (keywordEach kws X.env)).any (·.1.isNone)) = false := by rfl) :
    PE X (.Call (.Name x p) (e :: es) kws pos) (rd X.K W (aY n ks.length m fa fk)) := by
  constructor
  intro pins s σ H Q I h
  refine wpAny_Call_Name_kw (ld_glob I hg hm ?_ hdb)
  refine PySem.W.callWith_KW (h₀ := X.base) I.ok.mod.kin kp hall (thn (ha.run pos pins s σ H _ I (Rg h)) ?_) hpl he
  rintro us s1 ⟨vs, H1, I1, r, z⟩
  refine thn (hkw.run pos pins s1 σ H1 _ I1 z) ?_
  rintro ws s2 ⟨zs, H2, I2, rz, l1, l2, w⟩
  rw [hks]
  exact ⟨I2.kIn, c pins s2 σ H2 us ws vs zs Q I2 r rz (r.length.symm.trans l1) (rz.length.symm.trans l2) w⟩
theorem aeo (c : lV X W f 0 ks m) (hg : Gl X x) (hm : X.mg x = some f) (kp : PySem.W.keepIn X.K f = true) (hkw : PK X kws (mX X.K W fk))
    (hall : (backToKw pos (keywordEach kws X.env)).all (·.1.isSome) = true := by rfl) (hks : (backToKw pos (keywordEach kws X.env)).filterMap (·.1) = ks := by rfl)
    (hdb : (x == ("__debug__" : Str)) = false := by decide)
    (hpl : ((backTo pos (starEach [] X.env)).any (·.1) || (backToKw pos (keywordEach kws X.env)).any (·.1.isNone)) = false := by rfl) :
    PE X (.Call (.Name x p) [] kws pos) (rd X.K W (aY 0 ks.length m aA fk)) := by
  constructor
  intro pins s σ H Q I h
  refine wpAny_Call_Name_kw (ld_glob I hg hm ?_ hdb)
  obtain ⟨e, al, h0, r, re, po⟩ := h
  have po' : rB X.K H al (fun c d H' => W c d σ H') Q ((fk e h0).bind fun es h2 => if [].length = 0 ∧ es.length = ks.length then m ([] ++ es) h2 else .stuck) := po
  refine PySem.W.callWith_KW0 (h₀ := X.base) I.ok.mod.kin kp hall (thn (hkw.run pos pins s σ H _ I ⟨e, al, h0, r, re, bJ.bind po'⟩) ?_) hpl
  rintro ws s2 ⟨zs, H2, I2, rz, es, dD, h2, l, r2, q2, p2⟩
  split at p2
  · rename_i hl
    rw [hks]
    exact ⟨I2.kIn, c pins s2 σ H2 [] ws [] zs Q I2 .nil rz rfl (rz.length.symm.trans (q2.length.symm.trans hl.2)) ⟨[], es, dD, h2, r2, .nil, q2, p2⟩⟩
  · exact p2.elim
end
structure Fd (P : Program) (w : World) (K : PySem.W.Frag) (mg : Str → Option Value) (base : Heap) (k : Nat) (f : Addr) (x q : Str) (st : Stmt) (dvs : List V) (kws : List (Str × V)) (ps : List Str) (m : List D → AH → Res D) : Prop where
  ex : ∃ fd, FunD K x q (defArgs st) (defBody st) (defScope st) dvs kws f fd ∧ GB.Fn P w K mg base (L2.CX P w) k f fd ps (Bw K m)
section
variable {P : Program} {w : World} {K : PySem.W.Frag} {mg : Str → Option Value} {base : Heap} {j k : Nat} {f : Addr} {x q : Str} {st : Stmt} {dvs : List V} {kws : List (Str × V)} {N ps : List Str} {m m' : List D → AH → Res D} {g : MS}
theorem Fd.mono (F : Fd P w K mg base j f x q st dvs kws ps m) (h : j ≤ k) : Fd P w K mg base k f x q st dvs kws ps m := by
  obtain ⟨fd, a, b⟩ := F.ex
  exact ⟨fd, a, b.mono h⟩
theorem aep {H : Hp} {al : Al} {ds : List D} {vs : List V} (q : bx K H al ds vs) (n : Nat) : iG K H al (ds.map some ++ List.replicate n none) (vs.map some ++ List.replicate n none) := by
  refine ⟨by simp [q.length], fun i d z => ?_⟩
  by_cases hi : i < ds.length
  · rw [List.getElem?_append_left (by simpa using hi), List.getElem?_map] at z
    obtain ⟨d', e1, e2⟩ := Option.map_eq_some_iff.mp z
    cases e2
    obtain ⟨v, e, rp⟩ := q.get e1
    refine ⟨v, ?_, rp⟩
    rw [List.getElem?_append_left (by simpa [← q.length] using hi), List.getElem?_map, e]
    rfl
  · rw [List.getElem?_append_right (by simpa using hi)] at z
    rw [List.getElem?_replicate] at z
    split at z <;> cases z
theorem Fd.of (T : GB.Dn K f x q st dvs kws) (S : FnScope N ps (defScope st))
    (hb : ∀ (cdv : Value) (A : Around) (outer : List Env) (s : Shared) (H : Hp) (E : XK), Room k (A.deeper (envOfC q (defScope st) s.heap.objs.size f cdv)) → A.guards = some [] →
      PSs (cxOf (L2.CX P w) P w K mg base N q (defScope st) f cdv A outer s H E) (defBody st) (oH K (fun c d _ H' => E c d H') g)) :
    Fd P w K mg base (k + 1) f x q st dvs kws ps (body ps.length N.length g) := by
  obtain ⟨fd, F⟩ := T
  have len : ∀ vs H Q E, Bw K (body ps.length N.length g) vs H Q E → vs.length = ps.length := by
    rintro vs H Q E ⟨ds, al, h, r, rp, po⟩
    unfold body at po
    split at po
    · rename_i hl
      rw [← rp.length]
      exact hl
    · exact po.elim
  refine ⟨fd, F, GB.fnG F S len ?_⟩
  intro cdv A outer s H vs Q E hr hG h
  have hl := len _ _ _ _ h
  refine ⟨_, hb cdv A outer s H E hr hG, ?_⟩
  obtain ⟨ds, al, h, r, rp, po⟩ := h
  unfold body at po
  have hd : ds.length = ps.length := by rw [rp.length]; exact hl
  rw [if_pos hd] at po
  refine ⟨ds.map some ++ List.replicate (N.length - ps.length) none, al, h, r, ?_, ?_⟩
  · have e : start N vs = vs.map some ++ List.replicate (N.length - ps.length) none := by unfold L2.start; rw [hl]
    rw [e]
    exact aep rp _
  · cases z : g (ds.map some ++ List.replicate (N.length - ps.length) none) h with
    | nx e' h' => rw [z] at po; exact fun st H' aQ l r' re => po .non H' aQ l r' .non
    | rt d h' => rw [z] at po; exact po
    | exc c fs e' h' => rw [z] at po; exact fun a st H' aQ gs l r' re e q => po a H' aQ gs l r' e q
    | bk e' h' => rw [z] at po; exact po.elim
    | ct e' h' => rw [z] at po; exact po.elim
    | stuck => rw [z] at po; exact po.elim
theorem Fd.eq (F : Fd P w K mg base k f x q st dvs kws ps m) (e : m = m') : Fd P w K mg base k f x q st dvs kws ps m' := e ▸ F
def Bd (K : PySem.W.Frag) (x q : Str) (st : Stmt) (dvs : List V) (kws : List (Str × V)) (f : Addr) (ps : List Str) (n : Nat) (ks : List Str) (dv : List V) (is : List Nat) : Prop :=
  ∀ fd, FunD K x q (defArgs st) (defBody st) (defScope st) dvs kws f fd → ∃ g, KBn K fd ps n ks g (fun vs zs => GB.picked (vs ++ zs ++ dv) is)
theorem bx.picked {H : Hp} {al : Al} {ds : List D} {vs : List V} (r : bx K H al ds vs) : ∀ is : List Nat, bx K H al (GB.picked ds is) (GB.picked vs is)
  | [] => .nil
  | i :: is => by
    have ih := bx.picked r is
    unfold GB.picked at ih ⊢
    rw [List.filterMap_cons, List.filterMap_cons]
    cases e : ds[i]? with
    | none =>
      have : vs[i]? = none := by
        rw [List.getElem?_eq_none_iff] at e ⊢
        rw [← r.length]
        exact e
      rw [this]
      exact ih
    | some d =>
      obtain ⟨v, hv, rv⟩ := r.get e
      rw [hv]
      exact .cons rv ih
theorem Bd.all {n : Nat} {ks : List Str} {is : List Nat} (hbd : ∀ (kV doc pm : Value) (an : Option Addr) (cdv ct : Value) (us ws : List Value), us.length = n → ws.length = ks.length →
      bindArgs (PySem.W.fnOf x q (defArgs st) (defBody st) (defScope st) .none kV doc pm an cdv ct) ⟨us, ks.zip ws⟩ = pure (ps.zip (GB.picked (us ++ ws) is))) : Bd K x q st [] kws f ps n ks [] is := by
  rintro fd F
  obtain ⟨oc, od, dV, kV, doc, pm, an, cdv, ct, osl, rfl, lk, hcd, hD, hK⟩ := F.ex
  have hdv : dV = .none := by
    rcases hD with ⟨_, e⟩ | ⟨e, _⟩
    · exact e
    · exact absurd rfl e
  subst hdv
  refine ⟨fun us ws => GB.picked (us ++ ws) is, ⟨fun s us ws _ l1 l2 => .of_eq (hbd kV doc pm an cdv ct us ws l1 l2), fun r1 r2 => ?_⟩⟩
  rw [List.append_nil]
  exact GB.yW (r1.append r2) is
end
section
variable {X : Cx} {W : WX} {k n : Nat} {f C : Addr} {x q : Str} {st : Stmt} {dvs dv : List V} {kws : List (Str × V)} {ps ks : List Str} {m : List D → AH → Res D} {dd : List D} {is : List Nat}
theorem Fd.calls (F : Fd X.prog X.w X.K X.mg X.base k f x q st dvs kws ps m) (hr : Room k X.A) (ct : bZ X W) (b : Bd X.K x q st dvs kws f ps n ks dv is) (hd : ∀ H al, bx X.K H al dd dv) :
    lV X W (.ref f) n ks (fun ds => m (GB.picked (ds ++ dd) is)) := by
  obtain ⟨fd, D1, F1⟩ := F.ex
  obtain ⟨g, B⟩ := b fd D1
  rintro pins s σ H us ws vs zs Q I r rz l1 l2 ⟨ds, es, al, h, hr1, q1, q2, po⟩
  refine wpAny_call (codeAny_mono (F1.go X.A X.stack s H ⟨us, ks.zip ws⟩ (g us ws) _ Q (fun c d H' => W c d σ H') hr ct.gd I.env0 (B.to s us ws I.kIn l1 l2) (B.rel r rz) ⟨_, al, h, hr1, ((q1.append q2).append (hd H al)).picked is, po⟩) ?_)
  rintro (err | fl) s' z
  · exact passAt ct.tk σ pins H s err s' I z
  · match fl, z with
    | .ret u, z => exact I.after z
def qI (c : Str) (m : List D → AH → Res D) : List D → AH → Res D := fun ds h => match m (.ref h.length :: ds) (h ++ [.ins c []]) with
  | .ok .non h' => .ok (.ref h.length) h'
  | .exc c fs h' => .exc c fs h'
  | _ => .stuck
theorem Fd.makes {c : Str} (M : Mk X.K (He.ga X.K c) f) (F : Fd X.prog X.w X.K X.mg X.base k f x q st dvs kws ps m) (hr : Room (k + 1) X.A) (ct : bZ X W) (b : Bd X.K x q st dvs kws f ps (n + 1) ks dv is) (hd : ∀ H al, bx X.K H al dd dv) :
    lV X W (.ref (He.ga X.K c)) n ks (qI c fun ds => m (GB.picked (ds ++ dd) is)) := by
  obtain ⟨fd, D1, F1⟩ := F.ex
  obtain ⟨g, B⟩ := b fd D1
  rintro pins s σ H us ws vs zs Q I r rz l1 l2 ⟨ds, es, al, h, hr1, q1, q2, po⟩
  let a := s.heap.objs.size + 1
  let dx := s.heap.objs.size
  have ha : H a = none := I.hok.fresh (Nat.le_succ _)
  have hdx : H dx = none := I.hok.fresh (Nat.le_refl _)
  have hne : dx ≠ a := Nat.ne_of_lt (Nat.lt_succ_self _)
  have I2 := Inv.made (C := He.ga X.K c) I
  have hr2 := hr1.fresh (o := .own a) hdx
  have l0 := Le.fresh (o := .own a) hr1 hdx
  have ha2 : upd H dx (.own a) a = none := by rw [upd_ne (Ne.symm hne)]; exact ha
  obtain ⟨hr3, l3⟩ := hr2.push (o := .ins (He.ga X.K c) dx []) (c := .ins c []) ha2 fun H' aQ _ e => ⟨dx, [], e, .nil⟩
  have l03 := l0.trans l3
  have self : Rp X.K (upd (upd H dx (.own a)) a (.ins (He.ga X.K c) dx [])) ⟨al.c ++ [a], al.r⟩ (.ref h.length) (.ref a) := .ref (by show (al.c ++ [a])[h.length]? = some a; rw [← hr1.len]; simp)
  have rS : Vals (V.ref a :: vs) (Value.ref a :: us) := .cons rfl r
  have e1 : (Value.ref a :: us).length = n + 1 := congrArg Nat.succ l1
  refine wpAny_call (make_map (f := f) I.kIn M.makes M.init (beq_iff_eq.mp M.fn) (codeAny_mono (F1.go _ X.stack _ _ ⟨Value.ref a :: us, ks.zip ws⟩ (g (Value.ref a :: us) ws) _ (fun v H2 => v = .non ∧ Q (.ref a) H2) (fun c d H' => W c d σ H')
    (hr.make (He.ga X.K c) us (ks.zip ws)) ct.gd (I2.env0.make (He.ga X.K c) us (ks.zip ws)) (B.to _ (Value.ref a :: us) ws I2.kIn e1 l2) (B.rel rS rz) ⟨_, _, _, hr3, (((bx.cons self (q1.mono hr1 l03)).append (q2.mono hr1 l03)).append (hd _ _)).picked is, ?_⟩) ?_))
  · unfold qI at po
    have ee : (D.ref h.length :: ds ++ es ++ dd) = D.ref h.length :: (ds ++ es) ++ dd := by simp
    rw [ee]
    cases z : m (GB.picked (D.ref h.length :: (ds ++ es) ++ dd) is) (h ++ [.ins c []]) with
    | ok d h' =>
      dsimp only at po
      rw [z] at po
      cases d with
      | non =>
        intro v H' aQ l r' rp
        cases rp
        exact ⟨rfl, po _ H' aQ (l03.trans l) r' (self.mono hr3 l)⟩
      | _ => exact po.elim
    | exc c' fs h' =>
      dsimp only at po
      rw [z] at po
      exact fun a' H' aQ gs l r' e q => po a' H' aQ gs (l03.trans l) r' e q
    | stuck =>
      dsimp only at po
      rw [z] at po
      exact po.elim
  · rintro (err | fl) s' z
    · exact passAt ct.tk σ pins _ _ err s' I2 z
    · match fl, z with
      | .ret u, z =>
        obtain ⟨v, H', I3, rv, ev, q3⟩ := I2.after z
        subst ev
        exact ⟨rv, ⟨V.ref a, H', I3, rfl, q3⟩⟩
end
end PD
namespace PD
open PySem PySem.Spec PyProof.Rows L2
mutual
def Fx (n : Nat) : D → Prop
  | .tup ds => uP n ds
  | .lst ds => uP n ds
  | .dB ds => uP n ds
  | .obj _ fs => zH n fs
  | .ref k => k < n
  | _ => True
def uP (n : Nat) : List D → Prop
  | [] => True
  | d :: ds => Fx n d ∧ uP n ds
def zH (n : Nat) : List (Str × D) → Prop
  | [] => True
  | (_, d) :: fs => Fx n d ∧ zH n fs
end
section
variable {K : PySem.W.Frag} {H H' : Hp} {al aQ : Al} {h h' : AH}
mutual
theorem Rp.low : ∀ {d : D} {v : V}, Rp K H al d v → Fx al.c.length d
  | _, _, .non => trivial
  | _, _, .bl _ => trivial
  | _, _, .int _ => trivial
  | _, _, .str _ => trivial
  | _, _, .ty _ => trivial
  | _, _, .glo _ => trivial
  | _, _, .ref e => (List.getElem?_eq_some_iff.mp e).1
  | _, _, .tup _ q => bx.low q
  | _, _, .lst _ q => bx.low q
  | _, _, .dB _ q => bx.low q
  | _, _, .obj _ _ q => dU.low q
theorem bx.low : ∀ {ds : List D} {vs : List V}, bx K H al ds vs → uP al.c.length ds
  | _, _, .nil => trivial
  | _, _, .cons q qs => ⟨Rp.low q, bx.low qs⟩
theorem dU.low : ∀ {ds : List (Str × D)} {vs : List (Str × V)}, dU K H al ds vs → zH al.c.length ds
  | _, _, .nil => trivial
  | _, _, .cons q qs => ⟨Rp.low q, dU.low qs⟩
end
variable {c t r : List Addr}
theorem uQ {a : Addr} (n : ¬ Al.has ⟨c ++ t, r⟩ a) : ¬ Al.has ⟨c, r⟩ a := fun z => n (z.elim (fun w => .inl (List.mem_append_left _ w)) .inr)
mutual
theorem Rp.less : ∀ {d : D} {v : V}, Rp K H ⟨c ++ t, r⟩ d v → Fx c.length d → Rp K H ⟨c, r⟩ d v
  | _, _, .non, _ => .non
  | _, _, .bl b, _ => .bl b
  | _, _, .int i, _ => .int i
  | _, _, .str x, _ => .str x
  | _, _, .ty n, _ => .ty n
  | _, _, .glo x, _ => .glo x
  | _, _, .ref (n := n) e, w => .ref (by
    have e' : (c ++ t)[n]? = _ := e
    rw [List.getElem?_append_left (show n < c.length from w)] at e'
    exact e')
  | _, _, .tup s q, w => .tup s (bx.less q w)
  | _, _, .lst s q, w => .lst ⟨s.1, uQ s.2⟩ (bx.less q w)
  | _, _, .dB s q, w => .dB (s.elim (fun ⟨o, z⟩ => .inl ⟨o, z.1, uQ z.2⟩) .inr) (bx.less q w)
  | _, _, .obj e n q, w => .obj e (uQ n) (dU.less q w)
theorem bx.less : ∀ {ds : List D} {vs : List V}, bx K H ⟨c ++ t, r⟩ ds vs → uP c.length ds → bx K H ⟨c, r⟩ ds vs
  | _, _, .nil, _ => .nil
  | _, _, .cons q qs, w => .cons (Rp.less q w.1) (bx.less qs w.2)
theorem dU.less : ∀ {ds : List (Str × D)} {vs : List (Str × V)}, dU K H ⟨c ++ t, r⟩ ds vs → zH c.length ds → dU K H ⟨c, r⟩ ds vs
  | _, _, .nil, _ => .nil
  | _, _, .cons q qs, w => .cons (Rp.less q w.1) (dU.less qs w.2)
end
theorem fL.less {x : Cell} {a : Addr} {K0 : PySem.W.Frag} {H0 : Hp} {r0 : List Addr} {a0 : Addr} (q : fL K H ⟨c ++ t, r⟩ a x) (q0 : fL K0 H0 ⟨c, r0⟩ a0 x) : fL K H ⟨c, r⟩ a x := by
  cases x with
  | lst ds =>
    obtain ⟨vs, z, q⟩ := q
    obtain ⟨_, _, q0⟩ := q0
    exact ⟨vs, z, q.less q0.low⟩
  | dict kvs =>
    obtain ⟨ws, z, k, q⟩ := q
    obtain ⟨_, _, _, q0⟩ := q0
    exact ⟨ws, z, k, q.less q0.low⟩
  | ins c fs =>
    obtain ⟨dx, gs, z, q⟩ := q
    obtain ⟨_, _, _, q0⟩ := q0
    exact ⟨dx, gs, z, q.less q0.low⟩
  | jE kvs =>
    obtain ⟨o, ws, z, k, q⟩ := q
    obtain ⟨_, _, _, _, q0⟩ := q0
    exact ⟨o, ws, z, k, q.less q0.low⟩
theorem HR.less {x : Cell} {a : Addr} (r0 : HR K H al h) (l : Le H al H' aQ) (r1 : HR K H' aQ (h ++ [x])) (e : aQ.c[h.length]? = some a) : HR K H' al h ∧ Le H al H' al ∧ ¬ al.has a ∧ aQ.c = al.c ++ [a] ∧ fL K H' aQ a x := by
  obtain ⟨t, ht⟩ := l.pre
  obtain ⟨c', r'⟩ := aQ
  obtain rfl : r' = al.r := l.wH
  obtain rfl : c' = al.c ++ t := ht
  have hlen : (al.c ++ t).length = h.length + 1 := by simpa using r1.len
  have htl : t.length = 1 := by
    have := r0.len
    simp only [List.length_append] at hlen
    omega
  obtain ⟨b, rfl⟩ := List.length_eq_one_iff.mp htl
  have e' : (al.c ++ [b])[h.length]? = some a := e
  rw [← r0.len] at e'
  simp at e'
  subst e'
  refine ⟨⟨r0.nd, r0.len, r0.dis, r1.rs, fun n x a e1 e2 => ?_⟩, ⟨⟨[], by simp⟩, rfl, l.keep, l.res, fun _ z => .inl z, l.lk⟩, fun z => ?_, rfl, ?_⟩
  · have hn := (List.getElem?_eq_some_iff.mp e1).1
    have hn2 := (List.getElem?_eq_some_iff.mp e2).1
    refine (r1.at_ n x a ?_ ?_).less (r0.at_ n x a e1 e2)
    · rw [List.getElem?_append_left hn]
      exact e1
    · show (al.c ++ [b])[n]? = some a
      rw [List.getElem?_append_left hn2]
      exact e2
  · rcases z with z | z
    · have nd : (al.c ++ [b]).Nodup := r1.nd
      rw [List.nodup_append] at nd
      exact nd.2.2 b z b (List.mem_singleton.mpr rfl) rfl
    · exact r1.dis b (List.mem_append_right _ (List.mem_singleton.mpr rfl)) z
  · exact r1.at_ h.length x b (by simp) e
end
open Classical in
noncomputable def aer (h : AH) (n : Nat) (h' : AH) : Res D := if n = h.length ∧ ∃ x, h' = h ++ [x] then match h'[n]? with
      | some (.ins c fs) => if zH n fs then .ok (.obj c fs) h else .stuck
      | some (.lst ds) => if uP n ds then .ok (.lst ds) h else .stuck
      | _ => .stuck
    else .stuck
noncomputable def frz (h : AH) : Res D → Res D
  | .ok d h' => match d with
    | .ref n => aer h n h'
    | d => .ok d h'
  | r => r
theorem af6 {h h' : AH} {n : Nat} : frz h (.ok (.ref n) h') = aer h n h' := rfl
theorem aaW {K : PySem.W.Frag} {H : Hp} {al : Al} {h : AH} {E : XK} {Q : VK} {m : Res D} (r : HR K H al h) (p : rB K H al E Q (frz h m)) : rB K H al E Q m := by
  cases m with
  | exc c fs h' => exact p
  | stuck => exact p
  | ok d h' =>
    cases d with
    | ref n =>
      intro v H' aQ l r' rp
      rw [af6] at p
      unfold aer at p
      split at p
      · rename_i hc
        obtain ⟨rfl, x, rfl⟩ := hc
        cases rp with
        | ref e =>
          obtain ⟨r2, l2, na, hc, ok⟩ := r.less l r' e
          rw [show (h ++ [x])[h.length]? = some x by simp] at p
          obtain ⟨c', rr⟩ := aQ
          obtain rfl : rr = al.r := l.wH
          obtain rfl : c' = _ := hc
          cases x with
          | ins c fs =>
            dsimp only at p
            split at p
            · rename_i w
              obtain ⟨dx, gs, e1, q⟩ := ok
              exact p _ H' al l2 r2 (.obj e1 na (dU.less q (by rw [r.len]; exact w)))
            · exact p.elim
          | lst ds =>
            dsimp only at p
            split at p
            · rename_i w
              obtain ⟨vs, e1, q⟩ := ok
              exact p _ H' al l2 r2 (.lst ⟨e1, na⟩ (bx.less q (by rw [r.len]; exact w)))
            · exact p.elim
          | dict kvs => exact p.elim
          | jE kvs => exact p.elim
      · exact p.elim
    | _ => exact p
theorem lV.frz {X : Cx} {W : WX} {f : Value} {n : Nat} {ks : List Str} {m : List D → AH → Res D} (c : lV X W f n ks m) : lV X W f n ks (fun ds h => PD.frz h (m ds h)) := by
  rintro pins s σ H us ws vs zs Q I r rz l1 l2 ⟨ds, es, al, h, hr, q1, q2, po⟩
  exact c pins s σ H us ws vs zs Q I r rz l1 l2 ⟨ds, es, al, h, hr, q1, q2, aaW hr po⟩
theorem Fd.frz {P : Program} {w : World} {K : PySem.W.Frag} {mg : Str → Option Value} {base : Heap} {k : Nat} {f : Addr} {x q : Str} {st : Stmt} {dvs : List V} {kws : List (Str × V)} {ps : List Str} {m : List D → AH → Res D}
    (F : Fd P w K mg base k f x q st dvs kws ps m) : Fd P w K mg base k f x q st dvs kws ps (fun ds h => PD.frz h (m ds h)) := by
  obtain ⟨fd, a, b⟩ := F.ex
  exact ⟨fd, a, b.imp fun vs H Q E ⟨ds, al, h, r, rp, po⟩ => ⟨ds, al, h, r, rp, aaW r po⟩⟩
def clsOf : D → AH → Option (Str × List (Str × D))
  | .obj c fs, _ => some (c, fs)
  | .ref n, h => match h[n]? with
    | some (.ins c fs) => some (c, fs)
    | _ => none
  | _, _ => none
def mZ (cs : List Str) (f : Str) (d : D) (h : AH) : Res D := match clsOf d h with
  | some (c, fs) => if c ∈ cs then match fs.lookup f with
      | some v => .ok v h
      | none => .stuck
    else .stuck
  | none => .stuck
def bM (cs : List Str) (f : Str) (fo : ME) : ME := fun e h => (fo e h).bind fun d h1 => mZ cs f d h1
theorem Fy {K : PySem.W.Frag} {H : Hp} {al : Al} {h : AH} {d : D} {v : V} {c : Str} {fs : List (Str × D)} (r : HR K H al h) (q : Rp K H al d v) (e : clsOf d h = some (c, fs)) : ∃ a dx gs, v = .ref a ∧ H a = some (.ins (He.ga K c) dx gs) ∧ dU K H al fs gs := by
  cases q with
  | obj e1 n q =>
    cases e
    exact ⟨_, _, _, rfl, e1, q⟩
  | ref e1 =>
    obtain ⟨x, hx, ok⟩ := r.cell e1
    simp only [clsOf, hx] at e
    cases x with
    | ins c fs =>
      cases e
      obtain ⟨dx, gs, e2, q⟩ := ok
      exact ⟨_, _, _, rfl, e2, q⟩
    | lst ds => cases e
    | dict ds => cases e
    | jE ds => cases e
  | _ => cases e
theorem dU.lookup {K : PySem.W.Frag} {H : Hp} {al : Al} {f : Str} {d : D} : ∀ {fs : List (Str × D)} {gs : List (Str × V)}, dU K H al fs gs → fs.lookup f = some d → ∃ v, gs.lookup f = some v ∧ Rp K H al d v
  | _, _, .nil, e => by cases e
  | _, _, .cons (f := g) q qs, e => by
    rw [List.lookup_cons] at e ⊢
    cases z : f == g with
    | true =>
      rw [z] at e
      cases e
      exact ⟨_, rfl, q⟩
    | false =>
      rw [z] at e
      exact dU.lookup qs e
theorem dU.Qs {K : PySem.W.Frag} {H : Hp} {al : Al} {f : Str} : ∀ {fs : List (Str × D)} {gs : List (Str × V)}, dU K H al fs gs → fs.lookup f = none → gs.lookup f = none
  | _, _, .nil, e => rfl
  | _, _, .cons (f := g) q qs, e => by
    rw [List.lookup_cons] at e ⊢
    cases z : f == g with
    | true =>
      rw [z] at e
      cases e
    | false =>
      rw [z] at e
      exact dU.Qs qs e
theorem dU.length {K : PySem.W.Frag} {H : Hp} {al : Al} : ∀ {fs : List (Str × D)} {gs : List (Str × V)}, dU K H al fs gs → fs.length = gs.length
  | _, _, .nil => rfl
  | _, _, .cons _ qs => by simp [dU.length qs]
def putD (f : Str) (v : D) : List (Str × D) → List (Str × D)
  | [] => [(f, v)]
  | (g, x) :: r => if g = f then (g, v) :: r else (g, x) :: putD f v r
theorem dU.put {K : PySem.W.Frag} {H : Hp} {al : Al} {f : Str} {d : D} {v : V} (p : Rp K H al d v) : ∀ {fs : List (Str × D)} {gs : List (Str × V)}, dU K H al fs gs → dU K H al (putD f d fs) (putF f v gs)
  | _, _, .nil => .cons p .nil
  | _, _, .cons (f := g) q qs => by
    unfold putD putF
    by_cases z : g = f
    · rw [if_pos z, if_pos z]
      exact .cons p qs
    · rw [if_neg z, if_neg z]
      exact .cons q (dU.put p qs)
section
variable {X : Cx} {W : WX} {e o v : Expr} {es : List Expr} {kws : List Keyword} {fo fv : ME} {fa fk : MA} {x f mn : Str} {p p1 p2 pos pos' apos : Pos} {n : Nat} {ks cs : List Str} {m : List D → AH → Res D}
theorem cV (hC : ∀ c ∈ cs, Cls X.K (He.ga X.K c) ∧ NoAttr X.K (He.ga X.K c) f) (ho : PE X o (rd X.K W fo)) (hb : attributeBase o f X.env (eval o X.env) = eval o X.env := by rfl) : PE X (.Attribute o f pos) (rd X.K W (bM cs f fo)) :=
  (pe_fld ho hb).weak fun σ H Q ⟨e, al, h, r, re, po⟩ => by
    refine ⟨e, al, h, r, re, (bJ.bind po).mono ?_⟩
    rintro v H1 ⟨d, bf, h1, l, r1, q, p1⟩
    unfold mZ at p1
    split at p1
    · rename_i c fs hcl
      obtain ⟨a, dx, gs, rfl, e1, qf⟩ := Fy r1 q hcl
      split at p1
      · rename_i hm
        split at p1
        · rename_i d' hl
          obtain ⟨w, e2, q2⟩ := qf.lookup hl
          exact ⟨a, _, dx, gs, w, rfl, e1, (hC c hm).1, (hC c hm).2, e2, p1 _ _ _ .refl r1 q2⟩
        · exact p1.elim
      · exact p1.elim
    · exact p1.elim
def m7 (cs : List Str) (f : Str) (e : En) (o y : D) (h : AH) : RS := match o with
  | .ref n => match h[n]? with
    | some (.ins c fs) => if c ∈ cs ∧ fs.length < 1000 then .nx e (h.set n (.ins c (putD f y fs))) else .stuck
    | _ => .stuck
  | _ => .stuck
def cH (cs : List Str) (f : Str) (fo fv : ME) : MS := fun e h => (fv e h).st e fun y h1 => (fo e h1).st e fun o h2 => m7 cs f e o y h2
theorem jt (hC : ∀ c ∈ cs, Cls X.K (He.ga X.K c) ∧ NoAttr X.K (He.ga X.K c) f) (ho : PE X o (rd X.K W fo)) (hv : PE X v (rd X.K W fv)) (hs : swapsWith v (some (.Attribute o f pos')) pos.line X.env = pure false := by rfl) :
    PS X (.Assign [.Attribute o f pos'] v pos) (oH X.K W (cH cs f fo fv)) :=
  (ps_fld ho hv hs).weak fun N σ H ⟨e, al, h, r, re, po⟩ => by
    refine ⟨e, al, h, r, re, (jV r re po).mono ?_⟩
    rintro y H1 ⟨d, bf, h1, l, r1, q, p1⟩
    refine ⟨e, bf, h1, r1, re.mono r l, (jV r1 (re.mono r l) p1).mono ?_⟩
    rintro w H2 ⟨d2, dD, h2, l2, r2, q2, p2⟩
    unfold m7 at p2
    split at p2
    · rename_i n
      split at p2
      · rename_i c fs hx
        split at p2
        · rename_i hc
          cases q2 with
          | ref ea =>
            obtain ⟨dx, gs, e1, qf⟩ := r2.at_ n _ _ hx ea
            obtain ⟨r3, l3⟩ := r2.put (o := .ins (He.ga X.K c) dx (putF f y gs)) (c := .ins c (putD f d fs)) ea fun H' aQ l' e' => ⟨dx, _, e', (qf.mono r2 l').put ((q.mono r1 l2).mono r2 l')⟩
            exact ⟨_, _, dx, gs, rfl, e1, (hC c hc.1).1, (hC c hc.1).2, by rw [← qf.length]; exact hc.2, p2 _ _ _ l3 r3 (((re.mono r l).mono r1 l2).mono r2 l3)⟩
        · exact p2.elim
      · exact p2.elim
    · exact p2.elim
def Ua (cs : List Str) (mn : Str) (d : D) (h : AH) : Prop := ∃ c fs, clsOf d h = some (c, fs) ∧ c ∈ cs ∧ fs.lookup mn = none
open Classical in
noncomputable def gQ (cs : List Str) (mn : Str) (n : Nat) (m : List D → AH → Res D) (fo : ME) (fa : MA) : ME := fun e h => (fo e h).bind fun d h1 =>
  if Ua cs mn d h1 then (fa e h1).bind fun ds h2 => if ds.length = n then m (d :: ds) h2 else .stuck else .stuck
theorem rQ {f : Addr} {pl : Sem Bool} (hM : ∀ c ∈ cs, Cls X.K (He.ga X.K c) ∧ Meth X.K (He.ga X.K c) mn f) (c : lV X W (.ref f) (n + 1) [] m) (ho : PE X o (rd X.K W fo)) (ha : PA X (e :: es) (mX X.K W fa))
    (hst : starEach (e :: es) X.env = (false, eval e X.env) :: starEach es X.env := by rfl) (hpl : (backTo pos (starEach es X.env)).any (·.1) = false := by rfl)
    (ht : eval (.Call (.Attribute o mn apos) (e :: es) [] pos) X.env = (eval o X.env >>= fun ov => standAt apos.atName >>= fun _ => holding [ov] (getMethod ov mn pl) >>= fun fp => callWith pos fp.1 fp.2 (backTo pos (starEach (e :: es) X.env)) (backToKw pos (keywordEach [] X.env))) := by rfl) :
    PE X (.Call (.Attribute o mn apos) (e :: es) [] pos) (rd X.K W (gQ cs mn n m fo fa)) := by
  constructor
  rintro pins s σ H Q I ⟨en, al, h, r, re, po⟩
  refine PySem.W.methodCall_KW (pl := pl) (thn (ho.run pins s σ H _ I ⟨en, al, h, r, re, bJ.bind po⟩) ?_) ht
  rintro u s1 ⟨v, H1, I1, rx, d, bf, h1, l, r1, q, p1⟩
  split at p1
  · rename_i hc
    obtain ⟨cn, fs, hcl, hmem, hl⟩ := hc
    obtain ⟨a, dx, gs, rfl, e1, qf⟩ := Fy r1 q hcl
    obtain rfl : u = Value.ref a := rx
    obtain ⟨cl, hmC⟩ := hM cn hmem
    refine getmeth_ok I1 e1 cl hmC (qf.Qs hl) ?_
    refine PySem.W.callWith_K (first := [.ref a]) (h₀ := X.base) I.ok.mod.kin hmC.kp (thn (ha.run pos pins s1 σ H1 _ I1 ⟨en, bf, h1, r1, re.mono r l, bJ.bind p1⟩) ?_) hst hpl
    rintro us s2 ⟨vs, H2, I2, rv, ds, dD, h2, l2, r2, q2, p2⟩
    refine ⟨I2.kIn, ?_⟩
    split at p2
    · rename_i hn
      exact c pins s2 σ H2 (.ref a :: us) [] (.ref a :: vs) [] Q I2 (.cons rfl rv) .nil (congrArg Nat.succ (rv.length.symm.trans (q2.length.symm.trans hn))) rfl ⟨d :: ds, [], dD, h2, r2, .cons (q.mono r1 l2) q2, .nil, by rw [List.append_nil]; exact p2⟩
    · exact p2.elim
  · exact p1.elim
theorem af7 {f : Addr} {pl : Sem Bool} (hM : ∀ c ∈ cs, Cls X.K (He.ga X.K c) ∧ Meth X.K (He.ga X.K c) mn f) (c : lV X W (.ref f) 1 [] m) (ho : PE X o (rd X.K W fo))
    (ht : eval (.Call (.Attribute o mn apos) [] [] pos) X.env = (eval o X.env >>= fun ov => standAt apos.atName >>= fun _ => holding [ov] (getMethod ov mn pl) >>= fun fp => callWith pos fp.1 fp.2 (backTo pos (starEach [] X.env)) (backToKw pos (keywordEach [] X.env))) := by rfl) :
    PE X (.Call (.Attribute o mn apos) [] [] pos) (rd X.K W (gQ cs mn 0 m fo aA)) := by
  constructor
  rintro pins s σ H Q I ⟨en, al, h, r, re, po⟩
  refine PySem.W.methodCall_KW (pl := pl) (thn (ho.run pins s σ H _ I ⟨en, al, h, r, re, bJ.bind po⟩) ?_) ht
  rintro u s1 ⟨v, H1, I1, rx, d, bf, h1, l, r1, q, p1⟩
  split at p1
  · rename_i hc
    obtain ⟨cn, fs, hcl, hmem, hl⟩ := hc
    obtain ⟨a, dx, gs, rfl, e1, qf⟩ := Fy r1 q hcl
    obtain rfl : u = Value.ref a := rx
    obtain ⟨cl, hmC⟩ := hM cn hmem
    refine getmeth_ok I1 e1 cl hmC (qf.Qs hl) ?_
    exact PySem.W.callWith_K0 (first := [.ref a]) I1.kIn hmC.kp (c pins s1 σ H1 [.ref a] [] [.ref a] [] Q I1 (.cons rfl .nil) .nil rfl rfl ⟨[d], [], bf, h1, r1, .cons q .nil, .nil, p1⟩)
  · exact p1.elim
def BL (c : Str) (mk : List D → Option (List (Str × D))) (fa : MA) : MS := fun e h => (fa e h).st e fun ds h1 => match mk ds with
  | some fs => if ds.length ≤ 1000 then .exc c fs e h1 else .stuck
  | none => .stuck
theorem Qt {k : Nat} {ps names : List Str} {mk : List D → Option (List (Str × D))} {mkV : List V → Option (List (Str × V))} (c : GB.Ef X.prog X.w X.K X.mg X.base k x ps names mkV) (hr : Room (k + 1) X.A) (hc : X.calm = true) (ct : bZ X W) (hg : Gl X x) (ha : PA X (e :: es) (mX X.K W fa))
    (hmk : ∀ H al ds vs fs, bx X.K H al ds vs → mk ds = some fs → ∃ gs, mkV vs = some gs ∧ dU X.K H al fs gs)
    (hdb : (x == ("__debug__" : Str)) = false := by decide) (he : starEach (e :: es) X.env = (false, eval e X.env) :: starEach es X.env := by rfl) (hpl : (backTo pos (starEach es X.env)).any (·.1) = false := by rfl) :
    PS X (.Raise (some (.Call (.Name x p) (e :: es) [] pos)) none pos') (oH X.K W (BL x mk fa)) :=
  (GB.acz c hr hc ct.tk hg (GB.PA.cl ha) hdb he hpl).weak fun N σ H ⟨en, al, h, r, re, po⟩ => by
    refine ⟨_, ⟨en, al, h, r, re, jV r re po⟩, ?_⟩
    rintro vs H1 ⟨ds, bf, h1, l, r1, q, p1⟩
    split at p1
    · rename_i fs hfs
      split at p1
      · rename_i hl
        obtain ⟨gs, e1, qf⟩ := hmk H1 bf ds vs fs q hfs
        refine ⟨by rw [← q.length]; exact hl, gs, e1, fun d H2 hd e2 => ?_⟩
        subst e2
        have lf := Le.fresh (o := .xd gs) r1 hd
        exact p1 d σ _ bf gs lf (r1.fresh hd) ((re.mono r l).mono r1 lf) upd_same (qf.mono r1 lf)
      · exact p1.elim
    · exact p1.elim
end
end PD
namespace PD
open PySem PySem.Spec PyProof.Rows L2
theorem aes (l : Addr) (xs : Array Value) (n : Nat) (q : Option Addr) (sl : Array (Option Value)) (k : Int) (u : Tok) (c0 : (decide (k < -(2 ^ 63)) || decide (k ≥ 2 ^ 63)) = false) (c1 : (xs.isEmpty || k == 1) = true) :
    Meets (Builtin.«tuple.__mul__» ⟨[.ref l, .int k u], []⟩) (fun _ R s => s.heap.get? l = some ⟨.type "tuple", q, .seq xs n, sl⟩ ∧ R (.ok (.ret (.ref l))) s) :=
  .of_wp fun prog w A R s h => by
    obtain ⟨hp, g, d, tk, os⟩ := s
    obtain ⟨hl, h⟩ := h
    have f1 := AutoSeq1.idx_int
    wp_walk using wpAny_loadPart' hl
    refine wpAny_ite_false (decide_eq_false fun z => by rw [c0] at z; cases z) ?_
    wp_walk using wpAny_loadPart' hl
    exact ⟨_, rfl, h⟩
theorem aeu (l : Addr) (xs : Array Value) (n : Nat) (q : Option Addr) (sl : Array (Option Value)) (k : Int) (u : Tok) (c0 : (decide (k < -(2 ^ 63)) || decide (k ≥ 2 ^ 63)) = false) (c1 : (xs.isEmpty || k == 1) = false) (c2 : (decide (k ≤ 0) || xs.isEmpty) = true) :
    Meets (Builtin.«tuple.__mul__» ⟨[.ref l, .int k u], []⟩) (fun _ R s => s.heap.get? l = some ⟨.type "tuple", q, .seq xs n, sl⟩ ∧ R (.ok (.ret (.ref s.heap.objs.size))) { s with heap := s.heap.push ⟨.type "tuple", none, .seq #[] 0, #[]⟩, toks := s.toks }) :=
  .of_wp fun prog w A R s h => by
    obtain ⟨hp, g, d, tk, os⟩ := s
    obtain ⟨hl, h⟩ := h
    have f1 := AutoSeq1.idx_int
    wp_walk using wpAny_loadPart' hl
    refine wpAny_ite_false (decide_eq_false fun z => by rw [c0] at z; cases z) ?_
    wp_walk using wpAny_loadPart' hl
    exact ⟨_, rfl, h⟩
variable {X : Cx}
theorem af8 {xs : List V} {l : Addr} {k : Int} {pins : List (Addr × Obj)} {s : Shared} {σ : L2.St} {H : Hp} {v u : Value} {Q : VK} (I : L2.Inv X pins σ H s) (rx : RelV (.ref l) v) (ry : RelV (.int k) u) (hT : SqT X.K H l xs) (h0 : 0 ≤ k) (h1 : k ≤ 1000) (hz : xs.length ≤ 1000)
    (qs : (List.replicate k.toNat xs).flatten = xs → Q (.ref l) H) (qn : ∀ p, H p = none → Q (.ref p) (upd H p (.tup (List.replicate k.toNat xs).flatten))) : wpAny (model X.prog X.w) X.A (binaryOp .Mult v u) (EP X pins σ Q) X.xe s := by
  by_cases h2 : xs ≠ [] ∧ 2 ≤ k
  · exact op_repT pins s σ H _ _ v u Q I rx ry ⟨l, k, xs, rfl, rfl, hT, h2.1, h2.2, h1, hz, qn⟩
  cases rx
  obtain ⟨t, rfl⟩ := ry
  obtain ⟨its, r, ⟨⟨cls, dd, data, sl⟩, ho, hc, n, hd⟩, hs⟩ := I.tuple hT
  simp only at hc hd
  subst hc hd
  have c0 : (decide (k < -(2 ^ 63)) || decide (k ≥ 2 ^ 63)) = false := by
    have a : ¬ k < -(2 ^ 63) := by omega
    have b : ¬ k ≥ 2 ^ 63 := by omega
    simp only [a, b, decide_false, Bool.or_self]
  have hem : its.toArray.isEmpty = xs.isEmpty := by
    cases r with
    | nil => rfl
    | cons _ _ => rfl
  by_cases h3 : xs = [] ∨ k = 1
  · have c1 : (its.toArray.isEmpty || k == 1) = true := by
      rw [hem]
      rcases h3 with rfl | rfl
      · rfl
      · exact Bool.or_true _
    have e : (List.replicate k.toNat xs).flatten = xs := by
      rcases h3 with rfl | rfl
      · exact List.flatten_replicate_nil
      · exact (List.append_nil xs)
    refine wpAny_binaryOp_repeat_ref (T := "tuple") (U := "int") (by decide) ⟨_, ho, rfl⟩ (fun s' => typeIs_int s' k t) noFill_tuple_mul F.fills_int_mul F.slot_int_rmul repeat_tuple F.slot_int_index.lookup
      (call_meets F.slot_int_rmul (typeIs_int s k t) F.entry_int_rmul (F.args_int_rmul_2 _ _) (int_rmul_tuple k t l its.toArray n dd sl) ⟨ho, rfl, ⟨_, ho, rfl⟩, ?_⟩)
    exact call_meets F.slot_tuple_mul ⟨_, ho, rfl⟩ F.entry_tuple_mul (F.args_tuple_mul_2 _ _) (aes l its.toArray n dd sl k t c0 c1) ⟨ho, .ref l, H, I, rfl, qs e⟩
  · have n1 : xs ≠ [] := fun z => h3 (.inl z)
    have n2 : k ≤ 0 := by
      have : ¬ 2 ≤ k := fun z => h2 ⟨n1, z⟩
      have : k ≠ 1 := fun z => h3 (.inr z)
      omega
    have k0 : k = 0 := by omega
    have em : its.toArray.isEmpty = false := by
      rw [hem]
      cases xs with
      | nil => exact absurd rfl n1
      | cons _ _ => rfl
    subst k0
    refine wpAny_binaryOp_repeat_ref (T := "tuple") (U := "int") (by decide) ⟨_, ho, rfl⟩ (fun s' => typeIs_int s' 0 t) noFill_tuple_mul F.fills_int_mul F.slot_int_rmul repeat_tuple F.slot_int_index.lookup
      (call_meets F.slot_int_rmul (typeIs_int s 0 t) F.entry_int_rmul (F.args_int_rmul_2 _ _) (int_rmul_tuple 0 t l its.toArray n dd sl) ⟨ho, rfl, ⟨_, ho, rfl⟩, ?_⟩)
    refine call_meets F.slot_tuple_mul ⟨_, ho, rfl⟩ F.entry_tuple_mul (F.args_tuple_mul_2 _ _) (aeu l its.toArray n dd sl 0 t c0 (by rw [em]; rfl) rfl) ⟨ho, ?_⟩
    exact ⟨.ref s.heap.objs.size, _, I.laid (t' := s.toks) (o := .tup []) (fun b ob q => Heap.get?_push_of_some _ q) (Nat.le_refl _) ⟨by decide, [], .nil, IsTup.new _ _⟩, rfl, qn _ (I.hok.fresh (Nat.le_refl _))⟩
end PD
namespace PD
open PySem PySem.Spec PyProof.Rows L2
section
variable {X : Cx} {W : WX}
def dF : O2
  | .int i, .int j, h => some (.int (i + j), h)
  | .str a, .str b, h => if a.length + b.length ≤ 16777216 then some (.str (a ++ b), h) else none
  | .lst a, .lst b, h => if a.length + b.length ≤ 16777216 then some (.lst (a ++ b), h) else none
  | .tup a, .tup b, h => if a.length + b.length ≤ 16777216 then some (.tup (a ++ b), h) else none
  | .ref n, .lst b, h => match h[n]? with
    | some (.lst a) => if a.length + b.length ≤ 16777216 then some (.lst (a ++ b), h) else none
    | _ => none
  | .lst a, .ref n, h => match h[n]? with
    | some (.lst b) => if a.length + b.length ≤ 16777216 then some (.lst (a ++ b), h) else none
    | _ => none
  | .ref m, .ref n, h => match h[m]?, h[n]? with
    | some (.lst a), some (.lst b) => if a.length + b.length ≤ 16777216 then some (.lst (a ++ b), h) else none
    | _, _ => none
  | _, _, _ => none
theorem HR.lst {K : PySem.W.Frag} {H : Hp} {al : Al} {h : AH} {n : Nat} {a : Addr} {ds : List D} (r : HR K H al h) (e : al.c[n]? = some a) (z : h[n]? = some (.lst ds)) : ∃ vs, H a = some (.lst vs) ∧ bx K H al ds vs := r.at_ n _ a z e
theorem m9 : OpR X (binaryOp .Add) (r2 X.K dF) := by
  have hs : sizeLine = 16777216 := sizeLine_eq
  rintro pins s σ H x y v u Q I rx ry ⟨d, e, al, h, r, p, q, po⟩
  cases p with
  | int i =>
    cases q with
    | int j => exact op_add pins s σ H _ _ v u Q I rx ry ⟨i, j, rfl, rfl, po _ _ _ .refl r (.int _)⟩
    | _ => exact False.elim po
  | str a =>
    cases q with
    | str b =>
      simp only [dF] at po
      split at po
      · rename_i hl
        exact op_add_str pins s σ H _ _ v u Q I rx ry ⟨a, b, rfl, rfl, by rw [hs]; exact hl, po _ _ _ .refl r (.str _)⟩
      · exact False.elim po
    | _ => exact False.elim po
  | lst sa qa =>
    cases q with
    | lst sb qb =>
      simp only [dF] at po
      split at po
      · rename_i hl
        exact op_cat pins s σ H _ _ v u Q I rx ry ⟨_, _, _, _, rfl, rfl, sa.1, sb.1, by rw [hs, ← qa.length, ← qb.length]; exact hl, fun p n => cO.oJ r (qa.append qb) po n⟩
      · exact False.elim po
    | ref eb =>
      simp only [dF] at po
      split at po
      · rename_i b hb
        obtain ⟨ws, hw, qb⟩ := r.lst eb hb
        split at po
        · rename_i hl
          exact op_cat pins s σ H _ _ v u Q I rx ry ⟨_, _, _, _, rfl, rfl, sa.1, hw, by rw [hs, ← qa.length, ← qb.length]; exact hl, fun p n => cO.oJ r (qa.append qb) po n⟩
        · exact False.elim po
      · exact False.elim po
    | _ => exact False.elim po
  | ref ea =>
    cases q with
    | lst sb qb =>
      simp only [dF] at po
      split at po
      · rename_i b hb
        obtain ⟨ws, hw, qa⟩ := r.lst ea hb
        split at po
        · rename_i hl
          exact op_cat pins s σ H _ _ v u Q I rx ry ⟨_, _, _, _, rfl, rfl, hw, sb.1, by rw [hs, ← qa.length, ← qb.length]; exact hl, fun p n => cO.oJ r (qa.append qb) po n⟩
        · exact False.elim po
      · exact False.elim po
    | ref eb =>
      simp only [dF] at po
      split at po
      · rename_i b c hb hc
        obtain ⟨ws, hw, qa⟩ := r.lst ea hb
        obtain ⟨zs, hz, qb⟩ := r.lst eb hc
        split at po
        · rename_i hl
          exact op_cat pins s σ H _ _ v u Q I rx ry ⟨_, _, _, _, rfl, rfl, hw, hz, by rw [hs, ← qa.length, ← qb.length]; exact hl, fun p n => cO.oJ r (qa.append qb) po n⟩
        · exact False.elim po
      · exact False.elim po
    | _ => exact False.elim po
  | tup sa qa =>
    cases q with
    | tup sb qb =>
      simp only [dF] at po
      split at po
      · rename_i hl
        refine op_catA pins s σ H _ _ v u Q I rx ry ⟨_, _, _, _, rfl, rfl, sa, sb, by rw [hs, ← qa.length, ← qb.length]; exact hl, fun e => ?_, fun _ e => ?_, fun _ _ p n => cO.OJ r (qa.append qb) po n⟩
        · subst e
          cases qa
          exact po _ _ _ .refl r (.tup sb qb)
        · subst e
          cases qb
          rw [List.append_nil] at po
          exact po _ _ _ .refl r (.tup sa qa)
      · exact False.elim po
    | _ => exact False.elim po
  | _ => exact False.elim po
def je : O2
  | .int i, .int j, h => some (.int (i - j), h)
  | _, _, _ => none
theorem Ub : OpR X (binaryOp .Sub) (r2 X.K je) := by
  rintro pins s σ H x y v u Q I rx ry ⟨d, e, al, h, r, p, q, po⟩
  cases p with
  | int i =>
    cases q with
    | int j => exact op_sub pins s σ H _ _ v u Q I rx ry ⟨i, j, rfl, rfl, po _ _ _ .refl r (.int _)⟩
    | _ => exact False.elim po
  | _ => exact False.elim po
theorem bx.rep {K : PySem.W.Frag} {H : Hp} {al : Al} {ds : List D} {vs : List V} (q : bx K H al ds vs) : ∀ n : Nat, bx K H al (List.replicate n ds).flatten (List.replicate n vs).flatten
  | 0 => .nil
  | n + 1 => by
    rw [List.replicate_succ, List.replicate_succ, List.flatten_cons, List.flatten_cons]
    exact q.append (bx.rep q n)
def mulM : O2
  | .int i, .int j, h => if i.natAbs.log2 + j.natAbs.log2 < 1000000 then some (.int (i * j), h) else none
  | .lst a, .int k, h => if -(2 ^ 63) ≤ k ∧ k < 2 ^ 63 ∧ a.length * k.toNat ≤ 16777216 then some (.lst (List.replicate k.toNat a).flatten, h) else none
  | .tup a, .int k, h => if 0 ≤ k ∧ k ≤ 1000 ∧ a.length ≤ 1000 then some (.tup (List.replicate k.toNat a).flatten, h) else none
  | _, _, _ => none
theorem afx : OpR X (binaryOp .Mult) (r2 X.K mulM) := by
  have hs : sizeLine = 16777216 := sizeLine_eq
  rintro pins s σ H x y v u Q I rx ry ⟨d, e, al, h, r, p, q, po⟩
  cases p with
  | int i =>
    cases q with
    | int j =>
      simp only [mulM] at po
      split at po
      · rename_i hl
        exact op_mulW pins s σ H _ _ v u Q I rx ry ⟨i, j, rfl, rfl, hl, po _ _ _ .refl r (.int _)⟩
      · exact False.elim po
    | _ => exact False.elim po
  | lst sa qa =>
    cases q with
    | int k =>
      simp only [mulM] at po
      split at po
      · rename_i hl
        exact op_rep pins s σ H _ _ v u Q I rx ry ⟨_, k, _, rfl, rfl, sa.1, hl.1, hl.2.1, by rw [hs, ← qa.length]; exact hl.2.2, fun p n => cO.oJ r (qa.rep _) po n⟩
      · exact False.elim po
    | _ => exact False.elim po
  | tup sa qa =>
    cases q with
    | int k =>
      simp only [mulM] at po
      split at po
      · rename_i hl
        refine af8 I rx ry sa hl.1 hl.2.1 (by rw [← qa.length]; exact hl.2.2) (fun e => ?_) (fun p n => cO.OJ r (qa.rep _) po n)
        exact po _ _ _ .refl r (.tup sa (by
          have w := qa.rep k.toNat
          rw [e] at w
          exact w))
      · exact False.elim po
    | _ => exact False.elim po
  | _ => exact False.elim po
def fM : O2
  | .int i, .int j, h => if 0 < j ∧ j.natAbs.log2 < 9000 then some (.int (i / j), h) else none
  | _, _, _ => none
theorem yO : OpR X (binaryOp .FloorDiv) (r2 X.K fM) := by
  rintro pins s σ H x y v u Q I rx ry ⟨d, e, al, h, r, p, q, po⟩
  cases p with
  | int i =>
    cases q with
    | int j =>
      simp only [fM] at po
      split at po
      · rename_i hl
        exact op_fdivW pins s σ H _ _ v u Q I rx ry ⟨i, j, rfl, rfl, hl, po _ _ _ .refl r (.int _)⟩
      · exact False.elim po
    | _ => exact False.elim po
  | _ => exact False.elim po
def iD : O2
  | .int i, .int j, h => if 0 < j then some (.int (i % j), h) else none
  | _, _, _ => none
theorem DG : OpR X (binaryOp .Mod) (r2 X.K iD) := by
  rintro pins s σ H x y v u Q I rx ry ⟨d, e, al, h, r, p, q, po⟩
  cases p with
  | int i =>
    cases q with
    | int j =>
      simp only [iD] at po
      split at po
      · rename_i hl
        exact op_mod pins s σ H _ _ v u Q I rx ry ⟨i, j, rfl, rfl, hl, po _ _ _ .refl r (.int _)⟩
      · exact False.elim po
    | _ => exact False.elim po
  | _ => exact False.elim po
def jf : O2
  | .int i, .int j, h => if 0 ≤ j ∧ j ≤ 1000000 ∧ i.natAbs < 2 ^ 64 then some (.int (i ^ j.toNat), h) else none
  | _, _, _ => none
theorem Uc : OpR X (binaryOp .Pow) (r2 X.K jf) := by
  rintro pins s σ H x y v u Q I rx ry ⟨d, e, al, h, r, p, q, po⟩
  cases p with
  | int i =>
    cases q with
    | int j =>
      simp only [jf] at po
      split at po
      · rename_i hl
        exact op_pow pins s σ H _ _ v u Q I rx ry ⟨i, j, rfl, rfl, hl, po _ _ _ .refl r (.int _)⟩
      · exact False.elim po
    | _ => exact False.elim po
  | _ => exact False.elim po
def abP : O1
  | .int i, h => some (.int (-i), h)
  | _, _ => none
theorem aju : UnR X (unaryOp .USub) (r1 X.K abP) := by
  rintro pins s σ H x v Q I rx ⟨d, al, h, r, p, po⟩
  cases p with
  | int i => exact un_neg pins s σ H _ v Q I rx ⟨i, rfl, po _ _ _ .refl r (.int _)⟩
  | _ => exact False.elim po
def qJ : O2
  | .int i, .int j, h => some (.bl (decide (i < j)), h)
  | .str a, .str b, h => some (.bl (decide (a.cps.toList < b.cps.toList)), h)
  | _, _, _ => none
def oK : O2
  | .int i, .int j, h => some (.bl (decide (i ≤ j)), h)
  | .str a, .str b, h => some (.bl (!decide (b.cps.toList < a.cps.toList)), h)
  | _, _, _ => none
def oY : O2
  | .int i, .int j, h => some (.bl (decide (j < i)), h)
  | .str a, .str b, h => some (.bl (decide (b.cps.toList < a.cps.toList)), h)
  | _, _, _ => none
def oM : O2
  | .int i, .int j, h => some (.bl (decide (j ≤ i)), h)
  | .str a, .str b, h => some (.bl (!decide (a.cps.toList < b.cps.toList)), h)
  | _, _, _ => none
theorem ak1 : OpR X (compareOp .Lt) (r2 X.K qJ) := by
  rintro pins s σ H x y v u Q I rx ry ⟨d, e, al, h, r, p, q, po⟩
  cases p with
  | int i =>
    cases q with
    | int j => exact op_lt pins s σ H _ _ v u Q I rx ry ⟨i, j, rfl, rfl, po _ _ _ .refl r (.bl _)⟩
    | _ => exact False.elim po
  | str i =>
    cases q with
    | str j => exact op_lt_str pins s σ H _ _ v u Q I rx ry ⟨i, j, rfl, rfl, po _ _ _ .refl r (.bl _)⟩
    | _ => exact False.elim po
  | _ => exact False.elim po
theorem abQ : OpR X (compareOp .LtE) (r2 X.K oK) := by
  rintro pins s σ H x y v u Q I rx ry ⟨d, e, al, h, r, p, q, po⟩
  cases p with
  | int i =>
    cases q with
    | int j => exact op_le pins s σ H _ _ v u Q I rx ry ⟨i, j, rfl, rfl, po _ _ _ .refl r (.bl _)⟩
    | _ => exact False.elim po
  | str i =>
    cases q with
    | str j => exact op_le_str pins s σ H _ _ v u Q I rx ry ⟨i, j, rfl, rfl, po _ _ _ .refl r (.bl _)⟩
    | _ => exact False.elim po
  | _ => exact False.elim po
theorem aev : OpR X (compareOp .Gt) (r2 X.K oY) := by
  rintro pins s σ H x y v u Q I rx ry ⟨d, e, al, h, r, p, q, po⟩
  cases p with
  | int i =>
    cases q with
    | int j => exact op_gt pins s σ H _ _ v u Q I rx ry ⟨i, j, rfl, rfl, po _ _ _ .refl r (.bl _)⟩
    | _ => exact False.elim po
  | str i =>
    cases q with
    | str j => exact op_gt_str pins s σ H _ _ v u Q I rx ry ⟨i, j, rfl, rfl, po _ _ _ .refl r (.bl _)⟩
    | _ => exact False.elim po
  | _ => exact False.elim po
theorem abR : OpR X (compareOp .GtE) (r2 X.K oM) := by
  rintro pins s σ H x y v u Q I rx ry ⟨d, e, al, h, r, p, q, po⟩
  cases p with
  | int i =>
    cases q with
    | int j => exact op_ge pins s σ H _ _ v u Q I rx ry ⟨i, j, rfl, rfl, po _ _ _ .refl r (.bl _)⟩
    | _ => exact False.elim po
  | str i =>
    cases q with
    | str j => exact op_ge_str pins s σ H _ _ v u Q I rx ry ⟨i, j, rfl, rfl, po _ _ _ .refl r (.bl _)⟩
    | _ => exact False.elim po
  | _ => exact False.elim po
mutual
def toP : D → Option PyData
  | .non => some .none
  | .bl b => some (.bool b)
  | .int i => some (.int i)
  | .str x => some (.str x)
  | .tup ds => (BP ds).map .tuple
  | .lst ds => (BP ds).map .list
  | .dB ds => (BP ds).map .list
  | _ => none
def BP : List D → Option (List PyData)
  | [] => some []
  | d :: ds => (toP d).bind fun p => (BP ds).map (p :: ·)
end
def ahI (h : AH) : D → Option PyData
  | .ref n => match h[n]? with
    | some (.lst ds) => (BP ds).map .list
    | _ => none
  | d => toP d
mutual
theorem Rp.dp {K : PySem.W.Frag} {H : Hp} {al : Al} : ∀ {d : D} {v : V} {p : PyData}, Rp K H al d v → toP d = some p → Dp K H v p
  | _, _, _, .non, e => by simp only [toP] at e; cases e; exact .non
  | _, _, _, .bl b, e => by simp only [toP] at e; cases e; exact .bl b
  | _, _, _, .int i, e => by simp only [toP] at e; cases e; exact .int i
  | _, _, _, .str x, e => by simp only [toP] at e; cases e; exact .str x
  | _, _, _, .ty _, e => by simp [toP] at e
  | _, _, _, .glo _, e => by simp [toP] at e
  | _, _, _, .ref _, e => by simp [toP] at e
  | _, _, _, .obj _ _ _, e => by simp [toP] at e
  | _, _, _, .tup s q, e => by
    simp only [toP] at e
    obtain ⟨ps, e1, e2⟩ := Option.map_eq_some_iff.mp e
    cases e2
    exact .tup s (bx.dp q e1)
  | _, _, _, .lst s q, e => by
    simp only [toP] at e
    obtain ⟨ps, e1, e2⟩ := Option.map_eq_some_iff.mp e
    cases e2
    exact .lst s.sq (bx.dp q e1)
  | _, _, _, .dB s q, e => by
    simp only [toP] at e
    obtain ⟨ps, e1, e2⟩ := Option.map_eq_some_iff.mp e
    cases e2
    exact .lst s.sq (bx.dp q e1)
theorem bx.dp {K : PySem.W.Frag} {H : Hp} {al : Al} : ∀ {ds : List D} {vs : List V} {ps : List PyData}, bx K H al ds vs → BP ds = some ps → DpAll K H vs ps
  | _, _, _, .nil, e => by simp only [BP] at e; cases e; exact .nil
  | _, _, _, .cons q qs, e => by
    simp only [BP] at e
    obtain ⟨p, e1, e2⟩ := Option.bind_eq_some_iff.mp e
    obtain ⟨ps, e3, e4⟩ := Option.map_eq_some_iff.mp e2
    cases e4
    exact .cons (Rp.dp q e1) (bx.dp qs e3)
end
def eqB (h : AH) (d e : D) : Option Bool := match ahI h d, ahI h e with
  | some p, some q => if SeqAt.shaped p = true ∧ SeqAt.shaped q = true then some (PyData.eqv p q) else none
  | _, _ => none
def eqM : O2 := fun d e h => (eqB h d e).map fun b => (.bl b, h)
def neM : O2 := fun d e h => (eqB h d e).map fun b => (.bl (!b), h)
def isNon : D → Bool
  | .non => true
  | _ => false
def jW : O2 := fun d e h => match e with
  | .non => some (.bl (isNon d), h)
  | _ => none
def fQ : O2 := fun d e h => match e with
  | .non => some (.bl (!isNon d), h)
  | _ => none
theorem ZD {K : PySem.W.Frag} {H : Hp} {al : Al} {d : D} {x : V} (p : Rp K H al d x) : decide (x = .non) = isNon d := by
  cases p <;> rfl
theorem BR : OpR X (compareOp .Is) (r2 X.K jW) := by
  rintro pins s σ H x y v u Q I rx ry ⟨d, e, al, h, r, p, q, po⟩
  cases q with
  | non => exact op_isN pins s σ H _ _ v u Q I rx ry ⟨rfl, po _ _ _ .refl r (by rw [ZD p]; exact .bl _)⟩
  | _ => exact False.elim po
theorem sJ : OpR X (compareOp .IsNot) (r2 X.K fQ) := by
  rintro pins s σ H x y v u Q I rx ry ⟨d, e, al, h, r, p, q, po⟩
  cases q with
  | non => exact op_notN pins s σ H _ _ v u Q I rx ry ⟨rfl, po _ _ _ .refl r (by rw [ZD p]; exact .bl _)⟩
  | _ => exact False.elim po
def toV : D → Option V
  | .non => some .non
  | .bl b => some (.bl b)
  | .int i => some (.int i)
  | .str x => some (.str x)
  | _ => none
def qD : List D → Option (List V)
  | [] => some []
  | d :: ds => (toV d).bind fun v => (qD ds).map (v :: ·)
theorem ac9 {K : PySem.W.Frag} {H : Hp} {al : Al} {d : D} {x v : V} (p : Rp K H al d x) (e : toV d = some v) : x = v ∧ flatV v = true := by
  cases p <;> first | (cases e; exact ⟨rfl, rfl⟩) | cases e
theorem aaX {K : PySem.W.Frag} {H : Hp} {al : Al} : ∀ {ds : List D} {xs vs : List V}, bx K H al ds xs → qD ds = some vs → xs = vs ∧ vs.all flatV = true
  | _, _, _, .nil, e => by cases e; exact ⟨rfl, rfl⟩
  | _, _, _, .cons q qs, e => by
    simp only [qD] at e
    obtain ⟨v, e1, e2⟩ := Option.bind_eq_some_iff.mp e
    obtain ⟨vs, e3, e4⟩ := Option.map_eq_some_iff.mp e2
    cases e4
    obtain ⟨rfl, f1⟩ := ac9 q e1
    obtain ⟨rfl, f2⟩ := aaX qs e3
    exact ⟨rfl, by rw [List.all_cons, f1, f2]; rfl⟩
def inB (h : AH) (d : D) : D → Option Bool
  | .str z => match d with
    | .str ⟨⟨[c]⟩⟩ => some (decide (c ∈ z.cps.toList))
    | _ => none
  | .tup es => (toV d).bind fun v => (qD es).map fun vs => inV v vs
  | .lst es => (toV d).bind fun v => (qD es).map fun vs => inV v vs
  | _ => none
def uo : O2 := fun d e h => (inB h d e).map fun b => (.bl b, h)
def uw : O2 := fun d e h => (inB h d e).map fun b => (.bl (!b), h)
theorem aaY {K : PySem.W.Frag} {H : Hp} {al : Al} {d : D} {x : V} {es : List D} {ys : List V} {b : Bool} (p : Rp K H al d x) (q : bx K H al es ys) (z : ((toV d).bind fun v => (qD es).map fun vs => inV v vs) = some b) : flatV x = true ∧ ys.all flatV = true ∧ inV x ys = b := by
  obtain ⟨v, e1, e2⟩ := Option.bind_eq_some_iff.mp z
  obtain ⟨vs, e3, e4⟩ := Option.map_eq_some_iff.mp e2
  obtain ⟨rfl, f1⟩ := ac9 p e1
  obtain ⟨rfl, f2⟩ := aaX q e3
  exact ⟨f1, f2, e4⟩
theorem aew : OpR X (compareOp .In) (r2 X.K uo) := by
  rintro pins s σ H x y v u Q I rx ry ⟨d, e, al, h, r, p, q, po⟩
  unfold uo at po
  cases z : inB h d e with
  | none => rw [z] at po; exact False.elim po
  | some b =>
    rw [z] at po
    cases q with
    | str w =>
      simp only [inB] at z
      split at z
      · cases z
        cases p
        exact op_in_sign pins s σ H _ _ v u Q I rx ry ⟨_, w, rfl, rfl, po _ _ _ .refl r (.bl _)⟩
      · cases z
    | tup sq q =>
      simp only [inB] at z
      obtain ⟨f1, f2, rfl⟩ := aaY p q z
      exact op_in_seq pins s σ H _ _ v u Q I rx ry ⟨_, _, rfl, .inr sq, f1, f2, po _ _ _ .refl r (.bl _)⟩
    | lst sq q =>
      simp only [inB] at z
      obtain ⟨f1, f2, rfl⟩ := aaY p q z
      exact op_in_seq pins s σ H _ _ v u Q I rx ry ⟨_, _, rfl, .inl sq.sq, f1, f2, po _ _ _ .refl r (.bl _)⟩
    | _ => simp [inB] at z
end
end PD
namespace PD
open PySem PySem.Spec PyProof.Rows L2
section
variable {X : Cx} {W : WX} {K : PySem.W.Frag} {H : Hp} {al : Al} {h : AH}
def fJ : ON
  | [.str x], h => if x.length ≤ 16777216 then some (.int (x.length : Nat), h) else none
  | [.lst ds], h => some (.int (ds.length : Nat), h)
  | [.dB ds], h => some (.int (ds.length : Nat), h)
  | [.tup ds], h => some (.int (ds.length : Nat), h)
  | [.ref n], h => match h[n]? with
    | some (.lst ds) => some (.int (ds.length : Nat), h)
    | some (.dict kvs) => some (.int (kvs.length : Nat), h)
    | _ => none
  | _, _ => none
theorem sO : CallR X (.builtin "len") (rN X.K fJ) := by
  have hs : sizeLine = 16777216 := sizeLine_eq
  rintro pins s σ H xs us Q I rv ⟨ds, al, h, r, p, po⟩
  cases p with
  | nil => exact False.elim po
  | cons q qs =>
    cases qs with
    | cons _ _ => cases q <;> exact False.elim po
    | nil =>
      cases q with
      | str x =>
        simp only [fJ] at po
        split at po
        · rename_i hl
          exact call_len_str pins s σ H _ us Q I rv ⟨x, rfl, by rw [hs]; exact hl, po _ _ _ .refl r (.int _)⟩
        · exact False.elim po
      | lst sq q => exact call_len_seq pins s σ H _ us Q I rv ⟨_, _, rfl, .inl sq.sq, by rw [← q.length]; exact po _ _ _ .refl r (.int _)⟩
      | dB sq q => exact call_len_seq pins s σ H _ us Q I rv ⟨_, _, rfl, .inl sq.sq, by rw [← q.length]; exact po _ _ _ .refl r (.int _)⟩
      | tup sq q => exact call_len_seq pins s σ H _ us Q I rv ⟨_, _, rfl, .inr sq, by rw [← q.length]; exact po _ _ _ .refl r (.int _)⟩
      | ref z =>
        obtain ⟨c, hc, ok⟩ := r.cell z
        simp only [fJ, hc] at po
        cases c with
        | lst ds =>
          obtain ⟨vs, e, q⟩ := ok
          exact call_len_seq pins s σ H _ us Q I rv ⟨_, _, rfl, .inl (SqL.of e), by rw [← q.length]; exact po _ _ _ .refl r (.int _)⟩
        | dict kvs =>
          obtain ⟨ws, e, k, q⟩ := ok
          have hl : ws.length = kvs.length := by simpa using congrArg List.length k
          exact call_lenD pins s σ H _ us Q I rv ⟨_, ws, rfl, e, by rw [hl]; exact po _ _ _ .refl r (.int _)⟩
        | ins _ _ => exact False.elim po
        | jE _ => exact False.elim po
      | _ => exact False.elim po
theorem bx.atI {ds : List D} {vs : List V} {i : Int} {d : D} (q : bx K H al ds vs) (e : L2.atI ds i = some d) : ∃ v, L2.atI vs i = some v ∧ Rp K H al d v := by
  unfold L2.atI at e ⊢
  rw [← q.length]
  cases z : ixN ds.length i with
  | none => rw [z] at e; cases e
  | some j =>
    rw [z] at e
    exact q.get e
def lY : O2
  | .lst ds, .int i, h => (L2.atI ds i).map fun d => (d, h)
  | .dB ds, .int i, h => (L2.atI ds i).map fun d => (d, h)
  | .tup ds, .int i, h => (L2.atI ds i).map fun d => (d, h)
  | .str z, .int i, h => if z.length ≤ 16777216 then (L2.atI z.cps.toList i).map fun c => (.str ⟨#[c]⟩, h) else none
  | .ref n, .int i, h => match h[n]? with
    | some (.lst ds) => (L2.atI ds i).map fun d => (d, h)
    | _ => none
  | _, _, _ => none
theorem ahJ : IxR X (r2 X.K lY) := by
  have hs : sizeLine = 16777216 := sizeLine_eq
  rintro value slice pins s σ H x y v u Q I rx ry ⟨d, e, al, h, r, p, q, po⟩ hsl
  cases q with
  | int i =>
    cases p with
    | lst sq q =>
      simp only [lY] at po
      cases z : L2.atI _ i with
      | none => rw [z] at po; exact False.elim po
      | some d =>
        rw [z] at po
        obtain ⟨w, e1, e2⟩ := q.atI z
        exact ix_list value slice pins s σ H _ _ v u Q I rx ry ⟨_, _, i, w, rfl, rfl, sq.sq, e1, po _ _ _ .refl r e2⟩ hsl
    | dB sq q =>
      simp only [lY] at po
      cases z : L2.atI _ i with
      | none => rw [z] at po; exact False.elim po
      | some d =>
        rw [z] at po
        obtain ⟨w, e1, e2⟩ := q.atI z
        exact ix_list value slice pins s σ H _ _ v u Q I rx ry ⟨_, _, i, w, rfl, rfl, sq.sq, e1, po _ _ _ .refl r e2⟩ hsl
    | tup sq q =>
      simp only [lY] at po
      cases z : L2.atI _ i with
      | none => rw [z] at po; exact False.elim po
      | some d =>
        rw [z] at po
        obtain ⟨w, e1, e2⟩ := q.atI z
        exact ix_tup value slice pins s σ H _ _ v u Q I rx ry ⟨_, _, i, w, rfl, rfl, sq, e1, po _ _ _ .refl r e2⟩ hsl
    | str w =>
      simp only [lY] at po
      split at po
      · rename_i hl
        cases z : L2.atI w.cps.toList i with
        | none => rw [z] at po; exact False.elim po
        | some c =>
          rw [z] at po
          exact ix_str value slice pins s σ H _ _ v u Q I rx ry ⟨w, i, c, rfl, rfl, by rw [hs]; exact hl, z, po _ _ _ .refl r (.str _)⟩ hsl
      · exact False.elim po
    | ref ea =>
      obtain ⟨c, hc, ok⟩ := r.cell ea
      simp only [lY, hc] at po
      cases c with
      | lst ds =>
        obtain ⟨vs, e, q⟩ := ok
        dsimp only at po
        cases z : L2.atI ds i with
        | none => rw [z] at po; exact False.elim po
        | some d =>
          rw [z] at po
          obtain ⟨w, e1, e2⟩ := q.atI z
          exact ix_list value slice pins s σ H _ _ v u Q I rx ry ⟨_, _, i, w, rfl, rfl, SqL.of e, e1, po _ _ _ .refl r e2⟩ hsl
      | _ => exact False.elim po
    | _ => exact False.elim po
  | _ => cases p <;> exact False.elim po
abbrev MO := En → AH → Res (Option Int)
def oh : MO := fun _ h => .ok none h
def fO (f : ME) : MO := fun e h => (f e h).bind fun d h1 => match d with
  | .int i => .ok (some i) h1
  | _ => .stuck
def rdO (K : PySem.W.Frag) (W : WX) (f : MO) : TO := fun st H Q => ∃ e al h, HR K H al h ∧ iG K H al e st ∧ bJ K (fun _ _ (b c : Option Int) => b = c) H al (fun c d H' => W c d st H') Q (f e h)
theorem _root_.L2.PO.weak {e : Option Expr} {t t' : TO} (h : PO X e t) (i : ∀ σ H Q, t' σ H Q → t σ H Q) : PO X e t' := ⟨fun pins s σ H Q I q => h.run pins s σ H Q I (i _ _ _ q)⟩
theorem ZF : PO X none (rdO X.K W oh) := po_none.weak fun σ H Q ⟨e, al, h, r, re, p⟩ => p none H al .refl r rfl
theorem wM {a : Expr} {fa : ME} (ha : PE X a (rd X.K W fa)) : PO X (some a) (rdO X.K W (fO fa)) := (po_some ha).weak fun σ H Q ⟨e, al, h, r, re, p⟩ => by
  refine ⟨e, al, h, r, re, (bJ.bind p).mono ?_⟩
  rintro v H1 ⟨d, bf, h1, l, r1, q, p1⟩
  cases q with
  | int i => exact ⟨i, rfl, p1 _ _ _ .refl r1 rfl⟩
  | _ => exact p1.elim
def cutD {α : Type} (xs : List α) (lo hi : Option Int) : List α := (xs.drop (HT.sIx xs.length 0 lo)).take (HT.sIx xs.length xs.length hi - HT.sIx xs.length 0 lo)
def yj : D → Option Int → Option Int → AH → Option (D × AH)
  | .str z, lo, hi, h => if z.length ≤ 16777216 then some (.str (cutS z lo hi), h) else none
  | .lst ds, lo, hi, h => some (.lst (cutD ds lo hi), h)
  | .dB ds, lo, hi, h => some (.lst (cutD ds lo hi), h)
  | .tup ds, lo, hi, h => some (.tup (cutD ds lo hi), h)
  | .ref n, lo, hi, h => match h[n]? with
    | some (.lst ds) => some (.lst (cutD ds lo hi), h)
    | _ => none
  | _, _, _, _ => none
theorem bx.cut {ds : List D} {vs : List V} (q : bx K H al ds vs) (lo hi : Option Int) : bx K H al (cutD ds lo hi) (cutV vs lo hi) := by
  unfold cutD cutV
  rw [← q.length]
  exact (q.drop _).take _
def rSl (K : PySem.W.Frag) : V → Option Int → Option Int → Hp → VK → Prop := fun x lo hi H Q => ∃ d al h, HR K H al h ∧ Rp K H al d x ∧ cO K H al Q (yj d lo hi h)
theorem ak2 : SlR X (rSl X.K) := by
  have hs : sizeLine = 16777216 := sizeLine_eq
  rintro pins s σ H x v vl vu lo hi sl Q I rx hsl pl pu ⟨d, al, h, r, p, po⟩
  cases p with
  | str z =>
    simp only [yj] at po
    split at po
    · rename_i hl
      exact sl_str pins s σ H _ v vl vu lo hi sl Q I rx hsl pl pu ⟨z, rfl, by rw [hs]; exact hl, po _ _ _ .refl r (.str _)⟩
    · exact False.elim po
  | lst sq q => exact sl_list pins s σ H _ v vl vu lo hi sl Q I rx hsl pl pu ⟨_, _, rfl, sq.sq, fun p n => cO.oJ r (q.cut lo hi) po n⟩
  | dB sq q => exact sl_list pins s σ H _ v vl vu lo hi sl Q I rx hsl pl pu ⟨_, _, rfl, sq.sq, fun p n => cO.oJ r (q.cut lo hi) po n⟩
  | tup sq q =>
    refine sl_tupA pins s σ H _ v vl vu lo hi sl Q I rx hsl pl pu ⟨_, _, rfl, sq, fun w => ?_, fun _ p n => cO.OJ r (q.cut lo hi) po n⟩
    refine po _ _ _ .refl r ?_
    have e : ∀ {α : Type} {xs : List α}, HT.sIx xs.length 0 lo = 0 ∧ HT.sIx xs.length xs.length hi = xs.length → cutD xs lo hi = xs := fun h => by
      unfold cutD
      rw [h.1, h.2]
      simp
    rw [← q.length] at w
    rw [e w]
    exact .tup sq q
  | ref ea =>
    obtain ⟨c, hc, ok⟩ := r.cell ea
    simp only [yj, hc] at po
    cases c with
    | lst ds =>
      obtain ⟨vs, e, q⟩ := ok
      exact sl_list pins s σ H _ v vl vu lo hi sl Q I rx hsl pl pu ⟨_, _, rfl, SqL.of e, fun p n => cO.oJ r (q.cut lo hi) po n⟩
    | _ => exact False.elim po
  | _ => exact False.elim po
def ni (fa : ME) (lo hi : MO) : ME := fun e h => (fa e h).bind fun d h1 => (lo e h1).bind fun l h2 => (hi e h2).bind fun u h3 => El (yj d l u h3)
theorem Qu {a : Expr} {lo hi : Option Expr} {fa : ME} {fl fu : MO} {p2 pos : Pos} (ha : PE X a (rd X.K W fa)) (hl : PO X lo (rdO X.K W fl)) (hh : PO X hi (rdO X.K W fu)) : PE X (.Subscript a (.Slice lo hi none p2) pos) (rd X.K W (ni fa fl fu)) :=
  (pe_slice ak2 ha hl hh).weak fun σ H Q ⟨e, al, h, r, re, p⟩ => by
    refine ⟨e, al, h, r, re, (bJ.bind p).mono ?_⟩
    rintro v H1 ⟨d, bf, h1, l1, r1, q, p1⟩
    refine ⟨e, bf, h1, r1, re.mono r l1, (bJ.bind p1).mono ?_⟩
    rintro lo' H2 ⟨d2, dD, h2, l2, r2, q2, p2⟩
    subst q2
    refine ⟨e, dD, h2, r2, (re.mono r l1).mono r1 l2, (bJ.bind p2).mono ?_⟩
    rintro hi' H3 ⟨d3, Rb, h3, l3, r3, q3, p3⟩
    subst q3
    exact ⟨d, Rb, h3, r3, (q.mono r1 l2).mono r2 l3, cO.of p3⟩
def cR : List D → Option (List Bool)
  | [] => some []
  | .bl b :: ds => (cR ds).map (b :: ·)
  | _ => none
def strsOf : List D → Option (List Str)
  | [] => some []
  | .str i :: ds => (strsOf ds).map (i :: ·)
  | _ => none
theorem FJ : ∀ {ds : List D} {vs : List V} {bs : List Bool}, bx K H al ds vs → cR ds = some bs → vs = bs.map V.bl
  | _, _, _, .nil, e => by cases e; rfl
  | _, _, _, .cons q qs, e => by
    cases q with
    | bl b =>
      simp only [cR] at e
      obtain ⟨cs, e1, e2⟩ := Option.map_eq_some_iff.mp e
      cases e2
      rw [FJ qs e1]
      rfl
    | _ => cases e
theorem aaZ : ∀ {ds : List D} {vs : List V} {bs : List Str}, bx K H al ds vs → strsOf ds = some bs → vs = bs.map V.str
  | _, _, _, .nil, e => by cases e; rfl
  | _, _, _, .cons q qs, e => by
    cases q with
    | str b =>
      simp only [strsOf] at e
      obtain ⟨cs, e1, e2⟩ := Option.map_eq_some_iff.mp e
      cases e2
      rw [aaZ qs e1]
      rfl
    | _ => cases e
def lZ (o : List D → AH → Option (D × AH)) : ON
  | [.lst ds], h => o ds h
  | _, _ => none
theorem aa0 {o : List D → AH → Option (D × AH)} {xs : List V} {Q : VK} (p : rN K (lZ o) xs H Q) : ∃ a ds vs al h, xs = [.ref a] ∧ HR K H al h ∧ SqL K H a vs ∧ bx K H al ds vs ∧ cO K H al Q (o ds h) := by
  obtain ⟨ds, al, h, r, p, po⟩ := p
  cases p with
  | nil => exact False.elim po
  | cons q qs =>
    cases qs with
    | cons _ _ => cases q <;> exact False.elim po
    | nil =>
      cases q with
      | lst sq q => exact ⟨_, _, _, al, h, rfl, r, sq.sq, q, po⟩
      | _ => exact False.elim po
def allM : ON := lZ fun ds h => (cR ds).map fun bs => (.bl (bs.all id), h)
def anyM : ON := lZ fun ds h => (cR ds).map fun bs => (.bl (bs.any id), h)
theorem O6 (hc : X.calm = true) : CallR X (.builtin "all") (rN X.K allM) := by
  rintro pins s σ H xs us Q I rv p
  obtain ⟨a, ds, vs, al, h, rfl, r, sq, q, po⟩ := aa0 p
  cases z : cR ds with
  | none => rw [z] at po; exact False.elim po
  | some bs =>
    rw [z] at po
    rw [FJ q z] at sq
    exact cr_all hc pins s σ H _ us Q I rv ⟨a, bs, rfl, sq, po _ _ _ .refl r (.bl _)⟩
theorem ajv (hc : X.calm = true) : CallR X (.builtin "any") (rN X.K anyM) := by
  rintro pins s σ H xs us Q I rv p
  obtain ⟨a, ds, vs, al, h, rfl, r, sq, q, po⟩ := aa0 p
  cases z : cR ds with
  | none => rw [z] at po; exact False.elim po
  | some bs =>
    rw [z] at po
    rw [FJ q z] at sq
    exact cr_any hc pins s σ H _ us Q I rv ⟨a, bs, rfl, sq, po _ _ _ .refl r (.bl _)⟩
def ju : ON
  | [.lst ds], h => some (.lst ds, h)
  | [.dB ds], h => some (.lst ds, h)
  | [.tup ds], h => some (.lst ds, h)
  | [.ref n], h => match h[n]? with
    | some (.lst ds) => some (.lst ds, h)
    | _ => none
  | _, _ => none
theorem ahK : CallR X (.type "list") (rN X.K ju) := by
  rintro pins s σ H xs us Q I rv ⟨ds, al, h, r, p, po⟩
  cases p with
  | nil => exact False.elim po
  | cons q qs =>
    cases qs with
    | cons _ _ => cases q <;> exact False.elim po
    | nil =>
      cases q with
      | lst sq q => exact call_list_of pins s σ H _ us Q I rv ⟨_, _, rfl, .inl sq.sq, fun l n => cO.oJ r q po n⟩
      | dB sq q => exact call_list_of pins s σ H _ us Q I rv ⟨_, _, rfl, .inl sq.sq, fun l n => cO.oJ r q po n⟩
      | tup sq q => exact call_list_of pins s σ H _ us Q I rv ⟨_, _, rfl, .inr sq, fun l n => cO.oJ r q po n⟩
      | ref e =>
        simp only [ju] at po
        split at po
        · rename_i b hb
          obtain ⟨ws, hw, q⟩ := r.lst e hb
          exact call_list_of pins s σ H _ us Q I rv ⟨_, _, rfl, .inl (.inl (.inl hw)), fun l n => cO.oJ r q po n⟩
        · exact False.elim po
      | _ => exact False.elim po
def jj : ON
  | [.int i], h => some (.int i, h)
  | [.bl b], h => some (.int (if b then 1 else 0), h)
  | _, _ => none
theorem abS : CallR X (.type "int") (rN X.K jj) := by
  rintro pins s σ H xs us Q I rv ⟨ds, al, h, r, p, po⟩
  cases p with
  | nil => exact False.elim po
  | cons q qs =>
    cases qs with
    | cons _ _ => cases q <;> exact False.elim po
    | nil =>
      cases q with
      | int i => exact call_int1 pins s σ H _ us Q I rv (.inl ⟨i, rfl, po _ _ _ .refl r (.int _)⟩)
      | bl b => exact call_int1 pins s σ H _ us Q I rv (.inr ⟨b, rfl, po _ _ _ .refl r (.int _)⟩)
      | _ => exact False.elim po
end
end PD
namespace PD
open PySem PySem.Spec PyProof.Rows L2
section
variable {X : Cx} {W : WX} {K : PySem.W.Frag} {H : Hp} {al : Al} {h : AH}
def Am : D → AH → Option (String ⊕ Str)
  | .non, _ => some (.inl "NoneType")
  | .bl _, _ => some (.inl "bool")
  | .int _, _ => some (.inl "int")
  | .str _, _ => some (.inl "str")
  | .tup _, _ => some (.inl "tuple")
  | .lst _, _ => some (.inl "list")
  | .dB _, _ => some (.inl "list")
  | .obj c _, _ => some (.inr c)
  | .ref n, h => match h[n]? with
    | some (.lst _) => some (.inl "list")
    | some (.dict _) => some (.inl "dict")
    | some (.ins c _) => some (.inr c)
    | some (.jE _) => none
    | none => none
  | _, _ => none
structure Isa where
  oo : Str → Str → Option Bool
  to : String → Str → Option Bool
  ot : Str → String → Option Bool
structure Isa.Ok (I : Isa) (K : PySem.W.Frag) : Prop where
  oo : ∀ c g b, I.oo c g = some b → PySem.W.kitOne K (.ref (He.ga K c)) (.ref (He.ga K g)) = some b ∧ GB.za K (He.ga K c) = true ∧ Cls K (He.ga K c)
  to : ∀ t g b, I.to t g = some b → PySem.W.kitOne K (.type t) (.ref (He.ga K g)) = some b
  ot : ∀ c n b, I.ot c n = some b → PySem.W.kitOne K (.ref (He.ga K c)) (.type n) = some b ∧ GB.za K (He.ga K c) = true ∧ Cls K (He.ga K c)
def Qv (I : Isa) : Option (String ⊕ Str) → D → Option Bool
  | some (.inl t), .ty n => kitB t n
  | some (.inl t), .glo g => I.to t g
  | some (.inr c), .glo g => I.oo c g
  | some (.inr c), .ty n => I.ot c n
  | _, _ => none
def rK (I : Isa) : ON
  | [d, c], h => (Qv I (Am d h) c).map fun b => (.bl b, h)
  | _, _ => none
theorem aa2 {d : D} {x : V} {t : String} (r : HR K H al h) (p : Rp K H al d x) (e : Am d h = some (.inl t)) : TyX K H x (.type t) := by
  cases p with
  | non => cases e; exact .base .non
  | bl b => cases e; exact .base (.bl b)
  | int i => cases e; exact .base (.int i)
  | str x => cases e; exact .base (.str x)
  | ty n => cases e
  | glo x => cases e
  | tup s q =>
    cases e
    rcases s with (s | ⟨o, s⟩) | ⟨o, its, n, e1, e2, _⟩
    · exact .base (.tup s)
    · exact .fTuple s
    · exact .kTuple e1 e2
  | lst s q => cases e; exact .base (.lst s.1)
  | dB s q =>
    cases e
    rcases s with ⟨o, s, _⟩ | ⟨o, its, n, e1, e2, _⟩
    · exact .base (.frz s)
    · exact .kList e1 e2
  | obj _ _ _ => cases e
  | ref z =>
    obtain ⟨c, hc, ok⟩ := r.cell z
    simp only [Am, hc] at e
    cases c with
    | lst ds =>
      cases e
      obtain ⟨vs, e1, _⟩ := ok
      exact .base (.lst e1)
    | dict kvs =>
      cases e
      obtain ⟨vs, e1, _⟩ := ok
      exact .base (.dK e1)
    | ins c fs => cases e
    | jE kvs => cases e
theorem aa3 {d : D} {x : V} {c : Str} (r : HR K H al h) (p : Rp K H al d x) (e : Am d h = some (.inr c)) (hi : GB.za K (He.ga K c) = true) (hc : Cls K (He.ga K c)) : TyX K H x (.ref (He.ga K c)) := by
  cases p with
  | obj e1 _ _ => cases e; exact GB.aaP hi hc e1
  | ref z =>
    obtain ⟨c', hc', ok⟩ := r.cell z
    simp only [Am, hc'] at e
    cases c' with
    | ins c fs =>
      cases e
      obtain ⟨dx, gs, e1, _⟩ := ok
      exact GB.aaP hi hc e1
    | _ => cases e
  | _ => cases e
theorem DK {I : Isa} (ok : I.Ok X.K) : CallR X (.builtin "isinstance") (rN X.K (rK I)) := by
  rintro pins s σ H xs us Q Iv rv ⟨ds, al, h, r, p, po⟩
  match ds, p with
  | [], .nil => exact False.elim po
  | [_], .cons _ .nil => exact False.elim po
  | _ :: _ :: _ :: _, .cons _ (.cons _ (.cons _ _)) => exact False.elim po
  | [d, c], .cons q (.cons q2 .nil) =>
    simp only [rK] at po
    cases z : Qv I (Am d h) c with
    | none => rw [z] at po; exact False.elim po
    | some b =>
      rw [z] at po
      have fin : ∀ t u, ClsV _ u → TyX X.K H _ t → PySem.W.kitOne X.K t u = some b → _ := fun t u h1 h2 h3 => call_isi pins s σ H _ us Q Iv rv ⟨_, _, t, u, b, rfl, h1, h2, h3, po _ _ _ .refl r (.bl _)⟩
      cases e : Am d h with
      | none => rw [e] at z; cases c <;> cases z
      | some y =>
        rw [e] at z
        cases y with
        | inl t =>
          cases q2 with
          | ty n => exact fin _ _ (.ty n) (aa2 r q e) (kit_ty z)
          | glo g => exact fin _ _ (.own _) (aa2 r q e) (ok.to _ _ _ z)
          | _ => cases z
        | inr c' =>
          cases q2 with
          | ty n =>
            obtain ⟨z1, z2, z3⟩ := ok.ot _ _ _ z
            exact fin _ _ (.ty n) (aa3 r q e z2 z3) z1
          | glo g =>
            obtain ⟨z1, z2, z3⟩ := ok.oo _ _ _ z
            exact fin _ _ (.own _) (aa3 r q e z2 z3) z1
          | _ => cases z
abbrev OM := D → List D → AH → Option (D × AH)
def rM (K : PySem.W.Frag) (o : OM) : V → List V → Hp → VK → Prop := fun x xs H Q => ∃ d ds al h, HR K H al h ∧ Rp K H al d x ∧ bx K H al ds xs ∧ cO K H al Q (o d ds h)
def isT : String → D → AH → Bool
  | "list", .lst _, _ => true
  | "list", .dB _, _ => true
  | "str", .str _, _ => true
  | T, .ref n, h => match h[n]? with
    | some (.lst _) => T == "list"
    | some (.dict _) => T == "dict"
    | _ => false
  | _, _, _ => false
theorem ahL {T : String} {d : D} {x : V} (r : HR K H al h) (p : Rp K H al d x) (e : isT T d h = true) : tyV K T x H := by
  unfold isT at e
  split at e
  · cases p with | lst s q => exact .inl ⟨rfl, _, s.sq⟩
  · cases p with | dB s q => exact .inl ⟨rfl, _, s.sq⟩
  · cases p with | str x => rfl
  · cases p with
    | ref z =>
      obtain ⟨c, hc, ok⟩ := r.cell z
      rw [hc] at e
      cases c with
      | lst ds =>
        obtain ⟨vs, e1, _⟩ := ok
        exact .inl ⟨beq_iff_eq.mp e, vs, SqL.of e1⟩
      | dict kvs =>
        obtain ⟨vs, e1, _⟩ := ok
        exact .inr (.inr (.inl ⟨beq_iff_eq.mp e, .inl ⟨vs, e1⟩⟩))
      | ins c fs => cases e
      | jE kvs => cases e
  · cases e
def j8 (T : String) (o : OM) (fo : ME) (fa : MA) : ME := fun e h => (fo e h).bind fun d h1 => if isT T d h1 = true then (fa e h1).bind fun ds h2 => El (o d ds h2) else .stuck
theorem aex {o e : Expr} {es : List Expr} {fo : ME} {fa : MA} {name : Str} {apos cpos : Pos} {T id : String} {om : OM} (pa : PlainAttrs T) (slot : Slot T name id) (hty : typeOf (.builtin id) = pure (.type "method_descriptor")) (hm : MtR X id (rM X.K om)) (ho : PE X o (rd X.K W fo)) (ha : PA X (e :: es) (mX X.K W fa))
    (hbase : attributeBase o name X.env (eval o X.env) = eval o X.env := by rfl)
    (hfew : ((backTo cpos (starEach (e :: es) X.env)).all (fun x => !x.1) && (backToKw cpos (keywordEach [] X.env)).all (fun x => x.1.isSome)
      && decide ((e :: es).length + ([] : List Keyword).length + (if ([] : List Keyword).isEmpty then 0 else 1) < 30)) = true := by rfl)
    (hline : (apos.endLine == cpos.line) = true := by rfl) (hs : starEach (e :: es) X.env = (false, eval e X.env) :: starEach es X.env := by rfl) (hplain : (backTo cpos (starEach es X.env)).any (·.1) = false := by rfl) :
    PE X (.Call (.Attribute o name apos) (e :: es) [] cpos) (rd X.K W (j8 T om fo fa)) :=
  (pe_bm pa slot hty hm ho (GB.PA.cl ha) hbase hfew hline hs hplain).weak fun σ H Q ⟨en, al, h, r, re, p⟩ => by
    refine ⟨en, al, h, r, re, (bJ.bind p).mono ?_⟩
    rintro v H1 ⟨d, bf, h1, l1, r1, q, p1⟩
    split at p1
    · rename_i hT
      refine ⟨ahL r1 q hT, _, ⟨en, bf, h1, r1, re.mono r l1, bJ.bind p1⟩, ?_⟩
      rintro vs H2 ⟨ds, dD, h2, l2, r2, q2, p2⟩
      exact ⟨d, ds, dD, h2, r2, q.mono r1 l2, q2, cO.of p2⟩
    · exact p1.elim
def FQ : OM
  | .ref n, [y], h => match h[n]? with
    | some (.lst xs) => if xs.length < 16777216 then some (.non, h.set n (.lst (xs ++ [y]))) else none
    | _ => none
  | _, _, _ => none
theorem m_append : MtR X "list.append" (rM X.K FQ) := by
  have hs : sizeLine = 16777216 := sizeLine_eq
  rintro pins s σ H x xs v us Q I rx rv ⟨d, ds, al, h, r, p, q, po⟩
  match ds, q with
  | [], .nil => cases p <;> exact False.elim po
  | _ :: _ :: _, .cons _ (.cons _ _) => cases p <;> exact False.elim po
  | [y], .cons q .nil =>
    cases p with
    | ref z =>
      obtain ⟨c, hc, ok⟩ := r.cell z
      simp only [FQ, hc] at po
      cases c with
      | lst ys =>
        obtain ⟨vs, e1, qs⟩ := ok
        dsimp only at po
        split at po
        · rename_i hl
          refine mt_append pins s σ H _ _ v us Q I rx rv ⟨_, vs, _, rfl, rfl, e1, by rw [← qs.length, hs]; exact hl, ?_⟩
          obtain ⟨r3, l3⟩ := r.put (o := .lst (vs ++ [_])) (c := .lst (ys ++ [y])) z fun H' aQ l' e' => ⟨_, e', (qs.mono r l').append (.cons (q.mono r l') .nil)⟩
          exact po _ _ _ l3 r3 .non
        · exact False.elim po
      | _ => exact False.elim po
    | _ => exact False.elim po
theorem aey {o e : Expr} {fo : ME} {fa : MA} {apos cpos : Pos} (ho : PE X o (rd X.K W fo)) (ha : PA X [e] (mX X.K W fa))
    (hbase : attributeBase o "append" X.env (eval o X.env) = eval o X.env := by rfl)
    (hfew : ((backTo cpos (starEach [e] X.env)).all (fun x => !x.1) && (backToKw cpos (keywordEach [] X.env)).all (fun x => x.1.isSome)
      && decide ([e].length + ([] : List Keyword).length + (if ([] : List Keyword).isEmpty then 0 else 1) < 30)) = true := by rfl)
    (hline : (apos.endLine == cpos.line) = true := by rfl) (hs : starEach [e] X.env = [(false, eval e X.env)] := by rfl) (hplain : (backTo cpos (starEach [] X.env)).any (·.1) = false := by rfl) :
    PE X (.Call (.Attribute o "append" apos) [e] [] cpos) (rd X.K W (j8 "list" FQ fo fa)) :=
  aex PySem.F.plainAttrs_list PySem.F.slot_list_append PySem.F.type_list_append m_append ho ha hbase hfew hline hs hplain
def joinM : OM
  | .str a, [.lst ds], h => match strsOf ds with
    | some ys => if (ys.map (·.length)).sum + ys.length * a.length ≤ 16777216 then some (.str (Txt.join a ys), h) else none
    | none => none
  | _, _, _ => none
theorem m_join : MtR X "str.join" (rM X.K joinM) := by
  rintro pins s σ H x xs v us Q I rx rv ⟨d, ds, al, h, r, p, q, po⟩
  match ds, q with
  | [], .nil => cases p <;> exact False.elim po
  | y :: _ :: _, .cons _ (.cons _ _) => cases p <;> cases y <;> exact False.elim po
  | [y], .cons q .nil =>
    cases p with
    | str a =>
      cases q with
      | lst sq q =>
        simp only [joinM] at po
        split at po
        · rename_i ys hy
          split at po
          · rename_i hl
            have e := aaZ q hy
            subst e
            exact mt_join pins s σ H _ _ v us Q I rx rv ⟨a, _, ys, rfl, rfl, .inl sq.sq, hl, po _ _ _ .refl r (.str _)⟩
          · exact False.elim po
        · exact False.elim po
      | _ => exact False.elim po
    | _ => cases q <;> exact False.elim po
theorem ahM {o e : Expr} {fo : ME} {fa : MA} {apos cpos : Pos} (ho : PE X o (rd X.K W fo)) (ha : PA X [e] (mX X.K W fa))
    (hbase : attributeBase o "join" X.env (eval o X.env) = eval o X.env := by rfl)
    (hfew : ((backTo cpos (starEach [e] X.env)).all (fun x => !x.1) && (backToKw cpos (keywordEach [] X.env)).all (fun x => x.1.isSome)
      && decide ([e].length + ([] : List Keyword).length + (if ([] : List Keyword).isEmpty then 0 else 1) < 30)) = true := by rfl)
    (hline : (apos.endLine == cpos.line) = true := by rfl) (hs : starEach [e] X.env = [(false, eval e X.env)] := by rfl) (hplain : (backTo cpos (starEach [] X.env)).any (·.1) = false := by rfl) :
    PE X (.Call (.Attribute o "join" apos) [e] [] cpos) (rd X.K W (j8 "str" joinM fo fa)) :=
  aex PySem.F.plainAttrs_str PySem.F.slot_str_join PySem.F.type_str_join m_join ho ha hbase hfew hline hs hplain
def jQ (n : Nat) (i : Int) (v : D) (h : AH) : Option AH := match h[n]? with
  | some (.lst xs) => (ixN xs.length i).map fun j => h.set n (.lst (xs.set j v))
  | _ => none
def jh (fo fi : ME) : MG := fun v e h => (fo e h).bind fun o h1 => (fi e h1).bind fun i h2 => match o, i with
  | .ref n, .int k => match jQ n k v h2 with
    | some h3 => .ok e h3
    | none => .stuck
  | _, _ => .stuck
end
end PD
namespace PD
open PySem PySem.Spec PyProof.Rows L2
section
variable {X : Cx} {W : WX} {K : PySem.W.Frag} {H : Hp} {al : Al} {h : AH}
structure KTab (K : PySem.W.Frag) (w : World) (x : Str) (tab : Str → Option (Option D)) : Prop where
  kd : ∃ es n, KDict K w (He.ga K x) es n
  hit : ∀ k d, tab k = some (some d) → ∃ u v, PySem.W.nsIn K (He.ga K x) k = some (some u) ∧ RelV v u ∧ ∀ H al, Rp K H al d v
  miss : ∀ k, tab k = some none → PySem.W.nsIn K (He.ga K x) k = some none
def vU (tab : Str → Option (Option D)) (k z : D) (h : AH) : Res D := match k with
  | .str k => match tab k with
    | some (some d) => .ok d h
    | some none => .ok z h
    | none => .stuck
  | _ => .stuck
def vW (tab : Str → Option (Option D)) (fk fz : ME) : ME := fun e h => (fk e h).bind fun k h1 => (fz e h1).bind fun z h2 => vU tab k z h2
theorem ahN {x : Str} {tab : Str → Option (Option D)} {e f : Expr} {fk fz : ME} {p apos cpos : Pos} (T : KTab X.K X.w x tab) (hg : Gl X x) (hmg : X.mg x = some (.ref (He.ga X.K x))) (he : PE X e (rd X.K W fk)) (hf : PE X f (rd X.K W fz)) (m : M2 X (.Name x p) "get" apos e f cpos) (hdb : (x == ("__debug__" : Str)) = false := by decide) :
    PE X (.Call (.Attribute (.Name x p) "get" apos) [e, f] [] cpos) (rd X.K W (vW tab fk fz)) :=
  (GB.afT (pe_glob (v := .ref (He.ga X.K x)) hg hmg rfl hdb) he hf m).weak fun σ H Q ⟨en, al, h, r, re, po⟩ => by
    obtain ⟨es, n, kd⟩ := T.kd
    refine ⟨_, es, n, rfl, kd, en, al, h, r, re, (bJ.bind po).mono ?_⟩
    rintro v H1 ⟨d, bf, h1, l1, r1, q, p1⟩
    refine ⟨en, bf, h1, r1, re.mono r l1, (bJ.bind p1).mono ?_⟩
    rintro z H2 ⟨d2, dD, h2, l2, r2, q2, p2⟩
    cases q with
    | str k =>
      simp only [vU] at p2
      split at p2
      · rename_i d3 hd
        obtain ⟨u, v, e1, e2, e3⟩ := T.hit k d3 hd
        exact ⟨k, rfl, .inl ⟨u, v, e1, e2, p2 _ _ _ .refl r2 (e3 _ _)⟩⟩
      · rename_i hd
        exact ⟨k, rfl, .inr ⟨T.miss k hd, p2 _ _ _ .refl r2 q2⟩⟩
      · exact p2.elim
    | _ => exact p2.elim
def wN (tab : Str → Option (Option D)) (k : D) (h : AH) : Res D := match k with
  | .str k => match tab k with
    | some (some d) => .ok d h
    | _ => .stuck
  | _ => .stuck
def wO (tab : Str → Option (Option D)) (fk : ME) : ME := fun e h => (fk e h).bind fun k h1 => wN tab k h1
theorem ajw {x : Str} {tab : Str → Option (Option D)} {e : Expr} {fk : ME} {p pos : Pos} (T : KTab X.K X.w x tab) (hg : Gl X x) (hmg : X.mg x = some (.ref (He.ga X.K x))) (he : PE X e (rd X.K W fk)) (hs : PlainIx e) (hdb : (x == ("__debug__" : Str)) = false := by decide) :
    PE X (.Subscript (.Name x p) e pos) (rd X.K W (wO tab fk)) :=
  (pe_ix ix_kdict (pe_glob (v := .ref (He.ga X.K x)) hg hmg rfl hdb) he hs).weak fun σ H Q ⟨en, al, h, r, re, po⟩ => by
    obtain ⟨es, n, kd⟩ := T.kd
    refine ⟨en, al, h, r, re, (bJ.bind po).mono ?_⟩
    rintro v H1 ⟨d, bf, h1, l1, r1, q, p1⟩
    cases q with
    | str k =>
      simp only [wN] at p1
      split at p1
      · rename_i d3 hd
        obtain ⟨u, v, e1, e2, e3⟩ := T.hit k d3 hd
        exact ⟨_, k, v, rfl, rfl, ⟨es, n, u, kd.at_, kd.lit, e1, e2⟩, p1 _ _ _ .refl r1 (e3 _ _)⟩
      · exact p1.elim
    | _ => exact p1.elim
def pX (i n : Nat) (fs : Str → Option (List D → AH → Res D)) (fa : MA) : ME := fun e h => match e[i]? with
  | some (some (.glo x)) => match fs x with
    | some m => (fa e h).bind fun ds h1 => if ds.length = n then m ds h1 else .stuck
    | none => .stuck
  | _ => .stuck
theorem af9 {i n : Nat} {y : Str} {fs : Str → Option (List D → AH → Res D)} {e : Expr} {es : List Expr} {fa : MA} {p pos : Pos} (c : ∀ x m, fs x = some m → lV X W (.ref (He.ga X.K x)) n [] m ∧ PySem.W.keepIn X.K (.ref (He.ga X.K x)) = true)
    (hN : X.N[i]? = some y) (hv : Vis X.env.scope y) (ha : PA X (e :: es) (mX X.K W fa)) (hdb : (y == ("__debug__" : Str)) = false := by decide) (hcd : (y == ("__classdict__" : Str)) = false := by decide)
    (he : starEach (e :: es) X.env = (false, eval e X.env) :: starEach es X.env := by rfl) (hpl : (backTo pos (starEach es X.env)).any (·.1) = false := by rfl) :
    PE X (.Call (.Name y p) (e :: es) [] pos) (rd X.K W (pX i n fs fa)) := by
  constructor
  rintro pins s σ H Q I ⟨en, al, h, r, re, po⟩
  unfold pX at po
  split at po
  · rename_i x hx
    split at po
    · rename_i m hm
      obtain ⟨cm, kp⟩ := c x m hm
      obtain ⟨v, hv1, q⟩ := re.2 i _ hx
      cases q
      refine wpAny_Call_Name_kw (thn ((pe_var hN hv hdb hcd).run pins s σ H (fun v H' => v = .ref (He.ga X.K x) ∧ H' = H) I ⟨_, hv1, rfl, rfl⟩) ?_)
      rintro u s1 ⟨v, H1, I1, rv, rfl, rfl⟩
      obtain rfl : u = Value.ref (He.ga X.K x) := rv
      refine PySem.W.callWith_K (h₀ := X.base) I1.ok.mod.kin kp (thn (ha.run pos pins s1 σ _ _ I1 ⟨en, al, h, r, re, bJ.bind po⟩) ?_) he hpl
      rintro us s2 ⟨vs, H2, I2, rvs, ds, dD, h2, l2, r2, q2, p2⟩
      refine ⟨I2.kIn, ?_⟩
      split at p2
      · rename_i hn
        exact cm pins s2 σ H2 us [] vs [] Q I2 rvs .nil (rvs.length.symm.trans (q2.length.symm.trans hn)) rfl ⟨ds, [], dD, h2, r2, q2, .nil, by rw [List.append_nil]; exact p2⟩
      · exact p2.elim
    · exact po.elim
  · exact po.elim
end
abbrev MX := List (Str × D) → AH → Option D
def rdX (K : PySem.W.Frag) (ok : Str → Prop) (a : Addr) (cls : Value) (d : Option Addr) (i : Nat) (g : MX) : TE := fun st H Q => ∃ c fs al h dd gs, ok c ∧ cls = .ref (He.ga K c) ∧ d = some dd ∧ st[i]? = some (some (.ref a)) ∧ HR K H al h ∧ H dd = some (.xd gs) ∧ dU K H al fs gs ∧
  ∃ x, g fs h = some x ∧ ∀ v H' aQ, Le H al H' aQ → HR K H' aQ h → Rp K H' aQ x v → Q v H'
theorem HR.ada {K : PySem.W.Frag} {H : Hp} {al : Al} {h : AH} {dd : Addr} {gs : List (Str × V)} (r : HR K H al h) (e : H dd = some (.xd gs)) : ¬ al.has dd := fun m => by
  rcases m with m | m
  · obtain ⟨n, e2⟩ := List.getElem?_of_mem m
    obtain ⟨c, _, q⟩ := r.cell e2
    cases c with
    | lst ds => obtain ⟨vs, q, _⟩ := q; rw [e] at q; cases q
    | dict kvs => obtain ⟨vs, q, _⟩ := q; rw [e] at q; cases q
    | ins c fs => obtain ⟨dx, gs, q, _⟩ := q; rw [e] at q; cases q
    | jE kvs => obtain ⟨o, ws, q, _⟩ := q; rw [e] at q; cases q
  · obtain ⟨vs, q⟩ := r.rs dd m
    rw [e] at q
    cases q
def xF (f : Str) : MX := fun fs _ => fs.lookup f
def abT (gs : List MX) : MX := fun fs h => (gs.mapM fun (g : MX) => g fs h).map D.tup
section
variable {X : Cx} {W : WX} {ok : Str → Prop} {a : Addr} {oe : Obj} {cls : Value} {d : Option Addr} {pn : List (Addr × Obj)} {i : Nat} {n f : Str} {pos p1 : Pos}
theorem afz (hT : ∀ c, ok c → XfC X.K (He.ga X.K c) ∧ PySem.W.findIn X.K (.ref (He.ga X.K c)) f = some none) (hz : Zc cls d oe) (hf : ∃ vs, oe.data = .fields vs) (hN : X.N[i]? = some n) (hv : Vis X.env.scope n)
    (hb : attributeBase (.Name n p1) f X.env (eval (.Name n p1) X.env) = eval (.Name n p1) X.env := by rfl) (hd : (n == ("__debug__" : Str)) = false := by decide) (hcd : (n == ("__classdict__" : Str)) = false := by decide) :
    PE (X.suite a ((a, oe) :: pn)) (.Attribute (.Name n p1) f pos) (rdX X.K ok a cls d i (xF f)) := by
  constructor
  rintro pins s σ H Q I ⟨c, fs, al, h, dd, gs, hok, ec, ed, es, r, e1, qf, x, e, q⟩
  obtain ⟨T, hno⟩ := hT c hok
  obtain ⟨v, e2, q2⟩ := qf.lookup e
  exact (pe_xf (C := He.ga X.K c) T hno hz hf (pe_var (X := X.suite a ((a, oe) :: pn)) hN hv hd hcd) hb).run pins s σ H Q I ⟨_, es, rfl, ec, dd, gs, v, ed, e1, e2, q v H al .refl r q2⟩
def abU (K : PySem.W.Frag) (ok : Str → Prop) (a : Addr) (cls : Value) (d : Option Addr) (i : Nat) (ms : List MX) : TA := fun st H Q => ∃ c fs al h dd gs, ok c ∧ cls = .ref (He.ga K c) ∧ d = some dd ∧ st[i]? = some (some (.ref a)) ∧ HR K H al h ∧ H dd = some (.xd gs) ∧ dU K H al fs gs ∧
  ∃ xs, (ms.mapM fun (g : MX) => g fs h) = some xs ∧ ∀ vs H' aQ, Le H al H' aQ → HR K H' aQ h → bx K H' aQ xs vs → Q vs H'
theorem ahO : PA (X.suite a ((a, oe) :: pn)) [] (abU X.K ok a cls d i []) :=
  pa_nil.weak fun σ H Q ⟨c, fs, al, h, dd, gs, _, _, _, _, r, _, _, xs, e, q⟩ => by
    cases e
    exact q [] H al .refl r .nil
theorem aa4 {e : Expr} {es : List Expr} {g : MX} {ms : List MX} (he : PE (X.suite a ((a, oe) :: pn)) e (rdX X.K ok a cls d i g)) (hs : PA (X.suite a ((a, oe) :: pn)) es (abU X.K ok a cls d i ms)) (hst : starEach (e :: es) X.env = (false, eval e X.env) :: starEach es X.env := by rfl) :
    PA (X.suite a ((a, oe) :: pn)) (e :: es) (abU X.K ok a cls d i (g :: ms)) :=
  (pa_cons he hs hst).weak fun σ H Q ⟨c, fs, al, h, dd, gs, hok, ec, ed, es, r, e1, qf, xs, e, q⟩ => by
    rw [List.mapM_cons] at e
    obtain ⟨x, e2, e3⟩ := Option.bind_eq_some_iff.mp e
    obtain ⟨ys, e4, e5⟩ := Option.bind_eq_some_iff.mp e3
    cases e5
    refine ⟨c, fs, al, h, dd, gs, hok, ec, ed, es, r, e1, qf, x, e2, fun v H1 bf l1 r1 q1 => ?_⟩
    refine ⟨c, fs, bf, h, dd, gs, hok, ec, ed, es, r1, l1.keep _ _ e1 (r.ada e1), qf.mono r l1, ys, e4, fun vs H2 dD l2 r2 q2 => ?_⟩
    exact q _ H2 dD (l1.trans l2) r2 (.cons (q1.mono r1 l2) q2)
theorem ajx {es : List Expr} {ms : List MX} {k : Nat} (ha : PA (X.suite a ((a, oe) :: pn)) es (abU X.K ok a cls d i ms)) (hl : ms.length ≤ 1000) : PE (X.suite a ((a, oe) :: pn)) (.Tuple es k pos) (rdX X.K ok a cls d i (abT ms)) :=
  (pe_tup (GB.PA.cl ha)).weak fun σ H Q ⟨c, fs, al, h, dd, gs, hok, ec, ed, es, r, e1, qf, x, e, q⟩ => by
    have hs : sizeLine = 16777216 := sizeLine_eq
    obtain ⟨xs, e2, e3⟩ := Option.map_eq_some_iff.mp e
    cases e3
    refine ⟨_, ⟨c, fs, al, h, dd, gs, hok, ec, ed, es, r, e1, qf, xs, e2, fun vs H1 bf l1 r1 q1 => (⟨bf, l1, r1, q1⟩ : ∃ bf, Le H al H1 bf ∧ HR X.K H1 bf h ∧ bx X.K H1 bf xs vs)⟩, ?_⟩
    rintro vs H1 ⟨bf, l1, r1, q1⟩
    refine ⟨?_, fun p np => ?_⟩
    · have := ZG e2
      rw [← q1.length, hs]
      omega
    · have lf := Le.fresh (o := .tup vs) r1 np
      exact q _ _ bf (l1.trans lf) (r1.fresh np) (.tup (SqT.of upd_same) (q1.mono r1 lf))
where
  ZG {α β : Type} {g : α → Option β} : ∀ {l : List α} {r : List β}, l.mapM g = some r → r.length = l.length
    | [], _, e => by cases e; rfl
    | x :: l, r, e => by
      rw [List.mapM_cons] at e
      obtain ⟨y, _, e3⟩ := Option.bind_eq_some_iff.mp e
      obtain ⟨ys, e4, e5⟩ := Option.bind_eq_some_iff.mp e3
      cases e5
      simp [ZG e4]
def O7 (i : Nat) (exm : Str → Option Bool) (f : MS) (g : MX) : MS := fun e h => match f e h with
  | .exc c fs e' h' => match exm c with
    | some true => if i < e'.length then match g fs h' with
        | some x => .rt x h'
        | none => .stuck
      else .stuck
    | some false => .exc c fs e' h'
    | none => .stuck
  | r => r
theorem ahP {x : Str} {C : Value} {f : MS} {g : MX} {exm : Str → Option Bool} {body : List Stmt} {ex : Expr} {np pos' pos2 : Pos} (ct : bZ X W) (hs : X.stack = X.env :: X.outer) (hf : X.env.frame = some X.env.locals) (hN : X.N.Nodup) (hi : X.N[i]? = some n) (hln : X.env.kindOf n = some .local) (hc : Names X x C)
    (hex : ∀ c b, exm c = some b → PySem.W.exmOne X.K (.ref (He.ga X.K c)) C = some b)
    (hb : ∀ (W : WX) (pn : List (Addr × Obj)) (xe : Value → Shared → Prop), bZ (X.tr pn xe) W → PSs (X.tr pn xe) body (oH X.K W f))
    (hx : ∀ (a : Addr) (oe : Obj) (cls : Value) (d : Option Addr) (pn : List (Addr × Obj)), Zc cls d oe → (∃ vs, oe.data = .fields vs) → PE (X.suite a ((a, oe) :: pn)) ex (rdX X.K (fun c => exm c = some true) a cls d i g)) :
    PS X (.Try body [.ExceptHandler (some (.Name x np)) (some n) [.Return (some ex) pos2] pos'] [] [] pos) (oH X.K W (O7 i exm f g)) := by
  refine (ps_try_as (ts := fun a cls d => tRet (rdX X.K (fun c => exm c = some true) a cls d i g)) hs hf hN hi hln hc ct.tk (fun W pn xe tk po => hb W pn xe ⟨tk, po, ct.gd⟩) (fun a oe cls d pn hz hfl => pss_one (ps_ret (hx a oe cls d pn hz hfl)))).weak ?_
  rintro N σ H ⟨e, al, h, r, re, po⟩
  refine ⟨e, al, h, r, re, ?_⟩
  unfold O7 at po
  cases z : f e h with
  | nx e' h' => rw [z] at po; exact po
  | bk e' h' => rw [z] at po; exact po
  | ct e' h' => rw [z] at po; exact po
  | rt d h' => rw [z] at po; exact po
  | stuck => rw [z] at po; exact po
  | exc c fs e' h' =>
    rw [z] at po
    dsimp only at po
    rintro dd st H' aQ gs l r' yh e1 qf
    cases w : exm c with
    | none => rw [w] at po; exact po.elim
    | some b =>
      rw [w] at po
      refine ⟨b, hex c b w, fun hb1 a ha => ?_, fun hb2 => ?_⟩
      · subst hb1
        dsimp only at po
        split at po
        · rename_i hil
          rw [yh.1] at hil
          split at po
          · rename_i x hx
            exact ⟨c, fs, aQ, h', dd, gs, w, rfl, rfl, by rw [List.getElem?_set_self hil], r', e1, qf, x, hx, fun v H2 dD l2 r2 q2 => po v H2 dD (l.trans l2) r2 q2⟩
          · exact po.elim
        · exact po.elim
      · subst hb2
        exact po dd st H' aQ gs l r' yh e1 qf
end
end PD
namespace PD
open PySem PySem.Spec PyProof.Rows L2
section
variable {X : Cx} {W : WX} {a b c : Expr} {fa fb fc : ME} {pos : Pos}
theorem adb {o o' : O2} {σ : L2.St} {H : Hp} {Q : VK} {K : PySem.W.Frag} : rd K W (eU o o' fa fb fc) σ H Q → tChain (r2 K o) (r2 K o') (rd K W fa) (rd K W fb) (rd K W fc) σ H Q := by
  rintro ⟨e, al, h, r, re, p⟩
  refine ⟨e, al, h, r, re, (bJ.bind p).mono ?_⟩
  rintro v H1 ⟨d, bf, h1, l, r1, q, p1⟩
  have Q9 := re.mono r l
  refine ⟨e, bf, h1, r1, Q9, (bJ.bind p1).mono ?_⟩
  rintro u H2 ⟨d2, dD, h2, l2, r2, q2, p2⟩
  have yN := Q9.mono r1 l2
  refine ⟨d, d2, dD, h2, r2, q.mono r1 l2, q2, ?_⟩
  have p3 := cO.of (bJ.bind p2)
  cases z : o d d2 h2 with
  | none => rw [z] at p3; exact p3
  | some zz =>
    obtain ⟨d3, h3⟩ := zz
    rw [z] at p3
    intro v3 H3 Rb l3 r3 q3
    obtain ⟨d3', ahQ, h3', l3', r3', q3', p4⟩ := p3 v3 H3 Rb l3 r3 q3
    cases q3' with
    | bl k =>
      refine ⟨k, rfl, ?_⟩
      cases k with
      | true =>
        rw [if_pos rfl]
        have l23 : Le H2 dD H3 ahQ := l3'
        refine ⟨e, ahQ, h3', r3', yN.mono r2 l23, (bJ.bind p4).mono ?_⟩
        rintro w H4 ⟨d4, al4, h4, l4, r4, q4, p5⟩
        exact ⟨d2, d4, al4, h4, r4, (q2.mono r2 l23).mono r3' l4, q4, cO.of p5⟩
      | false =>
        rw [if_neg (by decide)]
        exact p4 _ _ _ .refl r3' (.bl false)
    | _ => exact p4.elim
theorem aa5 {op op' : CmpOp} {o o' : O2} (ho : OpR X (compareOp op) (r2 X.K o)) (ho' : OpR X (compareOp op') (r2 X.K o')) (ha : PE X a (rd X.K W fa)) (hb : PE X b (rd X.K W fb)) (hc : PE X c (rd X.K W fc))
    (hm : lastMarks [op, op'] [b, c] = false := by with_unfolding_all rfl) : PE X (.Compare a [op, op'] [b, c] pos) (rd X.K W (eU o o' fa fb fc)) :=
  (pe_chain ho ho' ha hb hc hm).weak fun σ H Q h => adb h
end
section
variable {X : Cx} {W : WX} {k n : Nat} {f : Addr} {x q : Str} {st : Stmt} {dvs : List V} {kws : List (Str × V)} {ps ks : List Str} {m m' : List D → AH → Res D}
theorem lV.congr {g : Value} (c : lV X W g n ks m) (h : ∀ ds, ds.length = n + ks.length → m ds = m' ds) : lV X W g n ks m' := by
  rintro pins s σ H us ws vs zs Q I r rz l1 l2 ⟨ds, es, al, hh, hr1, q1, q2, po⟩
  refine c pins s σ H us ws vs zs Q I r rz l1 l2 ⟨ds, es, al, hh, hr1, q1, q2, ?_⟩
  have e : (ds ++ es).length = n + ks.length := by
    rw [List.length_append, q1.length, q2.length, r.length, rz.length, l1, l2]
  rw [h _ e]
  exact po
theorem abV {α : Type} (ds : List α) : GB.picked ds (List.range ds.length) = ds := by
  unfold GB.picked
  induction ds with
  | nil => rfl
  | cons a l ih =>
    rw [List.length_cons, List.range_succ_eq_map, List.filterMap_cons, List.filterMap_map]
    show a :: List.filterMap (fun i => l[i]?) (List.range l.length) = a :: l
    rw [ih]
theorem Fd.bB (F : Fd X.prog X.w X.K X.mg X.base k f x q st dvs kws ps m) (hr : Room k X.A) (ct : bZ X W) (b : Bd X.K x q st dvs kws f ps n [] [] (List.range n)) : lV X W (.ref f) n [] m := by
  refine (F.calls hr ct b (dd := []) fun _ _ => .nil).congr fun ds hl => ?_
  have e : n = ds.length := by simpa using hl.symm
  rw [List.append_nil, e, abV]
theorem Fd.kp {P : Program} {w : World} {K : PySem.W.Frag} {mg : Str → Option Value} {base : Heap} (F : Fd P w K mg base k f x q st dvs kws ps m) : PySem.W.keepIn K (.ref f) = true := by
  obtain ⟨fd, F1, _⟩ := F.ex
  exact F1.kp
end
end PD
theorem GB.Tp.kp {K : PySem.W.Frag} {mg : PySem.Str → Option PySem.Value} {x : PySem.Str} {st : PySem.Stmt} {dvs : List L2.V} {kws : List (PySem.Str × L2.V)} (T : GB.Tp K mg x st dvs kws) : PySem.W.keepIn K (.ref (He.ga K x)) = true := by
  obtain ⟨fd, F⟩ := T.ex
  exact F.kp
namespace PD
open PySem PySem.Spec PyProof.Rows L2
theorem Bd.kwo {K : PySem.W.Frag} {x q : Str} {st : Stmt} {kws : List (Str × V)} {f : Addr} {ps : List Str} {n : Nat} {ks : List Str} {is : List Nat} (ms : List (Str × V)) (hk : kws ≠ []) (hms : ∀ q ∈ ms, q ∈ kws)
    (h : ∀ (D : Addr) (doc pm : Value) (an : Option Addr) (cdv ct : Value) (us mv ws : List Value), us.length = n → mv.length = ms.length → ws.length = ks.length →
      KwChain D ((ms.map (·.1)).zip mv) (bindArgs (PySem.W.fnOf x q (defArgs st) (defBody st) (defScope st) .none (.ref D) doc pm an cdv ct) ⟨us, ks.zip ws⟩) (ps.zip (GB.picked (us ++ ws ++ mv) is))) : Bd K x q st [] kws f ps n ks (ms.map (·.2)) is := by
  rintro fd F
  obtain ⟨mv, b⟩ := F.kbinds0 n ks ms (fun us mv ws => GB.picked (us ++ ws ++ mv) is) hk hms (fun r1 r2 r3 => GB.yW ((r1.append r3).append r2) is) h
  exact ⟨_, b⟩
end PD
namespace PD
open PySem PySem.Spec PyProof.Rows L2
abbrev Mn := List D → AH → Res D
theorem Fd.stuck {P : Program} {w : World} {K : PySem.W.Frag} {mg : Str → Option Value} {base : Heap} {k : Nat} {f : Addr} {x q : Str} {st : Stmt} {dvs : List V} {kws : List (Str × V)} {ps : List Str} (T : GB.Dn K f x q st dvs kws) : Fd P w K mg base k f x q st dvs kws ps (fun _ _ => .stuck) := by
  obtain ⟨fd, F⟩ := T
  exact ⟨fd, F, ⟨fun _ _ _ _ ⟨_, _, _, _, _, po⟩ => po.elim, fun _ _ _ _ _ _ _ _ _ _ _ _ _ _ ⟨_, _, _, _, _, po⟩ => po.elim⟩⟩
end PD
namespace PD
open PySem PySem.Spec PyProof.Rows L2
def dOf : He.Dv → Option D
  | .non => some .non
  | .bl b => some (.bl b)
  | .int i => some (.int i)
  | .str x => some (.str x)
  | .ty n => some (.ty n)
  | .glo x => some (.glo x)
  | _ => none
theorem ahR {K : PySem.W.Frag} {v : He.Dv} {d : D} (e : dOf v = some d) (H : Hp) (al : Al) : Rp K H al d (v.v K) := by
  cases v <;> cases e <;> constructor
def tabOf (kvs : List (Str × He.Dv)) (k : Str) : Option (Option D) := match kvs.find? fun q => decide (q.1 = k) with
  | some q => (dOf q.2).map some
  | none => none
theorem KTab.of {K : PySem.W.Frag} {w : World} {x : Str} {kvs : List (Str × He.Dv)} (kd : ∃ es n, KDict K w (He.ga K x) es n) (h : He.valsB K (He.ga K x) kvs = true) : KTab K w x (tabOf kvs) := by
  refine ⟨kd, fun k d e => ?_, fun k e => ?_⟩
  · unfold tabOf at e
    split at e
    · rename_i q hq
      obtain ⟨d', e1, e2⟩ := Option.map_eq_some_iff.mp e
      cases e2
      have hk : q.1 = k := of_decide_eq_true (List.find?_some (p := fun q : Str × He.Dv => decide (q.1 = k)) hq)
      obtain ⟨u, a, b⟩ := He.valsB_ok h (List.mem_of_find?_eq_some hq)
      subst hk
      exact ⟨u, _, a, b, fun H al => ahR e1 H al⟩
    · cases e
  · unfold tabOf at e
    split at e
    · rename_i q hq
      cases z : dOf q.2 with
      | none => rw [z] at e; cases e
      | some d => rw [z] at e; cases e
    · cases e
end PD
namespace PD
open PySem PySem.Spec PyProof.Rows L2
section
variable {X : Cx} {W : WX}
end
end PD
namespace PD
open PySem PySem.Spec PyProof.Rows L2
section
variable {X : Cx} {W : WX}
def rI (K : PySem.W.Frag) (o : O2) : TIp := fun x y H Q => ∃ d e al h, HR K H al h ∧ Rp K H al d x ∧ Rp K H al e y ∧ cO K H al Q (o d e h)
end
end PD
namespace PD
open PySem PySem.Spec PyProof.Rows L2
mutual
def oN (n : Nat) : D → Bool
  | .tup ds => vh n ds
  | .lst ds => vh n ds
  | .dB ds => vh n ds
  | .obj _ fs => yq n fs
  | .ref k => decide (k < n)
  | _ => true
def vh (n : Nat) : List D → Bool
  | [] => true
  | d :: ds => oN n d && vh n ds
def yq (n : Nat) : List (Str × D) → Bool
  | [] => true
  | (_, d) :: fs => oN n d && yq n fs
end
mutual
theorem aa6 {n : Nat} : ∀ {d : D}, oN n d = true → Fx n d
  | .tup ds, h => wQ (by simpa only [oN] using h)
  | .lst ds, h => wQ (by simpa only [oN] using h)
  | .dB ds, h => wQ (by simpa only [oN] using h)
  | .obj _ fs, h => FW (by simpa only [oN] using h)
  | .ref k, h => by
    have h : decide (k < n) = true := by simpa only [oN] using h
    exact (of_decide_eq_true h : k < n)
  | .non, _ => trivial
  | .bl _, _ => trivial
  | .int _, _ => trivial
  | .str _, _ => trivial
  | .glo _, _ => trivial
  | .ty _, _ => trivial
theorem wQ {n : Nat} : ∀ {ds : List D}, vh n ds = true → uP n ds
  | [], _ => trivial
  | d :: ds, h => by
    simp only [vh, Bool.and_eq_true] at h
    exact ⟨aa6 h.1, wQ h.2⟩
theorem FW {n : Nat} : ∀ {ds : List (Str × D)}, yq n ds = true → zH n ds
  | [], _ => trivial
  | (_, d) :: ds, h => by
    simp only [yq, Bool.and_eq_true] at h
    exact ⟨aa6 h.1, FW h.2⟩
end
def aez (n : Nat) : Cell → Prop
  | .lst ds => uP n ds
  | .dict kvs => uP n (kvs.map (·.2))
  | .ins _ fs => zH n fs
  | .jE kvs => uP n (kvs.map (·.2))
mutual
def oO (h : AH) (n : Nat) : D → Option D
  | .tup ds => (Em h n ds).map .tup
  | .lst ds => (Em h n ds).map .lst
  | .dB ds => (Em h n ds).map .dB
  | .obj c fs => (O8 h n fs).map (.obj c)
  | .ref k => if k < n then some (.ref k) else match h[k]? with
    | some (.lst ds) => if vh n ds = true then some (.lst ds) else none
    | some (.ins c fs) => if yq n fs = true then some (.obj c fs) else none
    | _ => none
  | .non => some .non
  | .bl b => some (.bl b)
  | .int i => some (.int i)
  | .str x => some (.str x)
  | .glo x => some (.glo x)
  | .ty x => some (.ty x)
def Em (h : AH) (n : Nat) : List D → Option (List D)
  | [] => some []
  | d :: ds => match oO h n d, Em h n ds with
    | some d', some ds' => some (d' :: ds')
    | _, _ => none
def O8 (h : AH) (n : Nat) : List (Str × D) → Option (List (Str × D))
  | [] => some []
  | (f, d) :: ds => match oO h n d, O8 h n ds with
    | some d', some ds' => some ((f, d') :: ds')
    | _, _ => none
end
section
variable {K : PySem.W.Frag} {H H' : Hp} {al aQ : Al} {h h' : AH}
def Kept (h h' : AH) : Prop := h.length ≤ h'.length ∧ ∀ i c, i < h.length → h'[i]? = some c → h[i]? = some c ∨ aez h.length c
theorem fL.ajy {c t r : List Addr} {x : Cell} {a : Addr} (q : fL K H ⟨c ++ t, r⟩ a x) (w : aez c.length x) : fL K H ⟨c, r⟩ a x := by
  cases x with
  | lst ds =>
    obtain ⟨vs, z, q⟩ := q
    exact ⟨vs, z, q.less w⟩
  | dict kvs =>
    obtain ⟨ws, z, k, q⟩ := q
    exact ⟨ws, z, k, q.less w⟩
  | ins c fs =>
    obtain ⟨dx, gs, z, q⟩ := q
    exact ⟨dx, gs, z, q.less w⟩
  | jE kvs =>
    obtain ⟨o, ws, z, k, q⟩ := q
    exact ⟨o, ws, z, k, q.less w⟩
theorem HR.cut (r0 : HR K H al h) (l : Le H al H' aQ) (r1 : HR K H' aQ h') (k : Kept h h') : HR K H' al (h'.take h.length) ∧ Le H al H' al := by
  obtain ⟨t, ht⟩ := l.pre
  obtain ⟨c', r'⟩ := aQ
  obtain rfl : r' = al.r := l.wH
  obtain rfl : c' = al.c ++ t := ht
  refine ⟨⟨r0.nd, by rw [List.length_take, r0.len]; exact (Nat.min_eq_left k.1).symm, r0.dis, r1.rs, fun n x a e1 e2 => ?_⟩, ⟨⟨[], by simp⟩, rfl, l.keep, l.res, fun _ z => .inl z, l.lk⟩⟩
  have hn2 := (List.getElem?_eq_some_iff.mp e2).1
  have hn : n < h.length := by rw [← r0.len]; exact hn2
  rw [List.getElem?_take_of_lt hn] at e1
  have q := r1.at_ n x a e1 (by
    show (al.c ++ t)[n]? = some a
    rw [List.getElem?_append_left hn2]
    exact e2)
  rcases k.2 n x hn e1 with z | z
  · exact q.less (r0.at_ n x a z e2)
  · exact q.ajy (by rw [r0.len]; exact z)
variable {c t r : List Addr}
theorem aga {k : Nat} {a : Addr} (nd : (c ++ t).Nodup) (ds : ∀ x ∈ c ++ t, x ∉ r) (e : (c ++ t)[k]? = some a) (hk : ¬ k < c.length) : ¬ Al.has ⟨c, r⟩ a := by
  have hm : a ∈ t := by
    rw [List.getElem?_append_right (by omega)] at e
    exact List.mem_of_getElem? e
  rintro (z | z)
  · rw [List.nodup_append] at nd
    exact nd.2.2 a z a hm rfl
  · exact ds a (List.mem_append_right _ hm) z
mutual
theorem Rp.fz (r1 : HR K H ⟨c ++ t, r⟩ h) : ∀ {d d' : D} {v : V}, Rp K H ⟨c ++ t, r⟩ d v → oO h c.length d = some d' → Rp K H ⟨c, r⟩ d' v
  | _, _, _, .non, e => by simp only [oO] at e; cases e; exact .non
  | _, _, _, .bl b, e => by simp only [oO] at e; cases e; exact .bl b
  | _, _, _, .int i, e => by simp only [oO] at e; cases e; exact .int i
  | _, _, _, .str x, e => by simp only [oO] at e; cases e; exact .str x
  | _, _, _, .ty n, e => by simp only [oO] at e; cases e; exact .ty n
  | _, _, _, .glo x, e => by simp only [oO] at e; cases e; exact .glo x
  | _, _, _, .ref (n := n) (a := a) e1, e => by
    have e1 : (c ++ t)[n]? = some a := e1
    simp only [oO] at e
    split at e
    · rename_i hn
      cases e
      refine .ref ?_
      show c[n]? = some a
      rw [List.getElem?_append_left hn] at e1
      exact e1
    · rename_i hn
      have no := aga r1.nd r1.dis e1 hn
      split at e
      · rename_i ds hd
        split at e
        · rename_i w
          cases e
          obtain ⟨vs, ev, q⟩ := r1.at_ n _ a hd e1
          exact .lst ⟨ev, no⟩ (q.less (wQ w))
        · cases e
      · rename_i cl fs hd
        split at e
        · rename_i w
          cases e
          obtain ⟨dx, gs, ev, q⟩ := r1.at_ n _ a hd e1
          exact .obj ev no (q.less (FW w))
        · cases e
      · cases e
  | _, _, _, .tup s q, e => by
    simp only [oO, Option.map_eq_some_iff] at e
    obtain ⟨ds', e, rfl⟩ := e
    exact .tup s (bx.fz r1 q e)
  | _, _, _, .lst s q, e => by
    simp only [oO, Option.map_eq_some_iff] at e
    obtain ⟨ds', e, rfl⟩ := e
    exact .lst ⟨s.1, uQ s.2⟩ (bx.fz r1 q e)
  | _, _, _, .dB s q, e => by
    simp only [oO, Option.map_eq_some_iff] at e
    obtain ⟨ds', e, rfl⟩ := e
    exact .dB (s.elim (fun ⟨o, z⟩ => .inl ⟨o, z.1, uQ z.2⟩) .inr) (bx.fz r1 q e)
  | _, _, _, .obj e1 n q, e => by
    simp only [oO, Option.map_eq_some_iff] at e
    obtain ⟨ds', e, rfl⟩ := e
    exact .obj e1 (uQ n) (dU.fz r1 q e)
theorem bx.fz (r1 : HR K H ⟨c ++ t, r⟩ h) : ∀ {ds ds' : List D} {vs : List V}, bx K H ⟨c ++ t, r⟩ ds vs → Em h c.length ds = some ds' → bx K H ⟨c, r⟩ ds' vs
  | _, _, _, .nil, e => by simp only [Em] at e; cases e; exact .nil
  | _, _, _, .cons q qs, e => by
    simp only [Em] at e
    split at e
    · rename_i d' ds' e1 e2
      cases e
      exact .cons (Rp.fz r1 q e1) (bx.fz r1 qs e2)
    · cases e
theorem dU.fz (r1 : HR K H ⟨c ++ t, r⟩ h) : ∀ {ds ds' : List (Str × D)} {vs : List (Str × V)}, dU K H ⟨c ++ t, r⟩ ds vs → O8 h c.length ds = some ds' → dU K H ⟨c, r⟩ ds' vs
  | _, _, _, .nil, e => by simp only [O8] at e; cases e; exact .nil
  | _, _, _, .cons q qs, e => by
    simp only [O8] at e
    split at e
    · rename_i d' ds' e1 e2
      cases e
      exact .cons (Rp.fz r1 q e1) (dU.fz r1 qs e2)
    · cases e
end
end
open Classical in
noncomputable def gc (h : AH) : Res D → Res D
  | .ok d h' => if Kept h h' then match oO h' h.length d with
      | some d' => .ok d' (h'.take h.length)
      | none => .ok d h'
    else .ok d h'
  | .exc c fs h' => if Kept h h' then match O8 h' h.length fs with
      | some fs' => .exc c fs' (h'.take h.length)
      | none => .exc c fs h'
    else .exc c fs h'
  | .stuck => .stuck
theorem adf {K : PySem.W.Frag} {H : Hp} {al : Al} {h : AH} {E : XK} {Q : VK} {m : Res D} (r : HR K H al h) (p : rB K H al E Q (gc h m)) : rB K H al E Q m := by
  cases m with
  | stuck => exact p
  | ok d h' =>
    intro v H' aQ l r' rp
    unfold gc at p
    dsimp only at p
    split at p
    · rename_i k
      obtain ⟨r2, l2⟩ := r.cut l r' k
      split at p
      · rename_i d' e
        obtain ⟨t, ht⟩ := l.pre
        obtain ⟨c', rr⟩ := aQ
        obtain rfl : rr = al.r := l.wH
        obtain rfl : c' = al.c ++ t := ht
        exact p v H' al l2 r2 (Rp.fz r' rp (by rw [r.len]; exact e))
      · exact p v H' aQ l r' rp
    · exact p v H' aQ l r' rp
  | exc c fs h' =>
    intro a H' aQ gs l r' ea rp
    unfold gc at p
    dsimp only at p
    split at p
    · rename_i k
      obtain ⟨r2, l2⟩ := r.cut l r' k
      split at p
      · rename_i d' e
        obtain ⟨t, ht⟩ := l.pre
        obtain ⟨c', rr⟩ := aQ
        obtain rfl : rr = al.r := l.wH
        obtain rfl : c' = al.c ++ t := ht
        exact p a H' al gs l2 r2 ea (dU.fz r' rp (by rw [r.len]; exact e))
      · exact p a H' aQ gs l r' ea rp
    · exact p a H' aQ gs l r' ea rp
theorem Fd.gc {P : Program} {w : World} {K : PySem.W.Frag} {mg : Str → Option Value} {base : Heap} {k : Nat} {f : Addr} {x q : Str} {st : Stmt} {dvs : List V} {kws : List (Str × V)} {ps : List Str} {m : List D → AH → Res D}
    (F : Fd P w K mg base k f x q st dvs kws ps m) : Fd P w K mg base k f x q st dvs kws ps (fun ds h => PD.gc h (m ds h)) := by
  obtain ⟨fd, a, b⟩ := F.ex
  exact ⟨fd, a, b.imp fun vs H Q E ⟨ds, al, h, r, rp, po⟩ => ⟨ds, al, h, r, rp, adf r po⟩⟩
theorem lV.gc {X : Cx} {W : WX} {f : Value} {n : Nat} {ks : List Str} {m : List D → AH → Res D} (c : lV X W f n ks m) : lV X W f n ks (fun ds h => PD.gc h (m ds h)) := by
  rintro pins s σ H us ws vs zs Q I r rz l1 l2 ⟨ds, es, al, h, hr, q1, q2, po⟩
  exact c pins s σ H us ws vs zs Q I r rz l1 l2 ⟨ds, es, al, h, hr, q1, q2, adf hr po⟩
mutual
theorem adg {h : AH} {n : Nat} : ∀ {d : D}, Fx n d → oO h n d = some d
  | .tup ds, w => by simp only [oO, DN (ds := ds) w, Option.map_some]
  | .lst ds, w => by simp only [oO, DN (ds := ds) w, Option.map_some]
  | .dB ds, w => by simp only [oO, DN (ds := ds) w, Option.map_some]
  | .obj c fs, w => by simp only [oO, aa7 (ds := fs) w, Option.map_some]
  | .ref k, w => by simp only [oO]; rw [if_pos (show k < n from w)]
  | .non, _ => by simp only [oO]
  | .bl _, _ => by simp only [oO]
  | .int _, _ => by simp only [oO]
  | .str _, _ => by simp only [oO]
  | .glo _, _ => by simp only [oO]
  | .ty _, _ => by simp only [oO]
theorem DN {h : AH} {n : Nat} : ∀ {ds : List D}, uP n ds → Em h n ds = some ds
  | [], _ => by simp only [Em]
  | d :: ds, w => by simp only [Em, adg w.1, DN w.2]
theorem aa7 {h : AH} {n : Nat} : ∀ {ds : List (Str × D)}, zH n ds → O8 h n ds = some ds
  | [], _ => by simp only [O8]
  | (_, d) :: ds, w => by simp only [O8, adg w.1, aa7 w.2]
end
mutual
theorem afA {n : Nat} : ∀ {d : D}, Fx n d → oN n d = true
  | .tup ds, w => by simp only [oN]; exact O9 w
  | .lst ds, w => by simp only [oN]; exact O9 w
  | .dB ds, w => by simp only [oN]; exact O9 w
  | .obj c fs, w => by simp only [oN]; exact adh w
  | .ref k, w => by simp only [oN]; exact decide_eq_true w
  | .non, _ => by simp only [oN]
  | .bl _, _ => by simp only [oN]
  | .int _, _ => by simp only [oN]
  | .str _, _ => by simp only [oN]
  | .glo _, _ => by simp only [oN]
  | .ty _, _ => by simp only [oN]
theorem O9 {n : Nat} : ∀ {ds : List D}, uP n ds → vh n ds = true
  | [], _ => by simp only [vh]
  | d :: ds, w => by simp only [vh, afA w.1, O9 w.2, Bool.and_self]
theorem adh {n : Nat} : ∀ {ds : List (Str × D)}, zH n ds → yq n ds = true
  | [], _ => by simp only [yq]
  | (_, d) :: ds, w => by simp only [yq, afA w.1, adh w.2, Bool.and_self]
end
theorem Kept.same {h t : AH} : Kept h (h ++ t) := ⟨by simp, fun i c hi e => .inl (by rw [List.getElem?_append_left hi] at e; exact e)⟩
theorem Kept.set {h t : AH} {n : Nat} {x : Cell} (w : aez h.length x) : Kept h (h.set n x ++ t) := ⟨by simp, fun i c hi e => by
  rw [List.getElem?_append_left (by simpa using hi)] at e
  by_cases z : n = i
  · subst z
    rw [List.getElem?_set_self hi] at e
    cases e
    exact .inr w
  · rw [List.getElem?_set_ne z] at e
    exact .inl e⟩
end PD
namespace PD
open PySem PySem.Spec PyProof.Rows L2
def keyOf : D → Option Key
  | .int i => some (.inl i)
  | .str s => some (.inr s)
  | _ => none
theorem uR {K : PySem.W.Frag} {H : Hp} {al : Al} {d : D} {v : V} {k : Key} (q : Rp K H al d v) (e : keyOf d = some k) : v = kV k := by
  cases q <;> cases e <;> rfl
def valD (kvs : List (Key × D)) (k : Key) : Option D := (kvs.find? fun kv => decide (kv.1 = k)).map (·.2)
def gq (kvs : List (Key × D)) (k : Key) (v : D) : List (Key × D) :=
  if (kvs.any fun kv => decide (kv.1 = k)) = true then kvs.map (fun kv => if kv.1 = k then (kv.1, v) else kv) else kvs ++ [(k, v)]
def KR (K : PySem.W.Frag) (H : Hp) (al : Al) (kvs : List (Key × D)) (ws : List (Key × V)) : Prop := ws.map (·.1) = kvs.map (·.1) ∧ bx K H al (kvs.map (·.2)) (ws.map (·.2))
section
variable {K : PySem.W.Frag} {H H' : Hp} {al aQ : Al} {h : AH}
theorem KR.nil : KR K H al [] [] := ⟨rfl, .nil⟩
theorem KR.inv {p : Key × D} {kvs : List (Key × D)} {ws : List (Key × V)} (r : KR K H al (p :: kvs) ws) : ∃ v ws', ws = (p.1, v) :: ws' ∧ Rp K H al p.2 v ∧ KR K H al kvs ws' := by
  obtain ⟨a, b⟩ := r
  cases ws with
  | nil => cases a
  | cons w ws =>
    simp only [List.map_cons, List.cons.injEq] at a b
    cases b with
    | cons q qs => exact ⟨w.2, ws, by rw [← a.1], q, a.2, qs⟩
theorem KR.cons {k : Key} {d : D} {v : V} {kvs : List (Key × D)} {ws : List (Key × V)} (q : Rp K H al d v) (r : KR K H al kvs ws) : KR K H al ((k, d) :: kvs) ((k, v) :: ws) :=
  ⟨by simp only [List.map_cons, r.1], .cons q r.2⟩
theorem KR.mono {kvs : List (Key × D)} {ws : List (Key × V)} (r : KR K H al kvs ws) (hr : HR K H al h) (l : Le H al H' aQ) : KR K H' aQ kvs ws := ⟨r.1, r.2.mono hr l⟩
theorem KR.length : ∀ {kvs : List (Key × D)} {ws : List (Key × V)}, KR K H al kvs ws → ws.length = kvs.length := fun r => by
  have := congrArg List.length r.1
  simpa using this
theorem KR.val (k : Key) : ∀ {kvs : List (Key × D)} {ws : List (Key × V)}, KR K H al kvs ws → (valD kvs k = none ∧ valV ws k = none) ∨ ∃ d v, valD kvs k = some d ∧ valV ws k = some v ∧ Rp K H al d v
  | [], ws, r => by
    have e := r.length
    cases ws with
    | nil => exact .inl ⟨rfl, rfl⟩
    | cons _ _ => cases e
  | p :: kvs, ws, r => by
    obtain ⟨v, ws', rfl, q, r'⟩ := r.inv
    by_cases e : p.1 = k
    · refine .inr ⟨p.2, v, ?_, valV_pos e, q⟩
      simp [valD, List.find?_cons, e]
    · rcases KR.val k r' with ⟨a, b⟩ | ⟨d, w, a, b, c⟩
      · exact .inl ⟨by simpa [valD, List.find?_cons, e] using a, (valV_neg e).trans b⟩
      · exact .inr ⟨d, w, by simpa [valD, List.find?_cons, e] using a, (valV_neg e).trans b, c⟩
theorem KR.any (k : Key) : ∀ {kvs : List (Key × D)} {ws : List (Key × V)}, KR K H al kvs ws → (ws.any fun kv => decide (kv.1 = k)) = kvs.any fun kv => decide (kv.1 = k)
  | [], ws, r => by
    have e := r.length
    cases ws with
    | nil => rfl
    | cons _ _ => cases e
  | p :: kvs, ws, r => by
    obtain ⟨v, ws', rfl, q, r'⟩ := r.inv
    simp only [List.any_cons, KR.any k r']
theorem KR.repl (k : Key) {d : D} {v : V} (q : Rp K H al d v) : ∀ {kvs : List (Key × D)} {ws : List (Key × V)}, KR K H al kvs ws → KR K H al (kvs.map fun kv => if kv.1 = k then (kv.1, d) else kv) (ws.map fun kv => if kv.1 = k then (kv.1, v) else kv)
  | [], ws, r => by
    have e := r.length
    cases ws with
    | nil => exact .nil
    | cons _ _ => cases e
  | p :: kvs, ws, r => by
    obtain ⟨w, ws', rfl, q', r'⟩ := r.inv
    simp only [List.map_cons]
    by_cases e : p.1 = k
    · rw [if_pos e, if_pos e]
      exact .cons q (KR.repl k q r')
    · rw [if_neg e, if_neg e]
      exact .cons q' (KR.repl k q r')
theorem KR.snoc (k : Key) {d : D} {v : V} (q : Rp K H al d v) : ∀ {kvs : List (Key × D)} {ws : List (Key × V)}, KR K H al kvs ws → KR K H al (kvs ++ [(k, d)]) (ws ++ [(k, v)])
  | [], ws, r => by
    have e := r.length
    cases ws with
    | nil => exact .cons q .nil
    | cons _ _ => cases e
  | p :: kvs, ws, r => by
    obtain ⟨w, ws', rfl, q', r'⟩ := r.inv
    exact .cons q' (KR.snoc k q r')
theorem KR.put (k : Key) {d : D} {v : V} (q : Rp K H al d v) {kvs : List (Key × D)} {ws : List (Key × V)} (r : KR K H al kvs ws) : KR K H al (gq kvs k d) (putK ws k v) := by
  unfold gq putK
  rw [r.any k]
  split
  · exact r.repl k q
  · exact r.snoc k q
def BW (kvs more : List (Key × D)) : List (Key × D) := more.foldl (fun acc kv => gq acc kv.1 kv.2) kvs
theorem KR.merge : ∀ {more : List (Key × D)} {ms : List (Key × V)} {kvs : List (Key × D)} {ws : List (Key × V)}, KR K H al more ms → KR K H al kvs ws → KR K H al (BW kvs more) (mergeK ws ms)
  | [], ms, kvs, ws, r, q => by
    have e := r.length
    cases ms with
    | nil => exact q
    | cons _ _ => cases e
  | p :: more, ms, kvs, ws, r, q => by
    obtain ⟨v, ms', rfl, q', r'⟩ := r.inv
    show KR K H al (BW (gq kvs p.1 p.2) more) (mergeK (putK ws p.1 v) ms')
    exact KR.merge r' (q.put p.1 q')
theorem HR.dct (r : HR K H al h) {n : Nat} {a : Addr} {kvs : List (Key × D)} (z : al.c[n]? = some a) (e : h[n]? = some (.dict kvs)) : ∃ ws, H a = some (.dK ws) ∧ KR K H al kvs ws := by
  obtain ⟨c, hc, ok⟩ := r.cell z
  rw [e] at hc
  cases hc
  obtain ⟨ws, e1, e2, e3⟩ := ok
  exact ⟨ws, e1, e2, e3⟩
theorem HR.adi (r : HR K H al h) {n : Nat} {a : Addr} {kvs : List (Key × D)} {ws : List (Key × V)} (z : al.c[n]? = some a) (q : KR K H al kvs ws) (hn : ∀ kvs, h[n]? ≠ some (.jE kvs) := by intro kvs w; simp_all) : HR K (upd H a (.dK ws)) al (h.set n (.dict kvs)) ∧ Le H al (upd H a (.dK ws)) al :=
  r.put (o := .dK ws) (c := .dict kvs) z (fun H' aQ l' e' => ⟨ws, e', (q.mono r l').1, (q.mono r l').2⟩) hn
end
section
variable {X : Cx} {W : WX}
theorem hu1 (hu : X.A.units + 64 < cLine) : X.A.units + 1 < cLine := by omega
def bD : O2 := fun d k h => match d with
  | .ref n => match h[n]? with
    | some (.dict kvs) => ((keyOf k).bind (valD kvs)).map fun v => (v, h)
    | _ => lY d k h
  | _ => lY d k h
theorem ajz (hu : X.A.units + 64 < cLine) : IxR X (r2 X.K bD) := by
  rintro value slice pins s σ H x y v u Q I rx ry ⟨d, e, al, h, r, p, q, po⟩ hsl
  unfold bD at po
  split at po
  · rename_i n
    split at po
    · rename_i kvs hk
      cases p with
      | @ref _ a z =>
        obtain ⟨ws, e1, kr⟩ := r.dct z hk
        cases ek : keyOf e with
        | none => rw [ek] at po; exact False.elim po
        | some k =>
          rw [ek] at po
          obtain rfl := uR q ek
          rcases kr.val k with ⟨e2, e3⟩ | ⟨d', v', e2, e3, q'⟩
          · rw [show (some k).bind (valD kvs) = valD kvs k from rfl, e2] at po
            exact False.elim po
          · rw [show (some k).bind (valD kvs) = valD kvs k from rfl, e2] at po
            obtain rfl : v = Value.ref _ := rx
            have g : DGet H _ (kV k) (some v') := e3 ▸ DGet.k e1
            have hT := dict_typeIs I g
            unfold subscriptTail
            refine wpAny_bind ?_
            rw [getitemInPython_of_ne hT.not_modules]
            refine wpAny_bind (wpAny_specialOf hT PySem.F.slot_dict_getitem.lookup ?_)
            have fin : wpAny (model X.prog X.w) X.A (subscripted slice false (.ref a) u) (fun r s₃ => wpAny (model X.prog X.w) X.A (letTemporaryGo value (.ref a) r >>= fun _ => pure r) (EP X pins σ Q) X.xe s₃) X.xe s := by
              rw [hsl]
              exact wpAny_operating (wpAny_mono (d_getItem (hu1 hu) I g ry fun w' s3 I3 rw' => ⟨v', H, I3, rw', po _ _ _ .refl r q'⟩) (fun r s₃ h₃ => wpAny_bind (wpAny_letTemporaryGo (wpAny_pure h₃))) fun _ _ x => x)
            first
              | exact wpAny_pure (wpAny_bind fin)
              | exact wpAny_bind (wpAny_pure (wpAny_bind fin))
              | exact wpAny_bind fin
    · exact ahJ value slice pins s σ H x y v u Q I rx ry ⟨_, e, al, h, r, p, q, po⟩ hsl
  · exact ahJ value slice pins s σ H x y v u Q I rx ry ⟨d, e, al, h, r, p, q, po⟩ hsl
theorem aX {a b : Expr} {fa fb : ME} {pos : Pos} (hu : X.A.units + 64 < cLine) (ha : PE X a (rd X.K W fa)) (hb : PE X b (rd X.K W fb)) (hs : PlainIx b) : PE X (.Subscript a b pos) (rd X.K W (aG bD fa fb)) :=
  (pe_ix (ajz hu) ha hb hs).weak fun σ H Q h => Oz h
def inX : O2 := fun k d h => match d with
  | .ref n => match h[n]? with
    | some (.dict kvs) => (keyOf k).map fun k => (.bl (valD kvs k).isSome, h)
    | _ => uo k d h
  | _ => uo k d h
def vK : O2 := fun k d h => match d with
  | .ref n => match h[n]? with
    | some (.dict kvs) => (keyOf k).map fun k => (.bl (!(valD kvs k).isSome), h)
    | _ => uw k d h
  | _ => uw k d h
theorem KR.isSome {K : PySem.W.Frag} {H : Hp} {al : Al} {kvs : List (Key × D)} {ws : List (Key × V)} (r : KR K H al kvs ws) (k : Key) : (valV ws k).isSome = (valD kvs k).isSome := by
  rcases r.val k with ⟨a, b⟩ | ⟨d, v, a, b, _⟩ <;> rw [a, b] <;> rfl
theorem vm (hu : X.A.units + 64 < cLine) : OpR X (compareOp .In) (r2 X.K inX) := by
  rintro pins s σ H x y v u Q I rx ry ⟨d, e, al, h, r, p, q, po⟩
  unfold inX at po
  split at po
  · rename_i n
    split at po
    · rename_i kvs hk
      cases q with
      | ref z =>
        obtain ⟨ws, e1, kr⟩ := r.dct z hk
        cases ek : keyOf d with
        | none => rw [ek] at po; exact False.elim po
        | some k =>
          rw [ek] at po
          obtain rfl := uR p ek
          obtain rfl : u = Value.ref _ := ry
          refine d_in (hu1 hu) I (DGet.k e1) rx fun s3 I3 => ⟨.bl (valV ws k).isSome, H, I3, rfl, ?_⟩
          rw [kr.isSome]
          exact po _ _ _ .refl r (.bl _)
    · exact aew pins s σ H x y v u Q I rx ry ⟨d, _, al, h, r, p, q, po⟩
  · exact aew pins s σ H x y v u Q I rx ry ⟨d, e, al, h, r, p, q, po⟩
def tE (o i v : D) (h : AH) : Option AH := match o with
  | .ref n => match h[n]? with
    | some (.dict kvs) => match keyOf i with
      | some k => if kvs.length < 16777216 then some (h.set n (.dict (gq kvs k v))) else none
      | none => none
    | _ => match i with
      | .int k => jQ n k v h
      | _ => none
  | _ => none
def iQ (fo fi : ME) : MG := fun v e h => (fo e h).bind fun o h1 => (fi e h1).bind fun i h2 => match tE o i v h2 with
  | some h3 => .ok e h3
  | none => .stuck
def ajA (K : PySem.W.Frag) : TSet := fun o i v H Q => ∃ d e f al h, HR K H al h ∧ Rp K H al d o ∧ Rp K H al e i ∧ Rp K H al f v ∧
  ∃ h', tE d e f h = some h' ∧ ∀ H' aQ, Le H al H' aQ → HR K H' aQ h' → Q H'
theorem agb (hu : X.A.units + 64 < cLine) : PSet X (ajA X.K) := by
  have hsz : sizeLine = 16777216 := sizeLine_eq
  rintro pins s σ H o i v ov iv u Q I ro ri rv ⟨d, e, f, al, h, r, p, q, pv, h', eh, po⟩
  unfold tE at eh
  split at eh
  · rename_i n
    cases p with
    | ref z =>
      split at eh
      · rename_i kvs hk
        obtain ⟨ws, e1, kr⟩ := r.dct z hk
        split at eh
        · rename_i k ek
          split at eh
          · rename_i hl
            cases eh
            obtain rfl := uR q ek
            obtain rfl : ov = Value.ref _ := ro
            obtain ⟨r3, l3⟩ := r.adi z (kr.put k pv)
            exact d_setItem (hu1 hu) I (DPut.k e1 (by rw [kr.length, hsz]; exact hl)) ri rv fun s4 I4 => ⟨_, I4, po _ _ l3 r3⟩
          · cases eh
        · cases eh
      · split at eh
        · rename_i k
          cases q
          unfold jQ at eh
          split at eh
          · rename_i xs hx
            obtain ⟨vs, e1, qs⟩ := r.lst z hx
            cases w : ixN xs.length k with
            | none => rw [w] at eh; cases eh
            | some j =>
              rw [w] at eh
              cases eh
              obtain ⟨r3, l3⟩ := r.put (o := .lst (vs.set j v)) (c := .lst (xs.set j f)) z fun H' aQ l' e' => ⟨_, e', (qs.mono r l').set (pv.mono r l') j⟩
              exact set_list pins s σ H _ _ _ ov iv u Q I ro ri rv ⟨_, vs, k, j, rfl, rfl, e1, by rw [← qs.length]; exact w, po _ _ l3 r3⟩
          · cases eh
        · cases eh
  · cases eh
theorem rR {o i : Expr} {fo fi : ME} {pos : Pos} (hu : X.A.units + 64 < cLine) (ho : PE X o (rd X.K W fo)) (hi : PE X i (rd X.K W fi))
    (ha : ∀ v, assign (.Subscript o i pos) X.env v = (do
      let ov ← holding [v] (eval o X.env)
      let iv ← holding [v, ov] (eval i X.env)
      standAt pos
      holding [v, ov, iv] (setItem ov iv v)
      release [v, ov, iv] []) := by intro _; rfl) : PG X (.Subscript o i pos) (Bv X.K W (iQ fo fi)) :=
  (pg_sub ho hi (agb hu) ha).weak fun v σ H Q ⟨d, e, al, h, r, re, q, p⟩ => by
    refine ⟨e, al, h, r, re, (bJ.bind p).mono ?_⟩
    rintro vo H1 ⟨d1, bf, h1, l1, r1, q1, p1⟩
    refine ⟨e, bf, h1, r1, re.mono r l1, (bJ.bind p1).mono ?_⟩
    rintro vi H2 ⟨d2, dD, h2, l2, r2, q2, p2⟩
    split at p2
    · rename_i h3 eh
      exact ⟨d1, d2, d, dD, h2, r2, q1.mono r1 l2, q2, (q.mono r l1).mono r1 l2, h3, eh, fun H' aQ l' r' => p2 _ _ _ l' r' (((re.mono r l1).mono r1 l2).mono r2 l')⟩
    · exact p2.elim
def jZ : ME := fun _ h => .ok (.ref h.length) (h ++ [.dict []])
theorem BX {pos : Pos} : PE X (.Dict [] [] pos) (rd X.K W jZ) :=
  pe_dnewK.weak fun σ H Q ⟨e, al, h, r, re, p⟩ => fun a n => by
    obtain ⟨r', l⟩ := r.push (o := .dK []) (c := .dict []) n fun H' aQ l e => ⟨[], e, rfl, .nil⟩
    exact p _ _ _ l r' (.ref (by rw [← r.len]; simp))
def BZ : List (ME × ME) → En → AH → Res (List (D × D))
  | [], _, h => .ok [] h
  | (fk, fv) :: r, e, h => (fk e h).bind fun k h1 => (fv e h1).bind fun v h2 => (BZ r e h2).bind fun ps h3 => .ok ((k, v) :: ps) h3
def keysOf : List (D × D) → Option (List (Key × D))
  | [] => some []
  | (k, v) :: r => (keyOf k).bind fun k => (keysOf r).map fun r => (k, v) :: r
def Pa (ps : List (ME × ME)) : ME := fun e h => (BZ ps e (h ++ [.dict []])).bind fun qs h2 => match keysOf qs, h2[h.length]? with
  | some kvs, some (.dict []) => if qs.length ≤ 15 then .ok (.ref h.length) (h2.set h.length (.dict (BW [] kvs))) else .stuck
  | _, _ => .stuck
inductive RpP (K : PySem.W.Frag) (H : Hp) (al : Al) : List (D × D) → List (V × V) → Prop
  | nil : RpP K H al [] []
  | cons {k d : D} {x y : V} {ds : List (D × D)} {vs : List (V × V)} : Rp K H al k x → Rp K H al d y → RpP K H al ds vs → RpP K H al ((k, d) :: ds) ((x, y) :: vs)
theorem Rh {K : PySem.W.Frag} : ∀ (ps : List (ME × ME)) {σ : L2.St} {e : En} {H : Hp} {al : Al} {h : AH} {Q : List (V × V) → Hp → Prop}, HR K H al h → iG K H al e σ →
    bJ K (fun H al d v => RpP K H al d v) H al (fun c d H' => W c d σ H') Q (BZ ps e h) → tPairs (ps.map fun p => (rd K W p.1, rd K W p.2)) σ H Q
  | [], σ, e, H, al, h, Q, r, re, p => p _ _ _ .refl r .nil
  | (fk, fv) :: ps, σ, e, H, al, h, Q, r, re, p => by
    refine ⟨e, al, h, r, re, (bJ.bind p).mono ?_⟩
    rintro vk H1 ⟨d1, bf, h1, l1, r1, q1, p1⟩
    refine ⟨e, bf, h1, r1, re.mono r l1, (bJ.bind p1).mono ?_⟩
    rintro vv H2 ⟨d2, dD, h2, l2, r2, q2, p2⟩
    refine Rh ps r2 ((re.mono r l1).mono r1 l2) ((bJ.bind p2).mono ?_)
    rintro vs H3 ⟨ds, Rb, h3, l3, r3, q3, p3⟩
    exact p3 _ _ _ .refl r3 (.cons ((q1.mono r1 l2).mono r2 l3) (q2.mono r2 l3) q3)
theorem Ri {K : PySem.W.Frag} {H : Hp} {al : Al} : ∀ {qs : List (D × D)} {vs : List (V × V)} {kvs : List (Key × D)}, RpP K H al qs vs → keysOf qs = some kvs → ∃ ws, vs = ws.map (fun kv => (kV kv.1, kv.2)) ∧ KR K H al kvs ws ∧ ws.length = qs.length
  | _, _, _, .nil, e => by cases e; exact ⟨[], rfl, .nil, rfl⟩
  | _, _, _, .cons (k := k) (ds := ds) a b c, e => by
    simp only [keysOf] at e
    cases ek : keyOf k with
    | none => rw [ek] at e; cases e
    | some k' =>
      cases er : keysOf ds with
      | none => rw [ek, er] at e; cases e
      | some r =>
        rw [ek, er] at e
        cases e
        obtain ⟨ws, rfl, kr, hl⟩ := Ri c er
        obtain rfl := uR a ek
        exact ⟨(k', _) :: ws, rfl, .cons b kr, by simp [hl]⟩
theorem adl {pos : Pos} {keys : List (Option Expr)} {values : List Expr} {ps : List (ME × ME)} (h : PPs X pos keys values (ps.map fun p => (rd X.K W p.1, rd X.K W p.2))) (hall : keys.all (·.isSome) = true := by rfl) (hl : keys.length = values.length := by rfl) (h0 : keys ≠ [] := by intro z; cases z)
    (h15 : keys.length ≤ 15 := by decide) : PE X (.Dict keys values pos) (rd X.K W (Pa ps)) :=
  (pe_disp h hall hl h0 h15).weak fun σ H Q ⟨e, al, h, r, re, p⟩ => fun a n => by
    obtain ⟨r', l⟩ := r.push (o := .dK []) (c := .dict []) n fun H' aQ l e => ⟨[], e, rfl, .nil⟩
    have hn : (al.c ++ [a])[h.length]? = some a := by rw [← r.len]; simp
    refine Rh ps r' (re.mono r l) ((bJ.bind (bJ.le p l)).mono ?_)
    rintro vs H2 ⟨qs, dD, h2, l2, r2, q2, p2⟩
    split at p2
    · rename_i kvs ek eh
      split at p2
      · rename_i hq
        have z := l2.Bu.get hn
        obtain ⟨ws0, e1, kr0⟩ := r2.dct z eh
        obtain ⟨ws, rfl, kr, hw⟩ := Ri q2 ek
        have : ws0 = [] := List.length_eq_zero_iff.mp kr0.length
        subst this
        refine ⟨e1, ws, rfl, by omega, ?_⟩
        obtain ⟨r3, l3⟩ := r2.adi z (kr.merge .nil)
        exact p2 _ _ _ l3 r3 (.ref z)
      · exact p2.elim
    · exact p2.elim
def getM : OM
  | .ref n, [k], h => match h[n]?, keyOf k with
    | some (.dict kvs), some k => some ((valD kvs k).getD .non, h)
    | _, _ => none
  | .ref n, [k, x], h => match h[n]?, keyOf k with
    | some (.dict kvs), some k => some ((valD kvs k).getD x, h)
    | _, _ => none
  | _, _, _ => none
theorem ajB (hu : X.A.units + 64 < cLine) : MtR X "dict.get" (rM X.K getM) := by
  rintro pins s σ H x xs v us Q I rx rv ⟨d, ds, al, h, r, p, q, po⟩
  unfold getM at po
  split at po
  · rename_i n k h'
    cases p with
    | ref z =>
      match q with
      | .cons qk .nil =>
        split at po
        · rename_i kvs k' hk ek
          obtain ⟨ws, e1, kr⟩ := r.dct z hk
          obtain rfl := uR qk ek
          obtain rfl : v = Value.ref _ := rx
          cases rv with
          | cons r1 r2 =>
            cases r2
            refine d_get1 (hu1 hu) I (DGet.k e1) r1 fun w' s3 I3 rw' => ⟨_, H, I3, rw', ?_⟩
            rcases kr.val k' with ⟨a, b⟩ | ⟨d', v', a, b, q'⟩
            · rw [b]; rw [a] at po; exact po _ _ _ .refl r .non
            · rw [b]; rw [a] at po; exact po _ _ _ .refl r q'
        · exact po.elim
  · rename_i n k z' h'
    cases p with
    | ref z =>
      match q with
      | .cons qk (.cons qz .nil) =>
        split at po
        · rename_i kvs k' hk ek
          obtain ⟨ws, e1, kr⟩ := r.dct z hk
          obtain rfl := uR qk ek
          obtain rfl : v = Value.ref _ := rx
          cases rv with
          | cons r1 r2 =>
            cases r2 with
            | cons r2 r3 =>
              cases r3
              refine d_get2 (hu1 hu) I (DGet.k e1) r1 r2 fun w' s3 I3 rw' => ⟨_, H, I3, rw', ?_⟩
              rcases kr.val k' with ⟨a, b⟩ | ⟨d', v', a, b, q'⟩
              · rw [b]; rw [a] at po; exact po _ _ _ .refl r qz
              · rw [b]; rw [a] at po; exact po _ _ _ .refl r q'
        · exact po.elim
  · exact po.elim
end
end PD
namespace PD
open PySem PySem.Spec PyProof.Rows L2
def uU {α β : Type} (f : α → Option β) : List α → Option (List β)
  | [] => some []
  | d :: ds => (f d).bind fun p => (uU f ds).map (p :: ·)
def nY (h : AH) : Nat → D → Option PyData
  | 0, _ => none
  | _ + 1, .non => some .none
  | _ + 1, .bl b => some (.bool b)
  | _ + 1, .int i => some (.int i)
  | _ + 1, .str x => some (.str x)
  | f + 1, .tup ds => (uU (nY h f) ds).map .tuple
  | f + 1, .lst ds => (uU (nY h f) ds).map .list
  | f + 1, .dB ds => (uU (nY h f) ds).map .list
  | f + 1, .ref n => match h[n]? with
    | some (.lst ds) => (uU (nY h f) ds).map .list
    | _ => none
  | _ + 1, _ => none
section
variable {K : PySem.W.Frag} {H : Hp} {al : Al} {h : AH}
theorem yP {F : D → Option PyData} : ∀ {ds : List D} {vs : List V} {ps : List PyData}, (∀ d v p, Rp K H al d v → F d = some p → Dp K H v p) → bx K H al ds vs → uU F ds = some ps → DpAll K H vs ps
  | _, _, _, hF, .nil, e => by simp only [uU] at e; cases e; exact .nil
  | _, _, _, hF, .cons q qs, e => by
    simp only [uU] at e
    obtain ⟨p, e1, e2⟩ := Option.bind_eq_some_iff.mp e
    obtain ⟨ps, e3, e4⟩ := Option.map_eq_some_iff.mp e2
    cases e4
    exact .cons (hF _ _ _ q e1) (yP hF qs e3)
theorem Rp.dpr (r : HR K H al h) : ∀ (f : Nat) (d : D) (v : V) (p : PyData), Rp K H al d v → nY h f d = some p → Dp K H v p
  | 0, _, _, _, _, e => by simp [nY] at e
  | f + 1, _, _, _, .non, e => by simp only [nY] at e; cases e; exact .non
  | f + 1, _, _, _, .bl b, e => by simp only [nY] at e; cases e; exact .bl b
  | f + 1, _, _, _, .int i, e => by simp only [nY] at e; cases e; exact .int i
  | f + 1, _, _, _, .str x, e => by simp only [nY] at e; cases e; exact .str x
  | f + 1, _, _, _, .ty _, e => by simp [nY] at e
  | f + 1, _, _, _, .glo _, e => by simp [nY] at e
  | f + 1, _, _, _, .obj _ _ _, e => by simp [nY] at e
  | f + 1, _, _, _, .tup s q, e => by
    simp only [nY] at e
    obtain ⟨ps, e1, e2⟩ := Option.map_eq_some_iff.mp e
    cases e2
    exact .tup s (yP (Rp.dpr r f) q e1)
  | f + 1, _, _, _, .lst s q, e => by
    simp only [nY] at e
    obtain ⟨ps, e1, e2⟩ := Option.map_eq_some_iff.mp e
    cases e2
    exact .lst s.sq (yP (Rp.dpr r f) q e1)
  | f + 1, _, _, _, .dB s q, e => by
    simp only [nY] at e
    obtain ⟨ps, e1, e2⟩ := Option.map_eq_some_iff.mp e
    cases e2
    exact .lst s.sq (yP (Rp.dpr r f) q e1)
  | f + 1, _, _, _, .ref z, e => by
    simp only [nY] at e
    split at e
    · rename_i ds hd
      obtain ⟨vs, e1, q⟩ := r.lst z hd
      obtain ⟨ps, e2, e3⟩ := Option.map_eq_some_iff.mp e
      cases e3
      exact .lst (SqL.of e1) (yP (Rp.dpr r f) q e2)
    · cases e
end
def dI (h : AH) (d e : D) : Option Bool := match nY h 80 d, nY h 80 e with
  | some p, some q => if SeqAt.shaped p = true ∧ SeqAt.shaped q = true then some (PyData.eqv p q) else none
  | _, _ => none
def cW : O2 := fun d e h => (dI h d e).map fun b => (.bl b, h)
def jX : O2 := fun d e h => (dI h d e).map fun b => (.bl (!b), h)
section
variable {X : Cx} {W : WX}
theorem aa9 {K : PySem.W.Frag} {H : Hp} {al : Al} {h : AH} {d e : D} {x y : V} {b : Bool} (r : HR K H al h) (p : Rp K H al d x) (q : Rp K H al e y) (z : dI h d e = some b) : ∃ d e, Dp K H x d ∧ Dp K H y e ∧ SeqAt.shaped d = true ∧ SeqAt.shaped e = true ∧ PyData.eqv d e = b := by
  unfold dI at z
  split at z
  · rename_i p' q' h1 h2
    split at z
    · rename_i hs
      cases z
      exact ⟨p', q', Rp.dpr r _ _ _ _ p h1, Rp.dpr r _ _ _ _ q h2, hs.1, hs.2, rfl⟩
    · cases z
  · cases z
theorem cP (hu : X.A.units + 64 < cLine) : OpR X (compareOp .Eq) (r2 X.K cW) := by
  rintro pins s σ H x y v u Q I rx ry ⟨d, e, al, h, r, p, q, po⟩
  unfold cW at po
  cases z : dI h d e with
  | none => rw [z] at po; exact False.elim po
  | some b =>
    rw [z] at po
    obtain ⟨d', e', h1, h2, h3, h4, rfl⟩ := aa9 r p q z
    exact op_eqD hu pins s σ H _ _ v u Q I rx ry ⟨d', e', h1, h2, h3, h4, po _ _ _ .refl r (.bl _)⟩
theorem pD (hu : X.A.units + 64 < cLine) : OpR X (compareOp .NotEq) (r2 X.K jX) := by
  rintro pins s σ H x y v u Q I rx ry ⟨d, e, al, h, r, p, q, po⟩
  unfold jX at po
  cases z : dI h d e with
  | none => rw [z] at po; exact False.elim po
  | some b =>
    rw [z] at po
    obtain ⟨d', e', h1, h2, h3, h4, rfl⟩ := aa9 r p q z
    exact op_neD hu pins s σ H _ _ v u Q I rx ry ⟨d', e', h1, h2, h3, h4, po _ _ _ .refl r (.bl _)⟩
def aeA : D → Option (Int × Int)
  | .tup [.int i, .int j] => some (i, j)
  | _ => none
def prD (p : Int × Int) : D := .tup [.int p.1, .int p.2]
def Pb (p q : Int × Int) : Bool := !SrtO.lexB q p
def Ud (ps : List (Int × Int)) : List (Int × Int) := ps.mergeSort Pb
def ZJ (h : AH) : D → Option (List D)
  | .lst ds => some ds
  | .dB ds => some ds
  | .ref n => match h[n]? with
    | some (.lst ds) => some ds
    | _ => none
  | _ => none
theorem Ca {K : PySem.W.Frag} {H : Hp} {al : Al} {h : AH} {d : D} {v : V} {ds : List D} (r : HR K H al h) (q : Rp K H al d v) (e : ZJ h d = some ds) : ∃ a vs, v = .ref a ∧ SqL K H a vs ∧ bx K H al ds vs := by
  cases q with
  | lst s q => cases e; exact ⟨_, _, rfl, s.sq, q⟩
  | dB s q => cases e; exact ⟨_, _, rfl, s.sq, q⟩
  | ref z =>
    simp only [ZJ] at e
    split at e
    · rename_i ds' hd
      cases e
      obtain ⟨vs, e1, q⟩ := r.lst z hd
      exact ⟨_, _, rfl, SqL.of e1, q⟩
    · cases e
  | _ => cases e
def ZK : ON
  | [d], h => match (ZJ h d).bind (uU aeA) with
    | some ps => some (.ref h.length, h ++ [.lst ((Ud ps).map prD)])
    | none => none
  | _, _ => none
theorem ahS (a b c : Int × Int) (h1 : Pb a b = true) (h2 : Pb b c = true) : Pb a c = true := by
  simp only [Pb, Bool.not_eq_true'] at *
  have x := SrtO.lexB_no.mp h1
  have y := SrtO.lexB_no.mp h2
  refine SrtO.lexB_no.mpr ?_
  omega
theorem agc (a b : Int × Int) : (Pb a b || Pb b a) = true := by
  simp only [Pb, Bool.or_eq_true, Bool.not_eq_true']
  by_cases h : SrtO.lexB b a = true
  · right
    have := SrtO.lexB_iff.mp h
    refine SrtO.lexB_no.mpr ?_
    omega
  · left
    simpa using h
theorem aeB : SrtO.Swo SrtO.lexB := by
  refine ⟨fun x y h => ?_, fun x y z h1 h2 => ?_⟩
  · have a := SrtO.lexB_iff.mp h
    exact SrtO.lexB_no.mpr (by omega)
  · have a := SrtO.lexB_no.mp h1
    have b := SrtO.lexB_no.mp h2
    exact SrtO.lexB_no.mpr (by omega)
theorem aeC {x y : Int × Int} (h : SrtO.eqv SrtO.lexB x y = true) : y = x := by
  simp only [SrtO.eqv, Bool.and_eq_true, Bool.not_eq_true'] at h
  have a := SrtO.lexB_no.mp h.1
  have b := SrtO.lexB_no.mp h.2
  obtain ⟨x1, x2⟩ := x
  obtain ⟨y1, y2⟩ := y
  simp only at a b
  have e1 : y1 = x1 := by omega
  have e2 : y2 = x2 := by omega
  rw [e1, e2]
theorem aaE {l m : List (Int × Int)} (h : l.Perm m) : SrtO.Stb SrtO.lexB l m := by
  refine ⟨h, fun x => ?_⟩
  have p := h.filter (SrtO.eqv SrtO.lexB x)
  have r : ∀ k : List (Int × Int), ∀ y ∈ k.filter (SrtO.eqv SrtO.lexB x), y = x := fun k y hy => aeC (List.mem_filter.mp hy).2
  rw [List.eq_replicate_of_mem (r l), List.eq_replicate_of_mem (r m), p.length_eq]
theorem aeD {l ps : List (Int × Int)} (h : SrtO.Srtd SrtO.lexB l) (p : l.Perm ps) : l = Ud ps := by
  have q : (Ud ps).Perm ps := List.mergeSort_perm _ _
  have s : SrtO.Srtd SrtO.lexB (Ud ps) := by
    refine (List.pairwise_mergeSort ahS agc ps).imp fun h => ?_
    simpa [Pb] using h
  exact SrtO.stb_uniq aeB h s (aaE (p.trans q.symm))
theorem adn {K : PySem.W.Frag} {H : Hp} {al : Al} : ∀ {ds : List D} {vs : List V} {ps : List (Int × Int)}, bx K H al ds vs → uU aeA ds = some ps → Paired (fun v p => ∃ t, v = V.ref t ∧ SqT K H t [.int p.1, .int p.2]) vs ps
  | _, _, _, .nil, e => by simp only [uU] at e; cases e; exact .nil
  | _, _, _, .cons (d := d) q qs, e => by
    simp only [uU] at e
    obtain ⟨p, e1, e2⟩ := Option.bind_eq_some_iff.mp e
    obtain ⟨ps, e3, e4⟩ := Option.map_eq_some_iff.mp e2
    cases e4
    refine .cons ?_ (adn qs e3)
    unfold aeA at e1
    split at e1
    · cases e1
      cases q with
      | tup sq ql =>
        cases ql with
        | cons a b =>
          cases b with
          | cons b c =>
            cases a; cases b; cases c
            exact ⟨_, rfl, sq⟩
    · cases e1
theorem Paired.mem {α β : Type} {R : α → β → Prop} : ∀ {xs : List α} {ys : List β}, Paired R xs ys → ∀ x ∈ xs, ∃ y, R x y
  | _, _, .nil, _, h => by cases h
  | _, _, .cons a b, x, h => by
    rcases List.mem_cons.mp h with rfl | h
    · exact ⟨_, a⟩
    · exact Paired.mem b x h
theorem Paired.ahT {α β : Type} {R : α → β → Prop} {k : α → β} : ∀ {xs : List α} {ys : List β}, Paired R xs ys → (∀ x y, R x y → k x = y) → xs.map k = ys
  | _, _, .nil, _ => rfl
  | _, _, .cons a b, h => by rw [List.map_cons, h _ _ a, Paired.ahT b h]
open Classical in
theorem akf : CallR X (.builtin "sorted") (rN X.K ZK) := by
  rintro pins s σ H xs us Q I rv ⟨ds, al, h, r, p, po⟩
  cases p with
  | nil => exact False.elim po
  | cons q qs =>
    cases qs with
    | cons _ _ => exact False.elim po
    | nil =>
      simp only [ZK] at po
      split at po
      · rename_i ps eps
        obtain ⟨es, ee, e2⟩ := Option.bind_eq_some_iff.mp eps
        obtain ⟨a, vs, rfl, sq, ql⟩ := Ca r q ee
        have pr := adn ql e2
        let R : V → Int × Int → Prop := fun v p => ∃ t, v = V.ref t ∧ SqT X.K H t [.int p.1, .int p.2]
        have uq : ∀ v p q, R v p → R v q → q = p := by
          rintro v ⟨p1, p2⟩ ⟨q1, q2⟩ ⟨t, rfl, h1⟩ ⟨t', e, h2⟩
          cases e
          have := I.tuple_inj h1 h2
          simp only [List.cons.injEq, V.int.injEq, and_true] at this
          rw [this.1, this.2]
        let k : V → Int × Int := fun v => if z : ∃ p, R v p then Classical.choose z else (0, 0)
        have hk : ∀ v p, R v p → k v = p := fun v p hp => by
          have z : ∃ p, R v p := ⟨p, hp⟩
          show (if z : ∃ p, R v p then Classical.choose z else (0, 0)) = p
          rw [dif_pos z]
          exact uq v _ _ hp (Classical.choose_spec z)
        have mk : vs.map k = ps := Paired.ahT pr fun v p h => hk v p h
        have hx : ∀ x ∈ vs, R x (k x) := fun x m => by
          obtain ⟨p, hp⟩ := Paired.mem pr x m
          rw [hk x p hp]
          exact hp
        obtain ⟨its, rl, hl, hz⟩ := I.list sq
        obtain ⟨u, rfl, ru⟩ := vals1 rv
        obtain rfl : u = Value.ref a := ru
        obtain ⟨b1, b2⟩ := refs_back rl fun x m => by
          obtain ⟨t, e, _⟩ := hx x m
          exact ⟨t, e⟩
        refine SrtO.sorted_pairsO (k := fun u => k (backV u)) hl.isList (by rw [← rl.length]; exact hz) (fun v hv => ?_) fun h' d out h1 h2 kp hd hn => ?_
        · obtain ⟨t, rfl⟩ := b2 v hv
          have hm : V.ref t ∈ vs := by rw [b1]; exact List.mem_map.mpr ⟨_, hv, rfl⟩
          obtain ⟨t', e, ht⟩ := hx _ hm
          cases e
          obtain ⟨its2, r2, ⟨o, ho, hc, n, hd⟩, _⟩ := I.tuple ht
          obtain ⟨u1, u2, rfl, ri, rj⟩ := vals2 r2
          obtain ⟨t1, rfl⟩ := ri
          obtain ⟨t2, rfl⟩ := rj
          exact ⟨t, o, t1, t2, n, rfl, ho, hc, hd⟩
        · have h3 : ∀ u ∈ out, ∃ a, u = Value.ref a := fun u hu => b2 u (h2.perm.mem_iff.mp hu)
          obtain ⟨n, hn⟩ := hn
          have hb : SrtO.Stb (ltP k) (out.map backV) vs := by
            rw [b1]
            exact SrtO.Stb.map (ltP_swo k) backV h2
          have fresh := I.hok.fresh hd
          have sr : SrtO.Srtd SrtO.lexB ((out.map backV).map k) := SrtO.srtd_map (lt := SrtO.lexB) (f := k) (SrtO.srtd_map (lt := ltP k) (f := backV) h1)
          have pe : ((out.map backV).map k).Perm ps := by rw [← mk]; exact hb.perm.map k
          have eo := aeD sr pe
          refine ⟨.ref d, upd H d (.lst (out.map backV)), I.laid (t' := s.toks) kp hd ⟨?_, out, n, vals_back h3, hn⟩, rfl, ?_⟩
          · rw [hb.len]
            exact hz
          · refine cO.aaT r (vs := out.map backV) ?_ po fresh
            rw [← eo, List.map_map]
            have : ∀ l : List V, (∀ y ∈ l, R y (k y)) → bx X.K H al (l.map (prD ∘ k)) l := fun l => by
              induction l with
              | nil => exact fun _ => .nil
              | cons y l ih =>
                intro hl
                obtain ⟨t, e, ht⟩ := hl y List.mem_cons_self
                refine .cons ?_ (ih fun z hz => hl z (List.mem_cons_of_mem _ hz))
                show Rp X.K H al (prD (k y)) y
                rw [e] at ht ⊢
                exact .tup ht (.cons (.int _) (.cons (.int _) .nil))
            exact this _ fun y hy => hx y (hb.perm.mem_iff.mp hy)
      · exact False.elim po
end
end PD
namespace PD
open PySem PySem.Spec PyProof.Rows L2
section
variable {X : Cx} {W : WX}
def nj (i : Int) : Bool := decide (-(2 ^ 64) < i ∧ i < 2 ^ 64)
def pF : O2
  | .int i, .int j, h => if nj i || nj j then some (.int (i * j), h) else mulM (.int i) (.int j) h
  | d, e, h => mulM d e h
theorem Cd : OpR X (binaryOp .Mult) (r2 X.K pF) := by
  rintro pins s σ H x y v u Q I rx ry ⟨d, e, al, h, r, p, q, po⟩
  unfold pF at po
  split at po
  · rename_i h' i j
    split at po
    · rename_i hl
      cases p; cases q
      refine op_mul pins s σ H _ _ v u Q I rx ry ⟨i, j, rfl, rfl, ?_, po _ _ _ .refl r (.int _)⟩
      rcases Bool.or_eq_true_iff.mp hl with z | z
      · exact .inl (of_decide_eq_true z)
      · exact .inr (of_decide_eq_true z)
    · exact afx pins s σ H x y v u Q I rx ry ⟨_, _, al, h, r, p, q, po⟩
  · exact afx pins s σ H x y v u Q I rx ry ⟨d, e, al, h, r, p, q, po⟩
def wR (l : List (Str × (List D → AH → Res D))) (x : Str) : Option (List D → AH → Res D) := (l.find? fun q => decide (q.1 = x)).map (·.2)
def oA (P : Str → (List D → AH → Res D) → Prop) (l : List (Str × (List D → AH → Res D))) : Prop := ∀ q ∈ l, P q.1 q.2
theorem oA.nil {P : Str → (List D → AH → Res D) → Prop} : oA P [] := fun _ h => nomatch h
theorem oA.cons {P : Str → (List D → AH → Res D) → Prop} {x : Str} {m : List D → AH → Res D} {l : List (Str × (List D → AH → Res D))} (h : P x m) (r : oA P l) : oA P ((x, m) :: l) := fun q hq => by
  rcases List.mem_cons.mp hq with rfl | hq
  · exact h
  · exact r q hq
theorem oA.get {P : Str → (List D → AH → Res D) → Prop} {l : List (Str × (List D → AH → Res D))} (r : oA P l) : ∀ x m, wR l x = some m → P x m := fun x m h => by
  obtain ⟨q, hq, rfl⟩ := Option.map_eq_some_iff.mp h
  have e : q.1 = x := of_decide_eq_true (List.find?_some (p := fun q : Str × (List D → AH → Res D) => decide (q.1 = x)) hq)
  subst e
  exact r q (List.mem_of_find?_eq_some hq)
end
end PD
namespace PD
open PySem PySem.Spec PyProof.Rows L2
theorem at0 {α : Type} {a : α} {l : List α} : atI (a :: l) 0 = some a := by
  simp [atI, ixN]
theorem atN {α : Type} (k : Nat) (l : List α) : atI l ((k : Nat) : Int) = l[k]? := by
  unfold atI ixN
  rw [if_pos (by omega)]
  by_cases h : ((k : Nat) : Int) < l.length
  · rw [if_pos h]; rfl
  · rw [if_neg h, List.getElem?_eq_none (by omega)]; rfl
theorem at1 {α : Type} {a b : α} {l : List α} : atI (a :: b :: l) 1 = some b := atN 1 _
theorem at2 {α : Type} {a b c : α} {l : List α} : atI (a :: b :: c :: l) 2 = some c := atN 2 _
theorem Ao {α : Type} {a b c d : α} {l : List α} : atI (a :: b :: c :: d :: l) 3 = some d := atN 3 _
theorem Aq {α : Type} {a b c d e : α} {l : List α} : atI (a :: b :: c :: d :: e :: l) 4 = some e := atN 4 _
theorem eX {b : Bool} {h : AH} : tTru (.bl b) h = .ok b h := rfl
theorem mj : ixN 3 0 = some 0 := rfl
theorem mD : ixN 3 2 = some 2 := rfl
theorem zJ (i : Int) : SeqAt.shaped (.int i) = true := by
  unfold SeqAt.shaped PyData.canLay0 PyData.depth
  rfl
theorem vX {z : Str} (h : GB.Ed z) : SeqAt.shaped (.str z) = true := by
  unfold SeqAt.shaped PyData.canLay0 PyData.depth
  rw [GB.rO h]
  rfl
theorem Qw {a b : Int} {h : AH} : eqB h (.int a) (.int b) = some (decide (a = b)) := by
  show (if SeqAt.shaped (.int a) = true ∧ SeqAt.shaped (.int b) = true then some (PyData.eqv (.int a) (.int b)) else none) = _
  rw [if_pos ⟨zJ a, zJ b⟩]
  rfl
theorem ZL {a b : Int} {h : AH} : dI h (.int a) (.int b) = some (decide (a = b)) := Qw (h := h)
theorem eY {a b : Int} {h : AH} : eqM (.int a) (.int b) h = some (.bl (decide (a = b)), h) := by
  show (eqB h (.int a) (.int b)).map _ = _
  rw [Qw]
  rfl
theorem aH {a b : Int} {h : AH} : neM (.int a) (.int b) h = some (.bl (!decide (a = b)), h) := by
  show (eqB h (.int a) (.int b)).map _ = _
  rw [Qw]
  rfl
theorem kY {a b : Int} {h : AH} : cW (.int a) (.int b) h = some (.bl (decide (a = b)), h) := by
  show (dI h (.int a) (.int b)).map _ = _
  rw [ZL]
  rfl
theorem mJ {a b : Int} {h : AH} : jX (.int a) (.int b) h = some (.bl (!decide (a = b)), h) := by
  show (dI h (.int a) (.int b)).map _ = _
  rw [ZL]
  rfl
theorem Qx {a b : Str} {h : AH} (ha : GB.Ed a) (hb : GB.Ed b) : eqB h (.str a) (.str b) = some (a == b) := by
  show (if SeqAt.shaped (.str a) = true ∧ SeqAt.shaped (.str b) = true then some (PyData.eqv (.str a) (.str b)) else none) = _
  rw [if_pos ⟨vX ha, vX hb⟩]
  rfl
theorem FZ {a b : Str} {h : AH} (ha : GB.Ed a) (hb : GB.Ed b) : dI h (.str a) (.str b) = some (a == b) := Qx (h := h) ha hb
theorem v8 {s t : String} (e : PySem.Str.ofString s = PySem.Str.ofString t) : s = t := by
  rw [PySem.Str.ofString_eq_toList, PySem.Str.ofString_eq_toList] at e
  have e1 : s.toList.map Char.toNat = t.toList.map Char.toNat := by
    have := congrArg (fun z => z.cps.toList) e
    simpa using this
  have inj : ∀ a b : Char, a.toNat = b.toNat → a = b := fun a b h => Char.ext (UInt32.toNat_inj.mp h)
  have e2 : s.toList = t.toList := by
    generalize s.toList = l at e1
    generalize t.toList = m at e1
    induction l generalizing m with
    | nil => cases m with
      | nil => rfl
      | cons b m => cases e1
    | cons a l ih => cases m with
      | nil => cases e1
      | cons b m =>
        simp only [List.map_cons, List.cons.injEq] at e1
        rw [inj _ _ e1.1, ih m e1.2]
  exact String.toList_inj.mp e2
theorem v9 {s t : String} : (PySem.Str.ofString s == PySem.Str.ofString t) = decide (s = t) := by
  by_cases h : s = t
  · subst h
    rw [decide_eq_true rfl]
    exact beq_self_eq_true _
  · rw [decide_eq_false h]
    exact beq_eq_false_iff_ne.mpr fun e => h (v8 e)
theorem eZ {s t : String} {h : AH} : eqM (.str (PySem.Str.ofString s)) (.str (PySem.Str.ofString t)) h = some (.bl (decide (s = t)), h) := by
  show (eqB h _ _).map _ = _
  rw [Qx (GB.jB s) (GB.jB t), v9]
  rfl
theorem fj {s t : String} {h : AH} : neM (.str (PySem.Str.ofString s)) (.str (PySem.Str.ofString t)) h = some (.bl (!decide (s = t)), h) := by
  show (eqB h _ _).map _ = _
  rw [Qx (GB.jB s) (GB.jB t), v9]
  rfl
theorem kZ {s t : String} {h : AH} : cW (.str (PySem.Str.ofString s)) (.str (PySem.Str.ofString t)) h = some (.bl (decide (s = t)), h) := by
  show (dI h _ _).map _ = _
  rw [FZ (GB.jB s) (GB.jB t), v9]
  rfl
theorem lu {s t : String} {h : AH} : jX (.str (PySem.Str.ofString s)) (.str (PySem.Str.ofString t)) h = some (.bl (!decide (s = t)), h) := by
  show (dI h _ _).map _ = _
  rw [FZ (GB.jB s) (GB.jB t), v9]
  rfl
theorem mK {x : V} : inV x [] = false := rfl
theorem mO {s t : String} {vs : List V} : inV (.str (PySem.Str.ofString s)) (.str (PySem.Str.ofString t) :: vs) = (decide (t = s) || inV (.str (PySem.Str.ofString s)) vs) := by
  show ((PySem.Str.ofString t == PySem.Str.ofString s) || _) = _
  rw [v9]
  rfl
theorem pY {a b : Bool} {vs : List V} : inV (.bl a) (.bl b :: vs) = (decide (b = a) || inV (.bl a) vs) := by
  show (eqV (.bl b) (.bl a) || _) = _
  cases a <;> cases b <;> rfl
theorem jR {k : Key} : valD [] k = none := rfl
theorem jT {s t : String} {v : D} {r : List (Key × D)} : valD ((.inr (PySem.Str.ofString s), v) :: r) (.inr (PySem.Str.ofString t)) = if s = t then some v else valD r (.inr (PySem.Str.ofString t)) := by
  by_cases e : s = t
  · subst e
    simp [valD, List.find?_cons]
  · have n : ¬ (Sum.inr (PySem.Str.ofString s) : Key) = .inr (PySem.Str.ofString t) := fun z => e (v8 (Sum.inr.inj z))
    rw [if_neg e]
    simp [valD, List.find?_cons, n]
theorem ZM {n : Nat} {kvs : List (Key × D)} {h : AH} (e : h[n]? = some (.dict kvs)) : isT "dict" (.ref n) h = true := by
  unfold isT
  simp [e]
theorem aeE {n : Nat} {ds : List D} {h : AH} (e : h[n]? = some (.lst ds)) : isT "list" (.ref n) h = true := by
  unfold isT
  simp [e]
end PD
namespace GB
open PySem PySem.W PyProof.Rows
section
variable {M : Model} {prog : Program} {w : World} {A : Around} {E : Value → Shared → Prop} {s : Shared} {K : Frag} {x C f : Addr} {ox : Obj} {od : Option Obj} {b tb : Value}
end
end GB
namespace PD
open PySem PySem.Spec PyProof.Rows L2
section
variable {X : Cx} {W : WX} {k n : Nat} {f : Addr} {x q : Str} {st : Stmt} {dvs : List V} {kws : List (Str × V)} {ps : List Str} {m : List D → AH → Res D}
end
def ak3 (cs : List Str) (ts : List String) : Option (String ⊕ Str) → Bool
  | some (.inl t) => ts.contains t
  | some (.inr c) => cs.contains c
  | none => false
def ak4 (m : List D → AH → Res D) (ds : List D) (h : AH) : Option (Bool × AH) := match m ds h with
  | .ok (.bl k) h' => some (k, h')
  | _ => none
section
variable {X : Cx} {W : WX} {k : Nat} {f : Addr} {x q : Str} {st : Stmt} {dvs : List V} {kws : List (Str × V)} {ps : List Str} {m : List D → AH → Res D} {cs : List Str} {ts : List String}
end
end PD
namespace GB
open PySem PySem.SeqAt
open AutoSeq1 (wpAny_loadPart')
open MeetsSeq MeetsSeq2 MeetsSeq3 SeqRoads2
section
variable {prog : Program} {w : World} {A : Around} {E : Value → Shared → Prop} {s : Shared}
theorem aeF {R : Result → Shared → Prop} {l b : Addr} {items items2 : Array Value} {n n2 : Nat} {sl sl2 : Array (Option Value)} (hl1 : s.heap.get? l = some { cls := .type "list", data := .seq items n, slots := sl }) (hb1 : s.heap.get? b = some { cls := .type "list", data := .seq items2 n2, slots := sl2 }) (hne : items.size ≠ items2.size)
    (last : R (.ok (.ret (.bool false))) s) : wpAny (model prog w) A.in1 (Builtin.«list.__eq__» ⟨[.ref l, .ref b], []⟩) (GQ.FinOf prog w A R) (fun e s' => R (.error e) s') s := by
  obtain ⟨hp, g, d, tk, os⟩ := s
  have f3 := AutoSeq1.sub_list_list
  have hne : (items.size != items2.size) = true := by simpa using hne
  wp_walk using wpAny_loadPart' hl1, wpAny_loadPart' hb1
  exact last
theorem ahU {l b : Addr} {items items2 : Array Value} {n n2 : Nat} {sl sl2 : Array (Option Value)} {Q : Value → Shared → Prop} (hu : A.units < cLine) (hl1 : s.heap.get? l = some { cls := .type "list", data := .seq items n, slots := sl }) (hb1 : s.heap.get? b = some { cls := .type "list", data := .seq items2 n2, slots := sl2 }) (hne : items.size ≠ items2.size)
    (hq : Q (.bool false) s) : wpAny (model prog w) A (richCompare .Eq (.ref l) (.ref b)) Q E s :=
  wpAny_richCompare_same_room (op := .Eq) ⟨_, hl1, rfl⟩ ⟨_, hb1, rfl⟩ F.slot_list_eq (GQ.call_here F.slot_list_eq ⟨_, hl1, rfl⟩ F.entry_list_eq (F.args_list_eq_2 _ _)
    (aeF (R := wants (fun v s' => v ≠ .notImplemented ∧ Q v s') E) hl1 hb1 hne ⟨(fun z => nomatch z), hq⟩)) hu
end
end GB
namespace PD
open PySem PySem.Spec PyProof.Rows L2
section
variable {X : Cx} {W : WX}
def Rj (o : O2) : O2 := fun d e h => match ZJ h d, ZJ h e with
  | some xs, some ys => if xs.length ≠ ys.length then some (.bl false, h) else o d e h
  | _, _ => o d e h
theorem afC {o : O2} (hu : X.A.units + 64 < cLine) (ho : OpR X (compareOp .Eq) (r2 X.K o)) : OpR X (compareOp .Eq) (r2 X.K (Rj o)) := by
  rintro pins s σ H x y v u Q I rx ry ⟨d, e, al, h, r, p, q, po⟩
  unfold Rj at po
  split at po
  · rename_i xs ys hx hy
    split at po
    · rename_i hn
      obtain ⟨a, vs, rfl, sq, ql⟩ := Ca r p hx
      obtain ⟨b, ws, rfl, sq2, ql2⟩ := Ca r q hy
      obtain ⟨its, rl, pl, hz⟩ := I.list sq
      obtain ⟨its2, rl2, pl2, hz2⟩ := I.list sq2
      obtain rfl : v = Value.ref a := rx
      obtain rfl : u = Value.ref b := ry
      obtain ⟨⟨c1, dd1, dt1, sl1⟩, n1, g1, e1, e2, e3⟩ := pl
      obtain ⟨⟨c2, dd2, dt2, sl2⟩, n2, g2, f1, f2, f3⟩ := pl2
      simp only at e1 e2 e3 f1 f2 f3
      subst e1 e2 e3 f1 f2 f3
      refine GB.ahU (by omega) g1 g2 ?_ ⟨.bl false, H, I, rfl, po _ _ _ .refl r (.bl _)⟩
      rw [List.size_toArray, List.size_toArray, ← rl.length, ← rl2.length, ← ql.length, ← ql2.length]
      exact hn
    · exact ho pins s σ H x y v u Q I rx ry ⟨d, e, al, h, r, p, q, po⟩
  · exact ho pins s σ H x y v u Q I rx ry ⟨d, e, al, h, r, p, q, po⟩
end
end PD
namespace PD
open PySem PySem.Spec PyProof.Rows L2
section
variable {X : Cx} {W : WX} {gt : MG} {fa : ME} {f0 : MS}
abbrev Wlk := List D × (AH → Prop)
open Classical in
noncomputable def lcP (P : AH → Prop) (g : MG) (t : MT) (f : ME) (own : List Nat) (e : En) : List D → List D → AH → Res (List D)
  | acc, [], h => if P h then .ok acc h else .stuck
  | acc, d :: ds, h => if P h then match g d (dN e own) h with
    | .ok e1 h1 => match t e1 h1 with
      | .ok true h2 => match f e1 h2 with
        | .ok x h3 => if acc.length < 16777216 then lcP P g t f own e (acc ++ [x]) ds h3 else .stuck
        | _ => .stuck
      | .ok false h2 => lcP P g t f own e acc ds h2
      | _ => .stuck
    | _ => .stuck
    else .stuck
noncomputable def alV (fin : List D → AH → Res D) (it : En → AH → Res Wlk) (g : MG) (t : MT) (f : ME) (own : List Nat) : ME := fun e h => (it e h).bind fun dp h1 => (lcP dp.2 g t f own e [] dp.1 h1).bind fun r h2 => fin r h2
noncomputable def alY (it : En → AH → Res Wlk) (g : MG) (t : MT) (f : ME) (own : List Nat) : ME := fun e h => (it e h).bind fun dp h1 => (lcP dp.2 g t f own e [] dp.1 h1).bind fun r h2 => .ok (.lst r) h2
noncomputable def alW (it : En → AH → Res Wlk) (g : MG) (t : MT) (f : ME) (own : List Nat) : ME := fun e h => (it e h).bind fun dp h1 => (lcP dp.2 g t f own e [] dp.1 h1).bind fun r h2 => .ok (.ref h2.length) (h2 ++ [.lst r])
section
variable {elt tg iter : Expr} {ifs : List Expr} {scope : Scope} {own : List (Str × Nat)} {it : En → AH → Res Wlk} {t : MT} {f : ME} {pos : Pos}
end
open Classical in
noncomputable def aeG (P : AH → Prop) (g : MG) (b : MS) : List D → En → AH → RS
  | [], e, h => if P h then .nx e h else .stuck
  | d :: ds, e, h => if P h then (g d e h).st e fun e1 h1 => match b e1 h1 with
    | .nx e2 h2 => aeG P g b ds e2 h2
    | .ct e2 h2 => aeG P g b ds e2 h2
    | .bk e2 h2 => .nx e2 h2
    | r => r
    else .stuck
noncomputable def alX (it : En → AH → Res Wlk) (g : MG) (b : MS) : MS := fun e h => (it e h).st e fun dp h1 => aeG dp.2 g b dp.1 e h1
end
end PD
namespace GB
open PySem PySem.W PySem.Spec PySem.Calls PyProof.Rows
section
variable {prog : Program} {w : World} {A : Around} {E : Value → Shared → Prop} {s : Shared}
end
end GB
namespace PD
open PySem PySem.Spec PyProof.Rows L2
section
variable {X : Cx} {W : WX}
end
end PD
namespace L2
open PySem PySem.Spec PyProof.Rows
abbrev Clause := Value × Option Nat × (Addr → Value → Option Addr → TS)
def ZP (K : PySem.W.Frag) (Wout : WX) (D : Ends) : List Clause → WX
  | [] => Wout
  | (c, io, ts) :: r => fun cls d σ H => ∃ b, PySem.W.exmOne K cls c = some b ∧ (b = true → ∀ a, H a = none → match io with
      | none => ts a cls d D σ H
      | some i => ts a cls d { nx := fun σ' H' => D.nx (σ'.set i none) H', rt := D.rt, bk := fun σ' H' => D.bk (σ'.set i none) H', ct := fun σ' H' => D.ct (σ'.set i none) H' } (σ.set i (some (.ref a))) H) ∧ (b = false → ZP K Wout D r cls d σ H)
inductive Qy (X : Cx) : List ExceptHandler → List Clause → Prop
  | nil : Qy X [] []
  | cons {x : Str} {c : Value} {ts : Addr → Value → Option Addr → TS} {b₀ : Stmt} {suite : List Stmt} {np pos' : Pos} {hds : List ExceptHandler} {l : List Clause} (hc : Names X x c)
      (hsu : ∀ (a : Addr) (oe : Obj) (cls : Value) (d : Option Addr) (pn : List (Addr × Obj)), Zc cls d oe → (∃ vs, oe.data = .fields vs) → PSs (X.suite a ((a, oe) :: pn)) (b₀ :: suite) (ts a cls d)) (r : Qy X hds l) :
      Qy X (.ExceptHandler (some (.Name x np)) none (b₀ :: suite) pos' :: hds) ((c, none, ts) :: l)
  | as_ {x n : Str} {c : Value} {i : Nat} {ts : Addr → Value → Option Addr → TS} {b₀ : Stmt} {suite : List Stmt} {np pos' : Pos} {hds : List ExceptHandler} {l : List Clause} (hN : X.N.Nodup) (hi : X.N[i]? = some n) (hln : X.env.kindOf n = some .local) (hc : Names X x c)
      (hsu : ∀ (a : Addr) (oe : Obj) (cls : Value) (d : Option Addr) (pn : List (Addr × Obj)), Zc cls d oe → (∃ vs, oe.data = .fields vs) → PSs (X.suite a ((a, oe) :: pn)) (b₀ :: suite) (ts a cls d)) (r : Qy X hds l) :
      Qy X (.ExceptHandler (some (.Name x np)) (some n) (b₀ :: suite) pos' :: hds) ((c, some i, ts) :: l)
section
variable {X : Cx} {pos : Pos} {Wout : WX} {pins : List (Addr × Obj)} {σ : St} {H : Hp} {D : Ends} {a : Addr} {cls : Value} {d : Option Addr} {u : Shared}
structure wU (X : Cx) (pins : List (Addr × Obj)) (σ : St) (H : Hp) (D : Ends) (Wout : WX) (a : Addr) (cls : Value) (d : Option Addr) (u : Shared) : Prop where
  ok : X.Ok
  free : H a = none
  out : Wout cls d σ H → wpAny (model X.prog X.w) X.A (handleBy (.ref a) X.env []) (SP X pins D) X.xe u
  word : ∀ {x : Str} {np : Pos} {c : Value} {Q : Value → Shared → Prop} {E : Value → Shared → Prop}, Names X x c → Q c u → wpAny (model X.prog X.w) (X.A.mark (some (.ref a))) (eval (.Name x np) X.env) Q E u
  fits : ∀ {c : Value} {b : Bool}, PySem.W.exmOne X.K cls c = some b → PySem.W.Looks (model X.prog X.w) u.heap (excMatches (.ref a) c) b
  land : ∀ {A : Around} {Q : Unit → Shared → Prop} {E : Value → Shared → Prop},
    (∀ u' oe, Zc cls d oe → (∃ vs, oe.data = .fields vs) → Inv (X.suite a ((a, oe) :: (X.pn ++ pins))) [] σ H u' → Q () u') → wpAny (model X.prog X.w) A (setFlight (.ref a) none) Q E u
theorem wU.plain {x : Str} {c : Value} {ts : Addr → Value → Option Addr → TS} {s1 : Stmt} {su : List Stmt} {np p1 : Pos} {rest : List ExceptHandler} {b : Bool} (L : wU X pins σ H D Wout a cls d u) (hc : Names X x c)
    (suite : ∀ (oe : Obj) (pn : List (Addr × Obj)), Zc cls d oe → (∃ vs, oe.data = .fields vs) → PSs (X.suite a ((a, oe) :: pn)) (s1 :: su) (ts a cls d)) (e : PySem.W.exmOne X.K cls c = some b) (yes : b = true → ts a cls d D σ H)
    (no : b = false → wpAny (model X.prog X.w) X.A (handleBy (.ref a) X.env rest) (SP X pins D) X.xe u) :
    wpAny (model X.prog X.w) X.A (handleBy (.ref a) X.env (.ExceptHandler (some (.Name x np)) none (s1 :: su) p1 :: rest)) (SP X pins D) X.xe u := by
  refine wpAny_handleBy_cons (codeAny_handlers_test (L.word hc ((L.fits e).here ?_))) fun q => nomatch q
  cases b with
  | false => exact no rfl
  | true =>
    refine codeAny_handlers_suite (L.land fun u' oe z f I => wpAny_mono ((suite oe _ z f).run [] u' σ H D I (yes rfl)) (fun way s2 r => ?_) fun _ _ q => False.elim q)
    cases way <;> first
      | (obtain ⟨v2, σ2, H2, I2, r2, q2⟩ := r; exact ⟨v2, σ2, H2, I2.unsuite L.ok, r2, q2⟩)
      | (obtain ⟨σ2, H2, I2, q2⟩ := r; exact ⟨σ2, H2, I2.unsuite L.ok, q2⟩)
theorem wU.named {x n : Str} {c : Value} {i : Nat} {ts : Addr → Value → Option Addr → TS} {s1 : Stmt} {su : List Stmt} {np p1 : Pos} {rest : List ExceptHandler} {b : Bool} (L : wU X pins σ H D Wout a cls d u) (hN : X.N.Nodup) (hi : X.N[i]? = some n) (hln : X.env.kindOf n = some .local) (hc : Names X x c)
    (suite : ∀ (oe : Obj) (pn : List (Addr × Obj)), Zc cls d oe → (∃ vs, oe.data = .fields vs) → PSs (X.suite a ((a, oe) :: pn)) (s1 :: su) (ts a cls d)) (e : PySem.W.exmOne X.K cls c = some b)
    (yes : b = true → ts a cls d { nx := fun σ' H' => D.nx (σ'.set i none) H', rt := D.rt, bk := fun σ' H' => D.bk (σ'.set i none) H', ct := fun σ' H' => D.ct (σ'.set i none) H' } (σ.set i (some (.ref a))) H)
    (no : b = false → wpAny (model X.prog X.w) X.A (handleBy (.ref a) X.env rest) (SP X pins D) X.xe u) :
    wpAny (model X.prog X.w) X.A (handleBy (.ref a) X.env (.ExceptHandler (some (.Name x np)) (some n) (s1 :: su) p1 :: rest)) (SP X pins D) X.xe u := by
  refine wpAny_handleBy_cons (codeAny_handlers_test (L.word hc ((L.fits e).here ?_))) fun q => nomatch q
  cases b with
  | false => exact no rfl
  | true =>
    refine codeAny_handlers_suite_as (L.land fun u' oe z f I => ?_)
    refine store_ok (X := X.suite a ((a, oe) :: (X.pn ++ pins))) (v := .ref a) I hN hi (.inl hln) rfl (fun u2 I2 => ?_) (.inr hln)
    refine wpAny_mono ((suite oe _ z f).run [] u2 _ H _ I2 (yes rfl)) (fun way s2 r => ?_) fun _ _ q => False.elim q
    have bye : ∀ {σ2 : St} {H2 : Hp} {R : Shared → Prop}, Inv (X.suite a ((a, oe) :: (X.pn ++ pins))) [] σ2 H2 s2 → (∀ s3, Inv X pins (σ2.set i none) H2 s3 → R s3) →
        wpAny (model X.prog X.w) X.A (do bindName X.env n .none; unbindBehindTheSuite X.env n p1) (fun _ s3 => R s3) X.xe s2 := fun I3 k => gone_ok (I3.unsuite L.ok) hN hi hln k
    cases way <;> first
      | (obtain ⟨v2, σ2, H2, I3, r2, q2⟩ := r; exact bye I3 fun s3 I4 => ⟨v2, _, H2, I4, r2, q2⟩)
      | (obtain ⟨σ2, H2, I3, q2⟩ := r; exact bye I3 fun s3 I4 => ⟨_, H2, I4, q2⟩)
theorem wU.all {hds : List ExceptHandler} {l : List Clause} (hk : Qy X hds l) (L : wU X pins σ H D Wout a cls d u) (w : ZP X.K Wout D l cls d σ H) : wpAny (model X.prog X.w) X.A (handleBy (.ref a) X.env hds) (SP X pins D) X.xe u := by
  induction hk with
  | nil => exact L.out w
  | cons hc hsu r ih =>
    obtain ⟨b, e, yes, no⟩ := w
    exact L.plain hc (fun oe pn z f => hsu a oe cls d pn z f) e (fun z => yes z a L.free) fun z => ih (no z)
  | as_ hN hi hln hc hsu r ih =>
    obtain ⟨b, e, yes, no⟩ := w
    exact L.named hN hi hln hc (fun oe pn z f => hsu a oe cls d pn z f) e (fun z => yes z a L.free) fun z => ih (no z)
end
section
variable {X : Cx} {body : List Stmt} {c0 : ExceptHandler} {cs : List ExceptHandler} {l : List Clause} {pos : Pos} {tb : WX → TS} {Wout : WX}
end
end L2
namespace PD
open PySem PySem.Spec PyProof.Rows L2
section
variable {X : Cx} {W : WX}
abbrev yQ := Option Nat × (Str → Option Bool) × MX
def ah0 (io : Option Nat) (e : En) : Bool := match io with
  | none => true
  | some i => decide (i < e.length)
def runN : List yQ → Str → List (Str × D) → En → AH → RS
  | [], c, fs, e, h => .exc c fs e h
  | (io, exm, g) :: r, c, fs, e, h => match exm c with
    | some true => if ah0 io e = true then match g fs h with
        | some x => .rt x h
        | none => .stuck
      else .stuck
    | some false => runN r c fs e h
    | none => .stuck
def rdY (K : PySem.W.Frag) (ok : Str → Prop) (a : Addr) (cls : Value) (d : Option Addr) (io : Option Nat) (g : MX) : TE := fun st H Q => ∃ c fs al h dd gs, ok c ∧ cls = .ref (He.ga K c) ∧ d = some dd ∧ (∀ i, io = some i → st[i]? = some (some (.ref a))) ∧ HR K H al h ∧ H dd = some (.xd gs) ∧ dU K H al fs gs ∧
  ∃ x, g fs h = some x ∧ ∀ v H' aQ, Le H al H' aQ → HR K H' aQ h → Rp K H' aQ x v → Q v H'
inductive Ge (X : Cx) : List ExceptHandler → List yQ → List Clause → Prop
  | nil : Ge X [] [] []
  | cons {x : Str} {C : Value} {exm : Str → Option Bool} {g : MX} {ex : Expr} {np pos' pos2 : Pos} {hds : List ExceptHandler} {l : List yQ} {r : List Clause} (hc : Names X x C) (hex : ∀ c b, exm c = some b → PySem.W.exmOne X.K (.ref (He.ga X.K c)) C = some b)
      (hx : ∀ (a : Addr) (oe : Obj) (cls : Value) (d : Option Addr) (pn : List (Addr × Obj)), Zc cls d oe → (∃ vs, oe.data = .fields vs) → PE (X.suite a ((a, oe) :: pn)) ex (rdY X.K (fun c => exm c = some true) a cls d none g)) (t : Ge X hds l r) :
      Ge X (.ExceptHandler (some (.Name x np)) none [.Return (some ex) pos2] pos' :: hds) ((none, exm, g) :: l) ((C, none, fun a cls d => tRet (rdY X.K (fun c => exm c = some true) a cls d none g)) :: r)
  | as_ {x n : Str} {C : Value} {i : Nat} {exm : Str → Option Bool} {g : MX} {ex : Expr} {np pos' pos2 : Pos} {hds : List ExceptHandler} {l : List yQ} {r : List Clause} (hN : X.N.Nodup) (hi : X.N[i]? = some n) (hln : X.env.kindOf n = some .local) (hc : Names X x C) (hex : ∀ c b, exm c = some b → PySem.W.exmOne X.K (.ref (He.ga X.K c)) C = some b)
      (hx : ∀ (a : Addr) (oe : Obj) (cls : Value) (d : Option Addr) (pn : List (Addr × Obj)), Zc cls d oe → (∃ vs, oe.data = .fields vs) → PE (X.suite a ((a, oe) :: pn)) ex (rdX X.K (fun c => exm c = some true) a cls d i g)) (t : Ge X hds l r) :
      Ge X (.ExceptHandler (some (.Name x np)) (some n) [.Return (some ex) pos2] pos' :: hds) ((some i, exm, g) :: l) ((C, some i, fun a cls d => tRet (rdX X.K (fun c => exm c = some true) a cls d i g)) :: r)
theorem Ge.go {hds : List ExceptHandler} {l : List yQ} {r : List Clause} (t : Ge X hds l r) {N : Ends} {c : Str} {fs : List (Str × D)} {e' : En} {h' : AH} {H0 H' : Hp} {al aQ : Al} {dd : Addr} {gs : List (Str × V)} {st : L2.St} (l0 : Le H0 al H' aQ) (r' : HR X.K H' aQ h') (yh : iG X.K H' aQ e' st) (e1 : H' dd = some (.xd gs)) (qf : dU X.K H' aQ fs gs)
    (po : mY X.K W H0 al N (runN l c fs e' h')) : ZP X.K W N r (.ref (He.ga X.K c)) (some dd) st H' := by
  induction t with
  | nil => exact po dd st H' aQ gs l0 r' yh e1 qf
  | @cons x C exm g ex np pos' pos2 hds l r hc hex hx t ih =>
    unfold runN at po
    cases w : exm c with
    | none => rw [w] at po; exact po.elim
    | some b =>
      rw [w] at po
      refine ⟨b, hex c b w, fun hb1 a ha => ?_, fun hb2 => ?_⟩
      · subst hb1
        dsimp only at po
        rw [if_pos (show ah0 none e' = true from rfl)] at po
        split at po
        · rename_i x hx
          exact ⟨c, fs, aQ, h', dd, gs, w, rfl, rfl, (fun i z => nomatch z), r', e1, qf, x, hx, fun v H2 dD l2 r2 q2 => po v H2 dD (l0.trans l2) r2 q2⟩
        · exact po.elim
      · subst hb2
        exact ih po
  | @as_ x n C i exm g ex np pos' pos2 hds l r hN hi hln hc hex hx t ih =>
    unfold runN at po
    cases w : exm c with
    | none => rw [w] at po; exact po.elim
    | some b =>
      rw [w] at po
      refine ⟨b, hex c b w, fun hb1 a ha => ?_, fun hb2 => ?_⟩
      · subst hb1
        dsimp only at po
        split at po
        · rename_i hil
          have hil : i < e'.length := of_decide_eq_true hil
          rw [yh.1] at hil
          split at po
          · rename_i x hx
            exact ⟨c, fs, aQ, h', dd, gs, w, rfl, rfl, by rw [List.getElem?_set_self hil], r', e1, qf, x, hx, fun v H2 dD l2 r2 q2 => po v H2 dD (l0.trans l2) r2 q2⟩
          · exact po.elim
        · exact po.elim
      · subst hb2
        exact ih po
end
end PD
namespace PD
open PySem PySem.Spec PyProof.Rows L2
section
variable {X : Cx} {W : WX}
end
end PD
namespace GB
open PySem PySem.W PySem.Spec PySem.Calls PyProof.Rows L2
section
variable {prog : Program} {w : World} {A : Around} {E : Value → Shared → Prop} {s : Shared} {K : Frag} {x D : Addr} {ox : Obj} {od : Option Obj}
end
end GB
namespace PD
open PySem PySem.Spec PyProof.Rows L2
section
variable {X : Cx} {W : WX} {ok : Str → Prop} {a : Addr} {oe : Obj} {cls : Value} {d : Option Addr} {pn : List (Addr × Obj)} {i : Nat} {n f : Str} {pos p1 p2 : Pos} {io : Option Nat}
end
end PD
namespace GB
open PySem PySem.Spec PyProof.Rows L2
theorem vO {a b : Nat} (h : a = b → False) : @Ne Addr a b := h
inductive ZS | l (a : Addr) | t (a : Addr) | s (z : Str)
namespace ZS
def val : ZS → V | l a => .ref a | t a => .ref a | s z => .str z
def At (K : PySem.W.Frag) (H : Hp) : ZS → List V → Prop
  | l a, xs => SqL K H a xs
  | t a, xs => SqT K H a xs
  | s z, xs => xs = z.cps.toList.map fun c => V.str ⟨#[c]⟩
def Under (n : Nat) : ZS → Prop | l a => a < n | t a => a < n | s _ => True
def Eo (it : Addr) (h : Heap) (i : Nat) : ZS → Prop
  | l a => h.IsListIter it a i
  | t a => h.IsTupleIter it a i
  | s z => ∃ t, h.IsStrIter it (strIterType z) z t i
def fp (it : Addr) : ZS → List Addr | l a => [it, a] | t a => [it, a] | s _ => [it]
theorem Eo.get {it : Addr} {h : Heap} {i : Nat} : ∀ {z : ZS}, z.Eo it h i → ∃ o, h.get? it = some o ∧ ∀ v, o.data ≠ .cell v
  | .l _, ⟨o, e, _, d⟩ => ⟨o, e, fun v q => by rw [d] at q; cases q⟩
  | .t _, ⟨o, e, _, d⟩ => ⟨o, e, fun v q => by rw [d] at q; cases q⟩
  | .s _, ⟨_, o, e, _, d⟩ => ⟨o, e, fun v q => by rw [d] at q; cases q⟩
theorem Eo.keep {it : Addr} {h h' : Heap} {i : Nat} (k : ∀ o, h.get? it = some o → h'.get? it = some o) : ∀ {z : ZS}, z.Eo it h i → z.Eo it h' i
  | .l _, c => Heap.IsListIter.at c k
  | .t _, c => Heap.IsTupleIter.at c k
  | .s _, ⟨u, o, e, r⟩ => ⟨u, o, k o e, r⟩
theorem draws {X : Cx} {pins : List (Addr × Obj)} {σ : L2.St} {H : Hp} {s : Shared} (I : Inv X pins σ H s) {A : Around} (hh : A.handled = none) {it : Addr} {n : Nat} (hlt : n ≤ it) {i : Nat} {z : ZS} (u : z.Under n) {xs : List V} (a : z.At X.K H xs) (c : z.Eo it s.heap i) :
    ∃ (P : Nat → Value → Prop) (St : Nat → Heap → Prop), Draws X.prog X.w A it (z.fp it) xs.length P St ∧ St i s.heap ∧ (∀ j h, St j h → z.Eo it h j) ∧ ∀ j x v, xs[j]? = some x → P j v → RelV x v := by
  cases z with
  | l b =>
    obtain ⟨its, rv, p, _⟩ := I.list a
    have e : its.toArray.size = xs.length := by simpa using rv.length.symm
    have D := Draws.list (prog := X.prog) (w := X.w) hh it b (vO fun q => by have u' : Nat.lt b n := u; have l' : Nat.le n it := hlt; unfold Nat.lt at u'; rw [q] at u'; exact absurd (Nat.le_trans u' l') (Nat.not_succ_le_self it)) its.toArray
    rw [e] at D
    refine ⟨_, _, D, ⟨c, p.isList⟩, fun j h st => st.1, fun j x v hx hv => ?_⟩
    obtain ⟨w, hw, rw'⟩ := rv.get hx
    have : v = w := by simpa [hw] using hv.symm
    exact this ▸ rw'
  | t b =>
    obtain ⟨its, rv, p, _⟩ := I.tuple a
    have e : its.toArray.size = xs.length := by simpa using rv.length.symm
    have D := Draws.tuple (prog := X.prog) (w := X.w) hh it b (vO fun q => by have u' : Nat.lt b n := u; have l' : Nat.le n it := hlt; unfold Nat.lt at u'; rw [q] at u'; exact absurd (Nat.le_trans u' l') (Nat.not_succ_le_self it)) its.toArray
    rw [e] at D
    refine ⟨_, _, D, ⟨c, p⟩, fun j h st => st.1, fun j x v hx hv => ?_⟩
    obtain ⟨w, hw, rw'⟩ := rv.get hx
    have : v = w := by simpa [hw] using hv.symm
    exact this ▸ rw'
  | s z =>
    obtain ⟨t, c⟩ := c
    have a' : xs = z.cps.toList.map fun c => V.str ⟨#[c]⟩ := a
    subst a'
    have D := Draws.text (prog := X.prog) (w := X.w) hh it z t
    have e : z.cps.size = (z.cps.toList.map fun c => V.str ⟨#[c]⟩).length := by simp
    rw [e] at D
    refine ⟨_, _, D, c, fun j h st => ⟨t, st⟩, fun j x v hx hv => ?_⟩
    obtain ⟨c', u', hc, rfl⟩ := hv
    have : x = V.str ⟨#[c']⟩ := by
      have h2 : (z.cps.toList.map fun c => V.str ⟨#[c]⟩)[j]? = some (V.str ⟨#[c']⟩) := by rw [List.getElem?_map]; simp [hc]
      exact (Option.some.inj (hx.symm.trans h2))
    exact this ▸ ⟨u', rfl⟩
theorem inj {X : Cx} {pins : List (Addr × Obj)} {σ : L2.St} {H : Hp} {s : Shared} (I : Inv X pins σ H s) : ∀ {z : ZS} {xs ys : List V}, z.At X.K H xs → z.At X.K H ys → xs = ys
  | .l _, _, _, p, q => I.list_inj p q
  | .t _, _, _, p, q => I.tuple_inj p q
  | .s _, _, _, p, q => Eq.trans p (Eq.symm q)
end ZS
def aeH (K : PySem.W.Frag) (a b : ZS) : It :=
  ⟨fun i H => ∃ (xs ys : List V) (x y : V), a.At K H xs ∧ b.At K H ys ∧ xs[i]? = some x ∧ ys[i]? = some y,
    fun i H v H' => ∃ T x y, v = .ref T ∧ H T = none ∧ H' = upd H T (.tup [x, y]) ∧ (∀ xs, a.At K H xs → xs[i]? = some x) ∧ ∀ ys, b.At K H ys → ys[i]? = some y,
    fun i H => ∃ xs ys : List V, a.At K H xs ∧ b.At K H ys ∧ i ≤ xs.length ∧ i ≤ ys.length ∧ (i = xs.length ∨ i = ys.length)⟩
abbrev zfp (n : Nat) : List Addr := [n + 4, n + 2, n + 3, n, n + 1]
theorem Qz {n : Nat} {c : Addr} (h : c ∈ zfp n) : c = n + 4 ∨ c = n + 2 ∨ c = n + 3 ∨ c = n ∨ c = n + 1 := by simpa using h
theorem ah1 {n : Nat} {a b : ZS} (ua : a.Under n) (ub : b.Under n) : ZipSep2 (n + 4) (n + 2) (n + 3) n (n + 1) (a.fp n) (b.fp (n + 1)) := by
  have sub : ∀ {c : ZS} {k it : Nat}, c.Under n → n ≤ k → k ≠ it → (k : Addr) ∉ c.fp it := fun {c k it} u l ne m => by
    cases c with
    | l x =>
      have m' : (k : Nat) = it ∨ (k : Nat) = x := by simpa [ZS.fp] using m
      have u' : @LT.lt Nat _ x n := u
      rcases m' with q | q
      · exact ne q
      · have q' := Nat.le_of_eq q
        exact absurd (Nat.lt_of_lt_of_le u' (Nat.le_trans l q')) (Nat.lt_irrefl x)
    | t x =>
      have m' : (k : Nat) = it ∨ (k : Nat) = x := by simpa [ZS.fp] using m
      have u' : @LT.lt Nat _ x n := u
      rcases m' with q | q
      · exact ne q
      · have q' := Nat.le_of_eq q
        exact absurd (Nat.lt_of_lt_of_le u' (Nat.le_trans l q')) (Nat.lt_irrefl x)
    | s x =>
      have m' : k = it := by simpa [ZS.fp] using m
      omega
  have hd : ∀ {c : ZS} {it : Addr}, it ∈ c.fp it := fun {c it} => by cases c <;> simp [ZS.fp]
  exact ⟨vO (by omega), vO (by omega), vO (by omega), vO (by omega), hd, sub ua (by omega) (by omega), sub ua (by omega) (by omega), vO (by omega), hd, sub ub (by omega) (by omega), sub ub (by omega) (by omega), sub ub (by omega) (by omega), sub ua (by omega) (by omega)⟩
theorem adt {P : Program} {w : World} {K : PySem.W.Frag} {elts : List Expr} {kk : Nat} {tpos : Pos} {a b : ZS} {n : Nat} (ua : a.Under n) (ub : b.Under n) :
    Turn P w K (.Tuple elts kk tpos) (aeH K a b) (zfp n) (n + 4) (fun i h => IsZip h (n + 4) (n + 2) (n + 3) .none ∧ IsTupOf2 h (n + 2) (.ref n) (.ref (n + 1)) ∧ (∃ x y, IsTupOf2 h (n + 3) x y) ∧ a.Eo n h i ∧ b.Eo (n + 1) h i) where
  mem := by simp
  obj := fun i h st c hc => by
    obtain ⟨hz, hI, ⟨x, y, hO⟩, h1, h2⟩ := st
    rcases Qz hc with q | q | q | q | q <;> subst q
    · exact ⟨_, hz, fun v q => nomatch q⟩
    · exact ⟨_, hI, fun v q => nomatch q⟩
    · exact ⟨_, hO, fun v q => nomatch q⟩
    · exact h1.get
    · exact h2.get
  keep := fun i h h' st k => by
    obtain ⟨hz, hI, ⟨x, y, hO⟩, h1, h2⟩ := st
    exact ⟨k _ (by simp) _ hz, k _ (by simp) _ hI, ⟨x, y, k _ (by simp) _ hO⟩, h1.keep fun o q => k n (by simp) o q, h2.keep fun o q => k (n + 1) (by simp) o q⟩
  item := by
    intro X hP hw hK hc i pins s σ H E I hf st hg
    subst hP hw hK
    obtain ⟨hz, hI, ⟨x0, y0, hO⟩, h1, h2⟩ := st
    obtain ⟨xs, ys, x, y, ax, ay, hx, hy⟩ := hg
    have hh : X.A.in1.handled = none := I.ok.hd hc
    obtain ⟨P1, S1, D1, s1, c1, r1⟩ := ZS.draws I hh (Nat.le_refl n) ua ax h1
    obtain ⟨P2, S2, D2, s2, c2, r2⟩ := ZS.draws I hh (Nat.le_succ n) ub ay h2
    have l1 : i < xs.length := (List.getElem?_eq_some_iff.mp hx).1
    have l2 : i < ys.length := (List.getElem?_eq_some_iff.mp hy).1
    have hzl : n + 4 < s.heap.objs.size := Heap.lt_size hz
    refine wpAny_pyNext_zipD2_item (ah1 ua ub) D1 D2 hz hI hO s1 s2 l1 l2 fun u1 u2 h' tk p1 p2 z' O' s1' s2' hT hsz hk => ?_
    refine ⟨_, rfl, wpAny_letOwnedTupleGo_zip (s := { s with heap := h', toks := tk }) z' fun h'' z'' sb => ?_⟩
    have hT2 : h''.get? s.heap.objs.size = some { cls := .type "tuple", data := .seq #[u1, u2] } := (sb.2 _ (vO (by omega))).trans hT
    have new : ObjOk X.prog X.w (upd H s.heap.objs.size (.tup [x, y])) h'' s.heap.objs.size (.tup [x, y]) :=
      ⟨by show 2 ≤ sizeLine; decide, [u1, u2], .cons (r1 _ _ _ hx p1) (.cons (r2 _ _ _ hy p2) .nil), ⟨_, hT2, rfl, _, rfl⟩⟩
    have I1 : Inv X pins σ (upd H s.heap.objs.size (.tup [x, y])) { s with heap := h'', toks := tk } :=
      I.turnedNew (t' := tk) (ch := zfp n) (fun c o hb q => (sb.2 c (fun q' => hb (by simp [q']))).trans (hk c o (fun q' => hb (by simp [q'])) (fun q' => hb (by simp [q'])) (fun q' => hb (by simp [q'])) (fun q' => hb (by simp [q'])) q)) hf (Nat.le_refl _) new
    have up : ∀ c, c ≠ n + 4 → ∀ o, h'.get? c = some o → h''.get? c = some o := fun c ne o q => (sb.2 c ne).trans q
    refine ⟨.ref s.heap.objs.size, _, I1, rfl, ⟨_, x, y, rfl, I.hok.fresh (Nat.le_refl _), rfl, fun l q => by rw [ZS.inj I q ax]; exact hx, fun l q => by rw [ZS.inj I q ay]; exact hy⟩, ⟨z'', ?_, ⟨u1, u2, up _ (vO (by omega)) _ O'⟩, (c1 _ _ s1').keep (up _ (vO (by omega))), (c2 _ _ s2').keep (up _ (vO (by omega)))⟩, fun c hcm => ?_⟩
    · exact up _ (vO (by omega)) _ (hk _ _ (vO (by omega)) (vO (by omega)) (vO (by omega)) (vO (by omega)) hI)
    · have hlt : @LT.lt Nat _ c s.heap.objs.size := by
        rcases Qz hcm with q | q | q | q | q <;> subst q
        · exact hzl
        · exact Heap.lt_size hI
        · exact Heap.lt_size hO
        · obtain ⟨_, e, _⟩ := h1.get; exact Heap.lt_size e
        · obtain ⟨_, e, _⟩ := h2.get; exact Heap.lt_size e
      rw [upd_ne (Nat.ne_of_lt hlt)]
      exact (hf c hcm).1
  done := by
    intro X hP hw hK hc i pins s σ H E I hf st hg
    subst hP hw hK
    obtain ⟨hz, hI, ⟨x0, y0, hO⟩, h1, h2⟩ := st
    obtain ⟨xs, ys, ax, ay, l1, l2, e⟩ := hg
    have hh : X.A.in1.handled = none := I.ok.hd hc
    obtain ⟨P1, S1, D1, s1, c1, r1⟩ := ZS.draws I hh (Nat.le_refl n) ua ax h1
    obtain ⟨P2, S2, D2, s2, c2, r2⟩ := ZS.draws I hh (Nat.le_succ n) ub ay h2
    exact wpAny_pyNext_zipD2_end (ah1 ua ub) D1 D2 hz hI hO s1 s2 l1 l2 e fun h' tk hk => ⟨rfl, I.turnedL (t' := tk) (ch := zfp n) (fun c o hb q =>
      hk c o (fun q' => hb (by simp [q'])) (fun q' => hb (by simp [q'])) (fun q' => hb (by simp [q'])) (fun q' => hb (by simp [q'])) q) hf⟩
  self := fun A i s Q E st h => wpAny_pyIter_zip st.1 h
theorem ZS.begins {X : Cx} {pins : List (Addr × Obj)} {σ : L2.St} {H : Hp} {s : Shared} (I : Inv X pins σ H s) {z : ZS} {xs : List V} (a : z.At X.K H xs) {u : Value} (r : RelV z.val u) :
    ∃ (o : Obj) (S : Heap → Prop), Begins u o S ∧ S s.heap ∧ z.Under s.heap.objs.size ∧ ∀ it h, h.get? it = some o → z.Eo it h 0 := by
  cases z with
  | l b =>
    cases r
    obtain ⟨its, rv, p, _⟩ := I.list a
    exact ⟨_, _, begins_list b its.toArray, p.isList, p.lt, fun it h e => ⟨_, e, rfl, rfl⟩⟩
  | t b =>
    cases r
    obtain ⟨its, rv, p, _⟩ := I.tuple a
    obtain ⟨o1, e1, _⟩ := id p
    exact ⟨_, _, begins_tuple b its.toArray, p, Heap.lt_size e1, fun it h e => ⟨_, e, rfl, rfl⟩⟩
  | s z =>
    obtain ⟨t, rfl⟩ := r
    exact ⟨_, _, begins_text z t, trivial, trivial, fun it h e => ⟨t, _, e, rfl, rfl⟩⟩
def ajC (K : PySem.W.Frag) (ta : TA) : TI := fun σ H R => ta σ H fun vs H1 => ∃ a b xs ys, vs = [a.val, b.val] ∧ ZS.At K H1 a xs ∧ ZS.At K H1 b ys ∧ R (aeH K a b) H1
theorem agd {X : Cx} {e e2 : Expr} {ta : TA} {p pos tpos : Pos} {elts : List Expr} {kk : Nat} (hg : Gl X "zip") (hm : X.mg "zip" = none) (ha : PA X [e, e2] ta)
    (hs : starEach [e, e2] X.env = (false, eval e X.env) :: starEach [e2] X.env := by rfl) (hpl : (backTo pos (starEach [e2] X.env)).any (·.1) = false := by rfl) :
    PI X (.Tuple elts kk tpos) (.Call (.Name "zip" p) [e, e2] [] pos) (ajC X.K ta) := by
  refine ⟨fun pins s σ H R I h => ?_⟩
  refine Call_ (ld_blt I hg hm PyProof.Rows.boot_zip (PyProof.Rows.callWith_type1 (thn (ha.run pos pins s σ H _ I h) fun us s1 ⟨vs, H1, I1, r1, q1⟩ => ?_) hs hpl))
  obtain ⟨a, b, xs, ys, ex, ax, ay, q⟩ := q1
  subst ex
  cases r1 with
  | cons ra rr =>
    cases rr with
    | cons rb rr =>
      cases rr
      obtain ⟨o1, S1, B1, h1, u1, c1⟩ := ZS.begins I1 ax ra
      obtain ⟨o2, S2, B2, h2, u2, c2⟩ := ZS.begins I1 ay rb
      refine zip_begins2 B1 B2 h1 h2 fun h' hz hI hO g1 g2 hsz hk => wpAny_pyIter_zip hz ?_
      have I2 : Inv X pins σ H1 { s1 with heap := h' } := I1.kept (t' := s1.toks) hk
      refine ⟨s1.heap.objs.size + 4, zfp s1.heap.objs.size, _, _, H1, rfl, I2, adt u1 u2, ⟨hz, hI, ⟨_, _, hO⟩, c1 _ _ g1, c2 _ _ g2⟩, fun c hcm => ?_, q⟩
      have hle : @LE.le Nat _ s1.heap.objs.size c := by rcases Qz hcm with q | q | q | q | q <;> rw [q] <;> omega
      exact I1.fpOk hle (I1.hok.fresh hle)
end GB
namespace PD
open PySem PySem.Spec PyProof.Rows L2 GB
variable {K : PySem.W.Frag} {W : WX} {X : Cx} {H : Hp} {al : Al}
def Ue : D → Option (List D)
  | .lst ds => some ds
  | .dB ds => some ds
  | .tup ds => some ds
  | .str z => some (z.cps.toList.map fun c => .str ⟨#[c]⟩)
  | _ => none
def QC : List D → AH → Res (List D)
  | [d, e], h => match Ue d, Ue e with
    | some ds, some es => .ok (wL ds es) h
    | _, _ => .stuck
  | _, _ => .stuck
theorem ZQ {d : D} {v : V} (rp : Rp K H al d v) {h : AH} (r : HR K H al h) {ds : List D} (e : Ue d = some ds) :
    ∃ (z : ZS) (xs : List V), v = z.val ∧ bx K H al ds xs ∧ ∀ H' aQ, jr H al H' aQ → z.At K H' xs := by
  cases rp <;> simp only [Ue, Option.some.injEq, reduceCtorEq] at e
  case str x =>
    subst e
    refine ⟨.s x, _, rfl, ?_, fun _ _ _ => rfl⟩
    generalize x.cps.toList = l
    induction l with
    | nil => exact .nil
    | cons c cs ih => exact .cons (.str _) ih
  case tup a ds' vs s q =>
    subst e
    exact ⟨.t a, vs, rfl, q, fun H' aQ l => Ft r s l⟩
  case lst a ds' vs s q =>
    subst e
    exact ⟨.l a, vs, rfl, q, fun H' aQ l => (s.cU l).sq⟩
  case dB a ds' vs s q =>
    subst e
    exact ⟨.l a, vs, rfl, q, fun H' aQ l => (s.cU l).sq⟩
theorem adu : ∀ (ds es : List D) (i : Nat), i < (wL ds es).length → i < ds.length ∧ i < es.length := fun ds es i h => by
  rw [Fw] at h
  omega
theorem abW {ds es : List D} {xs ys : List V} {a b : ZS} (s : ∀ H' aQ, jr H al H' aQ → a.At K H' xs) (s2 : ∀ H' aQ, jr H al H' aQ → b.At K H' ys) {h : AH} (r : HR K H al h) (q : bx K H al ds xs) (q2 : bx K H al es ys) : qH K (aeH K a b) (wL ds es) H al := by
  intro H' aQ h' l r'
  have sa := s _ _ l
  have sb := s2 _ _ l
  have qa := q.cU r l
  have qb := q2.cU r l
  have la := q.length
  have lb := q2.length
  refine ⟨fun i hi => ?_, ?_, fun i x H2 hi y => ?_⟩
  · obtain ⟨h1, h2⟩ := adu ds es i hi
    exact ⟨xs, ys, xs[i]'(by omega), ys[i]'(by omega), sa, sb, by simp, by simp⟩
  · rw [Fw]
    exact ⟨xs, ys, sa, sb, by omega, by omega, by omega⟩
  · obtain ⟨T, x1, x2, rfl, hT, rfl, e1, e2⟩ := y
    obtain ⟨d, hd, rp⟩ := qa.get' (e1 _ sa)
    obtain ⟨d2, hd2, rp2⟩ := qb.get' (e2 _ sb)
    have lf := Le.fresh (o := .tup [x1, x2]) r' hT
    exact ⟨lf, r'.fresh hT, .tup [d, d2], ZC ds es i d d2 hd hd2, .tup (SqT.of upd_same) (.cons (rp.mono r' lf) (.cons (rp2.mono r' lf) .nil))⟩
variable {fr : MA} {a b : Expr} {p1 pos : Pos}
theorem ah2 {elts : List Expr} {kk : Nat} {tpos : Pos} (hg : Gl X "zip") (hm : X.mg "zip" = none) (ha : PA X [a, b] (mX X.K W fr)) (hs : starEach [a, b] X.env = (false, eval a X.env) :: starEach [b] X.env := by rfl) (hpl : (backTo pos (starEach [b] X.env)).any (·.1) = false := by rfl) : PI X (.Tuple elts kk tpos) (.Call (.Name "zip" p1) [a, b] [] pos) (BK X.K W (jd QC fr)) :=
  (agd hg hm (GB.PA.cl ha) hs hpl).weak fun σ H R h => by
    refine Zz (Rf h) ?_
    rintro vs H1 ⟨ds, bf, h1, r1, q, p1⟩
    unfold QC at p1
    split at p1
    · cases q with
      | cons q qs =>
        cases qs with
        | cons q2 qs =>
          cases qs
          split at p1
          · rename_i e1 e2
            obtain ⟨z1, xs, rfl, qa, sa⟩ := ZQ q r1 e1
            obtain ⟨z2, ys, rfl, qb, sb⟩ := ZQ q2 r1 e2
            exact ⟨_, _, _, _, rfl, sa _ _ Le.refl.Bu, sb _ _ Le.refl.Bu, p1 _ _ _ .refl r1 (abW sa sb r1 qa qb)⟩
          · exact p1.elim
    · exact p1.elim
end PD
namespace GB
open PySem PySem.Spec PyProof.Rows L2 HT
section
variable {prog : Program} {w : World} {A : Around} {E : Value → Shared → Prop} {s : Shared}
end
end GB
namespace PD
open PySem PySem.Spec PyProof.Rows L2 GB
section
variable {K : PySem.W.Frag} {W : WX} {X : Cx} {H : Hp} {al : Al}
end
end PD
namespace PD
open PySem PySem.Spec PyProof.Rows L2
theorem isStr_inj {v : Value} {a b : Str} (h : v.isStr a = true) (h2 : v.isStr b = true) : a = b := by
  cases v <;> simp only [Value.isStr, Bool.false_eq_true] at h h2
  exact (eq_of_beq h).symm.trans (eq_of_beq h2)
theorem Rk {K : PySem.W.Frag} {a : Addr} {ks : List Str} (h : keyB K a ks = true) {k : Str} (hk : k ∉ ks) : PySem.W.nsIn K a k = some none := by
  unfold keyB at h
  unfold PySem.W.nsIn
  split at h
  · rename_i es n sl e
    rw [e]
    dsimp only
    have all := List.all_eq_true.mp h
    have f : es.toList.find? (·.key.isStr k) = none := by
      rw [List.find?_eq_none]
      intro x hx z
      have y := all x hx
      rw [Bool.and_eq_true] at y
      obtain ⟨k', m, i⟩ := List.any_eq_true.mp y.2
      exact hk (isStr_inj z i ▸ m)
    have g : es.toList.any (·.refKey) = false := by
      rw [List.any_eq_false]
      intro x hx z
      have y := all x hx
      rw [Bool.and_eq_true, z] at y
      cases y.1
    rw [f]
    dsimp only
    rw [g]
    rfl
  · cases h
def abX (kvs : List (Str × He.Dv)) (k : Str) : Option (Option D) := match kvs.find? fun q => decide (q.1 = k) with
  | some q => (dOf q.2).map some
  | none => some none
theorem KTab.ofG {K : PySem.W.Frag} {w : World} {x : Str} {kvs : List (Str × He.Dv)} (kd : ∃ es n, KDict K w (He.ga K x) es n) (h : He.valsB K (He.ga K x) kvs = true) (hk : keyB K (He.ga K x) (kvs.map (·.1)) = true) : KTab K w x (abX kvs) := by
  have t := KTab.of kd h
  refine ⟨kd, fun k d e => ?_, fun k e => ?_⟩
  · refine t.hit k d ?_
    unfold abX at e
    unfold tabOf
    split at e
    · rename_i q hq
      try rw [hq]
      exact e
    · cases e
  · unfold abX at e
    split at e
    · rename_i q hq
      cases z : dOf q.2 with
      | none => rw [z] at e; cases e
      | some d => rw [z] at e; cases e
    · rename_i hn
      refine Rk hk fun m => ?_
      obtain ⟨p, hp, rfl⟩ := List.mem_map.mp m
      have := List.find?_eq_none.mp hn p hp
      exact this (decide_eq_true rfl)
end PD
namespace PD
open PySem PySem.Spec PyProof.Rows L2
section
variable {X : Cx} {W : WX} {x : Str} {e : Expr} {es : List Expr} {fa : MA} {p pos pos' : Pos} {B newId initId : String} {bmB : List Value}
end
end PD
namespace L2
open PySem PySem.Spec PyProof.Rows
section
variable {X : Cx} {pos : Pos} {Wout : WX} {pins : List (Addr × Obj)} {σ : St} {H : Hp} {D : Ends} {a : Addr} {cls : Value} {d : Option Addr} {t : Shared}
structure ala (X : Cx) (pins : List (Addr × Obj)) (σ : St) (H : Hp) (D : Ends) (Wout : WX) (a : Addr) (cls : Value) (d : Option Addr) (t : Shared) (G : Heap → Prop) : Prop where
  on : ∀ h, G h → wU X pins σ H D Wout a cls d { t with heap := h }
  up : ∀ h o, G h → G (h.push o)
  kin : ∀ h, G h → X.K.In h
  ty : ∀ h, G h → PySem.W.Looks (model X.prog X.w) h (typeOf (.ref a)) cls
variable {G : Heap → Prop} {ts : Addr → Value → Option Addr → TS} {s1 : Stmt} {su : List Stmt} {rest : List ExceptHandler} {b : Bool} {te : Expr} {p1 : Pos}
end
section
variable {X : Cx} {body : List Stmt} {hds : List ExceptHandler} {pos : Pos} {tb : WX → TS} {Wout : WX}
end
end L2
namespace PD
open PySem PySem.Spec PyProof.Rows L2
section
variable {X : Cx} {W : WX}
end
end PD
namespace PD
open PySem PySem.Spec PyProof.Rows L2
section
variable {X : Cx} {W : WX} {gt g1 : MG} {pos : Pos}
section
variable {elt tg iter tg1 iter1 : Expr} {ifs ifs1 : List Expr} {scope : Scope} {own : List (Str × Nat)} {vs1 : List Nat} {it it1 : En → AH → Res (List D)} {t t1 : MT} {f : ME}
end
end
end PD
namespace PD
open PySem PySem.Spec PyProof.Rows L2
structure Ug (K : PySem.W.Frag) (x : Str) (qs : List (Int × Str)) : Prop where
  ex : ∃ es n, K.lookup (He.ga K x) = some ⟨.type "dict", none, .dict es n, #[]⟩ ∧ yw K es.toList qs = true
  low : (He.ga K x == sysModules) = false
theorem Ug.of {K : PySem.W.Frag} {x : Str} {qs : List (Int × Str)} (h : afi K x qs = true) : Ug K x qs := by
  unfold afi at h
  split at h
  · rename_i es n sl e
    simp only [Bool.and_eq_true, decide_eq_true_eq, Bool.not_eq_true'] at h
    obtain ⟨⟨h1, h2⟩, h3⟩ := h
    subst h1
    exact ⟨⟨es, n, e, h3⟩, h2⟩
  · cases h
theorem Rm {K : PySem.W.Frag} : ∀ {es : List DictEntry} {qs : List (Int × Str)}, yw K es qs = true → ∀ e ∈ es, ∃ i t, e.key = .int i t ∧ e.hash = hashInt i
  | [], _, _, e, he => by cases he
  | d :: es, [], h, _, _ => by simp [yw] at h
  | d :: es, q :: qs, h, e, he => by
    simp only [yw, Bool.and_eq_true, decide_eq_true_eq] at h
    obtain ⟨⟨⟨h1, h2⟩, h3⟩, h4⟩ := h
    rcases List.mem_cons.mp he with z | z
    · subst z
      split at h1
      · rename_i i t hk
        cases of_decide_eq_true h1
        exact ⟨_, t, hk, h2⟩
      · cases h1
    · exact Rm h4 e z
theorem Ro {K : PySem.W.Frag} {i : Int} : ∀ {es : List DictEntry} {qs : List (Int × Str)}, yw K es qs = true → (es.find? fun e => Value.isInt i e.key).map (·.val) = (qs.find? fun q => decide (q.1 = i)).map fun q => Value.ref (He.ga K q.2)
  | [], [], _ => rfl
  | [], q :: qs, h => by simp [yw] at h
  | d :: es, [], h => by simp [yw] at h
  | d :: es, q :: qs, h => by
    simp only [yw, Bool.and_eq_true, decide_eq_true_eq] at h
    obtain ⟨⟨⟨h1, h2⟩, h3⟩, h4⟩ := h
    have ih := Ro (i := i) h4
    split at h1
    · rename_i j t hk
      cases of_decide_eq_true h1
      have e : Value.isInt i d.key = decide (q.1 = i) := by
        rw [hk]
        simp only [Value.isInt]
        by_cases z : q.1 = i
        · simp [z]
        · simp [z]
      by_cases z : q.1 = i
      · rw [List.find?_cons_of_pos (by rw [e]; exact decide_eq_true z), List.find?_cons_of_pos (by exact decide_eq_true z), Option.map_some, Option.map_some, h3]
      · rw [List.find?_cons_of_neg (by rw [e, decide_eq_false z]; exact Bool.false_ne_true), List.find?_cons_of_neg (by rw [decide_eq_false z]; exact Bool.false_ne_true)]
        exact ih
    · cases h1
section
variable {X : Cx} {W : WX} {x : Str} {qs : List (Int × Str)}
theorem Ug.map (T : Ug X.K x qs) {h : Heap} (k : X.K.In h) : h.MapOf (PySem.intKind X.prog X.w) (He.ga X.K x) (fun i => (qs.find? fun q => decide (q.1 = i)).map fun q => Value.ref (He.ga X.K q.2)) := by
  obtain ⟨es, n, e1, e2⟩ := T.ex
  refine ⟨_, es, n, k _ _ e1, ⟨rfl, rfl, rfl⟩, rfl, fun e he => ?_, fun i => ?_⟩
  · obtain ⟨i, t, h1, h2⟩ := Rm e2 e (Array.mem_toList_iff.mpr he)
    exact ⟨i, by rw [h1]; exact PySem.intKind_is X.prog X.w i t, h2⟩
  · obtain ⟨l⟩ := es
    show findBy Value.isInt _ i = _
    unfold findBy
    rw [List.find?_toArray]
    exact Ro e2
end
end PD
namespace PD
open PySem PySem.Spec PyProof.Rows L2
section
variable {X : Cx} {W : WX} {gt : MG} {fa : ME} {f0 : MS}
end
end PD
namespace PD
open PySem PySem.Spec PyProof.Rows L2
section
variable {X : Cx} {W : WX}
end
end PD
namespace GB
open PySem PySem.SeqAt
open AutoSeq1 (wpAny_loadPart')
open MeetsSeq MeetsSeq2 MeetsSeq3 SeqRoads2
section
variable {prog : Program} {w : World} {A : Around} {E : Value → Shared → Prop} {s : Shared}
end
end GB
namespace PD
open PySem PySem.Spec PyProof.Rows L2
open Classical in
noncomputable def neP (cs : List Str) (ts : List String) (m : List D → AH → Res D) : O2 := fun d e h => match d, e with
  | .tup [a, .lst []], .tup [c, .lst []] => match clsOf a h, clsOf c h with
    | some (n, _), some _ => if n ∈ cs ∧ ak3 cs ts (Am c h) = true ∧ ak4 m [a, c] h = some (true, h) then some (.bl false, h) else none
    | _, _ => none
  | _, _ => none
section
variable {X : Cx} {W : WX} {k : Nat} {f : Addr} {x q : Str} {st : Stmt} {dvs : List V} {kws : List (Str × V)} {ps : List Str} {m : List D → AH → Res D} {cs : List Str} {ts : List String}
end
end PD
namespace PD
open PySem PySem.Spec PyProof.Rows L2
section
variable {K : PySem.W.Frag} {H H' : Hp} {al aQ : Al} {h h' : AH} {n : Nat} {a : Addr} {kvs kvs' : List (Key × D)} {ws : List (Key × V)} {od : Obj}
structure Rq (H : Hp) (al : Al) (a : Addr) (H' : Hp) : Prop where
  here : al.has a
  keep : ∀ b, b ≠ a → H' b = H b
theorem Rq.ne (l : Rq H al a H') {b : Addr} (n : ¬ al.has b) : b ≠ a := fun z => n (z ▸ l.here)
mutual
theorem Rp.gU (r : HR K H al h) (l : Rq H al a H') : ∀ {d : D} {v : V}, Rp K H al d v → Rp K H' al d v
  | _, _, .non => .non
  | _, _, .bl b => .bl b
  | _, _, .int i => .int i
  | _, _, .str x => .str x
  | _, _, .ty n => .ty n
  | _, _, .glo x => .glo x
  | _, _, .ref e => .ref e
  | _, _, .tup s q => .tup (by
      rcases s with s | s
      · have n := r.acW s
        rcases s with s | ⟨o, s⟩
        · exact .inl (.inl ((l.keep _ (l.ne n)).trans s))
        · exact .inl (.inr ⟨o, (l.keep _ (l.ne n)).trans s⟩)
      · exact .inr s) (bx.gU r l q)
  | _, _, .lst s q => .lst ⟨(l.keep _ (l.ne s.2)).trans s.1, s.2⟩ (bx.gU r l q)
  | _, _, .dB s q => .dB (by
      rcases s with ⟨o, s, n⟩ | s
      · exact .inl ⟨o, (l.keep _ (l.ne n)).trans s, n⟩
      · exact .inr s) (bx.gU r l q)
  | _, _, .obj e n q => .obj ((l.keep _ (l.ne n)).trans e) n (dU.gU r l q)
theorem bx.gU (r : HR K H al h) (l : Rq H al a H') : ∀ {ds : List D} {vs : List V}, bx K H al ds vs → bx K H' al ds vs
  | _, _, .nil => .nil
  | _, _, .cons q qs => .cons (Rp.gU r l q) (bx.gU r l qs)
theorem dU.gU (r : HR K H al h) (l : Rq H al a H') : ∀ {ds : List (Str × D)} {vs : List (Str × V)}, dU K H al ds vs → dU K H' al ds vs
  | _, _, .nil => .nil
  | _, _, .cons q qs => .cons (Rp.gU r l q) (dU.gU r l qs)
end
theorem fL.gU (r : HR K H al h) (l : Rq H al a H') {b : Addr} {c : Cell} (ne : b ≠ a) (q : fL K H al b c) : fL K H' al b c := by
  have e := l.keep b ne
  cases c with
  | lst ds =>
    obtain ⟨vs, z, q⟩ := q
    exact ⟨vs, e.trans z, bx.gU r l q⟩
  | dict kvs =>
    obtain ⟨ws, z, k, q⟩ := q
    exact ⟨ws, e.trans z, k, bx.gU r l q⟩
  | ins c fs =>
    obtain ⟨dx, gs, z, q⟩ := q
    exact ⟨dx, gs, e.trans z, dU.gU r l q⟩
  | jE kvs =>
    obtain ⟨o, ws, z, k, q⟩ := q
    exact ⟨o, ws, e.trans z, k, bx.gU r l q⟩
theorem HR.unlock (r0 : HR K H al h) (z : al.c[n]? = some a) (hH : H a = some (.dK ws)) (l : Le (upd H a (.frz od (.dK ws))) al H' aQ) (r : HR K H' aQ h') (e : h'[n]? = some (.jE kvs')) :
    HR K (upd H' a (.dK ws)) aQ (h'.set n (.dict kvs')) ∧ Le H al (upd H' a (.dK ws)) aQ ∧ Rq H' aQ a (upd H' a (.dK ws)) := by
  have ha : a ∈ al.c := List.mem_of_getElem? z
  have na := r0.dis a ha
  have z' : aQ.c[n]? = some a := by
    obtain ⟨t, ht⟩ := l.pre
    rw [ht, List.getElem?_append_left (List.getElem?_eq_some_iff.mp z).1]
    exact z
  have ha' : a ∈ aQ.c := List.mem_of_getElem? z'
  have eH := l.lk a _ _ upd_same
  have u : Rq H' aQ a (upd H' a (.dK ws)) := ⟨.inl ha', fun b ne => upd_ne ne⟩
  refine ⟨⟨r.nd, by simp [r.len], r.dis, fun b hb => ?_, fun m c b e1 e2 => ?_⟩, ⟨l.pre, l.wH, fun b o q nb => ?_, fun b hb => ?_, fun b hb => ?_, fun b o' u' q => ?_⟩, u⟩
  · have ne : b ≠ a := fun w => by
      rw [w, l.wH] at hb
      exact na hb
    rw [upd_ne ne]
    exact r.rs b hb
  · by_cases hm : n = m
    · subst hm
      rw [z'] at e2
      cases e2
      have hl : n < h'.length := (List.getElem?_eq_some_iff.mp e).1
      rw [List.getElem?_set_self hl] at e1
      cases e1
      obtain ⟨o, ws2, y, k, q⟩ := r.at_ n _ a e z'
      rw [eH] at y
      cases y
      exact ⟨ws, upd_same, k, bx.gU r u q⟩
    · rw [List.getElem?_set_ne hm] at e1
      refine fL.gU r u (fun w => hm ?_) (r.at_ m c b e1 e2)
      subst w
      have l1 := (List.getElem?_eq_some_iff.mp z').1
      exact (List.getElem?_inj l1 r.nd).mp (z'.trans e2.symm)
  · have ne : b ≠ a := fun w => nb (.inl (w ▸ ha))
    rw [upd_ne ne]
    exact l.keep b o (by rw [upd_ne ne]; exact q) nb
  · have ne : b ≠ a := fun w => na (w ▸ hb)
    rw [upd_ne ne, l.res b hb, upd_ne ne]
  · rcases l.new b hb with w | w
    · exact .inl w
    · by_cases ne : b = a
      · exact .inl (by rw [ne]; exact ha)
      · rw [upd_ne ne] at w
        exact .inr w
  · have ne : b ≠ a := fun w => by
      rw [w, hH] at q
      cases q
    rw [upd_ne ne]
    exact l.lk b o' u' (by rw [upd_ne ne]; exact q)
end
section
variable {X : Cx} {W : WX} {fd f : ME} {ex : Expr}
def vY (fd f : ME) : ME := fun e h => match fd e h with
  | .ok (.ref n) _ => match h[n]? with
    | some (.dict kvs) => (f e (h.set n (.jE kvs))).bind fun d h2 => match h2[n]? with
      | some (.jE ah3) => .ok d (h2.set n (.dict ah3))
      | _ => .stuck
    | _ => .stuck
  | _ => .stuck
theorem Pg (he : PE X ex (rd X.K W f)) : PE X ex (rd X.K W (vY fd f)) := (pe_lock he).weak fun σ H Q ⟨e, al, h, r, re, p⟩ => by
  unfold vY at p
  split at p
  · rename_i n h0 hf
    split at p
    · rename_i kvs hn
      obtain ⟨a, z, ok⟩ := r.addr hn
      obtain ⟨ws, eH, k, qs⟩ := ok
      refine ⟨a, .dK ws, eH, trivial, fun od => ?_⟩
      obtain ⟨r2, l2⟩ := r.put (o := .frz od (.dK ws)) (c := .jE kvs) z (fun H' aQ l' e' => ⟨od, ws, e', k, qs.mono r l'⟩) (fun kv w => by rw [hn] at w; cases w)
      refine ⟨e, al, _, r2, re.mono r l2, ?_⟩
      cases y : f e (h.set n (.jE kvs)) with
      | stuck => rw [y] at p; exact p.elim
      | exc c fs h' =>
        rw [y] at p
        intro a' H' aQ gs l' r' e1 e2
        exact p a' H' aQ gs (l2.trans l') r' e1 e2
      | ok d h2 =>
        rw [y] at p
        simp only [Res.d7] at p
        split at p
        · rename_i ah3 hn2
          intro v H' aQ l' r' q
          obtain ⟨r3, l3, u3⟩ := HR.unlock r z eH l' r' hn2
          exact ⟨l'.lk a _ _ upd_same, p v _ aQ l3 r3 (Rp.gU r' u3 q)⟩
        · exact p.elim
    · exact p.elim
  · exact p.elim
end
section
variable {X : Cx} {W : WX} {fd : ME} {de tg : Expr} {apos cpos : Pos}
def itV (fd : ME) : En → AH → Res (List D) := fun e h => (fd e h).bind fun d h1 => match d with
  | .ref n => match h1[n]? with
    | some (.jE kvs) => .ok (kvs.map (·.2)) h1
    | _ => .stuck
  | _ => .stuck
def keyD : Key → D
  | .inl i => .int i
  | .inr s => .str s
def itI (fd : ME) : En → AH → Res (List D) := fun e h => (fd e h).bind fun d h1 => match d with
  | .ref n => match h1[n]? with
    | some (.jE kvs) => .ok (kvs.map fun q => .tup [keyD q.1, q.2]) h1
    | _ => .stuck
  | _ => .stuck
theorem abY {K : PySem.W.Frag} {H : Hp} {al : Al} {h : AH} {a : Addr} {o : Obj} {ws : List (Key × V)} {kvs : List (Key × D)} (r : HR K H al h) (e : H a = some (.frz o (.dK ws))) (q : bx K H al (kvs.map (·.2)) (ws.map (·.2))) :
    qH K (Itd a o ws) (kvs.map (·.2)) H al := by
  intro H' aQ h' l r'
  have e' := l.lk a _ _ e
  have q' := q.cU r l
  have hl := q'.length
  simp only [List.length_map] at hl
  refine ⟨fun i hi => ⟨e', by simp only [List.length_map] at hi; omega⟩, ⟨e', by simp only [List.length_map]; omega⟩, fun i x H2 hi y => ?_⟩
  obtain ⟨rfl, k, hk⟩ := y
  obtain ⟨d, hd, rp⟩ := q'.get' (i := i) (v := x) (by rw [List.getElem?_map, hk]; rfl)
  exact ⟨.refl, r', d, hd, rp⟩
theorem aaF {K : PySem.W.Frag} {H : Hp} {al : Al} {h : AH} {a : Addr} {o : Obj} {ws : List (Key × V)} {kvs : List (Key × D)} (r : HR K H al h) (e : H a = some (.frz o (.dK ws))) (k : ws.map (·.1) = kvs.map (·.1)) (q : bx K H al (kvs.map (·.2)) (ws.map (·.2))) :
    qH K (Iti a o ws) (kvs.map fun q => D.tup [keyD q.1, q.2]) H al := by
  intro H' aQ h' l r'
  have e' := l.lk a _ _ e
  have q' := q.cU r l
  have hl := q'.length
  simp only [List.length_map] at hl
  refine ⟨fun i hi => ⟨e', by simp only [List.length_map] at hi; omega⟩, ⟨e', by simp only [List.length_map]; omega⟩, fun i x H2 hi y => ?_⟩
  obtain ⟨T, ky, v, hk, rfl, hT, rfl⟩ := y
  obtain ⟨d, hd, rp⟩ := q'.get' (i := i) (v := v) (by rw [List.getElem?_map, hk]; rfl)
  rw [List.getElem?_map] at hd
  obtain ⟨⟨k2, d2⟩, hkv, rfl⟩ := Option.map_eq_some_iff.mp hd
  have ek : ky = k2 := by
    have := congrArg (fun l => l[i]?) k
    simp only [List.getElem?_map, hk, hkv, Option.map_some] at this
    exact Option.some.inj this
  subst ek
  have lf := Le.fresh (o := .tup [kV ky, v]) r' hT
  refine ⟨lf, r'.fresh hT, .tup [keyD ky, d2], by rw [List.getElem?_map, hkv]; rfl, .tup (SqT.of upd_same) (.cons ?_ (.cons (rp.mono r' lf) .nil))⟩
  cases ky with
  | inl i => exact .int i
  | inr s => exact .str s
theorem ah5 (he : PE X de (rd X.K W fd)) (hbase : attributeBase de "values" X.env (eval de X.env) = eval de X.env := by rfl) (hline : (apos.endLine == cpos.line) = true := by rfl) :
    PI X tg (.Call (.Attribute de "values" apos) [] [] cpos) (BK X.K W (itV fd)) := (pi_values he hbase hline).weak fun σ H R ⟨e, al, h, r, re, p⟩ => by
  refine ⟨e, al, h, r, re, (bJ.bind p).mono ?_⟩
  rintro x H1 ⟨d, bf, h1, l, r1, q, p1⟩
  split at p1
  · rename_i n
    split at p1
    · rename_i kvs hn
      cases q with
      | ref z =>
        obtain ⟨o, ws, e1, k, qs⟩ := r1.at_ n _ _ hn z
        exact ⟨_, o, ws, rfl, e1, p1 _ H1 bf .refl r1 (abY r1 e1 qs)⟩
    · exact p1.elim
  · exact p1.elim
theorem abb {elts : List Expr} {kk : Nat} {tpos : Pos} (he : PE X de (rd X.K W fd)) (hbase : attributeBase de "items" X.env (eval de X.env) = eval de X.env := by rfl) (hline : (apos.endLine == cpos.line) = true := by rfl) :
    PI X (.Tuple elts kk tpos) (.Call (.Attribute de "items" apos) [] [] cpos) (BK X.K W (itI fd)) := (pi_items he hbase hline).weak fun σ H R ⟨e, al, h, r, re, p⟩ => by
  refine ⟨e, al, h, r, re, (bJ.bind p).mono ?_⟩
  rintro x H1 ⟨d, bf, h1, l, r1, q, p1⟩
  split at p1
  · rename_i n
    split at p1
    · rename_i kvs hn
      cases q with
      | ref z =>
        obtain ⟨o, ws, e1, k, qs⟩ := r1.at_ n _ _ hn z
        exact ⟨_, o, ws, rfl, e1, p1 _ H1 bf .refl r1 (aaF r1 e1 k qs)⟩
    · exact p1.elim
  · exact p1.elim
end
end PD
namespace PD
open PySem PySem.Spec PyProof.Rows L2
section
variable {X : Cx} {W : WX} {fo fa : ME} {o e : Expr} {cs : List Str} {f : Str} {pos : Pos} {g1 g2 : MG}
def Ph (cs : List Str) (f : Str) (e : En) (v o : D) (h : AH) : Res En := match o with
  | .ref n => match h[n]? with
    | some (.ins c fs) => if c ∈ cs ∧ fs.length < 1000 then .ok e (h.set n (.ins c (putD f v fs))) else .stuck
    | _ => .stuck
  | _ => .stuck
def abZ (cs : List Str) (f : Str) (fo : ME) : MG := fun v e h => (fo e h).bind fun o h1 => Ph cs f e v o h1
theorem afE (hC : ∀ c ∈ cs, Cls X.K (He.ga X.K c) ∧ NoAttr X.K (He.ga X.K c) f) (ho : PE X o (rd X.K W fo)) : PG X (.Attribute o f pos) (Bv X.K W (abZ cs f fo)) := by
  refine ⟨fun pins s σ H v u Q I rv ⟨d, en, al, h, r, re, q, p⟩ => ?_⟩
  rw [assign_Attribute]
  refine wpAny_bind (wpAny_holding (wpAny_mono (ho.run pins s σ H (fun w H1 => ∃ d1 bf h1, Le H al H1 bf ∧ HR X.K H1 bf h1 ∧ Rp X.K H1 bf d1 w ∧ bJ X.K (fun H al e st => iG X.K H al e st) H1 bf (fun c d H' => W c d σ H') Q (Ph cs f en d d1 h1)) I ⟨en, al, h, r, re, bJ.bind p⟩) (fun ov s1 z => ?_) fun _ _ z => z))
  obtain ⟨w, H1, I1, rw', d1, bf, h1, l1, r1, q1, p1⟩ := z
  unfold Ph at p1
  split at p1
  · rename_i n
    split at p1
    · rename_i c fs hx
      split at p1
      · rename_i hc
        cases q1 with
        | ref ea =>
          rename_i a
          obtain ⟨dx, gs, e1, qf⟩ := r1.at_ n _ _ hx ea
          obtain ⟨r3, l3⟩ := r1.put (o := .ins (He.ga X.K c) dx (putF f v gs)) (c := .ins c (putD f d fs)) ea (fun H' aQ l' e' => ⟨dx, _, e', (qf.mono r1 l').put ((q.mono r l1).mono r1 l')⟩) (fun kv w => by rw [hx] at w; cases w)
          obtain rfl : ov = Value.ref a := rw'
          refine wpAny_bind (wpAny_standAt (wpAny_bind (wpAny_holding ?_)))
          exact setattr_ok I1 e1 (hC c hc.1).1 (hC c hc.1).2 (by rw [← qf.length]; exact hc.2) rv fun s2 I2 => wpAny_release ⟨σ, _, I2, p1 _ _ _ l3 r3 ((re.mono r l1).mono r1 l3)⟩
      · exact p1.elim
    · exact p1.elim
  · exact p1.elim
def ab0 (fa : ME) (g1 g2 : MG) : MS := fun e h => (fa e h).st e fun d h1 => (g1 d e h1).st e fun e1 h2 => (g2 d e1 h2).st e1 fun e2 h3 => .nx e2 h3
theorem ah6 {t1 t2 : Expr} (he : PE X e (rd X.K W fa)) (h1 : PG X t1 (Bv X.K W g1)) (h2 : PG X t2 (Bv X.K W g2)) (ha : (assignEach [t1, t2] X.env).map (·.2) = [assign t1 X.env, assign t2 X.env] := by rfl) (hw : swappedStores [t1, t2] e X.env = pure none := by rfl) :
    PS X (.Assign [t1, t2] e pos) (oH X.K W (ab0 fa g1 g2)) := (ps_asg2 he h1 h2 ha hw).weak fun N σ H ⟨en, al, h, r, re, p⟩ => by
  refine ⟨en, al, h, r, re, (jV r re p).mono ?_⟩
  rintro v H1 ⟨d, bf, h1, l, r1, q, p1⟩
  refine ⟨d, en, bf, h1, r1, re.mono r l, q, (jV r1 (re.mono r l) p1).mono ?_⟩
  rintro st H2 ⟨e2, dD, h2, l2, r2, yN, p2⟩
  refine ⟨d, e2, dD, h2, r2, yN, q.mono r1 l2, (jV r2 yN p2).mono ?_⟩
  rintro st3 H3 ⟨e3, Rb, h3, l3, r3, re3, p3⟩
  exact p3 st3 H3 Rb .refl r3 re3
def Pj : ON
  | [.ref n], h => match h[n]? with
    | some (.dict kvs) => some (.ref h.length, h ++ [.dict kvs])
    | _ => none
  | _, _ => none
theorem agf : CallR X (.type "dict") (rN X.K Pj) := by
  rintro pins s σ H xs us Q I rv ⟨ds, al, h, r, p, po⟩
  unfold Pj at po
  split at po
  · rename_i n
    cases p with
    | cons p p2 =>
      cases p2
      cases p with
      | ref z =>
        split at po
        · rename_i kvs hn
          obtain ⟨ws, eH, k, qs⟩ := r.at_ n _ _ hn z
          refine call_dictD pins s σ H _ us Q I rv ⟨_, ws, rfl, .inl eH, fun a hp => ?_⟩
          obtain ⟨r', l⟩ := r.push (o := .dK ws) (c := .dict kvs) hp fun H' aQ l e => ⟨ws, e, k, qs.mono r l⟩
          exact po _ _ _ l r' (.ref (by rw [← r.len]; simp))
        · exact po.elim
  · exact po.elim
end
def noX : RS → RS
  | .exc _ _ _ _ => .stuck
  | r => r
def QD (b f : MS) : MS := fun e h => match b e h with
  | .nx e1 h1 => noX (f e1 h1)
  | .exc c fs e1 h1 => match f e1 h1 with
    | .nx e2 h2 => .exc c fs e2 h2
    | _ => .stuck
  | _ => .stuck
def ajD (tb : WX → TS) (tf tfs : TS) (Wo : WX) : TS := fun D σ H => tb (wFin tfs Wo) { nx := fun σ1 H1 => tf D σ1 H1, rt := fun _ _ => False } σ H
section
variable {X : Cx} {W : WX} {body : List Stmt} {f0 : Stmt} {fs : List Stmt} {pos : Pos}
theorem agg {tb : WX → TS} {tf tfs : TS} {Wo : WX} (hs : X.stack = X.env :: X.outer) (hf : X.env.frame = some X.env.locals) (hx : X.ex = []) (tk : Takes X Wo)
    (hb : ∀ (W : WX) (pn : List (Addr × Obj)) (xe : Value → Shared → Prop), Takes (X.tr pn xe) W → PassesOwn (model X.prog X.w) X.A X.env xe → PSs (X.tr pn xe) body (tb W))
    (h1 : PSs X.nox (f0 :: fs) tf) (h2 : ∀ (a : Addr) (pn : List (Addr × Obj)), PSs (X.suite a pn) (f0 :: fs) tfs) : PS X (.Try body [] [] (f0 :: fs) pos) (ajD tb tf tfs Wo) := by
  refine ⟨fun pins s σ H D I z => wpAny_Try_finally ?_⟩
  have ok := I.ok
  have run := (hb (wFin tfs Wo) (X.pn ++ pins) (fun x s₁ => wpAny (model X.prog X.w) X.A (noteFrame x X.env) (fun _ s₂ => FinallyRaised X.prog X.w X.A X.xe X.env (f0 :: fs) (SP X pins D) x s₂)
    (FinallyRaised X.prog X.w X.A X.xe X.env (f0 :: fs) (SP X pins D)) s₁) (fun u s' xx => fin_exc hs hf hx ok tk h2 xx) PassesOwn.looking).run [] s σ H { nx := fun σ1 H1 => tf D σ1 H1, rt := fun _ _ => False } (I.toTry _) z
  refine wpAny_mono run (fun g s1 y => ?_) fun _ _ y => y
  cases g with
  | ret u => exact False.elim y.choose_spec.choose_spec.choose_spec.2.2
  | brk => exact False.elim y.choose_spec.choose_spec.2
  | cont => exact False.elim y.choose_spec.choose_spec.2
  | next =>
    obtain ⟨σ1, H1, J1, q1⟩ := y
    refine wpAny_execs_nil (wpAny_mono (h1.run pins s1 σ1 H1 D ((J1.ofTry ok).wish _) q1) (fun g2 s2 q2 => ?_) fun _ _ y => False.elim y)
    have q3 : SP X pins D g2 s2 := q2.unwish
    cases g2 <;> exact q3
theorem aeI {K : PySem.W.Frag} {H : Hp} {al : Al} {N : Ends} {r : RS} (p : mY K W H al N (noX r)) : mY K WF H al N r := by
  cases r <;> first | exact p | exact p.elim
theorem ajE {b f : MS} (ct : bZ X W) (hs : X.stack = X.env :: X.outer) (hf : X.env.frame = some X.env.locals) (hx : X.ex = [])
    (hb : ∀ (W : WX) (pn : List (Addr × Obj)) (xe : Value → Shared → Prop), bZ (X.tr pn xe) W → PSs (X.tr pn xe) body (oH X.K W b))
    (h1 : PSs X.nox (f0 :: fs) (oH X.K WF f)) (h2 : ∀ (a : Addr) (pn : List (Addr × Obj)), PSs (X.suite a pn) (f0 :: fs) (oH X.K WF f)) : PS X (.Try body [] [] (f0 :: fs) pos) (oH X.K W (QD b f)) :=
  (agg (tb := fun W => oH X.K W b) hs hf hx ct.tk (fun W pn xe tk po => hb W pn xe ⟨tk, po, ct.gd⟩) h1 h2).weak fun N σ H ⟨e, al, h, r, re, po⟩ => by
    refine ⟨e, al, h, r, re, ?_⟩
    unfold QD at po
    cases y : b e h with
    | nx e1 h1 =>
      rw [y] at po
      intro st H' aQ l r' yh
      exact ⟨e1, aQ, h1, r', yh, aeI (mY.le po l)⟩
    | exc c fs e1 h1 =>
      rw [y] at po
      dsimp only at po
      intro a st H' aQ gs l r' yh e3 qf
      refine ⟨e1, aQ, h1, r', yh, ?_⟩
      cases w : f e1 h1 with
      | nx e2 h2 =>
        rw [w] at po
        intro st2 H2 dD l2 r2 yN
        exact po a st2 H2 dD gs (l.trans l2) r2 yN (l2.keep a _ e3 (r'.ada e3)) (qf.mono r' l2)
      | _ => rw [w] at po; exact po.elim
    | _ => rw [y] at po; exact po.elim
end
end PD
namespace GB
open PySem PySem.Spec PyProof.Rows
theorem afG : typeLookup (.type "dict_values") "__contains__" = pure none := by rw [typeLookup_type, builtinLookup_eq_fast]; kernel_rfl
theorem afH : entryFor table "proto.contains_iter" = some Builtin.«proto.contains_iter» := entryFor_of_tree (by kernel_rfl)
theorem ab1 : plainId "proto.contains_iter" = true := by decide +kernel
section
variable {prog : Program} {w : World} {A : Around} {E : Value → Shared → Prop} {s : Shared}
theorem agh (A : Around) (s : Shared) (i j : Int) (t u : Tok) (hu : A.units < cLine) : SeqAt.EqAt A s (.int i t) (.int j u) (PyData.eqv (.int i) (.int j)) :=
  SeqAt.eqAt_reads (.int i) (.int j) A s _ _ _ _ (Reads.int i t) (Reads.int j u) rfl rfl (by simpa [PyData.depth] using hu)
theorem agi {I : Addr} {fp wr : List Addr} {n : Nat} {P : Nat → Value → Prop} {St : Nat → Heap → Prop} {R : Result → Shared → Prop} (W : Walks prog w A.in1 I fp wr n P St) (hu : A.units + 1 < cLine) (k : Int) (u : Tok) (js : Nat → Int) (hv : ∀ i v, P i v → ∃ t, v = .int (js i) t) :
    ∀ (m i : Nat) (s : Shared), n - i = m → i ≤ n → St i s.heap →
      (∀ h' tk, (∀ b o, b ∉ wr → s.heap.get? b = some o → h'.get? b = some o) → R (.ok (.ret (.bool ((List.range' i (n - i)).any fun j => PyData.eqv (.int (js j)) (.int k))))) { s with heap := h', toks := tk }) →
      codeAny (model prog w) A (.builtin "proto.contains_iter" ⟨[.ref I, .int k u], []⟩) R s := by
  intro m
  induction m with
  | zero =>
    intro i s hm hi st hR
    have hin : i = n := by omega
    subst hin
    refine codeAny_builtin afH ?_
    rw [Around.under_plainId ab1 _]
    show wpAny _ A.in1 (pyNext (.ref I) >>= _) _ _ s
    refine wpAny_bind (W.done s _ _ st fun h' tk keep => ?_)
    have q := hR h' tk keep
    rw [Nat.sub_self] at q
    exact wpAny_bind (wpAny_rule (wpAny_pure q))
  | succ m ih =>
    intro i s hm hi st hR
    have hlt : i < n := by omega
    refine codeAny_builtin afH ?_
    rw [Around.under_plainId ab1 _]
    show wpAny _ A.in1 (pyNext (.ref I) >>= _) _ _ s
    refine wpAny_bind (W.item i s _ _ hlt st fun v h' tk hp st' keep => ?_)
    obtain ⟨t, rfl⟩ := hv i v hp
    have er : List.range' i (n - i) = i :: List.range' (i + 1) (n - (i + 1)) := by
      have : n - i = (n - (i + 1)) + 1 := by omega
      rw [this, List.range'_succ]
    show wpAny _ A.in1 (eqBool (.int (js i) t) (.int k u) >>= _) _ _ _
    refine wpAny_bind (agh A.in1 _ (js i) k t u (by show A.units + 1 < cLine; exact hu) prog w _ _ ?_)
    cases c : PyData.eqv (.int (js i)) (.int k) with
    | true =>
      have q := hR h' tk keep
      rw [er, List.any_cons, c, Bool.true_or] at q
      exact wpAny_bind (wpAny_rule (wpAny_pure q))
    | false =>
      refine wpAny_pure ⟨plainId_quiet ab1 _, ih (i + 1) _ (by omega) hlt st' fun h2 tk2 keep2 => ?_⟩
      have q := hR h2 tk2 fun b o hb e => keep2 b o hb (keep b o hb e)
      rw [er, List.any_cons, c, Bool.false_or] at q
      exact q
theorem agj {v d : Addr} {es : Array DictEntry} {ep : Nat} {kvs : List (L2.Key × Value)} {k : Int} {u : Tok} {Q : Value → Shared → Prop} (hh : A.handled = none) (hu : A.units + 3 < cLine) (hv : s.heap.IsValuesView v d) (hm : s.heap.DictAt (L2.mixKind prog w) d kvs ep) (hr : s.heap.DictRaw d es ep) (hn : es.size = kvs.length)
    (js : Nat → Int) (hj : ∀ i (h : i < es.size), ∃ t, es[i].val = .int (js i) t) (hd : d < s.heap.objs.size)
    (h : ∀ h' tk, (∀ b o, s.heap.get? b = some o → h'.get? b = some o) → Q (.bool ((List.range' 0 es.size).any fun j => PyData.eqv (.int (js j)) (.int k))) { s with heap := h', toks := tk }) :
    wpAny (model prog w) A (compareOp .In (.int k u) (.ref v)) Q E s := by
  show wpAny _ A (do let b ← contains (.ref v) (.int k u); pure (Value.bool b)) Q E s
  refine wpAny_bind ?_
  unfold contains
  refine wpAny_holding ?_
  show wpAny _ A (specialOf (.ref v) "__contains__" >>= _) _ _ _
  refine wpAny_bind (wpAny_specialOf hv.typeIs afG ?_)
  have e : ((none : Option Value) == some Value.none) = false := rfl
  simp only [e, Bool.false_eq_true, if_false]
  refine wpAny_bind (wpAny_callSpecialUnlessNone?_none hv.typeIs afG ?_)
  dsimp only
  refine wpAny_bind (wpAny_rule ?_)
  refine wpAny_bind (wpAny_tryCatch (wpAny_pyIter_values hv hm ?_))
  have hsz : (s.heap.push { cls := .type "dict_valueiterator", data := .fields #[.ref d, .int 0 0, .int kvs.length 0, .int ep 0] }).objs.size = s.heap.objs.size + 1 := Heap.size_push ..
  have hne : d ≠ s.heap.objs.size := Nat.ne_of_lt hd
  refine wpAny_bind (wpAny_runValue ?_)
  refine agi (Walks.rawValues (A := A.in1) (by simp [hh]) s.heap.objs.size d hne es ep) (by omega) k u js (fun i v q => ?_) (es.size - 0) 0 _ rfl (Nat.zero_le _) ⟨⟨_, Heap.get?_push_size _ rfl, rfl, ?_⟩, hr.at fun o e => Heap.get?_push_of_some _ e⟩ fun h' tk keep => ?_
  · obtain ⟨hi, rfl⟩ := q
    exact hj i hi
  · rw [hn]
    rfl
  · dsimp only
    refine wpAny_pure ?_
    exact wpAny_pure (h h' tk fun b o e => keep b o (fun z => by
      rw [List.mem_singleton.mp z] at e
      exact absurd (Heap.lt_size e) (Nat.lt_irrefl _)) (Heap.get?_push_of_some _ e))
end
end GB
namespace PD
open PySem PySem.Spec PyProof.Rows L2
def pG : List D → Option (List Int)
  | [] => some []
  | .int i :: ds => (pG ds).map (i :: ·)
  | _ => none
theorem Ce : ∀ {ds : List D} {js : List Int}, pG ds = some js → ds = js.map .int
  | [], _, h => by cases h; rfl
  | .int i :: ds, js, h => by
    simp only [pG] at h
    cases e : pG ds with
    | none => rw [e] at h; cases h
    | some ks =>
      rw [e] at h
      cases h
      rw [Ce e]
      rfl
def ZR (x d : D) (h : AH) : Res D := match x, d with
  | .int k, .ref n => match h[n]? with
    | some (.jE kvs) => match pG (kvs.map (·.2)) with
      | some js => .ok (.bl (js.any fun j => PyData.eqv (.int j) (.int k))) h
      | none => .stuck
    | _ => .stuck
  | _, _ => .stuck
def aeJ (fa fd : ME) : ME := fun e h => (fa e h).bind fun x h1 => (fd e h1).bind fun d h2 => ZR x d h2
section
variable {X : Cx} {W : WX} {fa fd : ME} {a de : Expr} {apos cpos pos : Pos}
theorem ajF (hc : X.calm = true) (hu : X.A.units + 64 < cLine) (ha : PE X a (rd X.K W fa)) (he : PE X de (rd X.K W fd)) (hbase : attributeBase de "values" X.env (eval de X.env) = eval de X.env := by rfl) (hline : (apos.endLine == cpos.line) = true := by rfl)
    (hm : behindInMarks .In (.Call (.Attribute de "values" apos) [] [] cpos) = false := by rfl) : PE X (.Compare a [.In] [.Call (.Attribute de "values" apos) [] [] cpos] pos) (rd X.K W (aeJ fa fd)) := by
  refine ⟨fun pins s σ H Q I ⟨e, al, h, r, re, p⟩ => ?_⟩
  refine wpAny_Compare1 (thn (ha.run pins s σ H _ I ⟨e, al, h, r, re, bJ.bind p⟩) fun x s1 ⟨xv, H1, I1, rx, dx, bf, h1, l1, r1, q1, p1⟩ => ?_) hm
  refine wpAny_Call_method (T := "dict") (id := "dict.values") hbase rfl hline F.plainAttrs_dict F.slot_dict_values F.type_dict_values (thn (he.run pins s1 σ H1 _ I1 ⟨e, bf, h1, r1, re.mono r l1, bJ.bind p1⟩) fun u s2 ⟨dv, H2, I2, rd2, dd, dD, h2, l2, r2, q2, p2⟩ => ?_)
  unfold ZR at p2
  split at p2
  · rename_i k n _
    split at p2
    · rename_i kvs hn
      split at p2
      · rename_i js hjs
        cases q1
        cases q2 with
        | ref z =>
        rename_i d
        obtain ⟨o, ws, hd, kk, qs⟩ := r2.at_ _ _ _ hn z
        obtain rfl : u = Value.ref d := rd2
        obtain ⟨t, rfl⟩ := rx
        obtain ⟨hs, hgd, hx, es, ep, vs, hdt, hsz, kv, hm2⟩ := I2.frzK hd
        have hl : ws.length = vs.length := Paired.length kv
        refine ⟨hm2.dictOf.typeIs, hm2.dictOf.mapOf.noDict, ?_⟩
        have I3 : Inv X pins σ H2 { s2 with heap := s2.heap.push { cls := .type "dict_values", data := .fields #[.ref d] } } := I2.kept (t' := s2.toks) fun b ob q => Heap.get?_push_of_some _ q
        have hjl : js.length = ws.length := by
          have e1 := qs.length
          rw [Ce hjs] at e1
          simpa using e1
        have fin : wpAny (model X.prog X.w) X.A (compareOp .In (.int k t) (.ref s2.heap.objs.size)) (EP X pins σ Q) X.xe { s2 with heap := s2.heap.push { cls := .type "dict_values", data := .fields #[.ref d] } } := by
          refine GB.agj (d := d) (es := es) (kvs := vs) (I2.ok.hd hc) (by omega) ⟨_, Heap.get?_push_size _ rfl, rfl, rfl⟩ (hm2.push _) ⟨o, Heap.get?_push_of_some _ hgd, hx, hdt⟩ (by rw [hsz, hl]) (fun i => js.getD i 0) (fun i hi => ?_) (Nat.lt_trans (Heap.lt_size hgd) (by rw [Heap.size_push]; exact Nat.lt_succ_self _)) fun h' tk keep => ?_
          · have hi' : i < vs.length := by rw [← hl, ← hsz]; exact hi
            obtain ⟨es2, ep2, ⟨o2, ho2, _, hd2⟩, hs2, hv2⟩ := hm2.dictOf.raw
            rw [hgd] at ho2
            cases ho2
            obtain ⟨rfl, rfl⟩ := dict_ep hdt hd2
            obtain ⟨_, e2⟩ := hv2 i hi _ _ (List.getElem?_eq_getElem hi')
            have hw : i < ws.length := by rw [hl]; exact hi'
            obtain ⟨u2, hu2, ru2⟩ := kv_get kv (k := ws[i].1) (v := ws[i].2) (i := i) (List.getElem?_eq_getElem hw)
            rw [List.getElem?_eq_getElem hi'] at hu2
            obtain ⟨d3, hd3, rp⟩ := qs.get' (i := i) (v := ws[i].2) (by rw [List.getElem?_map, List.getElem?_eq_getElem hw]; rfl)
            rw [Ce hjs, List.getElem?_map, List.getElem?_eq_getElem (by rw [hjl]; exact hw)] at hd3
            cases hd3
            generalize ws[i].2 = y at rp ru2
            cases rp
            have e4 : vs[i].2 = u2 := by rw [Option.some.inj hu2]
            obtain ⟨t2, e5⟩ := ru2
            refine ⟨t2, ?_⟩
            show es2[i].val = _
            rw [show es2[i].val = vs[i].2 from e2, e4, e5, List.getD_eq_getElem?_getD, List.getElem?_eq_getElem (by rw [hjl]; exact hw)]
            rfl
          · have I4 : Inv X pins σ H2 { s2 with heap := h', toks := tk } := I3.kept (t' := tk) fun b ob q => keep b ob q
            refine ⟨.bl _, H2, I4, rfl, ?_⟩
            have ej : ((List.range' 0 es.size).any fun j => PyData.eqv (.int (js.getD j 0)) (.int k)) = js.any fun j => PyData.eqv (.int j) (.int k) := by
              have : js = (List.range' 0 es.size).map fun i => js.getD i 0 := by
                apply List.ext_getElem
                · simp [hsz, hjl]
                · intro i h1 h2
                  simp [List.getD_eq_getElem?_getD, List.getElem?_eq_getElem h1]
              conv => rhs; rw [this, List.any_map]
              rfl
            rw [ej]
            exact p2 _ _ _ .refl r2 (.bl _)
        show wpAny _ _ (callWith cpos (.builtin "dict.values") [.ref d] [] []) _ X.xe s2
        exact method_meetsIn F.slot_dict_values F.entry_dict_values rfl (PySem.evalArgs_none ⟨rfl, hm2.dictOf.typeIs, F.args_dict_values_1 _, _, meets_dict_values (mixKind X.prog X.w) d hs, ⟨vs, hm2.dictOf⟩, fin⟩)
      · exact p2.elim
    · exact p2.elim
  · exact p2.elim
end
end PD
namespace GB
open PySem PySem.SeqAt
open AutoSeq1 (wpAny_loadPart')
open MeetsSeq MeetsSeq2 MeetsSeq3 SeqRoads2
section
variable {prog : Program} {w : World} {A : Around} {E : Value → Shared → Prop} {s : Shared}
theorem adw {R : Result → Shared → Prop} {l b : Addr} {items items2 : Array Value} {n n2 : Nat} {sl sl2 : Array (Option Value)} (hl1 : s.heap.get? l = some { cls := .type "list", data := .seq items n, slots := sl }) (hb1 : s.heap.get? b = some { cls := .type "list", data := .seq items2 n2, slots := sl2 }) (hne : items.size ≠ items2.size)
    (last : R (.ok (.ret (.bool true))) s) : wpAny (model prog w) A.in1 (Builtin.«list.__ne__» ⟨[.ref l, .ref b], []⟩) (GQ.FinOf prog w A R) (fun e s' => R (.error e) s') s := by
  obtain ⟨hp, g, d, tk, os⟩ := s
  have f3 := AutoSeq1.sub_list_list
  have hne : (items.size != items2.size) = true := by simpa using hne
  wp_walk using wpAny_loadPart' hl1, wpAny_loadPart' hb1
  exact last
theorem agk {l b : Addr} {items items2 : Array Value} {n n2 : Nat} {sl sl2 : Array (Option Value)} {Q : Value → Shared → Prop} (hu : A.units < cLine) (hl1 : s.heap.get? l = some { cls := .type "list", data := .seq items n, slots := sl }) (hb1 : s.heap.get? b = some { cls := .type "list", data := .seq items2 n2, slots := sl2 }) (hne : items.size ≠ items2.size)
    (hq : Q (.bool true) s) : wpAny (model prog w) A (richCompare .NotEq (.ref l) (.ref b)) Q E s :=
  wpAny_richCompare_same_room (op := .NotEq) ⟨_, hl1, rfl⟩ ⟨_, hb1, rfl⟩ F.slot_list_ne (GQ.call_here F.slot_list_ne ⟨_, hl1, rfl⟩ F.entry_list_ne (F.args_list_ne_2 _ _)
    (adw (R := wants (fun v s' => v ≠ .notImplemented ∧ Q v s') E) hl1 hb1 hne ⟨(fun z => nomatch z), hq⟩)) hu
end
end GB
namespace PD
open PySem PySem.Spec PyProof.Rows L2
section
variable {X : Cx} {W : WX}
def neL (o : O2) : O2 := fun d e h => match ZJ h d, ZJ h e with
  | some xs, some ys => if xs.length ≠ ys.length then some (.bl true, h) else o d e h
  | _, _ => o d e h
theorem afI {o : O2} (hu : X.A.units + 64 < cLine) (ho : OpR X (compareOp .NotEq) (r2 X.K o)) : OpR X (compareOp .NotEq) (r2 X.K (neL o)) := by
  rintro pins s σ H x y v u Q I rx ry ⟨d, e, al, h, r, p, q, po⟩
  unfold neL at po
  split at po
  · rename_i xs ys hx hy
    split at po
    · rename_i hn
      obtain ⟨a, vs, rfl, sq, ql⟩ := Ca r p hx
      obtain ⟨b, ws, rfl, sq2, ql2⟩ := Ca r q hy
      obtain ⟨its, rl, pl, hz⟩ := I.list sq
      obtain ⟨its2, rl2, pl2, hz2⟩ := I.list sq2
      obtain rfl : v = Value.ref a := rx
      obtain rfl : u = Value.ref b := ry
      obtain ⟨⟨c1, dd1, dt1, sl1⟩, n1, g1, e1, e2, e3⟩ := pl
      obtain ⟨⟨c2, dd2, dt2, sl2⟩, n2, g2, f1, f2, f3⟩ := pl2
      simp only at e1 e2 e3 f1 f2 f3
      subst e1 e2 e3 f1 f2 f3
      refine GB.agk (by omega) g1 g2 ?_ ⟨.bl true, H, I, rfl, po _ _ _ .refl r (.bl _)⟩
      rw [List.size_toArray, List.size_toArray, ← rl.length, ← rl2.length, ← ql.length, ← ql2.length]
      exact hn
    · exact ho pins s σ H x y v u Q I rx ry ⟨d, e, al, h, r, p, q, po⟩
  · exact ho pins s σ H x y v u Q I rx ry ⟨d, e, al, h, r, p, q, po⟩
end
end PD
namespace PD
open PySem PySem.Spec PyProof.Rows L2
section
variable {X : Cx} {W : WX}
def uV (cs : List Str) (f : Str) (fo fv : ME) : MS := fun e h => (fo e h).st e fun a h1 => match a with
  | .ref n => match h1[n]? with
    | some (.ins c fs) => if c ∈ cs then match fs.lookup f with
        | some (.int i) => (fv e h1).st e fun y h2 => match y with
          | .int j => (match h2[n]? with
            | some (.ins c' fs') => if c' = c ∧ fs'.length < 1000 then .nx e (h2.set n (.ins c' (putD f (.int (i + j)) fs'))) else .stuck
            | _ => .stuck)
          | _ => .stuck
        | _ => .stuck
      else .stuck
    | _ => .stuck
  | _ => .stuck
theorem pre_at {H H' : Hp} {al aQ : Al} {n : Nat} {a : Addr} (l : Le H al H' aQ) (e : al.c[n]? = some a) : aQ.c[n]? = some a := by
  obtain ⟨t, ht⟩ := l.pre
  rw [ht, List.getElem?_append_left (List.getElem?_eq_some_iff.mp e).1, e]
theorem ZV {cs : List Str} {f : Str} {o v : Expr} {fo fv : ME} {pos tpos : Pos} (hC : ∀ c ∈ cs, Cls X.K (He.ga X.K c) ∧ NoAttr X.K (He.ga X.K c) f) (ho : PE X o (rd X.K W fo)) (hv : PE X v (rd X.K W fv)) :
    PS X (.AugAssign (.Attribute o f tpos) .Add v pos) (oH X.K W (uV cs f fo fv)) :=
  (ps_fldaug ho hv in_add).weak fun N σ H ⟨e, al, h, r, re, po⟩ => by
    refine ⟨e, al, h, r, re, (jV r re po).mono ?_⟩
    rintro x H1 ⟨d, bf, h1, l, r1, q, p1⟩
    split at p1
    · rename_i n
      split at p1
      · rename_i c fs hx
        split at p1
        · rename_i hc
          split at p1
          · rename_i i hi
            cases q with
            | ref ea =>
              obtain ⟨dx, gs, e1, qf⟩ := r1.at_ n _ _ hx ea
              obtain ⟨w, e2, q2⟩ := qf.lookup hi
              refine ⟨_, _, dx, gs, w, rfl, e1, (hC c hc).1, (hC c hc).2, e2, e, bf, h1, r1, re.mono r l, (jV r1 (re.mono r l) p1).mono ?_⟩
              rintro y H2 ⟨d2, dD, h2, l2, r2, q3, p2⟩
              split at p2
              · rename_i j
                cases q2
                cases q3
                refine ⟨i, j, rfl, rfl, ?_⟩
                split at p2
                · rename_i c' fs' hx'
                  split at p2
                  · rename_i hc'
                    obtain ⟨hc', hl'⟩ := hc'
                    subst hc'
                    have ea2 := pre_at l2 ea
                    obtain ⟨dx', gs', e1', qf'⟩ := r2.at_ n _ _ hx' ea2
                    obtain ⟨r3, l3⟩ := r2.put (o := .ins (He.ga X.K c') dx' (putF f (.int (i + j)) gs')) (c := .ins c' (putD f (.int (i + j)) fs')) ea2 fun H' aQ l' e' => ⟨dx', _, e', (qf'.mono r2 l').put (.int _)⟩
                    exact ⟨dx', gs', e1', by rw [← qf'.length]; exact hl', p2 _ _ _ l3 r3 (((re.mono r l).mono r1 l2).mono r2 l3)⟩
                  · exact p2.elim
                · exact p2.elim
              · exact p2.elim
          · exact p1.elim
        · exact p1.elim
      · exact p1.elim
    · exact p1.elim
mutual
def tvD : Tv → D
  | .int i => .int i
  | .str x => .str x
  | .tup l => .tup (tvL l)
def tvL : List Tv → List D
  | [] => []
  | t :: ts => tvD t :: tvL ts
end
mutual
theorem abe {K : PySem.W.Frag} : ∀ {t : Tv} {u : Value}, P0 K u t = true → ∃ v, RelV v u ∧ ∀ H al, Rp K H al (tvD t) v
  | .int i, u, h => by
    simp only [P0] at h
    split at h
    · rename_i j t
      cases of_decide_eq_true h
      exact ⟨.int i, ⟨t, rfl⟩, fun H al => by simp only [tvD]; exact .int i⟩
    · cases h
  | .str x, u, h => by
    simp only [P0] at h
    split at h
    · rename_i j t
      cases of_decide_eq_true h
      exact ⟨.str x, ⟨t, rfl⟩, fun H al => by simp only [tvD]; exact .str x⟩
    · cases h
  | .tup l, u, h => by
    simp only [P0] at h
    split at h
    · rename_i b
      split at h
      · rename_i od its n sl ho
        obtain ⟨h1, h2⟩ := Bool.and_eq_true_iff.mp h
        obtain ⟨vs, rv, q⟩ := abf h2
        refine ⟨.ref b, rfl, fun H al => ?_⟩
        simp only [tvD]
        exact .tup (.inr ⟨_, its, n, ho, rfl, rfl, Nat.le_trans (of_decide_eq_true h1) (by decide), rv⟩) (q H al)
      · cases h
    · cases h
theorem abf {K : PySem.W.Frag} : ∀ {ts : List Tv} {us : List Value}, Ut K us ts = true → ∃ vs, Vals vs us ∧ ∀ H al, bx K H al (tvL ts) vs
  | [], us, h => by
    simp only [Ut] at h
    cases us with
    | nil => exact ⟨[], .nil, fun H al => by simp only [tvL]; exact .nil⟩
    | cons _ _ => cases h
  | t :: ts, us, h => by
    simp only [Ut] at h
    cases us with
    | nil => cases h
    | cons u us =>
      obtain ⟨h1, h2⟩ := Bool.and_eq_true_iff.mp h
      obtain ⟨v, a, b⟩ := abe h1
      obtain ⟨vs, c, d⟩ := abf h2
      exact ⟨v :: vs, .cons a c, fun H al => by simp only [tvL]; exact .cons (b H al) (d H al)⟩
end
def ab2 (kvs : List (Str × Tv)) (k : Str) : Option (Option D) := match kvs.find? fun q => decide (q.1 = k) with
  | some q => some (some (tvD q.2))
  | none => some none
theorem KTab.ofT {K : PySem.W.Frag} {w : World} {x : Str} {kvs : List (Str × Tv)} (kd : ∃ es n, KDict K w (He.ga K x) es n) (h : ad9 K (He.ga K x) kvs = true) (hk : keyB K (He.ga K x) (kvs.map (·.1)) = true) : KTab K w x (ab2 kvs) := by
  refine ⟨kd, fun k d e => ?_, fun k e => ?_⟩
  · unfold ab2 at e
    split at e
    · rename_i q hq
      have e := Option.some.inj (Option.some.inj e)
      have hk : q.1 = k := of_decide_eq_true (List.find?_some (p := fun q : Str × Tv => decide (q.1 = k)) hq)
      have h2 := List.all_eq_true.mp h q (List.mem_of_find?_eq_some hq)
      subst hk e
      split at h2
      · rename_i u hu
        obtain ⟨v, a, b⟩ := abe h2
        exact ⟨u, v, hu, a, b⟩
      · cases h2
    · cases e
  · unfold ab2 at e
    split at e
    · cases e
    · rename_i hn
      refine Rk hk fun m => ?_
      obtain ⟨p, hp, rfl⟩ := List.mem_map.mp m
      have := List.find?_eq_none.mp hn p hp
      exact this (decide_eq_true rfl)
end
end PD
local macro_rules | `(tactic| walk_at "hp") => `(tactic| first | assumption | exact GB.Wd.at (by assumption) 0 rfl | exact GB.Wd.at (by assumption) 1 rfl | exact GB.Wd.at (by assumption) 2 rfl | exact GB.Wd.at (by assumption) 3 rfl | exact GB.Wd.at (by assumption) 4 rfl | exact GB.Wd.at (by assumption) 5 rfl | exact GB.Wd.at (by assumption) 6 rfl | exact GB.Wd.at (by assumption) 7 rfl | exact GB.Wd.at (by assumption) 8 rfl)
local macro_rules | `(tactic| walk_at "side") => `(tactic| first | decide | omega | exact ⟨by decide, by decide⟩ | exact ⟨by omega, by omega⟩ | exact GB.ad5 (by decide) | exact .inl ⟨by omega, by omega⟩ | exact .inr ⟨by omega, by omega⟩)
local macro_rules | `(tactic| walk_at "len") => `(tactic| first | assumption | decide | omega | (simp only [List.length_cons, List.length_nil, List.length_append, List.length_map]; first | done | omega))
local macro_rules | `(tactic| walk_at "s") => `(tactic| first
  | with_reducible refine GB.aiK ?_
  | with_reducible refine GB.agO ?_
  | with_reducible refine GB.aiL ?_
  | with_reducible refine GB.agP ?_
  | with_reducible refine GB.agQ ?_
  | with_reducible refine GB.aiM ?_
  | with_reducible refine GB.aiN ?_
  | ((with_reducible refine' GB.aiO ?a ?_); (case a => exact rfl))
  | with_reducible refine GB.r_c ?_
  | with_reducible refine GB.akp ?_
  | with_reducible refine GB.akq ?_
  | with_reducible refine GB.aiP ?_
  | with_reducible refine GB.agR ?_
  | with_reducible refine GB.akr ?_
  | with_reducible refine GB.agS ?_
  | with_reducible refine GB.agT ?_
  | with_reducible refine GB.agU ?_
  | with_reducible refine GB.aks ?_
  | with_reducible refine GB.akt ?_
  | with_reducible refine GB.aiQ ?_
  | with_reducible refine GB.aku ?_
  | with_reducible refine GB.aiR ?_
  | with_reducible refine GB.agV ?_
  | with_reducible refine GB.aiS ?_
  | with_reducible refine GB.agW ?_
  | with_reducible refine GB.aiT ?_
  | with_reducible refine GB.afQ ?_
  | with_reducible refine GB.aiU ?_
  | with_reducible refine GB.aiV ?_
  | with_reducible refine GB.ad4 ?_
  | with_reducible refine GB.agZ ?_
  | with_reducible refine GB.aiW ?_
  | with_reducible refine GB.akv ?_
  | with_reducible refine GB.akx ?_
  | with_reducible refine GB.aky ?_
  | with_reducible refine GB.aiX ?_
  | with_reducible refine GB.akz ?_
  | with_reducible refine GB.v_U ?_
  | with_reducible refine GB.aiY ?_
  | with_reducible refine GB.aiZ ?_
  | with_reducible refine GB.ai0 ?_
  | with_reducible refine GB.ai1 ?_
  | with_reducible refine GB.ai5 ?_
  | with_reducible refine GB.ai6 ?_
  | with_reducible refine GB.ag5 ?_
  | with_reducible refine GB.ag6 ?_
  | with_reducible refine GB.ai7 ?_
  | with_reducible refine GB.akC ?_
  | with_reducible refine GB.akD ?_
  | with_reducible refine GB.ai9 ?_
  | with_reducible refine GB.aja ?_
  | with_reducible refine GB.akF ?_
  | with_reducible refine GB.ajd ?_
  | with_reducible refine GB.ag8 ?_
  | with_reducible refine GB.ajc ?_
  | with_reducible refine GB.akI ?_
  | with_reducible refine GB.ajj ?_
  | with_reducible refine GB.akJ ?_
  | with_reducible refine GB.ajk ?_
  | with_reducible refine GB.afU ?_
  | with_reducible refine GB.ajl ?_
  | with_reducible refine GB.ajm ?_
  | with_reducible refine GB.ahe ?_
  | with_reducible refine GB.afV ?_
  | with_reducible refine GB.ahf ?_
  | ((with_reducible refine' GB.aji ?a ?_); (case a => first | assumption | exact GB.sqT (by walk_at "hp")))
  | ((with_reducible refine' GB.ag7 ?a ?b ?_); (case a => walk_at "hp"); (case b => exact rfl))
  | ((with_reducible refine' GB.akE ?a ?_); (case a => walk_at "hp"))
  | ((with_reducible refine' GB.ajb ?a ?b ?_); (case a => walk_at "hp"); (case b => walk_at "len"))
  | ((with_reducible refine' GB.v_I ?a ?_); (case a => walk_at "side"))
  | ((with_reducible refine' GB.ai2 ?a ?b ?_); (case a => exact GB.sqL (by walk_at "hp")); (case b => exact rfl))
  | ((with_reducible refine' GB.ai3 ?a ?b ?_); (case a => first | assumption | exact GB.sqT (by walk_at "hp")); (case b => first | exact rfl | exact GB.ajn))
  | ((with_reducible refine' GB.ag1 ?a ?_); (case a => exact GB.sqL (by walk_at "hp")))
  | ((with_reducible refine' GB.ag3 ?a ?_); (case a => exact GB.sqT (by walk_at "hp")))
  | ((with_reducible refine' GB.ai8 ?a ?_); (case a => exact GB.sqL (by walk_at "hp")))
  | ((with_reducible refine' GB.ag4 ?a ?_); (case a => walk_at "len"))
  | ((with_reducible refine' GB.ag0 ?a ?_); (case a => walk_at "len"))
  | ((with_reducible refine' GB.ai4 ?a ?_); (case a => walk_at "len")))
local macro_rules | `(tactic| walk_at "r") => `(tactic| repeat walk_at "s")
local macro_rules | `(tactic| walk_at "st") => `(tactic| try dsimp only [L2.cxOf, L2.Cx.nox, L2.Cx.wish])
namespace cY
open PySem PySem.Spec PyProof.Rows L2
section
variable {P : Program} {w : World} {K : PySem.W.Frag} {mg : Str → Option Value} {base : Heap}
def Uh : List V → Option (List (Str × V))
  | [y] => some [("why", y)]
  | _ => none
theorem vP (T : Top w K mg) : GB.FO P w K mg base CX0 1 (He.ma K (He.ga K "WorkError") "__init__") ["self", "why"] (GB.spInit K ["why"] Uh) := by
  refine T.Ez.akG Ea (by decide) (fun _ _ _ _ _ _ _ us its hl hi => match us, its, hl, hi with | [_, _], [_], _, _ => ⟨_, rfl, rfl⟩) (fun vs H Q E h => ?_) (fun cdv A outer s H vs Q E hr h => ?_)
  · obtain ⟨a, C, args, fs, rfl, hm, _⟩ := h
    match args, hm with
    | [y], _ => rfl
  · obtain ⟨a, C, args, fs, rfl, hm, hC, hn, ha, q⟩ := h
    match args, hm with
    | [y], hm =>
    cases hm
    refine ⟨_, (pss_cons (ps_expr (pe_veinit (by rfl) T.U9 (GB.ahb T.ve) (pa_cons (pv 0) (pa_cons (pv 1) pa_nil))))
      (pss_one (ps_ost (pv 0) (pv 1)))), ?_⟩
    show (_ : TS) _ [some (.ref a), some (y)] _; walk_at "st"
    walk_at "r"
    refine GB.ajf ?_
    walk_at "r"
    refine ⟨a, C, [y], rfl, by simp, hC, ha, ?_⟩
    dsimp only
    refine GB.afd ?_
    walk_at "r"
    exact ⟨a, C, rfl, hC, hn _ (by simp), .inl ⟨ha, fun dx h1 h2 => q dx _ h1 h2 rfl⟩⟩
theorem Fb (T : Top w K mg) : GB.Ef P w K mg base 1 "BadRun" ["self", "why"] ["why"] Uh := by
  obtain ⟨h1, h2, h3, h4⟩ := T.Fb
  refine ⟨GB.aaO h1, T.aef, (GB.yZ h2).1, (GB.yZ h2).2, GB.Uo h3, ?_⟩
  rw [T.RX]
  exact vP T
def zK : List V → Option (List (Str × V))
  | [Gf, vp] => some [("at", Gf), ("why", vp)]
  | _ => none
theorem QF (T : Top w K mg) : GB.FO P w K mg base CX0 2 (He.ma K (He.ga K "Broken") "__init__") ["self", "at", "why"] (GB.spInit K ["at", "why"] zK) := by
  have Gg := vP (P := P) (w := w) (base := base) T
  refine T.RQ.fo0 Qa (fun _ _ _ _ _ _ us hl => match us, hl with | [_, _, _], _ => rfl) (fun vs H Q E h => ?_) (fun cdv A outer s H vs Q E hr h => ?_)
  · obtain ⟨a, C, args, fs, rfl, hm, _⟩ := h
    match args, hm with
    | [Gf, vp], _ => rfl
  · obtain ⟨a, C, args, fs, rfl, hm, hC, hn, ha, q⟩ := h
    match args, hm with
    | [Gf, vp], hm =>
    cases hm
    refine ⟨_, (pss_cons (ps_expr (GB.ad7 Gg hr (by rfl) T.aay (GB.Ul T.wG).1 (GB.Ul T.wG).2 pass0 (pa_cons (pv 0) (pa_cons (pv 2) pa_nil))))
      (pss_one (ps_ost (pv 0) (pv 1)))), ?_⟩
    show (_ : TS) _ [some (.ref a), some (Gf), some (vp)] _; walk_at "st"
    walk_at "r"
    refine ⟨a, C, [vp], [("why", vp)], rfl, rfl, hC, fun n hn' => hn n (by simp at hn'; subst hn'; simp), ha, fun dx H1 e1 e2 e3 => ?_⟩
    subst e3
    dsimp only
    walk_at "r"
    refine GB.afd ?_
    walk_at "r"
    refine ⟨a, C, rfl, hC, hn _ (by simp), .inr ⟨dx, [("why", vp)], upd_same, (upd_ne e2).trans upd_same, by simp, ?_⟩⟩
    dsimp only
    refine q dx _ e1 e2 ?_
    funext z
    unfold upd
    by_cases z1 : z = dx
    · subst z1
      simp [e2]
    · by_cases z2 : z = a
      · subst z2
        simp [z1]
      · simp [z1, z2]
theorem zp (T : Top w K mg) : GB.Ef P w K mg base 2 "Broken" ["self", "at", "why"] ["at", "why"] zK := by
  obtain ⟨h1, h2, h3, h4⟩ := T.zp
  exact ⟨GB.aaO h1, T.U4, (GB.yZ h2).1, (GB.yZ h2).2, GB.Uo h3, QF T⟩
end
end cY
local macro_rules | `(tactic| walk_at "v") => `(tactic| first | exact .inl rfl | exact .inr (.inl rfl) | exact .inr (.inr rfl))
local macro_rules | `(tactic| walk_at "w") => `(tactic| first | exact Or.inl rfl | exact Or.inr rfl)
noncomputable section
namespace cY
open PySem PySem.Spec PyProof.Rows L2 PD
section
variable {P : Program} {w : World} {K : PySem.W.Frag} {mg : Str → Option Value} {base : Heap}
def wV : Isa := ⟨fun _ _ => none, fun _ _ => none, fun _ _ => none⟩
theorem yR (T : Top w K mg) : wV.Ok K where
  oo c g b h := by cases h
  to t g b h := by cases h
  ot c n b h := by cases h
abbrev jw : List Str := ["Seen"]
theorem wW (T : Top w K mg) : ∀ c ∈ jw, Cls K (He.ga K c) ∧ NoAttr K (He.ga K c) "beginner" := fun c hc => by
  obtain rfl := List.mem_singleton.mp hc
  exact ⟨T.vD, T.Gx⟩
abbrev Cg : List Str := ["Seen"]
theorem ab3 (T : Top w K mg) : ∀ c ∈ Cg, Cls K (He.ga K c) ∧ NoAttr K (He.ga K c) "called" := fun c hc => by
  obtain rfl := List.mem_singleton.mp hc
  exact ⟨T.vD, T.R4⟩
abbrev fY : List Str := ["Seen"]
theorem rC (T : Top w K mg) : ∀ c ∈ fY, Cls K (He.ga K c) ∧ NoAttr K (He.ga K c) "ending" := fun c hc => by
  obtain rfl := List.mem_singleton.mp hc
  exact ⟨T.vD, T.R5⟩
abbrev mQ : List Str := ["Seen"]
theorem wX (T : Top w K mg) : ∀ c ∈ mQ, Cls K (He.ga K c) ∧ NoAttr K (He.ga K c) "owed" := fun c hc => by
  obtain rfl := List.mem_singleton.mp hc
  exact ⟨T.vD, T.aaz⟩
abbrev jN : List Str := ["Seen"]
theorem uW (T : Top w K mg) : ∀ c ∈ jN, Cls K (He.ga K c) ∧ NoAttr K (He.ga K c) "shut" := fun c hc => by
  obtain rfl := List.mem_singleton.mp hc
  exact ⟨T.vD, T.aaA⟩
abbrev d8 : List Str := ["Seen"]
theorem nq (T : Top w K mg) : ∀ c ∈ d8, Cls K (He.ga K c) ∧ NoAttr K (He.ga K c) "state" := fun c hc => by
  obtain rfl := List.mem_singleton.mp hc
  exact ⟨T.vD, T.U5⟩
abbrev vG : List Str := ["Seen"]
theorem QG (T : Top w K mg) : ∀ c ∈ vG, Cls K (He.ga K c) ∧ NoAttr K (He.ga K c) "had" := fun c hc => by
  obtain rfl := List.mem_singleton.mp hc
  exact ⟨T.vD, T.abH⟩
abbrev qQ : List Str := ["Seen"]
theorem Ci (T : Top w K mg) : ∀ c ∈ qQ, Cls K (He.ga K c) ∧ NoAttr K (He.ga K c) "lasts" := fun c hc => by
  obtain rfl := List.mem_singleton.mp hc
  exact ⟨T.vD, T.U6⟩
abbrev Gh : List Str := ["Watch"]
theorem ady (T : Top w K mg) : ∀ c ∈ Gh, Cls K (He.ga K c) ∧ NoAttr K (He.ga K c) "sizes" := fun c hc => by
  obtain rfl := List.mem_singleton.mp hc
  exact ⟨T.iW, T.R6⟩
abbrev yS : List Str := ["Watch"]
theorem abg (T : Top w K mg) : ∀ c ∈ yS, Cls K (He.ga K c) ∧ NoAttr K (He.ga K c) "raw" := fun c hc => by
  obtain rfl := List.mem_singleton.mp hc
  exact ⟨T.iW, T.aaB⟩
abbrev cG : List Str := ["Watch"]
theorem iw (T : Top w K mg) : ∀ c ∈ cG, Cls K (He.ga K c) ∧ NoAttr K (He.ga K c) "tasks" := fun c hc => by
  obtain rfl := List.mem_singleton.mp hc
  exact ⟨T.iW, T.R7⟩
abbrev j9 : List Str := ["Watch"]
theorem zM (T : Top w K mg) : ∀ c ∈ j9, Cls K (He.ga K c) ∧ NoAttr K (He.ga K c) "latest" := fun c hc => by
  obtain rfl := List.mem_singleton.mp hc
  exact ⟨T.iW, T.Qi⟩
abbrev qR : List Str := ["Watch"]
theorem Cj (T : Top w K mg) : ∀ c ∈ qR, Cls K (He.ga K c) ∧ NoAttr K (He.ga K c) "homes" := fun c hc => by
  obtain rfl := List.mem_singleton.mp hc
  exact ⟨T.iW, T.R8⟩
abbrev qd : List Str := ["Watch"]
theorem zN (T : Top w K mg) : ∀ c ∈ qd, Cls K (He.ga K c) ∧ NoAttr K (He.ga K c) "must" := fun c hc => by
  obtain rfl := List.mem_singleton.mp hc
  exact ⟨T.iW, T.U7⟩
abbrev jk : List Str := ["Watch"]
theorem wY (T : Top w K mg) : ∀ c ∈ jk, Cls K (He.ga K c) ∧ NoAttr K (He.ga K c) "many" := fun c hc => by
  obtain rfl := List.mem_singleton.mp hc
  exact ⟨T.iW, T.U8⟩
abbrev rW : List Str := ["Watch"]
theorem abh (T : Top w K mg) : ∀ c ∈ rW, Cls K (He.ga K c) ∧ Meth K (He.ga K c) "see" (He.ma K (He.ga K "Watch") "see") := fun c hc => by
  obtain rfl := List.mem_singleton.mp hc
  exact ⟨T.iW, T.dh⟩
abbrev DP : List Str := ["Watch"]
theorem aeK (T : Top w K mg) : ∀ c ∈ DP, Cls K (He.ga K c) ∧ Meth K (He.ga K c) "seen" (He.ma K (He.ga K "Watch") "seen") := fun c hc => by
  obtain rfl := List.mem_singleton.mp hc
  exact ⟨T.iW, T.lM⟩
abbrev tO : List Str := ["Watch"]
theorem ab4 (T : Top w K mg) : ∀ c ∈ tO, Cls K (He.ga K c) ∧ Meth K (He.ga K c) "reason" (He.ma K (He.ga K "Watch") "reason") := fun c hc => by
  obtain rfl := List.mem_singleton.mp hc
  exact ⟨T.iW, T.dJ⟩
abbrev lN : List Str := ["Watch"]
theorem Ar (T : Top w K mg) : ∀ c ∈ lN, Cls K (He.ga K c) ∧ Meth K (He.ga K c) "is_latest" (He.ma K (He.ga K "Watch") "is_latest") := fun c hc => by
  obtain rfl := List.mem_singleton.mp hc
  exact ⟨T.iW, T.gK⟩
abbrev yF : List Str := ["Watch"]
theorem ZW (T : Top w K mg) : ∀ c ∈ yF, Cls K (He.ga K c) ∧ Meth K (He.ga K c) "may_fail" (He.ma K (He.ga K "Watch") "may_fail") := fun c hc => by
  obtain rfl := List.mem_singleton.mp hc
  exact ⟨T.iW, T.pB⟩
abbrev yU : List Str := ["Watch"]
theorem aeL (T : Top w K mg) : ∀ c ∈ yU, Cls K (He.ga K c) ∧ Meth K (He.ga K c) "take" (He.ma K (He.ga K "Watch") "take") := fun c hc => by
  obtain rfl := List.mem_singleton.mp hc
  exact ⟨T.iW, T.gW⟩
abbrev QJ : List Str := ["Watch"]
theorem aeM (T : Top w K mg) : ∀ c ∈ QJ, Cls K (He.ga K c) ∧ Meth K (He.ga K c) "hold" (He.ma K (He.ga K "Watch") "hold") := fun c hc => by
  obtain rfl := List.mem_singleton.mp hc
  exact ⟨T.iW, T.uf⟩
abbrev QK : List Str := ["Watch"]
theorem aeN (T : Top w K mg) : ∀ c ∈ QK, Cls K (He.ga K c) ∧ Meth K (He.ga K c) "turn" (He.ma K (He.ga K "Watch") "turn") := fun c hc => by
  obtain rfl := List.mem_singleton.mp hc
  exact ⟨T.iW, T.ug⟩
abbrev zP : List Str := ["Watch"]
theorem adz (T : Top w K mg) : ∀ c ∈ zP, Cls K (He.ga K c) ∧ Meth K (He.ga K c) "go_on" (He.ma K (He.ga K "Watch") "go_on") := fun c hc => by
  obtain rfl := List.mem_singleton.mp hc
  exact ⟨T.iW, T.dM⟩
def adA : List (Str × He.Dv) := [("tell", .glo "ask_doing"), ("add", .glo "ask_doing"), ("failed", .glo "ask_doing"), ("rescued", .glo "ask_rescued"), ("got", .glo "ask_got"), ("given", .glo "ask_given"), ("masked", .glo "ask_masked"), ("opened", .glo "ask_opened"), ("last", .glo "ask_last"), ("lasted", .glo "ask_lasted"), ("begun", .glo "ask_begun"), ("kill", .glo "ask_kill"), ("late", .glo "ask_late"), ("nobody", .glo "ask_nobody"), ("landed", .glo "ask_landed"), ("ended", .glo "ask_ended")]
abbrev j5 : Str → Option (Option D) := abX adA
theorem R9 (T : Top w K mg) : KTab K w "ASKING" j5 := KTab.ofG T.aej T.aek T.ael
def aeO : List (Str × Tv) := [("tell", .tup [.str "task", .str "number"]), ("add", .tup [.str "task", .str "name", .str "number"]), ("failed", .tup [.str "task", .str "name"]), ("rescued", .tup [.str "task", .str "name"]), ("got", .tup [.str "task", .str "name"]), ("given", .tup [.str "task", .str "name"]), ("masked", .tup [.str "task"]), ("opened", .tup [.str "task"]), ("last", .tup [.str "task"]), ("lasted", .tup [.str "task"]), ("begun", .tup [.str "task", .str "task", .str "name", .str "task"]), ("kill", .tup [.str "doer", .str "task"]), ("late", .tup [.str "doer", .str "task"]), ("nobody", .tup [.str "task", .str "name"]), ("landed", .tup [.str "task"]), ("ended", .tup [.str "task", .str "outcome"])]
abbrev nu : Str → Option (Option D) := ab2 aeO
theorem ZX (T : Top w K mg) : KTab K w "FORMS" nu := KTab.ofT T.afY T.afZ T.af0
theorem yV (T : Top w K mg) : ∀ H al, Rp K H al (.tup [.str "on"]) (.ref (He.ga K "ON")) :=
  fun H al => .tup (GB.tupB_ok T.akK H) (.cons (.str _) .nil)
theorem zQ (T : Top w K mg) : ∀ H al, Rp K H al (.tup [.str "killed"]) (.ref (He.ga K "KILLED")) :=
  fun H al => .tup (GB.tupB_ok T.aeh H) (.cons (.str _) .nil)
def zR : List D → Option (List (Str × D))
  | [y] => some [("why", y)]
  | _ => none
theorem Rr : ∀ H al ds vs fs, bx K H al ds vs → zR ds = some fs → ∃ gs, Uh vs = some gs ∧ dU K H al fs gs := by
  intro H al ds vs fs r e
  match ds, r, e with
  | [y], .cons q .nil, e =>
    cases e
    exact ⟨_, rfl, .cons q .nil⟩
theorem zU (T : Top w K mg) : GB.Ef P w K mg base 1 "BadRun" ["self", "why"] ["why"] Uh := Fb T
def zV : List D → Option (List (Str × D))
  | [Gf, vp] => some [("at", Gf), ("why", vp)]
  | _ => none
theorem adB : ∀ H al ds vs fs, bx K H al ds vs → zV ds = some fs → ∃ gs, zK vs = some gs ∧ dU K H al fs gs := by
  intro H al ds vs fs r e
  match ds, r, e with
  | [Gf, vp], .cons ah7 (.cons agl .nil), e =>
    cases e
    exact ⟨_, rfl, .cons ah7 (.cons agl .nil)⟩
theorem Gi (T : Top w K mg) : GB.Ef P w K mg base 2 "Broken" ["self", "at", "why"] ["at", "why"] zK := zp T
def jx (c : Str) : Option Bool := if c = "Broken" then some true else none
theorem Sd (T : Top w K mg) : ∀ c b, jx c = some b → PySem.W.exmOne K (.ref (He.ga K c)) (.ref (He.ga K "Broken")) = some b := by
  intro c b h
  unfold jx at h
  by_cases z0 : c = "Broken"
  · subst z0
    rw [if_pos rfl] at h
    cases h
    exact T.Fe
  rw [if_neg z0] at h
  cases h
theorem Sh {c : Str} (h : jx c = some true) : c = "Broken" := by
  unfold jx at h
  by_cases z0 : c = "Broken"
  · exact z0
  rw [if_neg z0] at h
  cases h
theorem yr (T : Top w K mg) : ∀ c, jx c = some true → ExcC K (He.ga K c) ∧ XfC K (He.ga K c) ∧ ∀ n ∈ (["at", "why"] : List Str), PySem.W.findIn K (.ref (He.ga K c)) n = some none := by
  intro c h
  cases Sh h
  obtain ⟨h1, h2, h3, h4⟩ := T.zp
  exact ⟨(GB.Uq h4).1, (GB.Uq h4).2, GB.Uo h3⟩
theorem Z0 (T : Top w K mg) : ∀ c, jx c = some true → XfC K (He.ga K c) ∧ PySem.W.findIn K (.ref (He.ga K c)) "at" = some none := fun c h => ⟨(yr T c h).2.1, (yr T c h).2.2 _ (by simp)⟩
theorem Sq (T : Top w K mg) : ∀ c, jx c = some true → XfC K (He.ga K c) ∧ PySem.W.findIn K (.ref (He.ga K c)) "why" = some none := fun c h => ⟨(yr T c h).2.1, (yr T c h).2.2 _ (by simp)⟩
def qT : Mn := body 1 2
    (bK (eO (bH (rK wV) (aq (ao 0) (aq (eC (.ty "str")) aA))) (eO (eU oK oK (eC (.int (1))) (bH fJ (aq (ao 0) aA)) (eC (.int (8)))) (bH allM (aq (jH (fX (ao 0)) (gName 1) fG (aG uo (ao 1) (eC (.str "abcdefghijklmnopqrstuvwxyz"))) [1]) aA)))))
theorem kh (T : Top w K mg) : Fd P w K mg base (0 + 1) (He.ga K "is_name") "is_name" "is_name" oX [] [] ["thing"] qT := by
  refine Fd.of T.mV.dn zf (fun cdv A outer s H E hr hG => ?_)
  have ct : bZ (cxOf (L2.CX P w) P w K mg base ["thing", "sign"] "is_name" (defScope oX) (He.ga K "is_name") cdv A outer s H E) (fun c d _ H' => E c d H') := bZ.def_ hG
  obtain ⟨_, ab5⟩ := T.acL
  obtain ⟨_, ab6⟩ := T.acM
  exact (aW (s_ret (ou (jY (id := "isinstance") (DK (yR T)) (by rfl) T.oF (by decide +kernel) (au (aj (i := 0) rfl (by walk_at "v")) (au (Qm (by rfl) T.afn (by decide +kernel)) aJ))) (ou (aa5 abQ abQ aR (jY (id := "len") sO (by rfl) T.sE (by decide +kernel) (au (aj (i := 0) rfl (by walk_at "v")) aJ)) (acX (by rfl) ab6)) (jU (jY (id := "all") (O6 rfl) (by rfl) T.Gz (by decide +kernel) (au (zG (own := [("sign", 1)]) rfl zf.nd (zF (aj (i := 0) rfl (by walk_at "v"))) (blkOk_by (N := ["thing", "sign"]) (sc := defScope oX) (by decide +kernel)) (fun _ _ _ _ _ => (kW (i := 1) (by decide) zf.nd rfl (by walk_at "w"))) (fun _ _ _ _ _ => wJ) (fun _ _ _ _ _ => (dO aew (aj (i := 1) rfl (by walk_at "v")) (ahF (by rfl) ab5) (by rfl)))) aJ)))))))
def ux : Mn := body 3 3
    (bK (eO (bH (rK wV) (aq (ao 0) (aq (eC (.ty "int")) aA))) (eO (gY (bH (rK wV) (aq (ao 0) (aq (eC (.ty "bool")) aA)))) (eU oK oK (ao 1) (ao 0) (ao 2)))))
theorem rD (T : Top w K mg) : Fd P w K mg base (0 + 1) (He.ga K "is_whole") "is_whole" "is_whole" o7 [] [] ["thing", "least", "most"] ux := by
  refine Fd.of T.tZ.dn aau (fun cdv A outer s H E hr hG => ?_)
  have ct : bZ (cxOf (L2.CX P w) P w K mg base ["thing", "least", "most"] "is_whole" (defScope o7) (He.ga K "is_whole") cdv A outer s H E) (fun c d _ H' => E c d H') := bZ.def_ hG
  exact (aW (s_ret (ou (jY (id := "isinstance") (DK (yR T)) (by rfl) T.oF (by decide +kernel) (au (aj (i := 0) rfl (by walk_at "v")) (au (Qm (by rfl) T.Tr (by decide +kernel)) aJ))) (ou (vR (jY (id := "isinstance") (DK (yR T)) (by rfl) T.oF (by decide +kernel) (au (aj (i := 0) rfl (by walk_at "v")) (au (Qm (by rfl) T.ahk (by decide +kernel)) aJ)))) (jU (aa5 abQ abQ (aj (i := 1) rfl (by walk_at "v")) (aj (i := 0) rfl (by walk_at "v")) (aj (i := 2) rfl (by walk_at "v"))))))))
def qj : Mn := body 1 1
    (bK (aY 1 2 (fun ds => ux (GB.picked (ds ++ []) [0, 1, 2])) (aq (ao 0) aA) (aq (aG je (eC (.int (1))) (aG jf (eC (.int (10))) (eC (.int (40))))) (aq (aG je (aG jf (eC (.int (10))) (eC (.int (40)))) (eC (.int (1)))) aA))))
theorem jy (T : Top w K mg) : Fd P w K mg base (1 + 1) (He.ga K "is_number") "is_number" "is_number" nJ [] [] ["thing"] qj := by
  refine Fd.of T.nW.dn Uy (fun cdv A outer s H E hr hG => ?_)
  have ct : bZ (cxOf (L2.CX P w) P w K mg base ["thing"] "is_number" (defScope nJ) (He.ga K "is_number") cdv A outer s H E) (fun c d _ H' => E c d H') := bZ.def_ hG
  have rD := rD (P := P) (base := base) T
  have yG : Room 1 _ := hr.mono (by first | decide | omega)
  exact (aW (s_ret (aaV (rD.calls yG ct (Bd.all (n := 1) (ks := ["least", "most"]) (is := [0, 1, 2]) (fun _ _ _ _ _ _ us ws h1 h2 => match us, ws, h1, h2 with | [_], [_, _], _, _ => rfl)) (fun _ _ => .nil)) (by rfl) T.tZ.gl T.tZ.kp (au (aj (i := 0) rfl (by walk_at "v")) aJ) (Bx (dY Ub aR (dY Uc aR aR)) (Bx (dY Ub (dY Uc aR aR) aR) abJ)))))
def uz : Mn := body 1 1
    (aZ (cA (mW (bY (aG cW (ao 0) (bH bL (aq (eC (.str "done")) aA)))) (bY (aG cW (ao 0) (bH bL (aq (eC (.str "killed")) aA))))) (bK (eC (.bl true))) bV)
    (bK (eO (bH (rK wV) (aq (ao 0) (aq (eC (.ty "tuple")) aA))) (eO (aG cW (bH fJ (aq (ao 0) aA)) (eC (.int (2)))) (eO (aG cW (aG bD (ao 0) (eC (.int (0)))) (eC (.str "failed"))) (aY 1 0 qT (aq (aG bD (ao 0) (eC (.int (1)))) aA) aA))))))
theorem wZ (T : Top w K mg) : Fd P w K mg base (1 + 1) (He.ga K "is_outcome") "is_outcome" "is_outcome" lA [] [] ["thing"] uz := by
  refine Fd.of T.wu.dn RJ (fun cdv A outer s H E hr hG => ?_)
  have ct : bZ (cxOf (L2.CX P w) P w K mg base ["thing"] "is_outcome" (defScope lA) (He.ga K "is_outcome") cdv A outer s H E) (fun c d _ H' => E c d H') := bZ.def_ hG
  have kh := kh (P := P) (base := base) T
  have rE : Room 1 _ := hr.mono (by first | decide | omega)
  exact (aV (s_if (PW.pt (Qo (bQ (cP hr.units) (aj (i := 0) rfl (by walk_at "v")) (cM (au aU aJ)) (nomark _)) (OD (bQ (cP hr.units) (aj (i := 0) rfl (by walk_at "v")) (cM (au aU aJ)) (nomark _))))) (aW (s_ret tD)) cD)
    (aW (s_ret (ou (jY (id := "isinstance") (DK (yR T)) (by rfl) T.oF (by decide +kernel) (au (aj (i := 0) rfl (by walk_at "v")) (au (Qm (by rfl) T.aaS (by decide +kernel)) aJ))) (ou (dO (cP hr.units) (jY (id := "len") sO (by rfl) T.sE (by decide +kernel) (au (aj (i := 0) rfl (by walk_at "v")) aJ)) aR (nomark _)) (ou (dO (cP hr.units) (aX hr.units (aj (i := 0) rfl (by walk_at "v")) aR (fun _ _ => rfl)) aU (nomark _)) (jU (bU (kh.bB rE ct (Bd.all (n := 1) (ks := []) (is := List.range 1) (fun _ _ _ _ _ _ us ws h1 h2 => match us, ws, h1, h2 with | [_], [], _, _ => rfl))) (by rfl) T.mV.gl T.mV.kp (au (aX hr.units (aj (i := 0) rfl (by walk_at "v")) aR (fun _ _ => rfl)) aJ)))))))))
def vZ : Mn := body 1 1
    (bK (eO (aY 1 0 qj (aq (ao 0) aA) aA) (aG oM (ao 0) (eC (.int (0))))))
theorem zW (T : Top w K mg) : Fd P w K mg base (2 + 1) (He.ga K "is_count") "is_count" "is_count" o8 [] [] ["thing"] vZ := by
  refine Fd.of T.zj.dn aav (fun cdv A outer s H E hr hG => ?_)
  have ct : bZ (cxOf (L2.CX P w) P w K mg base ["thing"] "is_count" (defScope o8) (He.ga K "is_count") cdv A outer s H E) (fun c d _ H' => E c d H') := bZ.def_ hG
  have jy := jy (P := P) (base := base) T
  have qU : Room 2 _ := hr.mono (by first | decide | omega)
  exact (aW (s_ret (ou (bU (jy.bB qU ct (Bd.all (n := 1) (ks := []) (is := List.range 1) (fun _ _ _ _ _ _ us ws h1 h2 => match us, ws, h1, h2 with | [_], [], _, _ => rfl))) (by rfl) T.nW.gl T.nW.kp (au (aj (i := 0) rfl (by walk_at "v")) aJ)) (jU (dO abR (aj (i := 0) rfl (by walk_at "v")) aR (nomark _))))))
def iy : Mn := body 2 2
    (aZ (cA (bY (aG cW (ao 0) (eC (.str "name")))) (bK (aY 1 0 qT (aq (ao 1) aA) aA)) bV)
    (aZ (cA (bY (aG cW (ao 0) (eC (.str "number")))) (bK (aY 1 0 qj (aq (ao 1) aA) aA)) bV)
    (aZ (cA (bY (aG cW (ao 0) (eC (.str "outcome")))) (bK (aY 1 0 uz (aq (ao 1) aA) aA)) bV)
    (aZ (cA (fV (bY (aG cW (ao 0) (eC (.str "doer")))) (bY (aG jW (ao 1) (eC .non)))) (bK (eC (.bl true))) bV)
    (bK (aY 1 0 vZ (aq (ao 1) aA) aA))))))
theorem Ck (T : Top w K mg) : Fd P w K mg base (3 + 1) (He.ga K "is_part") "is_part" "is_part" qK [] [] ["kind", "thing"] iy := by
  refine Fd.of T.Bb.dn abE (fun cdv A outer s H E hr hG => ?_)
  have ct : bZ (cxOf (L2.CX P w) P w K mg base ["kind", "thing"] "is_part" (defScope qK) (He.ga K "is_part") cdv A outer s H E) (fun c d _ H' => E c d H') := bZ.def_ hG
  have zW := zW (P := P) (base := base) T
  have aaG : Room 3 _ := hr.mono (by first | decide | omega)
  have wZ := wZ (P := P) (base := base) T
  have Ss : Room 2 _ := hr.mono (by first | decide | omega)
  have jy := jy (P := P) (base := base) T
  have qU : Room 2 _ := hr.mono (by first | decide | omega)
  have kh := kh (P := P) (base := base) T
  have rE : Room 1 _ := hr.mono (by first | decide | omega)
  exact (aV (s_if (bQ (cP hr.units) (aj (i := 0) rfl (by walk_at "v")) aU (nomark _)) (aW (s_ret (bU (kh.bB rE ct (Bd.all (n := 1) (ks := []) (is := List.range 1) (fun _ _ _ _ _ _ us ws h1 h2 => match us, ws, h1, h2 with | [_], [], _, _ => rfl))) (by rfl) T.mV.gl T.mV.kp (au (aj (i := 1) rfl (by walk_at "v")) aJ)))) cD)
    (aV (s_if (bQ (cP hr.units) (aj (i := 0) rfl (by walk_at "v")) aU (nomark _)) (aW (s_ret (bU (jy.bB qU ct (Bd.all (n := 1) (ks := []) (is := List.range 1) (fun _ _ _ _ _ _ us ws h1 h2 => match us, ws, h1, h2 with | [_], [], _, _ => rfl))) (by rfl) T.nW.gl T.nW.kp (au (aj (i := 1) rfl (by walk_at "v")) aJ)))) cD)
    (aV (s_if (bQ (cP hr.units) (aj (i := 0) rfl (by walk_at "v")) aU (nomark _)) (aW (s_ret (bU (wZ.bB Ss ct (Bd.all (n := 1) (ks := []) (is := List.range 1) (fun _ _ _ _ _ _ us ws h1 h2 => match us, ws, h1, h2 with | [_], [], _, _ => rfl))) (by rfl) T.wu.gl T.wu.kp (au (aj (i := 1) rfl (by walk_at "v")) aJ)))) cD)
    (aV (s_if (PW.pt (sG (bQ (cP hr.units) (aj (i := 0) rfl (by walk_at "v")) aU (nomark _)) (pW (bQ BR (aj (i := 1) rfl (by walk_at "v")) fH (nomark _))))) (aW (s_ret tD)) cD)
    (aW (s_ret (bU (zW.bB aaG ct (Bd.all (n := 1) (ks := []) (is := List.range 1) (fun _ _ _ _ _ _ us ws h1 h2 => match us, ws, h1, h2 with | [_], [], _, _ => rfl))) (by rfl) T.zj.gl T.zj.kp (au (aj (i := 1) rfl (by walk_at "v")) aJ))))))))
def jJ : Mn := body 1 4
    (aZ (cA (mW (fW (dX (bH (rK wV) (aq (ao 0) (aq (eC (.ty "tuple")) aA))))) (mW (bY (aG cW (bH fJ (aq (ao 0) aA)) (eC (.int (0))))) (fW (dX (bH (rK wV) (aq (aG bD (ao 0) (eC (.int (0)))) (aq (eC (.ty "str")) aA))))))) (bK (eC (.bl false))) bV)
    (aZ (bO (vW nu (aG bD (ao 0) (eC (.int (0)))) (bH bL aA)) (gName 1))
    (aZ (cA (mW (bY (aG cW (ao 1) (bH bL aA))) (bY (aG jX (bH fJ (aq (ao 0) aA)) (aG dF (bH fJ (aq (ao 1) aA)) (eC (.int (1))))))) (bK (eC (.bl false))) bV)
    (bK (bH allM (aq (jH (jd QC (aq (ao 1) (aq (ni (ao 0) (fO (eC (.int (1)))) oh) aA))) (eG 2 (gCons (gName 2) (gCons (gName 3) gNil))) fG (aY 2 0 iy (aq (ao 2) (aq (ao 3) aA)) aA) [2, 3]) aA))))))
theorem xg (T : Top w K mg) : Fd P w K mg base (4 + 1) (He.ga K "is_log_row") "is_log_row" "is_log_row" jC [] [] ["thing"] jJ := by
  refine Fd.of T.wz.dn pP (fun cdv A outer s H E hr hG => ?_)
  have ct : bZ (cxOf (L2.CX P w) P w K mg base ["thing", "kinds", "kind", "part"] "is_log_row" (defScope jC) (He.ga K "is_log_row") cdv A outer s H E) (fun c d _ H' => E c d H') := bZ.def_ hG
  have Ck := Ck (P := P) (base := base) T
  have ab7 : Room 4 _ := hr.mono (by first | decide | omega)
  exact (aV (s_if (PW.pt (Qo (sH (lU (jY (id := "isinstance") (DK (yR T)) (by rfl) T.oF (by decide +kernel) (au (aj (i := 0) rfl (by walk_at "v")) (au (Qm (by rfl) T.aaS (by decide +kernel)) aJ))) (by intro _; rfl))) (Qo (bQ (cP hr.units) (jY (id := "len") sO (by rfl) T.sE (by decide +kernel) (au (aj (i := 0) rfl (by walk_at "v")) aJ)) aR (nomark _)) (OD (sH (lU (jY (id := "isinstance") (DK (yR T)) (by rfl) T.oF (by decide +kernel) (au (aX hr.units (aj (i := 0) rfl (by walk_at "v")) aR (fun _ _ => rfl)) (au (Qm (by rfl) T.afn (by decide +kernel)) aJ))) (by intro _; rfl))))))) (aW (s_ret tD)) cD)
    (aV (s_asg (ahN (ZX T) (by rfl) T.afX (aX hr.units (aj (i := 0) rfl (by walk_at "v")) aR (fun _ _ => rfl)) (cM aJ) ⟨rfl, rfl, rfl, rfl⟩) (bW (i := 1) pP.nd rfl (by walk_at "w")))
    (aV (s_if (PW.pt (Qo (bQ (cP hr.units) (aj (i := 1) rfl (by walk_at "v")) (cM aJ) (nomark _)) (OD (bQ (pD hr.units) (jY (id := "len") sO (by rfl) T.sE (by decide +kernel) (au (aj (i := 0) rfl (by walk_at "v")) aJ)) (dY m9 (jY (id := "len") sO (by rfl) T.sE (by decide +kernel) (au (aj (i := 1) rfl (by walk_at "v")) aJ)) aR) (nomark _))))) (aW (s_ret tD)) cD)
    (aW (s_ret (jY (id := "all") (O6 rfl) (by rfl) T.Gz (by decide +kernel) (au (zG (own := [("kind", 2), ("part", 3)]) rfl pP.nd (ah2 (by rfl) T.ajq (au (aj (i := 1) rfl (by walk_at "v")) (au (Qu (aj (i := 0) rfl (by walk_at "v")) (wM aR) ZF) aJ))) (blkOk_by (N := ["thing", "kinds", "kind", "part"]) (sc := defScope jC) (by decide +kernel)) (fun _ _ _ _ _ => (Zx rfl (uO (kW (i := 2) (by decide) pP.nd rfl (by walk_at "w")) (uO (kW (i := 3) (by decide) pP.nd rfl (by walk_at "w")) Qp)))) (fun _ _ _ _ _ => wJ) (fun _ _ _ _ _ => (bU (Ck.bB ab7 ct.blk (Bd.all (n := 2) (ks := []) (is := List.range 2) (fun _ _ _ _ _ _ us ws h1 h2 => match us, ws, h1, h2 with | [_, _], [], _, _ => rfl))) (by rfl) T.Bb.gl T.Bb.kp (au (aj (i := 2) rfl (by walk_at "v")) (au (aj (i := 3) rfl (by walk_at "v")) aJ))))) aJ)))))))
def jK : Mn := body 1 1
    (aZ (cA (bY (aG cW (aG bD (ao 0) (eC (.int (0)))) (eC (.str "begun")))) (bK (aG bD (ao 0) (eC (.int (2))))) bV)
    (bK (aG bD (ao 0) (eC (.int (1))))))
theorem tQ (T : Top w K mg) : Fd P w K mg base (0 + 1) (He.ga K "doer_of") "doer_of" "doer_of" qL [] [] ["row"] jK := by
  refine Fd.of T.vC.dn abF (fun cdv A outer s H E hr hG => ?_)
  have ct : bZ (cxOf (L2.CX P w) P w K mg base ["row"] "doer_of" (defScope qL) (He.ga K "doer_of") cdv A outer s H E) (fun c d _ H' => E c d H') := bZ.def_ hG
  exact (aV (s_if (bQ (cP hr.units) (aX hr.units (aj (i := 0) rfl (by walk_at "v")) aR (fun _ _ => rfl)) aU (nomark _)) (aW (s_ret (aX hr.units (aj (i := 0) rfl (by walk_at "v")) aR (fun _ _ => rfl)))) cD)
    (aW (s_ret (aX hr.units (aj (i := 0) rfl (by walk_at "v")) aR (fun _ _ => rfl)))))
def uD : Mn := body 2 5
    (aZ (cA (fW (dX (bH allM (aq (vY (ao 0) (jH (itI (ao 0)) (eG 2 (gCons (gName 2) (gCons (gName 3) gNil))) fG (eO (aY 1 0 qT (aq (ao 2) aA) aA) (aY 1 2 (fun ds => ux (GB.picked (ds ++ []) [0, 1, 2])) (aq (ao 3) aA) (aq (eC (.int (1))) (aq (eC (.int (5))) aA)))) [2, 3])) aA)))) (BL "BadRun" zR (aq (eC (.str "things")) aA)) bV)
    (cA (fW (dX (bH allM (aq (vY (ao 1) (jH (itI (ao 1)) (eG 2 (gCons (gName 2) (gCons (gName 4) gNil))) fG (eO (aY 1 0 qT (aq (ao 2) aA) aA) (aY 1 0 qj (aq (ao 4) aA) aA)) [2, 4])) aA)))) (BL "BadRun" zR (aq (eC (.str "cells")) aA)) bV))
theorem xq (T : Top w K mg) : Fd P w K mg base (2 + 1) (He.ga K "check_told") "check_told" "check_told" iH [] [] ["things", "cells"] uD := by
  refine Fd.of T.wA.dn jP (fun cdv A outer s H E hr hG => ?_)
  have ct : bZ (cxOf (L2.CX P w) P w K mg base ["things", "cells", "name", "many", "worth"] "check_told" (defScope iH) (He.ga K "check_told") cdv A outer s H E) (fun c d _ H' => E c d H') := bZ.def_ hG
  have jy := jy (P := P) (base := base) T
  have qU : Room 2 _ := hr.mono (by first | decide | omega)
  have kh := kh (P := P) (base := base) T
  have rE : Room 1 _ := hr.mono (by first | decide | omega)
  have zU := zU (P := P) (base := base) T
  have Pk : Room 2 _ := hr.mono (by first | decide | omega)
  have rD := rD (P := P) (base := base) T
  have yG : Room 1 _ := hr.mono (by first | decide | omega)
  exact (aV (s_if (sH (lU (jY (id := "all") (O6 rfl) (by rfl) T.Gz (by decide +kernel) (au (Pg (fd := (ao 0)) (zG (own := [("name", 2), ("many", 3)]) rfl jP.nd (abb (aj (i := 0) rfl (by walk_at "v"))) (blkOk_by (N := ["things", "cells", "name", "many", "worth"]) (sc := defScope iH) (by decide +kernel)) (fun _ _ _ _ _ => (Zx rfl (uO (kW (i := 2) (by decide) jP.nd rfl (by walk_at "w")) (uO (kW (i := 3) (by decide) jP.nd rfl (by walk_at "w")) Qp)))) (fun _ _ _ _ _ => wJ) (fun _ _ _ _ _ => (ou (bU (kh.bB rE ct.blk (Bd.all (n := 1) (ks := []) (is := List.range 1) (fun _ _ _ _ _ _ us ws h1 h2 => match us, ws, h1, h2 with | [_], [], _, _ => rfl))) (by rfl) T.mV.gl T.mV.kp (au (aj (i := 2) rfl (by walk_at "v")) aJ)) (jU (aaV (rD.calls yG ct.blk (Bd.all (n := 1) (ks := ["least", "most"]) (is := [0, 1, 2]) (fun _ _ _ _ _ _ us ws h1 h2 => match us, ws, h1, h2 with | [_], [_, _], _, _ => rfl)) (fun _ _ => .nil)) (by rfl) T.tZ.gl T.tZ.kp (au (aj (i := 3) rfl (by walk_at "v")) aJ) (Bx aR (Bx aR abJ)))))))) aJ)) (by intro _; rfl))) (aW (Qt zU Pk rfl ct (by rfl) (au aU aJ) Rr)) cD)
    (aW (s_if (sH (lU (jY (id := "all") (O6 rfl) (by rfl) T.Gz (by decide +kernel) (au (Pg (fd := (ao 1)) (zG (own := [("name", 2), ("worth", 4)]) rfl jP.nd (abb (aj (i := 1) rfl (by walk_at "v"))) (blkOk_by (N := ["things", "cells", "name", "many", "worth"]) (sc := defScope iH) (by decide +kernel)) (fun _ _ _ _ _ => (Zx rfl (uO (kW (i := 2) (by decide) jP.nd rfl (by walk_at "w")) (uO (kW (i := 4) (by decide) jP.nd rfl (by walk_at "w")) Qp)))) (fun _ _ _ _ _ => wJ) (fun _ _ _ _ _ => (ou (bU (kh.bB rE ct.blk (Bd.all (n := 1) (ks := []) (is := List.range 1) (fun _ _ _ _ _ _ us ws h1 h2 => match us, ws, h1, h2 with | [_], [], _, _ => rfl))) (by rfl) T.mV.gl T.mV.kp (au (aj (i := 2) rfl (by walk_at "v")) aJ)) (jU (bU (jy.bB qU ct.blk (Bd.all (n := 1) (ks := []) (is := List.range 1) (fun _ _ _ _ _ _ us ws h1 h2 => match us, ws, h1, h2 with | [_], [], _, _ => rfl))) (by rfl) T.nW.gl T.nW.kp (au (aj (i := 4) rfl (by walk_at "v")) aJ))))))) aJ)) (by intro _; rfl))) (aW (Qt zU Pk rfl ct (by rfl) (au aU aJ) Rr)) cD)))
def dZ : Mn := body 1 3
    (aZ (jG (fX (ao 0)) (gj (eG 2 (gCons (gName 1) (gCons (gName 2) gNil)))) (cA (dX (ao 2)) (bK (ao 1)) bV))
    (bK (eC .non)))
theorem cI (T : Top w K mg) : Fd P w K mg base (0 + 1) (He.ga K "first_so") "first_so" "first_so" o9 [] [] ["rows"] dZ := by
  refine Fd.of T.cZ.dn yx (fun cdv A outer s H E hr hG => ?_)
  have ct : bZ (cxOf (L2.CX P w) P w K mg base ["rows", "word", "is_so"] "first_so" (defScope o9) (He.ga K "first_so") cdv A outer s H E) (fun c d _ H' => E c d H') := bZ.def_ hG
  exact (aV (abM ct.po rfl (zF (aj (i := 0) rfl (by walk_at "v"))) (afu (aft rfl (yM (bW (i := 1) yx.nd rfl (by walk_at "w")) (yM (bW (i := 2) yx.nd rfl (by walk_at "w")) ac0)))) (aW (s_if (lU (aj (i := 2) rfl (by walk_at "v")) (by intro _; rfl)) (aW (s_ret (aj (i := 1) rfl (by walk_at "v")))) cD)))
    (aW (s_ret fH)))
def kJ : Mn := body 3 3
    (aZ (cH jw "beginner" (ao 0) (ao 1))
    (aZ (cH Cg "called" (ao 0) (ao 2))
    (aZ (cH fY "ending" (ao 0) (eC .non))
    (aZ (ab0 (eC (.bl false)) (abZ mQ "owed" (ao 0)) (abZ jN "shut" (ao 0)))
    (aZ (cH d8 "state" (ao 0) (eC (.tup [.str "on"])))
    (aZ (cH vG "had" (ao 0) (bH dR aA))
    (cH qQ "lasts" (ao 0) (bH dR aA))))))))
theorem qm (T : Top w K mg) : Fd P w K mg base (0 + 1) (He.ma K (He.ga K "Seen") "__init__") "__init__" "Seen.__init__" nQ [] [] ["self", "beginner", "called"] kJ := by
  refine Fd.of T.aaw UG (fun cdv A outer s H E hr hG => ?_)
  have ct : bZ (cxOf (L2.CX P w) P w K mg base ["self", "beginner", "called"] "Seen.__init__" (defScope nQ) (He.ma K (He.ga K "Seen") "__init__") cdv A outer s H E) (fun c d _ H' => E c d H') := bZ.def_ hG
  exact (aV (jt (cs := jw) (wW T) (aj (i := 0) rfl (by walk_at "v")) (aj (i := 1) rfl (by walk_at "v")))
    (aV (jt (cs := Cg) (ab3 T) (aj (i := 0) rfl (by walk_at "v")) (aj (i := 2) rfl (by walk_at "v")))
    (aV (jt (cs := fY) (rC T) (aj (i := 0) rfl (by walk_at "v")) fH)
    (aV (ah6 tD (afE (cs := mQ) (wX T) (aj (i := 0) rfl (by walk_at "v"))) (afE (cs := jN) (uW T) (aj (i := 0) rfl (by walk_at "v"))))
    (aV (jt (cs := d8) (nq T) (aj (i := 0) rfl (by walk_at "v")) (uh (by rfl) T.Ql (yV T)))
    (aV (jt (cs := vG) (QG T) (aj (i := 0) rfl (by walk_at "v")) (O4 aJ))
    (aW (jt (cs := qQ) (Ci T) (aj (i := 0) rfl (by walk_at "v")) (O4 aJ)))))))))
def oR : Mn := body 3 3
    (aZ (eE (aY 2 0 uD (aq (oG (ao 1) jZ) (aq jZ aA)) aA))
    (aZ (cH Gh "sizes" (ao 0) (bH Pj (aq (oG (ao 1) jZ) aA)))
    (aZ (cH yS "raw" (ao 0) (ao 2))
    (aZ (cH cG "tasks" (ao 0) (Pa [((eC (.int (0))), (aY 2 0 (qI "Seen" fun ds => kJ (GB.picked (ds ++ []) [0, 1, 2])) (aq (eC .non) (aq (eC .non) aA)) aA))]))
    (aZ (cH j9 "latest" (ao 0) jZ)
    (aZ (cH qR "homes" (ao 0) jZ)
    (aZ (cH qd "must" (ao 0) (eC .non))
    (cH jk "many" (ao 0) (eC (.int (0)))))))))))
theorem xG (T : Top w K mg) : Fd P w K mg base (3 + 1) (He.ma K (He.ga K "Watch") "__init__") "__init__" "Watch.__init__" jD [] [("things", .non), ("raw", .bl false)] ["self", "things", "raw"] oR := by
  refine Fd.of T.UJ RN (fun cdv A outer s H E hr hG => ?_)
  have ct : bZ (cxOf (L2.CX P w) P w K mg base ["self", "things", "raw"] "Watch.__init__" (defScope jD) (He.ma K (He.ga K "Watch") "__init__") cdv A outer s H E) (fun c d _ H' => E c d H') := bZ.def_ hG
  have qm := qm (P := P) (base := base) T
  have Z4 : Room 1 _ := hr.mono (by first | decide | omega)
  have vL : Room (1 + 1) _ := hr.mono (by first | decide | omega)
  have xq := xq (P := P) (base := base) T
  have Sv : Room 3 _ := hr.mono (by first | decide | omega)
  exact (aV (wI (bU (xq.bB Sv ct (Bd.all (n := 2) (ks := []) (is := List.range 2) (fun _ _ _ _ _ _ us ws h1 h2 => match us, ws, h1, h2 with | [_, _], [], _, _ => rfl))) (by rfl) T.wA.gl T.wA.kp (au (abI (aj (i := 1) rfl (by walk_at "v")) (jU BX)) (au BX aJ))))
    (aV (jt (cs := Gh) (ady T) (aj (i := 0) rfl (by walk_at "v")) (O5 agf (by rfl) T.ahl (by decide +kernel) (au (abI (aj (i := 1) rfl (by walk_at "v")) (jU BX)) aJ)))
    (aV (jt (cs := yS) (abg T) (aj (i := 0) rfl (by walk_at "v")) (aj (i := 2) rfl (by walk_at "v")))
    (aV (jt (cs := cG) (iw T) (aj (i := 0) rfl (by walk_at "v")) (adl (ps := [((eC (.int (0))), (aY 2 0 (qI "Seen" fun ds => kJ (GB.picked (ds ++ []) [0, 1, 2])) (aq (eC .non) (aq (eC .non) aA)) aA))]) (pps_cons aR (bU (qm.makes T.Gv vL ct (Bd.all (n := 3) (ks := []) (is := [0, 1, 2]) (fun _ _ _ _ _ _ us ws h1 h2 => match us, ws, h1, h2 with | [_, _, _], [], _, _ => rfl)) (fun _ _ => .nil)) (by rfl) T.acK T.Gv.kp (au fH (au fH aJ))) pps_nil)))
    (aV (jt (cs := j9) (zM T) (aj (i := 0) rfl (by walk_at "v")) BX)
    (aV (jt (cs := qR) (Cj T) (aj (i := 0) rfl (by walk_at "v")) BX)
    (aV (jt (cs := qd) (zN T) (aj (i := 0) rfl (by walk_at "v")) fH)
    (aW (jt (cs := jk) (wY T) (aj (i := 0) rfl (by walk_at "v")) aR)))))))))
def lM : Mn := body 1 1
    (bK (bM jk "many" (ao 0)))
theorem xH (T : Top w K mg) : Fd P w K mg base (0 + 1) (He.ma K (He.ga K "Watch") "seen") "seen" "Watch.seen" lH [] [] ["self"] lM := by
  refine Fd.of T.UL RP (fun cdv A outer s H E hr hG => ?_)
  have ct : bZ (cxOf (L2.CX P w) P w K mg base ["self"] "Watch.seen" (defScope lH) (He.ma K (He.ga K "Watch") "seen") cdv A outer s H E) (fun c d _ H' => E c d H') := bZ.def_ hG
  exact (aW (s_ret (cV (cs := jk) (wY T) (aj (i := 0) rfl (by walk_at "v")))))
def gK : Mn := body 2 2
    (bK (vY (bM j9 "latest" (ao 0)) (aeJ (ao 1) (bM j9 "latest" (ao 0)))))
theorem iY (T : Top w K mg) : Fd P w K mg base (0 + 1) (He.ma K (He.ga K "Watch") "is_latest") "is_latest" "Watch.is_latest" gJ [] [] ["self", "number"] gK := by
  refine Fd.of T.Eb Ba (fun cdv A outer s H E hr hG => ?_)
  have ct : bZ (cxOf (L2.CX P w) P w K mg base ["self", "number"] "Watch.is_latest" (defScope gJ) (He.ma K (He.ga K "Watch") "is_latest") cdv A outer s H E) (fun c d _ H' => E c d H') := bZ.def_ hG
  exact (aW (s_ret (Pg (fd := (bM j9 "latest" (ao 0))) (ajF rfl hr.units (aj (i := 1) rfl (by walk_at "v")) (cV (cs := j9) (zM T) (aj (i := 0) rfl (by walk_at "v")))))))
def Gy : Mn := fun _ _ => .stuck
def pB : Mn := fun _ _ => .stuck
theorem tG (T : Top w K mg) : Fd P w K mg base 1 (He.ma K (He.ga K "Watch") "may_fail") "may_fail" "Watch.may_fail" lJ [] [] ["self", "number", "mark"] pB := Fd.stuck T.EY
def vq : Mn := body 3 5
    (aZ (bO (oG (aG jX (aG bD (ao 2) (eC (.int (1)))) (bH fJ (aq (bM cG "tasks" (ao 0)) aA))) (aG oM (aG bD (ao 2) (eC (.int (1)))) (eC (.int (12))))) (gName 3))
    (aZ (bO (aG jX (j8 "dict" getM (bM qR "homes" (ao 0)) (aq (aG bD (ao 2) (eC (.int (4)))) (aq (aG bD (ao 2) (eC (.int (2)))) aA))) (aG bD (ao 2) (eC (.int (2))))) (gName 4))
    (bK (aY 1 0 dZ (aq (bH cC (aq (bH bL (aq (eC (.str "unwinds")) (aq (aG jX (bM d8 "state" (ao 1)) (eC (.tup [.str "on"]))) aA))) (aq (bH bL (aq (eC (.str "number")) (aq (ao 3) aA))) (aq (bH bL (aq (eC (.str "home")) (aq (ao 4) aA))) aA)))) aA) aA))))
theorem yH (T : Top w K mg) : Fd P w K mg base (1 + 1) (He.ga K "ask_begun") "ask_begun" "ask_begun" nM [] [] ["watch", "task", "row"] vq := by
  refine Fd.of T.Ei.dn wg (fun cdv A outer s H E hr hG => ?_)
  have ct : bZ (cxOf (L2.CX P w) P w K mg base ["watch", "task", "row", "wrong", "home"] "ask_begun" (defScope nM) (He.ga K "ask_begun") cdv A outer s H E) (fun c d _ H' => E c d H') := bZ.def_ hG
  have cI := cI (P := P) (base := base) T
  have dW : Room 1 _ := hr.mono (by first | decide | omega)
  obtain ⟨_, Sw⟩ := T.Va
  exact (aV (s_asg (abI (dO (pD hr.units) (aX hr.units (aj (i := 2) rfl (by walk_at "v")) aR (fun _ _ => rfl)) (jY (id := "len") sO (by rfl) T.sE (by decide +kernel) (au (cV (cs := cG) (iw T) (aj (i := 0) rfl (by walk_at "v"))) aJ)) (nomark _)) (jU (dO abR (aX hr.units (aj (i := 2) rfl (by walk_at "v")) aR (fun _ _ => rfl)) (acX (by rfl) Sw) (nomark _)))) (bW (i := 3) wg.nd rfl (by walk_at "w")))
    (aV (s_asg (dO (pD hr.units) (aex PySem.F.plainAttrs_dict PySem.F.slot_dict_get PySem.F.type_dict_get (ajB hr.units) (cV (cs := qR) (Cj T) (aj (i := 0) rfl (by walk_at "v"))) (au (aX hr.units (aj (i := 2) rfl (by walk_at "v")) aR (fun _ _ => rfl)) (au (aX hr.units (aj (i := 2) rfl (by walk_at "v")) aR (fun _ _ => rfl)) aJ))) (aX hr.units (aj (i := 2) rfl (by walk_at "v")) aR (fun _ _ => rfl)) (nomark _)) (bW (i := 4) wg.nd rfl (by walk_at "w")))
    (aW (s_ret (bU (cI.bB dW ct (Bd.all (n := 1) (ks := []) (is := List.range 1) (fun _ _ _ _ _ _ us ws h1 h2 => match us, ws, h1, h2 with | [_], [], _, _ => rfl))) (by rfl) T.cZ.gl T.cZ.kp (au (iK (au (cM (au aU (au (dO (pD hr.units) (cV (cs := d8) (nq T) (aj (i := 1) rfl (by walk_at "v"))) (uh (by rfl) T.Ql (yV T)) (nomark _)) aJ))) (au (cM (au aU (au (aj (i := 3) rfl (by walk_at "v")) aJ))) (au (cM (au aU (au (aj (i := 4) rfl (by walk_at "v")) aJ))) aJ)))) aJ))))))
def rF : Mn := body 3 7
    (aZ (bO (aG bD (bM cG "tasks" (ao 0)) (aG bD (ao 2) (eC (.int (2))))) (gName 3))
    (aZ (bO (aG fQ (bM fY "ending" (ao 3)) (eC .non)) (gName 4))
    (aZ (cA (bY (aG jW (ao 1) (eC .non))) (bK (aY 1 0 dZ (aq (bH cC (aq (bH bL (aq (eC (.str "over")) (aq (ao 4) aA))) aA)) aA) aA)) bV)
    (aZ (bO (aG cW (bM jw "beginner" (ao 3)) (aG bD (ao 2) (eC (.int (1))))) (gName 5))
    (aZ (bO (eO (aG jX (bM d8 "state" (ao 1)) (eC (.tup [.str "on"]))) (gY (ao 5))) (gName 6))
    (bK (aY 1 0 dZ (aq (bH cC (aq (bH bL (aq (eC (.str "unwinds")) (aq (ao 6) aA))) (aq (bH bL (aq (eC (.str "who")) (aq (eO (gY (ao 5)) (gY (gQ lN "is_latest" 1 gK (ao 0) (aq (aG bD (ao 2) (eC (.int (2)))) aA)))) aA))) (aq (bH bL (aq (eC (.str "over")) (aq (ao 4) aA))) aA)))) aA) aA)))))))
theorem zX (T : Top w K mg) : Fd P w K mg base (1 + 1) (He.ga K "ask_kill") "ask_kill" "ask_kill" pq [] [] ["watch", "task", "row"] rF := by
  refine Fd.of T.Gq.dn rP (fun cdv A outer s H E hr hG => ?_)
  have ct : bZ (cxOf (L2.CX P w) P w K mg base ["watch", "task", "row", "other", "over", "own", "unwinds"] "ask_kill" (defScope pq) (He.ga K "ask_kill") cdv A outer s H E) (fun c d _ H' => E c d H') := bZ.def_ hG
  have cI := cI (P := P) (base := base) T
  have dW : Room 1 _ := hr.mono (by first | decide | omega)
  have iY := iY (P := P) (base := base) T
  have qW : Room 1 _ := hr.mono (by first | decide | omega)
  exact (aV (s_asg (aX hr.units (cV (cs := cG) (iw T) (aj (i := 0) rfl (by walk_at "v"))) (aX hr.units (aj (i := 2) rfl (by walk_at "v")) aR (fun _ _ => rfl)) (fun _ _ => rfl)) (bW (i := 3) rP.nd rfl (by walk_at "w")))
    (aV (s_asg (dO sJ (cV (cs := fY) (rC T) (aj (i := 3) rfl (by walk_at "v"))) fH (nomark _)) (bW (i := 4) rP.nd rfl (by walk_at "w")))
    (aV (s_if (bQ BR (aj (i := 1) rfl (by walk_at "v")) fH (nomark _)) (aW (s_ret (bU (cI.bB dW ct (Bd.all (n := 1) (ks := []) (is := List.range 1) (fun _ _ _ _ _ _ us ws h1 h2 => match us, ws, h1, h2 with | [_], [], _, _ => rfl))) (by rfl) T.cZ.gl T.cZ.kp (au (iK (au (cM (au aU (au (aj (i := 4) rfl (by walk_at "v")) aJ))) aJ)) aJ)))) cD)
    (aV (s_asg (dO (cP hr.units) (cV (cs := jw) (wW T) (aj (i := 3) rfl (by walk_at "v"))) (aX hr.units (aj (i := 2) rfl (by walk_at "v")) aR (fun _ _ => rfl)) (nomark _)) (bW (i := 5) rP.nd rfl (by walk_at "w")))
    (aV (s_asg (ou (dO (pD hr.units) (cV (cs := d8) (nq T) (aj (i := 1) rfl (by walk_at "v"))) (uh (by rfl) T.Ql (yV T)) (nomark _)) (jU (vR (aj (i := 5) rfl (by walk_at "v"))))) (bW (i := 6) rP.nd rfl (by walk_at "w")))
    (aW (s_ret (bU (cI.bB dW ct (Bd.all (n := 1) (ks := []) (is := List.range 1) (fun _ _ _ _ _ _ us ws h1 h2 => match us, ws, h1, h2 with | [_], [], _, _ => rfl))) (by rfl) T.cZ.gl T.cZ.kp (au (iK (au (cM (au aU (au (aj (i := 6) rfl (by walk_at "v")) aJ))) (au (cM (au aU (au (ou (vR (aj (i := 5) rfl (by walk_at "v"))) (jU (vR (rQ (cs := lN) (Ar T) (iY.bB qW ct (Bd.all (n := 2) (ks := []) (is := List.range 2) (fun _ _ _ _ _ _ us ws h1 h2 => match us, ws, h1, h2 with | [_, _], [], _, _ => rfl))) (aj (i := 0) rfl (by walk_at "v")) (au (aX hr.units (aj (i := 2) rfl (by walk_at "v")) aR (fun _ _ => rfl)) aJ))))) aJ))) (au (cM (au aU (au (aj (i := 4) rfl (by walk_at "v")) aJ))) aJ)))) aJ)))))))))
def rG : Mn := body 3 4
    (aZ (bO (aG jW (bM fY "ending" (aG bD (bM cG "tasks" (ao 0)) (aG bD (ao 2) (eC (.int (2)))))) (eC .non)) (gName 3))
    (aZ (cA (bY (aG jW (ao 1) (eC .non))) (bK (aY 1 0 dZ (aq (bH cC (aq (bH bL (aq (eC (.str "lives")) (aq (ao 3) aA))) aA)) aA) aA)) bV)
    (bK (aY 1 0 dZ (aq (bH cC (aq (bH bL (aq (eC (.str "unwinds")) (aq (aG jX (bM d8 "state" (ao 1)) (eC (.tup [.str "on"]))) aA))) (aq (bH bL (aq (eC (.str "who")) (aq (gY (gQ lN "is_latest" 1 gK (ao 0) (aq (aG bD (ao 2) (eC (.int (2)))) aA))) aA))) (aq (bH bL (aq (eC (.str "lives")) (aq (ao 3) aA))) aA)))) aA) aA))))
theorem zY (T : Top w K mg) : Fd P w K mg base (1 + 1) (He.ga K "ask_late") "ask_late" "ask_late" pA [] [] ["watch", "task", "row"] rG := by
  refine Fd.of T.Gu.dn Eh (fun cdv A outer s H E hr hG => ?_)
  have ct : bZ (cxOf (L2.CX P w) P w K mg base ["watch", "task", "row", "lives"] "ask_late" (defScope pA) (He.ga K "ask_late") cdv A outer s H E) (fun c d _ H' => E c d H') := bZ.def_ hG
  have cI := cI (P := P) (base := base) T
  have dW : Room 1 _ := hr.mono (by first | decide | omega)
  have iY := iY (P := P) (base := base) T
  have qW : Room 1 _ := hr.mono (by first | decide | omega)
  exact (aV (s_asg (dO BR (cV (cs := fY) (rC T) (aX hr.units (cV (cs := cG) (iw T) (aj (i := 0) rfl (by walk_at "v"))) (aX hr.units (aj (i := 2) rfl (by walk_at "v")) aR (fun _ _ => rfl)) (fun _ _ => rfl))) fH (nomark _)) (bW (i := 3) Eh.nd rfl (by walk_at "w")))
    (aV (s_if (bQ BR (aj (i := 1) rfl (by walk_at "v")) fH (nomark _)) (aW (s_ret (bU (cI.bB dW ct (Bd.all (n := 1) (ks := []) (is := List.range 1) (fun _ _ _ _ _ _ us ws h1 h2 => match us, ws, h1, h2 with | [_], [], _, _ => rfl))) (by rfl) T.cZ.gl T.cZ.kp (au (iK (au (cM (au aU (au (aj (i := 3) rfl (by walk_at "v")) aJ))) aJ)) aJ)))) cD)
    (aW (s_ret (bU (cI.bB dW ct (Bd.all (n := 1) (ks := []) (is := List.range 1) (fun _ _ _ _ _ _ us ws h1 h2 => match us, ws, h1, h2 with | [_], [], _, _ => rfl))) (by rfl) T.cZ.gl T.cZ.kp (au (iK (au (cM (au aU (au (dO (pD hr.units) (cV (cs := d8) (nq T) (aj (i := 1) rfl (by walk_at "v"))) (uh (by rfl) T.Ql (yV T)) (nomark _)) aJ))) (au (cM (au aU (au (vR (rQ (cs := lN) (Ar T) (iY.bB qW ct (Bd.all (n := 2) (ks := []) (is := List.range 2) (fun _ _ _ _ _ _ us ws h1 h2 => match us, ws, h1, h2 with | [_, _], [], _, _ => rfl))) (aj (i := 0) rfl (by walk_at "v")) (au (aX hr.units (aj (i := 2) rfl (by walk_at "v")) aR (fun _ _ => rfl)) aJ))) aJ))) (au (cM (au aU (au (aj (i := 3) rfl (by walk_at "v")) aJ))) aJ)))) aJ))))))
def uE : Mn := body 3 3
    (bK (aY 1 0 dZ (aq (bH cC (aq (bH bL (aq (eC (.str "untold")) (aq (gY (bM mQ "owed" (ao 1))) aA))) (aq (bH bL (aq (eC (.str "held")) (aq (bM jN "shut" (ao 1)) aA))) aA))) aA) aA))
theorem xJ (T : Top w K mg) : Fd P w K mg base (1 + 1) (He.ga K "ask_landed") "ask_landed" "ask_landed" lC [] [] ["watch", "task", "row"] uE := by
  refine Fd.of T.Bc.dn RK (fun cdv A outer s H E hr hG => ?_)
  have ct : bZ (cxOf (L2.CX P w) P w K mg base ["watch", "task", "row"] "ask_landed" (defScope lC) (He.ga K "ask_landed") cdv A outer s H E) (fun c d _ H' => E c d H') := bZ.def_ hG
  have cI := cI (P := P) (base := base) T
  have dW : Room 1 _ := hr.mono (by first | decide | omega)
  exact (aW (s_ret (bU (cI.bB dW ct (Bd.all (n := 1) (ks := []) (is := List.range 1) (fun _ _ _ _ _ _ us ws h1 h2 => match us, ws, h1, h2 with | [_], [], _, _ => rfl))) (by rfl) T.cZ.gl T.cZ.kp (au (iK (au (cM (au aU (au (vR (cV (cs := mQ) (wX T) (aj (i := 1) rfl (by walk_at "v")))) aJ))) (au (cM (au aU (au (cV (cs := jN) (uW T) (aj (i := 1) rfl (by walk_at "v"))) aJ))) aJ))) aJ))))
def uF : Mn := body 3 3
    (bK (aY 1 0 dZ (aq (bH cC (aq (bH bL (aq (eC (.str "held")) (aq (bM jN "shut" (ao 1)) aA))) aA)) aA) aA))
theorem xK (T : Top w K mg) : Fd P w K mg base (1 + 1) (He.ga K "ask_masked") "ask_masked" "ask_masked" lD [] [] ["watch", "task", "row"] uF := by
  refine Fd.of T.Bf.dn RL (fun cdv A outer s H E hr hG => ?_)
  have ct : bZ (cxOf (L2.CX P w) P w K mg base ["watch", "task", "row"] "ask_masked" (defScope lD) (He.ga K "ask_masked") cdv A outer s H E) (fun c d _ H' => E c d H') := bZ.def_ hG
  have cI := cI (P := P) (base := base) T
  have dW : Room 1 _ := hr.mono (by first | decide | omega)
  exact (aW (s_ret (bU (cI.bB dW ct (Bd.all (n := 1) (ks := []) (is := List.range 1) (fun _ _ _ _ _ _ us ws h1 h2 => match us, ws, h1, h2 with | [_], [], _, _ => rfl))) (by rfl) T.cZ.gl T.cZ.kp (au (iK (au (cM (au aU (au (cV (cs := jN) (uW T) (aj (i := 1) rfl (by walk_at "v"))) aJ))) aJ)) aJ))))
def uG : Mn := body 3 3
    (bK (aY 1 0 dZ (aq (bH cC (aq (bH bL (aq (eC (.str "open")) (aq (gY (bM jN "shut" (ao 1))) aA))) (aq (bH bL (aq (eC (.str "last")) (aq (aG jX (bM qQ "lasts" (ao 1)) (bH cC aA)) aA))) aA))) aA) aA))
theorem xM (T : Top w K mg) : Fd P w K mg base (1 + 1) (He.ga K "ask_opened") "ask_opened" "ask_opened" lE [] [] ["watch", "task", "row"] uG := by
  refine Fd.of T.Bh.dn RM (fun cdv A outer s H E hr hG => ?_)
  have ct : bZ (cxOf (L2.CX P w) P w K mg base ["watch", "task", "row"] "ask_opened" (defScope lE) (He.ga K "ask_opened") cdv A outer s H E) (fun c d _ H' => E c d H') := bZ.def_ hG
  have cI := cI (P := P) (base := base) T
  have dW : Room 1 _ := hr.mono (by first | decide | omega)
  exact (aW (s_ret (bU (cI.bB dW ct (Bd.all (n := 1) (ks := []) (is := List.range 1) (fun _ _ _ _ _ _ us ws h1 h2 => match us, ws, h1, h2 with | [_], [], _, _ => rfl))) (by rfl) T.cZ.gl T.cZ.kp (au (iK (au (cM (au aU (au (vR (cV (cs := jN) (uW T) (aj (i := 1) rfl (by walk_at "v")))) aJ))) (au (cM (au aU (au (dO (pD hr.units) (cV (cs := qQ) (Ci T) (aj (i := 1) rfl (by walk_at "v"))) (iK aJ) (nomark _)) aJ))) aJ))) aJ))))
def vA : Mn := body 3 8
    (aZ (bO (bH anyM (aq (vY (bM cG "tasks" (ao 0)) (jH (itV (bM cG "tasks" (ao 0))) (gName 7) fG (eO (aG cW (bM jw "beginner" (ao 7)) (aG bD (ao 2) (eC (.int (1))))) (aG jW (bM fY "ending" (ao 7)) (eC .non))) [7])) aA)) (gName 3))
    (aZ (cA (bY (aG cW (aG bD (aG bD (ao 2) (eC (.int (2)))) (eC (.int (0)))) (eC (.str "failed")))) (bO (gQ yF "may_fail" 2 pB (ao 0) (aq (aG bD (ao 2) (eC (.int (1)))) (aq (aG bD (aG bD (ao 2) (eC (.int (2)))) (eC (.int (1)))) aA))) (gName 6)) (cA (bY (aG cW (aG bD (ao 2) (eC (.int (2)))) (eC (.tup [.str "killed"])))) (bO (aG cW (bM d8 "state" (ao 1)) (eC (.tup [.str "killed"]))) (gName 6)) (bO (aG cW (bM d8 "state" (ao 1)) (eC (.tup [.str "on"]))) (gName 6))))
    (aZ (bO (eO (aG jX (bM vG "had" (ao 1)) (bH cC aA)) (gY (bM yS "raw" (ao 0)))) (gName 4))
    (aZ (bO (bH cC (aq (bH bL (aq (eC (.str "held")) (aq (bM jN "shut" (ao 1)) aA))) (aq (bH bL (aq (eC (.str "last")) (aq (aG jX (bM qQ "lasts" (ao 1)) (bH cC aA)) aA))) (aq (bH bL (aq (eC (.str "outlives")) (aq (ao 3) aA))) (aq (bH bL (aq (eC (.str "owed")) (aq (bM mQ "owed" (ao 1)) aA))) aA))))) (gName 5))
    (bK (aY 1 0 dZ (aq (aG dF (ao 5) (bH cC (aq (bH bL (aq (eC (.str "keeps")) (aq (ao 4) aA))) (aq (bH bL (aq (eC (.str "outcome")) (aq (gY (ao 6)) aA))) aA)))) aA) aA))))))
theorem yI (T : Top w K mg) : Fd P w K mg base (1 + 1) (He.ga K "ask_ended") "ask_ended" "ask_ended" j6 [] [] ["watch", "task", "row"] vA := by
  refine Fd.of T.Ek.dn iI (fun cdv A outer s H E hr hG => ?_)
  have ct : bZ (cxOf (L2.CX P w) P w K mg base ["watch", "task", "row", "outlives", "keeps", "rows", "right", "one"] "ask_ended" (defScope j6) (He.ga K "ask_ended") cdv A outer s H E) (fun c d _ H' => E c d H') := bZ.def_ hG
  have cI := cI (P := P) (base := base) T
  have dW : Room 1 _ := hr.mono (by first | decide | omega)
  have tG := tG (P := P) (base := base) T
  have Ec : Room 1 _ := hr.mono (by first | decide | omega)
  exact (aV (s_asg (jY (id := "any") (ajv rfl) (by rfl) T.ajp (by decide +kernel) (au (Pg (fd := (bM cG "tasks" (ao 0))) (zG (own := [("one", 7)]) rfl iI.nd (ah5 (cV (cs := cG) (iw T) (aj (i := 0) rfl (by walk_at "v")))) (blkOk_by (N := ["watch", "task", "row", "outlives", "keeps", "rows", "right", "one"]) (sc := defScope j6) (by decide +kernel)) (fun _ _ _ _ _ => (kW (i := 7) (by decide) iI.nd rfl (by walk_at "w"))) (fun _ _ _ _ _ => wJ) (fun _ _ _ _ _ => (ou (dO (cP hr.units) (cV (cs := jw) (wW T) (aj (i := 7) rfl (by walk_at "v"))) (aX hr.units (aj (i := 2) rfl (by walk_at "v")) aR (fun _ _ => rfl)) (nomark _)) (jU (dO BR (cV (cs := fY) (rC T) (aj (i := 7) rfl (by walk_at "v"))) fH (nomark _))))))) aJ)) (bW (i := 3) iI.nd rfl (by walk_at "w")))
    (aV (s_if (bQ (cP hr.units) (aX hr.units (aX hr.units (aj (i := 2) rfl (by walk_at "v")) aR (fun _ _ => rfl)) aR (fun _ _ => rfl)) aU (nomark _)) (aW (s_asg (rQ (cs := yF) (ZW T) (tG.bB Ec ct (Bd.all (n := 3) (ks := []) (is := List.range 3) (fun _ _ _ _ _ _ us ws h1 h2 => match us, ws, h1, h2 with | [_, _, _], [], _, _ => rfl))) (aj (i := 0) rfl (by walk_at "v")) (au (aX hr.units (aj (i := 2) rfl (by walk_at "v")) aR (fun _ _ => rfl)) (au (aX hr.units (aX hr.units (aj (i := 2) rfl (by walk_at "v")) aR (fun _ _ => rfl)) aR (fun _ _ => rfl)) aJ))) (bW (i := 6) iI.nd rfl (by walk_at "w")))) (aW (s_if (bQ (cP hr.units) (aX hr.units (aj (i := 2) rfl (by walk_at "v")) aR (fun _ _ => rfl)) (uh (by rfl) T.Fg (zQ T)) (nomark _)) (aW (s_asg (dO (cP hr.units) (cV (cs := d8) (nq T) (aj (i := 1) rfl (by walk_at "v"))) (uh (by rfl) T.Fg (zQ T)) (nomark _)) (bW (i := 6) iI.nd rfl (by walk_at "w")))) (aW (s_asg (dO (cP hr.units) (cV (cs := d8) (nq T) (aj (i := 1) rfl (by walk_at "v"))) (uh (by rfl) T.Ql (yV T)) (nomark _)) (bW (i := 6) iI.nd rfl (by walk_at "w")))))))
    (aV (s_asg (ou (dO (pD hr.units) (cV (cs := vG) (QG T) (aj (i := 1) rfl (by walk_at "v"))) (iK aJ) (nomark _)) (jU (vR (cV (cs := yS) (abg T) (aj (i := 0) rfl (by walk_at "v")))))) (bW (i := 4) iI.nd rfl (by walk_at "w")))
    (aV (s_asg (iK (au (cM (au aU (au (cV (cs := jN) (uW T) (aj (i := 1) rfl (by walk_at "v"))) aJ))) (au (cM (au aU (au (dO (pD hr.units) (cV (cs := qQ) (Ci T) (aj (i := 1) rfl (by walk_at "v"))) (iK aJ) (nomark _)) aJ))) (au (cM (au aU (au (aj (i := 3) rfl (by walk_at "v")) aJ))) (au (cM (au aU (au (cV (cs := mQ) (wX T) (aj (i := 1) rfl (by walk_at "v"))) aJ))) aJ))))) (bW (i := 5) iI.nd rfl (by walk_at "w")))
    (aW (s_ret (bU (cI.bB dW ct (Bd.all (n := 1) (ks := []) (is := List.range 1) (fun _ _ _ _ _ _ us ws h1 h2 => match us, ws, h1, h2 with | [_], [], _, _ => rfl))) (by rfl) T.cZ.gl T.cZ.kp (au (dY m9 (aj (i := 5) rfl (by walk_at "v")) (iK (au (cM (au aU (au (aj (i := 4) rfl (by walk_at "v")) aJ))) (au (cM (au aU (au (vR (aj (i := 6) rfl (by walk_at "v"))) aJ))) aJ)))) aJ))))))))
def dJ : Mn := body 2 7
    (aZ (cA (fW (dX (aY 1 0 jJ (aq (ao 1) aA) aA))) (bK (eC (.str "row"))) bV)
    (aZ (cA (fV (bY (aG fQ (bM qd "must" (ao 0)) (eC .non))) (bY (aG jX (ao 1) (bM qd "must" (ao 0))))) (bK (eC (.str "turn"))) bV)
    (aZ (bO (aY 1 0 jK (aq (ao 1) aA) aA) (gName 2))
    (aZ (bO (qG (bY (aG inX (aG bD (ao 1) (eC (.int (0)))) (bH bL (aq (eC (.str "kill")) (aq (eC (.str "late")) aA))))) (ni (ao 1) (fO (eC (.int (2)))) oh) (bH bL aA)) (gName 3))
    (aZ (cA (fW (dX (bH allM (aq (jH (fX (aG dF (bH bL (aq (ao 2) aA)) (ao 3))) (gName 6) fG (oG (aG jW (ao 6) (eC .non)) (aG inX (ao 6) (bM cG "tasks" (ao 0)))) [6]) aA)))) (bK (eC (.str "task"))) bV)
    (aZ (bO (eC .non) (gName 4))
    (aZ (cA (bY (aG fQ (ao 2) (eC .non))) (aZ (bO (aG bD (bM cG "tasks" (ao 0)) (ao 2)) (gName 4))
    (cA (bY (aG fQ (bM fY "ending" (ao 4)) (eC .non))) (bK (eC (.str "ended"))) bV)) bV)
    (aZ (bO (wO j5 (aG bD (ao 1) (eC (.int (0))))) (gName 5))
    (bK (pX 5 3 (wR [("ask_masked", uF), ("ask_opened", uG), ("ask_begun", vq), ("ask_kill", rF), ("ask_late", rG), ("ask_landed", uE), ("ask_ended", vA)]) (aq (ao 0) (aq (ao 4) (aq (ao 1) aA)))))))))))))
theorem uX (T : Top w K mg) : Fd P w K mg base (5 + 1) (He.ma K (He.ga K "Watch") "reason") "reason" "Watch.reason" g8 [] [] ["self", "row"] dJ := by
  refine Fd.of T.Qh gM (fun cdv A outer s H E hr hG => ?_)
  have ct : bZ (cxOf (L2.CX P w) P w K mg base ["self", "row", "doer", "others", "task", "asking", "number"] "Watch.reason" (defScope g8) (He.ma K (He.ga K "Watch") "reason") cdv A outer s H E) (fun c d _ H' => E c d H') := bZ.def_ hG
  have yI := yI (P := P) (base := base) T
  have Z5 : Room 2 _ := hr.mono (by first | decide | omega)
  have xJ := xJ (P := P) (base := base) T
  have Sy : Room 2 _ := hr.mono (by first | decide | omega)
  have zY := zY (P := P) (base := base) T
  have aaH : Room 2 _ := hr.mono (by first | decide | omega)
  have zX := zX (P := P) (base := base) T
  have aaI : Room 2 _ := hr.mono (by first | decide | omega)
  have yH := yH (P := P) (base := base) T
  have Z6 : Room 2 _ := hr.mono (by first | decide | omega)
  have xM := xM (P := P) (base := base) T
  have SJ : Room 2 _ := hr.mono (by first | decide | omega)
  have xK := xK (P := P) (base := base) T
  have SM : Room 2 _ := hr.mono (by first | decide | omega)
  have tQ := tQ (P := P) (base := base) T
  have Aa : Room 1 _ := hr.mono (by first | decide | omega)
  have xg := xg (P := P) (base := base) T
  have SN : Room 5 _ := hr.mono (by first | decide | omega)
  exact (aV (s_if (sH (lU (bU (xg.bB SN ct (Bd.all (n := 1) (ks := []) (is := List.range 1) (fun _ _ _ _ _ _ us ws h1 h2 => match us, ws, h1, h2 with | [_], [], _, _ => rfl))) (by rfl) T.wz.gl T.wz.kp (au (aj (i := 1) rfl (by walk_at "v")) aJ)) (by intro _; rfl))) (aW (s_ret aU)) cD)
    (aV (s_if (PW.pt (sG (bQ sJ (cV (cs := qd) (zN T) (aj (i := 0) rfl (by walk_at "v"))) fH (nomark _)) (pW (bQ (pD hr.units) (aj (i := 1) rfl (by walk_at "v")) (cV (cs := qd) (zN T) (aj (i := 0) rfl (by walk_at "v"))) (nomark _))))) (aW (s_ret aU)) cD)
    (aV (s_asg (bU (tQ.bB Aa ct (Bd.all (n := 1) (ks := []) (is := List.range 1) (fun _ _ _ _ _ _ us ws h1 h2 => match us, ws, h1, h2 with | [_], [], _, _ => rfl))) (by rfl) T.vC.gl T.vC.kp (au (aj (i := 1) rfl (by walk_at "v")) aJ)) (bW (i := 2) gM.nd rfl (by walk_at "w")))
    (aV (s_asg (akX (bQ (vm hr.units) (aX hr.units (aj (i := 1) rfl (by walk_at "v")) aR (fun _ _ => rfl)) (cM (au aU (au aU aJ))) (by rfl)) (Qu (aj (i := 1) rfl (by walk_at "v")) (wM aR) ZF) (cM aJ)) (bW (i := 3) gM.nd rfl (by walk_at "w")))
    (aV (s_if (sH (lU (jY (id := "all") (O6 rfl) (by rfl) T.Gz (by decide +kernel) (au (zG (own := [("number", 6)]) rfl gM.nd (zF (dY m9 (cM (au (aj (i := 2) rfl (by walk_at "v")) aJ)) (aj (i := 3) rfl (by walk_at "v")))) (blkOk_by (N := ["self", "row", "doer", "others", "task", "asking", "number"]) (sc := defScope g8) (by decide +kernel)) (fun _ _ _ _ _ => (kW (i := 6) (by decide) gM.nd rfl (by walk_at "w"))) (fun _ _ _ _ _ => wJ) (fun _ _ _ _ _ => (abI (dO BR (aj (i := 6) rfl (by walk_at "v")) fH (nomark _)) (jU (dO (vm hr.units) (aj (i := 6) rfl (by walk_at "v")) (cV (cs := cG) (iw T) (aj (i := 0) rfl (by walk_at "v"))) (by rfl)))))) aJ)) (by intro _; rfl))) (aW (s_ret aU)) cD)
    (aV (s_asg fH (bW (i := 4) gM.nd rfl (by walk_at "w")))
    (aV (s_if (bQ sJ (aj (i := 2) rfl (by walk_at "v")) fH (nomark _)) (aV (s_asg (aX hr.units (cV (cs := cG) (iw T) (aj (i := 0) rfl (by walk_at "v"))) (aj (i := 2) rfl (by walk_at "v")) (fun _ _ => rfl)) (bW (i := 4) gM.nd rfl (by walk_at "w")))
    (aW (s_if (bQ sJ (cV (cs := fY) (rC T) (aj (i := 4) rfl (by walk_at "v"))) fH (nomark _)) (aW (s_ret aU)) cD))) cD)
    (aV (s_asg (ajw (R9 T) (by rfl) T.aei (aX hr.units (aj (i := 1) rfl (by walk_at "v")) aR (fun _ _ => rfl)) (fun _ _ => rfl)) (bW (i := 5) gM.nd rfl (by walk_at "w")))
    (aW (s_ret (af9 (i := 5) (oA.get (oA.cons ⟨xK.bB SM ct (Bd.all (n := 3) (ks := []) (is := List.range 3) (fun _ _ _ _ _ _ us ws h1 h2 => match us, ws, h1, h2 with | [_, _, _], [], _, _ => rfl)), T.Bf.kp⟩ (oA.cons ⟨xM.bB SJ ct (Bd.all (n := 3) (ks := []) (is := List.range 3) (fun _ _ _ _ _ _ us ws h1 h2 => match us, ws, h1, h2 with | [_, _, _], [], _, _ => rfl)), T.Bh.kp⟩ (oA.cons ⟨yH.bB Z6 ct (Bd.all (n := 3) (ks := []) (is := List.range 3) (fun _ _ _ _ _ _ us ws h1 h2 => match us, ws, h1, h2 with | [_, _, _], [], _, _ => rfl)), T.Ei.kp⟩ (oA.cons ⟨zX.bB aaI ct (Bd.all (n := 3) (ks := []) (is := List.range 3) (fun _ _ _ _ _ _ us ws h1 h2 => match us, ws, h1, h2 with | [_, _, _], [], _, _ => rfl)), T.Gq.kp⟩ (oA.cons ⟨zY.bB aaH ct (Bd.all (n := 3) (ks := []) (is := List.range 3) (fun _ _ _ _ _ _ us ws h1 h2 => match us, ws, h1, h2 with | [_, _, _], [], _, _ => rfl)), T.Gu.kp⟩ (oA.cons ⟨xJ.bB Sy ct (Bd.all (n := 3) (ks := []) (is := List.range 3) (fun _ _ _ _ _ _ us ws h1 h2 => match us, ws, h1, h2 with | [_, _, _], [], _, _ => rfl)), T.Bc.kp⟩ (oA.cons ⟨yI.bB Z5 ct (Bd.all (n := 3) (ks := []) (is := List.range 3) (fun _ _ _ _ _ _ us ws h1 h2 => match us, ws, h1, h2 with | [_, _, _], [], _, _ => rfl)), T.Ek.kp⟩ oA.nil)))))))) rfl (by walk_at "v") (au (aj (i := 0) rfl (by walk_at "v")) (au (aj (i := 4) rfl (by walk_at "v")) (au (aj (i := 1) rfl (by walk_at "v")) aJ))))))))))))))
def uf : Mn := fun _ _ => .stuck
theorem xO (T : Top w K mg) : Fd P w K mg base 1 (He.ma K (He.ga K "Watch") "hold") "hold" "Watch.hold" qN [] [] ["self", "had", "row"] uf := Fd.stuck T.U0
def ug : Mn := fun _ _ => .stuck
theorem xP (T : Top w K mg) : Fd P w K mg base 1 (He.ma K (He.ga K "Watch") "turn") "turn" "Watch.turn" qO [] [] ["self", "task", "row"] ug := Fd.stuck T.U3
def dM : Mn := body 3 3
    (cA (bY (aG cW (aG bD (ao 2) (eC (.int (0)))) (eC (.str "failed")))) (cH d8 "state" (ao 1) (bH bL (aq (eC (.str "failed")) (aq (aG bD (ao 2) (eC (.int (2)))) aA)))) (cA (bY (aG cW (aG bD (ao 2) (eC (.int (0)))) (eC (.str "rescued")))) (cH d8 "state" (ao 1) (eC (.tup [.str "on"]))) (cA (bY (aG cW (aG bD (ao 2) (eC (.int (0)))) (eC (.str "landed")))) (aZ (cH mQ "owed" (ao 1) (eC (.bl false)))
    (cH d8 "state" (ao 1) (eC (.tup [.str "killed"])))) (cA (bY (aG cW (aG bD (ao 2) (eC (.int (0)))) (eC (.str "ended")))) (cH fY "ending" (ao 1) (aG bD (ao 2) (eC (.int (2))))) bV))))
theorem vM (T : Top w K mg) : Fd P w K mg base (0 + 1) (He.ma K (He.ga K "Watch") "go_on") "go_on" "Watch.go_on" jO [] [] ["self", "task", "row"] dM := by
  refine Fd.of T.RW Qc (fun cdv A outer s H E hr hG => ?_)
  have ct : bZ (cxOf (L2.CX P w) P w K mg base ["self", "task", "row"] "Watch.go_on" (defScope jO) (He.ma K (He.ga K "Watch") "go_on") cdv A outer s H E) (fun c d _ H' => E c d H') := bZ.def_ hG
  exact (aW (s_if (bQ (cP hr.units) (aX hr.units (aj (i := 2) rfl (by walk_at "v")) aR (fun _ _ => rfl)) aU (nomark _)) (aW (jt (cs := d8) (nq T) (aj (i := 1) rfl (by walk_at "v")) (cM (au aU (au (aX hr.units (aj (i := 2) rfl (by walk_at "v")) aR (fun _ _ => rfl)) aJ))))) (aW (s_if (bQ (cP hr.units) (aX hr.units (aj (i := 2) rfl (by walk_at "v")) aR (fun _ _ => rfl)) aU (nomark _)) (aW (jt (cs := d8) (nq T) (aj (i := 1) rfl (by walk_at "v")) (uh (by rfl) T.Ql (yV T)))) (aW (s_if (bQ (cP hr.units) (aX hr.units (aj (i := 2) rfl (by walk_at "v")) aR (fun _ _ => rfl)) aU (nomark _)) (aV (jt (cs := mQ) (wX T) (aj (i := 1) rfl (by walk_at "v")) tD)
    (aW (jt (cs := d8) (nq T) (aj (i := 1) rfl (by walk_at "v")) (uh (by rfl) T.Fg (zQ T))))) (aW (s_if (bQ (cP hr.units) (aX hr.units (aj (i := 2) rfl (by walk_at "v")) aR (fun _ _ => rfl)) aU (nomark _)) (aW (jt (cs := fY) (rC T) (aj (i := 1) rfl (by walk_at "v")) (aX hr.units (aj (i := 2) rfl (by walk_at "v")) aR (fun _ _ => rfl)))) cD))))))))
def gW : Mn := body 2 3
    (aZ (cH qd "must" (ao 0) (eC .non))
    (aZ (bO (aY 1 0 jK (aq (ao 1) aA) aA) (gName 2))
    (cA (bY (aG cW (aG bD (ao 1) (eC (.int (0)))) (eC (.str "begun")))) (aZ (bO (aY 2 0 (qI "Seen" fun ds => kJ (GB.picked (ds ++ []) [0, 1, 2])) (aq (ao 2) (aq (aG bD (ao 1) (eC (.int (3)))) aA)) aA) (iQ (bM cG "tasks" (ao 0)) (aG bD (ao 1) (eC (.int (1))))))
    (aZ (bO (aG bD (ao 1) (eC (.int (1)))) (iQ (bM j9 "latest" (ao 0)) (aG bD (ao 1) (eC (.int (3))))))
    (bO (ao 2) (iQ (bM qR "homes" (ao 0)) (aG bD (ao 1) (eC (.int (4)))))))) (cA (bY (aG cW (aG bD (ao 1) (eC (.int (0)))) (eC (.str "kill")))) (cH mQ "owed" (aG bD (bM cG "tasks" (ao 0)) (aG bD (ao 1) (eC (.int (2))))) (eC (.bl true))) (cA (bY (aG inX (aG bD (ao 1) (eC (.int (0)))) (bH bL (aq (eC (.str "got")) (aq (eC (.str "given")) aA))))) (eE (gQ QJ "hold" 2 uf (ao 0) (aq (bM vG "had" (aG bD (bM cG "tasks" (ao 0)) (ao 2))) (aq (ao 1) aA)))) (cA (bY (aG inX (aG bD (ao 1) (eC (.int (0)))) (bH bL (aq (eC (.str "last")) (aq (eC (.str "lasted")) aA))))) (eE (gQ QK "turn" 2 ug (ao 0) (aq (aG bD (bM cG "tasks" (ao 0)) (ao 2)) (aq (ao 1) aA)))) (cA (bY (aG inX (aG bD (ao 1) (eC (.int (0)))) (bH bL (aq (eC (.str "masked")) (aq (eC (.str "opened")) aA))))) (cH jN "shut" (aG bD (bM cG "tasks" (ao 0)) (ao 2)) (aG cW (aG bD (ao 1) (eC (.int (0)))) (eC (.str "masked")))) (cA (bY (aG fQ (ao 2) (eC .non))) (eE (gQ zP "go_on" 2 dM (ao 0) (aq (aG bD (bM cG "tasks" (ao 0)) (ao 2)) (aq (ao 1) aA)))) bV))))))))
theorem xQ (T : Top w K mg) : Fd P w K mg base (2 + 1) (He.ma K (He.ga K "Watch") "take") "take" "Watch.take" lK [] [] ["self", "row"] gW := by
  refine Fd.of T.UW Ak (fun cdv A outer s H E hr hG => ?_)
  have ct : bZ (cxOf (L2.CX P w) P w K mg base ["self", "row", "doer"] "Watch.take" (defScope lK) (He.ma K (He.ga K "Watch") "take") cdv A outer s H E) (fun c d _ H' => E c d H') := bZ.def_ hG
  have qm := qm (P := P) (base := base) T
  have Z4 : Room 1 _ := hr.mono (by first | decide | omega)
  have vL : Room (1 + 1) _ := hr.mono (by first | decide | omega)
  have xO := xO (P := P) (base := base) T
  have SQ : Room 1 _ := hr.mono (by first | decide | omega)
  have xP := xP (P := P) (base := base) T
  have S9 : Room 1 _ := hr.mono (by first | decide | omega)
  have vM := vM (P := P) (base := base) T
  have QL : Room 1 _ := hr.mono (by first | decide | omega)
  have tQ := tQ (P := P) (base := base) T
  have Aa : Room 1 _ := hr.mono (by first | decide | omega)
  exact (aV (jt (cs := qd) (zN T) (aj (i := 0) rfl (by walk_at "v")) fH)
    (aV (s_asg (bU (tQ.bB Aa ct (Bd.all (n := 1) (ks := []) (is := List.range 1) (fun _ _ _ _ _ _ us ws h1 h2 => match us, ws, h1, h2 with | [_], [], _, _ => rfl))) (by rfl) T.vC.gl T.vC.kp (au (aj (i := 1) rfl (by walk_at "v")) aJ)) (bW (i := 2) Ak.nd rfl (by walk_at "w")))
    (aW (s_if (bQ (cP hr.units) (aX hr.units (aj (i := 1) rfl (by walk_at "v")) aR (fun _ _ => rfl)) aU (nomark _)) (aV (s_asg (bU (qm.makes T.Gv vL ct (Bd.all (n := 3) (ks := []) (is := [0, 1, 2]) (fun _ _ _ _ _ _ us ws h1 h2 => match us, ws, h1, h2 with | [_, _, _], [], _, _ => rfl)) (fun _ _ => .nil)) (by rfl) T.acK T.Gv.kp (au (aj (i := 2) rfl (by walk_at "v")) (au (aX hr.units (aj (i := 1) rfl (by walk_at "v")) aR (fun _ _ => rfl)) aJ))) (rR hr.units (cV (cs := cG) (iw T) (aj (i := 0) rfl (by walk_at "v"))) (aX hr.units (aj (i := 1) rfl (by walk_at "v")) aR (fun _ _ => rfl))))
    (aV (s_asg (aX hr.units (aj (i := 1) rfl (by walk_at "v")) aR (fun _ _ => rfl)) (rR hr.units (cV (cs := j9) (zM T) (aj (i := 0) rfl (by walk_at "v"))) (aX hr.units (aj (i := 1) rfl (by walk_at "v")) aR (fun _ _ => rfl))))
    (aW (s_asg (aj (i := 2) rfl (by walk_at "v")) (rR hr.units (cV (cs := qR) (Cj T) (aj (i := 0) rfl (by walk_at "v"))) (aX hr.units (aj (i := 1) rfl (by walk_at "v")) aR (fun _ _ => rfl))))))) (aW (s_if (bQ (cP hr.units) (aX hr.units (aj (i := 1) rfl (by walk_at "v")) aR (fun _ _ => rfl)) aU (nomark _)) (aW (jt (cs := mQ) (wX T) (aX hr.units (cV (cs := cG) (iw T) (aj (i := 0) rfl (by walk_at "v"))) (aX hr.units (aj (i := 1) rfl (by walk_at "v")) aR (fun _ _ => rfl)) (fun _ _ => rfl)) tD)) (aW (s_if (bQ (vm hr.units) (aX hr.units (aj (i := 1) rfl (by walk_at "v")) aR (fun _ _ => rfl)) (cM (au aU (au aU aJ))) (by rfl)) (aW (wI (rQ (cs := QJ) (aeM T) (xO.bB SQ ct (Bd.all (n := 3) (ks := []) (is := List.range 3) (fun _ _ _ _ _ _ us ws h1 h2 => match us, ws, h1, h2 with | [_, _, _], [], _, _ => rfl))) (aj (i := 0) rfl (by walk_at "v")) (au (cV (cs := vG) (QG T) (aX hr.units (cV (cs := cG) (iw T) (aj (i := 0) rfl (by walk_at "v"))) (aj (i := 2) rfl (by walk_at "v")) (fun _ _ => rfl))) (au (aj (i := 1) rfl (by walk_at "v")) aJ))))) (aW (s_if (bQ (vm hr.units) (aX hr.units (aj (i := 1) rfl (by walk_at "v")) aR (fun _ _ => rfl)) (cM (au aU (au aU aJ))) (by rfl)) (aW (wI (rQ (cs := QK) (aeN T) (xP.bB S9 ct (Bd.all (n := 3) (ks := []) (is := List.range 3) (fun _ _ _ _ _ _ us ws h1 h2 => match us, ws, h1, h2 with | [_, _, _], [], _, _ => rfl))) (aj (i := 0) rfl (by walk_at "v")) (au (aX hr.units (cV (cs := cG) (iw T) (aj (i := 0) rfl (by walk_at "v"))) (aj (i := 2) rfl (by walk_at "v")) (fun _ _ => rfl)) (au (aj (i := 1) rfl (by walk_at "v")) aJ))))) (aW (s_if (bQ (vm hr.units) (aX hr.units (aj (i := 1) rfl (by walk_at "v")) aR (fun _ _ => rfl)) (cM (au aU (au aU aJ))) (by rfl)) (aW (jt (cs := jN) (uW T) (aX hr.units (cV (cs := cG) (iw T) (aj (i := 0) rfl (by walk_at "v"))) (aj (i := 2) rfl (by walk_at "v")) (fun _ _ => rfl)) (dO (cP hr.units) (aX hr.units (aj (i := 1) rfl (by walk_at "v")) aR (fun _ _ => rfl)) aU (nomark _)))) (aW (s_if (bQ sJ (aj (i := 2) rfl (by walk_at "v")) fH (nomark _)) (aW (wI (rQ (cs := zP) (adz T) (vM.bB QL ct (Bd.all (n := 3) (ks := []) (is := List.range 3) (fun _ _ _ _ _ _ us ws h1 h2 => match us, ws, h1, h2 with | [_, _, _], [], _, _ => rfl))) (aj (i := 0) rfl (by walk_at "v")) (au (aX hr.units (cV (cs := cG) (iw T) (aj (i := 0) rfl (by walk_at "v"))) (aj (i := 2) rfl (by walk_at "v")) (fun _ _ => rfl)) (au (aj (i := 1) rfl (by walk_at "v")) aJ))))) cD))))))))))))))
def dh : Mn := body 2 3
    (QD (aZ (bO (gQ tO "reason" 1 dJ (ao 0) (aq (ao 1) aA)) (gName 2))
    (aZ (cA (bY (aG fQ (ao 2) (eC .non))) (BL "Broken" zV (aq (bM jk "many" (ao 0)) (aq (ao 2) aA))) bV)
    (eE (gQ yU "take" 1 gW (ao 0) (aq (ao 1) aA))))) (uV jk "many" (ao 0) (eC (.int (1)))))
theorem qp (T : Top w K mg) : Fd P w K mg base (6 + 1) (He.ma K (He.ga K "Watch") "see") "see" "Watch.see" nU [] [] ["self", "row"] dh := by
  refine Fd.of T.aax Az (fun cdv A outer s H E hr hG => ?_)
  have ct : bZ (cxOf (L2.CX P w) P w K mg base ["self", "row", "why"] "Watch.see" (defScope nU) (He.ma K (He.ga K "Watch") "see") cdv A outer s H E) (fun c d _ H' => E c d H') := bZ.def_ hG
  have xQ := xQ (P := P) (base := base) T
  have Tc : Room 3 _ := hr.mono (by first | decide | omega)
  have Gi := Gi (P := P) (base := base) T
  have ab8 : Room 3 _ := hr.mono (by first | decide | omega)
  have uX := uX (P := P) (base := base) T
  have Pn : Room 6 _ := hr.mono (by first | decide | omega)
  exact (aW (ajE ct rfl rfl rfl (fun W pn xe ct2 => (aV (s_asg (rQ (cs := tO) (ab4 T) (uX.bB Pn ct2 (Bd.all (n := 2) (ks := []) (is := List.range 2) (fun _ _ _ _ _ _ us ws h1 h2 => match us, ws, h1, h2 with | [_, _], [], _, _ => rfl))) (aj (i := 0) rfl (by walk_at "v")) (au (aj (i := 1) rfl (by walk_at "v")) aJ)) (bW (i := 2) Az.nd rfl (by walk_at "w")))
    (aV (s_if (bQ sJ (aj (i := 2) rfl (by walk_at "v")) fH (nomark _)) (aW (Qt Gi ab8 rfl ct2 (by rfl) (au (cV (cs := jk) (wY T) (aj (i := 0) rfl (by walk_at "v"))) (au (aj (i := 2) rfl (by walk_at "v")) aJ)) adB)) cD)
    (aW (wI (rQ (cs := yU) (aeL T) (xQ.bB Tc ct2 (Bd.all (n := 2) (ks := []) (is := List.range 2) (fun _ _ _ _ _ _ us ws h1 h2 => match us, ws, h1, h2 with | [_, _], [], _, _ => rfl))) (aj (i := 0) rfl (by walk_at "v")) (au (aj (i := 1) rfl (by walk_at "v")) aJ))))))) (aW (ZV (cs := jk) (wY T) (aj (i := 0) rfl (by walk_at "v")) aR)) (fun a pn => (aW (ZV (cs := jk) (wY T) (aj (i := 0) rfl (by walk_at "v")) aR)))))
end
end cY
end
noncomputable section
namespace cY
open PySem PySem.Spec PyProof.Rows L2 PD
section
variable {P : Program} {w : World} {K : PySem.W.Frag} {mg : Str → Option Value} {base : Heap}
def qu : Mn := body 2 2
    (aZ (cA (bY (aG qJ (ao 1) (bH fJ (aq (ao 0) aA)))) (bK (aG bD (ao 0) (ao 1))) bV)
    (bK (eC (.int (0)))))
theorem yJ (T : Top w K mg) : Fd P w K mg base (0 + 1) (He.ga K "_law_cell_at") "_law_cell_at" "_law_cell_at" nO [] [] ["_law_script", "_law_k"] qu := by
  refine Fd.of T.yD.dn Uz (fun cdv A outer s H E hr hG => ?_)
  have ct : bZ (cxOf (L2.CX P w) P w K mg base ["_law_script", "_law_k"] "_law_cell_at" (defScope nO) (He.ga K "_law_cell_at") cdv A outer s H E) (fun c d _ H' => E c d H') := bZ.def_ hG
  exact (aV (s_if (bQ ak1 (aj (i := 1) rfl (by walk_at "v")) (jY (id := "len") sO (by rfl) T.sE (by decide +kernel) (au (aj (i := 0) rfl (by walk_at "v")) aJ)) (nomark _)) (aW (s_ret (aX hr.units (aj (i := 0) rfl (by walk_at "v")) (aj (i := 1) rfl (by walk_at "v")) (fun _ _ => rfl)))) cD)
    (aW (s_ret aR)))
def nZ : Mn := body 1 1
    (bK (bH dR (aq (aG pF (ao 0) (bH jj (aq (aG oM (ao 0) (aG jf (eC (.int (10))) (eC (.int (18))))) aA))) (aq (aG iD (ao 0) (eC (.int (2147483647)))) (aq (eC (.int (0))) aA)))))
theorem Ab (T : Top w K mg) : Fd P w K mg base (0 + 1) (He.ga K "_law_well") "_law_well" "_law_well" sU [] [] ["_law_cell"] nZ := by
  refine Fd.of T.wB.dn acH (fun cdv A outer s H E hr hG => ?_)
  have ct : bZ (cxOf (L2.CX P w) P w K mg base ["_law_cell"] "_law_well" (defScope sU) (He.ga K "_law_well") cdv A outer s H E) (fun c d _ H' => E c d H') := bZ.def_ hG
  exact (aW (s_ret (O4 (au (dY Cd (aj (i := 0) rfl (by walk_at "v")) (O5 abS (by rfl) T.Tr (by decide +kernel) (au (dO abR (aj (i := 0) rfl (by walk_at "v")) (dY Uc aR aR) (nomark _)) aJ))) (au (dY DG (aj (i := 0) rfl (by walk_at "v")) aR) (au aR aJ))))))
def fK : Mn := body 2 4
    (aZ (cA (bY (aG oY (aG bD (ao 0) (eC (.int (0)))) (eC (.int (0))))) (aZ (bO (aG iD (aG bD (ao 0) (eC (.int (0)))) (ao 1)) (gName 3))
    (aZ (bO (aG fM (aG bD (ao 0) (eC (.int (0)))) (ao 1)) (iQ (ao 0) (eC (.int (0)))))
    (bK (ao 3)))) bV)
    (aZ (bO (aG dF (aG bD (ao 0) (eC (.int (2)))) (eC (.int (1)))) (iQ (ao 0) (eC (.int (2)))))
    (aZ (bO (aG iD (aG jf (aG dF (aG dF (aG bD (ao 0) (eC (.int (1)))) (aG pF (eC (.int (7919))) (aG bD (ao 0) (eC (.int (2)))))) (eC (.int (1)))) (eC (.int (5)))) (eC (.int (2147483629)))) (gName 2))
    (aZ (bO (aG iD (aG pF (ao 2) (aG dF (aG dF (aG fM (ao 2) (eC (.int (1009)))) (eC (.int (69621)))) (aG bD (ao 0) (eC (.int (2)))))) (eC (.int (2147483587)))) (gName 2))
    (bK (aG iD (aG fM (aG iD (aG pF (ao 2) (aG dF (aG fM (ao 2) (eC (.int (2003)))) (eC (.int (40692))))) (eC (.int (2147483579)))) (eC (.int (7)))) (ao 1)))))))
theorem fZ (T : Top w K mg) : Fd P w K mg base (0 + 1) (He.ga K "_law_draw") "_law_draw" "_law_draw" sV [] [] ["_law_well_here", "_law_many"] fK := by
  refine Fd.of T.fD.dn xZ (fun cdv A outer s H E hr hG => ?_)
  have ct : bZ (cxOf (L2.CX P w) P w K mg base ["_law_well_here", "_law_many", "_law_number", "_law_digit"] "_law_draw" (defScope sV) (He.ga K "_law_draw") cdv A outer s H E) (fun c d _ H' => E c d H') := bZ.def_ hG
  exact (aV (s_if (bQ aev (aX hr.units (aj (i := 0) rfl (by walk_at "v")) aR (fun _ _ => rfl)) aR (nomark _)) (aV (s_asg (dY DG (aX hr.units (aj (i := 0) rfl (by walk_at "v")) aR (fun _ _ => rfl)) (aj (i := 1) rfl (by walk_at "v"))) (bW (i := 3) xZ.nd rfl (by walk_at "w")))
    (aV (s_asg (dY yO (aX hr.units (aj (i := 0) rfl (by walk_at "v")) aR (fun _ _ => rfl)) (aj (i := 1) rfl (by walk_at "v"))) (rR hr.units (aj (i := 0) rfl (by walk_at "v")) aR))
    (aW (s_ret (aj (i := 3) rfl (by walk_at "v")))))) cD)
    (aV (s_asg (dY m9 (aX hr.units (aj (i := 0) rfl (by walk_at "v")) aR (fun _ _ => rfl)) aR) (rR hr.units (aj (i := 0) rfl (by walk_at "v")) aR))
    (aV (s_asg (dY DG (dY Uc (dY m9 (dY m9 (aX hr.units (aj (i := 0) rfl (by walk_at "v")) aR (fun _ _ => rfl)) (dY Cd aR (aX hr.units (aj (i := 0) rfl (by walk_at "v")) aR (fun _ _ => rfl)))) aR) aR) aR) (bW (i := 2) xZ.nd rfl (by walk_at "w")))
    (aV (s_asg (dY DG (dY Cd (aj (i := 2) rfl (by walk_at "v")) (dY m9 (dY m9 (dY yO (aj (i := 2) rfl (by walk_at "v")) aR) aR) (aX hr.units (aj (i := 0) rfl (by walk_at "v")) aR (fun _ _ => rfl)))) aR) (bW (i := 2) xZ.nd rfl (by walk_at "w")))
    (aW (s_ret (dY DG (dY yO (dY DG (dY Cd (aj (i := 2) rfl (by walk_at "v")) (dY m9 (dY yO (aj (i := 2) rfl (by walk_at "v")) aR) aR)) aR) aR) (aj (i := 1) rfl (by walk_at "v")))))))))
def qC : Mn := body 2 2
    (bK (aG bD (ao 1) (aY 2 0 fK (aq (ao 0) (aq (bH fJ (aq (ao 1) aA)) aA)) aA)))
theorem tU (T : Top w K mg) : Fd P w K mg base (1 + 1) (He.ga K "_law_one") "_law_one" "_law_one" uM [] [] ["_law_well_here", "_law_some"] qC := by
  refine Fd.of T.rA.dn aee (fun cdv A outer s H E hr hG => ?_)
  have ct : bZ (cxOf (L2.CX P w) P w K mg base ["_law_well_here", "_law_some"] "_law_one" (defScope uM) (He.ga K "_law_one") cdv A outer s H E) (fun c d _ H' => E c d H') := bZ.def_ hG
  have fZ := fZ (P := P) (base := base) T
  have iZ : Room 1 _ := hr.mono (by first | decide | omega)
  exact (aW (s_ret (aX hr.units (aj (i := 1) rfl (by walk_at "v")) (bU (fZ.bB iZ ct (Bd.all (n := 2) (ks := []) (is := List.range 2) (fun _ _ _ _ _ _ us ws h1 h2 => match us, ws, h1, h2 with | [_, _], [], _, _ => rfl))) (by rfl) T.fD.gl T.fD.kp (au (aj (i := 0) rfl (by walk_at "v")) (au (jY (id := "len") sO (by rfl) T.sE (by decide +kernel) (au (aj (i := 1) rfl (by walk_at "v")) aJ)) aJ))) (fun _ _ => rfl))))
def uY : Mn := body 1 3
    (aZ (bO (eC (.str "abcdefghijklmnopqrstuvwxyz")) (gName 1))
    (bK (j8 "str" joinM (eC (.str "")) (aq (jH (jd Qq (aq (aG dF (eC (.int (1))) (aY 2 0 fK (aq (ao 0) (aq (eC (.int (8))) aA)) aA)) aA)) (gName 2) fG (aG bD (ao 1) (aY 2 0 fK (aq (ao 0) (aq (eC (.int (26))) aA)) aA)) [2]) aA))))
theorem Ac (T : Top w K mg) : Fd P w K mg base (1 + 1) (He.ga K "_law_word") "_law_word" "_law_word" qM [] [] ["_law_well_here"] uY := by
  refine Fd.of T.wC.dn yc (fun cdv A outer s H E hr hG => ?_)
  have ct : bZ (cxOf (L2.CX P w) P w K mg base ["_law_well_here", "_law_letters", "_law_k"] "_law_word" (defScope qM) (He.ga K "_law_word") cdv A outer s H E) (fun c d _ H' => E c d H') := bZ.def_ hG
  have fZ := fZ (P := P) (base := base) T
  have iZ : Room 1 _ := hr.mono (by first | decide | omega)
  exact (aV (s_asg aU (bW (i := 1) yc.nd rfl (by walk_at "w")))
    (aW (s_ret (ahM aU (au (zG (own := [("_law_k", 2)]) rfl yc.nd (ac7 (by rfl) T.aaR (au (dY m9 aR (bU (fZ.bB iZ ct (Bd.all (n := 2) (ks := []) (is := List.range 2) (fun _ _ _ _ _ _ us ws h1 h2 => match us, ws, h1, h2 with | [_, _], [], _, _ => rfl))) (by rfl) T.fD.gl T.fD.kp (au (aj (i := 0) rfl (by walk_at "v")) (au aR aJ)))) aJ)) (blkOk_by (N := ["_law_well_here", "_law_letters", "_law_k"]) (sc := defScope qM) (by decide +kernel)) (fun _ _ _ _ _ => (kW (i := 2) (by decide) yc.nd rfl (by walk_at "w"))) (fun _ _ _ _ _ => wJ) (fun _ _ _ _ _ => (aX hr.units (aj (i := 1) rfl (by walk_at "v")) (bU (fZ.bB iZ ct.blk (Bd.all (n := 2) (ks := []) (is := List.range 2) (fun _ _ _ _ _ _ us ws h1 h2 => match us, ws, h1, h2 with | [_, _], [], _, _ => rfl))) (by rfl) T.fD.gl T.fD.kp (au (aj (i := 0) rfl (by walk_at "v")) (au aR aJ))) (fun _ _ => rfl)))) aJ)))))
def pH : Mn := body 1 1
    (bK (Pa [((eC (.str "name")), (ao 0)), ((eC (.str "due")), (eC (.bl false))), ((eC (.str "shut")), (eC (.bl false))), ((eC (.str "gone")), (eC (.bl false))), ((eC (.str "end")), (eC .non))]))
theorem Ad (T : Top w K mg) : Fd P w K mg base (0 + 1) (He.ga K "_law_task") "_law_task" "_law_task" sW [] [] ["_law_name"] pH := by
  refine Fd.of T.wD.dn acI (fun cdv A outer s H E hr hG => ?_)
  have ct : bZ (cxOf (L2.CX P w) P w K mg base ["_law_name"] "_law_task" (defScope sW) (He.ga K "_law_task") cdv A outer s H E) (fun c d _ H' => E c d H') := bZ.def_ hG
  exact (aW (s_ret (adl (ps := [((eC (.str "name")), (ao 0)), ((eC (.str "due")), (eC (.bl false))), ((eC (.str "shut")), (eC (.bl false))), ((eC (.str "gone")), (eC (.bl false))), ((eC (.str "end")), (eC .non))]) (pps_cons aU (aj (i := 0) rfl (by walk_at "v")) (pps_cons aU tD (pps_cons aU tD (pps_cons aU tD (pps_cons aU fH pps_nil))))))))
def rH : Mn := body 2 4
    (aZ (bO (jH (fX (ni (ao 0) (fO (aG dF (ao 1) (eC (.int (1))))) oh)) (gName 3) (bY (aG (Rj cW) (aG bD (ao 3) (eC (.str "name"))) (aG bD (aG bD (ao 0) (ao 1)) (eC (.str "name"))))) (ao 3) [3]) (gName 2))
    (bK (eO (aG oY (ao 1) (eC (.int (0)))) (aG (Rj cW) (ao 2) (bH cC aA)))))
theorem Ae (T : Top w K mg) : Fd P w K mg base (0 + 1) (He.ga K "_law_latest") "_law_latest" "_law_latest" mU [] [] ["_law_tasks", "_law_number"] rH := by
  refine Fd.of T.zm.dn yC (fun cdv A outer s H E hr hG => ?_)
  have ct : bZ (cxOf (L2.CX P w) P w K mg base ["_law_tasks", "_law_number", "_law_later", "_law_task_here"] "_law_latest" (defScope mU) (He.ga K "_law_latest") cdv A outer s H E) (fun c d _ H' => E c d H') := bZ.def_ hG
  exact (aV (af5 (i := 2) (own := [("_law_task_here", 3)]) rfl yC.nd rfl rfl (sw_true rfl rfl rfl (by decide +kernel)) (zF (Qu (aj (i := 0) rfl (by walk_at "v")) (wM (dY m9 (aj (i := 1) rfl (by walk_at "v")) aR)) ZF)) (blkOk_by (N := ["_law_tasks", "_law_number", "_law_later", "_law_task_here"]) (sc := defScope mU) (by decide +kernel)) (fun _ _ _ _ _ => (kW (i := 3) (by decide) yC.nd rfl (by walk_at "w"))) (fun _ _ _ _ _ => (Zy (bQ (afC hr.units (cP hr.units)) (aX hr.units (aj (i := 3) rfl (by walk_at "v")) aU (fun _ _ => rfl)) (aX hr.units (aX hr.units (aj (i := 0) rfl (by walk_at "v")) (aj (i := 1) rfl (by walk_at "v")) (fun _ _ => rfl)) aU (fun _ _ => rfl)) (nomark _)))) (fun _ _ _ _ _ => (aj (i := 3) rfl (by walk_at "v"))))
    (aW (s_ret (ou (dO aev (aj (i := 1) rfl (by walk_at "v")) aR (nomark _)) (jU (dO (afC hr.units (cP hr.units)) (aj (i := 2) rfl (by walk_at "v")) (iK aJ) (nomark _)))))))
def jL : Mn := body 2 7
    (aZ (bO (ao 1) (gj (eG 3 (gCons (gName 3) (gCons (gName 4) (gCons (gName 5) gNil))))))
    (aZ (bO (aG fQ (aG bD (aG bD (ao 0) (ao 5)) (eC (.str "end"))) (eC .non)) (gName 2))
    (aZ (cA (bY (aG fQ (ao 4) (eC .non))) (aZ (bO (eO (aG cW (ao 4) (eC (.int (0)))) (aG oY (ao 5) (eC (.int (0))))) (gName 6))
    (aZ (cA (fV (dX (aG bD (aG bD (ao 0) (ao 4)) (eC (.str "gone")))) (mW (bY (aG cW (ao 3) (eC (.str "late")))) (fW (dX (ao 6))))) (bK (eC (.str "unwinds"))) bV)
    (cA (fV (fW (dX (aY 2 0 rH (aq (ao 0) (aq (ao 5) aA)) aA))) (mW (bY (aG cW (ao 3) (eC (.str "late")))) (fW (dX (ao 6))))) (bK (eC (.str "who"))) bV))) bV)
    (aZ (cA (fV (bY (aG cW (ao 3) (eC (.str "kill")))) (dX (ao 2))) (bK (eC (.str "over"))) bV)
    (aZ (cA (fV (bY (aG cW (ao 3) (eC (.str "late")))) (fW (dX (ao 2)))) (bK (eC (.str "lives"))) bV)
    (bK (eC (.str ""))))))))
theorem xR (T : Top w K mg) : Fd P w K mg base (1 + 1) (He.ga K "_law_told_due") "_law_told_due" "_law_told_due" lF [] [] ["_law_tasks", "_law_row_here"] jL := by
  refine Fd.of T.wF.dn mH (fun cdv A outer s H E hr hG => ?_)
  have ct : bZ (cxOf (L2.CX P w) P w K mg base ["_law_tasks", "_law_row_here", "_law_ended", "_law_word_here", "_law_by", "_law_number", "_law_own"] "_law_told_due" (defScope lF) (He.ga K "_law_told_due") cdv A outer s H E) (fun c d _ H' => E c d H') := bZ.def_ hG
  have Ae := Ae (P := P) (base := base) T
  have aaJ : Room 1 _ := hr.mono (by first | decide | omega)
  exact (aV (s_asg (aj (i := 1) rfl (by walk_at "v")) (afu (aft rfl (yM (bW (i := 3) mH.nd rfl (by walk_at "w")) (yM (bW (i := 4) mH.nd rfl (by walk_at "w")) (yM (bW (i := 5) mH.nd rfl (by walk_at "w")) ac0))))))
    (aV (s_asg (dO sJ (aX hr.units (aX hr.units (aj (i := 0) rfl (by walk_at "v")) (aj (i := 5) rfl (by walk_at "v")) (fun _ _ => rfl)) aU (fun _ _ => rfl)) fH (nomark _)) (bW (i := 2) mH.nd rfl (by walk_at "w")))
    (aV (s_if (bQ sJ (aj (i := 4) rfl (by walk_at "v")) fH (nomark _)) (aV (s_asg (ou (dO (cP hr.units) (aj (i := 4) rfl (by walk_at "v")) aR (nomark _)) (jU (dO aev (aj (i := 5) rfl (by walk_at "v")) aR (nomark _)))) (bW (i := 6) mH.nd rfl (by walk_at "w")))
    (aV (s_if (PW.pt (sG (lU (aX hr.units (aX hr.units (aj (i := 0) rfl (by walk_at "v")) (aj (i := 4) rfl (by walk_at "v")) (fun _ _ => rfl)) aU (fun _ _ => rfl)) (by intro _; rfl)) (pW (PW.pt (Qo (bQ (cP hr.units) (aj (i := 3) rfl (by walk_at "v")) aU (nomark _)) (OD (sH (lU (aj (i := 6) rfl (by walk_at "v")) (by intro _; rfl))))))))) (aW (s_ret aU)) cD)
    (aW (s_if (PW.pt (sG (sH (lU (bU (Ae.bB aaJ ct (Bd.all (n := 2) (ks := []) (is := List.range 2) (fun _ _ _ _ _ _ us ws h1 h2 => match us, ws, h1, h2 with | [_, _], [], _, _ => rfl))) (by rfl) T.zm.gl T.zm.kp (au (aj (i := 0) rfl (by walk_at "v")) (au (aj (i := 5) rfl (by walk_at "v")) aJ))) (by intro _; rfl))) (pW (PW.pt (Qo (bQ (cP hr.units) (aj (i := 3) rfl (by walk_at "v")) aU (nomark _)) (OD (sH (lU (aj (i := 6) rfl (by walk_at "v")) (by intro _; rfl))))))))) (aW (s_ret aU)) cD)))) cD)
    (aV (s_if (PW.pt (sG (bQ (cP hr.units) (aj (i := 3) rfl (by walk_at "v")) aU (nomark _)) (pW (lU (aj (i := 2) rfl (by walk_at "v")) (by intro _; rfl))))) (aW (s_ret aU)) cD)
    (aV (s_if (PW.pt (sG (bQ (cP hr.units) (aj (i := 3) rfl (by walk_at "v")) aU (nomark _)) (pW (sH (lU (aj (i := 2) rfl (by walk_at "v")) (by intro _; rfl)))))) (aW (s_ret aU)) cD)
    (aW (s_ret aU)))))))
def rY : Mn := body 2 4
    (aZ (bO (aG bD (ao 0) (aG bD (ao 1) (eC (.int (1))))) (gName 2))
    (aZ (cA (dX (aG bD (ao 2) (eC (.str "shut")))) (bK (eC (.str "held"))) bV)
    (aZ (cA (fV (bY (aG cW (aG bD (ao 1) (eC (.int (1)))) (eC (.int (0))))) (bY (aG (neL jX) (jH (fX (ni (ao 0) (fO (eC (.int (1)))) oh)) (gName 3) (bY (aG jW (aG bD (ao 3) (eC (.str "end"))) (eC .non))) (ao 3) [3]) (bH cC aA)))) (bK (eC (.str "outlives"))) bV)
    (aZ (cA (dX (aG bD (ao 2) (eC (.str "due")))) (bK (eC (.str "owed"))) bV)
    (aZ (cA (bY (aG (neL jX) (aG bD (ao 2) (eC (.str "gone"))) (aG cW (aG bD (ao 1) (eC (.int (2)))) (bH bL (aq (eC (.str "killed")) aA))))) (bK (eC (.str "outcome"))) bV)
    (bK (eC (.str ""))))))))
theorem yK (T : Top w K mg) : Fd P w K mg base (0 + 1) (He.ga K "_law_end_due") "_law_end_due" "_law_end_due" j7 [] [] ["_law_tasks", "_law_row_here"] rY := by
  refine Fd.of T.yE.dn tY (fun cdv A outer s H E hr hG => ?_)
  have ct : bZ (cxOf (L2.CX P w) P w K mg base ["_law_tasks", "_law_row_here", "_law_task_here", "_law_one_here"] "_law_end_due" (defScope j7) (He.ga K "_law_end_due") cdv A outer s H E) (fun c d _ H' => E c d H') := bZ.def_ hG
  exact (aV (s_asg (aX hr.units (aj (i := 0) rfl (by walk_at "v")) (aX hr.units (aj (i := 1) rfl (by walk_at "v")) aR (fun _ _ => rfl)) (fun _ _ => rfl)) (bW (i := 2) tY.nd rfl (by walk_at "w")))
    (aV (s_if (lU (aX hr.units (aj (i := 2) rfl (by walk_at "v")) aU (fun _ _ => rfl)) (by intro _; rfl)) (aW (s_ret aU)) cD)
    (aV (s_if (PW.pt (sG (bQ (cP hr.units) (aX hr.units (aj (i := 1) rfl (by walk_at "v")) aR (fun _ _ => rfl)) aR (nomark _)) (pW (bQ (afI hr.units (pD hr.units)) (zG (own := [("_law_one_here", 3)]) rfl tY.nd (zF (Qu (aj (i := 0) rfl (by walk_at "v")) (wM aR) ZF)) (blkOk_by (N := ["_law_tasks", "_law_row_here", "_law_task_here", "_law_one_here"]) (sc := defScope j7) (by decide +kernel)) (fun _ _ _ _ _ => (kW (i := 3) (by decide) tY.nd rfl (by walk_at "w"))) (fun _ _ _ _ _ => (Zy (bQ BR (aX hr.units (aj (i := 3) rfl (by walk_at "v")) aU (fun _ _ => rfl)) fH (nomark _)))) (fun _ _ _ _ _ => (aj (i := 3) rfl (by walk_at "v")))) (iK aJ) (nomark _))))) (aW (s_ret aU)) cD)
    (aV (s_if (lU (aX hr.units (aj (i := 2) rfl (by walk_at "v")) aU (fun _ _ => rfl)) (by intro _; rfl)) (aW (s_ret aU)) cD)
    (aV (s_if (bQ (afI hr.units (pD hr.units)) (aX hr.units (aj (i := 2) rfl (by walk_at "v")) aU (fun _ _ => rfl)) (dO (cP hr.units) (aX hr.units (aj (i := 1) rfl (by walk_at "v")) aR (fun _ _ => rfl)) (cM (au aU aJ)) (nomark _)) (nomark _)) (aW (s_ret aU)) cD)
    (aW (s_ret aU)))))))
def uZ : Mn := body 2 5
    (aZ (bO (aG dF (bH cC (aq (aG bD (ao 1) (eC (.int (1)))) aA)) (aG pF (bH ju (aq (ni (ao 1) (fO (eC (.int (2)))) oh) aA)) (bH jj (aq (aG inX (aG bD (ao 1) (eC (.int (0)))) (bH bL (aq (eC (.str "kill")) (aq (eC (.str "late")) aA)))) aA)))) (gName 2))
    (aZ (cA (bY (aG jX (jH (fX (ao 2)) (gName 4) (fV (bY (aG fQ (ao 4) (eC .non))) (bY (aG oM (ao 4) (bH fJ (aq (ao 0) aA))))) (ao 4) [4]) (bH cC aA))) (bK (eC (.str "task"))) bV)
    (aZ (cA (fV (bY (aG fQ (aG bD (ao 1) (eC (.int (1)))) (eC .non))) (bY (aG fQ (aG bD (aG bD (ao 0) (aG bD (ao 1) (eC (.int (1))))) (eC (.str "end"))) (eC .non)))) (bK (eC (.str "ended"))) bV)
    (aZ (cA (bY (aG inX (aG bD (ao 1) (eC (.int (0)))) (bH bL (aq (eC (.str "kill")) (aq (eC (.str "late")) aA))))) (bK (aY 2 0 jL (aq (ao 0) (aq (ao 1) aA)) aA)) bV)
    (aZ (cA (bY (aG cW (aG bD (ao 1) (eC (.int (0)))) (eC (.str "ended")))) (bK (aY 2 0 rY (aq (ao 0) (aq (ao 1) aA)) aA)) bV)
    (aZ (bO (aG bD (ao 0) (aG bD (ao 1) (eC (.int (1))))) (gName 3))
    (aZ (cA (fV (bY (aG cW (aG bD (ao 1) (eC (.int (0)))) (eC (.str "landed")))) (fW (dX (aG bD (ao 3) (eC (.str "due")))))) (bK (eC (.str "untold"))) bV)
    (aZ (cA (fV (bY (aG inX (aG bD (ao 1) (eC (.int (0)))) (bH bL (aq (eC (.str "landed")) (aq (eC (.str "masked")) aA))))) (dX (aG bD (ao 3) (eC (.str "shut"))))) (bK (eC (.str "held"))) bV)
    (aZ (cA (fV (bY (aG cW (aG bD (ao 1) (eC (.int (0)))) (eC (.str "opened")))) (fW (dX (aG bD (ao 3) (eC (.str "shut")))))) (bK (eC (.str "open"))) bV)
    (bK (eC (.str ""))))))))))))
theorem QM (T : Top w K mg) : Fd P w K mg base (2 + 1) (He.ga K "_law_due") "_law_due" "_law_due" tM [] [] ["_law_tasks", "_law_row_here"] uZ := by
  refine Fd.of T.Qe.dn wj (fun cdv A outer s H E hr hG => ?_)
  have ct : bZ (cxOf (L2.CX P w) P w K mg base ["_law_tasks", "_law_row_here", "_law_some", "_law_task_here", "_law_one_here"] "_law_due" (defScope tM) (He.ga K "_law_due") cdv A outer s H E) (fun c d _ H' => E c d H') := bZ.def_ hG
  have yK := yK (P := P) (base := base) T
  have Z7 : Room 1 _ := hr.mono (by first | decide | omega)
  have xR := xR (P := P) (base := base) T
  have Td : Room 2 _ := hr.mono (by first | decide | omega)
  exact (aV (s_asg (dY m9 (iK (au (aX hr.units (aj (i := 1) rfl (by walk_at "v")) aR (fun _ _ => rfl)) aJ)) (dY Cd (O5 ahK (by rfl) T.ahm (by decide +kernel) (au (Qu (aj (i := 1) rfl (by walk_at "v")) (wM aR) ZF) aJ)) (O5 abS (by rfl) T.Tr (by decide +kernel) (au (dO (vm hr.units) (aX hr.units (aj (i := 1) rfl (by walk_at "v")) aR (fun _ _ => rfl)) (cM (au aU (au aU aJ))) (by rfl)) aJ)))) (bW (i := 2) wj.nd rfl (by walk_at "w")))
    (aV (s_if (bQ (pD hr.units) (zG (own := [("_law_one_here", 4)]) rfl wj.nd (zF (aj (i := 2) rfl (by walk_at "v"))) (blkOk_by (N := ["_law_tasks", "_law_row_here", "_law_some", "_law_task_here", "_law_one_here"]) (sc := defScope tM) (by decide +kernel)) (fun _ _ _ _ _ => (kW (i := 4) (by decide) wj.nd rfl (by walk_at "w"))) (fun _ _ _ _ _ => (Zy (PW.pt (sG (bQ sJ (aj (i := 4) rfl (by walk_at "v")) fH (nomark _)) (pW (bQ abR (aj (i := 4) rfl (by walk_at "v")) (jY (id := "len") sO (by rfl) T.sE (by decide +kernel) (au (aj (i := 0) rfl (by walk_at "v")) aJ)) (nomark _))))))) (fun _ _ _ _ _ => (aj (i := 4) rfl (by walk_at "v")))) (iK aJ) (nomark _)) (aW (s_ret aU)) cD)
    (aV (s_if (PW.pt (sG (bQ sJ (aX hr.units (aj (i := 1) rfl (by walk_at "v")) aR (fun _ _ => rfl)) fH (nomark _)) (pW (bQ sJ (aX hr.units (aX hr.units (aj (i := 0) rfl (by walk_at "v")) (aX hr.units (aj (i := 1) rfl (by walk_at "v")) aR (fun _ _ => rfl)) (fun _ _ => rfl)) aU (fun _ _ => rfl)) fH (nomark _))))) (aW (s_ret aU)) cD)
    (aV (s_if (bQ (vm hr.units) (aX hr.units (aj (i := 1) rfl (by walk_at "v")) aR (fun _ _ => rfl)) (cM (au aU (au aU aJ))) (by rfl)) (aW (s_ret (bU (xR.bB Td ct (Bd.all (n := 2) (ks := []) (is := List.range 2) (fun _ _ _ _ _ _ us ws h1 h2 => match us, ws, h1, h2 with | [_, _], [], _, _ => rfl))) (by rfl) T.wF.gl T.wF.kp (au (aj (i := 0) rfl (by walk_at "v")) (au (aj (i := 1) rfl (by walk_at "v")) aJ))))) cD)
    (aV (s_if (bQ (cP hr.units) (aX hr.units (aj (i := 1) rfl (by walk_at "v")) aR (fun _ _ => rfl)) aU (nomark _)) (aW (s_ret (bU (yK.bB Z7 ct (Bd.all (n := 2) (ks := []) (is := List.range 2) (fun _ _ _ _ _ _ us ws h1 h2 => match us, ws, h1, h2 with | [_, _], [], _, _ => rfl))) (by rfl) T.yE.gl T.yE.kp (au (aj (i := 0) rfl (by walk_at "v")) (au (aj (i := 1) rfl (by walk_at "v")) aJ))))) cD)
    (aV (s_asg (aX hr.units (aj (i := 0) rfl (by walk_at "v")) (aX hr.units (aj (i := 1) rfl (by walk_at "v")) aR (fun _ _ => rfl)) (fun _ _ => rfl)) (bW (i := 3) wj.nd rfl (by walk_at "w")))
    (aV (s_if (PW.pt (sG (bQ (cP hr.units) (aX hr.units (aj (i := 1) rfl (by walk_at "v")) aR (fun _ _ => rfl)) aU (nomark _)) (pW (sH (lU (aX hr.units (aj (i := 3) rfl (by walk_at "v")) aU (fun _ _ => rfl)) (by intro _; rfl)))))) (aW (s_ret aU)) cD)
    (aV (s_if (PW.pt (sG (bQ (vm hr.units) (aX hr.units (aj (i := 1) rfl (by walk_at "v")) aR (fun _ _ => rfl)) (cM (au aU (au aU aJ))) (by rfl)) (pW (lU (aX hr.units (aj (i := 3) rfl (by walk_at "v")) aU (fun _ _ => rfl)) (by intro _; rfl))))) (aW (s_ret aU)) cD)
    (aV (s_if (PW.pt (sG (bQ (cP hr.units) (aX hr.units (aj (i := 1) rfl (by walk_at "v")) aR (fun _ _ => rfl)) aU (nomark _)) (pW (sH (lU (aX hr.units (aj (i := 3) rfl (by walk_at "v")) aU (fun _ _ => rfl)) (by intro _; rfl)))))) (aW (s_ret aU)) cD)
    (aW (s_ret aU)))))))))))
def tH : Mn := body 2 2
    (aZ (cA (bY (aG cW (aG bD (ao 1) (eC (.int (0)))) (eC (.str "kill")))) (bO (eC (.bl true)) (iQ (aG bD (ao 0) (aG bD (ao 1) (eC (.int (2))))) (eC (.str "due")))) bV)
    (aZ (cA (bY (aG inX (aG bD (ao 1) (eC (.int (0)))) (bH bL (aq (eC (.str "masked")) (aq (eC (.str "opened")) aA))))) (bO (aG cW (aG bD (ao 1) (eC (.int (0)))) (eC (.str "masked"))) (iQ (aG bD (ao 0) (aG bD (ao 1) (eC (.int (1))))) (eC (.str "shut")))) bV)
    (aZ (cA (bY (aG cW (aG bD (ao 1) (eC (.int (0)))) (eC (.str "ended")))) (bO (aG bD (ao 1) (eC (.int (2)))) (iQ (aG bD (ao 0) (aG bD (ao 1) (eC (.int (1))))) (eC (.str "end")))) bV)
    (cA (bY (aG cW (aG bD (ao 1) (eC (.int (0)))) (eC (.str "landed")))) (aZ (bO (eC (.bl false)) (iQ (aG bD (ao 0) (aG bD (ao 1) (eC (.int (1))))) (eC (.str "due"))))
    (bO (eC (.bl true)) (iQ (aG bD (ao 0) (aG bD (ao 1) (eC (.int (1))))) (eC (.str "gone"))))) bV))))
theorem Gj (T : Top w K mg) : Fd P w K mg base (0 + 1) (He.ga K "_law_done") "_law_done" "_law_done" sX [] [] ["_law_tasks", "_law_row_here"] tH := by
  refine Fd.of T.Ew.dn acJ (fun cdv A outer s H E hr hG => ?_)
  have ct : bZ (cxOf (L2.CX P w) P w K mg base ["_law_tasks", "_law_row_here"] "_law_done" (defScope sX) (He.ga K "_law_done") cdv A outer s H E) (fun c d _ H' => E c d H') := bZ.def_ hG
  exact (aV (s_if (bQ (cP hr.units) (aX hr.units (aj (i := 1) rfl (by walk_at "v")) aR (fun _ _ => rfl)) aU (nomark _)) (aW (s_asg tD (rR hr.units (aX hr.units (aj (i := 0) rfl (by walk_at "v")) (aX hr.units (aj (i := 1) rfl (by walk_at "v")) aR (fun _ _ => rfl)) (fun _ _ => rfl)) aU))) cD)
    (aV (s_if (bQ (vm hr.units) (aX hr.units (aj (i := 1) rfl (by walk_at "v")) aR (fun _ _ => rfl)) (cM (au aU (au aU aJ))) (by rfl)) (aW (s_asg (dO (cP hr.units) (aX hr.units (aj (i := 1) rfl (by walk_at "v")) aR (fun _ _ => rfl)) aU (nomark _)) (rR hr.units (aX hr.units (aj (i := 0) rfl (by walk_at "v")) (aX hr.units (aj (i := 1) rfl (by walk_at "v")) aR (fun _ _ => rfl)) (fun _ _ => rfl)) aU))) cD)
    (aV (s_if (bQ (cP hr.units) (aX hr.units (aj (i := 1) rfl (by walk_at "v")) aR (fun _ _ => rfl)) aU (nomark _)) (aW (s_asg (aX hr.units (aj (i := 1) rfl (by walk_at "v")) aR (fun _ _ => rfl)) (rR hr.units (aX hr.units (aj (i := 0) rfl (by walk_at "v")) (aX hr.units (aj (i := 1) rfl (by walk_at "v")) aR (fun _ _ => rfl)) (fun _ _ => rfl)) aU))) cD)
    (aW (s_if (bQ (cP hr.units) (aX hr.units (aj (i := 1) rfl (by walk_at "v")) aR (fun _ _ => rfl)) aU (nomark _)) (aV (s_asg tD (rR hr.units (aX hr.units (aj (i := 0) rfl (by walk_at "v")) (aX hr.units (aj (i := 1) rfl (by walk_at "v")) aR (fun _ _ => rfl)) (fun _ _ => rfl)) aU))
    (aW (s_asg tD (rR hr.units (aX hr.units (aj (i := 0) rfl (by walk_at "v")) (aX hr.units (aj (i := 1) rfl (by walk_at "v")) aR (fun _ _ => rfl)) (fun _ _ => rfl)) aU)))) cD)))))
def tV : Mn := body 2 4
    (aZ (bO (aY 2 0 qC (aq (ao 0) (aq (bH cC (aq (eC (.str "kill")) (aq (eC (.str "kill")) (aq (eC (.str "late")) (aq (eC (.str "landed")) (aq (eC (.str "landed")) (aq (eC (.str "masked")) (aq (eC (.str "opened")) (aq (eC (.str "ended")) aA))))))))) aA)) aA) (gName 2))
    (aZ (bO (aY 2 0 fK (aq (ao 0) (aq (ao 1) aA)) aA) (gName 3))
    (aZ (cA (bY (aG inX (ao 2) (bH bL (aq (eC (.str "kill")) (aq (eC (.str "late")) aA))))) (bK (bH bL (aq (ao 2) (aq (aY 2 0 qC (aq (ao 0) (aq (bH cC (aq (eC .non) (aq (eC .non) (aq (aY 2 0 fK (aq (ao 0) (aq (ao 1) aA)) aA) (aq (eC (.int (0))) aA))))) aA)) aA) (aq (aG dF (ao 3) (aG fM (aY 2 0 fK (aq (ao 0) (aq (eC (.int (9))) aA)) aA) (eC (.int (8))))) aA))))) bV)
    (aZ (cA (bY (aG cW (ao 2) (eC (.str "ended")))) (bK (bH bL (aq (ao 2) (aq (ao 3) (aq (aY 2 0 qC (aq (ao 0) (aq (bH cC (aq (bH bL (aq (eC (.str "done")) aA)) (aq (bH bL (aq (eC (.str "killed")) aA)) aA))) aA)) aA) aA))))) bV)
    (bK (bH bL (aq (ao 2) (aq (aG dF (ao 3) (aG fM (aY 2 0 fK (aq (ao 0) (aq (eC (.int (20))) aA)) aA) (eC (.int (19))))) aA))))))))
theorem QS (T : Top w K mg) : Fd P w K mg base (2 + 1) (He.ga K "_law_row") "_law_row" "_law_row" uN [] [] ["_law_well_here", "_law_many"] tV := by
  refine Fd.of T.Qg.dn Eu (fun cdv A outer s H E hr hG => ?_)
  have ct : bZ (cxOf (L2.CX P w) P w K mg base ["_law_well_here", "_law_many", "_law_word_here", "_law_number"] "_law_row" (defScope uN) (He.ga K "_law_row") cdv A outer s H E) (fun c d _ H' => E c d H') := bZ.def_ hG
  have fZ := fZ (P := P) (base := base) T
  have iZ : Room 1 _ := hr.mono (by first | decide | omega)
  have tU := tU (P := P) (base := base) T
  have xT : Room 2 _ := hr.mono (by first | decide | omega)
  exact (aV (s_asg (bU (tU.bB xT ct (Bd.all (n := 2) (ks := []) (is := List.range 2) (fun _ _ _ _ _ _ us ws h1 h2 => match us, ws, h1, h2 with | [_, _], [], _, _ => rfl))) (by rfl) T.rA.gl T.rA.kp (au (aj (i := 0) rfl (by walk_at "v")) (au (iK (au aU (au aU (au aU (au aU (au aU (au aU (au aU (au aU aJ))))))))) aJ))) (bW (i := 2) Eu.nd rfl (by walk_at "w")))
    (aV (s_asg (bU (fZ.bB iZ ct (Bd.all (n := 2) (ks := []) (is := List.range 2) (fun _ _ _ _ _ _ us ws h1 h2 => match us, ws, h1, h2 with | [_, _], [], _, _ => rfl))) (by rfl) T.fD.gl T.fD.kp (au (aj (i := 0) rfl (by walk_at "v")) (au (aj (i := 1) rfl (by walk_at "v")) aJ))) (bW (i := 3) Eu.nd rfl (by walk_at "w")))
    (aV (s_if (bQ (vm hr.units) (aj (i := 2) rfl (by walk_at "v")) (cM (au aU (au aU aJ))) (by rfl)) (aW (s_ret (cM (au (aj (i := 2) rfl (by walk_at "v")) (au (bU (tU.bB xT ct (Bd.all (n := 2) (ks := []) (is := List.range 2) (fun _ _ _ _ _ _ us ws h1 h2 => match us, ws, h1, h2 with | [_, _], [], _, _ => rfl))) (by rfl) T.rA.gl T.rA.kp (au (aj (i := 0) rfl (by walk_at "v")) (au (iK (au fH (au fH (au (bU (fZ.bB iZ ct (Bd.all (n := 2) (ks := []) (is := List.range 2) (fun _ _ _ _ _ _ us ws h1 h2 => match us, ws, h1, h2 with | [_, _], [], _, _ => rfl))) (by rfl) T.fD.gl T.fD.kp (au (aj (i := 0) rfl (by walk_at "v")) (au (aj (i := 1) rfl (by walk_at "v")) aJ))) (au aR aJ))))) aJ))) (au (dY m9 (aj (i := 3) rfl (by walk_at "v")) (dY yO (bU (fZ.bB iZ ct (Bd.all (n := 2) (ks := []) (is := List.range 2) (fun _ _ _ _ _ _ us ws h1 h2 => match us, ws, h1, h2 with | [_, _], [], _, _ => rfl))) (by rfl) T.fD.gl T.fD.kp (au (aj (i := 0) rfl (by walk_at "v")) (au aR aJ))) aR)) aJ)))))) cD)
    (aV (s_if (bQ (cP hr.units) (aj (i := 2) rfl (by walk_at "v")) aU (nomark _)) (aW (s_ret (cM (au (aj (i := 2) rfl (by walk_at "v")) (au (aj (i := 3) rfl (by walk_at "v")) (au (bU (tU.bB xT ct (Bd.all (n := 2) (ks := []) (is := List.range 2) (fun _ _ _ _ _ _ us ws h1 h2 => match us, ws, h1, h2 with | [_, _], [], _, _ => rfl))) (by rfl) T.rA.gl T.rA.kp (au (aj (i := 0) rfl (by walk_at "v")) (au (iK (au (cM (au aU aJ)) (au (cM (au aU aJ)) aJ))) aJ))) aJ)))))) cD)
    (aW (s_ret (cM (au (aj (i := 2) rfl (by walk_at "v")) (au (dY m9 (aj (i := 3) rfl (by walk_at "v")) (dY yO (bU (fZ.bB iZ ct (Bd.all (n := 2) (ks := []) (is := List.range 2) (fun _ _ _ _ _ _ us ws h1 h2 => match us, ws, h1, h2 with | [_, _], [], _, _ => rfl))) (by rfl) T.fD.gl T.fD.kp (au (aj (i := 0) rfl (by walk_at "v")) (au aR aJ))) aR)) aJ)))))))))
def pJ : Mn := body 2 3
    (O7 2 jx (aZ (cA (bY (aG jW (gQ rW "see" 1 dh (ao 0) (aq (ao 1) aA)) (eC .non))) (bK (eC (.str ""))) bV)
    (bK (eC (.str "other")))) (abT [(xF "at"), (xF "why")]))
theorem Gk (T : Top w K mg) : Fd P w K mg base (7 + 1) (He.ga K "_law_seen") "_law_seen" "_law_seen" sY [] [] ["_law_watch", "_law_row_here"] pJ := by
  refine Fd.of T.Ey.dn Q7 (fun cdv A outer s H E hr hG => ?_)
  have ct : bZ (cxOf (L2.CX P w) P w K mg base ["_law_watch", "_law_row_here", "e"] "_law_seen" (defScope sY) (He.ga K "_law_seen") cdv A outer s H E) (fun c d _ H' => E c d H') := bZ.def_ hG
  have qp := qp (P := P) (base := base) T
  have xU : Room 7 _ := hr.mono (by first | decide | omega)
  exact (aW (ahP (i := 2) (exm := jx) ct rfl rfl Q7.nd rfl rfl ⟨by rfl, by decide, .inl T.U4⟩ (Sd T) (fun W pn xe ct2 => (aV (s_if (bQ BR (rQ (cs := rW) (abh T) (qp.bB xU ct2 (Bd.all (n := 2) (ks := []) (is := List.range 2) (fun _ _ _ _ _ _ us ws h1 h2 => match us, ws, h1, h2 with | [_, _], [], _, _ => rfl))) (aj (i := 0) rfl (by walk_at "v")) (au (aj (i := 1) rfl (by walk_at "v")) aJ)) fH (nomark _)) (aW (s_ret aU)) cD)
    (aW (s_ret aU)))) (fun a oe cls d pn hz hf => (ajx (aa4 (afz (i := 2) (Z0 T) hz hf rfl (by walk_at "v")) (aa4 (afz (i := 2) (Sq T) hz hf rfl (by walk_at "v")) ahO)) (by decide)))))
def Af : Mn := body 1 11
    (aZ (bO (aY 1 0 nZ (aq (aY 2 0 qu (aq (ao 0) (aq (eC (.int (0))) aA)) aA) aA) aA) (gName 1))
    (aZ (bO (bH cC (aq (aY 1 0 uY (aq (ao 1) aA) aA) (aq (aY 1 0 uY (aq (ao 1) aA) aA) aA))) (gName 2))
    (aZ (bO (aY 0 1 (qI "Watch" fun ds => oR (GB.picked (ds ++ [.non]) [0, 2, 1])) aA (aq (aG cW (aY 2 0 fK (aq (ao 1) (aq (eC (.int (2))) aA)) aA) (eC (.int (0)))) aA)) (gName 3))
    (aZ (bO (bH dR (aq (aY 1 0 pH (aq (eC .non) aA) aA) aA)) (gName 4))
    (aZ (jG (jd Qq (aq (aG dF (eC (.int (2))) (aY 2 0 fK (aq (ao 1) (aq (eC (.int (3))) aA)) aA)) aA)) (gName 5) (aZ (eE (j8 "list" FQ (ao 4) (aq (aY 1 0 pH (aq (aY 2 0 qC (aq (ao 1) (aq (ao 2) aA)) aA) aA) aA) aA)))
    (cA (bY (aG fQ (gQ rW "see" 1 dh (ao 3) (aq (bH bL (aq (eC (.str "begun")) (aq (aG je (bH fJ (aq (ao 4) aA)) (eC (.int (1)))) (aq (eC (.int (0))) (aq (aG bD (aG bD (ao 4) (pU abP (eC (.int (1))))) (eC (.str "name"))) (aq (eC (.int (0))) aA)))))) aA)) (eC .non))) (bK (eC (.bl false))) bV)))
    (aZ (bO (aG je (bH fJ (aq (ao 4) aA)) (eC (.int (1)))) (gName 6))
    (aZ (jG (fX (aG dF (ni (ao 0) (fO (eC (.int (1)))) (fO (eC (.int (41))))) (bH cC (aq (eC (.int (0))) (aq (eC (.int (1))) (aq (eC (.int (2))) aA)))))) (gName 7) (aZ (bO (aY 1 0 nZ (aq (ao 7) aA) aA) (gName 8))
    (aZ (bO (aY 2 0 tV (aq (ao 8) (aq (bH fJ (aq (ao 4) aA)) aA)) aA) (gName 9))
    (aZ (bO (aY 2 0 uZ (aq (ao 4) (aq (ao 9) aA)) aA) (gName 10))
    (aZ (cA (bY (aG jX (aY 2 0 pJ (aq (ao 3) (aq (ao 9) aA)) aA) (aG bD (bH cC (aq (eC (.str "")) (aq (bH bL (aq (ao 6) (aq (ao 10) aA))) aA))) (bH jj (aq (aG jX (ao 10) (eC (.str ""))) aA))))) (bK (eC (.bl false))) bV)
    (aZ (cA (bY (aG cW (ao 10) (eC (.str "")))) (eE (aY 2 0 tH (aq (ao 4) (aq (ao 9) aA)) aA)) bV)
    (bO (aG dF (ao 6) (eC (.int (1)))) (gName 6))))))))
    (bK (aG cW (gQ DP "seen" 0 lM (ao 3) aA) (ao 6))))))))))
theorem ajG (T : Top w K mg) : Fd P w K mg base (8 + 1) (He.ga K "law") "law" "law" qZ [] [] ["_law_script"] Af := by
  refine Fd.of T.abG.dn pQ (fun cdv A outer s H E hr hG => ?_)
  have ct : bZ (cxOf (L2.CX P w) P w K mg base ["_law_script", "_law_well_here", "_law_names", "_law_watch", "_law_tasks", "_law_k", "_law_ahead", "_law_cell", "_law_teller", "_law_row_here", "_law_why"] "law" (defScope qZ) (He.ga K "law") cdv A outer s H E) (fun c d _ H' => E c d H') := bZ.def_ hG
  have xH := xH (P := P) (base := base) T
  have Tf : Room 1 _ := hr.mono (by first | decide | omega)
  have Gj := Gj (P := P) (base := base) T
  have adC : Room 1 _ := hr.mono (by first | decide | omega)
  have Gk := Gk (P := P) (base := base) T
  have adD : Room 8 _ := hr.mono (by first | decide | omega)
  have QM := QM (P := P) (base := base) T
  have aeP : Room 3 _ := hr.mono (by first | decide | omega)
  have QS := QS (P := P) (base := base) T
  have aeQ : Room 3 _ := hr.mono (by first | decide | omega)
  have Ab := Ab (P := P) (base := base) T
  have Ru : Room 1 _ := hr.mono (by first | decide | omega)
  have fZ := fZ (P := P) (base := base) T
  have iZ : Room 1 _ := hr.mono (by first | decide | omega)
  have qp := qp (P := P) (base := base) T
  have xU : Room 7 _ := hr.mono (by first | decide | omega)
  have Ad := Ad (P := P) (base := base) T
  have Rv : Room 1 _ := hr.mono (by first | decide | omega)
  have tU := tU (P := P) (base := base) T
  have xT : Room 2 _ := hr.mono (by first | decide | omega)
  have xG := xG (P := P) (base := base) T
  have agL : Room 4 _ := hr.mono (by first | decide | omega)
  have QT : Room (4 + 1) _ := hr.mono (by first | decide | omega)
  have Ac := Ac (P := P) (base := base) T
  have Rx : Room 2 _ := hr.mono (by first | decide | omega)
  have yJ := yJ (P := P) (base := base) T
  have Z8 : Room 1 _ := hr.mono (by first | decide | omega)
  exact (aV (s_asg (bU (Ab.bB Ru ct (Bd.all (n := 1) (ks := []) (is := List.range 1) (fun _ _ _ _ _ _ us ws h1 h2 => match us, ws, h1, h2 with | [_], [], _, _ => rfl))) (by rfl) T.wB.gl T.wB.kp (au (bU (yJ.bB Z8 ct (Bd.all (n := 2) (ks := []) (is := List.range 2) (fun _ _ _ _ _ _ us ws h1 h2 => match us, ws, h1, h2 with | [_, _], [], _, _ => rfl))) (by rfl) T.yD.gl T.yD.kp (au (aj (i := 0) rfl (by walk_at "v")) (au aR aJ))) aJ)) (bW (i := 1) pQ.nd rfl (by walk_at "w")))
    (aV (s_asg (iK (au (bU (Ac.bB Rx ct (Bd.all (n := 1) (ks := []) (is := List.range 1) (fun _ _ _ _ _ _ us ws h1 h2 => match us, ws, h1, h2 with | [_], [], _, _ => rfl))) (by rfl) T.wC.gl T.wC.kp (au (aj (i := 1) rfl (by walk_at "v")) aJ)) (au (bU (Ac.bB Rx ct (Bd.all (n := 1) (ks := []) (is := List.range 1) (fun _ _ _ _ _ _ us ws h1 h2 => match us, ws, h1, h2 with | [_], [], _, _ => rfl))) (by rfl) T.wC.gl T.wC.kp (au (aj (i := 1) rfl (by walk_at "v")) aJ)) aJ))) (bW (i := 2) pQ.nd rfl (by walk_at "w")))
    (aV (s_asg (aeo (xG.makes T.aaQ QT ct (Bd.kwo (x := "__init__") (q := "Watch.__init__") (st := jD) (kws := [("things", .non), ("raw", .bl false)]) (ps := ["self", "things", "raw"]) (n := 1) (ks := ["raw"]) (is := [0, 2, 1]) [("things", .non)] (by decide) (by decide) (fun _ _ _ _ _ _ us mv ws h1 h2 h3 => match us, mv, ws, h1, h2, h3 with | [_], [_], [_], _, _, _ => ⟨_, _, _, _, _, _, rfl, rfl, rfl⟩)) (dd := [.non]) (fun _ _ => (.cons .non .nil))) (by rfl) T.afW T.aaQ.kp (Bx (dO (cP hr.units) (bU (fZ.bB iZ ct (Bd.all (n := 2) (ks := []) (is := List.range 2) (fun _ _ _ _ _ _ us ws h1 h2 => match us, ws, h1, h2 with | [_, _], [], _, _ => rfl))) (by rfl) T.fD.gl T.fD.kp (au (aj (i := 1) rfl (by walk_at "v")) (au aR aJ))) aR (nomark _)) abJ)) (bW (i := 3) pQ.nd rfl (by walk_at "w")))
    (aV (s_asg (O4 (au (bU (Ad.bB Rv ct (Bd.all (n := 1) (ks := []) (is := List.range 1) (fun _ _ _ _ _ _ us ws h1 h2 => match us, ws, h1, h2 with | [_], [], _, _ => rfl))) (by rfl) T.wD.gl T.wD.kp (au fH aJ)) aJ)) (bW (i := 4) pQ.nd rfl (by walk_at "w")))
    (aV (abM ct.po rfl (ac7 (by rfl) T.aaR (au (dY m9 aR (bU (fZ.bB iZ ct (Bd.all (n := 2) (ks := []) (is := List.range 2) (fun _ _ _ _ _ _ us ws h1 h2 => match us, ws, h1, h2 with | [_, _], [], _, _ => rfl))) (by rfl) T.fD.gl T.fD.kp (au (aj (i := 1) rfl (by walk_at "v")) (au aR aJ)))) aJ)) (bW (i := 5) pQ.nd rfl (by walk_at "w")) (aV (wI (aey (aj (i := 4) rfl (by walk_at "v")) (au (bU (Ad.bB Rv ct (Bd.all (n := 1) (ks := []) (is := List.range 1) (fun _ _ _ _ _ _ us ws h1 h2 => match us, ws, h1, h2 with | [_], [], _, _ => rfl))) (by rfl) T.wD.gl T.wD.kp (au (bU (tU.bB xT ct (Bd.all (n := 2) (ks := []) (is := List.range 2) (fun _ _ _ _ _ _ us ws h1 h2 => match us, ws, h1, h2 with | [_, _], [], _, _ => rfl))) (by rfl) T.rA.gl T.rA.kp (au (aj (i := 1) rfl (by walk_at "v")) (au (aj (i := 2) rfl (by walk_at "v")) aJ))) aJ)) aJ)))
    (aW (s_if (bQ sJ (rQ (cs := rW) (abh T) (qp.bB xU ct (Bd.all (n := 2) (ks := []) (is := List.range 2) (fun _ _ _ _ _ _ us ws h1 h2 => match us, ws, h1, h2 with | [_, _], [], _, _ => rfl))) (aj (i := 3) rfl (by walk_at "v")) (au (cM (au aU (au (dY Ub (jY (id := "len") sO (by rfl) T.sE (by decide +kernel) (au (aj (i := 4) rfl (by walk_at "v")) aJ)) aR) (au aR (au (aX hr.units (aX hr.units (aj (i := 4) rfl (by walk_at "v")) (akW aju aR) (fun _ _ => rfl)) aU (fun _ _ => rfl)) (au aR aJ)))))) aJ)) fH (nomark _)) (aW (s_ret tD)) cD))))
    (aV (s_asg (dY Ub (jY (id := "len") sO (by rfl) T.sE (by decide +kernel) (au (aj (i := 4) rfl (by walk_at "v")) aJ)) aR) (bW (i := 6) pQ.nd rfl (by walk_at "w")))
    (aV (abM ct.po rfl (zF (dY m9 (Qu (aj (i := 0) rfl (by walk_at "v")) (wM aR) (wM aR)) (iK (au aR (au aR (au aR aJ)))))) (bW (i := 7) pQ.nd rfl (by walk_at "w")) (aV (s_asg (bU (Ab.bB Ru ct (Bd.all (n := 1) (ks := []) (is := List.range 1) (fun _ _ _ _ _ _ us ws h1 h2 => match us, ws, h1, h2 with | [_], [], _, _ => rfl))) (by rfl) T.wB.gl T.wB.kp (au (aj (i := 7) rfl (by walk_at "v")) aJ)) (bW (i := 8) pQ.nd rfl (by walk_at "w")))
    (aV (s_asg (bU (QS.bB aeQ ct (Bd.all (n := 2) (ks := []) (is := List.range 2) (fun _ _ _ _ _ _ us ws h1 h2 => match us, ws, h1, h2 with | [_, _], [], _, _ => rfl))) (by rfl) T.Qg.gl T.Qg.kp (au (aj (i := 8) rfl (by walk_at "v")) (au (jY (id := "len") sO (by rfl) T.sE (by decide +kernel) (au (aj (i := 4) rfl (by walk_at "v")) aJ)) aJ))) (bW (i := 9) pQ.nd rfl (by walk_at "w")))
    (aV (s_asg (bU (QM.bB aeP ct (Bd.all (n := 2) (ks := []) (is := List.range 2) (fun _ _ _ _ _ _ us ws h1 h2 => match us, ws, h1, h2 with | [_, _], [], _, _ => rfl))) (by rfl) T.Qe.gl T.Qe.kp (au (aj (i := 4) rfl (by walk_at "v")) (au (aj (i := 9) rfl (by walk_at "v")) aJ))) (bW (i := 10) pQ.nd rfl (by walk_at "w")))
    (aV (s_if (bQ (pD hr.units) (bU (Gk.bB adD ct (Bd.all (n := 2) (ks := []) (is := List.range 2) (fun _ _ _ _ _ _ us ws h1 h2 => match us, ws, h1, h2 with | [_, _], [], _, _ => rfl))) (by rfl) T.Ey.gl T.Ey.kp (au (aj (i := 3) rfl (by walk_at "v")) (au (aj (i := 9) rfl (by walk_at "v")) aJ))) (aX hr.units (iK (au aU (au (cM (au (aj (i := 6) rfl (by walk_at "v")) (au (aj (i := 10) rfl (by walk_at "v")) aJ))) aJ))) (O5 abS (by rfl) T.Tr (by decide +kernel) (au (dO (pD hr.units) (aj (i := 10) rfl (by walk_at "v")) aU (nomark _)) aJ)) (fun _ _ => rfl)) (nomark _)) (aW (s_ret tD)) cD)
    (aV (s_if (bQ (cP hr.units) (aj (i := 10) rfl (by walk_at "v")) aU (nomark _)) (aW (wI (bU (Gj.bB adC ct (Bd.all (n := 2) (ks := []) (is := List.range 2) (fun _ _ _ _ _ _ us ws h1 h2 => match us, ws, h1, h2 with | [_, _], [], _, _ => rfl))) (by rfl) T.Ew.gl T.Ew.kp (au (aj (i := 4) rfl (by walk_at "v")) (au (aj (i := 9) rfl (by walk_at "v")) aJ))))) cD)
    (aW (s_asg (dY m9 (aj (i := 6) rfl (by walk_at "v")) aR) (bW (i := 6) pQ.nd rfl (by walk_at "w"))))))))))
    (aW (s_ret (dO (cP hr.units) (af7 (cs := DP) (aeK T) (xH.bB Tf ct (Bd.all (n := 1) (ks := []) (is := List.range 1) (fun _ _ _ _ _ _ us ws h1 h2 => match us, ws, h1, h2 with | [_], [], _, _ => rfl))) (aj (i := 3) rfl (by walk_at "v"))) (aj (i := 6) rfl (by walk_at "v")) (nomark _)))))))))))
end
end cY
end
local macro_rules | `(tactic| wp_walk using "ev") => `(tactic| simp only [PD.body, PD.aZ, PD.cA, PD.bK, PD.jg, PD.bV, PD.eE, PD.bO, PD.jG, PD.aG, PD.pU, PD.eC, PD.ao, PD.bH, PD.aA, PD.aq, PD.eO, PD.oG, PD.gY, PD.qG, PD.eU, PD.dX, PD.bY, PD.fV, PD.mW, PD.fW, PD.fG, PD.gH, PD.aY, PD.gName, PD.gNil, PD.gCons, PD.eG, PD.gj, PD.jh, PD.jQ, PD.j8, PD.ni, PD.oh, PD.fO, PD.fX, PD.items, PD.jd, PD.jH, PD.dN, PD.eX, PD.Res.d7, PD.Res.dG, PD.Res.iJ, PD.Res.gA, PD.RS.gD, PD.RS.gG, PD.RS.eV, PD.dH, Option.map_some, PD.dF, PD.je, PD.mulM, PD.fM, PD.iD, PD.jf, PD.qJ, PD.oK, PD.oY, PD.oM, PD.lY, PD.fJ, PD.bL, PD.cC, PD.dR, PD.jW, PD.fQ, PD.isNon, List.length_cons, List.length_nil, Nat.zero_add, Nat.reduceAdd, Nat.reduceSub, Nat.reduceLeDiff, List.map_cons, List.map_nil, List.append_nil, List.nil_append, List.cons_append, List.replicate_succ, List.replicate_zero, List.getElem?_cons_zero, List.getElem?_cons_succ, List.set_set, List.set_cons_zero, List.set_cons_succ, ↓reduceIte, and_self, if_true, decide_true, decide_false, PD.at0, PD.at1, PD.at2, PD.mj, PD.mD, Bool.false_eq_true, if_false, and_true, true_and, beq_self_eq_true, Bool.not_true, Bool.not_false, PD.eY, PD.eZ, PD.fj, String.reduceEq])
local macro_rules | `(tactic| wp_walk using "ev", $rs,*) => `(tactic| simp only [PD.body, PD.aZ, PD.cA, PD.bK, PD.jg, PD.bV, PD.eE, PD.bO, PD.jG, PD.aG, PD.pU, PD.eC, PD.ao, PD.bH, PD.aA, PD.aq, PD.eO, PD.oG, PD.gY, PD.qG, PD.eU, PD.dX, PD.bY, PD.fV, PD.mW, PD.fW, PD.fG, PD.gH, PD.aY, PD.gName, PD.gNil, PD.gCons, PD.eG, PD.gj, PD.jh, PD.jQ, PD.j8, PD.ni, PD.oh, PD.fO, PD.fX, PD.items, PD.jd, PD.jH, PD.dN, PD.eX, PD.Res.d7, PD.Res.dG, PD.Res.iJ, PD.Res.gA, PD.RS.gD, PD.RS.gG, PD.RS.eV, PD.dH, Option.map_some, PD.dF, PD.je, PD.mulM, PD.fM, PD.iD, PD.jf, PD.qJ, PD.oK, PD.oY, PD.oM, PD.lY, PD.fJ, PD.bL, PD.cC, PD.dR, PD.jW, PD.fQ, PD.isNon, List.length_cons, List.length_nil, Nat.zero_add, Nat.reduceAdd, Nat.reduceSub, Nat.reduceLeDiff, List.map_cons, List.map_nil, List.append_nil, List.nil_append, List.cons_append, List.replicate_succ, List.replicate_zero, List.getElem?_cons_zero, List.getElem?_cons_succ, List.set_set, List.set_cons_zero, List.set_cons_succ, ↓reduceIte, and_self, if_true, decide_true, decide_false, PD.at0, PD.at1, PD.at2, PD.mj, PD.mD, Bool.false_eq_true, if_false, and_true, true_and, beq_self_eq_true, Bool.not_true, Bool.not_false, PD.eY, PD.eZ, PD.fj, String.reduceEq, $[$rs:term],*])
local macro_rules | `(tactic| wp_walk using "ex") => `(tactic| simp only [PD.body, PD.aZ, PD.cA, PD.bK, PD.jg, PD.bV, PD.eE, PD.bO, PD.jG, PD.aG, PD.pU, PD.eC, PD.ao, PD.bH, PD.aA, PD.aq, PD.eO, PD.oG, PD.gY, PD.qG, PD.eU, PD.dX, PD.bY, PD.fV, PD.mW, PD.fW, PD.fG, PD.gH, PD.aY, PD.gName, PD.gNil, PD.gCons, PD.eG, PD.gj, PD.jh, PD.jQ, PD.j8, PD.ni, PD.oh, PD.fO, PD.fX, PD.items, PD.jd, PD.jH, PD.dN, PD.eX, PD.Res.d7, PD.Res.dG, PD.Res.iJ, PD.Res.gA, PD.RS.gD, PD.RS.gG, PD.RS.eV, PD.dH, Option.map_some, PD.dF, PD.je, PD.mulM, PD.fM, PD.iD, PD.jf, PD.qJ, PD.oK, PD.oY, PD.oM, PD.lY, PD.fJ, PD.bL, PD.cC, PD.dR, PD.jW, PD.fQ, PD.isNon, List.length_cons, List.length_nil, Nat.zero_add, Nat.reduceAdd, Nat.reduceSub, Nat.reduceLeDiff, List.map_cons, List.map_nil, List.append_nil, List.nil_append, List.cons_append, List.replicate_succ, List.replicate_zero, List.getElem?_cons_zero, List.getElem?_cons_succ, List.set_set, List.set_cons_zero, List.set_cons_succ, ↓reduceIte, and_self, if_true, decide_true, decide_false, PD.at0, PD.at1, PD.at2, PD.mj, PD.mD, Bool.false_eq_true, if_false, and_true, true_and, beq_self_eq_true, Bool.not_true, Bool.not_false, PD.eY, PD.eZ, PD.fj, String.reduceEq, PD.bD, PD.inX, PD.vK, PD.uo, PD.uw, PD.inB, PD.toV, PD.qD, PD.mK, PD.mO, PD.pY, PD.kY, PD.mJ, PD.kZ, PD.lu, PD.iQ, PD.tE, PD.keyOf, PD.jT, PD.jR, Option.bind_some, Option.map_none, Option.bind_none, PD.jZ, PD.Ao, PD.Aq, Option.isSome_some, Option.isSome_none, Bool.or_false, Bool.false_or, Bool.true_or, Bool.or_true, Option.getD_some, Option.getD_none, PD.pF, PD.nj, Bool.or_self])
local macro_rules | `(tactic| wp_walk using "ex", $rs,*) => `(tactic| simp only [PD.body, PD.aZ, PD.cA, PD.bK, PD.jg, PD.bV, PD.eE, PD.bO, PD.jG, PD.aG, PD.pU, PD.eC, PD.ao, PD.bH, PD.aA, PD.aq, PD.eO, PD.oG, PD.gY, PD.qG, PD.eU, PD.dX, PD.bY, PD.fV, PD.mW, PD.fW, PD.fG, PD.gH, PD.aY, PD.gName, PD.gNil, PD.gCons, PD.eG, PD.gj, PD.jh, PD.jQ, PD.j8, PD.ni, PD.oh, PD.fO, PD.fX, PD.items, PD.jd, PD.jH, PD.dN, PD.eX, PD.Res.d7, PD.Res.dG, PD.Res.iJ, PD.Res.gA, PD.RS.gD, PD.RS.gG, PD.RS.eV, PD.dH, Option.map_some, PD.dF, PD.je, PD.mulM, PD.fM, PD.iD, PD.jf, PD.qJ, PD.oK, PD.oY, PD.oM, PD.lY, PD.fJ, PD.bL, PD.cC, PD.dR, PD.jW, PD.fQ, PD.isNon, List.length_cons, List.length_nil, Nat.zero_add, Nat.reduceAdd, Nat.reduceSub, Nat.reduceLeDiff, List.map_cons, List.map_nil, List.append_nil, List.nil_append, List.cons_append, List.replicate_succ, List.replicate_zero, List.getElem?_cons_zero, List.getElem?_cons_succ, List.set_set, List.set_cons_zero, List.set_cons_succ, ↓reduceIte, and_self, if_true, decide_true, decide_false, PD.at0, PD.at1, PD.at2, PD.mj, PD.mD, Bool.false_eq_true, if_false, and_true, true_and, beq_self_eq_true, Bool.not_true, Bool.not_false, PD.eY, PD.eZ, PD.fj, String.reduceEq, PD.bD, PD.inX, PD.vK, PD.uo, PD.uw, PD.inB, PD.toV, PD.qD, PD.mK, PD.mO, PD.pY, PD.kY, PD.mJ, PD.kZ, PD.lu, PD.iQ, PD.tE, PD.keyOf, PD.jT, PD.jR, Option.bind_some, Option.map_none, Option.bind_none, PD.jZ, PD.Ao, PD.Aq, Option.isSome_some, Option.isSome_none, Bool.or_false, Bool.false_or, Bool.true_or, Bool.or_true, Option.getD_some, Option.getD_none, PD.pF, PD.nj, Bool.or_self, $[$rs:term],*])
noncomputable section
namespace cY
open PySem PySem.Spec PyProof.Rows L2 PD
def Well (n : Nat) (h : AH) (k : Nat) : Prop := ∃ a b c : Int, h[n]? = some (.lst [.int a, .int b, .int c]) ∧ 0 ≤ b ∧ b < 2147483647 ∧ 0 ≤ c ∧ c ≤ k
def Fr (n : Nat) (h h' : AH) : Prop := ∃ x, h' = h.set n x
theorem Fr.trans {n : Nat} {h h1 h2 : AH} (a : Fr n h h1) (b : Fr n h1 h2) : Fr n h h2 := by
  obtain ⟨x, rfl⟩ := a
  obtain ⟨y, rfl⟩ := b
  exact ⟨y, by rw [List.set_set]⟩
theorem lg {i : Int} {k : Nat} (h0 : 0 ≤ i) (h : i < 2 ^ k) : i.natAbs.log2 ≤ k := by
  by_cases z : i.natAbs = 0
  · rw [z]
    exact Nat.zero_le _
  · apply Nat.le_of_lt
    rw [Nat.log2_lt z]
    have e : (i.natAbs : Int) = i := Int.natAbs_of_nonneg h0
    have : (i.natAbs : Int) < ((2 ^ k : Nat) : Int) := by
      rw [e]
      push_cast
      exact h
    exact Int.ofNat_lt.mp this
theorem Well.lt {n k : Nat} {h : AH} (w : Well n h k) : n < h.length := by
  obtain ⟨a, b, c, e, _⟩ := w
  exact (List.getElem?_eq_some_iff.mp e).1
theorem Well.mono {n j k : Nat} {h : AH} (w : Well n h j) (l : j ≤ k) : Well n h k := by
  obtain ⟨a, b, c, e1, b0, b1, c0, c1⟩ := w
  exact ⟨a, b, c, e1, b0, b1, c0, by omega⟩
theorem abj (c : Int) (h : AH) : ∃ h', nZ [.int c] h = .ok (.ref h.length) h' ∧ Well h.length h' 0 ∧ ∃ x, h' = h ++ [x] := by
  have p : (0 : Int) < 2147483647 := by decide
  have b0 := Int.emod_nonneg c (show (2147483647 : Int) ≠ 0 by decide)
  have b1 := Int.emod_lt_of_pos c p
  have pw : (0 : Int) ≤ 18 ∧ (18 : Int) ≤ 1000000 ∧ (10 : Int).natAbs < 2 ^ 64 := by decide
  have s0 : (decide (-(2 ^ 64) < (0 : Int) ∧ (0 : Int) < 2 ^ 64)) = true := by decide
  have s1 : (decide (-(2 ^ 64) < (1 : Int) ∧ (1 : Int) < 2 ^ 64)) = true := by decide
  have wf : ∀ a : Int, Well h.length (h ++ [.lst [.int a, .int (c % 2147483647), .int 0]]) 0 := fun a => ⟨a, c % 2147483647, 0, by simp, b0, b1, by decide, by decide⟩
  by_cases hc : (10 : Int) ^ (18 : Int).toNat ≤ c
  · refine ⟨_, ?_, wf (c * 1), _, rfl⟩
    unfold nZ
    (wp_walk using "ex", aH, pw, hc, jj, s1, p)
  · refine ⟨_, ?_, wf (c * 0), _, rfl⟩
    unfold nZ
    (wp_walk using "ex", aH, pw, hc, jj, s0, p)
theorem rJ {n k : Nat} {h : AH} {m : Int} (w : Well n h k) (hk : k < 2 ^ 40) (hm : 0 < m) (hm2 : m < 2 ^ 200) : ∃ r h', fK [.ref n, .int m] h = .ok (.int r) h' ∧ 0 ≤ r ∧ r < m ∧ Well n h' (k + 1) ∧ Fr n h h' := by
  have hn := w.lt
  obtain ⟨a, b, c, e, b0, b1, c0, c1⟩ := w
  have es : ∀ x, (h.set n x)[n]? = some x := fun x => by rw [List.getElem?_set_self hn]
  by_cases ha : 0 < a
  · have lm : m.natAbs.log2 < 9000 := by have := lg (by omega) hm2; omega
    refine ⟨a % m, h.set n (.lst [.int (a / m), .int b, .int c]), ?_, Int.emod_nonneg _ (by omega), Int.emod_lt_of_pos _ hm, ⟨a / m, b, c, es _, b0, b1, c0, by omega⟩, ⟨_, rfl⟩⟩
    unfold fK
    (wp_walk using "ex", aH, e, ha, hm, lm)
  · have q2 : (1009 : Int).natAbs.log2 < 9000 := by decide +kernel
    have q3 : (2003 : Int).natAbs.log2 < 9000 := by decide +kernel
    have q4 : (7 : Int).natAbs.log2 < 9000 := by decide +kernel
    have p1 : (0 : Int) < 2147483629 := by decide
    have p2 : (0 : Int) < 2147483587 := by decide
    have p3 : (0 : Int) < 2147483579 := by decide
    have p4 : (0 : Int) < 1009 := by decide
    have p5 : (0 : Int) < 2003 := by decide
    have p6 : (0 : Int) < 7 := by decide
    have m1 : (decide (-(2 ^ 64) < (7919 : Int) ∧ (7919 : Int) < 2 ^ 64)) = true := by decide
    have pw : (0 : Int) ≤ 5 ∧ (5 : Int) ≤ 1000000 ∧ (b + 7919 * (c + 1) + 1).natAbs < 2 ^ 64 := ⟨by decide, by decide, by omega⟩
    have x0 := Int.emod_nonneg ((b + 7919 * (c + 1) + 1) ^ (5 : Int).toNat) (show (2147483629 : Int) ≠ 0 by decide)
    have x1 := Int.emod_lt_of_pos ((b + 7919 * (c + 1) + 1) ^ (5 : Int).toNat) p1
    generalize hx : (b + 7919 * (c + 1) + 1) ^ (5 : Int).toNat % 2147483629 = x at x0 x1
    have m2 : (decide (-(2 ^ 64) < x ∧ x < 2 ^ 64)) = true := decide_eq_true ⟨by omega, by omega⟩
    have y0 := Int.emod_nonneg (x * (x / 1009 + 69621 + (c + 1))) (show (2147483587 : Int) ≠ 0 by decide)
    have y1 := Int.emod_lt_of_pos (x * (x / 1009 + 69621 + (c + 1))) p2
    generalize hy : x * (x / 1009 + 69621 + (c + 1)) % 2147483587 = y at y0 y1
    have m3 : (decide (-(2 ^ 64) < y ∧ y < 2 ^ 64)) = true := decide_eq_true ⟨by omega, by omega⟩
    refine ⟨y * (y / 2003 + 40692) % 2147483579 / 7 % m, h.set n (.lst [.int a, .int b, .int (c + 1)]), ?_, Int.emod_nonneg _ (by omega), Int.emod_lt_of_pos _ hm, ⟨a, b, c + 1, es _, b0, b1, by omega, by omega⟩, ⟨_, rfl⟩⟩
    unfold fK
    (wp_walk using "ex", aH, e, ha, es, hm, q2, q3, q4, p1, p2, p3, p4, p5, p6, m1, pw, hx, m2, hy, m3)
theorem abk {α : Type} {ds : List α} {r : Int} (h0 : 0 ≤ r) (h1 : r < ds.length) : ∃ d ∈ ds, atI ds r = some d := by
  have hr : r.toNat < ds.length := by omega
  refine ⟨ds[r.toNat], List.getElem_mem hr, ?_⟩
  unfold atI ixN
  rw [if_pos h0, if_pos h1]
  show ds[r.toNat]? = _
  exact List.getElem?_eq_getElem hr
theorem DQ {n k : Nat} {h : AH} {ds : List D} (w : Well n h k) (hk : k < 2 ^ 40) (hne : 0 < ds.length) (hl : ds.length < 1000) : ∃ d h', qC [.ref n, .lst ds] h = .ok d h' ∧ d ∈ ds ∧ Well n h' (k + 1) ∧ Fr n h h' := by
  obtain ⟨r, h', e, r0, r1, w', f⟩ := rJ (m := (ds.length : Nat)) w hk (by omega) (by omega)
  obtain ⟨d, hd, ea⟩ := abk r0 r1
  refine ⟨d, h', ?_, hd, w', f⟩
  unfold qC
  (wp_walk using "ex", aH, e, ea)
def lets : List Nat := ("abcdefghijklmnopqrstuvwxyz" : Str).cps.toList
def Lw (z : Str) : Prop := ∀ c ∈ z.cps.toList, c ∈ lets
def Nm (z : Str) : Prop := Lw z ∧ 1 ≤ z.length ∧ z.length ≤ 8
theorem Z9 : ("abcdefghijklmnopqrstuvwxyz" : Str).length = 26 := by decide +kernel
theorem ah8 {c : Nat} (h : c ∈ lets) : Lw ⟨#[c]⟩ := fun d hd => by
  have e : d = c := List.mem_singleton.mp hd
  exact e ▸ h
def wlc : ME := (aG bD (ao 1) (aY 2 0 fK (aq (ao 0) (aq (eC (.int (26))) aA)) aA))
theorem Pq {n : Nat} : ∀ (ds acc : List D) (h : AH) (k : Nat), Well n h k → k + ds.length < 2 ^ 40 → acc.length + ds.length < 1000 →
    ∃ (ys : List Str) (h' : AH), cQ (PD.gName 2) fG wlc [2] [some (.ref n), some (.str "abcdefghijklmnopqrstuvwxyz"), none] acc ds h = .ok (acc ++ ys.map D.str) h' ∧
      (∀ y ∈ ys, Lw y ∧ y.length = 1) ∧ ys.length = ds.length ∧ Well n h' (k + ds.length) ∧ Fr n h h'
  | [], acc, h, k, w, _, _ => ⟨[], h, by simp only [cQ, List.map_nil, List.append_nil], by simp, rfl, w, ⟨_, (List.set_getElem_self w.lt).symm⟩⟩
  | d :: ds, acc, h, k, w, hk, hl => by
    simp only [List.length_cons] at hk hl
    obtain ⟨r, h1, e, r0, r1, w1, f1⟩ := rJ (m := 26) w (by omega) (by decide) (by decide)
    obtain ⟨c, hc, ea⟩ := abk (ds := ("abcdefghijklmnopqrstuvwxyz" : Str).cps.toList) r0 (by rw [← GB.str_len, Z9]; exact r1)
    obtain ⟨ys, h2, e2, o2, l2, w2, f2⟩ := Pq ds (acc ++ [.str ⟨#[c]⟩]) h1 (k + 1) w1 (by omega) (by simp only [List.length_append, List.length_cons, List.length_nil]; omega)
    have la : acc.length < 16777216 := by omega
    have l26 : ("abcdefghijklmnopqrstuvwxyz" : Str).length ≤ 16777216 := by rw [Z9]; decide
    refine ⟨⟨#[c]⟩ :: ys, h2, ?_, ?_, by simp [l2], by rw [List.length_cons, show k + (ds.length + 1) = k + 1 + ds.length by omega]; exact w2, f1.trans f2⟩
    · unfold cQ wlc
      (wp_walk using "ex", aH, e, ea, la, l26)
      rw [show (aG bD (ao 1) (aY 2 0 fK (aq (ao 0) (aq (eC (.int (26))) aA)) aA)) = wlc from rfl, e2, List.append_assoc]
      rfl
    · intro y hy
      rcases List.mem_cons.mp hy with rfl | hy
      · exact ⟨ah8 hc, rfl⟩
      · exact o2 y hy
theorem strs_map : ∀ ys : List Str, strsOf (ys.map D.str) = some ys
  | [] => rfl
  | y :: ys => by
    show (strsOf (ys.map D.str)).map (y :: ·) = _
    rw [strs_map ys]
    rfl
theorem vH (lo : Int) (n : Nat) : (vg lo n).length = n := by simp [vg]
theorem agm {ys : List Str} (h : ∀ y ∈ ys, Lw y) : Lw (Txt.join "" ys) := fun c hc => by
  rw [GB.aaN] at hc
  obtain ⟨l, hl, hc⟩ := List.mem_flatten.mp hc
  obtain ⟨y, hy, rfl⟩ := List.mem_map.mp hl
  exact h y hy c hc
theorem abl {n k : Nat} {h : AH} (w : Well n h k) (hk : k + 10 < 2 ^ 40) : ∃ z h', uY [.ref n] h = .ok (.str z) h' ∧ Nm z ∧ Well n h' (k + 9) ∧ Fr n h h' := by
  obtain ⟨r, h1, e1, r0, r1, w1, f1⟩ := rJ (m := 8) w (by omega) (by decide) (by decide)
  obtain ⟨ys, h', e, o, l, w', f⟩ := Pq (n := n) (vg 0 (1 + r).toNat) [] h1 (k + 1) w1 (by rw [vH]; omega) (by rw [vH, List.length_nil]; omega)
  rw [vH] at l w'
  rw [List.nil_append] at e
  have hr : -(2 ^ 62) ≤ 1 + r ∧ 1 + r < 2 ^ 62 := ⟨by omega, by omega⟩
  have hs : (ys.map (·.length)).sum = ys.length := GB.Uk fun y hy => (o y hy).2
  have hj : (ys.map (·.length)).sum + ys.length * ("" : Str).length ≤ 16777216 := by
    rw [hs, show ("" : Str).length = 0 from rfl]
    omega
  have jl : (Txt.join "" ys).length = ys.length := by rw [GB.ad6, hs]
  refine ⟨Txt.join "" ys, h', ?_, ⟨agm fun y hy => (o y hy).1, by omega, by omega⟩, w'.mono (by omega), f1.trans f⟩
  unfold uY
  unfold wlc at e
  (wp_walk using "ex", aH, e1, Qq, hr, e, isT, joinM, strs_map, hj)
theorem Fr.app {n : Nat} {g t h' : AH} (f : Fr n (g ++ t) h') (hn : n < g.length) : ∃ g', h' = g' ++ t ∧ Fr n g g' ∧ ∀ k, Well n h' k → Well n g' k := by
  obtain ⟨x, rfl⟩ := f
  refine ⟨g.set n x, List.set_append_left _ _ hn, ⟨x, rfl⟩, ?_⟩
  rintro k ⟨a, b, c, e, q⟩
  rw [List.set_append_left _ _ hn, List.getElem?_append_left (by rw [List.length_set]; exact hn)] at e
  exact ⟨a, b, c, e, q⟩
theorem Well.app {n k : Nat} {g : AH} (w : Well n g k) (t : AH) : Well n (g ++ t) k := by
  obtain ⟨a, b, c, e, q⟩ := w
  exact ⟨a, b, c, by rw [List.getElem?_append_left (List.getElem?_eq_some_iff.mp e).1, e], q⟩
theorem Fr.len {n : Nat} {g g' : AH} (f : Fr n g g') : g'.length = g.length := by
  obtain ⟨x, rfl⟩ := f
  rw [List.length_set]
end cY
local macro_rules | `(tactic| wp_walk using "ev") => `(tactic| simp only [PD.body, PD.aZ, PD.cA, PD.bK, PD.jg, PD.bV, PD.eE, PD.bO, PD.jG, PD.aG, PD.pU, PD.eC, PD.ao, PD.bH, PD.aA, PD.aq, PD.eO, PD.oG, PD.gY, PD.qG, PD.eU, PD.dX, PD.bY, PD.fV, PD.mW, PD.fW, PD.fG, PD.gH, PD.aY, PD.gName, PD.gNil, PD.gCons, PD.eG, PD.gj, PD.jh, PD.jQ, PD.j8, PD.ni, PD.oh, PD.fO, PD.fX, PD.items, PD.jd, PD.jH, PD.dN, PD.eX, PD.Res.d7, PD.Res.dG, PD.Res.iJ, PD.Res.gA, PD.RS.gD, PD.RS.gG, PD.RS.eV, PD.dH, Option.map_some, PD.dF, PD.je, PD.mulM, PD.fM, PD.iD, PD.jf, PD.qJ, PD.oK, PD.oY, PD.oM, PD.lY, PD.fJ, PD.bL, PD.cC, PD.dR, PD.jW, PD.fQ, PD.isNon, List.length_cons, List.length_nil, Nat.zero_add, Nat.reduceAdd, Nat.reduceSub, Nat.reduceLeDiff, List.map_cons, List.map_nil, List.append_nil, List.nil_append, List.cons_append, List.replicate_succ, List.replicate_zero, List.getElem?_cons_zero, List.getElem?_cons_succ, List.set_set, List.set_cons_zero, List.set_cons_succ, ↓reduceIte, and_self, if_true, decide_true, decide_false, PD.at0, PD.at1, PD.at2, PD.mj, PD.mD, Bool.false_eq_true, if_false, and_true, true_and, beq_self_eq_true, Bool.not_true, Bool.not_false, PD.eY, PD.eZ, PD.fj, String.reduceEq])
local macro_rules | `(tactic| wp_walk using "ev", $rs,*) => `(tactic| simp only [PD.body, PD.aZ, PD.cA, PD.bK, PD.jg, PD.bV, PD.eE, PD.bO, PD.jG, PD.aG, PD.pU, PD.eC, PD.ao, PD.bH, PD.aA, PD.aq, PD.eO, PD.oG, PD.gY, PD.qG, PD.eU, PD.dX, PD.bY, PD.fV, PD.mW, PD.fW, PD.fG, PD.gH, PD.aY, PD.gName, PD.gNil, PD.gCons, PD.eG, PD.gj, PD.jh, PD.jQ, PD.j8, PD.ni, PD.oh, PD.fO, PD.fX, PD.items, PD.jd, PD.jH, PD.dN, PD.eX, PD.Res.d7, PD.Res.dG, PD.Res.iJ, PD.Res.gA, PD.RS.gD, PD.RS.gG, PD.RS.eV, PD.dH, Option.map_some, PD.dF, PD.je, PD.mulM, PD.fM, PD.iD, PD.jf, PD.qJ, PD.oK, PD.oY, PD.oM, PD.lY, PD.fJ, PD.bL, PD.cC, PD.dR, PD.jW, PD.fQ, PD.isNon, List.length_cons, List.length_nil, Nat.zero_add, Nat.reduceAdd, Nat.reduceSub, Nat.reduceLeDiff, List.map_cons, List.map_nil, List.append_nil, List.nil_append, List.cons_append, List.replicate_succ, List.replicate_zero, List.getElem?_cons_zero, List.getElem?_cons_succ, List.set_set, List.set_cons_zero, List.set_cons_succ, ↓reduceIte, and_self, if_true, decide_true, decide_false, PD.at0, PD.at1, PD.at2, PD.mj, PD.mD, Bool.false_eq_true, if_false, and_true, true_and, beq_self_eq_true, Bool.not_true, Bool.not_false, PD.eY, PD.eZ, PD.fj, String.reduceEq, $[$rs:term],*])
local macro_rules | `(tactic| wp_walk using "ex") => `(tactic| simp only [PD.body, PD.aZ, PD.cA, PD.bK, PD.jg, PD.bV, PD.eE, PD.bO, PD.jG, PD.aG, PD.pU, PD.eC, PD.ao, PD.bH, PD.aA, PD.aq, PD.eO, PD.oG, PD.gY, PD.qG, PD.eU, PD.dX, PD.bY, PD.fV, PD.mW, PD.fW, PD.fG, PD.gH, PD.aY, PD.gName, PD.gNil, PD.gCons, PD.eG, PD.gj, PD.jh, PD.jQ, PD.j8, PD.ni, PD.oh, PD.fO, PD.fX, PD.items, PD.jd, PD.jH, PD.dN, PD.eX, PD.Res.d7, PD.Res.dG, PD.Res.iJ, PD.Res.gA, PD.RS.gD, PD.RS.gG, PD.RS.eV, PD.dH, Option.map_some, PD.dF, PD.je, PD.mulM, PD.fM, PD.iD, PD.jf, PD.qJ, PD.oK, PD.oY, PD.oM, PD.lY, PD.fJ, PD.bL, PD.cC, PD.dR, PD.jW, PD.fQ, PD.isNon, List.length_cons, List.length_nil, Nat.zero_add, Nat.reduceAdd, Nat.reduceSub, Nat.reduceLeDiff, List.map_cons, List.map_nil, List.append_nil, List.nil_append, List.cons_append, List.replicate_succ, List.replicate_zero, List.getElem?_cons_zero, List.getElem?_cons_succ, List.set_set, List.set_cons_zero, List.set_cons_succ, ↓reduceIte, and_self, if_true, decide_true, decide_false, PD.at0, PD.at1, PD.at2, PD.mj, PD.mD, Bool.false_eq_true, if_false, and_true, true_and, beq_self_eq_true, Bool.not_true, Bool.not_false, PD.eY, PD.eZ, PD.fj, String.reduceEq, PD.bD, PD.inX, PD.vK, PD.uo, PD.uw, PD.inB, PD.toV, PD.qD, PD.mK, PD.mO, PD.pY, PD.kY, PD.mJ, PD.kZ, PD.lu, PD.iQ, PD.tE, PD.keyOf, PD.jT, PD.jR, Option.bind_some, Option.map_none, Option.bind_none, PD.jZ, PD.Ao, PD.Aq, Option.isSome_some, Option.isSome_none, Bool.or_false, Bool.false_or, Bool.true_or, Bool.or_true, Option.getD_some, Option.getD_none, PD.pF, PD.nj, Bool.or_self])
local macro_rules | `(tactic| wp_walk using "ex", $rs,*) => `(tactic| simp only [PD.body, PD.aZ, PD.cA, PD.bK, PD.jg, PD.bV, PD.eE, PD.bO, PD.jG, PD.aG, PD.pU, PD.eC, PD.ao, PD.bH, PD.aA, PD.aq, PD.eO, PD.oG, PD.gY, PD.qG, PD.eU, PD.dX, PD.bY, PD.fV, PD.mW, PD.fW, PD.fG, PD.gH, PD.aY, PD.gName, PD.gNil, PD.gCons, PD.eG, PD.gj, PD.jh, PD.jQ, PD.j8, PD.ni, PD.oh, PD.fO, PD.fX, PD.items, PD.jd, PD.jH, PD.dN, PD.eX, PD.Res.d7, PD.Res.dG, PD.Res.iJ, PD.Res.gA, PD.RS.gD, PD.RS.gG, PD.RS.eV, PD.dH, Option.map_some, PD.dF, PD.je, PD.mulM, PD.fM, PD.iD, PD.jf, PD.qJ, PD.oK, PD.oY, PD.oM, PD.lY, PD.fJ, PD.bL, PD.cC, PD.dR, PD.jW, PD.fQ, PD.isNon, List.length_cons, List.length_nil, Nat.zero_add, Nat.reduceAdd, Nat.reduceSub, Nat.reduceLeDiff, List.map_cons, List.map_nil, List.append_nil, List.nil_append, List.cons_append, List.replicate_succ, List.replicate_zero, List.getElem?_cons_zero, List.getElem?_cons_succ, List.set_set, List.set_cons_zero, List.set_cons_succ, ↓reduceIte, and_self, if_true, decide_true, decide_false, PD.at0, PD.at1, PD.at2, PD.mj, PD.mD, Bool.false_eq_true, if_false, and_true, true_and, beq_self_eq_true, Bool.not_true, Bool.not_false, PD.eY, PD.eZ, PD.fj, String.reduceEq, PD.bD, PD.inX, PD.vK, PD.uo, PD.uw, PD.inB, PD.toV, PD.qD, PD.mK, PD.mO, PD.pY, PD.kY, PD.mJ, PD.kZ, PD.lu, PD.iQ, PD.tE, PD.keyOf, PD.jT, PD.jR, Option.bind_some, Option.map_none, Option.bind_none, PD.jZ, PD.Ao, PD.Aq, Option.isSome_some, Option.isSome_none, Bool.or_false, Bool.false_or, Bool.true_or, Bool.or_true, Option.getD_some, Option.getD_none, PD.pF, PD.nj, Bool.or_self, $[$rs:term],*])
noncomputable section
namespace cY
open PySem PySem.Spec PyProof.Rows L2 PD
theorem ga {h l : AH} {k : Nat} : (h ++ l)[h.length + k]? = l[k]? := by
  rw [List.getElem?_append_right (Nat.le_add_right _ _), Nat.add_sub_cancel_left]
theorem ga0 {h l : AH} : (h ++ l)[h.length]? = l[0]? := ga (k := 0)
theorem sa {h l : AH} {k : Nat} {c : Cell} : (h ++ l).set (h.length + k) c = h ++ l.set k c := by
  rw [List.set_append_right _ _ (Nat.le_add_right _ _), Nat.add_sub_cancel_left]
theorem sa0 {h l : AH} {c : Cell} : (h ++ l).set h.length c = h ++ l.set 0 c := sa (k := 0)
theorem pK {x : Str} {v : D} {r : List (Str × D)} : List.lookup x ((x, v) :: r) = some v := by
  simp [List.lookup]
theorem oE {s t : String} {v : D} {r : List (Str × D)} : List.lookup (PySem.Str.ofString s) ((PySem.Str.ofString t, v) :: r) = if s = t then some v else List.lookup (PySem.Str.ofString s) r := by
  by_cases e : s = t
  · subst e
    simp [List.lookup]
  · rw [if_neg e]
    have n : ¬ PySem.Str.ofString s = PySem.Str.ofString t := fun z => e (v8 z)
    have n2 : (PySem.Str.ofString s == PySem.Str.ofString t) = false := by simpa using n
    simp [List.lookup, n2]
theorem oU {s t : String} {v w : D} {r : List (Str × D)} : putD (PySem.Str.ofString s) v ((PySem.Str.ofString t, w) :: r) = if t = s then (PySem.Str.ofString t, v) :: r else (PySem.Str.ofString t, w) :: putD (PySem.Str.ofString s) v r := by
  by_cases e : t = s
  · subst e
    simp [putD]
  · rw [if_neg e]
    have n : ¬ PySem.Str.ofString t = PySem.Str.ofString s := fun z => e (v8 z)
    simp [putD, n]
theorem oV {f : Str} {v : D} : putD f v [] = [(f, v)] := rfl
theorem lW {s t : String} : (PySem.Str.ofString s = PySem.Str.ofString t) = (s = t) := by
  apply propext
  exact ⟨v8, fun z => by rw [z]⟩
theorem pk3 {a b c : D} : GB.picked [a, b, c] [0, 1, 2] = [a, b, c] := rfl
def iT (bg cl en : D) (ow sh : Bool) (sta ha la : D) : List (Str × D) := [("beginner", bg), ("called", cl), ("ending", en), ("owed", .bl ow), ("shut", .bl sh), ("state", sta), ("had", ha), ("lasts", la)]
theorem Ry (h : AH) (bg cl : D) : qI "Seen" (fun ds => kJ (GB.picked (ds ++ []) [0, 1, 2])) [bg, cl] h = .ok (.ref h.length) (h ++ [.ins "Seen" (iT bg cl .non false false (.tup [.str "on"]) (.ref (h.length + 1)) (.ref (h.length + 2))), .lst [], .lst []]) := by
  unfold qI kJ iT
  (wp_walk using "ex", aH, pk3, cH, m7, ab0, abZ, Ph, ga, ga0, sa, sa0, oV, oU, lW, List.append_assoc, List.length_append, List.mem_singleton, Nat.reduceLT)
theorem xV {h : AH} {n : Nat} {c : Cell} (e : h[n]? = some c) : h.set n c = h := by
  obtain ⟨hn, rfl⟩ := List.getElem?_eq_some_iff.mp e
  exact List.set_getElem_self hn
theorem aeR {h : AH} {a b : Nat} (ha : h[a]? = some (.dict [])) (hb : h[b]? = some (.dict [])) : uD [.ref a, .ref b] h = .ok .non h := by
  have la := (List.getElem?_eq_some_iff.mp ha).1
  have lb := (List.getElem?_eq_some_iff.mp hb).1
  have sa1 : ∀ c, (h.set a c)[a]? = some c := fun c => by rw [List.getElem?_set_self la]
  have sb1 : ∀ c, (h.set b c)[b]? = some c := fun c => by rw [List.getElem?_set_self lb]
  unfold uD
  (wp_walk using "ex", aH, vY, ha, hb, itI, sa1, sb1, cQ, allM, lZ, items, cR, xV ha, xV hb, List.all_nil)
def cX (b : Nat) (raw : Bool) (must : D) (many : Int) : List (Str × D) := [("sizes", .ref (b + 4)), ("raw", .bl raw), ("tasks", .ref (b + 5)), ("latest", .ref (b + 9)), ("homes", .ref (b + 10)), ("must", must), ("many", .int many)]
theorem ajH {a b c : D} : GB.picked [a, b, c] [0, 2, 1] = [a, c, b] := rfl
theorem ab9 (h : AH) (raw : Bool) : qI "Watch" (fun ds => oR (GB.picked (ds ++ [.non]) [0, 2, 1])) [.bl raw] h = .ok (.ref h.length) (h ++
    [.ins "Watch" (cX h.length raw .non 0), .dict [], .dict [], .dict [], .dict [], .dict [(.inl 0, .ref (h.length + 6))], .ins "Seen" (iT .non .non .non false false (.tup [.str "on"]) (.ref (h.length + 7)) (.ref (h.length + 8))), .lst [], .lst [], .dict [], .dict []]) := by
  have tn : ∀ h : AH, tTru .non h = .ok false h := fun _ => rfl
  have t1 := aeR (h := h ++ [.ins "Watch" [], .dict [], .dict []]) (a := h.length + 1) (b := h.length + 2) (by rw [ga]; rfl) (by rw [ga]; rfl)
  have s1 := Ry (h ++ [.ins "Watch" [("sizes", .ref (h.length + 4)), ("raw", .bl raw)], .dict [], .dict [], .dict [], .dict [], .dict []]) .non .non
  simp only [List.append_assoc, List.length_append, List.length_cons, List.length_nil, Nat.zero_add, Nat.reduceAdd, Nat.add_assoc, List.cons_append, List.nil_append] at s1
  unfold qI oR cX
  generalize (qI "Seen" fun ds => kJ (GB.picked (ds ++ []) [0, 1, 2])) = S1 at s1 ⊢
  (wp_walk using "ex", aH, ajH, tn, jZ, t1, s1, cH, m7, ga, ga0, sa, sa0, oV, oU, lW, List.append_assoc, List.length_append, List.mem_singleton, Nat.reduceLT, Pj, Pa, BZ, keysOf, BW, List.foldl_cons, List.foldl_nil, Nat.add_assoc, gq, List.any_nil)
end cY
local macro_rules | `(tactic| wp_walk using "ev") => `(tactic| simp only [PD.body, PD.aZ, PD.cA, PD.bK, PD.jg, PD.bV, PD.eE, PD.bO, PD.jG, PD.aG, PD.pU, PD.eC, PD.ao, PD.bH, PD.aA, PD.aq, PD.eO, PD.oG, PD.gY, PD.qG, PD.eU, PD.dX, PD.bY, PD.fV, PD.mW, PD.fW, PD.fG, PD.gH, PD.aY, PD.gName, PD.gNil, PD.gCons, PD.eG, PD.gj, PD.jh, PD.jQ, PD.j8, PD.ni, PD.oh, PD.fO, PD.fX, PD.items, PD.jd, PD.jH, PD.dN, PD.eX, PD.Res.d7, PD.Res.dG, PD.Res.iJ, PD.Res.gA, PD.RS.gD, PD.RS.gG, PD.RS.eV, PD.dH, Option.map_some, PD.dF, PD.je, PD.mulM, PD.fM, PD.iD, PD.jf, PD.qJ, PD.oK, PD.oY, PD.oM, PD.lY, PD.fJ, PD.bL, PD.cC, PD.dR, PD.jW, PD.fQ, PD.isNon, List.length_cons, List.length_nil, Nat.zero_add, Nat.reduceAdd, Nat.reduceSub, Nat.reduceLeDiff, List.map_cons, List.map_nil, List.append_nil, List.nil_append, List.cons_append, List.replicate_succ, List.replicate_zero, List.getElem?_cons_zero, List.getElem?_cons_succ, List.set_set, List.set_cons_zero, List.set_cons_succ, ↓reduceIte, and_self, if_true, decide_true, decide_false, PD.at0, PD.at1, PD.at2, PD.mj, PD.mD, Bool.false_eq_true, if_false, and_true, true_and, beq_self_eq_true, Bool.not_true, Bool.not_false, PD.eY, PD.eZ, PD.fj, String.reduceEq])
local macro_rules | `(tactic| wp_walk using "ev", $rs,*) => `(tactic| simp only [PD.body, PD.aZ, PD.cA, PD.bK, PD.jg, PD.bV, PD.eE, PD.bO, PD.jG, PD.aG, PD.pU, PD.eC, PD.ao, PD.bH, PD.aA, PD.aq, PD.eO, PD.oG, PD.gY, PD.qG, PD.eU, PD.dX, PD.bY, PD.fV, PD.mW, PD.fW, PD.fG, PD.gH, PD.aY, PD.gName, PD.gNil, PD.gCons, PD.eG, PD.gj, PD.jh, PD.jQ, PD.j8, PD.ni, PD.oh, PD.fO, PD.fX, PD.items, PD.jd, PD.jH, PD.dN, PD.eX, PD.Res.d7, PD.Res.dG, PD.Res.iJ, PD.Res.gA, PD.RS.gD, PD.RS.gG, PD.RS.eV, PD.dH, Option.map_some, PD.dF, PD.je, PD.mulM, PD.fM, PD.iD, PD.jf, PD.qJ, PD.oK, PD.oY, PD.oM, PD.lY, PD.fJ, PD.bL, PD.cC, PD.dR, PD.jW, PD.fQ, PD.isNon, List.length_cons, List.length_nil, Nat.zero_add, Nat.reduceAdd, Nat.reduceSub, Nat.reduceLeDiff, List.map_cons, List.map_nil, List.append_nil, List.nil_append, List.cons_append, List.replicate_succ, List.replicate_zero, List.getElem?_cons_zero, List.getElem?_cons_succ, List.set_set, List.set_cons_zero, List.set_cons_succ, ↓reduceIte, and_self, if_true, decide_true, decide_false, PD.at0, PD.at1, PD.at2, PD.mj, PD.mD, Bool.false_eq_true, if_false, and_true, true_and, beq_self_eq_true, Bool.not_true, Bool.not_false, PD.eY, PD.eZ, PD.fj, String.reduceEq, $[$rs:term],*])
local macro_rules | `(tactic| wp_walk using "ex") => `(tactic| simp only [PD.body, PD.aZ, PD.cA, PD.bK, PD.jg, PD.bV, PD.eE, PD.bO, PD.jG, PD.aG, PD.pU, PD.eC, PD.ao, PD.bH, PD.aA, PD.aq, PD.eO, PD.oG, PD.gY, PD.qG, PD.eU, PD.dX, PD.bY, PD.fV, PD.mW, PD.fW, PD.fG, PD.gH, PD.aY, PD.gName, PD.gNil, PD.gCons, PD.eG, PD.gj, PD.jh, PD.jQ, PD.j8, PD.ni, PD.oh, PD.fO, PD.fX, PD.items, PD.jd, PD.jH, PD.dN, PD.eX, PD.Res.d7, PD.Res.dG, PD.Res.iJ, PD.Res.gA, PD.RS.gD, PD.RS.gG, PD.RS.eV, PD.dH, Option.map_some, PD.dF, PD.je, PD.mulM, PD.fM, PD.iD, PD.jf, PD.qJ, PD.oK, PD.oY, PD.oM, PD.lY, PD.fJ, PD.bL, PD.cC, PD.dR, PD.jW, PD.fQ, PD.isNon, List.length_cons, List.length_nil, Nat.zero_add, Nat.reduceAdd, Nat.reduceSub, Nat.reduceLeDiff, List.map_cons, List.map_nil, List.append_nil, List.nil_append, List.cons_append, List.replicate_succ, List.replicate_zero, List.getElem?_cons_zero, List.getElem?_cons_succ, List.set_set, List.set_cons_zero, List.set_cons_succ, ↓reduceIte, and_self, if_true, decide_true, decide_false, PD.at0, PD.at1, PD.at2, PD.mj, PD.mD, Bool.false_eq_true, if_false, and_true, true_and, beq_self_eq_true, Bool.not_true, Bool.not_false, PD.eY, PD.eZ, PD.fj, String.reduceEq, PD.bD, PD.inX, PD.vK, PD.uo, PD.uw, PD.inB, PD.toV, PD.qD, PD.mK, PD.mO, PD.pY, PD.kY, PD.mJ, PD.kZ, PD.lu, PD.iQ, PD.tE, PD.keyOf, PD.jT, PD.jR, Option.bind_some, Option.map_none, Option.bind_none, PD.jZ, PD.Ao, PD.Aq, Option.isSome_some, Option.isSome_none, Bool.or_false, Bool.false_or, Bool.true_or, Bool.or_true, Option.getD_some, Option.getD_none, PD.pF, PD.nj, Bool.or_self])
local macro_rules | `(tactic| wp_walk using "ex", $rs,*) => `(tactic| simp only [PD.body, PD.aZ, PD.cA, PD.bK, PD.jg, PD.bV, PD.eE, PD.bO, PD.jG, PD.aG, PD.pU, PD.eC, PD.ao, PD.bH, PD.aA, PD.aq, PD.eO, PD.oG, PD.gY, PD.qG, PD.eU, PD.dX, PD.bY, PD.fV, PD.mW, PD.fW, PD.fG, PD.gH, PD.aY, PD.gName, PD.gNil, PD.gCons, PD.eG, PD.gj, PD.jh, PD.jQ, PD.j8, PD.ni, PD.oh, PD.fO, PD.fX, PD.items, PD.jd, PD.jH, PD.dN, PD.eX, PD.Res.d7, PD.Res.dG, PD.Res.iJ, PD.Res.gA, PD.RS.gD, PD.RS.gG, PD.RS.eV, PD.dH, Option.map_some, PD.dF, PD.je, PD.mulM, PD.fM, PD.iD, PD.jf, PD.qJ, PD.oK, PD.oY, PD.oM, PD.lY, PD.fJ, PD.bL, PD.cC, PD.dR, PD.jW, PD.fQ, PD.isNon, List.length_cons, List.length_nil, Nat.zero_add, Nat.reduceAdd, Nat.reduceSub, Nat.reduceLeDiff, List.map_cons, List.map_nil, List.append_nil, List.nil_append, List.cons_append, List.replicate_succ, List.replicate_zero, List.getElem?_cons_zero, List.getElem?_cons_succ, List.set_set, List.set_cons_zero, List.set_cons_succ, ↓reduceIte, and_self, if_true, decide_true, decide_false, PD.at0, PD.at1, PD.at2, PD.mj, PD.mD, Bool.false_eq_true, if_false, and_true, true_and, beq_self_eq_true, Bool.not_true, Bool.not_false, PD.eY, PD.eZ, PD.fj, String.reduceEq, PD.bD, PD.inX, PD.vK, PD.uo, PD.uw, PD.inB, PD.toV, PD.qD, PD.mK, PD.mO, PD.pY, PD.kY, PD.mJ, PD.kZ, PD.lu, PD.iQ, PD.tE, PD.keyOf, PD.jT, PD.jR, Option.bind_some, Option.map_none, Option.bind_none, PD.jZ, PD.Ao, PD.Aq, Option.isSome_some, Option.isSome_none, Bool.or_false, Bool.false_or, Bool.true_or, Bool.or_true, Option.getD_some, Option.getD_none, PD.pF, PD.nj, Bool.or_self, $[$rs:term],*])
noncomputable section
namespace cY
open PySem PySem.Spec PyProof.Rows L2 PD
theorem kt4 : kitB "tuple" "tuple" = some true := by decide +kernel
theorem kt5 : kitB "str" "str" = some true := by decide +kernel
theorem kt6 : kitB "int" "int" = some true := by decide +kernel
theorem kt7 : kitB "int" "bool" = some false := by decide +kernel
theorem Ag {ds : List D} {h : AH} : rK wV [.tup ds, .ty "tuple"] h = some (.bl true, h) := by
  simp only [rK, Qv, Am, kt4, Option.map_some]
theorem vI {s : Str} {h : AH} : rK wV [.str s, .ty "str"] h = some (.bl true, h) := by
  simp only [rK, Qv, Am, kt5, Option.map_some]
theorem ah9 {i : Int} {h : AH} : rK wV [.int i, .ty "int"] h = some (.bl true, h) := by
  simp only [rK, Qv, Am, kt6, Option.map_some]
theorem aia {i : Int} {h : AH} : rK wV [.int i, .ty "bool"] h = some (.bl false, h) := by
  simp only [rK, Qv, Am, kt7, Option.map_some]
theorem abm {g : MG} {f : ME} {own : List Nat} {e : En} {h : AH} {F : D → D} : ∀ (ds acc : List D), (∀ d ∈ ds, ∃ e1, g d (dN e own) h = .ok e1 h ∧ f e1 h = .ok (F d) h) → acc.length + ds.length ≤ 16777216 → cQ g fG f own e acc ds h = .ok (acc ++ ds.map F) h
  | [], acc, _, _ => by simp only [cQ, List.map_nil, List.append_nil]
  | d :: ds, acc, q, l => by
    obtain ⟨e1, a, b⟩ := q d List.mem_cons_self
    rw [List.length_cons] at l
    unfold cQ
    rw [a]
    show (match f e1 h with | .ok x h3 => if acc.length < 16777216 then cQ g fG f own e (acc ++ [x]) ds h3 else .stuck | _ => .stuck) = _
    rw [b]
    show (if acc.length < 16777216 then cQ g fG f own e (acc ++ [F d]) ds h else .stuck) = _
    rw [if_pos (by omega), abm ds (acc ++ [F d]) (fun d hd => q d (List.mem_cons_of_mem _ hd)) (by simp only [List.length_append, List.length_cons, List.length_nil]; omega), List.map_cons, List.append_assoc]
    rfl
theorem Cm {α : Type} (F : α → Bool) : ∀ l : List α, cR (l.map fun a => D.bl (F a)) = some (l.map F)
  | [] => rfl
  | a :: l => by
    show (cR (l.map fun a => D.bl (F a))).map (F a :: ·) = _
    rw [Cm F l]
    rfl
def Num (i : Int) : Prop := 1 - 10 ^ 40 ≤ i ∧ i ≤ 10 ^ 40 - 1
theorem agn {e0 : Option D} {h : AH} (cs : List Nat) (hc : ∀ c ∈ cs, c ∈ lets) (hl : cs.length ≤ 1000) :
    cQ (PD.gName 1) fG (aG uo (ao 1) (eC (.str "abcdefghijklmnopqrstuvwxyz"))) [1] [e0, none] [] (cs.map fun c => .str ⟨#[c]⟩) h = .ok (cs.map fun _ => .bl true) h := by
  have := abm (g := PD.gName 1) (f := aG uo (ao 1) (eC (.str "abcdefghijklmnopqrstuvwxyz"))) (own := [1]) (e := [e0, none]) (h := h) (F := fun _ => .bl true) (cs.map fun c => .str ⟨#[c]⟩) [] (by
    intro d hd
    obtain ⟨c, hcs, rfl⟩ := List.mem_map.mp hd
    refine ⟨[e0, some (.str ⟨#[c]⟩)], rfl, ?_⟩
    have q : decide (c ∈ ("abcdefghijklmnopqrstuvwxyz" : Str).cps.toList) = true := decide_eq_true (hc c hcs)
    (wp_walk using "ex", aH, q)) (by simp; omega)
  rw [this, List.nil_append, List.map_map]
  rfl
theorem acd {s : Str} (n : Nm s) (h : AH) : qT [.str s] h = .ok (.bl true) h := by
  obtain ⟨lw, l1, l2⟩ := n
  have s16 : s.length ≤ 16777216 := by omega
  have i1 : (1 : Int) ≤ (s.length : Nat) := by omega
  have i2 : ((s.length : Nat) : Int) ≤ 8 := by omega
  have hl := agn (e0 := some (.str s)) (h := h) s.cps.toList lw (by rw [← GB.str_len]; omega)
  have hb := Cm (fun _ : Nat => true) s.cps.toList
  have ha : (s.cps.toList.map fun _ => true).all id = true := by simp
  unfold qT
  (wp_walk using "ex", aH, vI, s16, i1, i2, hl, allM, lZ, hb, ha)
theorem aaK {i a b : Int} (h1 : a ≤ i) (h2 : i ≤ b) (h : AH) : ux [.int i, .int a, .int b] h = .ok (.bl true) h := by
  unfold ux
  (wp_walk using "ex", aH, ah9, aia, h1, h2)
theorem aad {i : Int} (n : Num i) (h : AH) : qj [.int i] h = .ok (.bl true) h := by
  have p : (0 : Int) ≤ 40 ∧ (40 : Int) ≤ 1000000 ∧ (10 : Int).natAbs < 2 ^ 64 := by decide
  have q : (10 : Int) ^ (40 : Int).toNat = 10 ^ 40 := rfl
  unfold qj
  (wp_walk using "ex", aH, p, q, pk3, aaK n.1 n.2)
def Sm (i : Int) : Prop := 0 ≤ i ∧ i < 1000
theorem Sm.num {i : Int} (h : Sm i) : Num i := by
  obtain ⟨a, b⟩ := h
  have p : (1000 : Int) ≤ 10 ^ 40 := by decide
  exact ⟨by omega, by omega⟩
theorem Ep {i : Int} (n : Sm i) (h : AH) : vZ [.int i] h = .ok (.bl true) h := by
  unfold vZ
  (wp_walk using "ex", aH, aad n.num, ge_iff_le, n.1)
theorem oZ {i : Int} (n : Sm i) (h : AH) : iy [.str "task", .int i] h = .ok (.bl true) h := by
  unfold iy
  (wp_walk using "ex", aH, Ep n)
theorem adF {i : Int} (n : Sm i) (h : AH) : iy [.str "doer", .int i] h = .ok (.bl true) h := by
  unfold iy
  (wp_walk using "ex", aH, Ep n)
theorem adG (h : AH) : iy [.str "doer", .non] h = .ok (.bl true) h := by
  unfold iy
  (wp_walk using "ex", aH)
theorem adH {s : Str} (n : Nm s) (h : AH) : iy [.str "name", .str s] h = .ok (.bl true) h := by
  unfold iy
  (wp_walk using "ex", aH, acd n)
theorem vJ {s t : String} {h : AH} : cW (.tup [.str (PySem.Str.ofString s)]) (.tup [.str (PySem.Str.ofString t)]) h = some (.bl (decide (s = t)), h) := by
  show (dI h _ _).map _ = _
  have e : dI h (.tup [.str (PySem.Str.ofString s)]) (.tup [.str (PySem.Str.ofString t)]) = some (decide (s = t)) := by
    have sh : ∀ s : String, SeqAt.shaped (.tuple [.str (PySem.Str.ofString s)]) = true := fun s => by
      unfold SeqAt.shaped PyData.canLay0 PyData.depth PyData.canLayAll0 PyData.canLay0 PyData.canLayAll0
      rw [GB.rO (GB.jB s)]
      rfl
    show (if SeqAt.shaped (.tuple [.str (PySem.Str.ofString s)]) = true ∧ SeqAt.shaped (.tuple [.str (PySem.Str.ofString t)]) = true then some (PyData.eqv (.tuple [.str (PySem.Str.ofString s)]) (.tuple [.str (PySem.Str.ofString t)])) else none) = _
    rw [if_pos ⟨sh s, sh t⟩]
    have e2 : PyData.eqv (.tuple [.str (PySem.Str.ofString s)]) (.tuple [.str (PySem.Str.ofString t)]) = ((PySem.Str.ofString s == PySem.Str.ofString t) && true) := rfl
    rw [e2, v9, Bool.and_true]
  rw [e]
  rfl
theorem adI {s t : String} {h : AH} : jX (.tup [.str (PySem.Str.ofString s)]) (.tup [.str (PySem.Str.ofString t)]) h = some (.bl (!decide (s = t)), h) := by
  have e := vJ (s := s) (t := t) (h := h)
  unfold cW at e
  unfold jX
  cases z : dI h (.tup [.str (PySem.Str.ofString s)]) (.tup [.str (PySem.Str.ofString t)]) with
  | none => rw [z] at e; cases e
  | some b =>
    rw [z] at e
    simp only [Option.map_some, Option.some.injEq, Prod.mk.injEq, D.bl.injEq, and_true] at e ⊢
    rw [e]
theorem ace {k : Bool} (h : AH) : uz [.tup [.str (if k then "killed" else "done")]] h = .ok (.bl true) h := by
  unfold uz
  cases k <;> (wp_walk using "ex", aH, vJ)
theorem aeS {k : Bool} (h : AH) : iy [.str "outcome", .tup [.str (if k then "killed" else "done")]] h = .ok (.bl true) h := by
  unfold iy
  (wp_walk using "ex", aH, ace)
end cY
local macro_rules | `(tactic| wp_walk using "ev") => `(tactic| simp only [PD.body, PD.aZ, PD.cA, PD.bK, PD.jg, PD.bV, PD.eE, PD.bO, PD.jG, PD.aG, PD.pU, PD.eC, PD.ao, PD.bH, PD.aA, PD.aq, PD.eO, PD.oG, PD.gY, PD.qG, PD.eU, PD.dX, PD.bY, PD.fV, PD.mW, PD.fW, PD.fG, PD.gH, PD.aY, PD.gName, PD.gNil, PD.gCons, PD.eG, PD.gj, PD.jh, PD.jQ, PD.j8, PD.ni, PD.oh, PD.fO, PD.fX, PD.items, PD.jd, PD.jH, PD.dN, PD.eX, PD.Res.d7, PD.Res.dG, PD.Res.iJ, PD.Res.gA, PD.RS.gD, PD.RS.gG, PD.RS.eV, PD.dH, Option.map_some, PD.dF, PD.je, PD.mulM, PD.fM, PD.iD, PD.jf, PD.qJ, PD.oK, PD.oY, PD.oM, PD.lY, PD.fJ, PD.bL, PD.cC, PD.dR, PD.jW, PD.fQ, PD.isNon, List.length_cons, List.length_nil, Nat.zero_add, Nat.reduceAdd, Nat.reduceSub, Nat.reduceLeDiff, List.map_cons, List.map_nil, List.append_nil, List.nil_append, List.cons_append, List.replicate_succ, List.replicate_zero, List.getElem?_cons_zero, List.getElem?_cons_succ, List.set_set, List.set_cons_zero, List.set_cons_succ, ↓reduceIte, and_self, if_true, decide_true, decide_false, PD.at0, PD.at1, PD.at2, PD.mj, PD.mD, Bool.false_eq_true, if_false, and_true, true_and, beq_self_eq_true, Bool.not_true, Bool.not_false, PD.eY, PD.eZ, PD.fj, String.reduceEq])
local macro_rules | `(tactic| wp_walk using "ev", $rs,*) => `(tactic| simp only [PD.body, PD.aZ, PD.cA, PD.bK, PD.jg, PD.bV, PD.eE, PD.bO, PD.jG, PD.aG, PD.pU, PD.eC, PD.ao, PD.bH, PD.aA, PD.aq, PD.eO, PD.oG, PD.gY, PD.qG, PD.eU, PD.dX, PD.bY, PD.fV, PD.mW, PD.fW, PD.fG, PD.gH, PD.aY, PD.gName, PD.gNil, PD.gCons, PD.eG, PD.gj, PD.jh, PD.jQ, PD.j8, PD.ni, PD.oh, PD.fO, PD.fX, PD.items, PD.jd, PD.jH, PD.dN, PD.eX, PD.Res.d7, PD.Res.dG, PD.Res.iJ, PD.Res.gA, PD.RS.gD, PD.RS.gG, PD.RS.eV, PD.dH, Option.map_some, PD.dF, PD.je, PD.mulM, PD.fM, PD.iD, PD.jf, PD.qJ, PD.oK, PD.oY, PD.oM, PD.lY, PD.fJ, PD.bL, PD.cC, PD.dR, PD.jW, PD.fQ, PD.isNon, List.length_cons, List.length_nil, Nat.zero_add, Nat.reduceAdd, Nat.reduceSub, Nat.reduceLeDiff, List.map_cons, List.map_nil, List.append_nil, List.nil_append, List.cons_append, List.replicate_succ, List.replicate_zero, List.getElem?_cons_zero, List.getElem?_cons_succ, List.set_set, List.set_cons_zero, List.set_cons_succ, ↓reduceIte, and_self, if_true, decide_true, decide_false, PD.at0, PD.at1, PD.at2, PD.mj, PD.mD, Bool.false_eq_true, if_false, and_true, true_and, beq_self_eq_true, Bool.not_true, Bool.not_false, PD.eY, PD.eZ, PD.fj, String.reduceEq, $[$rs:term],*])
local macro_rules | `(tactic| wp_walk using "ex") => `(tactic| simp only [PD.body, PD.aZ, PD.cA, PD.bK, PD.jg, PD.bV, PD.eE, PD.bO, PD.jG, PD.aG, PD.pU, PD.eC, PD.ao, PD.bH, PD.aA, PD.aq, PD.eO, PD.oG, PD.gY, PD.qG, PD.eU, PD.dX, PD.bY, PD.fV, PD.mW, PD.fW, PD.fG, PD.gH, PD.aY, PD.gName, PD.gNil, PD.gCons, PD.eG, PD.gj, PD.jh, PD.jQ, PD.j8, PD.ni, PD.oh, PD.fO, PD.fX, PD.items, PD.jd, PD.jH, PD.dN, PD.eX, PD.Res.d7, PD.Res.dG, PD.Res.iJ, PD.Res.gA, PD.RS.gD, PD.RS.gG, PD.RS.eV, PD.dH, Option.map_some, PD.dF, PD.je, PD.mulM, PD.fM, PD.iD, PD.jf, PD.qJ, PD.oK, PD.oY, PD.oM, PD.lY, PD.fJ, PD.bL, PD.cC, PD.dR, PD.jW, PD.fQ, PD.isNon, List.length_cons, List.length_nil, Nat.zero_add, Nat.reduceAdd, Nat.reduceSub, Nat.reduceLeDiff, List.map_cons, List.map_nil, List.append_nil, List.nil_append, List.cons_append, List.replicate_succ, List.replicate_zero, List.getElem?_cons_zero, List.getElem?_cons_succ, List.set_set, List.set_cons_zero, List.set_cons_succ, ↓reduceIte, and_self, if_true, decide_true, decide_false, PD.at0, PD.at1, PD.at2, PD.mj, PD.mD, Bool.false_eq_true, if_false, and_true, true_and, beq_self_eq_true, Bool.not_true, Bool.not_false, PD.eY, PD.eZ, PD.fj, String.reduceEq, PD.bD, PD.inX, PD.vK, PD.uo, PD.uw, PD.inB, PD.toV, PD.qD, PD.mK, PD.mO, PD.pY, PD.kY, PD.mJ, PD.kZ, PD.lu, PD.iQ, PD.tE, PD.keyOf, PD.jT, PD.jR, Option.bind_some, Option.map_none, Option.bind_none, PD.jZ, PD.Ao, PD.Aq, Option.isSome_some, Option.isSome_none, Bool.or_false, Bool.false_or, Bool.true_or, Bool.or_true, Option.getD_some, Option.getD_none, PD.pF, PD.nj, Bool.or_self])
local macro_rules | `(tactic| wp_walk using "ex", $rs,*) => `(tactic| simp only [PD.body, PD.aZ, PD.cA, PD.bK, PD.jg, PD.bV, PD.eE, PD.bO, PD.jG, PD.aG, PD.pU, PD.eC, PD.ao, PD.bH, PD.aA, PD.aq, PD.eO, PD.oG, PD.gY, PD.qG, PD.eU, PD.dX, PD.bY, PD.fV, PD.mW, PD.fW, PD.fG, PD.gH, PD.aY, PD.gName, PD.gNil, PD.gCons, PD.eG, PD.gj, PD.jh, PD.jQ, PD.j8, PD.ni, PD.oh, PD.fO, PD.fX, PD.items, PD.jd, PD.jH, PD.dN, PD.eX, PD.Res.d7, PD.Res.dG, PD.Res.iJ, PD.Res.gA, PD.RS.gD, PD.RS.gG, PD.RS.eV, PD.dH, Option.map_some, PD.dF, PD.je, PD.mulM, PD.fM, PD.iD, PD.jf, PD.qJ, PD.oK, PD.oY, PD.oM, PD.lY, PD.fJ, PD.bL, PD.cC, PD.dR, PD.jW, PD.fQ, PD.isNon, List.length_cons, List.length_nil, Nat.zero_add, Nat.reduceAdd, Nat.reduceSub, Nat.reduceLeDiff, List.map_cons, List.map_nil, List.append_nil, List.nil_append, List.cons_append, List.replicate_succ, List.replicate_zero, List.getElem?_cons_zero, List.getElem?_cons_succ, List.set_set, List.set_cons_zero, List.set_cons_succ, ↓reduceIte, and_self, if_true, decide_true, decide_false, PD.at0, PD.at1, PD.at2, PD.mj, PD.mD, Bool.false_eq_true, if_false, and_true, true_and, beq_self_eq_true, Bool.not_true, Bool.not_false, PD.eY, PD.eZ, PD.fj, String.reduceEq, PD.bD, PD.inX, PD.vK, PD.uo, PD.uw, PD.inB, PD.toV, PD.qD, PD.mK, PD.mO, PD.pY, PD.kY, PD.mJ, PD.kZ, PD.lu, PD.iQ, PD.tE, PD.keyOf, PD.jT, PD.jR, Option.bind_some, Option.map_none, Option.bind_none, PD.jZ, PD.Ao, PD.Aq, Option.isSome_some, Option.isSome_none, Bool.or_false, Bool.false_or, Bool.true_or, Bool.or_true, Option.getD_some, Option.getD_none, PD.pF, PD.nj, Bool.or_self, $[$rs:term],*])
noncomputable section
namespace cY
open PySem PySem.Spec PyProof.Rows L2 PD
inductive Rw where
  | kill (b : Option Nat) (n : Nat) | late (b : Option Nat) (n : Nat) | landed (n : Nat) | masked (n : Nat) | opened (n : Nat) | ended (n : Nat) (k : Bool)
def opI : Option Nat → D
  | none => .non
  | some b => .int (b : Int)
def outD (k : Bool) : D := .tup [.str (if k then "killed" else "done")]
def Rw.enc : Rw → D
  | .kill b n => .tup [.str "kill", opI b, .int (n : Int)]
  | .late b n => .tup [.str "late", opI b, .int (n : Int)]
  | .landed n => .tup [.str "landed", .int (n : Int)]
  | .masked n => .tup [.str "masked", .int (n : Int)]
  | .opened n => .tup [.str "opened", .int (n : Int)]
  | .ended n k => .tup [.str "ended", .int (n : Int), outD k]
def Rw.num : Rw → Nat
  | .kill _ n | .late _ n | .landed n | .masked n | .opened n | .ended n _ => n
def Rw.by_ : Rw → Option Nat
  | .kill b _ | .late b _ => b
  | .landed n | .masked n | .opened n | .ended n _ => some n
def Rw.sm (r : Rw) : Prop := r.num < 1000 ∧ ∀ b, r.by_ = some b → b < 1000
theorem acf {n : Nat} (h : n < 1000) : Sm (n : Int) := ⟨by omega, by omega⟩
theorem aib : nu "kill" = some (some (.tup [.str "doer", .str "task"])) := rfl
theorem aic : nu "late" = some (some (.tup [.str "doer", .str "task"])) := rfl
theorem aeT : nu "landed" = some (some (.tup [.str "task"])) := rfl
theorem aeU : nu "masked" = some (some (.tup [.str "task"])) := rfl
theorem aeV : nu "opened" = some (some (.tup [.str "task"])) := rfl
theorem ago : nu "ended" = some (some (.tup [.str "task", .str "outcome"])) := rfl
theorem agp : nu "begun" = some (some (.tup [.str "task", .str "task", .str "name", .str "task"])) := rfl
theorem aae {a : String} {h : AH} : cW (.tup [.str (PySem.Str.ofString a)]) (.tup []) h = some (.bl false, h) := by
  show (dI h _ _).map _ = _
  have e : dI h (.tup [.str (PySem.Str.ofString a)]) (.tup []) = some false := by
    have s1 : SeqAt.shaped (.tuple [.str (PySem.Str.ofString a)]) = true := by
      unfold SeqAt.shaped
      simp only [PyData.canLay0, PyData.canLayAll0, PyData.depth, PyData.depthAll, GB.rO (GB.jB a), Bool.and_true, Bool.true_and]
      rfl
    have s0 : SeqAt.shaped (.tuple []) = true := rfl
    show (if SeqAt.shaped (.tuple [.str (PySem.Str.ofString a)]) = true ∧ SeqAt.shaped (.tuple []) = true then some (PyData.eqv (.tuple [.str (PySem.Str.ofString a)]) (.tuple [])) else none) = _
    rw [if_pos ⟨s1, s0⟩]
    rfl
  rw [e]
  rfl
theorem aaf {a b : String} {h : AH} : cW (.tup [.str (PySem.Str.ofString a), .str (PySem.Str.ofString b)]) (.tup []) h = some (.bl false, h) := by
  show (dI h _ _).map _ = _
  have e : dI h (.tup [.str (PySem.Str.ofString a), .str (PySem.Str.ofString b)]) (.tup []) = some false := by
    have s1 : SeqAt.shaped (.tuple [.str (PySem.Str.ofString a), .str (PySem.Str.ofString b)]) = true := by
      unfold SeqAt.shaped
      simp only [PyData.canLay0, PyData.canLayAll0, PyData.depth, PyData.depthAll, GB.rO (GB.jB a), GB.rO (GB.jB b), Bool.and_true, Bool.true_and]
      rfl
    have s0 : SeqAt.shaped (.tuple []) = true := rfl
    show (if SeqAt.shaped (.tuple [.str (PySem.Str.ofString a), .str (PySem.Str.ofString b)]) = true ∧ SeqAt.shaped (.tuple []) = true then some (PyData.eqv (.tuple [.str (PySem.Str.ofString a), .str (PySem.Str.ofString b)]) (.tuple [])) else none) = _
    rw [if_pos ⟨s1, s0⟩]
    rfl
  rw [e]
  rfl
theorem aie {a b c d : String} {h : AH} : cW (.tup [.str (PySem.Str.ofString a), .str (PySem.Str.ofString b), .str (PySem.Str.ofString c), .str (PySem.Str.ofString d)]) (.tup []) h = some (.bl false, h) := by
  show (dI h _ _).map _ = _
  have e : dI h (.tup [.str (PySem.Str.ofString a), .str (PySem.Str.ofString b), .str (PySem.Str.ofString c), .str (PySem.Str.ofString d)]) (.tup []) = some false := by
    have s1 : SeqAt.shaped (.tuple [.str (PySem.Str.ofString a), .str (PySem.Str.ofString b), .str (PySem.Str.ofString c), .str (PySem.Str.ofString d)]) = true := by
      unfold SeqAt.shaped
      simp only [PyData.canLay0, PyData.canLayAll0, PyData.depth, PyData.depthAll, GB.rO (GB.jB a), GB.rO (GB.jB b), GB.rO (GB.jB c), GB.rO (GB.jB d), Bool.and_true, Bool.true_and]
      rfl
    have s0 : SeqAt.shaped (.tuple []) = true := rfl
    show (if SeqAt.shaped (.tuple [.str (PySem.Str.ofString a), .str (PySem.Str.ofString b), .str (PySem.Str.ofString c), .str (PySem.Str.ofString d)]) = true ∧ SeqAt.shaped (.tuple []) = true then some (PyData.eqv (.tuple [.str (PySem.Str.ofString a), .str (PySem.Str.ofString b), .str (PySem.Str.ofString c), .str (PySem.Str.ofString d)]) (.tuple [])) else none) = _
    rw [if_pos ⟨s1, s0⟩]
    rfl
  rw [e]
  rfl
theorem c0 : ((0 : Nat) : Int) = 0 := rfl
theorem c1 : ((1 : Nat) : Int) = 1 := rfl
theorem c2 : ((2 : Nat) : Int) = 2 := rfl
theorem c3 : ((3 : Nat) : Int) = 3 := rfl
theorem c4 : ((4 : Nat) : Int) = 4 := rfl
theorem c5 : ((5 : Nat) : Int) = 5 := rfl
theorem aag {b : Option Nat} (hb : ∀ c, b = some c → c < 1000) (h : AH) : iy [.str "doer", opI b] h = .ok (.bl true) h := by
  cases b with
  | none => exact adG h
  | some c => exact adF (acf (hb c rfl)) h
theorem zip2 {a b c d : D} {h : AH} : QC [.tup [a, b], .tup [c, d]] h = .ok [.tup [a, c], .tup [b, d]] h := rfl
theorem aeW {a c : D} {h : AH} : QC [.tup [a], .tup [c]] h = .ok [.tup [a, c]] h := rfl
theorem acg {a b c : D} {h : AH} : yj (.tup [a, b, c]) (some 1) none h = some (.tup [b, c], h) := rfl
theorem ach {a b : D} {h : AH} : yj (.tup [a, b]) (some 1) none h = some (.tup [b], h) := rfl
theorem agq (r : Rw) (sm : r.sm) (h : AH) : jJ [r.enc] h = .ok (.bl true) h := by
  have sn := acf sm.1
  unfold jJ
  cases r with
  | kill b n =>
    have pb := aag (b := b) sm.2 h
    have pn := oZ sn h
    simp only [Rw.num] at pn
    (wp_walk using "ex", aH, Rw.enc, Ag, vI, vW, vU, cQ, allM, lZ, cR, List.all_cons, List.all_nil, id, Nat.reduceLT, c0, c1, c2, c3, Int.reduceEq, Int.reduceAdd, aib, pb, pn, aaf, zip2, acg)
    rfl
  | late b n =>
    have pb := aag (b := b) sm.2 h
    have pn := oZ sn h
    simp only [Rw.num] at pn
    (wp_walk using "ex", aH, Rw.enc, Ag, vI, vW, vU, cQ, allM, lZ, cR, List.all_cons, List.all_nil, id, Nat.reduceLT, c0, c1, c2, c3, Int.reduceEq, Int.reduceAdd, aic, pb, pn, aaf, zip2, acg)
    rfl
  | landed n =>
    have pn := oZ sn h
    simp only [Rw.num] at pn
    (wp_walk using "ex", aH, Rw.enc, Ag, vI, vW, vU, cQ, allM, lZ, cR, List.all_cons, List.all_nil, id, Nat.reduceLT, c0, c1, c2, c3, Int.reduceEq, Int.reduceAdd, aeT, pn, aae, aeW, ach)
    rfl
  | masked n =>
    have pn := oZ sn h
    simp only [Rw.num] at pn
    (wp_walk using "ex", aH, Rw.enc, Ag, vI, vW, vU, cQ, allM, lZ, cR, List.all_cons, List.all_nil, id, Nat.reduceLT, c0, c1, c2, c3, Int.reduceEq, Int.reduceAdd, aeU, pn, aae, aeW, ach)
    rfl
  | opened n =>
    have pn := oZ sn h
    simp only [Rw.num] at pn
    (wp_walk using "ex", aH, Rw.enc, Ag, vI, vW, vU, cQ, allM, lZ, cR, List.all_cons, List.all_nil, id, Nat.reduceLT, c0, c1, c2, c3, Int.reduceEq, Int.reduceAdd, aeV, pn, aae, aeW, ach)
    rfl
  | ended n k =>
    have pn := oZ sn h
    have po := aeS (k := k) h
    simp only [Rw.num] at pn
    (wp_walk using "ex", aH, Rw.enc, Ag, vI, vW, vU, cQ, allM, lZ, cR, List.all_cons, List.all_nil, id, Nat.reduceLT, c0, c1, c2, c3, Int.reduceEq, Int.reduceAdd, ago, pn, po, outD, aaf, zip2, acg)
    rfl
end cY
local macro_rules | `(tactic| wp_walk using "ev") => `(tactic| simp only [PD.body, PD.aZ, PD.cA, PD.bK, PD.jg, PD.bV, PD.eE, PD.bO, PD.jG, PD.aG, PD.pU, PD.eC, PD.ao, PD.bH, PD.aA, PD.aq, PD.eO, PD.oG, PD.gY, PD.qG, PD.eU, PD.dX, PD.bY, PD.fV, PD.mW, PD.fW, PD.fG, PD.gH, PD.aY, PD.gName, PD.gNil, PD.gCons, PD.eG, PD.gj, PD.jh, PD.jQ, PD.j8, PD.ni, PD.oh, PD.fO, PD.fX, PD.items, PD.jd, PD.jH, PD.dN, PD.eX, PD.Res.d7, PD.Res.dG, PD.Res.iJ, PD.Res.gA, PD.RS.gD, PD.RS.gG, PD.RS.eV, PD.dH, Option.map_some, PD.dF, PD.je, PD.mulM, PD.fM, PD.iD, PD.jf, PD.qJ, PD.oK, PD.oY, PD.oM, PD.lY, PD.fJ, PD.bL, PD.cC, PD.dR, PD.jW, PD.fQ, PD.isNon, List.length_cons, List.length_nil, Nat.zero_add, Nat.reduceAdd, Nat.reduceSub, Nat.reduceLeDiff, List.map_cons, List.map_nil, List.append_nil, List.nil_append, List.cons_append, List.replicate_succ, List.replicate_zero, List.getElem?_cons_zero, List.getElem?_cons_succ, List.set_set, List.set_cons_zero, List.set_cons_succ, ↓reduceIte, and_self, if_true, decide_true, decide_false, PD.at0, PD.at1, PD.at2, PD.mj, PD.mD, Bool.false_eq_true, if_false, and_true, true_and, beq_self_eq_true, Bool.not_true, Bool.not_false, PD.eY, PD.eZ, PD.fj, String.reduceEq])
local macro_rules | `(tactic| wp_walk using "ev", $rs,*) => `(tactic| simp only [PD.body, PD.aZ, PD.cA, PD.bK, PD.jg, PD.bV, PD.eE, PD.bO, PD.jG, PD.aG, PD.pU, PD.eC, PD.ao, PD.bH, PD.aA, PD.aq, PD.eO, PD.oG, PD.gY, PD.qG, PD.eU, PD.dX, PD.bY, PD.fV, PD.mW, PD.fW, PD.fG, PD.gH, PD.aY, PD.gName, PD.gNil, PD.gCons, PD.eG, PD.gj, PD.jh, PD.jQ, PD.j8, PD.ni, PD.oh, PD.fO, PD.fX, PD.items, PD.jd, PD.jH, PD.dN, PD.eX, PD.Res.d7, PD.Res.dG, PD.Res.iJ, PD.Res.gA, PD.RS.gD, PD.RS.gG, PD.RS.eV, PD.dH, Option.map_some, PD.dF, PD.je, PD.mulM, PD.fM, PD.iD, PD.jf, PD.qJ, PD.oK, PD.oY, PD.oM, PD.lY, PD.fJ, PD.bL, PD.cC, PD.dR, PD.jW, PD.fQ, PD.isNon, List.length_cons, List.length_nil, Nat.zero_add, Nat.reduceAdd, Nat.reduceSub, Nat.reduceLeDiff, List.map_cons, List.map_nil, List.append_nil, List.nil_append, List.cons_append, List.replicate_succ, List.replicate_zero, List.getElem?_cons_zero, List.getElem?_cons_succ, List.set_set, List.set_cons_zero, List.set_cons_succ, ↓reduceIte, and_self, if_true, decide_true, decide_false, PD.at0, PD.at1, PD.at2, PD.mj, PD.mD, Bool.false_eq_true, if_false, and_true, true_and, beq_self_eq_true, Bool.not_true, Bool.not_false, PD.eY, PD.eZ, PD.fj, String.reduceEq, $[$rs:term],*])
local macro_rules | `(tactic| wp_walk using "ex") => `(tactic| simp only [PD.body, PD.aZ, PD.cA, PD.bK, PD.jg, PD.bV, PD.eE, PD.bO, PD.jG, PD.aG, PD.pU, PD.eC, PD.ao, PD.bH, PD.aA, PD.aq, PD.eO, PD.oG, PD.gY, PD.qG, PD.eU, PD.dX, PD.bY, PD.fV, PD.mW, PD.fW, PD.fG, PD.gH, PD.aY, PD.gName, PD.gNil, PD.gCons, PD.eG, PD.gj, PD.jh, PD.jQ, PD.j8, PD.ni, PD.oh, PD.fO, PD.fX, PD.items, PD.jd, PD.jH, PD.dN, PD.eX, PD.Res.d7, PD.Res.dG, PD.Res.iJ, PD.Res.gA, PD.RS.gD, PD.RS.gG, PD.RS.eV, PD.dH, Option.map_some, PD.dF, PD.je, PD.mulM, PD.fM, PD.iD, PD.jf, PD.qJ, PD.oK, PD.oY, PD.oM, PD.lY, PD.fJ, PD.bL, PD.cC, PD.dR, PD.jW, PD.fQ, PD.isNon, List.length_cons, List.length_nil, Nat.zero_add, Nat.reduceAdd, Nat.reduceSub, Nat.reduceLeDiff, List.map_cons, List.map_nil, List.append_nil, List.nil_append, List.cons_append, List.replicate_succ, List.replicate_zero, List.getElem?_cons_zero, List.getElem?_cons_succ, List.set_set, List.set_cons_zero, List.set_cons_succ, ↓reduceIte, and_self, if_true, decide_true, decide_false, PD.at0, PD.at1, PD.at2, PD.mj, PD.mD, Bool.false_eq_true, if_false, and_true, true_and, beq_self_eq_true, Bool.not_true, Bool.not_false, PD.eY, PD.eZ, PD.fj, String.reduceEq, PD.bD, PD.inX, PD.vK, PD.uo, PD.uw, PD.inB, PD.toV, PD.qD, PD.mK, PD.mO, PD.pY, PD.kY, PD.mJ, PD.kZ, PD.lu, PD.iQ, PD.tE, PD.keyOf, PD.jT, PD.jR, Option.bind_some, Option.map_none, Option.bind_none, PD.jZ, PD.Ao, PD.Aq, Option.isSome_some, Option.isSome_none, Bool.or_false, Bool.false_or, Bool.true_or, Bool.or_true, Option.getD_some, Option.getD_none, PD.pF, PD.nj, Bool.or_self])
local macro_rules | `(tactic| wp_walk using "ew") => `(tactic| simp only [PD.body, PD.aZ, PD.cA, PD.bK, PD.jg, PD.bV, PD.eE, PD.bO, PD.jG, PD.aG, PD.pU, PD.eC, PD.ao, PD.bH, PD.aA, PD.aq, PD.eO, PD.oG, PD.gY, PD.qG, PD.eU, PD.dX, PD.bY, PD.fV, PD.mW, PD.fW, PD.fG, PD.gH, PD.aY, PD.gName, PD.gNil, PD.gCons, PD.eG, PD.gj, PD.jh, PD.jQ, PD.j8, PD.ni, PD.oh, PD.fO, PD.fX, PD.items, PD.jd, PD.jH, PD.dN, PD.eX, PD.Res.d7, PD.Res.dG, PD.Res.iJ, PD.Res.gA, PD.RS.gD, PD.RS.gG, PD.RS.eV, PD.dH, Option.map_some, PD.dF, PD.je, PD.mulM, PD.fM, PD.iD, PD.jf, PD.qJ, PD.oK, PD.oY, PD.oM, PD.lY, PD.fJ, PD.bL, PD.cC, PD.dR, PD.jW, PD.fQ, List.length_cons, List.length_nil, Nat.zero_add, Nat.reduceAdd, Nat.reduceSub, Nat.reduceLeDiff, List.map_cons, List.map_nil, List.append_nil, List.nil_append, List.cons_append, List.replicate_succ, List.replicate_zero, List.getElem?_cons_zero, List.getElem?_cons_succ, List.set_set, List.set_cons_zero, List.set_cons_succ, ↓reduceIte, and_self, if_true, decide_true, decide_false, PD.at0, PD.at1, PD.at2, PD.mj, PD.mD, Bool.false_eq_true, if_false, and_true, true_and, beq_self_eq_true, Bool.not_true, Bool.not_false, PD.eY, PD.eZ, PD.fj, String.reduceEq, PD.bD, PD.inX, PD.vK, PD.uo, PD.uw, PD.inB, PD.toV, PD.qD, PD.mK, PD.mO, PD.pY, PD.kY, PD.mJ, PD.kZ, PD.lu, PD.iQ, PD.tE, PD.keyOf, PD.jT, PD.jR, Option.bind_some, Option.map_none, Option.bind_none, PD.jZ, PD.Ao, PD.Aq, Option.isSome_some, Option.isSome_none, Bool.or_false, Bool.false_or, Bool.true_or, Bool.or_true, Option.getD_some, Option.getD_none, PD.pF, PD.nj, Bool.or_self])
local macro_rules | `(tactic| wp_walk using "ex", $rs,*) => `(tactic| simp only [PD.body, PD.aZ, PD.cA, PD.bK, PD.jg, PD.bV, PD.eE, PD.bO, PD.jG, PD.aG, PD.pU, PD.eC, PD.ao, PD.bH, PD.aA, PD.aq, PD.eO, PD.oG, PD.gY, PD.qG, PD.eU, PD.dX, PD.bY, PD.fV, PD.mW, PD.fW, PD.fG, PD.gH, PD.aY, PD.gName, PD.gNil, PD.gCons, PD.eG, PD.gj, PD.jh, PD.jQ, PD.j8, PD.ni, PD.oh, PD.fO, PD.fX, PD.items, PD.jd, PD.jH, PD.dN, PD.eX, PD.Res.d7, PD.Res.dG, PD.Res.iJ, PD.Res.gA, PD.RS.gD, PD.RS.gG, PD.RS.eV, PD.dH, Option.map_some, PD.dF, PD.je, PD.mulM, PD.fM, PD.iD, PD.jf, PD.qJ, PD.oK, PD.oY, PD.oM, PD.lY, PD.fJ, PD.bL, PD.cC, PD.dR, PD.jW, PD.fQ, PD.isNon, List.length_cons, List.length_nil, Nat.zero_add, Nat.reduceAdd, Nat.reduceSub, Nat.reduceLeDiff, List.map_cons, List.map_nil, List.append_nil, List.nil_append, List.cons_append, List.replicate_succ, List.replicate_zero, List.getElem?_cons_zero, List.getElem?_cons_succ, List.set_set, List.set_cons_zero, List.set_cons_succ, ↓reduceIte, and_self, if_true, decide_true, decide_false, PD.at0, PD.at1, PD.at2, PD.mj, PD.mD, Bool.false_eq_true, if_false, and_true, true_and, beq_self_eq_true, Bool.not_true, Bool.not_false, PD.eY, PD.eZ, PD.fj, String.reduceEq, PD.bD, PD.inX, PD.vK, PD.uo, PD.uw, PD.inB, PD.toV, PD.qD, PD.mK, PD.mO, PD.pY, PD.kY, PD.mJ, PD.kZ, PD.lu, PD.iQ, PD.tE, PD.keyOf, PD.jT, PD.jR, Option.bind_some, Option.map_none, Option.bind_none, PD.jZ, PD.Ao, PD.Aq, Option.isSome_some, Option.isSome_none, Bool.or_false, Bool.false_or, Bool.true_or, Bool.or_true, Option.getD_some, Option.getD_none, PD.pF, PD.nj, Bool.or_self, $[$rs:term],*])
local macro_rules | `(tactic| wp_walk using "ew", $rs,*) => `(tactic| simp only [PD.body, PD.aZ, PD.cA, PD.bK, PD.jg, PD.bV, PD.eE, PD.bO, PD.jG, PD.aG, PD.pU, PD.eC, PD.ao, PD.bH, PD.aA, PD.aq, PD.eO, PD.oG, PD.gY, PD.qG, PD.eU, PD.dX, PD.bY, PD.fV, PD.mW, PD.fW, PD.fG, PD.gH, PD.aY, PD.gName, PD.gNil, PD.gCons, PD.eG, PD.gj, PD.jh, PD.jQ, PD.j8, PD.ni, PD.oh, PD.fO, PD.fX, PD.items, PD.jd, PD.jH, PD.dN, PD.eX, PD.Res.d7, PD.Res.dG, PD.Res.iJ, PD.Res.gA, PD.RS.gD, PD.RS.gG, PD.RS.eV, PD.dH, Option.map_some, PD.dF, PD.je, PD.mulM, PD.fM, PD.iD, PD.jf, PD.qJ, PD.oK, PD.oY, PD.oM, PD.lY, PD.fJ, PD.bL, PD.cC, PD.dR, PD.jW, PD.fQ, List.length_cons, List.length_nil, Nat.zero_add, Nat.reduceAdd, Nat.reduceSub, Nat.reduceLeDiff, List.map_cons, List.map_nil, List.append_nil, List.nil_append, List.cons_append, List.replicate_succ, List.replicate_zero, List.getElem?_cons_zero, List.getElem?_cons_succ, List.set_set, List.set_cons_zero, List.set_cons_succ, ↓reduceIte, and_self, if_true, decide_true, decide_false, PD.at0, PD.at1, PD.at2, PD.mj, PD.mD, Bool.false_eq_true, if_false, and_true, true_and, beq_self_eq_true, Bool.not_true, Bool.not_false, PD.eY, PD.eZ, PD.fj, String.reduceEq, PD.bD, PD.inX, PD.vK, PD.uo, PD.uw, PD.inB, PD.toV, PD.qD, PD.mK, PD.mO, PD.pY, PD.kY, PD.mJ, PD.kZ, PD.lu, PD.iQ, PD.tE, PD.keyOf, PD.jT, PD.jR, Option.bind_some, Option.map_none, Option.bind_none, PD.jZ, PD.Ao, PD.Aq, Option.isSome_some, Option.isSome_none, Bool.or_false, Bool.false_or, Bool.true_or, Bool.or_true, Option.getD_some, Option.getD_none, PD.pF, PD.nj, Bool.or_self, $[$rs:term],*])
noncomputable section
namespace cY
open PySem PySem.Spec PyProof.Rows L2 PD
theorem aK : PD.isNon .non = true := rfl
theorem aM {i : Int} : PD.isNon (.int i) = false := rfl
theorem aN {s : Str} : PD.isNon (.str s) = false := rfl
theorem aO {n : Nat} : PD.isNon (.ref n) = false := rfl
theorem aP {l : List D} : PD.isNon (.tup l) = false := rfl
structure Tk where
  name : Option Str
  due : Bool
  shut : Bool
  gone : Bool
  fin : Option Bool
def Es : Option Str → D
  | none => .non
  | some s => .str s
def Gm : Option Bool → D
  | none => .non
  | some k => outD k
def Ah (g : Bool) : D := .tup [.str (if g then "killed" else "on")]
def Cp (k : Nat) : D := if k = 0 then .non else .int 0
def sA (B k : Nat) : Nat := if k = 0 then B + 6 else B + 10 + 4 * k
def dA (B k : Nat) : Nat := if k = 0 then B + 11 else B + 9 + 4 * k
def fU (B k : Nat) (t : Tk) : Cell := .ins "Seen" (iT (Cp k) (Es t.name) (Gm t.fin) t.due t.shut (Ah t.gone) (.ref (sA B k + 1)) (.ref (sA B k + 2)))
def pN (t : Tk) : Cell := .dict [(.inr "name", Es t.name), (.inr "due", .bl t.due), (.inr "shut", .bl t.shut), (.inr "gone", .bl t.gone), (.inr "end", Gm t.fin)]
def uH (B n : Nat) : List (Key × D) := (List.range n).map fun (k : Nat) => (Sum.inl (k : Int), D.ref (sA B k))
structure WS (B : Nat) (raw : Bool) (lt hm : List (Key × D)) (h : AH) (ts : List Tk) (many : Int) : Prop where
  w : h[B]? = some (.ins "Watch" (cX B raw .non many))
  t : h[B + 5]? = some (.dict (uH B ts.length))
  l : h[B + 9]? = some (.dict lt)
  o : h[B + 10]? = some (.dict hm)
  s : ∀ (k : Nat) (t : Tk), ts[k]? = some t → h[sA B k]? = some (fU B k t)
  a : ∀ k, k < ts.length → h[sA B k + 1]? = some (.lst []) ∧ h[sA B k + 2]? = some (.lst [])
structure LS (B : Nat) (h : AH) (ts : List Tk) : Prop where
  l : h[B + 12]? = some (.lst ((List.range ts.length).map fun k => .ref (dA B k)))
  d : ∀ (k : Nat) (t : Tk), ts[k]? = some t → h[dA B k]? = some (pN t)
theorem cJ (B : Nat) (i : Nat) : ∀ n : Nat, valD (uH B n) (.inl (i : Int)) = if i < n then some (.ref (sA B i)) else none
  | 0 => rfl
  | n + 1 => by
    have ih := cJ B i n
    unfold valD at ih ⊢
    unfold uH at ih ⊢
    rw [List.range_succ, List.map_append, List.find?_append]
    by_cases h : i < n
    · rw [if_pos h] at ih
      rw [if_pos (by omega)]
      cases z : List.find? (fun q : Key × D => decide (q.1 = Sum.inl (i : Int))) ((List.range n).map fun (k : Nat) => (Sum.inl (k : Int), D.ref (sA B k))) with
      | none => rw [z] at ih; cases ih
      | some q => rw [z] at ih; exact ih
    · rw [if_neg h] at ih
      cases z : List.find? (fun q : Key × D => decide (q.1 = Sum.inl (i : Int))) ((List.range n).map fun (k : Nat) => (Sum.inl (k : Int), D.ref (sA B k))) with
      | some q => rw [z] at ih; cases ih
      | none =>
        by_cases e : i = n
        · subst e
          rw [if_pos (by omega)]
          simp
        · rw [if_neg (by omega)]
          have : ¬ (n : Int) = (i : Int) := by omega
          simp [this]
theorem abn (r : Rw) (h : AH) : jK [r.enc] h = .ok (opI r.by_) h := by
  unfold jK
  cases r <;> (wp_walk using "ex", aH, Rw.enc, Rw.by_, opI)
end cY
noncomputable section
namespace cY
open PySem PySem.Spec PyProof.Rows L2 PD
theorem oW {cs : List Str} {f c : Str} {fs : List (Str × D)} {v : D} {n : Nat} {h : AH} (e : h[n]? = some (.ins c fs)) (hc : c ∈ cs) (hl : fs.lookup f = some v) : mZ cs f (.ref n) h = .ok v h := by
  unfold mZ clsOf
  simp only [e, hc, hl, if_true]
section
variable {B : Nat} {raw : Bool} {must : D} {many : Int} {h : AH}
theorem lO (e : h[B]? = some (.ins "Watch" (cX B raw must many))) : mZ cG "tasks" (.ref B) h = .ok (.ref (B + 5)) h := oW e (by simp) (by unfold cX; simp only [oE, pK, String.reduceEq, if_false])
theorem Cq (e : h[B]? = some (.ins "Watch" (cX B raw must many))) : mZ j9 "latest" (.ref B) h = .ok (.ref (B + 9)) h := oW e (by simp) (by unfold cX; simp only [oE, pK, String.reduceEq, if_false])
theorem aah (e : h[B]? = some (.ins "Watch" (cX B raw must many))) : mZ qR "homes" (.ref B) h = .ok (.ref (B + 10)) h := oW e (by simp) (by unfold cX; simp only [oE, pK, String.reduceEq, if_false])
theorem aif (e : h[B]? = some (.ins "Watch" (cX B raw must many))) : mZ yS "raw" (.ref B) h = .ok (.bl raw) h := oW e (by simp) (by unfold cX; simp only [oE, pK, String.reduceEq, if_false])
theorem abo (e : h[B]? = some (.ins "Watch" (cX B raw must many))) : mZ qd "must" (.ref B) h = .ok must h := oW e (by simp) (by unfold cX; simp only [oE, pK, String.reduceEq, if_false])
theorem abp (e : h[B]? = some (.ins "Watch" (cX B raw must many))) : mZ jk "many" (.ref B) h = .ok (.int many) h := oW e (by simp) (by unfold cX; simp only [oE, pK, String.reduceEq, if_false])
variable {k n : Nat} {t : Tk}
theorem Et (e : h[n]? = some (fU B k t)) : mZ jw "beginner" (.ref n) h = .ok (Cp k) h := oW e (by simp) (by unfold iT; simp only [oE, pK, String.reduceEq, if_false])
theorem jc (e : h[n]? = some (fU B k t)) : mZ fY "ending" (.ref n) h = .ok (Gm t.fin) h := oW e (by simp) (by unfold iT; simp only [oE, pK, String.reduceEq, if_false])
theorem abq (e : h[n]? = some (fU B k t)) : mZ mQ "owed" (.ref n) h = .ok (.bl t.due) h := oW e (by simp) (by unfold iT; simp only [oE, pK, String.reduceEq, if_false])
theorem DR (e : h[n]? = some (fU B k t)) : mZ jN "shut" (.ref n) h = .ok (.bl t.shut) h := oW e (by simp) (by unfold iT; simp only [oE, pK, String.reduceEq, if_false])
theorem Ai (e : h[n]? = some (fU B k t)) : mZ d8 "state" (.ref n) h = .ok (Ah t.gone) h := oW e (by simp) (by unfold iT; simp only [oE, pK, String.reduceEq, if_false])
theorem aii (e : h[n]? = some (fU B k t)) : mZ vG "had" (.ref n) h = .ok (.ref (sA B k + 1)) h := oW e (by simp) (by unfold iT; simp only [oE, pK, String.reduceEq, if_false])
theorem aai (e : h[n]? = some (fU B k t)) : mZ qQ "lasts" (.ref n) h = .ok (.ref (sA B k + 2)) h := oW e (by simp) (by unfold iT; simp only [oE, pK, String.reduceEq, if_false])
theorem xW {mn : Str} {cs : List Str} (e : h[B]? = some (.ins "Watch" (cX B raw must many))) (hc : ("Watch" : Str) ∈ cs) (hl : (cX B raw must many).lookup mn = none) : Ua cs mn (.ref B) h := ⟨_, _, by simp only [clsOf, e], hc, hl⟩
end
def jM : List (String × Bool) → D
  | [] => .non
  | (w, b) :: r => if b then .str w else jM r
def fsB : MS := (cA (dX (ao 2)) (bK (ao 1)) bV)
theorem abr {e0 : Option D} : ∀ (rows : List (String × Bool)) (x1 x2 : Option D) (h : AH), ∃ y1 y2 : Option D,
    forL (gj (eG 2 (PD.gCons (PD.gName 1) (PD.gCons (PD.gName 2) PD.gNil)))) fsB (rows.map fun q => .tup [.str (PySem.Str.ofString q.1), .bl q.2]) [e0, x1, x2] h =
      (if rows.any (·.2) then .rt (jM rows) h else .nx [e0, y1, y2] h) ∧ (rows.any (·.2) = false → jM rows = .non)
  | [], x1, x2, h => ⟨x1, x2, rfl, fun _ => rfl⟩
  | (w, b) :: r, x1, x2, h => by
    obtain ⟨y1, y2, ih, ih2⟩ := abr (e0 := e0) r (some (.str w)) (some (.bl b)) h
    refine ⟨y1, y2, ?_, ?_⟩
    · rw [List.map_cons]
      unfold forL
      unfold fsB at ih ⊢
      cases b with
      | true => (wp_walk using "ex", aH, List.any_cons, jM)
      | false =>
        (wp_walk using "ex", aH, List.any_cons, jM)
        exact ih
    · cases b with
      | true => intro z; simp at z
      | false =>
        intro z
        rw [List.any_cons, Bool.false_or] at z
        exact ih2 z
theorem vB (rows : List (String × Bool)) (h : AH) : dZ [.lst (rows.map fun q => .tup [.str (PySem.Str.ofString q.1), .bl q.2])] h = .ok (jM rows) h := by
  obtain ⟨y1, y2, e, e2⟩ := abr (e0 := some (.lst (rows.map fun q => .tup [.str (PySem.Str.ofString q.1), .bl q.2]))) rows none none h
  unfold fsB at e
  unfold dZ
  cases z : rows.any (·.2) with
  | true =>
    rw [z] at e
    (wp_walk using "ex", aH, e)
  | false =>
    rw [z] at e
    (wp_walk using "ex", aH, e, e2 z)
theorem fs1 {a : String} {x : Bool} {h : AH} : dZ [.lst [.tup [.str (PySem.Str.ofString a), .bl x]]] h = .ok (jM [(a, x)]) h := vB [(a, x)] h
theorem fs2 {a b : String} {x y : Bool} {h : AH} : dZ [.lst [.tup [.str (PySem.Str.ofString a), .bl x], .tup [.str (PySem.Str.ofString b), .bl y]]] h = .ok (jM [(a, x), (b, y)]) h := vB [(a, x), (b, y)] h
theorem fs3 {a b c : String} {x y z : Bool} {h : AH} : dZ [.lst [.tup [.str (PySem.Str.ofString a), .bl x], .tup [.str (PySem.Str.ofString b), .bl y], .tup [.str (PySem.Str.ofString c), .bl z]]] h = .ok (jM [(a, x), (b, y), (c, z)]) h := vB [(a, x), (b, y), (c, z)] h
theorem fs6 {a b c d e f : String} {x y z u v w : Bool} {h : AH} : dZ [.lst [.tup [.str (PySem.Str.ofString a), .bl x], .tup [.str (PySem.Str.ofString b), .bl y], .tup [.str (PySem.Str.ofString c), .bl z], .tup [.str (PySem.Str.ofString d), .bl u], .tup [.str (PySem.Str.ofString e), .bl v], .tup [.str (PySem.Str.ofString f), .bl w]]] h =
    .ok (jM [(a, x), (b, y), (c, z), (d, u), (e, v), (f, w)]) h := vB [(a, x), (b, y), (c, z), (d, u), (e, v), (f, w)] h
def vN (lt : List (Key × D)) (n : Nat) : Bool := match pG (lt.map (·.2)) with
  | some js => js.any fun j => PyData.eqv (.int j) (.int (n : Int))
  | none => false
section
variable {B : Nat} {raw : Bool} {lt hm : List (Key × D)} {h : AH} {ts : List Tk} {many : Int}
theorem Cr (w : WS B raw lt hm h ts many) {js : List Int} (hj : pG (lt.map (·.2)) = some js) (n : Nat) : gK [.ref B, .int (n : Int)] h = .ok (.bl (vN lt n)) h := by
  have l9 := (List.getElem?_eq_some_iff.mp w.l).1
  have e1 := Cq w.w
  have wb : (h.set (B + 9) (.jE lt))[B]? = some (.ins "Watch" (cX B raw .non many)) := by rw [List.getElem?_set_ne (by omega)]; exact w.w
  have e2 := Cq wb
  have e3 : (h.set (B + 9) (.jE lt))[B + 9]? = some (.jE lt) := by rw [List.getElem?_set_self l9]
  have e4 := xV w.l
  unfold gK vN
  rw [hj]
  (wp_walk using "ex", aH, vY, bM, e1, w.l, aeJ, e2, ZR, e3, hj, e4)
end
end cY
noncomputable section
namespace cY
open PySem PySem.Spec PyProof.Rows L2 PD
theorem aaL {i : Int} {h : AH} : cW .non (.int i) h = some (.bl false, h) := by
  show (dI h _ _).map _ = _
  have e : dI h .non (.int i) = some false := by
    show (if SeqAt.shaped .none = true ∧ SeqAt.shaped (.int i) = true then some (PyData.eqv .none (.int i)) else none) = _
    rw [if_pos ⟨rfl, zJ i⟩]
    rfl
  rw [e]
  rfl
theorem aik {i b : Nat} {h : AH} : cW (Cp i) (.int (b : Int)) h = some (.bl (decide (i ≠ 0 ∧ b = 0)), h) := by
  unfold Cp
  by_cases z : i = 0
  · rw [if_pos z, aaL]
    simp [z]
  · rw [if_neg z, kY]
    have : decide ((0 : Int) = (b : Int)) = decide (i ≠ 0 ∧ b = 0) := by
      by_cases y : b = 0
      · subst y; simp [z]
      · have y2 : ¬ (0 : Int) = (b : Int) := by omega
        simp [y, y2]
    rw [this]
theorem Pr {g : Bool} {h : AH} : jX (Ah g) (.tup [.str "on"]) h = some (.bl g, h) := by
  unfold Ah
  cases g
  · exact adI
  · exact adI
theorem agr {g : Bool} {h : AH} : cW (Ah g) (.tup [.str "on"]) h = some (.bl (!g), h) := by
  unfold Ah
  cases g
  · exact vJ
  · exact vJ
theorem aci {g : Bool} {h : AH} : cW (Ah g) (.tup [.str "killed"]) h = some (.bl g, h) := by
  unfold Ah
  cases g
  · exact vJ
  · exact vJ
theorem fB {f : Option Bool} : PD.isNon (Gm f) = f.isNone := by cases f <;> rfl
theorem QV {n : Nat} {h : AH} (e : h[n]? = some (.lst [])) : jX (.ref n) (.lst []) h = some (.bl false, h) := by
  show (dI h _ _).map _ = _
  have e2 : dI h (.ref n) (.lst []) = some true := by
    have t : nY h 80 (.ref n) = some (.list []) := by
      simp only [nY, e, uU, Option.map_some]
    unfold dI
    rw [t]
    show (if SeqAt.shaped (.list []) = true ∧ SeqAt.shaped (.list []) = true then some (PyData.eqv (.list []) (.list [])) else none) = _
    rw [if_pos ⟨rfl, rfl⟩]
    rfl
  rw [e2]
  rfl
theorem Uu {α : Type} {g : MG} {f : ME} {own : List Nat} {e : En} {h : AH} {G F : α → D} : ∀ (l : List α) (acc : List D), (∀ a ∈ l, ∃ e1, g (G a) (dN e own) h = .ok e1 h ∧ f e1 h = .ok (F a) h) → acc.length + l.length ≤ 16777216 → cQ g fG f own e acc (l.map G) h = .ok (acc ++ l.map F) h
  | [], acc, _, _ => by simp only [cQ, List.map_nil, List.append_nil]
  | d :: ds, acc, q, l => by
    obtain ⟨e1, a, b⟩ := q d List.mem_cons_self
    rw [List.length_cons] at l
    rw [List.map_cons]
    unfold cQ
    rw [a]
    show (match f e1 h with | .ok x h3 => if acc.length < 16777216 then cQ g fG f own e (acc ++ [x]) (ds.map G) h3 else .stuck | _ => .stuck) = _
    rw [b]
    show (if acc.length < 16777216 then cQ g fG f own e (acc ++ [F d]) (ds.map G) h else .stuck) = _
    rw [if_pos (by omega), Uu ds (acc ++ [F d]) (fun d hd => q d (List.mem_cons_of_mem _ hd)) (by simp only [List.length_append, List.length_cons, List.length_nil]; omega), List.map_cons, List.append_assoc]
    rfl
section
variable {B : Nat} {raw : Bool} {lt hm : List (Key × D)} {h : AH} {ts : List Tk} {many : Int}
theorem lQ {mn : Str} (h1 : (["is_latest", "reason", "take", "go_on", "see", "seen"] : List Str).contains mn = true) {must : D} : (cX B raw must many).lookup mn = none := by
  simp only [List.contains_cons, List.contains_nil, Bool.or_false, Bool.or_eq_true, beq_iff_eq] at h1
  rcases h1 with rfl | rfl | rfl | rfl | rfl | rfl <;> (unfold cX; simp only [oE, String.reduceEq, if_false]; rfl)
theorem d9 {n : Nat} (hn : n < ts.length) : ts[n]? = some ts[n] := List.getElem?_eq_getElem hn
def own (n b : Nat) : Bool := decide (n ≠ 0 ∧ b = 0)
theorem abt {i b : Nat} {h : AH} : cW (Cp i) (.int (b : Int)) h = some (.bl (own i b), h) := aik
theorem adJ (w : WS B raw lt hm h ts many) {n : Nat} (hn : n < ts.length) : rF [.ref B, .non, (Rw.kill none n).enc] h = .ok (jM [("over", !ts[n].fin.isNone)]) h := by
  have e1 := lO w.w
  have e3 := jc (w.s n _ (d9 hn))
  unfold rF
  (wp_walk using "ew", aH, aK, aM, aN, aO, aP, Rw.enc, opI, bM, e1, e3, fB, w.t, cJ, hn, fs1)
theorem adK (w : WS B raw lt hm h ts many) {js : List Int} (hj : pG (lt.map (·.2)) = some js) {n b : Nat} (hn : n < ts.length) (hb : b < ts.length) :
    rF [.ref B, .ref (sA B b), (Rw.kill (some b) n).enc] h = .ok (jM [("unwinds", ts[b].gone && !own n b), ("who", !own n b && !vN lt n), ("over", !ts[n].fin.isNone)]) h := by
  have e1 := lO w.w
  have e3 := jc (w.s n _ (d9 hn))
  have e4 := Et (w.s n _ (d9 hn))
  have e5 := Ai (w.s b _ (d9 hb))
  have e6 := xW (cs := lN) (mn := "is_latest") w.w (by simp) (lQ (by decide +kernel))
  have e7 := Cr w hj n
  unfold rF
  cases hg : ts[b].gone <;> cases ho : own n b <;> rw [hg] at e5 <;> (wp_walk using "ew", aH, aK, aM, aN, aO, aP, Bool.and_true, Bool.and_false, Bool.false_and, Bool.true_and, Rw.enc, opI, bM, e1, e3, e4, e5, fB, w.t, cJ, hn, abt, Pr, ho, gQ, e6, e7, fs3)
theorem adL (w : WS B raw lt hm h ts many) {n : Nat} (hn : n < ts.length) : rG [.ref B, .non, (Rw.late none n).enc] h = .ok (jM [("lives", ts[n].fin.isNone)]) h := by
  have e1 := lO w.w
  have e3 := jc (w.s n _ (d9 hn))
  unfold rG
  (wp_walk using "ew", aH, aK, aM, aN, aO, aP, Rw.enc, opI, bM, e1, e3, fB, w.t, cJ, hn, fs1)
theorem adM (w : WS B raw lt hm h ts many) {js : List Int} (hj : pG (lt.map (·.2)) = some js) {n b : Nat} (hn : n < ts.length) (hb : b < ts.length) :
    rG [.ref B, .ref (sA B b), (Rw.late (some b) n).enc] h = .ok (jM [("unwinds", ts[b].gone), ("who", !vN lt n), ("lives", ts[n].fin.isNone)]) h := by
  have e1 := lO w.w
  have e3 := jc (w.s n _ (d9 hn))
  have e5 := Ai (w.s b _ (d9 hb))
  have e6 := xW (cs := lN) (mn := "is_latest") w.w (by simp) (lQ (by decide +kernel))
  have e7 := Cr w hj n
  unfold rG
  (wp_walk using "ew", aH, aK, aM, aN, aO, aP, Rw.enc, opI, bM, e1, e3, e5, fB, w.t, cJ, hn, Pr, gQ, e6, e7, fs3)
theorem Tg (w : WS B raw lt hm h ts many) {n : Nat} (hn : n < ts.length) (d : D) : uE [.ref B, .ref (sA B n), d] h = .ok (jM [("untold", !ts[n].due), ("held", ts[n].shut)]) h := by
  have e3 := abq (w.s n _ (d9 hn))
  have e4 := DR (w.s n _ (d9 hn))
  unfold uE
  (wp_walk using "ew", aH, aK, aM, aN, aO, aP, bM, e3, e4, fs2)
theorem Tj (w : WS B raw lt hm h ts many) {n : Nat} (hn : n < ts.length) (d : D) : uF [.ref B, .ref (sA B n), d] h = .ok (jM [("held", ts[n].shut)]) h := by
  have e4 := DR (w.s n _ (d9 hn))
  unfold uF
  (wp_walk using "ew", aH, aK, aM, aN, aO, aP, bM, e4, fs1)
theorem Tn (w : WS B raw lt hm h ts many) {n : Nat} (hn : n < ts.length) (d : D) : uG [.ref B, .ref (sA B n), d] h = .ok (jM [("open", !ts[n].shut), ("last", false)]) h := by
  have e4 := DR (w.s n _ (d9 hn))
  have e5 := aai (w.s n _ (d9 hn))
  have e6 := QV (w.a n hn).2
  unfold uG
  (wp_walk using "ew", aH, aK, aM, aN, aO, aP, bM, e4, e5, e6, fs2)
end
end cY
noncomputable section
namespace cY
open PySem PySem.Spec PyProof.Rows L2 PD
section
variable {B : Nat} {raw : Bool} {lt hm : List (Key × D)} {h : AH} {ts : List Tk} {many : Int}
def Cu (ts : List Tk) (k : Nat) : Bool := match ts[k]? with
  | some t => t.fin.isNone
  | none => false
def QW (ts : List Tk) (n : Nat) : Bool := (List.range ts.length).any fun k => own k n && Cu ts k
theorem Rz {c : Cell} {n i : Nat} (e : h[i]? = some c) (hi : i ≠ n) (x : Cell) : (h.set n x)[i]? = some c := by
  rw [List.getElem?_set_ne (fun z => hi z.symm)]
  exact e
theorem ajI {B k j : Nat} (hj : j < 6) : sA B k ≠ B + j := by unfold sA; split <;> omega
theorem aaM (F : Nat → Bool) (l : List Nat) : cR (l.map fun k => D.bl (F k)) = some (l.map F) := Cm F l
def ltE : ME := (eO (aG cW (bM jw "beginner" (ao 7)) (aG bD (ao 2) (eC (.int (1))))) (aG jW (bM fY "ending" (ao 7)) (eC .non)))
theorem aeX {B n : Nat} : (uH B n).map (·.2) = (List.range n).map fun k => D.ref (sA B k) := by
  unfold uH
  rw [List.map_map]
  rfl
theorem aeY (w : WS B raw lt hm h ts many) (hl : ts.length < 1000) {n : Nat} {k : Bool} {x0 x1 x3 x4 x5 x6 : Option D} (g : AH) (hg : g = h.set (B + 5) (.jE (uH B ts.length))) :
    cQ (PD.gName 7) fG ltE [7] [x0, x1, some (Rw.ended n k).enc, x3, x4, x5, x6, none] [] ((List.range ts.length).map fun k => D.ref (sA B k)) g =
      .ok ((List.range ts.length).map fun i => .bl (own i n && Cu ts i)) g := by
  have e := Uu (g := PD.gName 7) (f := ltE) (own := [7]) (e := [x0, x1, some (Rw.ended n k).enc, x3, x4, x5, x6, none]) (h := g) (G := fun k => D.ref (sA B k)) (F := fun i => .bl (own i n && Cu ts i)) (List.range ts.length) [] (fun i hi => by
    have hi := List.mem_range.mp hi
    have es := w.s i _ (d9 hi)
    have es2 : g[sA B i]? = some (fU B i ts[i]) := by rw [hg]; exact Rz es (ajI (by decide)) _
    have e1 := Et es2
    have e2 := jc es2
    have e3 : Cu ts i = ts[i].fin.isNone := by unfold Cu; rw [d9 hi]
    refine ⟨[x0, x1, some (Rw.ended n k).enc, x3, x4, x5, x6, some (.ref (sA B i))], ?_, ?_⟩
    · (wp_walk using "ew", aH, aK, aM, aN, aO, aP)
    · unfold ltE
      rw [e3]
      cases ho : own i n <;> (wp_walk using "ew", aH, aK, aM, aN, aO, aP, Rw.enc, bM, e1, e2, abt, ho, fB, Bool.and_false, Bool.false_and, Bool.true_and)) (by simp; omega)
  rw [e, List.nil_append]
theorem aaj (w : WS B raw lt hm h ts many) (hl : ts.length < 1000) {n : Nat} {k : Bool} (hn : n < ts.length) : vA [.ref B, .ref (sA B n), (Rw.ended n k).enc] h =
    .ok (jM [("held", ts[n].shut), ("last", false), ("outlives", QW ts n), ("owed", ts[n].due), ("keeps", false), ("outcome", !(if k then ts[n].gone else !ts[n].gone))]) h := by
  have e1 := lO w.w
  have l5 := (List.getElem?_eq_some_iff.mp w.t).1
  have eb := Rz w.w (n := B + 5) (by omega) (.jE (uH B ts.length))
  have e2 := lO eb
  have e3 : (h.set (B + 5) (.jE (uH B ts.length)))[B + 5]? = some (.jE (uH B ts.length)) := by rw [List.getElem?_set_self l5]
  have e4 := xV w.t
  have lc := aeY w hl (n := n) (k := k) (x0 := some (.ref B)) (x1 := some (.ref (sA B n))) (x3 := none) (x4 := none) (x5 := none) (x6 := none) _ rfl
  have sn := w.s n _ (d9 hn)
  have f1 := DR sn
  have f2 := aai sn
  have f3 := abq sn
  have f4 := aii sn
  have f5 := Ai sn
  have r1 := QV (w.a n hn).1
  have r2 := QV (w.a n hn).2
  have f6 := aif w.w
  have eo : ((List.range ts.length).map fun i => (own i n && Cu ts i)).any id = QW ts n := by unfold QW; rw [List.any_map]; rfl
  unfold vA
  unfold ltE at lc
  generalize (gName 7 : MG) = G7 at lc ⊢
  cases k <;> simp only [Rw.enc, outD, Bool.false_eq_true, ↓reduceIte] at lc ⊢ <;> (wp_walk using "ew", aH, aK, aM, aN, aO, aP, vY, bM, e1, w.t, itV, e2, e3, aeX, lc, e4, anyM, lZ, aaM, eo, vJ, aci, agr, f1, f2, f3, f4, f5, f6, r1, r2, fs6)
end
end cY
noncomputable section
namespace cY
open PySem PySem.Spec PyProof.Rows L2 PD
def tk (ts : List Tk) (n : Nat) : Tk := ts.getD n ⟨none, false, false, false, none⟩
theorem jA {ts : List Tk} {n : Nat} (hn : n < ts.length) : ts[n] = tk ts n := by
  unfold tk
  rw [List.getD_eq_getElem?_getD, List.getElem?_eq_getElem hn]
  rfl
theorem abu {ts : List Tk} {n : Nat} (hn : n < ts.length) : Cu ts n = (tk ts n).fin.isNone := by
  unfold Cu
  rw [List.getElem?_eq_getElem hn, jA hn]
def qX (lt : List (Key × D)) (ts : List Tk) : Rw → D
  | .kill none n => jM [("over", !(tk ts n).fin.isNone)]
  | .kill (some b) n => jM [("unwinds", (tk ts b).gone && !own n b), ("who", !own n b && !vN lt n), ("over", !(tk ts n).fin.isNone)]
  | .late none n => jM [("lives", (tk ts n).fin.isNone)]
  | .late (some b) n => jM [("unwinds", (tk ts b).gone), ("who", !vN lt n), ("lives", (tk ts n).fin.isNone)]
  | .landed n => jM [("untold", !(tk ts n).due), ("held", (tk ts n).shut)]
  | .masked n => jM [("held", (tk ts n).shut)]
  | .opened n => jM [("open", !(tk ts n).shut), ("last", false)]
  | .ended n k => jM [("held", (tk ts n).shut), ("last", false), ("outlives", QW ts n), ("owed", (tk ts n).due), ("keeps", false), ("outcome", !(if k then (tk ts n).gone else !(tk ts n).gone))]
def iU (ts : List Tk) : Option Nat → Bool
  | none => false
  | some b => !(tk ts b).fin.isNone
def acj (lt : List (Key × D)) (ts : List Tk) (r : Rw) : D := if r.num < ts.length then (if iU ts r.by_ then .str "ended" else qX lt ts r) else .str "task"
theorem abv : j5 "kill" = some (some (.glo "ask_kill")) := rfl
theorem adN : j5 "late" = some (some (.glo "ask_late")) := rfl
theorem aeZ : j5 "landed" = some (some (.glo "ask_landed")) := rfl
theorem ae0 : j5 "masked" = some (some (.glo "ask_masked")) := rfl
theorem ae1 : j5 "opened" = some (some (.glo "ask_opened")) := rfl
theorem ags : j5 "ended" = some (some (.glo "ask_ended")) := rfl
theorem ajJ : j5 "begun" = some (some (.glo "ask_begun")) := rfl
theorem ajK {x : String} {m : List D → AH → Res D} {l : List (Str × (List D → AH → Res D))} : wR ((PySem.Str.ofString x, m) :: l) (PySem.Str.ofString x) = some m := by
  unfold wR
  simp
theorem v7 {x y : String} {m : List D → AH → Res D} {l : List (Str × (List D → AH → Res D))} : wR ((PySem.Str.ofString y, m) :: l) (PySem.Str.ofString x) = if y = x then some m else wR l (PySem.Str.ofString x) := by
  by_cases e : y = x
  · subst e
    rw [if_pos rfl]
    exact ajK
  · rw [if_neg e]
    have n : ¬ PySem.Str.ofString y = PySem.Str.ofString x := fun z => e (v8 z)
    unfold wR
    simp [n]
theorem gR {a b c : D} {h : AH} : yj (.tup [a, b, c]) (some 2) none h = some (.tup [c], h) := rfl
section
variable {B : Nat} {raw : Bool} {lt hm : List (Key × D)} {h : AH} {ts : List Tk} {many : Int}
theorem RB (w : WS B raw lt hm h ts many) {js : List Int} (hj : pG (lt.map (·.2)) = some js) (hl : ts.length < 1000) (r : Rw) (sm : r.sm) (hb : ∀ b, r.by_ = some b → r.by_ = some r.num ∨ b < ts.length) :
    dJ [.ref B, r.enc] h = .ok (acj lt ts r) h := by
  have lr := agq r sm h
  have e0 := abo w.w
  have dr := abn r h
  have e1 := lO w.w
  unfold dJ
  generalize jJ = P1 at lr ⊢
  generalize jK = P2 at dr ⊢
  unfold acj
  cases r with
  | kill b n =>
    have hr : (Rw.kill b n).num = n := rfl
    rw [hr]
    cases b with
    | none =>
      by_cases hn : n < ts.length
      · have ea := adJ w hn
        rw [jA hn] at ea
        rw [if_pos hn]
        simp only [Rw.enc, opI, Rw.by_] at lr dr ea ⊢
        (wp_walk using "ew", aH, aK, aM, aN, aO, aP, lr, bM, e0, dr, cQ, e1, w.t, cJ, hn, allM, lZ, cR, List.all_cons, List.all_nil, id, Nat.reduceLT, c0, c1, c2, c3, Bool.and_self, Bool.and_true, Bool.and_false, Bool.false_and, gR, wO, wN, abv, pX, v7, ea, iU, qX)
      · rw [if_neg hn]
        simp only [Rw.enc, opI, Rw.by_] at lr dr ⊢
        (wp_walk using "ew", aH, aK, aM, aN, aO, aP, lr, bM, e0, dr, cQ, e1, w.t, cJ, hn, allM, lZ, cR, List.all_cons, List.all_nil, id, Nat.reduceLT, c0, c1, c2, c3, Bool.and_self, Bool.and_true, Bool.and_false, Bool.false_and, gR)
    | some b =>
      by_cases hn : n < ts.length
      · have hbl : b < ts.length := by
          rcases hb b rfl with z | z
          · have z2 : b = n := Option.some.inj z
            omega
          · exact z
        have ea := adK w hj hn hbl
        rw [jA hn, jA hbl] at ea
        have e6 := jc (w.s b _ (d9 hbl))
        rw [jA hbl] at e6
        rw [if_pos hn]
        simp only [Rw.enc, opI, Rw.by_] at lr dr ea ⊢
        cases hf : (tk ts b).fin.isNone <;> (wp_walk using "ew", aH, aK, aM, aN, aO, aP, lr, bM, e0, dr, cQ, e1, w.t, cJ, hn, allM, lZ, cR, List.all_cons, List.all_nil, id, Nat.reduceLT, c0, c1, c2, c3, Bool.and_self, Bool.and_true, Bool.and_false, Bool.false_and, hbl, gR, e6, fB, hf, wO, wN, abv, pX, v7, ea, iU, qX)
      · rw [if_neg hn]
        simp only [Rw.enc, opI, Rw.by_] at lr dr ⊢
        by_cases hbl : b < ts.length <;> (wp_walk using "ew", aH, aK, aM, aN, aO, aP, lr, bM, e0, dr, cQ, e1, w.t, cJ, hn, allM, lZ, cR, List.all_cons, List.all_nil, id, Nat.reduceLT, c0, c1, c2, c3, Bool.and_self, Bool.and_true, Bool.and_false, Bool.false_and, hbl, gR)
  | late b n =>
    have hr : (Rw.late b n).num = n := rfl
    rw [hr]
    cases b with
    | none =>
      by_cases hn : n < ts.length
      · have ea := adL w hn
        rw [jA hn] at ea
        rw [if_pos hn]
        simp only [Rw.enc, opI, Rw.by_] at lr dr ea ⊢
        (wp_walk using "ew", aH, aK, aM, aN, aO, aP, lr, bM, e0, dr, cQ, e1, w.t, cJ, hn, allM, lZ, cR, List.all_cons, List.all_nil, id, Nat.reduceLT, c0, c1, c2, c3, Bool.and_self, Bool.and_true, Bool.and_false, Bool.false_and, gR, wO, wN, adN, pX, v7, ea, iU, qX)
      · rw [if_neg hn]
        simp only [Rw.enc, opI, Rw.by_] at lr dr ⊢
        (wp_walk using "ew", aH, aK, aM, aN, aO, aP, lr, bM, e0, dr, cQ, e1, w.t, cJ, hn, allM, lZ, cR, List.all_cons, List.all_nil, id, Nat.reduceLT, c0, c1, c2, c3, Bool.and_self, Bool.and_true, Bool.and_false, Bool.false_and, gR)
    | some b =>
      by_cases hn : n < ts.length
      · have hbl : b < ts.length := by
          rcases hb b rfl with z | z
          · have z2 : b = n := Option.some.inj z
            omega
          · exact z
        have ea := adM w hj hn hbl
        rw [jA hn, jA hbl] at ea
        have e6 := jc (w.s b _ (d9 hbl))
        rw [jA hbl] at e6
        rw [if_pos hn]
        simp only [Rw.enc, opI, Rw.by_] at lr dr ea ⊢
        cases hf : (tk ts b).fin.isNone <;> (wp_walk using "ew", aH, aK, aM, aN, aO, aP, lr, bM, e0, dr, cQ, e1, w.t, cJ, hn, allM, lZ, cR, List.all_cons, List.all_nil, id, Nat.reduceLT, c0, c1, c2, c3, Bool.and_self, Bool.and_true, Bool.and_false, Bool.false_and, hbl, gR, e6, fB, hf, wO, wN, adN, pX, v7, ea, iU, qX)
      · rw [if_neg hn]
        simp only [Rw.enc, opI, Rw.by_] at lr dr ⊢
        by_cases hbl : b < ts.length <;> (wp_walk using "ew", aH, aK, aM, aN, aO, aP, lr, bM, e0, dr, cQ, e1, w.t, cJ, hn, allM, lZ, cR, List.all_cons, List.all_nil, id, Nat.reduceLT, c0, c1, c2, c3, Bool.and_self, Bool.and_true, Bool.and_false, Bool.false_and, hbl, gR)
  | landed n =>
    have hr : (Rw.landed n).num = n := rfl
    rw [hr]
    by_cases hn : n < ts.length
    · have ea := Tg w hn (Rw.landed n).enc
      rw [jA hn] at ea
      have e6 := jc (w.s n _ (d9 hn))
      rw [jA hn] at e6
      rw [if_pos hn]
      simp only [Rw.enc, opI, Rw.by_] at lr dr ea ⊢
      cases hf : (tk ts n).fin.isNone <;> (wp_walk using "ew", aH, aK, aM, aN, aO, aP, lr, bM, e0, dr, cQ, e1, w.t, cJ, hn, allM, lZ, cR, List.all_cons, List.all_nil, id, Nat.reduceLT, c0, c1, c2, c3, Bool.and_self, Bool.and_true, Bool.and_false, Bool.false_and, e6, fB, hf, wO, wN, aeZ, pX, v7, ea, iU, qX)
    · rw [if_neg hn]
      simp only [Rw.enc, opI, Rw.by_] at lr dr ⊢
      (wp_walk using "ew", aH, aK, aM, aN, aO, aP, lr, bM, e0, dr, cQ, e1, w.t, cJ, hn, allM, lZ, cR, List.all_cons, List.all_nil, id, Nat.reduceLT, c0, c1, c2, c3, Bool.and_self, Bool.and_true, Bool.and_false, Bool.false_and)
  | masked n =>
    have hr : (Rw.masked n).num = n := rfl
    rw [hr]
    by_cases hn : n < ts.length
    · have ea := Tj w hn (Rw.masked n).enc
      rw [jA hn] at ea
      have e6 := jc (w.s n _ (d9 hn))
      rw [jA hn] at e6
      rw [if_pos hn]
      simp only [Rw.enc, opI, Rw.by_] at lr dr ea ⊢
      cases hf : (tk ts n).fin.isNone <;> (wp_walk using "ew", aH, aK, aM, aN, aO, aP, lr, bM, e0, dr, cQ, e1, w.t, cJ, hn, allM, lZ, cR, List.all_cons, List.all_nil, id, Nat.reduceLT, c0, c1, c2, c3, Bool.and_self, Bool.and_true, Bool.and_false, Bool.false_and, e6, fB, hf, wO, wN, ae0, pX, v7, ea, iU, qX)
    · rw [if_neg hn]
      simp only [Rw.enc, opI, Rw.by_] at lr dr ⊢
      (wp_walk using "ew", aH, aK, aM, aN, aO, aP, lr, bM, e0, dr, cQ, e1, w.t, cJ, hn, allM, lZ, cR, List.all_cons, List.all_nil, id, Nat.reduceLT, c0, c1, c2, c3, Bool.and_self, Bool.and_true, Bool.and_false, Bool.false_and)
  | opened n =>
    have hr : (Rw.opened n).num = n := rfl
    rw [hr]
    by_cases hn : n < ts.length
    · have ea := Tn w hn (Rw.opened n).enc
      rw [jA hn] at ea
      have e6 := jc (w.s n _ (d9 hn))
      rw [jA hn] at e6
      rw [if_pos hn]
      simp only [Rw.enc, opI, Rw.by_] at lr dr ea ⊢
      cases hf : (tk ts n).fin.isNone <;> (wp_walk using "ew", aH, aK, aM, aN, aO, aP, lr, bM, e0, dr, cQ, e1, w.t, cJ, hn, allM, lZ, cR, List.all_cons, List.all_nil, id, Nat.reduceLT, c0, c1, c2, c3, Bool.and_self, Bool.and_true, Bool.and_false, Bool.false_and, e6, fB, hf, wO, wN, ae1, pX, v7, ea, iU, qX)
    · rw [if_neg hn]
      simp only [Rw.enc, opI, Rw.by_] at lr dr ⊢
      (wp_walk using "ew", aH, aK, aM, aN, aO, aP, lr, bM, e0, dr, cQ, e1, w.t, cJ, hn, allM, lZ, cR, List.all_cons, List.all_nil, id, Nat.reduceLT, c0, c1, c2, c3, Bool.and_self, Bool.and_true, Bool.and_false, Bool.false_and)
  | ended n k =>
    have hr : (Rw.ended n k).num = n := rfl
    rw [hr]
    by_cases hn : n < ts.length
    · have ea := aaj w hl (k := k) hn
      rw [jA hn] at ea
      have e6 := jc (w.s n _ (d9 hn))
      rw [jA hn] at e6
      rw [if_pos hn]
      simp only [Rw.enc, opI, Rw.by_] at lr dr ea ⊢
      cases hf : (tk ts n).fin.isNone <;> (wp_walk using "ew", aH, aK, aM, aN, aO, aP, lr, bM, e0, dr, cQ, e1, w.t, cJ, hn, allM, lZ, cR, List.all_cons, List.all_nil, id, Nat.reduceLT, c0, c1, c2, c3, Bool.and_self, Bool.and_true, Bool.and_false, Bool.false_and, e6, fB, hf, wO, wN, ags, pX, v7, ea, iU, qX)
    · rw [if_neg hn]
      simp only [Rw.enc, opI, Rw.by_] at lr dr ⊢
      (wp_walk using "ew", aH, aK, aM, aN, aO, aP, lr, bM, e0, dr, cQ, e1, w.t, cJ, hn, allM, lZ, cR, List.all_cons, List.all_nil, id, Nat.reduceLT, c0, c1, c2, c3, Bool.and_self, Bool.and_true, Bool.and_false, Bool.false_and)
end
end cY
noncomputable section
namespace cY
open PySem PySem.Spec PyProof.Rows L2 PD
theorem jm {n : Nat} (G : Nat → D) {len : Nat} (hn : n < len) : atI ((List.range len).map G) (n : Int) = some (G n) := by
  unfold atI ixN
  rw [if_pos (by omega), if_pos (by simp; omega)]
  simp [hn]
theorem iV {h : AH} : jX (.lst []) (.lst []) h = some (.bl false, h) := by
  show (dI h _ _).map _ = _
  have e : dI h (.lst []) (.lst []) = some true := by
    show (if SeqAt.shaped (.list []) = true ∧ SeqAt.shaped (.list []) = true then some (PyData.eqv (.list []) (.list [])) else none) = _
    rw [if_pos ⟨rfl, rfl⟩]
    rfl
  rw [e]
  rfl
theorem ail {h : AH} : cW (.lst []) (.lst []) h = some (.bl true, h) := by
  show (dI h _ _).map _ = _
  have e : dI h (.lst []) (.lst []) = some true := by
    show (if SeqAt.shaped (.list []) = true ∧ SeqAt.shaped (.list []) = true then some (PyData.eqv (.list []) (.list [])) else none) = _
    rw [if_pos ⟨rfl, rfl⟩]
    rfl
  rw [e]
  rfl
theorem ji {i : Int} {h : AH} : jX (.lst [.int i]) (.lst []) h = some (.bl true, h) := by
  show (dI h _ _).map _ = _
  have e : dI h (.lst [.int i]) (.lst []) = some false := by
    have s1 : SeqAt.shaped (.list [.int i]) = true := rfl
    show (if SeqAt.shaped (.list [.int i]) = true ∧ SeqAt.shaped (.list []) = true then some (PyData.eqv (.list [.int i]) (.list [])) else none) = _
    rw [if_pos ⟨s1, rfl⟩]
    rfl
  rw [e]
  rfl
theorem ain {a b : Bool} {h : AH} : jX (.bl a) (.bl b) h = some (.bl (a != b), h) := by
  show (dI h _ _).map _ = _
  have e : dI h (.bl a) (.bl b) = some (a == b) := by
    show (if SeqAt.shaped (.bool a) = true ∧ SeqAt.shaped (.bool b) = true then some (PyData.eqv (.bool a) (.bool b)) else none) = _
    rw [if_pos ⟨rfl, rfl⟩]
    cases a <;> cases b <;> rfl
  rw [e]
  rfl
theorem uJ {ds : List D} : (List.replicate (Int.toNat 1) ds).flatten = ds := by
  show (List.replicate 1 ds).flatten = ds
  simp
theorem uK {ds : List D} : (List.replicate (Int.toNat 0) ds).flatten = [] := rfl
section
variable {B : Nat} {h : AH} {ts : List Tk}
theorem tK (l : LS B h ts) {n : Nat} (hn : n < ts.length) : h[dA B n]? = some (.dict [(.inr "name", Es (tk ts n).name), (.inr "due", .bl (tk ts n).due), (.inr "shut", .bl (tk ts n).shut), (.inr "gone", .bl (tk ts n).gone), (.inr "end", Gm (tk ts n).fin)]) := by
  rw [← jA hn]
  exact l.d n _ (d9 hn)
def RD : Option Str → Option Str → Bool
  | none, none => true
  | some a, some b => a == b
  | _, _ => false
def okN : Option Str → Prop
  | none => True
  | some a => GB.Ed a
theorem aio {h : AH} : cW .non .non h = some (.bl true, h) := by
  show (dI h _ _).map _ = _
  have e : dI h .non .non = some true := by
    show (if SeqAt.shaped .none = true ∧ SeqAt.shaped .none = true then some (PyData.eqv .none .none) else none) = _
    rw [if_pos ⟨rfl, rfl⟩]
    rfl
  rw [e]
  rfl
theorem adP {s : Str} (hs : GB.Ed s) {h : AH} : cW .non (.str s) h = some (.bl false, h) ∧ cW (.str s) .non h = some (.bl false, h) := by
  have e1 : dI h .non (.str s) = some false := by
    show (if SeqAt.shaped .none = true ∧ SeqAt.shaped (.str s) = true then some (PyData.eqv .none (.str s)) else none) = _
    rw [if_pos ⟨rfl, vX hs⟩]
    rfl
  have e2 : dI h (.str s) .non = some false := by
    show (if SeqAt.shaped (.str s) = true ∧ SeqAt.shaped .none = true then some (PyData.eqv (.str s) .none) else none) = _
    rw [if_pos ⟨vX hs, rfl⟩]
    rfl
  constructor
  · show (dI h _ _).map _ = _
    rw [e1]
    rfl
  · show (dI h _ _).map _ = _
    rw [e2]
    rfl
theorem agt {a b : Option Str} (ha : okN a) (hb : okN b) {h : AH} : cW (Es a) (Es b) h = some (.bl (RD a b), h) := by
  cases a with
  | none =>
    cases b with
    | none => exact aio
    | some b => exact (adP hb).1
  | some a =>
    cases b with
    | none => exact (adP ha).2
    | some b =>
      show (dI h _ _).map _ = _
      rw [show Es (some a) = .str a from rfl, show Es (some b) = .str b from rfl, FZ ha hb]
      rfl
theorem agu {a b : Option Str} (ha : okN a) (hb : okN b) {h : AH} : Rj cW (Es a) (Es b) h = some (.bl (RD a b), h) := by
  have e := agt ha hb (h := h)
  unfold Rj
  cases a <;> exact e
theorem yL {α : Type} {g : MG} {t : MT} {f : ME} {own : List Nat} {e : En} {h : AH} {G : α → D} {p : α → Bool} : ∀ (l : List α) (acc : List D), (∀ a ∈ l, ∃ e1, g (G a) (dN e own) h = .ok e1 h ∧ t e1 h = .ok (p a) h ∧ f e1 h = .ok (G a) h) → acc.length + l.length ≤ 16777216 →
    cQ g t f own e acc (l.map G) h = .ok (acc ++ (l.filter p).map G) h
  | [], acc, _, _ => by simp only [cQ, List.map_nil, List.append_nil, List.filter_nil]
  | d :: ds, acc, q, l => by
    obtain ⟨e1, a, b, c⟩ := q d List.mem_cons_self
    rw [List.length_cons] at l
    rw [List.map_cons]
    unfold cQ
    rw [a]
    show (match t e1 h with
      | .ok true h2 => match f e1 h2 with
        | .ok x h3 => if acc.length < 16777216 then cQ g t f own e (acc ++ [x]) (ds.map G) h3 else .stuck
        | _ => .stuck
      | .ok false h2 => cQ g t f own e acc (ds.map G) h2
      | _ => .stuck) = _
    rw [b]
    cases hp : p d with
    | false =>
      rw [List.filter_cons_of_neg (by simp [hp])]
      exact yL ds acc (fun d hd => q d (List.mem_cons_of_mem _ hd)) (by omega)
    | true =>
      rw [List.filter_cons_of_pos hp, List.map_cons]
      show (match f e1 h with
        | .ok x h3 => if acc.length < 16777216 then cQ g t f own e (acc ++ [x]) (ds.map G) h3 else .stuck
        | _ => .stuck) = _
      rw [c]
      show (if acc.length < 16777216 then cQ g t f own e (acc ++ [G d]) (ds.map G) h else .stuck) = _
      rw [if_pos (by omega), yL ds (acc ++ [G d]) (fun d hd => q d (List.mem_cons_of_mem _ hd)) (by simp only [List.length_append, List.length_cons, List.length_nil]; omega), List.append_assoc]
      rfl
theorem agv {ds : List D} {h : AH} : Rj cW (.lst ds) (.lst []) h = some (.bl ds.isEmpty, h) := by
  cases ds with
  | nil => exact ail
  | cons d ds => rfl
theorem ae2 {ds : List D} {h : AH} : neL jX (.lst ds) (.lst []) h = some (.bl (!ds.isEmpty), h) := by
  cases ds with
  | nil => exact iV
  | cons d ds => rfl
theorem aip {a b : Bool} {h : AH} : neL jX (.bl a) (.bl b) h = some (.bl (a != b), h) := ain
theorem aak {α : Type} (n : Nat) (l : List α) : PD.cutD l (some (n : Int)) none = l.drop n := by
  unfold PD.cutD
  have e1 : HT.sIx l.length l.length none = l.length := rfl
  have e2 : HT.sIx l.length 0 (some (n : Int)) = min n l.length := by
    unfold HT.sIx
    simp only
    split
    · omega
    · omega
  rw [e1, e2]
  by_cases h : n ≤ l.length
  · rw [Nat.min_eq_left h]
    exact List.take_of_length_le (by simp)
  · rw [Nat.min_eq_right (by omega), List.drop_of_length_le (Nat.le_refl _), List.drop_of_length_le (by omega)]
    exact List.take_nil
def u5 (ts : List Tk) (n : Nat) : Bool := decide (0 < n) && (((List.range ts.length).drop (n + 1)).filter fun k => RD (tk ts k).name (tk ts n).name).isEmpty
def okT (ts : List Tk) : Prop := ∀ n, n < ts.length → okN (tk ts n).name
def ltT : MT := (bY (aG (Rj cW) (aG bD (ao 3) (eC (.str "name"))) (aG bD (aG bD (ao 0) (ao 1)) (eC (.str "name")))))
theorem aam (l : LS B h ts) (ok : okT ts) (hl : ts.length < 1000) {n : Nat} (hn : n < ts.length) : rH [.ref (B + 12), .int (n : Int)] h = .ok (.bl (u5 ts n)) h := by
  have dn := tK l hn
  have an := jm (fun k => D.ref (dA B k)) hn
  have cs : ((n : Int) + 1) = ((n + 1 : Nat) : Int) := by omega
  have lc := yL (g := PD.gName 3) (t := ltT) (f := ao 3) (own := [3]) (e := [some (.ref (B + 12)), some (.int (n : Int)), none, none]) (h := h) (G := fun k => D.ref (dA B k)) (p := fun k => RD (tk ts k).name (tk ts n).name) ((List.range ts.length).drop (n + 1)) [] (fun k hk => by
    have hk := List.mem_range.mp (List.mem_of_mem_drop hk)
    have dk := tK l hk
    have eq := agu (ok k hk) (ok n hn) (h := h)
    refine ⟨[some (.ref (B + 12)), some (.int (n : Int)), none, some (.ref (dA B k))], ?_, ?_, ?_⟩
    · (wp_walk using "ew", aH, aK, aM, aN, aO, aP)
    · unfold ltT
      (wp_walk using "ew", aH, aK, aM, aN, aO, aP, dk, l.l, an, dn, eq)
    · (wp_walk using "ew", aH, aK, aM, aN, aO, aP)) (by simp; omega)
  have hp : decide ((0 : Int) < (n : Int)) = decide (0 < n) := by
    by_cases z : 0 < n
    · rw [decide_eq_true z, decide_eq_true (by omega)]
    · rw [decide_eq_false z, decide_eq_false (by omega)]
  have em : (((List.range ts.length).drop (n + 1)).filter fun k => RD (tk ts k).name (tk ts n).name).isEmpty = ((((List.range ts.length).drop (n + 1)).filter fun k => RD (tk ts k).name (tk ts n).name).map fun k => D.ref (dA B k)).isEmpty := by
    rw [List.isEmpty_map]
  have dc : PD.cutD ((List.range ts.length).map fun k => D.ref (dA B k)) (some ((n + 1 : Nat) : Int)) none = ((List.range ts.length).drop (n + 1)).map fun k => D.ref (dA B k) := by
    rw [aak, List.map_drop]
  have sl : yj (.ref (B + 12)) (some ((n + 1 : Nat) : Int)) none h = some (.lst (((List.range ts.length).drop (n + 1)).map fun k => D.ref (dA B k)), h) := by
    simp only [yj, l.l, dc]
  rw [List.nil_append] at lc
  unfold rH u5
  unfold ltT at lc
  rw [em]
  generalize (gName 3 : MG) = G3 at lc ⊢
  cases z : decide (0 < n) <;> rw [z] at hp <;> (wp_walk using "ew", aH, aK, aM, aN, aO, aP, cs, sl, lc, hp, agv, Bool.false_and, Bool.true_and)
end
end cY
noncomputable section
namespace cY
open PySem PySem.Spec PyProof.Rows L2 PD
section
variable {B : Nat} {h : AH} {ts : List Tk}
def Gn (n b : Nat) : Bool := decide (b = 0) && decide (0 < n)
def uI (ts : List Tk) : Rw → String
  | .kill none n => if (tk ts n).fin.isNone then "" else "over"
  | .kill (some b) n => if (tk ts b).gone && !Gn n b then "unwinds" else if !u5 ts n && !Gn n b then "who" else if (tk ts n).fin.isNone then "" else "over"
  | .late none n => if (tk ts n).fin.isNone then "lives" else ""
  | .late (some b) n => if (tk ts b).gone then "unwinds" else if !u5 ts n then "who" else if (tk ts n).fin.isNone then "lives" else ""
  | _ => ""
theorem ais (n b : Nat) : own n b = Gn n b := by
  unfold own Gn
  by_cases h1 : b = 0 <;> by_cases h2 : 0 < n <;> simp [h1, h2] <;> omega
theorem d0 {b : Nat} : decide ((b : Int) = 0) = decide (b = 0) := by
  by_cases h : b = 0
  · subst h; rfl
  · rw [decide_eq_false h, decide_eq_false (by omega)]
theorem dp {n : Nat} : decide ((0 : Int) < (n : Int)) = decide (0 < n) := by
  by_cases h : 0 < n
  · rw [decide_eq_true h, decide_eq_true (by omega)]
  · rw [decide_eq_false h, decide_eq_false (by omega)]
theorem adQ (l : LS B h ts) (ok : okT ts) (hl : ts.length < 1000) {b : Option Nat} {n : Nat} (hn : n < ts.length) (hb : ∀ c, b = some c → c < ts.length) : jL [.ref (B + 12), (Rw.kill b n).enc] h = .ok (.str (uI ts (.kill b n))) h := by
  have dn := tK l hn
  have an := jm (fun k => D.ref (dA B k)) hn
  have la := aam l ok hl hn
  unfold jL
  generalize rH = P1 at la ⊢
  cases b with
  | none =>
    cases hf : (tk ts n).fin.isNone <;> (wp_walk using "ew", aH, aK, aM, aN, aO, aP, Rw.enc, opI, l.l, an, dn, fB, hf, uI)
  | some b =>
    have db := tK l (hb b rfl)
    have ab := jm (fun k => D.ref (dA B k)) (hb b rfl)
    cases hf : (tk ts n).fin.isNone <;> cases hg : (tk ts b).gone <;> rw [hg] at db <;> cases hq : u5 ts n <;> rw [hq] at la <;> cases o1 : decide (b = 0) <;> cases o2 : decide (0 < n) <;>
      (wp_walk using "ew", aH, aK, aM, aN, aO, aP, Rw.enc, opI, l.l, an, dn, fB, hf, ab, db, d0, dp, o1, o2, hg, la, hq, uI, Gn, Bool.and_true, Bool.and_false, Bool.false_and, Bool.true_and, gt_iff_lt)
theorem adR (l : LS B h ts) (ok : okT ts) (hl : ts.length < 1000) {b : Option Nat} {n : Nat} (hn : n < ts.length) (hb : ∀ c, b = some c → c < ts.length) : jL [.ref (B + 12), (Rw.late b n).enc] h = .ok (.str (uI ts (.late b n))) h := by
  have dn := tK l hn
  have an := jm (fun k => D.ref (dA B k)) hn
  have la := aam l ok hl hn
  unfold jL
  generalize rH = P1 at la ⊢
  cases b with
  | none =>
    cases hf : (tk ts n).fin.isNone <;> (wp_walk using "ew", aH, aK, aM, aN, aO, aP, Rw.enc, opI, l.l, an, dn, fB, hf, uI)
  | some b =>
    have db := tK l (hb b rfl)
    have ab := jm (fun k => D.ref (dA B k)) (hb b rfl)
    cases hf : (tk ts n).fin.isNone <;> cases hg : (tk ts b).gone <;> rw [hg] at db <;> cases hq : u5 ts n <;> rw [hq] at la <;> cases o1 : decide (b = 0) <;> cases o2 : decide (0 < n) <;>
      (wp_walk using "ew", aH, aK, aM, aN, aO, aP, Rw.enc, opI, l.l, an, dn, fB, hf, ab, db, d0, dp, o1, o2, hg, la, hq, uI, Gn, Bool.and_true, Bool.and_false, Bool.false_and, Bool.true_and, gt_iff_lt)
end
end cY
noncomputable section
namespace cY
open PySem PySem.Spec PyProof.Rows L2 PD
section
variable {B : Nat} {h : AH} {ts : List Tk}
theorem bft : (false != true) = true := rfl
theorem btf : (true != false) = true := rfl
def yt (ts : List Tk) : List Nat := ((List.range ts.length).drop 1).filter fun k => (tk ts k).fin.isNone
def endL (ts : List Tk) (n : Nat) (k : Bool) : String := if (tk ts n).shut then "held" else if decide (n = 0) && !(yt ts).isEmpty then "outlives" else if (tk ts n).due then "owed" else if ((tk ts n).gone != k) = true then "outcome" else ""
def enT : MT := (bY (aG jW (aG bD (ao 3) (eC (.str "end"))) (eC .non)))
theorem agw (l : LS B h ts) (hl : ts.length < 1000) {n : Nat} {k : Bool} (hn : n < ts.length) : rY [.ref (B + 12), (Rw.ended n k).enc] h = .ok (.str (endL ts n k)) h := by
  have dn := tK l hn
  have an := jm (fun k => D.ref (dA B k)) hn
  have lc := yL (g := PD.gName 3) (t := enT) (f := ao 3) (own := [3]) (e := [some (.ref (B + 12)), some (Rw.ended n k).enc, some (.ref (dA B n)), none]) (h := h) (G := fun k => D.ref (dA B k)) (p := fun k => (tk ts k).fin.isNone) ((List.range ts.length).drop 1) [] (fun j hk => by
    have hk := List.mem_range.mp (List.mem_of_mem_drop hk)
    have dk := tK l hk
    refine ⟨[some (.ref (B + 12)), some (Rw.ended n k).enc, some (.ref (dA B n)), some (.ref (dA B j))], ?_, ?_, ?_⟩
    · (wp_walk using "ew", aH, aK, aM, aN, aO, aP)
    · unfold enT
      (wp_walk using "ew", aH, aK, aM, aN, aO, aP, dk, fB)
    · (wp_walk using "ew", aH, aK, aM, aN, aO, aP)) (by simp; omega)
  have em : (yt ts).isEmpty = ((yt ts).map fun k => D.ref (dA B k)).isEmpty := by
    rw [List.isEmpty_map]
  have sl : yj (.ref (B + 12)) (some 1) none h = some (.lst (((List.range ts.length).drop 1).map fun k => D.ref (dA B k)), h) := by
    have dc := aak 1 ((List.range ts.length).map fun k => D.ref (dA B k))
    rw [show ((1 : Nat) : Int) = 1 from rfl] at dc
    simp only [yj, l.l, dc, List.map_drop]
  rw [List.nil_append] at lc
  unfold yt at em
  unfold rY endL yt
  unfold enT at lc
  simp only [Rw.enc, outD] at lc ⊢
  rw [em]
  generalize (gName 3 : MG) = G3 at lc ⊢
  cases h1 : (tk ts n).shut <;> rw [h1] at dn <;> cases o1 : decide (n = 0) <;> cases h2 : (tk ts n).due <;> rw [h2] at dn <;> cases h3 : (tk ts n).gone <;> rw [h3] at dn <;> cases k <;> simp only [Bool.false_eq_true, ↓reduceIte] at lc ⊢ <;>
    (try (cases z : (List.map (fun k => D.ref (dA B k)) (List.filter (fun k => (tk ts k).fin.isNone) (List.drop 1 (List.range ts.length)))).isEmpty)) <;>
    (wp_walk using "ew", aH, aK, aM, aN, aO, aP, l.l, an, dn, d0, o1, sl, lc, ae2, z, vJ, aip, bne_self_eq_false, bft, btf, Bool.and_true, Bool.and_false, Bool.false_and, Bool.true_and)
def jo (ts : List Tk) : Rw → String
  | .landed n => if !(tk ts n).due then "untold" else if (tk ts n).shut then "held" else ""
  | .masked n => if (tk ts n).shut then "held" else ""
  | .opened n => if !(tk ts n).shut then "open" else ""
  | .ended n k => endL ts n k
  | r => uI ts r
def u6 (ts : List Tk) (r : Rw) : String := if r.num < ts.length then (if iU ts r.by_ then "ended" else jo ts r) else "task"
theorem h11 : 1 * Int.toNat 1 ≤ 16777216 := by decide
theorem h10 : 1 * Int.toNat 0 ≤ 16777216 := by decide
theorem h00 : 0 * Int.toNat 0 ≤ 16777216 := by decide
theorem q1 : -(2 ^ 63) ≤ (1 : Int) ∧ (1 : Int) < 2 ^ 63 := by decide
theorem q0 : -(2 ^ 63) ≤ (0 : Int) ∧ (0 : Int) < 2 ^ 63 := by decide
theorem lX {a b : D} {h : AH} : yj (.tup [a, b]) (some 2) none h = some (.tup [], h) := rfl
theorem uL {n m : Nat} : decide ((m : Int) ≤ (n : Int)) = decide (m ≤ n) := by
  by_cases h : m ≤ n
  · rw [decide_eq_true h, decide_eq_true (by omega)]
  · rw [decide_eq_false h, decide_eq_false (by omega)]
theorem abw {i j : Int} {h : AH} : jX (.lst [.int i, .int j]) (.lst []) h = some (.bl true, h) := by
  show (dI h _ _).map _ = _
  have e : dI h (.lst [.int i, .int j]) (.lst []) = some false := by
    have s1 : SeqAt.shaped (.list [.int i, .int j]) = true := rfl
    show (if SeqAt.shaped (.list [.int i, .int j]) = true ∧ SeqAt.shaped (.list []) = true then some (PyData.eqv (.list [.int i, .int j]) (.list [])) else none) = _
    rw [if_pos ⟨s1, rfl⟩]
    rfl
  rw [e]
  rfl
theorem aiu (l : LS B h ts) (ok : okT ts) (hl : ts.length < 1000) (r : Rw) (hb : ∀ b, r.by_ = some b → r.by_ = some r.num ∨ b < ts.length) : uZ [.ref (B + 12), r.enc] h = .ok (.str (u6 ts r)) h := by
  unfold uZ u6
  cases r with
  | kill b n =>
    have hr : (Rw.kill b n).num = n := rfl
    rw [hr]
    by_cases hn : n < ts.length
    · have hbl : ∀ c, b = some c → c < ts.length := fun c e => by
        rcases hb c e with z | z
        · subst e
          have z2 : c = n := Option.some.inj z
          omega
        · exact z
      have et := adQ l ok hl hn hbl
      have n1 : decide (ts.length ≤ n) = false := decide_eq_false (by omega)
      rw [if_pos hn]
      generalize jL = P1 at et ⊢
      cases b with
      | none =>
        simp only [Rw.enc, opI, Rw.by_] at et ⊢
        (wp_walk using "ew", aH, aK, aM, aN, aO, aP, l.l, cQ, uL, List.length_map, List.length_range, iU, jo, ju, jj, h11, h10, h00, q1, q0, uJ, uK, gR, lX, iV, ji, Nat.reduceLT, Bool.and_true, Bool.and_false, Bool.false_and, Bool.true_and, n1, et)
      | some b =>
        have hb2 := hbl b rfl
        have n2 : decide (ts.length ≤ b) = false := decide_eq_false (by omega)
        have db := tK l hb2
        have ab := jm (fun k => D.ref (dA B k)) hb2
        simp only [Rw.enc, opI, Rw.by_] at et ⊢
        cases hf : (tk ts b).fin.isNone <;> (wp_walk using "ew", aH, aK, aM, aN, aO, aP, l.l, cQ, uL, List.length_map, List.length_range, iU, jo, ju, jj, h11, h10, h00, q1, q0, uJ, uK, gR, lX, iV, ji, Nat.reduceLT, Bool.and_true, Bool.and_false, Bool.false_and, Bool.true_and, n1, n2, et, db, ab, fB, hf)
    · have n1 : decide (ts.length ≤ n) = true := decide_eq_true (by omega)
      rw [if_neg hn]
      cases b with
      | none =>
        simp only [Rw.enc, opI, Rw.by_]
        (wp_walk using "ew", aH, aK, aM, aN, aO, aP, l.l, cQ, uL, List.length_map, List.length_range, iU, jo, ju, jj, h11, h10, h00, q1, q0, uJ, uK, gR, lX, iV, ji, Nat.reduceLT, Bool.and_true, Bool.and_false, Bool.false_and, Bool.true_and, n1)
      | some b =>
        have hb2 : b < ts.length ∨ b = n := by
          rcases hb b rfl with z | z
          · exact .inr (Option.some.inj z)
          · exact .inl z
        simp only [Rw.enc, opI, Rw.by_]
        by_cases hb3 : b < ts.length
        · have n2 : decide (ts.length ≤ b) = false := decide_eq_false (by omega)
          (wp_walk using "ew", aH, aK, aM, aN, aO, aP, l.l, cQ, uL, List.length_map, List.length_range, iU, jo, ju, jj, h11, h10, h00, q1, q0, uJ, uK, gR, lX, iV, ji, Nat.reduceLT, Bool.and_true, Bool.and_false, Bool.false_and, Bool.true_and, n1, n2)
        · have n2 : decide (ts.length ≤ b) = true := decide_eq_true (by omega)
          (wp_walk using "ew", aH, aK, aM, aN, aO, aP, l.l, cQ, uL, List.length_map, List.length_range, iU, jo, ju, jj, h11, h10, h00, q1, q0, uJ, uK, gR, lX, iV, ji, Nat.reduceLT, Bool.and_true, Bool.and_false, Bool.false_and, Bool.true_and, n1, n2, abw)
  | late b n =>
    have hr : (Rw.late b n).num = n := rfl
    rw [hr]
    by_cases hn : n < ts.length
    · have hbl : ∀ c, b = some c → c < ts.length := fun c e => by
        rcases hb c e with z | z
        · subst e
          have z2 : c = n := Option.some.inj z
          omega
        · exact z
      have et := adR l ok hl hn hbl
      have n1 : decide (ts.length ≤ n) = false := decide_eq_false (by omega)
      rw [if_pos hn]
      generalize jL = P1 at et ⊢
      cases b with
      | none =>
        simp only [Rw.enc, opI, Rw.by_] at et ⊢
        (wp_walk using "ew", aH, aK, aM, aN, aO, aP, l.l, cQ, uL, List.length_map, List.length_range, iU, jo, ju, jj, h11, h10, h00, q1, q0, uJ, uK, gR, lX, iV, ji, Nat.reduceLT, Bool.and_true, Bool.and_false, Bool.false_and, Bool.true_and, n1, et)
      | some b =>
        have hb2 := hbl b rfl
        have n2 : decide (ts.length ≤ b) = false := decide_eq_false (by omega)
        have db := tK l hb2
        have ab := jm (fun k => D.ref (dA B k)) hb2
        simp only [Rw.enc, opI, Rw.by_] at et ⊢
        cases hf : (tk ts b).fin.isNone <;> (wp_walk using "ew", aH, aK, aM, aN, aO, aP, l.l, cQ, uL, List.length_map, List.length_range, iU, jo, ju, jj, h11, h10, h00, q1, q0, uJ, uK, gR, lX, iV, ji, Nat.reduceLT, Bool.and_true, Bool.and_false, Bool.false_and, Bool.true_and, n1, n2, et, db, ab, fB, hf)
    · have n1 : decide (ts.length ≤ n) = true := decide_eq_true (by omega)
      rw [if_neg hn]
      cases b with
      | none =>
        simp only [Rw.enc, opI, Rw.by_]
        (wp_walk using "ew", aH, aK, aM, aN, aO, aP, l.l, cQ, uL, List.length_map, List.length_range, iU, jo, ju, jj, h11, h10, h00, q1, q0, uJ, uK, gR, lX, iV, ji, Nat.reduceLT, Bool.and_true, Bool.and_false, Bool.false_and, Bool.true_and, n1)
      | some b =>
        have hb2 : b < ts.length ∨ b = n := by
          rcases hb b rfl with z | z
          · exact .inr (Option.some.inj z)
          · exact .inl z
        simp only [Rw.enc, opI, Rw.by_]
        by_cases hb3 : b < ts.length
        · have n2 : decide (ts.length ≤ b) = false := decide_eq_false (by omega)
          (wp_walk using "ew", aH, aK, aM, aN, aO, aP, l.l, cQ, uL, List.length_map, List.length_range, iU, jo, ju, jj, h11, h10, h00, q1, q0, uJ, uK, gR, lX, iV, ji, Nat.reduceLT, Bool.and_true, Bool.and_false, Bool.false_and, Bool.true_and, n1, n2)
        · have n2 : decide (ts.length ≤ b) = true := decide_eq_true (by omega)
          (wp_walk using "ew", aH, aK, aM, aN, aO, aP, l.l, cQ, uL, List.length_map, List.length_range, iU, jo, ju, jj, h11, h10, h00, q1, q0, uJ, uK, gR, lX, iV, ji, Nat.reduceLT, Bool.and_true, Bool.and_false, Bool.false_and, Bool.true_and, n1, n2, abw)
  | landed n =>
    have hr : (Rw.landed n).num = n := rfl
    rw [hr]
    by_cases hn : n < ts.length
    · have dn := tK l hn
      have an := jm (fun k => D.ref (dA B k)) hn
      have n1 : decide (ts.length ≤ n) = false := decide_eq_false (by omega)
      rw [if_pos hn]
      simp only [Rw.enc, opI, Rw.by_]
      cases hf : (tk ts n).fin.isNone <;> cases h1 : (tk ts n).shut <;> rw [h1] at dn <;> cases h2 : (tk ts n).due <;> rw [h2] at dn <;> (wp_walk using "ew", aH, aK, aM, aN, aO, aP, l.l, cQ, uL, List.length_map, List.length_range, iU, jo, ju, jj, h11, h10, h00, q1, q0, uJ, uK, gR, lX, iV, ji, Nat.reduceLT, Bool.and_true, Bool.and_false, Bool.false_and, Bool.true_and, n1, dn, an, fB, hf, h1, h2)
    · have n1 : decide (ts.length ≤ n) = true := decide_eq_true (by omega)
      rw [if_neg hn]
      simp only [Rw.enc, opI, Rw.by_]
      (wp_walk using "ew", aH, aK, aM, aN, aO, aP, l.l, cQ, uL, List.length_map, List.length_range, iU, jo, ju, jj, h11, h10, h00, q1, q0, uJ, uK, gR, lX, iV, ji, Nat.reduceLT, Bool.and_true, Bool.and_false, Bool.false_and, Bool.true_and, n1)
  | masked n =>
    have hr : (Rw.masked n).num = n := rfl
    rw [hr]
    by_cases hn : n < ts.length
    · have dn := tK l hn
      have an := jm (fun k => D.ref (dA B k)) hn
      have n1 : decide (ts.length ≤ n) = false := decide_eq_false (by omega)
      rw [if_pos hn]
      simp only [Rw.enc, opI, Rw.by_]
      cases hf : (tk ts n).fin.isNone <;> cases h1 : (tk ts n).shut <;> rw [h1] at dn <;> cases h2 : (tk ts n).due <;> rw [h2] at dn <;> (wp_walk using "ew", aH, aK, aM, aN, aO, aP, l.l, cQ, uL, List.length_map, List.length_range, iU, jo, ju, jj, h11, h10, h00, q1, q0, uJ, uK, gR, lX, iV, ji, Nat.reduceLT, Bool.and_true, Bool.and_false, Bool.false_and, Bool.true_and, n1, dn, an, fB, hf, h1, h2)
    · have n1 : decide (ts.length ≤ n) = true := decide_eq_true (by omega)
      rw [if_neg hn]
      simp only [Rw.enc, opI, Rw.by_]
      (wp_walk using "ew", aH, aK, aM, aN, aO, aP, l.l, cQ, uL, List.length_map, List.length_range, iU, jo, ju, jj, h11, h10, h00, q1, q0, uJ, uK, gR, lX, iV, ji, Nat.reduceLT, Bool.and_true, Bool.and_false, Bool.false_and, Bool.true_and, n1)
  | opened n =>
    have hr : (Rw.opened n).num = n := rfl
    rw [hr]
    by_cases hn : n < ts.length
    · have dn := tK l hn
      have an := jm (fun k => D.ref (dA B k)) hn
      have n1 : decide (ts.length ≤ n) = false := decide_eq_false (by omega)
      rw [if_pos hn]
      simp only [Rw.enc, opI, Rw.by_]
      cases hf : (tk ts n).fin.isNone <;> cases h1 : (tk ts n).shut <;> rw [h1] at dn <;> cases h2 : (tk ts n).due <;> rw [h2] at dn <;> (wp_walk using "ew", aH, aK, aM, aN, aO, aP, l.l, cQ, uL, List.length_map, List.length_range, iU, jo, ju, jj, h11, h10, h00, q1, q0, uJ, uK, gR, lX, iV, ji, Nat.reduceLT, Bool.and_true, Bool.and_false, Bool.false_and, Bool.true_and, n1, dn, an, fB, hf, h1, h2)
    · have n1 : decide (ts.length ≤ n) = true := decide_eq_true (by omega)
      rw [if_neg hn]
      simp only [Rw.enc, opI, Rw.by_]
      (wp_walk using "ew", aH, aK, aM, aN, aO, aP, l.l, cQ, uL, List.length_map, List.length_range, iU, jo, ju, jj, h11, h10, h00, q1, q0, uJ, uK, gR, lX, iV, ji, Nat.reduceLT, Bool.and_true, Bool.and_false, Bool.false_and, Bool.true_and, n1)
  | ended n k =>
    have hr : (Rw.ended n k).num = n := rfl
    rw [hr]
    by_cases hn : n < ts.length
    · have dn := tK l hn
      have an := jm (fun k => D.ref (dA B k)) hn
      have n1 : decide (ts.length ≤ n) = false := decide_eq_false (by omega)
      rw [if_pos hn]
      have et := agw l hl (k := k) hn
      simp only [Rw.enc, opI, Rw.by_] at et ⊢
      generalize rY = P1 at et ⊢
      cases hf : (tk ts n).fin.isNone <;> (wp_walk using "ew", aH, aK, aM, aN, aO, aP, l.l, cQ, uL, List.length_map, List.length_range, iU, jo, ju, jj, h11, h10, h00, q1, q0, uJ, uK, gR, lX, iV, ji, Nat.reduceLT, Bool.and_true, Bool.and_false, Bool.false_and, Bool.true_and, n1, dn, an, fB, hf, et)
    · have n1 : decide (ts.length ≤ n) = true := decide_eq_true (by omega)
      rw [if_neg hn]
      simp only [Rw.enc, opI, Rw.by_]
      (wp_walk using "ew", aH, aK, aM, aN, aO, aP, l.l, cQ, uL, List.length_map, List.length_range, iU, jo, ju, jj, h11, h10, h00, q1, q0, uJ, uK, gR, lX, iV, ji, Nat.reduceLT, Bool.and_true, Bool.and_false, Bool.false_and, Bool.true_and, n1)
end
end cY
noncomputable section
namespace cY
open PySem PySem.Spec PyProof.Rows L2 PD
theorem aan {k m len : Nat} : k ∈ (List.range len).drop m ↔ m ≤ k ∧ k < len := by
  constructor
  · intro h
    obtain ⟨i, hi⟩ := List.mem_iff_getElem?.mp h
    rw [List.getElem?_drop] at hi
    have hl := (List.getElem?_eq_some_iff.mp hi).1
    rw [List.length_range] at hl
    rw [List.getElem?_range hl] at hi
    cases hi
    exact ⟨by omega, hl⟩
  · rintro ⟨h1, h2⟩
    refine List.mem_iff_getElem?.mpr ⟨k - m, ?_⟩
    rw [List.getElem?_drop, show m + (k - m) = k by omega, List.getElem?_range h2]
theorem adS {ts : List Tk} {n : Nat} : QW ts n = (decide (n = 0) && !(yt ts).isEmpty) := by
  rw [Bool.eq_iff_iff]
  unfold QW yt
  simp only [List.any_eq_true, List.mem_range, Bool.and_eq_true, decide_eq_true_eq, Bool.not_eq_true', List.isEmpty_eq_false_iff, own]
  constructor
  · rintro ⟨k, hk, ⟨h0, hn⟩, hf⟩
    refine ⟨hn, fun z => ?_⟩
    have : k ∈ ((List.range ts.length).drop 1).filter fun k => (tk ts k).fin.isNone := List.mem_filter.mpr ⟨aan.mpr ⟨by omega, hk⟩, by rw [← abu hk]; exact hf⟩
    rw [z] at this
    cases this
  · rintro ⟨hn, hne⟩
    obtain ⟨k, hk⟩ := List.exists_mem_of_ne_nil _ hne
    obtain ⟨h1, h2⟩ := List.mem_filter.mp hk
    obtain ⟨h3, h4⟩ := aan.mp h1
    exact ⟨k, h4, ⟨by omega, hn⟩, by rw [abu h4]; exact h2⟩
def afM (w : String) : D := if w = "" then .non else .str w
theorem abx {lt : List (Key × D)} {ts : List Tk} (la : ∀ n, n < ts.length → vN lt n = u5 ts n) (r : Rw) : acj lt ts r = afM (u6 ts r) := by
  unfold acj u6
  by_cases hn : r.num < ts.length
  · rw [if_pos hn, if_pos hn]
    cases he : iU ts r.by_ with
    | true => rfl
    | false =>
      simp only [Bool.false_eq_true, if_false]
      cases r with
      | kill b n =>
        have hl := la n hn
        cases b with
        | none => simp only [qX, jo, uI]; cases (tk ts n).fin.isNone <;> rfl
        | some b => simp only [qX, jo, uI, ais, hl]; cases (tk ts n).fin.isNone <;> cases (tk ts b).gone <;> cases Gn n b <;> cases u5 ts n <;> rfl
      | late b n =>
        have hl := la n hn
        cases b with
        | none => simp only [qX, jo, uI]; cases (tk ts n).fin.isNone <;> rfl
        | some b => simp only [qX, jo, uI, hl]; cases (tk ts n).fin.isNone <;> cases (tk ts b).gone <;> cases u5 ts n <;> rfl
      | landed n => simp only [qX, jo]; cases (tk ts n).due <;> cases (tk ts n).shut <;> rfl
      | masked n => simp only [qX, jo]; cases (tk ts n).shut <;> rfl
      | opened n => simp only [qX, jo]; cases (tk ts n).shut <;> rfl
      | ended n k =>
        simp only [qX, jo, endL, adS]
        cases (tk ts n).shut <;> cases decide (n = 0) <;> cases (yt ts).isEmpty <;> cases (tk ts n).due <;> cases (tk ts n).gone <;> cases k <;> rfl
  · rw [if_neg hn, if_neg hn]
    rfl
end cY
noncomputable section
namespace cY
open PySem PySem.Spec PyProof.Rows L2 PD
def qY (t : Tk) : Rw → Tk
  | .kill _ _ => { t with due := true }
  | .late _ _ => t
  | .landed _ => { t with due := false, gone := true }
  | .masked _ => { t with shut := true }
  | .opened _ => { t with shut := false }
  | .ended _ k => { t with fin := some k }
theorem adT {ts : List Tk} {n m : Nat} {t : Tk} (hn : n < ts.length) : tk (ts.set n t) m = if n = m then t else tk ts m := by
  unfold tk
  rw [List.getD_eq_getElem?_getD, List.getD_eq_getElem?_getD, List.getElem?_set]
  by_cases e : n = m
  · subst e
    rw [if_pos rfl, if_pos rfl, if_pos hn]
    rfl
  · rw [if_neg e, if_neg e]
theorem Aj {B k : Nat} : B + 6 ≤ sA B k := by unfold sA; split <;> omega
theorem sS {B k : Nat} : B + 11 ≤ dA B k := by unfold dA; split <;> omega
theorem aao {B k j i : Nat} (h : k ≠ j) (hi : i < 3) : sA B k ≠ sA B j + i := by unfold sA; split <;> split <;> omega
theorem acn {B k j i : Nat} (hi : i < 3) : dA B k ≠ sA B j + i := by unfold dA sA; split <;> split <;> omega
theorem ajL {B k : Nat} : sA B k ≠ B + 12 := by unfold sA; split <;> omega
section
variable {B : Nat} {raw : Bool} {lt hm : List (Key × D)} {h : AH} {ts : List Tk} {many : Int}
theorem WS.put (w : WS B raw lt hm h ts many) {n : Nat} (hn : n < ts.length) (t : Tk) : WS B raw lt hm (h.set (sA B n) (fU B n t)) (ts.set n t) many := by
  have ln := (List.getElem?_eq_some_iff.mp (w.s n _ (d9 hn))).1
  have g := @Aj B n
  refine ⟨?_, ?_, ?_, ?_, fun k u e => ?_, fun k hk => ?_⟩
  · rw [List.getElem?_set_ne (by omega)]; exact w.w
  · rw [List.getElem?_set_ne (by omega), List.length_set]; exact w.t
  · rw [List.getElem?_set_ne (by have := @Aj B n; unfold sA; split <;> omega)]; exact w.l
  · rw [List.getElem?_set_ne (by unfold sA; split <;> omega)]; exact w.o
  · by_cases z : n = k
    · subst z
      rw [List.getElem?_set_self hn] at e
      cases e
      rw [List.getElem?_set_self ln]
    · rw [List.getElem?_set_ne z] at e
      have := @aao B k n 0 (fun y => z y.symm) (by decide)
      rw [List.getElem?_set_ne (by omega)]
      exact w.s k u e
  · rw [List.length_set] at hk
    have := w.a k hk
    have d1 : sA B n ≠ sA B k + 1 := by
      by_cases z : n = k
      · subst z; omega
      · exact aao z (by decide)
    have d2 : sA B n ≠ sA B k + 2 := by
      by_cases z : n = k
      · subst z; omega
      · exact aao z (by decide)
    rw [List.getElem?_set_ne d1, List.getElem?_set_ne d2]
    exact this
theorem WS.cnt (w : WS B raw lt hm h ts many) (m : Int) : WS B raw lt hm (h.set B (.ins "Watch" (cX B raw .non m))) ts m := by
  have ln := (List.getElem?_eq_some_iff.mp w.w).1
  refine ⟨?_, ?_, ?_, ?_, fun k u e => ?_, fun k hk => ?_⟩
  · rw [List.getElem?_set_self ln]
  · rw [List.getElem?_set_ne (by omega)]; exact w.t
  · rw [List.getElem?_set_ne (by omega)]; exact w.l
  · rw [List.getElem?_set_ne (by omega)]; exact w.o
  · have := @Aj B k
    rw [List.getElem?_set_ne (by omega)]; exact w.s k u e
  · have := @Aj B k
    rw [List.getElem?_set_ne (by omega), List.getElem?_set_ne (by omega)]; exact w.a k hk
theorem LS.away (l : LS B h ts) {n : Nat} {c : Cell} (h1 : n ≠ B + 12) (h2 : ∀ k, n ≠ dA B k) : LS B (h.set n c) ts := by
  refine ⟨?_, fun k t e => ?_⟩
  · rw [List.getElem?_set_ne h1]; exact l.l
  · rw [List.getElem?_set_ne (h2 k)]; exact l.d k t e
theorem LS.put (l : LS B h ts) {n : Nat} (hn : n < ts.length) (t : Tk) : LS B (h.set (dA B n) (pN t)) (ts.set n t) := by
  have ln := (List.getElem?_eq_some_iff.mp (l.d n _ (d9 hn))).1
  refine ⟨?_, fun k u e => ?_⟩
  · rw [List.getElem?_set_ne (by unfold dA; split <;> omega), List.length_set]; exact l.l
  · by_cases z : n = k
    · subst z
      rw [List.getElem?_set_self hn] at e
      cases e
      rw [List.getElem?_set_self ln]
    · rw [List.getElem?_set_ne z] at e
      rw [List.getElem?_set_ne (by unfold dA; split <;> split <;> omega)]
      exact l.d k u e
theorem WS.away (w : WS B raw lt hm h ts many) {n : Nat} {c : Cell} (h1 : n ≠ B) (h2 : n ≠ B + 5) (h3 : n ≠ B + 9) (h4 : n ≠ B + 10) (h5 : ∀ k i, i < 3 → n ≠ sA B k + i) : WS B raw lt hm (h.set n c) ts many := by
  refine ⟨?_, ?_, ?_, ?_, fun k u e => ?_, fun k hk => ?_⟩
  · rw [List.getElem?_set_ne h1]; exact w.w
  · rw [List.getElem?_set_ne h2]; exact w.t
  · rw [List.getElem?_set_ne h3]; exact w.l
  · rw [List.getElem?_set_ne h4]; exact w.o
  · rw [List.getElem?_set_ne (by have := h5 k 0 (by decide); omega)]; exact w.s k u e
  · rw [List.getElem?_set_ne (h5 k 1 (by decide)), List.getElem?_set_ne (h5 k 2 (by decide))]; exact w.a k hk
end
end cY
noncomputable section
namespace cY
open PySem PySem.Spec PyProof.Rows L2 PD
section
variable {B : Nat} {raw : Bool} {lt hm : List (Key × D)} {h : AH} {ts : List Tk} {many : Int}
theorem aiv (w : WS B raw lt hm h ts many) : h.set B (.ins "Watch" (cX B raw .non many)) = h := xV w.w
theorem w_lit (w : WS B raw lt hm h ts many) : h[B]? = some (.ins "Watch" [("sizes", .ref (B + 4)), ("raw", .bl raw), ("tasks", .ref (B + 5)), ("latest", .ref (B + 9)), ("homes", .ref (B + 10)), ("must", .non), ("many", .int many)]) := w.w
theorem aco (w : WS B raw lt hm h ts many) {n : Nat} (hn : n < ts.length) : h[sA B n]? = some (.ins "Seen" [("beginner", Cp n), ("called", Es (tk ts n).name), ("ending", Gm (tk ts n).fin), ("owed", .bl (tk ts n).due), ("shut", .bl (tk ts n).shut), ("state", Ah (tk ts n).gone), ("had", .ref (sA B n + 1)), ("lasts", .ref (sA B n + 2))]) := by
  rw [← jA hn]
  exact w.s n _ (d9 hn)
theorem agx (w : WS B raw lt hm h ts many) {b : Nat} (hb : b < ts.length) (n : Nat) : dM [.ref B, .ref (sA B b), (Rw.late (some b) n).enc] h = .ok .non h := by
  unfold dM
  (wp_walk using "ew", aH, aK, aM, aN, aO, aP, Rw.enc, opI)
theorem adU (w : WS B raw lt hm h ts many) {n : Nat} (hn : n < ts.length) : dM [.ref B, .ref (sA B n), (Rw.landed n).enc] h = .ok .non (h.set (sA B n) (fU B n { tk ts n with due := false, gone := true })) := by
  have sl := aco w hn
  have ln := (List.getElem?_eq_some_iff.mp sl).1
  have ss : ∀ c, (h.set (sA B n) c)[sA B n]? = some c := fun c => by rw [List.getElem?_set_self ln]
  unfold dM fU
  (wp_walk using "ew", aH, aK, aM, aN, aO, aP, Rw.enc, cH, m7, sl, oV, oU, lW, List.mem_singleton, Nat.reduceLT, ss, iT)
  rfl
theorem ae3 (w : WS B raw lt hm h ts many) {n : Nat} {k : Bool} (hn : n < ts.length) : dM [.ref B, .ref (sA B n), (Rw.ended n k).enc] h = .ok .non (h.set (sA B n) (fU B n { tk ts n with fin := some k })) := by
  have sl := aco w hn
  have ln := (List.getElem?_eq_some_iff.mp sl).1
  have ss : ∀ c, (h.set (sA B n) c)[sA B n]? = some c := fun c => by rw [List.getElem?_set_self ln]
  unfold dM fU
  (wp_walk using "ew", aH, aK, aM, aN, aO, aP, Rw.enc, cH, m7, sl, oV, oU, lW, List.mem_singleton, Nat.reduceLT, ss, iT)
  rfl
theorem take_eq (w : WS B raw lt hm h ts many) (r : Rw) (hn : r.num < ts.length) (hb : ∀ c, r.by_ = some c → c < ts.length) : gW [.ref B, r.enc] h = .ok .non (h.set (sA B r.num) (fU B r.num (qY (tk ts r.num) r))) := by
  have dr := abn r h
  have e1 := lO w.w
  have wi := aiv w
  have ig := xW (cs := zP) (mn := "go_on") w.w (by simp) (lQ (by decide +kernel))
  have wl := w_lit w
  have sl := aco w hn
  have Cv := xV sl
  have ln := (List.getElem?_eq_some_iff.mp sl).1
  have ss : ∀ c, (h.set (sA B r.num) c)[sA B r.num]? = some c := fun c => by rw [List.getElem?_set_self ln]
  unfold cX at wi
  unfold gW fU
  generalize jK = P1 at dr ⊢
  cases r with
  | kill b n =>
    simp only [Rw.num] at hn sl Cv ss ⊢
    simp only [Rw.enc, opI, Rw.by_, qY] at dr ⊢
    (wp_walk using "ew", aH, aK, aM, aN, aO, aP, cH, m7, wl, wi, dr, e1, w.t, cJ, hn, sl, oV, oU, lW, List.mem_singleton, Nat.reduceLT, bM, iT)
  | late b n =>
    have hb2 : ∀ c, b = some c → c < ts.length := fun c z => hb c z
    simp only [Rw.num] at hn sl Cv ss ⊢
    cases b with
    | none =>
      simp only [Rw.enc, opI, Rw.by_, qY] at dr ⊢
      (wp_walk using "ew", aH, aK, aM, aN, aO, aP, cH, m7, wl, wi, dr, e1, w.t, cJ, hn, sl, oV, oU, lW, List.mem_singleton, Nat.reduceLT, bM, iT, Cv)
    | some b =>
      have hbl := hb2 b rfl
      have gg := agx w hbl n
      simp only [Rw.enc, opI, Rw.by_, qY] at dr gg ⊢
      generalize dM = P2 at gg ⊢
      (wp_walk using "ew", aH, aK, aM, aN, aO, aP, cH, m7, wl, wi, dr, e1, w.t, cJ, hn, sl, oV, oU, lW, List.mem_singleton, Nat.reduceLT, bM, iT, Cv, gQ, ig, hbl, gg)
  | landed n =>
    simp only [Rw.num] at hn sl Cv ss ⊢
    have gg := adU w hn
    simp only [Rw.enc, opI, Rw.by_, qY] at dr gg ⊢
    generalize dM = P2 at gg ⊢
    (wp_walk using "ew", aH, aK, aM, aN, aO, aP, cH, m7, wl, wi, dr, e1, w.t, cJ, hn, sl, oV, oU, lW, List.mem_singleton, Nat.reduceLT, bM, iT, gQ, ig, gg)
    rfl
  | ended n k =>
    simp only [Rw.num] at hn sl Cv ss ⊢
    have gg := ae3 w hn (k := k)
    simp only [Rw.enc, opI, Rw.by_, qY] at dr gg ⊢
    generalize dM = P2 at gg ⊢
    (wp_walk using "ew", aH, aK, aM, aN, aO, aP, cH, m7, wl, wi, dr, e1, w.t, cJ, hn, sl, oV, oU, lW, List.mem_singleton, Nat.reduceLT, bM, iT, gQ, ig, gg)
    rfl
  | masked n =>
    simp only [Rw.num] at hn sl Cv ss ⊢
    simp only [Rw.enc, opI, Rw.by_, qY] at dr ⊢
    (wp_walk using "ew", aH, aK, aM, aN, aO, aP, cH, m7, wl, wi, dr, e1, w.t, cJ, hn, sl, oV, oU, lW, List.mem_singleton, Nat.reduceLT, bM, iT)
  | opened n =>
    simp only [Rw.num] at hn sl Cv ss ⊢
    simp only [Rw.enc, opI, Rw.by_, qY] at dr ⊢
    (wp_walk using "ew", aH, aK, aM, aN, aO, aP, cH, m7, wl, wi, dr, e1, w.t, cJ, hn, sl, oV, oU, lW, List.mem_singleton, Nat.reduceLT, bM, iT)
end
end cY
noncomputable section
namespace cY
open PySem PySem.Spec PyProof.Rows L2 PD
section
variable {B : Nat} {raw : Bool} {lt hm : List (Key × D)} {h : AH} {ts : List Tk} {many : Int}
def tick (B : Nat) (raw : Bool) (many : Int) (h : AH) : AH := h.set B (.ins "Watch" (cX B raw .non (many + 1)))
theorem ae4 {w : String} (h : ¬ w = "") : afM w = .str w := if_neg h
theorem QX {B : Nat} {raw : Bool} {lt hm : List (Key × D)} {h : AH} {ts : List Tk} {many : Int} (w : WS B raw lt hm h ts many) (e : En) (e0 : e[0]? = some (some (.ref B))) : uV jk "many" (ao 0) (eC (.int 1)) e h = .nx e (tick B raw many h) := by
  have wl := w_lit w
  unfold tick cX uV
  simp only [ao, e0, Res.iJ, wl, List.mem_singleton, if_true, oE, pK, String.reduceEq, if_false, eC, List.length_cons, List.length_nil, Nat.reduceAdd, Nat.reduceLT, and_self, oU, oV, lW]
theorem aiw (w : WS B raw lt hm h ts many) {js : List Int} (hj : pG (lt.map (·.2)) = some js) (hl : ts.length < 1000) (r : Rw) (sm : r.sm) (hb : ∀ b, r.by_ = some b → r.by_ = some r.num ∨ b < ts.length) (la : ∀ n, n < ts.length → vN lt n = u5 ts n) (hd : u6 ts r = "") (hn : r.num < ts.length) :
    dh [.ref B, r.enc] h = .ok .non (tick B raw many (h.set (sA B r.num) (fU B r.num (qY (tk ts r.num) r)))) := by
  have er := RB w hj hl r sm hb
  rw [abx la r, hd] at er
  have er : dJ [.ref B, r.enc] h = .ok .non h := er
  have et := take_eq w r hn (fun c z => by
    rcases hb c z with y | y
    · rw [z] at y
      have : c = r.num := Option.some.inj y
      omega
    · exact y)
  have i1 := xW (cs := tO) (mn := "reason") w.w (by simp) (lQ (by decide +kernel))
  have i2 := xW (cs := yU) (mn := "take") w.w (by simp) (lQ (by decide +kernel))
  have fa := QX (w.put hn (qY (tk ts r.num) r)) [some (.ref B), some r.enc, some .non] rfl
  unfold dh
  generalize dJ = P1 at er ⊢
  generalize gW = P2 at et ⊢
  generalize uV jk "many" (ao 0) (eC (.int 1)) = S1 at fa ⊢
  (wp_walk using "ew", aH, aK, aM, aN, aO, aP, QD, gQ, i1, i2, er, et, fa, noX)
theorem agy (w : WS B raw lt hm h ts many) {js : List Int} (hj : pG (lt.map (·.2)) = some js) (hl : ts.length < 1000) (r : Rw) (sm : r.sm) (hb : ∀ b, r.by_ = some b → r.by_ = some r.num ∨ b < ts.length) (la : ∀ n, n < ts.length → vN lt n = u5 ts n) (hd : ¬ u6 ts r = "") :
    dh [.ref B, r.enc] h = .exc "Broken" [("at", .int many), ("why", .str (u6 ts r))] (tick B raw many h) := by
  have er := RB w hj hl r sm hb
  rw [abx la r, ae4 hd] at er
  have e1 := abp w.w
  have i1 := xW (cs := tO) (mn := "reason") w.w (by simp) (lQ (by decide +kernel))
  have fa := QX w [some (.ref B), some r.enc, some (.str (u6 ts r))] rfl
  unfold dh
  generalize dJ = P1 at er ⊢
  generalize uV jk "many" (ao 0) (eC (.int 1)) = S1 at fa ⊢
  (wp_walk using "ew", aH, aK, aM, aN, aO, aP, QD, gQ, i1, er, fa, BL, zV, bM, e1)
theorem adV {h h' : AH} {r : Rw} (e : dh [.ref B, r.enc] h = .ok .non h') (i1 : Ua rW "see" (.ref B) h) : pJ [.ref B, r.enc] h = .ok (.str "") h' := by
  unfold pJ
  generalize dh = P1 at e ⊢
  (wp_walk using "ew", aH, aK, aM, aN, aO, aP, O7, gQ, i1, e)
theorem acp {h h' : AH} {r : Rw} {w : Str} (e : dh [.ref B, r.enc] h = .exc "Broken" [("at", .int many), ("why", .str w)] h') (i1 : Ua rW "see" (.ref B) h) : pJ [.ref B, r.enc] h = .ok (.tup [.int many, .str w]) h' := by
  have ex : jx "Broken" = some true := rfl
  have xt : abT [xF "at", xF "why"] [("at", .int many), ("why", .str w)] h' = some (.tup [.int many, .str w]) := by
    simp [abT, xF, List.mapM_cons, pK, oE]
  unfold pJ
  generalize dh = P1 at e ⊢
  (wp_walk using "ew", aH, aK, aM, aN, aO, aP, O7, gQ, i1, e, ex, xt, Nat.reduceLT)
end
end cY
noncomputable section
namespace cY
open PySem PySem.Spec PyProof.Rows L2 PD
theorem DW {lt : List (Key × D)} {k : Key} {v : D} {q : Key × D} : q ∈ gq lt k v ↔ q = (k, v) ∨ (q ∈ lt ∧ q.1 ≠ k) := by
  unfold gq
  split
  · rename_i h
    obtain ⟨p, hp, hk⟩ := List.any_eq_true.mp h
    have hk : p.1 = k := of_decide_eq_true hk
    rw [List.mem_map]
    constructor
    · rintro ⟨x, hx, rfl⟩
      by_cases e : x.1 = k
      · rw [if_pos e, e]; exact .inl rfl
      · rw [if_neg e]; exact .inr ⟨hx, e⟩
    · rintro (rfl | ⟨h1, h2⟩)
      · exact ⟨p, hp, by rw [if_pos hk, hk]⟩
      · exact ⟨q, h1, by rw [if_neg h2]⟩
  · rename_i h
    rw [List.mem_append, List.mem_singleton]
    have no : ∀ x ∈ lt, x.1 ≠ k := fun x hx e => h (List.any_eq_true.mpr ⟨x, hx, decide_eq_true e⟩)
    constructor
    · rintro (h1 | h1)
      · exact .inr ⟨h1, no _ h1⟩
      · exact .inl h1
    · rintro (h1 | ⟨h1, _⟩)
      · exact .inr h1
      · exact .inl h1
structure LT (ts : List Tk) (lt : List (Key × D)) : Prop where
  b : ∀ m : Nat, (∃ s, (Sum.inr s, D.int (m : Int)) ∈ lt) ↔ (0 < m ∧ m < ts.length ∧ ∀ k, m < k → k < ts.length → (tk ts k).name ≠ (tk ts m).name)
  c : ∀ q ∈ lt, ∃ (s : Str) (m : Nat), q = (Sum.inr s, D.int (m : Int)) ∧ m < ts.length ∧ (tk ts m).name = some s
theorem Pu {ts : List Tk} {t : Tk} {m : Nat} : tk (ts ++ [t]) m = if m < ts.length then tk ts m else if m = ts.length then t else ⟨none, false, false, false, none⟩ := by
  unfold tk
  rw [List.getD_eq_getElem?_getD, List.getD_eq_getElem?_getD]
  by_cases h : m < ts.length
  · rw [if_pos h, List.getElem?_append_left h]
  · rw [if_neg h, List.getElem?_append_right (by omega)]
    by_cases e : m = ts.length
    · rw [if_pos e, e, Nat.sub_self]
      rfl
    · rw [if_neg e, List.getElem?_eq_none (by simp; omega)]
      rfl
theorem LT.add {ts : List Tk} {lt : List (Key × D)} (L : LT ts lt) (h0 : 0 < ts.length) (s : Str) : LT (ts ++ [⟨some s, false, false, false, none⟩]) (gq lt (.inr s) (.int (ts.length : Int))) := by
  have len : (ts ++ [(⟨some s, false, false, false, none⟩ : Tk)]).length = ts.length + 1 := by simp
  have tl : ∀ m, m < ts.length → tk (ts ++ [⟨some s, false, false, false, none⟩]) m = tk ts m := fun m h => by rw [Pu, if_pos h]
  have tn : tk (ts ++ [⟨some s, false, false, false, none⟩]) ts.length = ⟨some s, false, false, false, none⟩ := by rw [Pu, if_neg (by omega), if_pos rfl]
  refine ⟨fun m => ?_, fun q hq => ?_⟩
  · rw [len]
    constructor
    · rintro ⟨s', hs⟩
      rcases DW.mp hs with e | ⟨h1, h2⟩
      · have e2 := congrArg Prod.snd e
        have e3 : m = ts.length := by
          have : (m : Int) = (ts.length : Int) := D.int.inj e2
          omega
        subst e3
        exact ⟨h0, by omega, fun k h1 h2 => by omega⟩
      · obtain ⟨a, b, c⟩ := (L.b m).mp ⟨s', h1⟩
        obtain ⟨s2, m2, e, _, hn⟩ := L.c _ h1
        have e1 : s' = s2 := Sum.inr.inj (congrArg Prod.fst e)
        have e2 : m = m2 := by
          have : (m : Int) = (m2 : Int) := D.int.inj (congrArg Prod.snd e)
          omega
        subst e1 e2
        refine ⟨a, by omega, fun k hk1 hk2 => ?_⟩
        rw [tl m b]
        by_cases hk : k < ts.length
        · rw [tl k hk]
          exact c k hk1 hk
        · have : k = ts.length := by omega
          subst this
          rw [tn, hn]
          exact fun z => h2 (by rw [← Option.some.inj z])
    · rintro ⟨a, b, c⟩
      by_cases hm : m < ts.length
      · have hh : ∃ s', (Sum.inr s', D.int (m : Int)) ∈ lt := (L.b m).mpr ⟨a, hm, fun k h1 h2 => by
          have := c k h1 (by omega)
          rwa [tl k h2, tl m hm] at this⟩
        obtain ⟨s', hs⟩ := hh
        refine ⟨s', DW.mpr (.inr ⟨hs, fun z => ?_⟩)⟩
        have z : s' = s := Sum.inr.inj z
        subst z
        obtain ⟨s2, m2, e, _, hn⟩ := L.c _ hs
        have e1 : s' = s2 := Sum.inr.inj (congrArg Prod.fst e)
        have e2 : m = m2 := by
          have : (m : Int) = (m2 : Int) := D.int.inj (congrArg Prod.snd e)
          omega
        subst e1 e2
        have := c ts.length hm (by omega)
        rw [tn, tl m hm, hn] at this
        exact this rfl
      · have : m = ts.length := by omega
        subst this
        exact ⟨s, DW.mpr (.inl rfl)⟩
  · rcases DW.mp hq with rfl | ⟨h1, _⟩
    · exact ⟨s, ts.length, rfl, by omega, by rw [tn]⟩
    · obtain ⟨s2, m2, e, hm, hn⟩ := L.c _ h1
      exact ⟨s2, m2, e, by omega, by rw [tl m2 hm]; exact hn⟩
theorem ints_of : ∀ {lt : List (Key × D)}, (∀ q ∈ lt, ∃ (s : Str) (m : Nat), q = (Sum.inr s, D.int (m : Int))) → ∃ js : List Int, pG (lt.map (·.2)) = some js ∧ ∀ m : Nat, (js.any fun j => PyData.eqv (.int j) (.int (m : Int))) = true ↔ ∃ s, (Sum.inr s, D.int (m : Int)) ∈ lt
  | [], _ => ⟨[], rfl, fun m => by simp⟩
  | q :: lt, h => by
    obtain ⟨js, e, hj⟩ := ints_of (lt := lt) fun q hq => h q (List.mem_cons_of_mem _ hq)
    obtain ⟨s, m, rfl⟩ := h q List.mem_cons_self
    refine ⟨(m : Int) :: js, ?_, fun k => ?_⟩
    · show (pG (lt.map (·.2))).map ((m : Int) :: ·) = _
      rw [e]
      rfl
    · rw [List.any_cons, Bool.or_eq_true, hj k]
      have : PyData.eqv (.int (m : Int)) (.int (k : Int)) = decide ((m : Int) = (k : Int)) := rfl
      rw [this, decide_eq_true_eq]
      constructor
      · rintro (z | ⟨s', z⟩)
        · exact ⟨s, by rw [z]; exact List.mem_cons_self⟩
        · exact ⟨s', List.mem_cons_of_mem _ z⟩
      · rintro ⟨s', z⟩
        rcases List.mem_cons.mp z with z | z
        · exact .inl (D.int.inj (congrArg Prod.snd z)).symm
        · exact .inr ⟨s', z⟩
theorem aby {a b : Option Str} : RD a b = true ↔ a = b := by
  cases a <;> cases b <;> simp [RD]
theorem LT.lat {ts : List Tk} {lt : List (Key × D)} (L : LT ts lt) : (∃ js, pG (lt.map (·.2)) = some js) ∧ ∀ n, n < ts.length → vN lt n = u5 ts n := by
  obtain ⟨js, e, hj⟩ := ints_of (lt := lt) fun q hq => by
    obtain ⟨s, m, z, _⟩ := L.c q hq
    exact ⟨s, m, z⟩
  refine ⟨⟨js, e⟩, fun n hn => ?_⟩
  rw [Bool.eq_iff_iff]
  have : vN lt n = js.any fun j => PyData.eqv (.int j) (.int (n : Int)) := by
    unfold vN
    rw [e]
  rw [this, hj n, L.b n]
  unfold u5
  simp only [Bool.and_eq_true, decide_eq_true_eq, List.isEmpty_iff, List.filter_eq_nil_iff, aan]
  constructor
  · rintro ⟨a, b, c⟩
    exact ⟨a, fun k hk z => c k (by omega) hk.2 (aby.mp z)⟩
  · rintro ⟨a, c⟩
    exact ⟨a, hn, fun k h1 h2 z => c k ⟨by omega, h2⟩ (aby.mpr z)⟩
end cY
noncomputable section
namespace cY
open PySem PySem.Spec PyProof.Rows L2 PD
theorem aix {a b c d e v : D} : gq [(.inr "name", a), (.inr "due", b), (.inr "shut", c), (.inr "gone", d), (.inr "end", e)] (.inr "due") v = [(.inr "name", a), (.inr "due", v), (.inr "shut", c), (.inr "gone", d), (.inr "end", e)] := by
  simp [gq, lW]
theorem agz {a b c d e v : D} : gq [(.inr "name", a), (.inr "due", b), (.inr "shut", c), (.inr "gone", d), (.inr "end", e)] (.inr "shut") v = [(.inr "name", a), (.inr "due", b), (.inr "shut", v), (.inr "gone", d), (.inr "end", e)] := by
  simp [gq, lW]
theorem agA {a b c d e v : D} : gq [(.inr "name", a), (.inr "due", b), (.inr "shut", c), (.inr "gone", d), (.inr "end", e)] (.inr "gone") v = [(.inr "name", a), (.inr "due", b), (.inr "shut", c), (.inr "gone", v), (.inr "end", e)] := by
  simp [gq, lW]
theorem aiy {a b c d e v : D} : gq [(.inr "name", a), (.inr "due", b), (.inr "shut", c), (.inr "gone", d), (.inr "end", e)] (.inr "end") v = [(.inr "name", a), (.inr "due", b), (.inr "shut", c), (.inr "gone", d), (.inr "end", v)] := by
  simp [gq, lW]
section
variable {B : Nat} {h : AH} {ts : List Tk}
theorem agB (l : LS B h ts) (r : Rw) (hn : r.num < ts.length) : tH [.ref (B + 12), r.enc] h = .ok .non (h.set (dA B r.num) (pN (qY (tk ts r.num) r))) := by
  have dn := tK l hn
  have an := jm (fun k => D.ref (dA B k)) hn
  have Cv := xV dn
  have ld := (List.getElem?_eq_some_iff.mp dn).1
  have ss : ∀ c, (h.set (dA B r.num) c)[dA B r.num]? = some c := fun c => by rw [List.getElem?_set_self ld]
  have ll : ∀ c, (h.set (dA B r.num) c)[B + 12]? = some (.lst ((List.range ts.length).map fun k => .ref (dA B k))) := fun c => by rw [List.getElem?_set_ne (by unfold dA; split <;> omega)]; exact l.l
  unfold tH pN
  cases r <;> simp only [Rw.num] at hn dn an Cv ss ll ⊢ <;> simp only [Rw.enc, qY] <;>
    (wp_walk using "ew", aH, aK, aM, aN, aO, aP, l.l, an, dn, aix, agz, agA, aiy, ss, ll, Cv, Nat.reduceLT)
  all_goals (try rfl)
end
theorem ak5 {d : D} (h : d ∈ ([.str "kill", .str "kill", .str "late", .str "landed", .str "landed", .str "masked", .str "opened", .str "ended"] : List D)) : d = .str "kill" ∨ d = .str "late" ∨ d = .str "landed" ∨ d = .str "masked" ∨ d = .str "opened" ∨ d = .str "ended" := by
  simp only [List.mem_cons, List.not_mem_nil, or_false] at h
  rcases h with h | h | h | h | h | h | h | h <;> simp [h]
def acq (len : Nat) (r : Rw) : Prop := r.sm ∧ ∀ b, r.by_ = some b → r.by_ = some r.num ∨ b < len
theorem adW {i : Int} (h : 0 ≤ i) : ∃ n : Nat, i = (n : Int) := ⟨i.toNat, by omega⟩
theorem ak6 {d : D} {i : Int} (h : d ∈ ([.non, .non, .int i, .int 0] : List D)) : d = .non ∨ d = .int i ∨ d = .int 0 := by
  simp only [List.mem_cons, List.not_mem_nil, or_false] at h
  rcases h with h | h | h | h <;> simp [h]
theorem mem2 {d : D} (h : d ∈ ([.tup [.str "done"], .tup [.str "killed"]] : List D)) : ∃ k, d = outD k := by
  simp only [List.mem_cons, List.not_mem_nil, or_false] at h
  rcases h with h | h
  · exact ⟨false, h⟩
  · exact ⟨true, h⟩
theorem add_div {n : Nat} {j m : Int} (h0 : 0 ≤ j) (hm : 0 < m) (h1 : j ≤ m) : ∃ e : Nat, e ≤ 1 ∧ (n : Int) + j / m = ((n + e : Nat) : Int) := by
  have a := Int.ediv_nonneg h0 (Int.le_of_lt hm)
  have b : j / m ≤ 1 := by
    have : j / m ≤ m / m := Int.ediv_le_ediv hm h1
    rwa [Int.ediv_self (by omega)] at this
  exact ⟨(j / m).toNat, by omega, by omega⟩
section
variable {j k len : Nat} {h : AH}
theorem aiz (w : Well j h k) (hk : k < 1000) (h1 : 1 ≤ len) (h2 : len < 100) : ∃ (r : Rw) (h' : AH), tV [.ref j, .int (len : Int)] h = .ok r.enc h' ∧ acq len r ∧ Well j h' (k + 6) ∧ Fr j h h' := by
  have q8 : (8 : Int).natAbs.log2 < 9000 := by decide +kernel
  have q19 : (19 : Int).natAbs.log2 < 9000 := by decide +kernel
  have p8 : (0 : Int) < 8 := by decide
  have p19 : (0 : Int) < 19 := by decide
  obtain ⟨d, g1, e1, m1, w1, f1⟩ := DQ (ds := [.str "kill", .str "kill", .str "late", .str "landed", .str "landed", .str "masked", .str "opened", .str "ended"]) w (by omega) (by decide) (by decide)
  obtain ⟨i, g2, e2, i0, i1, w2, f2⟩ := rJ (m := (len : Int)) w1 (by omega) (by omega) (by omega)
  obtain ⟨n, rfl⟩ := adW i0
  have two : ∀ (c : String) (R : Option Nat → Nat → Rw), (∀ b n, (R b n).enc = .tup [.str (PySem.Str.ofString c), opI b, .int (n : Int)]) → (∀ b n, (R b n).num = n ∧ (R b n).by_ = b) → ∃ (b : Option Nat) (e : Nat) (d2 : D) (i2 : Int) (g3 g4 g5 : AH) (i3 : Int), fK [.ref j, .int (len : Int)] g2 = .ok (.int i2) g3 ∧
      qC [.ref j, .lst [.non, .non, .int i2, .int 0]] g3 = .ok d2 g4 ∧ fK [.ref j, .int 9] g4 = .ok (.int i3) g5 ∧ d2 = opI b ∧ (n : Int) + i3 / 8 = ((n + e : Nat) : Int) ∧ acq len (R b (n + e)) ∧ Well j g5 (k + 6) ∧ Fr j h g5 := by
    intro c R hR hN
    obtain ⟨i2, g3, e3, j0, j1, w3, f3⟩ := rJ (m := (len : Int)) w2 (by omega) (by omega) (by omega)
    obtain ⟨d2, g4, e4, m4, w4, f4⟩ := DQ (ds := [.non, .non, .int i2, .int 0]) w3 (by omega) (by simp) (by simp)
    obtain ⟨i3, g5, e5, k0, k1, w5, f5⟩ := rJ (m := 9) w4 (by omega) (by decide) (by decide)
    obtain ⟨e, he, ee⟩ := add_div (n := n) (m := 8) k0 p8 (by omega)
    have fin : ∀ b : Option Nat, (∀ c, b = some c → c < len) → acq len (R b (n + e)) := fun b hb => by
      refine ⟨⟨by rw [(hN _ _).1]; omega, fun c hc => ?_⟩, fun c hc => ?_⟩
      · rw [(hN _ _).2] at hc
        have := hb c hc
        omega
      · rw [(hN _ _).2] at hc
        exact .inr (hb c hc)
    have fr := (((f1.trans f2).trans f3).trans f4).trans f5
    rcases ak6 m4 with rfl | rfl | rfl
    · exact ⟨none, e, _, i2, g3, g4, g5, i3, e3, e4, e5, rfl, ee, fin none (fun c z => by cases z), w5.mono (by omega), fr⟩
    · obtain ⟨n2, rfl⟩ := adW j0
      exact ⟨some n2, e, _, _, g3, g4, g5, i3, e3, e4, e5, rfl, ee, fin (some n2) (fun c z => by cases z; omega), w5.mono (by omega), fr⟩
    · exact ⟨some 0, e, _, i2, g3, g4, g5, i3, e3, e4, e5, rfl, ee, fin (some 0) (fun c z => by cases z; omega), w5.mono (by omega), fr⟩
  have one : ∀ (R : Nat → Rw), (∀ n, (R n).num = n ∧ (R n).by_ = some n) → ∃ (e : Nat) (g3 : AH) (i3 : Int), fK [.ref j, .int 20] g2 = .ok (.int i3) g3 ∧ (n : Int) + i3 / 19 = ((n + e : Nat) : Int) ∧ acq len (R (n + e)) ∧ Well j g3 (k + 6) ∧ Fr j h g3 := by
    intro R hN
    obtain ⟨i3, g3, e3, k0, k1, w3, f3⟩ := rJ (m := 20) w2 (by omega) (by decide) (by decide)
    obtain ⟨e, he, ee⟩ := add_div (n := n) (m := 19) k0 p19 (by omega)
    refine ⟨e, g3, i3, e3, ee, ⟨⟨by rw [(hN _).1]; omega, fun c hc => ?_⟩, fun c hc => .inl ?_⟩, w3.mono (by omega), (f1.trans f2).trans f3⟩
    · rw [(hN _).2] at hc
      cases hc
      omega
    · rw [(hN _).2, (hN _).1]
  unfold tV
  rcases ak5 m1 with rfl | rfl | rfl | rfl | rfl | rfl
  · obtain ⟨b, e, d2, i2, g3, g4, g5, i3, e3, e4, e5, rfl, ee, ok, w5, f5⟩ := two "kill" Rw.kill (fun _ _ => rfl) (fun _ _ => ⟨rfl, rfl⟩)
    refine ⟨.kill b (n + e), g5, ?_, ok, w5, f5⟩
    (wp_walk using "ew", aH, aK, aM, aN, aO, aP, e1, e2, e3, e4, e5, q8, p8, ee, Rw.enc)
  · obtain ⟨b, e, d2, i2, g3, g4, g5, i3, e3, e4, e5, rfl, ee, ok, w5, f5⟩ := two "late" Rw.late (fun _ _ => rfl) (fun _ _ => ⟨rfl, rfl⟩)
    refine ⟨.late b (n + e), g5, ?_, ok, w5, f5⟩
    (wp_walk using "ew", aH, aK, aM, aN, aO, aP, e1, e2, e3, e4, e5, q8, p8, ee, Rw.enc)
  · obtain ⟨e, g3, i3, e3, ee, ok, w5, f5⟩ := one Rw.landed (fun _ => ⟨rfl, rfl⟩)
    refine ⟨.landed (n + e), g3, ?_, ok, w5, f5⟩
    (wp_walk using "ew", aH, aK, aM, aN, aO, aP, e1, e2, e3, q19, p19, ee, Rw.enc)
  · obtain ⟨e, g3, i3, e3, ee, ok, w5, f5⟩ := one Rw.masked (fun _ => ⟨rfl, rfl⟩)
    refine ⟨.masked (n + e), g3, ?_, ok, w5, f5⟩
    (wp_walk using "ew", aH, aK, aM, aN, aO, aP, e1, e2, e3, q19, p19, ee, Rw.enc)
  · obtain ⟨e, g3, i3, e3, ee, ok, w5, f5⟩ := one Rw.opened (fun _ => ⟨rfl, rfl⟩)
    refine ⟨.opened (n + e), g3, ?_, ok, w5, f5⟩
    (wp_walk using "ew", aH, aK, aM, aN, aO, aP, e1, e2, e3, q19, p19, ee, Rw.enc)
  · obtain ⟨d3, g3, e3, m3, w3, f3⟩ := DQ (ds := [.tup [.str "done"], .tup [.str "killed"]]) w2 (by omega) (by decide) (by decide)
    obtain ⟨kk, rfl⟩ := mem2 m3
    refine ⟨.ended n kk, g3, ?_, ⟨⟨by show n < 1000; omega, fun c hc => ?_⟩, fun c hc => .inl rfl⟩, w3.mono (by omega), (f1.trans f2).trans f3⟩
    · (wp_walk using "ew", aH, aK, aM, aN, aO, aP, e1, e2, e3, Rw.enc)
    · have hc : some n = some c := hc
      cases hc
      omega
end
end cY
noncomputable section
namespace cY
open PySem PySem.Spec PyProof.Rows L2 PD
def yu (n : Nat) (s : Str) : D := .tup [.str "begun", .int (n : Int), .int 0, .str s, .int 0]
def tk0 (s : Str) : Tk := ⟨some s, false, false, false, none⟩
theorem Ui {a b c d e : D} : atI [a, b, c, d, e] 0 = some a := rfl
theorem acr {a b c d e : D} : atI [a, b, c, d, e] 1 = some b := rfl
theorem Uj {a b c d e : D} : atI [a, b, c, d, e] 2 = some c := rfl
theorem ajM {a b c d e : D} : atI [a, b, c, d, e] 3 = some d := rfl
theorem acs {a b c d e : D} : atI [a, b, c, d, e] 4 = some e := rfl
theorem ak7 {a b c d a' b' c' d' : D} {h : AH} : QC [.tup [a, b, c, d], .tup [a', b', c', d']] h = .ok [.tup [a, a'], .tup [b, b'], .tup [c, c'], .tup [d, d']] h := rfl
theorem ajN {a b c d e : D} {h : AH} : yj (.tup [a, b, c, d, e]) (some 1) none h = some (.tup [b, c, d, e], h) := rfl
theorem sm0 : Sm 0 := ⟨by decide, by decide⟩
theorem adX {n : Nat} {s : Str} (hn : n < 1000) (hs : Nm s) (h : AH) : jJ [yu n s] h = .ok (.bl true) h := by
  have p1 := oZ (acf hn) h
  have p2 := oZ sm0 h
  have p3 := adH hs h
  unfold jJ yu
  (wp_walk using "ew", aH, aK, aM, aN, aO, aP, Ag, vI, vW, vU, cQ, allM, lZ, cR, List.all_cons, List.all_nil, id, Nat.reduceLT, c0, c1, c2, c3, c4, c5, Int.reduceEq, Int.reduceAdd, Ui, agp, p1, p2, p3, aie, ak7, ajN)
  rfl
theorem Px {n : Nat} {s : Str} (h : AH) : jK [yu n s] h = .ok (.int 0) h := by
  unfold jK yu
  (wp_walk using "ew", aH, aK, aM, aN, aO, aP, Ui, Uj)
section
variable {B : Nat} {raw : Bool} {lt hm : List (Key × D)} {h : AH} {ts : List Tk} {many : Int}
theorem QZ {B n : Nat} : (uH B n).length = n := by simp [uH]
theorem aap (w : WS B raw lt hm h ts many) (h0 : 0 < ts.length) (h12 : ts.length < 12) (hh : hm = [] ∨ hm = [(.inl 0, .int 0)]) (hg : (tk ts 0).gone = false) {s : Str} : vq [.ref B, .ref (sA B 0), yu ts.length s] h = .ok .non h := by
  have e1 := lO w.w
  have e2 := aah w.w
  have e3 := Ai (w.s 0 _ (d9 h0))
  rw [jA h0, hg] at e3
  have d1 : decide ((12 : Int) ≤ (ts.length : Int)) = false := decide_eq_false (by omega)
  have v1 : valD ([] : List (Key × D)) (.inl 0) = none := rfl
  have v2 : valD [(.inl 0, .int 0)] (.inl 0) = some (.int 0) := rfl
  have wo := w.o
  unfold vq yu
  rcases hh with rfl | rfl
  · (wp_walk using "ew", aH, aK, aM, aN, aO, aP, bM, e1, e2, e3, w.t, QZ, Pr, acr, Uj, acs, j8, getM, wo, v1, v2, ge_iff_le, d1, fs3, ZM wo)
    rfl
  · (wp_walk using "ew", aH, aK, aM, aN, aO, aP, bM, e1, e2, e3, w.t, QZ, Pr, acr, Uj, acs, j8, getM, wo, v1, v2, ge_iff_le, d1, fs3, ZM wo)
    rfl
end
end cY
noncomputable section
namespace cY
open PySem PySem.Spec PyProof.Rows L2 PD
theorem agC {lt : List (Key × D)} {k : Key} {v : D} : (gq lt k v).length ≤ lt.length + 1 := by
  unfold gq
  split
  · simp
  · simp
theorem agD {B n : Nat} : gq (uH B n) (.inl (n : Int)) (.ref (sA B n)) = uH B (n + 1) := by
  unfold gq
  have : ((uH B n).any fun kv => decide (kv.1 = Sum.inl (n : Int))) = false := by
    rw [List.any_eq_false]
    intro q hq
    obtain ⟨k, hk, rfl⟩ := List.mem_map.mp hq
    have hk := List.mem_range.mp hk
    simp only [decide_eq_true_eq]
    intro z
    have : (k : Int) = (n : Int) := Sum.inl.inj z
    omega
  rw [this]
  simp only [Bool.false_eq_true, if_false]
  unfold uH
  rw [List.range_succ, List.map_append]
  rfl
section
variable {B : Nat} {raw : Bool} {lt hm : List (Key × D)} {h : AH} {ts : List Tk} {many : Int}
theorem aaq (w : WS B raw lt hm h ts many) (h0 : 0 < ts.length) (h12 : ts.length < 12) (hh : hm = [] ∨ hm = [(.inl 0, .int 0)]) (hg : (tk ts 0).gone = false) (hf : (tk ts 0).fin = none) {s : Str} (hs : Nm s) : dJ [.ref B, yu ts.length s] h = .ok .non h := by
  have lr := adX (n := ts.length) (by omega) hs h
  have dr := Px (n := ts.length) (s := s) h
  have ea := aap w h0 h12 hh hg (s := s)
  have e0 := abo w.w
  have e1 := lO w.w
  have e6 := jc (w.s 0 _ (d9 h0))
  rw [jA h0, hf] at e6
  have hv : valD (uH B ts.length) (.inl 0) = some (.ref (sA B 0)) := by
    have := cJ B 0 ts.length
    rw [if_pos h0] at this
    exact this
  have fn : Gm none = .non := rfl
  unfold dJ
  generalize jJ = P1 at lr ⊢
  generalize jK = P2 at dr ⊢
  unfold yu at lr dr ea ⊢
  (wp_walk using "ew", aH, aK, aM, aN, aO, aP, lr, bM, e0, dr, cQ, e1, w.t, hv, allM, lZ, cR, List.all_cons, List.all_nil, id, Nat.reduceLT, Bool.and_self, Ui, e6, fn, wO, wN, ajJ, pX, v7, ea)
theorem acu (w : WS B raw lt hm h ts many) (h0 : 0 < ts.length) (h12 : ts.length < 12) (hlt : lt.length < 1000) (hl : h.length = sA B ts.length) (hh : hm = [] ∨ hm = [(.inl 0, .int 0)]) {s : Str} :
    gW [.ref B, yu ts.length s] h = .ok .non ((((h ++ [fU B ts.length (tk0 s), .lst [], .lst []]).set (B + 5) (.dict (uH B (ts.length + 1)))).set (B + 9) (.dict (gq lt (.inr s) (.int (ts.length : Int))))).set (B + 10) (.dict [(.inl 0, .int 0)])) := by
  have dr := Px (n := ts.length) (s := s) h
  have wi := aiv w
  have wl := w_lit w
  have lB := (List.getElem?_eq_some_iff.mp w.w).1
  have l5 := (List.getElem?_eq_some_iff.mp w.t).1
  have l9 := (List.getElem?_eq_some_iff.mp w.l).1
  have l10 := (List.getElem?_eq_some_iff.mp w.o).1
  have si := Ry h (.int 0) (.str s)
  have sc : (.ins "Seen" (iT (.int 0) (.str s) .non false false (.tup [.str "on"]) (.ref (h.length + 1)) (.ref (h.length + 2))) : Cell) = fU B ts.length (tk0 s) := by
    have hb : Cp ts.length = .int 0 := by unfold Cp; rw [if_neg (by omega)]
    unfold fU
    rw [hb, hl]
    rfl
  rw [sc, hl] at si
  unfold cX at wi
  unfold gW
  generalize jK = P1 at dr ⊢
  generalize (qI "Seen" fun ds => kJ (GB.picked (ds ++ []) [0, 1, 2])) = P2 at si ⊢
  unfold yu at dr ⊢
  have g1w : ∀ l, (h ++ l)[B]? = some (.ins "Watch" (cX B raw .non many)) := fun l => by rw [List.getElem?_append_left lB]; exact w.w
  have g1t : ∀ l, (h ++ l)[B + 5]? = some (.dict (uH B ts.length)) := fun l => by rw [List.getElem?_append_left l5]; exact w.t
  have g1l : ∀ l, (h ++ l)[B + 9]? = some (.dict lt) := fun l => by rw [List.getElem?_append_left l9]; exact w.l
  have g1o : ∀ l, (h ++ l)[B + 10]? = some (.dict hm) := fun l => by rw [List.getElem?_append_left l10]; exact w.o
  have f1 := lO (g1w [fU B ts.length (tk0 s), .lst [], .lst []])
  have w2 : ∀ c, ((h ++ [fU B ts.length (tk0 s), .lst [], .lst []]).set (B + 5) c)[B]? = some (.ins "Watch" (cX B raw .non many)) := fun c => by rw [List.getElem?_set_ne (by omega)]; exact g1w _
  have w3 : ∀ c d, (((h ++ [fU B ts.length (tk0 s), .lst [], .lst []]).set (B + 5) c).set (B + 9) d)[B]? = some (.ins "Watch" (cX B raw .non many)) := fun c d => by rw [List.getElem?_set_ne (by omega)]; exact w2 _
  have l2 : ∀ c, ((h ++ [fU B ts.length (tk0 s), .lst [], .lst []]).set (B + 5) c)[B + 9]? = some (.dict lt) := fun c => by rw [List.getElem?_set_ne (by omega)]; exact g1l _
  have o3 : ∀ c d, (((h ++ [fU B ts.length (tk0 s), .lst [], .lst []]).set (B + 5) c).set (B + 9) d)[B + 10]? = some (.dict hm) := fun c d => by rw [List.getElem?_set_ne (by omega), List.getElem?_set_ne (by omega)]; exact g1o _
  have f2 := fun c => Cq (w2 c)
  have f3 := fun c d => aah (w3 c d)
  have n1 : ts.length < 16777216 := by omega
  have n2 : lt.length < 16777216 := by omega
  have hp : gq hm (.inl 0) (.int 0) = [(.inl 0, .int 0)] := by rcases hh with rfl | rfl <;> rfl
  have n3 : hm.length < 16777216 := by rcases hh with rfl | rfl <;> decide
  (wp_walk using "ew", aH, aK, aM, aN, aO, aP, cH, m7, wl, wi, dr, oV, oU, lW, List.mem_singleton, Nat.reduceLT, bM, si, Ui, acr, Uj, ajM, acs, f1, g1t, QZ, n1, agD, f2, l2, n2, f3, o3, hp, n3)
end
end cY
noncomputable section
namespace cY
open PySem PySem.Spec PyProof.Rows L2 PD
section
variable {B : Nat} {raw : Bool} {lt hm : List (Key × D)} {h : AH} {ts : List Tk} {many : Int}
theorem Py {h : AH} {n : Nat} {c : Cell} (e : h[n]? = some c) : n < h.length := (List.getElem?_eq_some_iff.mp e).1
theorem pZ {h l : AH} {n : Nat} {c : Cell} (e : h[n]? = some c) : (h ++ l)[n]? = some c := by
  rw [List.getElem?_append_left (Py e)]; exact e
theorem WS.app (w : WS B raw lt hm h ts many) (l : AH) : WS B raw lt hm (h ++ l) ts many :=
  ⟨pZ w.w, pZ w.t, pZ w.l, pZ w.o, fun k t e => pZ (w.s k t e), fun k hk => ⟨pZ (w.a k hk).1, pZ (w.a k hk).2⟩⟩
theorem LS.app (w : LS B h ts) (l : AH) : LS B (h ++ l) ts := ⟨pZ w.l, fun k t e => pZ (w.d k t e)⟩
theorem abz {ts : List Tk} {t u : Tk} {k : Nat} (e : (ts ++ [t])[k]? = some u) : ts[k]? = some u ∨ (k = ts.length ∧ u = t) := by
  by_cases hk : k < ts.length
  · rw [List.getElem?_append_left hk] at e
    exact .inl e
  · rw [List.getElem?_append_right (by omega)] at e
    have h1 := (List.getElem?_eq_some_iff.mp e).1
    refine .inr ?_
    have : k - ts.length = 0 := by simpa using h1
    have hk2 : k = ts.length := by omega
    subst hk2
    rw [Nat.sub_self] at e
    cases e
    exact ⟨rfl, rfl⟩
def grown (B : Nat) (lt : List (Key × D)) (n : Nat) (s : Str) (h : AH) : AH := (((h ++ [fU B n (tk0 s), .lst [], .lst []]).set (B + 5) (.dict (uH B (n + 1)))).set (B + 9) (.dict (gq lt (.inr s) (.int (n : Int))))).set (B + 10) (.dict [(.inl 0, .int 0)])
theorem tL {n : Nat} {s : Str} {i : Nat} {c : Cell} (e : h[i]? = some c) (h1 : i ≠ B + 5) (h2 : i ≠ B + 9) (h3 : i ≠ B + 10) : (grown B lt n s h)[i]? = some c := by
  unfold grown
  rw [List.getElem?_set_ne (by omega), List.getElem?_set_ne (by omega), List.getElem?_set_ne (by omega)]
  exact pZ e
theorem WS.grow (w : WS B raw lt hm h ts many) (h0 : 0 < ts.length) (hl : h.length = sA B ts.length) (s : Str) : WS B raw (gq lt (.inr s) (.int (ts.length : Int))) [(.inl 0, .int 0)] (grown B lt ts.length s h) (ts ++ [tk0 s]) many := by
  have l5 := Py w.t
  have l9 := Py w.l
  have l10 := Py w.o
  have en : ∀ i : Nat, i < 3 → (grown B lt ts.length s h)[sA B ts.length + i]? = [fU B ts.length (tk0 s), Cell.lst [], .lst []][i]? := fun i hi => by
    have := @Aj B ts.length
    unfold grown
    rw [List.getElem?_set_ne (by omega), List.getElem?_set_ne (by omega), List.getElem?_set_ne (by omega), ← hl, ga]
  refine ⟨tL w.w (by omega) (by omega) (by omega), ?_, ?_, ?_, fun k t e => ?_, fun k hk => ?_⟩
  · unfold grown
    rw [List.getElem?_set_ne (by omega), List.getElem?_set_ne (by omega), List.getElem?_set_self (by rw [List.length_append]; omega)]
    simp
  · unfold grown
    rw [List.getElem?_set_ne (by omega), List.getElem?_set_self (by rw [List.length_set, List.length_append]; omega)]
  · unfold grown
    rw [List.getElem?_set_self (by rw [List.length_set, List.length_set, List.length_append]; omega)]
  · rcases abz e with e | ⟨rfl, rfl⟩
    · refine tL (w.s k t e) ?_ ?_ ?_ <;> (unfold sA; split <;> omega)
    · exact en 0 (by decide)
  · by_cases z : k < ts.length
    · have := w.a k z
      refine ⟨tL this.1 ?_ ?_ ?_, tL this.2 ?_ ?_ ?_⟩ <;> (unfold sA; split <;> omega)
    · have : k = ts.length := by simp at hk; omega
      subst this
      exact ⟨en 1 (by decide), en 2 (by decide)⟩
theorem LS.grow (l : LS B h ts) {n : Nat} {s : Str} : LS B (grown B lt n s h) ts :=
  ⟨tL l.l (by omega) (by omega) (by omega), fun k t e => tL (l.d k t e) (by have := @sS B k; omega) (by have := @sS B k; omega) (by have := @sS B k; omega)⟩
theorem adY {n : Nat} {s : Str} : (grown B lt n s h).length = h.length + 3 := by
  unfold grown
  simp
theorem adZ (w : WS B raw lt hm h ts many) (h0 : 0 < ts.length) (h12 : ts.length < 12) (hlt : lt.length < 1000) (hl : h.length = sA B ts.length) (hh : hm = [] ∨ hm = [(.inl 0, .int 0)]) (hg : (tk ts 0).gone = false) (hf : (tk ts 0).fin = none) {s : Str} (hs : Nm s) :
    dh [.ref B, yu ts.length s] h = .ok .non (tick B raw many (grown B lt ts.length s h)) := by
  have er := aaq w h0 h12 hh hg hf hs
  have et := acu w h0 h12 hlt hl hh (s := s)
  have i1 := xW (cs := tO) (mn := "reason") w.w (by simp) (lQ (by decide +kernel))
  have i2 := xW (cs := yU) (mn := "take") w.w (by simp) (lQ (by decide +kernel))
  have fa := QX (w.grow h0 hl s) [some (.ref B), some (yu ts.length s), some .non] rfl
  unfold dh
  unfold grown at fa ⊢
  generalize dJ = P1 at er ⊢
  generalize gW = P2 at et ⊢
  generalize uV jk "many" (ao 0) (eC (.int 1)) = S1 at fa ⊢
  generalize yu ts.length s = R1 at er et fa ⊢
  (wp_walk using "ew", aH, aK, aM, aN, aO, aP, QD, gQ, i1, i2, er, et, fa, noX)
end
end cY
noncomputable section
namespace cY
open PySem PySem.Spec PyProof.Rows L2 PD
def IB : MS := (aZ (eE (j8 "list" FQ (ao 4) (aq (aY 1 0 pH (aq (aY 2 0 qC (aq (ao 1) (aq (ao 2) aA)) aA) aA) aA) aA)))
    (cA (bY (aG fQ (gQ rW "see" 1 dh (ao 3) (aq (bH bL (aq (eC (.str "begun")) (aq (aG je (bH fJ (aq (ao 4) aA)) (eC (.int (1)))) (aq (eC (.int (0))) (aq (aG bD (aG bD (ao 4) (pU abP (eC (.int (1))))) (eC (.str "name"))) (aq (eC (.int (0))) aA)))))) aA)) (eC .non))) (bK (eC (.bl false))) bV))
def CB : MS := (aZ (bO (aY 1 0 nZ (aq (ao 7) aA) aA) (PD.gName 8))
    (aZ (bO (aY 2 0 tV (aq (ao 8) (aq (bH fJ (aq (ao 4) aA)) aA)) aA) (PD.gName 9))
    (aZ (bO (aY 2 0 uZ (aq (ao 4) (aq (ao 9) aA)) aA) (PD.gName 10))
    (aZ (cA (bY (aG jX (aY 2 0 pJ (aq (ao 3) (aq (ao 9) aA)) aA) (aG bD (bH cC (aq (eC (.str "")) (aq (bH bL (aq (ao 6) (aq (ao 10) aA))) aA))) (bH jj (aq (aG jX (ao 10) (eC (.str ""))) aA))))) (bK (eC (.bl false))) bV)
    (aZ (cA (bY (aG cW (ao 10) (eC (.str "")))) (eE (aY 2 0 tH (aq (ao 4) (aq (ao 9) aA)) aA)) bV)
    (bO (aG dF (ao 6) (eC (.int (1)))) (PD.gName 6)))))))
theorem RG {d : D} {h : AH} : pH [d] h = .ok (.ref h.length) (h ++ [.dict [(.inr "name", d), (.inr "due", .bl false), (.inr "shut", .bl false), (.inr "gone", .bl false), (.inr "end", .non)]]) := by
  unfold pH
  (wp_walk using "ew", aH, aK, aM, aN, aO, aP, Pa, BZ, keysOf, BW, List.foldl_cons, List.foldl_nil, ga0, sa0)
  simp [gq, lW]
theorem ae5 {i : Int} {w : String} {h : AH} : jX (.tup [.int i, .str (PySem.Str.ofString w)]) (.tup [.int i, .str (PySem.Str.ofString w)]) h = some (.bl false, h) := by
  show (dI h _ _).map _ = _
  have e : dI h (.tup [.int i, .str (PySem.Str.ofString w)]) (.tup [.int i, .str (PySem.Str.ofString w)]) = some true := by
    have s1 : SeqAt.shaped (.tuple [.int i, .str (PySem.Str.ofString w)]) = true := by
      unfold SeqAt.shaped
      simp only [PyData.canLay0, PyData.canLayAll0, PyData.depth, PyData.depthAll, GB.rO (GB.jB w), Bool.and_true, Bool.true_and]
      rfl
    show (if SeqAt.shaped (.tuple [.int i, .str (PySem.Str.ofString w)]) = true ∧ SeqAt.shaped (.tuple [.int i, .str (PySem.Str.ofString w)]) = true then some (PyData.eqv (.tuple [.int i, .str (PySem.Str.ofString w)]) (.tuple [.int i, .str (PySem.Str.ofString w)])) else none) = _
    rw [if_pos ⟨s1, s1⟩]
    have e2 : PyData.eqv (.tuple [.int i, .str (PySem.Str.ofString w)]) (.tuple [.int i, .str (PySem.Str.ofString w)]) = (decide (i = i) && ((PySem.Str.ofString w == PySem.Str.ofString w) && true)) := rfl
    rw [e2]
    simp
  rw [e]
  rfl
structure St (B : Nat) (raw : Bool) (lt hm : List (Key × D)) (h : AH) (ts : List Tk) (many : Int) : Prop where
  w : WS B raw lt hm h ts many
  l : LS B h ts
  L : LT ts lt
  ok : okT ts
  h0 : 0 < ts.length
  h12 : ts.length < 12
theorem ajO {w : String} {h : AH} (e : ¬ w = "") : jX (.str (PySem.Str.ofString w)) (.str (PySem.Str.ofString "")) h = some (.bl true, h) := by
  rw [lu, decide_eq_false e]
  rfl
theorem ajP {w : String} {h : AH} (e : ¬ w = "") : cW (.str (PySem.Str.ofString w)) (.str (PySem.Str.ofString "")) h = some (.bl false, h) := by
  rw [kZ, decide_eq_false e]
section
variable {B : Nat} {raw : Bool} {lt hm : List (Key × D)} {h : AH} {ts : List Tk} {many : Int}
theorem agE {n : Nat} (ok : okT ts) (hn : n < ts.length) {t : Tk} (e : t.name = (tk ts n).name) : okT (ts.set n t) := fun m hm => by
  rw [List.length_set] at hm
  rw [adT hn]
  by_cases z : n = m
  · subst z
    rw [if_pos rfl, e]
    exact ok n hn
  · rw [if_neg z]
    exact ok m hm
theorem aiA (L : LT ts lt) {n : Nat} (hn : n < ts.length) {t : Tk} (e : t.name = (tk ts n).name) : LT (ts.set n t) lt := by
  have nm : ∀ m, (tk (ts.set n t) m).name = (tk ts m).name := fun m => by
    rw [adT hn]
    by_cases z : n = m
    · subst z
      rw [if_pos rfl, e]
    · rw [if_neg z]
  refine ⟨fun m => ?_, fun q hq => ?_⟩
  · rw [L.b m, List.length_set]
    simp only [nm]
  · obtain ⟨s, m, z, hm, hn2⟩ := L.c q hq
    exact ⟨s, m, z, by rw [List.length_set]; exact hm, by rw [nm]; exact hn2⟩
theorem aar {t : Tk} {r : Rw} : (qY t r).name = t.name := by cases r <;> rfl
theorem cell_step {x0 x1 x2 x5 x8 x9 x10 : Option D} (c : Int) (S : St B raw lt hm h ts many) : ∃ (ts' : List Tk) (y8 y9 y10 : Option D) (h' : AH), St B raw lt hm h' ts' (many + 1) ∧
    CB [x0, x1, x2, some (.ref B), some (.ref (B + 12)), x5, some (.int many), some (.int c), x8, x9, x10] h = .nx [x0, x1, x2, some (.ref B), some (.ref (B + 12)), x5, some (.int (many + 1)), some (.int c), y8, y9, y10] h' := by
  obtain ⟨h1, e1, w1, x, rfl⟩ := abj c h
  have lR := pZ (l := [x]) S.l.l
  obtain ⟨r, h2, e2, ro, w2, f2⟩ := aiz (len := ts.length) w1 (by decide) (by have := S.h0; omega) (by have := S.h12; omega)
  obtain ⟨y, rfl⟩ := f2
  rw [sa0] at e2 w2
  have e2 : tV [.ref h.length, .int (ts.length : Int)] (h ++ [x]) = .ok r.enc (h ++ [y]) := e2
  have W := S.w.app [y]
  have Lx := S.l.app [y]
  obtain ⟨⟨js, hj⟩, la⟩ := S.L.lat
  have hl : ts.length < 1000 := by have := S.h12; omega
  have e3 := aiu Lx S.ok hl r ro.2
  have i1 := xW (cs := rW) (mn := "see") W.w (by simp) (lQ (by decide +kernel))
  by_cases hd : u6 ts r = ""
  · have hn : r.num < ts.length := by
      by_cases z : r.num < ts.length
      · exact z
      · unfold u6 at hd
        rw [if_neg z] at hd
        exact absurd hd (by decide)
    have e4 := adV (aiw W hj hl r ro.1 ro.2 la hd hn) i1
    rw [hd] at e3
    have W2 := (W.put hn (qY (tk ts r.num) r)).cnt (many + 1)
    have L2 := (Lx.away (n := sA B r.num) (c := fU B r.num (qY (tk ts r.num) r)) ajL (fun k => by have := @acn B r.num k 0 (by decide); have := @acn B k r.num 0 (by decide); omega)).away (n := B) (c := .ins "Watch" (cX B raw .non (many + 1))) (by omega) (fun k => by have := @sS B k; omega)
    have e5 := agB L2 r hn
    have W3 := W2.away (n := dA B r.num) (c := pN (qY (tk ts r.num) r)) (by have := @sS B r.num; omega) (by have := @sS B r.num; omega) (by have := @sS B r.num; omega) (by have := @sS B r.num; omega) (fun k i hi => acn hi)
    have L3 := L2.put hn (qY (tk ts r.num) r)
    refine ⟨_, some (.ref h.length), some r.enc, some (.str ""), _, ⟨W3, L3, aiA S.L hn aar, agE S.ok hn aar, by rw [List.length_set]; exact S.h0, by rw [List.length_set]; exact S.h12⟩, ?_⟩
    unfold CB
    unfold tick at e4
    generalize nZ = P1 at e1 ⊢
    generalize tV = P2 at e2 ⊢
    generalize uZ = P3 at e3 ⊢
    generalize pJ = P4 at e4 ⊢
    generalize tH = P5 at e5 ⊢
    (wp_walk using "ew", aH, aK, aM, aN, aO, aP, e1, lR, List.length_map, List.length_range, e2, e3, e4, e5, jj)
  · have e4 := acp (agy W hj hl r ro.1 ro.2 la hd) i1
    have W2 := W.cnt (many + 1)
    have L2 := Lx.away (n := B) (c := .ins "Watch" (cX B raw .non (many + 1))) (by omega) (fun k => by have := @sS B k; omega)
    refine ⟨ts, some (.ref h.length), some r.enc, some (.str (u6 ts r)), _, ⟨W2, L2, S.L, S.ok, S.h0, S.h12⟩, ?_⟩
    unfold CB
    unfold tick at e4
    have n1 := fun h => ajO hd (h := h)
    have n2 := fun h => ajP hd (h := h)
    have n3 := fun h => ae5 (i := many) (w := u6 ts r) (h := h)
    generalize nZ = P1 at e1 ⊢
    generalize tV = P2 at e2 ⊢
    generalize uZ = P3 at e3 ⊢
    generalize pJ = P4 at e4 ⊢
    generalize tH = P5
    generalize u6 ts r = dw at *
    (wp_walk using "ew", aH, aK, aM, aN, aO, aP, e1, lR, List.length_map, List.length_range, e2, e3, e4, jj, n1, n2, n3)
end
end cY
noncomputable section
namespace cY
open PySem PySem.Spec PyProof.Rows L2 PD
theorem at_last {l : List D} {x : D} : atI (l ++ [x]) (-1) = some x := by
  unfold atI ixN
  have e : ((-1 : Int) + ((l ++ [x]).length : Int)).toNat = l.length := by
    rw [List.length_append, List.length_singleton]
    omega
  rw [if_neg (by decide), if_pos (by rw [List.length_append, List.length_singleton]; omega), e]
  simp
theorem acv : ∀ c ∈ lets, c < 0x110000 := by decide +kernel
theorem aiB {s : Str} (n : Nm s) : GB.Ed s := fun c hc => acv c (n.1 c hc)
theorem Well.keep {j k : Nat} {h h' : AH} (w : Well j h k) (e : ∀ c, h[j]? = some c → h'[j]? = some c) : Well j h' k := by
  obtain ⟨a, b, c, e1, q⟩ := w
  exact ⟨a, b, c, e _ e1, q⟩
structure Bg (j B : Nat) (raw : Bool) (lt hm : List (Key × D)) (h : AH) (ts : List Tk) (many : Int) (k : Nat) : Prop where
  s : St B raw lt hm h ts many
  wl : Well j h k
  hj : j < B
  hh : hm = [] ∨ hm = [(.inl 0, .int 0)]
  hg : (tk ts 0).gone = false
  hf : (tk ts 0).fin = none
  hl : h.length = dA B ts.length
  nl : lt.length ≤ ts.length
section
variable {j B k : Nat} {raw : Bool} {lt hm : List (Key × D)} {h : AH} {ts : List Tk} {many : Int}
theorem ajQ {n : Nat} (hn : 0 < n) : sA B n = dA B n + 1 ∧ dA B (n + 1) = sA B n + 3 ∧ dA B n = B + 9 + 4 * n := by
  unfold sA dA
  rw [if_neg (by omega), if_neg (by omega), if_neg (by omega)]
  omega
theorem ae6 {x0 x5 x6 x7 x8 x9 x10 : Option D} {a b : Str} (na : Nm a) (nb : Nm b) (hk : k < 1000) (G : Bg j B raw lt hm h ts many k) (h10 : ts.length < 11) :
    ∃ (lt' : List (Key × D)) (ts' : List Tk) (h' : AH), Bg j B raw lt' [(.inl 0, .int 0)] h' ts' (many + 1) (k + 1) ∧ ts'.length = ts.length + 1 ∧
      IB [x0, some (.ref j), some (.lst [.str a, .str b]), some (.ref B), some (.ref (B + 12)), x5, x6, x7, x8, x9, x10] h = .nx [x0, some (.ref j), some (.lst [.str a, .str b]), some (.ref B), some (.ref (B + 12)), x5, x6, x7, x8, x9, x10] h' := by
  obtain ⟨S, wl, hj, hh, hg, hf, hl, nl⟩ := G
  obtain ⟨d, h1, e1, m1, w1, f1⟩ := DQ (ds := [.str a, .str b]) wl (by omega) (by simp) (by simp)
  have hs : ∃ s, d = .str s ∧ Nm s := by
    simp only [List.mem_cons, List.not_mem_nil, or_false] at m1
    rcases m1 with rfl | rfl
    · exact ⟨a, rfl, na⟩
    · exact ⟨b, rfl, nb⟩
  obtain ⟨s, rfl, ns⟩ := hs
  obtain ⟨x, rfl⟩ := f1
  obtain ⟨q1, q2, q3⟩ := ajQ (B := B) S.h0
  have l1 : (h.set j x).length = dA B ts.length := by rw [List.length_set, hl]
  have W1 := S.w.away (n := j) (c := x) (by omega) (by omega) (by omega) (by omega) (fun k i hi => by have := @Aj B k; omega)
  have L1 := S.l.away (n := j) (c := x) (by omega) (fun k => by have := @sS B k; omega)
  have e2 := RG (d := .str s) (h := h.set j x)
  have lc : (.dict [(.inr "name", .str s), (.inr "due", .bl false), (.inr "shut", .bl false), (.inr "gone", .bl false), (.inr "end", .non)] : Cell) = pN (tk0 s) := rfl
  rw [lc, l1] at e2
  have W2 := W1.app [pN (tk0 s)]
  have L2 := L1.app [pN (tk0 s)]
  have W3 := W2.away (n := B + 12) (c := .lst (((List.range ts.length).map fun k => D.ref (dA B k)) ++ [.ref (dA B ts.length)])) (by omega) (by omega) (by omega) (by omega) (fun k i hi => by unfold sA; split <;> omega)
  have ak8 : B + 12 < (h.set j x ++ [pN (tk0 s)]).length := Py L2.l
  have rg : ((List.range ts.length).map fun k => D.ref (dA B k)) ++ [.ref (dA B ts.length)] = (List.range (ts ++ [tk0 s]).length).map fun k => D.ref (dA B k) := by
    rw [List.length_append, List.length_singleton, List.range_succ, List.map_append]
    rfl
  have L3 : LS B ((h.set j x ++ [pN (tk0 s)]).set (B + 12) (.lst (((List.range ts.length).map fun k => D.ref (dA B k)) ++ [.ref (dA B ts.length)]))) (ts ++ [tk0 s]) := by
    refine ⟨by rw [List.getElem?_set_self ak8, rg], fun k t e => ?_⟩
    rw [List.getElem?_set_ne (by unfold dA; split <;> omega)]
    rcases abz e with e | ⟨rfl, rfl⟩
    · exact L2.d k t e
    · rw [← l1]
      exact ga0
  have n3 : ((h.set j x ++ [pN (tk0 s)]).set (B + 12) (.lst (((List.range ts.length).map fun k => D.ref (dA B k)) ++ [.ref (dA B ts.length)]))).length = sA B ts.length := by
    rw [List.length_set, List.length_append, l1, List.length_singleton]
    omega
  have e4 := adZ W3 S.h0 S.h12 (by omega) n3 hh hg hf ns
  have i1 := xW (cs := rW) (mn := "see") W3.w (by simp) (lQ (by decide +kernel))
  have W4 := (W3.grow S.h0 n3 s).cnt (many + 1)
  have L4 := (L3.grow (lt := lt) (n := ts.length) (s := s)).away (n := B) (c := .ins "Watch" (cX B raw .non (many + 1))) (by omega) (fun k => by have := @sS B k; omega)
  have t0 : tk (ts ++ [tk0 s]) 0 = tk ts 0 := by rw [Pu, if_pos S.h0]
  have wk : Well j (tick B raw many (grown B lt ts.length s ((h.set j x ++ [pN (tk0 s)]).set (B + 12) (.lst (((List.range ts.length).map fun k => D.ref (dA B k)) ++ [.ref (dA B ts.length)]))))) (k + 1) := by
    refine w1.keep fun c ec => ?_
    unfold tick
    rw [List.getElem?_set_ne (by omega)]
    refine tL ?_ (by omega) (by omega) (by omega)
    rw [List.getElem?_set_ne (by omega)]
    exact pZ ec
  refine ⟨gq lt (.inr s) (.int (ts.length : Int)), ts ++ [tk0 s], _, ⟨⟨W4, L4, S.L.add S.h0 s, ?_, ?_, ?_⟩, wk, hj, .inr rfl, by rw [t0]; exact hg, by rw [t0]; exact hf, ?_, ?_⟩, by simp, ?_⟩
  · intro m hm
    rw [Pu]
    split
    · rename_i z
      exact S.ok m z
    · split
      · exact (aiB ns)
      · trivial
  · simp
  · simp; omega
  · rw [List.length_set, adY, n3, List.length_append, List.length_singleton]
    omega
  · have := @agC lt (.inr s) (.int (ts.length : Int))
    rw [List.length_append, List.length_singleton]
    omega
  · have a1 : FQ (.ref (B + 12)) [.ref (dA B ts.length)] (h.set j x ++ [pN (tk0 s)]) = some (.non, (h.set j x ++ [pN (tk0 s)]).set (B + 12) (.lst (((List.range ts.length).map fun k => D.ref (dA B k)) ++ [.ref (dA B ts.length)]))) := by
      have := L2.l
      have hl2 : ((List.range ts.length).map fun k => D.ref (dA B k)).length < 16777216 := by simp; have := S.h12; omega
      simp only [FQ, this, hl2, if_true]
    have i2 := aeE S.l.l
    have i3 := aK
    have ll := L3.l
    rw [← rg] at ll
    have ls : ((List.range ts.length).map fun k => D.ref (dA B k)).length = ts.length := by simp
    have key : ∀ (H : AH), H[dA B ts.length]? = some (pN (tk0 s)) → H[dA B ts.length]? = some (.dict [(.inr "name", .str s), (.inr "due", .bl false), (.inr "shut", .bl false), (.inr "gone", .bl false), (.inr "end", .non)]) := fun H e => e
    have ld := key _ (L3.d ts.length (tk0 s) (by simp))
    have en : ((ts.length : Int) + 1 - 1) = (ts.length : Int) := by omega
    have cs2 : (((ts.length + 1 : Nat)) : Int) - 1 = (ts.length : Int) := by omega
    unfold yu at e4
    unfold IB
    generalize qC = P1 at e1 ⊢
    generalize pH = P2 at e2 ⊢
    generalize dh = P3 at e4 ⊢
    (wp_walk using "ew", aH, aK, aM, aN, aO, aP, j8, i2, e1, e2, a1, gQ, i1, ll, List.length_append, ls, abP, at_last, ld, cs2, e4)
    try rfl
end
end cY
noncomputable section
namespace cY
open PySem PySem.Spec PyProof.Rows L2 PD
def t0 : Tk := ⟨none, false, false, false, none⟩
def L13 (B : Nat) (raw : Bool) : AH := [.ins "Watch" (cX B raw .non 0), .dict [], .dict [], .dict [], .dict [], .dict [(.inl 0, .ref (B + 6))], .ins "Seen" (iT .non .non .non false false (.tup [.str "on"]) (.ref (B + 7)) (.ref (B + 8))), .lst [], .lst [], .dict [], .dict [], pN t0, .lst [.ref (B + 11)]]
theorem agF {g : AH} {raw : Bool} {j k : Nat} (hj : j < g.length) (wl : Well j g k) : Bg j g.length raw [] [] (g ++ L13 g.length raw) [t0] 0 k := by
  refine ⟨⟨⟨?_, ?_, ?_, ?_, fun k t e => ?_, fun k hk => ?_⟩, ⟨?_, fun k t e => ?_⟩, ⟨fun m => ?_, fun q hq => (by cases hq)⟩, fun m hm => ?_, by simp, by simp⟩, wl.app _, hj, .inl rfl, rfl, rfl, ?_, by simp⟩
  · exact ga0
  · exact ga
  · exact ga
  · exact ga
  · cases k with
    | zero =>
      cases e
      exact ga
    | succ k => simp at e
  · have : k = 0 := by simp at hk; omega
    subst this
    exact ⟨ga (k := 7), ga (k := 8)⟩
  · exact ga
  · cases k with
    | zero =>
      cases e
      exact ga
    | succ k => simp at e
  · constructor
    · rintro ⟨s, z⟩
      cases z
    · rintro ⟨a, b, _⟩
      simp at b
      omega
  · have : m = 0 := by simp at hm; omega
    subst this
    trivial
  · rw [List.length_append]
    rfl
section
variable {j B k : Nat} {raw : Bool} {lt hm : List (Key × D)} {h h' : AH} {ts : List Tk} {many : Int}
theorem Bg.draw (G : Bg j B raw lt hm h ts many k) (w : Well j h' (k + 1)) (f : Fr j h h') : Bg j B raw lt hm h' ts many (k + 1) := by
  obtain ⟨S, wl, hj, hh, hg, hf, hl, nl⟩ := G
  obtain ⟨x, rfl⟩ := f
  exact ⟨⟨S.w.away (n := j) (c := x) (by omega) (by omega) (by omega) (by omega) (fun k i hi => by have := @Aj B k; omega), S.l.away (n := j) (c := x) (by omega) (fun k => by have := @sS B k; omega), S.L, S.ok, S.h0, S.h12⟩, w, hj, hh, hg, hf, by rw [List.length_set, hl], nl⟩
theorem aas {x0 x6 x7 x8 x9 x10 : Option D} {a b : Str} (na : Nm a) (nb : Nm b) : ∀ (ds : List D) (x5 : Option D) (lt hm : List (Key × D)) (ts : List Tk) (many : Int) (k : Nat) (h : AH), Bg j B raw lt hm h ts many k → k + ds.length < 1000 → ts.length + ds.length < 12 →
    ∃ (lt' hm' : List (Key × D)) (ts' : List Tk) (y5 : Option D) (h' : AH), St B raw lt' hm' h' ts' (many + ds.length) ∧ ts'.length = ts.length + ds.length ∧
      forL (PD.gName 5) IB ds [x0, some (.ref j), some (.lst [.str a, .str b]), some (.ref B), some (.ref (B + 12)), x5, x6, x7, x8, x9, x10] h = .nx [x0, some (.ref j), some (.lst [.str a, .str b]), some (.ref B), some (.ref (B + 12)), y5, x6, x7, x8, x9, x10] h'
  | [], x5, lt, hm, ts, many, k, h, G, _, _ => ⟨lt, hm, ts, x5, h, by simpa using G.s, by simp, rfl⟩
  | d :: ds, x5, lt, hm, ts, many, k, h, G, h1, h2 => by
    rw [List.length_cons] at h1 h2
    obtain ⟨lt1, ts1, g1, G1, l1, e1⟩ := ae6 (x0 := x0) (x5 := some d) (x6 := x6) (x7 := x7) (x8 := x8) (x9 := x9) (x10 := x10) na nb (by omega) G (by omega)
    obtain ⟨lt2, hm2, ts2, y5, g2, G2, l2, e2⟩ := aas (x0 := x0) (x6 := x6) (x7 := x7) (x8 := x8) (x9 := x9) (x10 := x10) na nb ds (some d) lt1 _ ts1 (many + 1) (k + 1) g1 G1 (by omega) (by omega)
    refine ⟨lt2, hm2, ts2, y5, g2, ?_, by rw [l2, l1, List.length_cons]; omega, ?_⟩
    · rw [List.length_cons, show many + ((ds.length + 1 : Nat) : Int) = many + 1 + (ds.length : Int) by omega]
      exact G2
    · unfold forL
      generalize IB = I at e1 e2 ⊢
      (wp_walk using "ew", aH, aK, aM, aN, aO, aP, e1)
      exact e2
theorem PB {x0 x1 x2 x5 : Option D} : ∀ (ds : List D) (x7 x8 x9 x10 : Option D) (ts : List Tk) (many : Int) (h : AH), (∀ d ∈ ds, ∃ c : Int, d = .int c) → St B raw lt hm h ts many →
    ∃ (y7 y8 y9 y10 : Option D) (ts' : List Tk) (m' : Int) (h' : AH), St B raw lt hm h' ts' m' ∧
      forL (PD.gName 7) CB ds [x0, x1, x2, some (.ref B), some (.ref (B + 12)), x5, some (.int many), x7, x8, x9, x10] h = .nx [x0, x1, x2, some (.ref B), some (.ref (B + 12)), x5, some (.int m'), y7, y8, y9, y10] h'
  | [], x7, x8, x9, x10, ts, many, h, _, S => ⟨x7, x8, x9, x10, ts, many, h, S, rfl⟩
  | d :: ds, x7, x8, x9, x10, ts, many, h, hd, S => by
    obtain ⟨c, rfl⟩ := hd d List.mem_cons_self
    obtain ⟨ts1, y8, y9, y10, h1, S1, e1⟩ := cell_step (x0 := x0) (x1 := x1) (x2 := x2) (x5 := x5) (x8 := x8) (x9 := x9) (x10 := x10) c S
    obtain ⟨z7, z8, z9, z10, ts2, m2, h2, S2, e2⟩ := PB (x0 := x0) (x1 := x1) (x2 := x2) (x5 := x5) ds (some (.int c)) y8 y9 y10 ts1 (many + 1) h1 (fun d h => hd d (List.mem_cons_of_mem _ h)) S1
    refine ⟨z7, z8, z9, z10, ts2, m2, h2, S2, ?_⟩
    unfold forL
    generalize CB = C at e1 e2 ⊢
    (wp_walk using "ew", aH, aK, aM, aN, aO, aP, e1)
    exact e2
end
theorem acw {S : List D → D} (hS : S = D.dB ∨ S = D.lst) (ns : List Int) (h : AH) : ∃ c, qu [S (ns.map D.int), .int 0] h = .ok (.int c) h := by
  cases ns with
  | nil => exact ⟨0, by unfold qu; rcases hS with rfl | rfl <;> (wp_walk using "ew", aH, aK, aM, aN, aO, aP, Int.lt_irrefl) <;> rfl⟩
  | cons n ns =>
    have p : (0 : Int) < ((((ns.map D.int).length + 1 : Nat)) : Int) := by omega
    exact ⟨n, by unfold qu; rcases hS with rfl | rfl <;> (wp_walk using "ew", aH, aK, aM, aN, aO, aP, p)⟩
theorem agG {B : Nat} {raw : Bool} {lt hm : List (Key × D)} {h : AH} {ts : List Tk} {many : Int} (w : WS B raw lt hm h ts many) : lM [.ref B] h = .ok (.int many) h := by
  have e := abp w.w
  unfold lM
  (wp_walk using "ew", aH, aK, aM, aN, aO, aP, bM, e)
theorem ad0 (ns : List Int) (lo hi : Option Int) : ∀ d ∈ PD.cutD (ns.map D.int) lo hi, ∃ c : Int, d = .int c := fun d hd => by
  unfold PD.cutD at hd
  obtain ⟨i, _, rfl⟩ := List.mem_map.mp (List.mem_of_mem_drop (List.mem_of_mem_take hd))
  exact ⟨i, rfl⟩
theorem ae7 (ns : List Int) (hn : ns.length ≤ 63) (lo hi : Option Int) : (PD.cutD (ns.map D.int) lo hi).length ≤ 63 := by
  unfold PD.cutD
  rw [List.length_take, List.length_drop, List.length_map]
  omega
end cY
noncomputable section
namespace cY
open PySem PySem.Spec PyProof.Rows L2 PD
theorem ajR {P : Program} {w : World} {outer : List Env} {H : Hp} {s : Shared} {e : Value} {s' : Shared} (h : L2.CX P w outer H s (fun _ _ _ => False) e s') : False := by
  obtain ⟨_, _, _, _, _, _, _, _, _, _, _, _, z⟩ := h
  exact z
theorem agH {P : Program} {w : World} {K : PySem.W.Frag} {mg : Str → Option Value} {base : Heap} {k : Nat} {f : Addr} {fd : FuncData} {ps : List Str} {m : Mn} (F : GB.Fn P w K mg base (L2.CX P w) k f fd ps (Bw K m)) :
    GB.Fn P w K mg base L2.CX0 k f fd ps (fun vs H Q _ => Bw K m vs H Q fun _ _ _ => False) := by
  refine ⟨fun vs H Q E h => F.len vs H Q _ h, fun A outer s H args us vs Q E hr hg env b v h => codeAny_mono (F.go A outer s H args us vs Q _ hr hg env b v h) ?_⟩
  rintro (err | fl) s' z
  · exact (ajR z).elim
  · cases fl <;> exact z
theorem DY {K : PySem.W.Frag} {H : Hp} {al : Al} : ∀ ns : List Int, bx K H al (ns.map D.int) (ns.map V.int)
  | [] => .nil
  | n :: ns => .cons (.int n) (DY ns)
theorem agI {K : PySem.W.Frag} {x q : Str} {st : Stmt} {dvs : List V} {kws : List (Str × V)} {f : Addr} {fd fd' : FuncData} (a : FunD K x q (defArgs st) (defBody st) (defScope st) dvs kws f fd) (b : FunD K x q (defArgs st) (defBody st) (defScope st) dvs kws f fd') : fd = fd' := by
  obtain ⟨oc, od, dV, kV, doc, pm, an, cdv, ct, osl, rfl, lk, _⟩ := a.ex
  obtain ⟨oc2, od2, dV2, kV2, alZ, pm2, an2, al5, ct2, osl2, rfl, lk2, _⟩ := b.ex
  have e := lk.symm.trans lk2
  cases e
  rfl
def W11 (B : Nat) (raw : Bool) : AH := [.ins "Watch" (cX B raw .non 0), .dict [], .dict [], .dict [], .dict [], .dict [(.inl 0, .ref (B + 6))], .ins "Seen" (iT .non .non .non false false (.tup [.str "on"]) (.ref (B + 7)) (.ref (B + 8))), .lst [], .lst [], .dict [], .dict []]
theorem abB {B : Nat} {raw : Bool} : (W11 B raw).length = 11 := rfl
theorem agJ {g : AH} {B : Nat} {raw : Bool} : g ++ W11 B raw ++ [pN t0] ++ [.lst [.ref (B + 11)]] = g ++ L13 B raw := by
  rw [List.append_assoc, List.append_assoc]
  rfl
theorem ad1 {g : AH} {B : Nat} {raw : Bool} (hB : g.length = B) : pH [.non] (g ++ W11 B raw) = .ok (.ref (B + 11)) (g ++ W11 B raw ++ [pN t0]) := by
  have e := RG (d := .non) (h := g ++ W11 B raw)
  rw [List.length_append, abB, hB] at e
  exact e
theorem aiC {S : List D → D} (hS : S = D.dB ∨ S = D.lst) (ns : List Int) (hn : ns.length ≤ 63) (h : AH) : ∃ h', Af [S (ns.map D.int)] h = .ok (.bl true) h' := by
  obtain ⟨c, ec⟩ := acw hS ns h
  obtain ⟨h1, e1, w1, x, rfl⟩ := abj c h
  obtain ⟨a, h2, e2, na, w2, f2⟩ := abl w1 (by decide)
  obtain ⟨y2, rfl⟩ := f2
  rw [sa0] at e2 w2
  obtain ⟨b, h3, e3, nb, w3, f3⟩ := abl w2 (by decide)
  obtain ⟨y3, rfl⟩ := f3
  rw [sa0] at e3 w3
  obtain ⟨r, h4, e4, r0, r1, w4, f4⟩ := rJ (m := 2) w3 (by decide) (by decide) (by decide)
  obtain ⟨y4, rfl⟩ := f4
  rw [sa0] at e4 w4
  simp only [List.set_cons_zero] at e2 e3 e4 w2 w3 w4
  have lg : (h ++ [y4]).length = h.length + 1 := by simp
  obtain ⟨B, hB⟩ : ∃ B, B = h.length + 1 := ⟨_, rfl⟩
  have e5 : qI "Watch" (fun ds => oR (GB.picked (ds ++ [.non]) [0, 2, 1])) [.bl (decide (r = 0))] (h ++ [y4]) = .ok (.ref B) (h ++ [y4] ++ W11 B (decide (r = 0))) := by
    rw [ab9, lg, ← hB]
    rfl
  have et := ad1 (g := h ++ [y4]) (B := B) (raw := decide (r = 0)) (by rw [lg, hB])
  have el : (h ++ [y4] ++ W11 B (decide (r = 0)) ++ [pN t0]).length = B + 12 := by
    rw [List.length_append, List.length_append, lg, abB, hB]
    rfl
  have ea := agJ (g := h ++ [y4]) (B := B) (raw := decide (r = 0))
  have G := agF (raw := decide (r = 0)) (show h.length < (h ++ [y4]).length by omega) w4
  rw [lg, ← hB] at G
  obtain ⟨r3, h6, e6, q0, q1, w6, f6⟩ := rJ (m := 3) G.wl (by decide) (by decide) (by decide)
  have G2 := G.draw w6 f6
  obtain ⟨lt1, hm1, ts1, y5, h7, S7, l7, e7⟩ := aas (x0 := some (S (ns.map D.int))) (x6 := none) (x7 := none) (x8 := none) (x9 := none) (x10 := none) na nb (vg 0 (2 + r3).toNat) none _ _ _ _ _ _ G2 (by rw [vH]; omega) (by rw [vH]; simp; omega)
  have cut : ∀ d ∈ PD.cutD (ns.map D.int) (some 1) (some 41) ++ [.int 0, .int 1, .int 2], ∃ c : Int, d = .int c := fun d hd => by
    rcases List.mem_append.mp hd with hd | hd
    · exact ad0 ns _ _ d hd
    · simp only [List.mem_cons, List.not_mem_nil, or_false] at hd
      rcases hd with rfl | rfl | rfl <;> exact ⟨_, rfl⟩
  have mm : (0 : Int) + ((vg 0 (2 + r3).toNat).length : Int) = (ts1.length : Int) - 1 := by
    rw [l7]
    simp
    omega
  rw [mm] at S7
  obtain ⟨z7, z8, z9, z10, ts2, m2, h8, S8, e8⟩ := PB (x0 := some (S (ns.map D.int))) (x1 := some (.ref h.length)) (x2 := some (.lst [.str a, .str b])) (x5 := y5) (PD.cutD (ns.map D.int) (some 1) (some 41) ++ [.int 0, .int 1, .int 2]) none none none none ts1 _ h7 cut S7
  have e9 := agG S8.w
  have i1 := xW (cs := DP) (mn := "seen") S8.w.w (by simp) (lQ (by decide +kernel))
  have hr : -(2 ^ 62) ≤ 2 + r3 ∧ 2 + r3 < 2 ^ 62 := ⟨by omega, by omega⟩
  have hlen : (PD.cutD (ns.map D.int) (some 1) (some 41)).length + 3 ≤ 16777216 := by have := ae7 ns hn (some 1) (some 41); omega
  have ll := S7.l.l
  refine ⟨h8, ?_⟩
  unfold Af
  unfold IB at e7
  unfold CB at e8
  generalize qu = P1 at ec ⊢
  generalize nZ = P2 at e1 e8 ⊢
  generalize uY = P3 at e2 e3 ⊢
  generalize fK = P4 at e4 e6 ⊢
  generalize (qI "Watch" fun ds => oR (GB.picked (ds ++ [.non]) [0, 2, 1])) = P5 at e5 ⊢
  generalize lM = P6 at e9 ⊢
  generalize pH = P7 at et e7 ⊢
  generalize (gName 5 : MG) = G5 at e7 ⊢
  generalize (gName 7 : MG) = G7 at e8 ⊢
  have d3 : decide (m2 = m2) = true := decide_eq_true rfl
  rcases hS with rfl | rfl <;>
    (wp_walk using "ew", aH, aK, aM, aN, aO, aP, ec, e1, e2, e3, e4, e5, et, el, ea, e6, Qq, hr, e7, ll, List.length_map, List.length_range, yj, hlen, e8, gQ, i1, e9, d3)
end cY
noncomputable section
namespace cY
open PySem PySem.Spec PyProof.Rows L2 PD
theorem aiD {K : PySem.W.Frag} {H : Hp} {a : Addr} {ns : List Int} (hl : ns.length ≤ 63) (hS : SqL K H a (ns.map V.int)) : Bw K Af [.ref a] H (fun v _ => v = .bl true) fun _ _ _ => False := by
  have hr : HR K H ⟨[], []⟩ [] := ⟨List.nodup_nil, rfl, fun a h => (by cases h), fun a h => (by cases h), fun n c a h => (by simp at h)⟩
  have no : ¬ Al.has ⟨[], []⟩ a := fun z => z.elim (fun w => (by cases w)) (fun w => (by cases w))
  have go : ∀ S : List D → D, (S = D.dB ∨ S = D.lst) → Rp K H ⟨[], []⟩ (S (ns.map D.int)) (.ref a) → Bw K Af [.ref a] H (fun v _ => v = .bl true) fun _ _ _ => False := fun S hS rp => by
    obtain ⟨h', e⟩ := aiC hS ns hl []
    refine ⟨[S (ns.map D.int)], ⟨[], []⟩, [], hr, .cons rp .nil, ?_⟩
    rw [e]
    intro v H' aQ _ _ q
    cases q
    rfl
  rcases hS with (hS | ⟨o, hS⟩) | hS
  · exact go _ (.inr rfl) (.lst ⟨hS, no⟩ (DY ns))
  · exact go _ (.inl rfl) (.dB (.inl ⟨o, hS, no⟩) (DY ns))
  · exact go _ (.inl rfl) (.dB (.inr hS) (DY ns))
theorem ad2 {K : PySem.W.Frag} {fd : FuncData} (F : FunD K "law" "law" (defArgs qZ) (defBody qZ) (defScope qZ) [] [] (He.ga K "law") fd) (s : Shared) (v : Value) : BindsTo s fd ⟨[v], []⟩ [("_law_script", v)] :=
  FunD.bindsA (ps := ["_law_script"]) F (fun _ _ _ _ _ _ us hl => match us, hl with | [_], _ => rfl) s [v] rfl
theorem aiE {P : Program} {w : World} {K : PySem.W.Frag} {mg : Str → Option Value} {base : Heap} (T : Top w K mg) {fd : FuncData} (F : FunD K "law" "law" (defArgs qZ) (defBody qZ) (defScope qZ) [] [] (He.ga K "law") fd) :
    GB.Fn P w K mg base L2.CX0 9 (He.ga K "law") fd ["_law_script"] (fun vs H Q _ => Bw K Af vs H Q fun _ _ _ => False) := by
  obtain ⟨fd', D1, F1⟩ := (ajG (P := P) (base := base) T).ex
  rw [agI F D1]
  exact agH F1
end cY
open PySem PySem.W PySem.Calls PyProof.Rows
set_option maxHeartbeats 0 in
theorem PySem.Challenge.cw_givenback_k22_kills_seen_and_landed_holds : PySem.Challenge.rw_givenback_k22_kills_seen_and_landed.Holds := by
  refine hold0 ?hc
  case hc =>
    refine GB.aiJ (l := PySem.Challenge.rw_givenback_k22_kills_seen_and_landed) (n := 63) (k := 9) (x := "_law_script") (CX := L2.CX0) rfl (by decide) (by kernel_rfl) ⟨rfl, by decide, by decide⟩ ?F (fun _ _ _ _ z => z)
    intro w mg fa h Y G hmg0
    obtain ⟨K, KX, c⟩ := Y
    have hmg : mg ("law" : PySem.Str) = some (.ref fa) := by
      have e : (HandSHeadRun.topDef (OpenLaw.row PySem.Challenge.rw_givenback_k22_kills_seen_and_landed).prog 56).name = ("law" : PySem.Str) := by kernel_rfl
      rw [← e]
      exact hmg0
    have T := cY.ahB KX G c
    have e := hmg.symm.trans T.abG.gl
    cases e
    obtain ⟨fd, F⟩ := T.abG.ex
    exact ⟨K, fd, fun vs H Q _ => PD.Bw K cY.Af vs H Q fun _ _ _ => False, KX, fun s v => cY.ad2 F s v, fun H a ns hl hS => cY.aiD hl hS, fun base _ _ => cY.aiE T F⟩
