import PyProof.Rows.All
import Wide.All
import OpenK.AllK
import Wide.FinOn
import PyProof.EqAt
import PyProof.EqKinds
import PyProof.TupleCall
import KE.KStateDown
import Lean
import HandS.ForMost
import HandS.Exc
import HandS.TryOnly
import HandS.WordsExc
import HandS.More
import HandS.Flow
import HandS.Wide
import HandS.IsInst
import HandS.Defaults
import HandS.RaiseMore
import HandS.Deep
import HandS.Walk
import HandS.TupAny
import HandS.Head0
import HandS.Head1
import HandS.Head2
import HandS.HeadEnd
import HandS.HeadHook1
import HandS.HeadHook2
import HandS.ExcInit
import HandS.ExcField
import HandS.ExcIs
import HandS.TryMany
import HandS.ClsMeth
import HandS.CallLocal
import HandS.HeadHook3
import HandS.SortKw
import HandS.MakeKw
import HandS.MakeKwOnly
import KE.DatumOrd
import KE.KExcInit
import HandS.ExcOwn
import HandS.TupMul
import HandS.FStr
import HandS.SortRule
import HandS.OwnEq
import KE.KCallOwn
import KE.KUnpackStar
import HandS.Zip
import KE.GoesMore
import HandS.Style
import KE.KTryMore
import PyProof.NeKinds
import PyProof.P3Eq
import HandS.Iter
import HandS.Finally
import PyProof.AssignAttr
import KE.KDictWalk
import HandS.Text
import HandS.SetFor
import PyProof.SeqRoads2
import PySem.Challenge.RW_givenback_k23_things_got_and_given
set_option Elab.async false
set_option linter.all false
set_option maxRecDepth 100000
set_option maxHeartbeats 4000000
namespace GB
open PySem PySem.Spec PyProof.Rows L2
structure Fn (P : Program) (w : World) (K : PySem.W.Frag) (mg : Str → Option Value) (base : Heap) (CX : CXT)
    (k : Nat) (f : Addr) (fd : FuncData) (ps : List Str) (sp : Sp) : Prop where
  len : ∀ vs H Q E, sp vs H Q E → vs.length = ps.length
  go : ∀ (A : Around) (outer : List Env) (s : Shared) (H : Hp) (args : Args) (us : List Value) (vs : List V)
    (Q : VK) (E : XK), Room k A → A.guards = some [] → Env0 P w K mg base A outer s H →
    BindsTo s fd args (ps.zip us) → Vals vs us → sp vs H Q E →
    codeAny (model P w) A (.call (.ref f) args) (CR CX outer P w H s Q E) s
section
variable {P : Program} {w : World} {K : PySem.W.Frag} {mg : Str → Option Value} {base : Heap} {CX : CXT}
  {j k : Nat} {f : Addr} {fd : FuncData} {ps : List Str} {sp sp' : Sp}
theorem Fn.amS (F : FnOk P w K mg base CX k f fd ps sp) : Fn P w K mg base CX k f fd ps sp :=
  ⟨F.len, fun A outer s H args us vs Q E hr _ => F.run A outer s H args us vs Q E hr⟩
theorem Fn.mono (F : Fn P w K mg base CX j f fd ps sp) (h : j ≤ k) : Fn P w K mg base CX k f fd ps sp :=
  ⟨F.len, fun A outer s H args us vs Q E hr => F.go A outer s H args us vs Q E (hr.mono h)⟩
theorem Fn.imp (F : Fn P w K mg base CX k f fd ps sp) (h : ∀ vs H Q E, sp' vs H Q E → sp vs H Q E) :
    Fn P w K mg base CX k f fd ps sp' :=
  ⟨fun vs H Q E q => F.len vs H Q E (h _ _ _ _ q),
    fun A outer s H args us vs Q E hr g he hb hv hs => F.go A outer s H args us vs Q E hr g he hb hv (h _ _ _ _ hs)⟩
end
section
variable {P : Program} {w : World} {K : PySem.W.Frag} {mg : Str → Option Value} {base : Heap} {CX : CXT}
  {x qual : Str} {params : Arguments} {body : List Stmt} {scope : Scope} {dvs : List V} {kws : List (Str × V)}
  {k : Nat} {f : Addr} {fd : FuncData} {N ps : List Str} {sp : Sp}
theorem fnG (F : FunD K x qual params body scope dvs kws f fd) (S : FnScope N ps scope)
    (len : ∀ vs H Q E, sp vs H Q E → vs.length = ps.length)
    (hb : ∀ (cdv : Value) (A : Around) (outer : List Env) (s : Shared) (H : Hp) (vs : List V) (Q : VK) (E : XK),
      Room k (A.deeper (envOfC qual scope s.heap.objs.size f cdv)) → A.guards = some [] → sp vs H Q E →
      ∃ t, PSs (cxOf CX P w K mg base N qual scope f cdv A outer s H E) body t ∧
        t { nx := fun _ H' => Q .non H', rt := Q } (start N vs) H) :
    Fn P w K mg base CX (k + 1) f fd ps sp := by
  obtain ⟨oc, od, dV, kV, doc, pm, an, cdv, ct, osl, rfl, lk, hcd, _, _⟩ := F.ex
  refine ⟨len, ?_⟩
  intro A outer s H args us vs Q E hr hg e0 hbi r hsp
  have kb : ∀ b o, base.get? b = some o → s.heap.get? b = some o := fun b o e => (e0.bs b o e).1
  have X0 : K.In s.heap := e0.mod.kin.keeps kb
  have par : ∀ y ∈ ps.zip us, scope.names.lookup y.1 = some .local ∨
      (scope.names.lookup y.1 = some .cell ∧ ((cellsFrom (s.heap.objs.size + 1) scope.names []).lookup y.1).isSome = true) := by
    rintro ⟨n, v⟩ hy
    cases S.par n (List.of_mem_zip hy).1 with
    | inl q => exact .inl q
    | inr q => exact .inr ⟨q, PySem.W.cellsFrom_some _ _ _ (.inl q)⟩
  refine codeAny_call_function hr.depth (X0 _ _ lk) rfl S.co S.gen rfl (PySem.W.codeRec_of X0 hcd) (hbi _ _ _ _ ?_)
  refine wpAny_newFunctionEnv_cells S.kind par ?_
  rintro env rfl s1 x
  refine ⟨(e0.mod.nolimit.keeps kb).keeps x.toInCall.keep, codeAny_func ?_⟩
  obtain ⟨t, ht, hq⟩ := hb cdv A outer s H vs Q E (hr.deeper _) hg hsp
  refine wpAny_mono (ht.run [] s1 (start N vs) H _ (inv_start S hr.hd e0 (len _ _ _ _ hsp) r x) hq) ?_ (fun _ _ z => z)
  intro fl s' hs
  match fl, hs with
  | .ret u, ⟨v, σ', H', J, rv, q⟩ => exact ⟨v, H', J.os, J.bare, J.base, J.hok, rv, q⟩
  | .next, ⟨σ', H', J, q⟩ => exact ⟨V.non, H', J.os, J.bare, J.base, J.hok, rfl, q⟩
  | .brk, ⟨_, _, _, q⟩ => exact q.elim
  | .cont, ⟨_, _, _, q⟩ => exact q.elim
end
structure Tp (K : PySem.W.Frag) (mg : Str → Option Value) (x : Str) (st : Stmt) (dvs : List V) (kws : List (Str × V)) : Prop where
  ex : ∃ fd, FunD K x x (defArgs st) (defBody st) (defScope st) dvs kws (He.ga K x) fd
  gl : mg x = some (.ref (He.ga K x))
structure Cal (P : Program) (w : World) (K : PySem.W.Frag) (mg : Str → Option Value) (base : Heap) (CX : CXT)
    (k : Nat) (x : Str) (ps : List Str) (sp : Sp) : Prop where
  ex : ∃ fd, Binds K fd ps [] ∧ PySem.W.keepIn K (.ref (He.ga K x)) = true ∧ Fn P w K mg base CX k (He.ga K x) fd ps sp
  gl : mg x = some (.ref (He.ga K x))
section
variable {P : Program} {w : World} {K : PySem.W.Frag} {mg : Str → Option Value} {base : Heap} {CX : CXT}
  {x : Str} {st : Stmt} {kws : List (Str × V)} {j k : Nat} {N ps : List Str} {sp sp' : Sp}
theorem Cal.mono (c : Cal P w K mg base CX j x ps sp) (h : j ≤ k) : Cal P w K mg base CX k x ps sp := by
  obtain ⟨fd, b, kp, F⟩ := c.ex
  exact ⟨⟨fd, b, kp, F.mono h⟩, c.gl⟩
theorem Cal.imp (c : Cal P w K mg base CX k x ps sp) (h : ∀ vs H Q E, sp' vs H Q E → sp vs H Q E) : Cal P w K mg base CX k x ps sp' := by
  obtain ⟨fd, b, kp, F⟩ := c.ex
  exact ⟨⟨fd, b, kp, F.imp h⟩, c.gl⟩
theorem Tp.cal (T : Tp K mg x st [] kws) (S : FnScope N ps (defScope st))
    (hbd : ∀ (kV doc pm : Value) (an : Option Addr) (cdv ct : Value) (us : List Value), us.length = ps.length →
      bindArgs (PySem.W.fnOf x x (defArgs st) (defBody st) (defScope st) .none kV doc pm an cdv ct) ⟨us, []⟩ = pure (ps.zip us))
    (len : ∀ vs H Q E, sp vs H Q E → vs.length = ps.length)
    (hb : ∀ (cdv : Value) (A : Around) (outer : List Env) (s : Shared) (H : Hp) (vs : List V) (Q : VK) (E : XK),
      Room k (A.deeper (envOfC x (defScope st) s.heap.objs.size (He.ga K x) cdv)) → A.guards = some [] → sp vs H Q E →
      ∃ t, PSs (cxOf CX P w K mg base N x (defScope st) (He.ga K x) cdv A outer s H E) (defBody st) t ∧
        t { nx := fun _ H' => Q .non H', rt := Q } (start N vs) H) :
    Cal P w K mg base CX (k + 1) x ps sp := by
  obtain ⟨fd, F⟩ := T.ex
  exact ⟨⟨fd, F.bindsN hbd, F.kp, fnG F S len hb⟩, T.gl⟩
end
section
variable {X : Cx} {CX : CXT} {k : Nat} {ps : List Str} {sp : Sp} {E : XK} {x : Str} {p pos : Pos} {e : Expr} {es : List Expr} {t : TA}
end
structure Ca (P : Program) (w : World) (K : PySem.W.Frag) (mg : Str → Option Value) (base : Heap) (CX : CXT)
    (k : Nat) (x : Str) (st : Stmt) (kws : List (Str × V)) (ps : List Str) (sp : Sp) : Prop where
  ex : ∃ fd, FunD K x x (defArgs st) (defBody st) (defScope st) [] kws (He.ga K x) fd ∧ Fn P w K mg base CX k (He.ga K x) fd ps sp
  gl : mg x = some (.ref (He.ga K x))
def picked {α : Type} (xs : List α) (is : List Nat) : List α := is.filterMap fun i => xs[i]?
theorem Jk {xs : List V} {us : List Value} (r : Vals xs us) : ∀ is : List Nat, Vals (picked xs is) (picked us is)
  | [] => .nil
  | i :: is => by
    have ih := Jk r is
    unfold picked at ih ⊢
    rw [List.filterMap_cons, List.filterMap_cons]
    cases e : xs[i]? with
    | none =>
      rw [Vals.none_of r e]
      exact ih
    | some x =>
      obtain ⟨u, hu, ru⟩ := Vals.get r e
      rw [hu]
      exact .cons ru ih
section
variable {P : Program} {w : World} {K : PySem.W.Frag} {mg : Str → Option Value} {base : Heap} {CX : CXT}
  {x : Str} {st : Stmt} {kws : List (Str × V)} {j k : Nat} {N ps : List Str} {sp sp' : Sp}
theorem Ca.mono (c : Ca P w K mg base CX j x st kws ps sp) (h : j ≤ k) : Ca P w K mg base CX k x st kws ps sp := by
  obtain ⟨fd, F, G⟩ := c.ex
  exact ⟨⟨fd, F, G.mono h⟩, c.gl⟩
theorem Ca.imp (c : Ca P w K mg base CX k x st kws ps sp) (h : ∀ vs H Q E, sp' vs H Q E → sp vs H Q E) : Ca P w K mg base CX k x st kws ps sp' := by
  obtain ⟨fd, F, G⟩ := c.ex
  exact ⟨⟨fd, F, G.imp h⟩, c.gl⟩
theorem Ca.cal (c : Ca P w K mg base CX k x st kws ps sp)
    (hbd : ∀ (kV doc pm : Value) (an : Option Addr) (cdv ct : Value) (us : List Value), us.length = ps.length →
      bindArgs (PySem.W.fnOf x x (defArgs st) (defBody st) (defScope st) .none kV doc pm an cdv ct) ⟨us, []⟩ = pure (ps.zip us)) :
    Cal P w K mg base CX k x ps sp := by
  obtain ⟨fd, F, G⟩ := c.ex
  exact ⟨⟨fd, F.bindsN hbd, F.kp, G⟩, c.gl⟩
end
def akZ (n m : Nat) (is : List Nat) (sp : Sp) (E : XK) (t tk : TA) : TE := fun σ H Q => t σ H fun vs H1 => tk σ H1 fun zs H2 => vs.length = n ∧ zs.length = m ∧ sp (picked (vs ++ zs) is) H2 Q E
section
variable {X : Cx} {CX : CXT} {k n : Nat} {ps ks : List Str} {sp : Sp} {E : XK} {x : Str} {st : Stmt} {kwd : List (Str × V)} {p pos : Pos} {e : Expr} {es : List Expr} {kws : List Keyword} {t tk : TA} {is : List Nat}
end
theorem afX {P : Program} {w : World} {K : PySem.W.Frag} {mg mb : Str → Option Value} {CX : CXT} {k : Nat} {fa a : Addr}
    {fd : FuncData} {x : Str} {sp : Sp} {s1 : Shared} {vs : List Value} {ns : List Int}
    (KX : K.In s1.heap) (hns : s1.heap.Ns mainGlobals mg) (hb : s1.heap.Ns builtinsNs mb)
    (hbb : ∀ x : Str, x ≠ "__name__" → mb x = bootBuiltins x) (hlim : s1.heap.NoLimit) (hg : s1.gens = #[])
    (ha : s1.heap.get? a = some { cls := .type "list", data := .seq vs.toArray }) (hi : IntsAre vs ns)
    (hl : ns.length ≤ sizeLine) (hr : Room k callerA)
    (F : ∀ base : Heap, K.In base → base.Ns mainGlobals mg → Fn P w K mg base CX k fa fd [x] sp)
    (hbind : ∀ (s : Shared) (u : Value), BindsTo s fd ⟨[u], []⟩ [(x, u)])
    (hsp : ∀ H : Hp, SqL K H a (ns.map V.int) → sp [.ref a] H (fun v _ => v = .bl true) fun _ _ _ => False)
    (hCX : ∀ H e s', CX [] H s1 (fun _ _ _ => False) e s' → False) :
    codeAny (model P w) callerA (.call (.ref fa) ⟨[.ref a], []⟩)
      (fun r s' => r = .ok (.ret (.bool true)) ∧ OldK s1.heap s'.heap ∧ s'.os = s1.os ∧ AllBare s'.gens) s1 := by
  have rv := vals_ints hi
  have lenV := hi.length
  have key : ∀ H : Hp, Only H → SqL K H a (ns.map V.int) → HOk P w H s1.heap → (∀ b, H b ≠ none → b = a ∧ K.lookup a = none) →
      codeAny (model P w) callerA (.call (.ref fa) ⟨[.ref a], []⟩)
        (fun r s' => r = .ok (.ret (.bool true)) ∧ OldK s1.heap s'.heap ∧ s'.os = s1.os ∧ AllBare s'.gens) s1 := by
    intro H hO hS hok hA
    have off : ∀ b, (b ≠ a ∨ K.lookup a ≠ none) → H b = none := fun b hb => by
      cases q : H b with
      | none => rfl
      | some u =>
        have z := hA b (by rw [q]; exact fun h => nomatch h)
        rcases hb with h | h
        · exact absurd z.1 h
        · exact absurd z.2 h
    have nsT : ∀ {b : Addr} {m : Str → Option Value}, s1.heap.Ns b m → (hidT s1.heap H).Ns b m := by
      rintro b m ⟨o, es, ep, e, d, r⟩
      refine ⟨o, es, ep, hidT_get e (off b (.inl ?_)), d, r⟩
      rintro rfl
      rw [ha] at e
      cases e
      have d' : Data.seq vs.toArray _ = Data.dict es ep := d
      cases d'
    have KT : K.In (hidT s1.heap H) := fun b o e => hidT_get (KX b o e) (off b (by
      by_cases h : b = a
      · refine .inr ?_
        rw [← h, e]
        exact fun z => nomatch z
      · exact .inl h))
    obtain ⟨mc, h1, h2⟩ := hlim
    have M0 : Mod K mg (hidT s1.heap H) := ⟨KT, nsT hns, ⟨mb, nsT hb, hbb⟩, ⟨mc, nsT h1, h2⟩⟩
    have e0 : Env0 P w K mg (hidT s1.heap H) callerA [] s1 H :=
      ⟨rfl, M0, fun b o e => of_hidT e, Nat.le_of_eq (hidT_size _ _), trivial, fun b hb => (nomatch (show b ∈ ([] : List Addr) from hb)), hok, .of_eq hg⟩
    refine codeAny_mono ((F _ KT (nsT hns)).go callerA [] s1 H ⟨[.ref a], []⟩ [.ref a] [.ref a] _ _ hr rfl e0 (hbind s1 (.ref a)) (.cons rfl .nil) (hsp H hS)) ?_
    intro r s' h
    match r, h with
    | .error e, h => exact (hCX H e s' h).elim
    | .ok (.ret u), ⟨v, H', os, bare, un, hok', r', q⟩ =>
      cases (show v = V.bl true from q)
      cases (show u = Value.bool true from r')
      refine ⟨rfl, OldK.of_keep ?_, os, bare⟩
      intro b o e
      cases q : H b with
      | none => exact un.keep b o e q (fun z => nomatch (show b ∈ ([] : List Addr) from z)) (fun z => nomatch z)
      | some u =>
        rcases hO b with z | ⟨ob, xs, z⟩
        · rw [q] at z
          cases z
        · have e1 := (hok b _ z).1
          have e2 := (hok' b _ (un.frzs b ob _ z)).1
          rw [e] at e1
          cases e1
          exact e2
  cases hk : K.lookup a with
  | some o =>
    have e := KX a o hk
    rw [ha] at e
    cases e
    refine key (fun _ => none) (fun _ => .inl rfl) (.inr ⟨_, vs.toArray, _, hk, rfl, rfl, rfl, ?_, by simpa using rv⟩) (fun b u z => nomatch z) (fun b z => absurd rfl z)
    rw [List.size_toArray, lenV]
    exact hl
  | none =>
    let H0 : Hp := fun b => if b = a then some (.frz { cls := .type "list", data := .seq vs.toArray } (.lst (ns.map V.int))) else none
    have at0 : H0 a = some (.frz { cls := .type "list", data := .seq vs.toArray } (.lst (ns.map V.int))) := if_pos rfl
    have ne0 : ∀ b, b ≠ a → H0 b = none := fun b h => if_neg h
    refine key H0 ?_ (.inl (.inr ⟨_, at0⟩)) ?_ ?_
    · intro b
      by_cases h : b = a
      · rw [h]
        exact .inr ⟨_, _, at0⟩
      · exact .inl (ne0 b h)
    · intro b u z
      by_cases h : b = a
      · subst h
        rw [at0] at z
        cases z
        exact ⟨ha, by rw [List.length_map]; exact hl, vs, _, rv, ha⟩
      · rw [ne0 b h] at z
        cases z
    · intro b z
      by_cases h : b = a
      · exact ⟨h, hk⟩
      · exact absurd (ne0 b h) z
theorem ak0 {l : PySem.W.OpenLaw} {n k : Nat} {q : Program} {loose : List Str} {XP : (Str → Option Value) → Heap → Prop}
    {YP : World → Heap → Prop} {d : DefRec} {CX : CXT} {x : Str}
    (hn : l.most = some n) (hn2 : n ≤ sizeLine) (hdf : d.params.defaults = []) (hr : Room k callerA)
    (F : ∀ (w : World) (mg : Str → Option Value) (fa : Addr) (h : Heap), YP w h → h.Ns mainGlobals mg → mg d.name = some (.ref fa) →
      ∃ (K : PySem.W.Frag) (fd : FuncData) (sp : Sp), K.In h ∧ (∀ (s : Shared) (u : Value), BindsTo s fd ⟨[u], []⟩ [(x, u)]) ∧
        (∀ (H : Hp) (a : Addr) (ns : List Int), ns.length ≤ n → SqL K H a (ns.map V.int) → sp [.ref a] H (fun v _ => v = .bl true) fun _ _ _ => False) ∧
        ∀ base : Heap, K.In base → base.Ns mainGlobals mg → Fn l.prog w K mg base CX k fa fd [x] sp)
    (hCX : ∀ (H : Hp) (s : Shared) (e : Value) (s' : Shared), CX [] H s (fun _ _ _ => False) e s' → False) :
    PySem.W.WalkO q loose XP YP l.row.toRowW d [] (fun f vs => PySem.call f vs) := by
  refine Att.attach_call hn hdf ?_
  intro w s0 s1 mg mb fa o pm cd doc a vs ns G Y ho hd hcd hmg hobj hints hlen hg
  obtain ⟨K, fd, sp, KX, hb, hsp, hF⟩ := F w mg fa _ Y G.T.g hmg
  exact afX KX G.T.g G.T.b G.T.builtins G.T.nolimit hg hobj hints (Nat.le_trans hlen hn2) hr hF hb (fun H hS => hsp H a ns hlen hS) (fun H e s' => hCX H s1 e s')
end GB
namespace GB
open PySem PySem.Spec PyProof.Rows L2
def Has (H : Hp) (L : List (Addr × HO)) : Prop := (∀ p ∈ L, H p.1 = some p.2) ∧ (L.map (·.1)).Nodup
def Ext (w : Addr) (H H' : Hp) : Prop := ∀ a o, a ≠ w → H a = some o → H' a = some o
section
variable {H H' H2 : Hp} {L : List (Addr × HO)} {a p w : Addr} {o o' : HO} {i : Nat}
theorem Ext.refl : Ext w H H := fun _ _ _ h => h
theorem Ext.trans (e : Ext w H H') (f : Ext w H' H2) : Ext w H H2 := fun a o n h => f a o n (e a o n h)
theorem Ext.new (h : H p = none) : Ext w H (upd H p o) := fun a u _ e => by
  rw [upd_ne (ne_of_none e h)]
  exact e
theorem Ext.put : Ext w H (upd H w o) := fun a u n e => by
  rw [upd_ne n]
  exact e
theorem Ext.of {H H' : Hp} (e : ∀ a o, H a = some o → H' a = some o) : Ext w H H' := fun a o _ h => e a o h
theorem Has.nil : Has H [] := ⟨fun _ h => (nomatch h), List.nodup_nil⟩
theorem Has.one (h : H a = some o) : Has H [(a, o)] := ⟨fun p hp => by
  cases List.mem_singleton.mp hp
  exact h, by simp⟩
theorem Has.mem (h : Has H L) (m : (a, o) ∈ L) : H a = some o := h.1 _ m
theorem Has.at (h : Has H L) (i : Nat) (m : L[i]? = some (a, o)) : H a = some o := h.1 _ (List.mem_of_getElem? m)
theorem Has.new (h : Has H L) (n : H p = none) : Has (upd H p o) ((p, o) :: L) := by
  refine ⟨fun q hq => ?_, ?_⟩
  · rcases List.mem_cons.mp hq with rfl | hq
    · exact upd_same
    · rw [upd_ne (ne_of_none (h.1 q hq) n)]
      exact h.1 q hq
  · rw [List.map_cons, List.nodup_cons]
    refine ⟨fun z => ?_, h.2⟩
    obtain ⟨q, hq, e⟩ := List.mem_map.mp z
    have z2 := h.1 q hq
    have e2 : q.1 = p := e
    rw [e2, n] at z2
    cases z2
theorem ahW (i : Nat) (m : L[i]? = some (a, o)) : (L.set i (a, o')).map (·.1) = L.map (·.1) := by
  rw [List.map_set]
  apply List.ext_getElem?
  intro j
  rw [List.getElem?_set]
  split
  · rename_i e
    subst e
    have hi : i < L.length := by
      rcases Nat.lt_or_ge i L.length with h | h
      · exact h
      · rw [List.getElem?_eq_none h] at m
        cases m
    rw [List.length_map, if_pos hi, List.getElem?_map, m]
    rfl
  · rfl
theorem Has.go (h : Has H L) (i : Nat) (m : L[i]? = some (w, o)) (e : Ext w H H') (n : H' w = some o') : Has H' (L.set i (w, o')) := by
  have hi : i < L.length := by
    rcases Nat.lt_or_ge i L.length with h | h
    · exact h
    · rw [List.getElem?_eq_none h] at m
      cases m
  refine ⟨fun q hq => ?_, by rw [ahW i m]; exact h.2⟩
  obtain ⟨j, hj, rfl⟩ := List.getElem_of_mem hq
  rw [List.length_set] at hj
  by_cases hji : i = j
  · subst hji
    rw [List.getElem_set_self]
    exact n
  · rw [List.getElem_set_ne hji]
    refine e _ _ (fun z => ?_) (h.1 _ (List.getElem_mem hj))
    have hm : L[i] = (w, o) := by
      rw [List.getElem?_eq_getElem hi] at m
      exact Option.some.inj m
    refine hji ((List.getElem?_inj (l := L.map (·.1)) (by rw [List.length_map]; exact hi) h.2).mp ?_)
    rw [List.getElem?_map, List.getElem?_map, List.getElem?_eq_getElem hi, List.getElem?_eq_getElem hj, hm]
    show some w = some L[j].1
    rw [z]
theorem Has.put (h : Has H L) (i : Nat) (m : L[i]? = some (w, o)) : Has (upd H w o') (L.set i (w, o')) := h.go i m Ext.put upd_same
theorem Has.ex (h : Has H L) (e : ∀ a o, H a = some o → H' a = some o) : Has H' L := ⟨fun q hq => e _ _ (h.1 q hq), h.2⟩
theorem Has.drop (h : Has H ((a, o) :: L)) : Has H L := ⟨fun q hq => h.1 q (List.mem_cons_of_mem _ hq), (List.nodup_cons.mp h.2).2⟩
theorem Has.ne (h : Has H L) (i j : Nat) {b : Addr} {u : HO} (hij : i ≠ j) (m : L[i]? = some (a, o)) (m2 : L[j]? = some (b, u)) : a ≠ b := by
  rintro rfl
  have li : i < L.length := by
    rcases Nat.lt_or_ge i L.length with h | h
    · exact h
    · rw [List.getElem?_eq_none h] at m
      cases m
  refine hij ((List.getElem?_inj (l := L.map (·.1)) (by rw [List.length_map]; exact li) h.2).mp ?_)
  rw [List.getElem?_map, List.getElem?_map, m, m2]
  rfl
end
theorem sqL {K : PySem.W.Frag} {H : Hp} {a : Addr} {xs : List V} (h : H a = some (.lst xs)) : SqL K H a xs := .inl (.inl h)
theorem sqT {K : PySem.W.Frag} {H : Hp} {a : Addr} {xs : List V} (h : H a = some (.tup xs)) : SqT K H a xs := .inl (.inl h)
section
variable {K : PySem.W.Frag} {σ : L2.St} {H : Hp} {Q : VK} {D : Ends} {ta tb te : TE} {tt tu : TT} {t u : TS} {r : R2} {tA tR : TA} {v : V} {i : Nat}
theorem ak1 (h : t { D with nx := u D } σ H) : tSeq t u D σ H := h
theorem ai0 (h : D.nx σ H) : tNext D σ H := h
theorem ak2 {g : TG} (h : te σ H fun x H1 => g x σ H1 D.nx) : tAsg te g D σ H := h
theorem ai1 {v : V} {P : L2.St → Hp → Prop} (h : P (σ.set i (some v)) H) : gName i v σ H P := h
theorem ai2 (h : te σ H fun _ H1 => D.nx σ H1) : tDrop te D σ H := h
theorem ak3 (h : te σ H D.rt) : tRet te D σ H := h
theorem ak4 (h : tt σ H fun b H1 => if b = true then t D σ H1 else u D σ H1) : tIfS tt t u D σ H := h
theorem ak5 (h : σ[i]? = some (some v)) (q : Q v H) : tVar i σ H Q := ⟨v, h, q⟩
theorem r_c (q : Q v H) : tC v σ H Q := q
theorem amT (h : ta σ H fun x H1 => tb σ H1 fun y H2 => r x y H2 Q) : tOp r ta tb σ H Q := h
theorem amU {r : V → Hp → VK → Prop} (h : ta σ H fun x H1 => r x H1 Q) : tUn r ta σ H Q := h
theorem ak6 {Q : List V → Hp → Prop} (h : Q [] H) : tNil σ H Q := h
theorem ai3 {Q : List V → Hp → Prop} (h : ta σ H fun x H1 => tR σ H1 fun xs H2 => Q (x :: xs) H2) : tCons ta tR σ H Q := h
theorem amV {r : List V → Hp → VK → Prop} (h : tA σ H fun vs H1 => r vs H1 Q) : tCB r tA σ H Q := h
theorem ai4 {sp : Sp} {E : XK} (h : tA σ H fun vs H1 => sp (vs ++ []) H1 Q E) : tCall sp [] E tA σ H Q := h
theorem ai5 {n m : Nat} {is : List Nat} {sp : Sp} {E : XK} {tk : TA} (h : tA σ H fun vs H1 => tk σ H1 fun zs H2 => vs.length = n ∧ zs.length = m ∧ sp (picked (vs ++ zs) is) H2 Q E) : akZ n m is sp E tA tk σ H Q := h
theorem ai6 {P : Bool → Hp → Prop} (h : te σ H fun x H' => ∃ k, x = .bl k ∧ P k H') : tTest te σ H P := h
theorem amW {b : Bool} {P : Bool → Prop} (h : P b) : ∃ k, V.bl b = .bl k ∧ P k := ⟨b, rfl, h⟩
theorem amX {P : Bool → Hp → Prop} (h : te σ H fun x H' => ∃ k, x = .bl k ∧ P k H') : tB te σ H P := h
theorem ak7 {P : Bool → Hp → Prop} (h : tt σ H fun c H1 => if c = true then tu σ H1 P else P false H1) : tAnd tt tu σ H P := h
theorem amY {P : Bool → Hp → Prop} (h : tt σ H fun c H1 => if c = true then P true H1 else tu σ H1 P) : tOr tt tu σ H P := h
theorem ak8 {P : Bool → Hp → Prop} (h : tt σ H fun c H1 => P (!c) H1) : tNot tt σ H P := h
theorem ai7 (h : ta σ H fun x H1 => ∃ c, x = .bl c ∧ if c = true then tb σ H1 Q else Q (.bl false) H1) : tAndV ta tb σ H Q := h
theorem ak9 (h : ta σ H fun x H1 => ∃ c, x = .bl c ∧ if c = true then Q (.bl true) H1 else tb σ H1 Q) : tOrV ta tb σ H Q := h
theorem ai8 (h : ta σ H fun x H1 => ∃ c, x = .bl c ∧ Q (.bl (!c)) H1) : tNotV ta σ H Q := h
theorem ala (h : tt σ H fun c H1 => if c = true then ta σ H1 Q else tb σ H1 Q) : tIf tt ta tb σ H Q := h
theorem ahX {r r' : R2} {tc : TE} (h : ta σ H fun x H1 => tb σ H1 fun y H2 => r x y H2 fun z H3 => ∃ k, z = .bl k ∧ if k = true then tc σ H3 fun w H4 => r' y w H4 Q else Q (.bl false) H3) : tChain r r' ta tb tc σ H Q := h
theorem ai9 : tLst tA = fun σ H Q => tA σ H fun xs H1 => xs.length ≤ sizeLine ∧ ∀ p H2, H1 p = none → H2 = upd H1 p (.lst xs) → Q (.ref p) H2 := by
  funext σ H Q
  have e : (fun (xs : List V) (H1 : Hp) => xs.length ≤ sizeLine ∧ ∀ p, H1 p = none → Q (.ref p) (upd H1 p (.lst xs))) = fun xs H1 => xs.length ≤ sizeLine ∧ ∀ p H2, H1 p = none → H2 = upd H1 p (.lst xs) → Q (.ref p) H2 := by
    funext xs H1
    exact propext ⟨fun h => ⟨h.1, fun p H2 hp e => by rw [e]; exact h.2 p hp⟩, fun h => ⟨h.1, fun p hp => h.2 p _ hp rfl⟩⟩
  show tA σ H _ = tA σ H _
  exact congrArg (tA σ H) e
theorem aja : tTup tA = fun σ H Q => tA σ H fun xs H1 => xs.length ≤ sizeLine ∧ ∀ p H2, H1 p = none → H2 = upd H1 p (.tup xs) → Q (.ref p) H2 := by
  funext σ H Q
  have e : (fun (xs : List V) (H1 : Hp) => xs.length ≤ sizeLine ∧ ∀ p, H1 p = none → Q (.ref p) (upd H1 p (.tup xs))) = fun xs H1 => xs.length ≤ sizeLine ∧ ∀ p H2, H1 p = none → H2 = upd H1 p (.tup xs) → Q (.ref p) H2 := by
    funext xs H1
    exact propext ⟨fun h => ⟨h.1, fun p H2 hp e => by rw [e]; exact h.2 p hp⟩, fun h => ⟨h.1, fun p hp => h.2 p _ hp rfl⟩⟩
  show tA σ H _ = tA σ H _
  exact congrArg (tA σ H) e
theorem alb (h : tA σ H fun xs H1 => xs.length ≤ sizeLine ∧ ∀ p H2, H1 p = none → H2 = upd H1 p (.lst xs) → Q (.ref p) H2) : tLst tA σ H Q := by
  rw [ai9]
  exact h
theorem alc (h : tA σ H fun xs H1 => xs.length ≤ sizeLine ∧ ∀ p H2, H1 p = none → H2 = upd H1 p (.tup xs) → Q (.ref p) H2) : tTup tA σ H Q := by
  rw [aja]
  exact h
theorem afY {Q : Option Int → Hp → Prop} (h : Q none H) : tNoPart σ H Q := h
theorem ajb {Q : Option Int → Hp → Prop} (h : te σ H fun x H1 => ∃ i, x = .int i ∧ Q (some i) H1) : tPart te σ H Q := h
theorem ald {j : Int} {P : Int → Prop} (h : P j) : ∃ k, V.int j = .int k ∧ P k := ⟨j, rfl, h⟩
theorem amZ {r : V → Option Int → Option Int → Hp → VK → Prop} {tl th : TO} (h : te σ H fun x H1 => tl σ H1 fun l H2 => th σ H2 fun u H3 => r x l u H3 Q) : tSl r te tl th σ H Q := h
theorem am0 {T : String} {r : V → List V → Hp → VK → Prop} (h : te σ H fun x H1 => tyV K T x H1 ∧ tA σ H1 fun xs H2 => r x xs H2 Q) : tBM K T r te tA σ H Q := h
theorem am1 {r : V → List V → Hp → VK → Prop} (h : ta σ H fun x H1 => (∃ a, x = .str a) ∧ tb σ H1 fun y H2 => r x [y] H2 Q) : tM1 r ta tb σ H Q := h
theorem ale {z : Str} {P : Prop} (h : P) : (∃ a, V.str z = .str a) ∧ P := ⟨⟨z, rfl⟩, h⟩
theorem am2 {g : Int → Int → V} {a b : Int} (q : Q (g a b) H) : rI0 g (.int a) (.int b) H Q := ⟨a, b, rfl, rfl, q⟩
theorem v_I {C : Int → Int → Prop} {g : Int → Int → V} {a b : Int} (c : C a b) (q : Q (g a b) H) : rI C g (.int a) (.int b) H Q := ⟨a, b, rfl, rfl, c, q⟩
theorem v_U {g : Int → V} {a : Int} (q : Q (g a) H) : rU g (.int a) H Q := ⟨a, rfl, q⟩
theorem alf {a b : Int} (q : Q (.bl (decide (a = b))) H) : rEq (.int a) (.int b) H Q := ⟨rfl, by
  have e : decide (V.int a = V.int b) = decide (a = b) := decide_eq_decide.mpr ⟨fun h => V.int.inj h, fun h => by rw [h]⟩
  rw [e]
  exact q⟩
theorem alg {a b : Int} (q : Q (.bl (!decide (a = b))) H) : rNe (.int a) (.int b) H Q := ⟨rfl, by
  have e : decide (V.int a = V.int b) = decide (a = b) := decide_eq_decide.mpr ⟨fun h => V.int.inj h, fun h => by rw [h]⟩
  rw [e]
  exact q⟩
theorem alh {a b : Str} (q : Q (.bl (decide (a = b))) H) : rEq (.str a) (.str b) H Q := ⟨rfl, by
  have e : decide (V.str a = V.str b) = decide (a = b) := decide_eq_decide.mpr ⟨fun h => V.str.inj h, fun h => by rw [h]⟩
  rw [e]
  exact q⟩
theorem ali {a b : Str} (q : Q (.bl (!decide (a = b))) H) : rNe (.str a) (.str b) H Q := ⟨rfl, by
  have e : decide (V.str a = V.str b) = decide (a = b) := decide_eq_decide.mpr ⟨fun h => V.str.inj h, fun h => by rw [h]⟩
  rw [e]
  exact q⟩
theorem alj {p : Addr} {xs : List V} {j : Int} (s : SqL K H p xs) (a : atI xs j = some v) (q : Q v H) : rIxL K (.ref p) (.int j) H Q := ⟨p, xs, j, v, rfl, rfl, s, a, q⟩
theorem alk {p : Addr} {xs : List V} {j : Int} (s : SqT K H p xs) (a : atI xs j = some v) (q : Q v H) : rIxT K (.ref p) (.int j) H Q := ⟨p, xs, j, v, rfl, rfl, s, a, q⟩
theorem alm {z : Str} {lo hi : Option Int} (s : z.length ≤ 100000) (q : Q (.str (cutS z lo hi)) H) : rSlS (.str z) lo hi H Q := ⟨z, rfl, Nat.le_trans s (by decide), q⟩
end
def rAddS : R2 := fun x y H Q => ∃ i j, x = .str i ∧ y = .str j ∧ i.length + j.length ≤ sizeLine ∧ Q (.str (i ++ j)) H
def am3 : R2 := fun x y H Q => ∃ (c : Nat) (z : Str), x = .str ⟨#[c]⟩ ∧ y = .str z ∧ Q (.bl (decide (c ∈ z.cps.toList))) H
def am4 : R2 := fun x y H Q => ∃ (c : Nat) (z : Str), x = .str ⟨#[c]⟩ ∧ y = .str z ∧ Q (.bl (!decide (c ∈ z.cps.toList))) H
def ahc (K : PySem.W.Frag) : List V → Hp → VK → Prop := fun xs H Q => ∃ p ys, xs = [.ref p] ∧ (SqL K H p ys ∨ SqT K H p ys) ∧ Q (.int ys.length) H
def rLenS : List V → Hp → VK → Prop := fun xs H Q => ∃ z : Str, xs = [.str z] ∧ z.length ≤ sizeLine ∧ Q (.int z.length) H
def ahd : List V → Hp → VK → Prop := fun xs H Q => (∃ i, xs = [.int i] ∧ Q (.int i) H) ∨ ∃ k, xs = [.bl k] ∧ Q (.int (if k then 1 else 0)) H
section
variable {X : Cx}
end
section
variable {K : PySem.W.Frag} {H : Hp} {Q : VK}
theorem ajc {a b : Str} (n : a.length + b.length ≤ 100000) (q : Q (.str (a ++ b)) H) : rAddS (.str a) (.str b) H Q := ⟨a, b, rfl, rfl, Nat.le_trans n (by decide), q⟩
theorem aln {c : Nat} {z : Str} (q : Q (.bl (decide (c ∈ z.cps.toList))) H) : am3 (.str ⟨#[c]⟩) (.str z) H Q := ⟨c, z, rfl, rfl, q⟩
theorem alo {c : Nat} {z : Str} (q : Q (.bl (!decide (c ∈ z.cps.toList))) H) : am4 (.str ⟨#[c]⟩) (.str z) H Q := ⟨c, z, rfl, rfl, q⟩
theorem ajd {p : Addr} {xs : List V} (s : SqL K H p xs) (q : Q (.int xs.length) H) : ahc K [.ref p] H Q := ⟨p, xs, rfl, .inl s, q⟩
theorem aje {p : Addr} {xs : List V} (s : SqT K H p xs) (q : Q (.int xs.length) H) : ahc K [.ref p] H Q := ⟨p, xs, rfl, .inr s, q⟩
theorem ajf {z : Str} (n : z.length ≤ 100000) (q : Q (.int z.length) H) : rLenS [.str z] H Q := ⟨z, rfl, Nat.le_trans n (by decide), q⟩
theorem ajg {i : Int} (q : Q (.int i) H) : ahd [.int i] H Q := .inl ⟨i, rfl, q⟩
theorem ajh {b : Bool} (q : Q (.int (if b then 1 else 0)) H) : ahd [.bl b] H Q := .inr ⟨b, rfl, q⟩
end
def Wl (H : Hp) (w : Addr) (n : Nat) : Prop := ∃ a b c : Int, H w = some (.lst [.int a, .int b, .int c]) ∧ 0 ≤ c ∧ c ≤ n
structure Wd (H0 H : Hp) (w : Addr) (n : Nat) (L : List (Addr × HO)) : Prop where
  wl : Wl H w n
  has : Has H L
  off : ∀ p ∈ L, p.1 ≠ w
  ext : Ext w H0 H
section
variable {H0 H H' : Hp} {w p a : Addr} {n m : Nat} {L : List (Addr × HO)} {o o' : HO}
theorem Wl.mono (h : Wl H w n) (e : n ≤ m) : Wl H w m := by
  obtain ⟨a, b, c, h1, h2, h3⟩ := h
  exact ⟨a, b, c, h1, h2, by omega⟩
theorem Wl.fresh (h : Wl H w n) (q : H p = none) : p ≠ w := by
  obtain ⟨a, b, c, h1, _⟩ := h
  exact (ne_of_none h1 q).symm
theorem Wl.new (h : Wl H w n) (q : H p = none) : Wl (upd H p o) w n := by
  obtain ⟨a, b, c, h1, h2⟩ := h
  exact ⟨a, b, c, by rw [upd_ne (ne_of_none h1 q)]; exact h1, h2⟩
theorem Wd.of (h : Wl H w n) : Wd H H w n [] := ⟨h, Has.nil, fun _ z => (nomatch z), Ext.refl⟩
theorem Wd.new (h : Wd H0 H w n L) (q : H p = none) : Wd H0 (upd H p o) w n ((p, o) :: L) :=
  ⟨h.wl.new q, h.has.new q, fun x hx => by
    rcases List.mem_cons.mp hx with rfl | hx
    · exact h.wl.fresh q
    · exact h.off x hx, h.ext.trans (Ext.new q)⟩
theorem Wd.go (h : Wd H0 H w n L) (e : Ext w H H') (q : Wl H' w m) : Wd H0 H' w m L :=
  ⟨q, ⟨fun x hx => e _ _ (h.off x hx) (h.has.1 x hx), h.has.2⟩, h.off, h.ext.trans e⟩
theorem Wd.mono (h : Wd H0 H w n L) (e : n ≤ m) : Wd H0 H w m L := ⟨h.wl.mono e, h.has, h.off, h.ext⟩
theorem Wd.at (h : Wd H0 H w n L) (i : Nat) (q : L[i]? = some (a, o)) : H a = some o := h.has.at i q
theorem Wd.ne (h : Wd H0 H w n L) (i : Nat) (q : L[i]? = some (a, o)) : a ≠ w := h.off _ (List.mem_of_getElem? q)
theorem Wd.put (h : Wd H0 H w n L) (i : Nat) (q : L[i]? = some (a, o)) (f : H0 a = none) : Wd H0 (upd H a o') w n (L.set i (a, o')) := by
  have ne : a ≠ w := h.off _ (List.mem_of_getElem? q)
  obtain ⟨x, b, c, h1, h2⟩ := h.wl
  refine ⟨⟨x, b, c, by rw [upd_ne ne.symm]; exact h1, h2⟩, h.has.put i q, fun p hp => ?_, fun y u ny hy => ?_⟩
  · rcases List.mem_or_eq_of_mem_set hp with hp | rfl
    · exact h.off p hp
    · exact ne
  · rw [upd_ne (ne_of_none hy f)]
    exact h.ext y u ny hy
theorem Wd.fresh (h : Wd H0 H w n L) (q : H p = none) (ne : p ≠ w) : H0 p = none := by
  cases e : H0 p with
  | none => rfl
  | some o =>
    rw [h.ext p o ne e] at q
    cases q
theorem Wd.fr (h : Wd H0 H w n L) (q : H p = none) : H0 p = none := h.fresh q (h.wl.fresh q)
theorem Wd.add (h : Wd H0 H w n L) (q : H a = some o) (ne : a ≠ w) (nd : ∀ p ∈ L, p.1 ≠ a) : Wd H0 H w n ((a, o) :: L) :=
  ⟨h.wl, ⟨fun x hx => by
    rcases List.mem_cons.mp hx with rfl | hx
    · exact q
    · exact h.has.1 x hx, by
    rw [List.map_cons, List.nodup_cons]
    refine ⟨fun z => ?_, h.has.2⟩
    obtain ⟨y, hy, e⟩ := List.mem_map.mp z
    exact nd y hy e⟩, fun x hx => by
    rcases List.mem_cons.mp hx with rfl | hx
    · exact ne
    · exact h.off x hx, h.ext⟩
end
section
variable {K : PySem.W.Frag} {σ : L2.St} {H : Hp} {ta : TA} {te : TE}
theorem alp {R : It → Hp → Prop} (h : ta σ H fun vs H1 => ∃ j : Int, vs = [.int j] ∧ -(2 ^ 62) ≤ j ∧ j < 2 ^ 62 ∧ R (Itr 0 j.toNat) H1) : iRng1 ta σ H R := h
theorem am5 {R : It → Hp → Prop} (h : te σ H fun x H1 => ∃ a, x = .ref a ∧ (∃ xs, SqL K H1 a xs) ∧ R (Itl K a) H1) : iList K te σ H R := h
theorem alq {a : Addr} {xs : List V} {R : Addr → Prop} (s : SqL K H a xs) (h : R a) : ∃ b, V.ref a = .ref b ∧ (∃ xs, SqL K H b xs) ∧ R b := ⟨a, rfl, ⟨xs, s⟩, h⟩
theorem am6 {R : It → Hp → Prop} (h : te σ H fun v H1 => ∃ x, v = .str x ∧ R (Its x) H1) : iStr te σ H R := h
theorem alr {z : Str} {P : Str → Prop} (h : P z) : ∃ x, V.str z = .str x ∧ P x := ⟨z, rfl, h⟩
end
section
variable {K : PySem.W.Frag} {σ : L2.St} {H : Hp} {Q : VK} {ta tb : TE} {v : V}
theorem als {t : TSet} {P : L2.St → Hp → Prop} (h : ta σ H fun o H1 => tb σ H1 fun i H2 => t o i v H2 fun H3 => P σ H3) : gSub ta tb t v σ H P := h
theorem aji {p : Addr} {xs : List V} {j : Int} {k : Nat} {P : Hp → Prop} (h : H p = some (.lst xs)) (i : ixN xs.length j = some k) (q : P (upd H p (.lst (xs.set k v)))) : rSetL (.ref p) (.int j) v H P :=
  ⟨p, xs, j, k, rfl, rfl, h, i, q⟩
theorem alu {p : Addr} {xs : List V} (h : H p = some (.lst xs)) (n : xs.length < 100000) (q : Q .non (upd H p (.lst (xs ++ [v])))) :
    rAppend (.ref p) [v] H Q :=
  ⟨p, xs, v, rfl, rfl, h, Nat.lt_of_lt_of_le n (by decide), q⟩
theorem am7 {p : Addr} {xs : List V} {P : Prop} (h : H p = some (.lst xs)) (q : P) : tyV K "list" (.ref p) H ∧ P := ⟨.inl ⟨rfl, xs, .inl (.inl h)⟩, q⟩
theorem afZ {i j : Int} (h : (decide (0 ≤ j) && decide (j ≤ 1000000) && decide (i.natAbs < 2 ^ 64)) = true) : CPow i j := by
  simp only [Bool.and_eq_true, decide_eq_true_eq] at h
  exact ⟨h.1.1, h.1.2, h.2⟩
end
theorem same_new {H : Hp} {p : Addr} {o : HO} (h : H p = none) : Same H (upd H p o) := fun a u e => by
  rw [upd_ne (ne_of_none e h)]
  exact e
theorem am8 {wi : TI} {g : TG} {tt : TT} {te : TE} {vs : List Nat} {σ : L2.St} {H : Hp} {Q : VK} (h : wi σ H fun J H1 => ∀ D, H1 D = none → ∃ W : Nat → Nat → Hp → Prop, (∃ m, W 0 m (upd H1 D (.lst []))) ∧ ∀ i m H, W i m H →
    (J.stop i H ∧ Q (.ref D) H) ∨ (J.go i H ∧ ∃ Nx : Hp → Prop, (∀ H', Nx H' → ∃ m', m' < m ∧ W (i + 1) m' H') ∧ ∀ x H', J.yld i H x H' → g x (wipe σ vs) H' fun σ2 H2 => wipe σ2 vs = wipe σ vs ∧ tt σ2 H2 fun b H3 =>
      if b = true then te σ2 H3 fun y H4 => ∃ acc, H4 D = some (.lst acc) ∧ acc.length < sizeLine ∧ Nx (upd H4 D (.lst (acc ++ [y]))) else Nx H3)) : tLc wi g tt te vs σ H Q := h
theorem alv {σ : L2.St} {H : Hp} {P : Bool → Hp → Prop} (h : P true H) : tYes σ H P := h
theorem str_len (z : Str) : z.length = z.cps.toList.length := by
  show z.cps.size = _
  simp
theorem Uw : ∀ ps : List (List Nat), TL.joinL [] ps = ps.flatten
  | [] => rfl
  | [p] => by simp [TL.joinL]
  | p :: q :: r => by
    rw [TL.joinL, Uw (q :: r)]
    simp
theorem acG (ys : List Str) : (Txt.join "" ys).cps.toList = (ys.map fun y => y.cps.toList).flatten := by
  rw [TL.join_eq]
  exact (TL.tl_join "" ys).trans (Uw _)
theorem af0 (ys : List Str) : (Txt.join "" ys).length = (ys.map (·.length)).sum := by
  rw [str_len, acG, List.length_flatten, List.map_map]
  rfl
theorem W6 : ∀ {ys : List Str}, (∀ y ∈ ys, y.length = 1) → (ys.map (·.length)).sum = ys.length
  | [], _ => rfl
  | y :: r, h => by
    rw [List.map_cons, List.sum_cons, h y List.mem_cons_self, W6 fun z hz => h z (List.mem_cons_of_mem _ hz), List.length_cons, Nat.add_comm]
theorem tL {J : It} {xs : List V} {G : Hp → Prop} (wk : Walk J xs.length G (YAt xs)) {g : TG} {tt : TT} {te : TE} {vs : List Nat} {σ : L2.St} {H : Hp} {D : Addr} {Qd : Hp → Prop} (hD : H D = none)
    (hG : ∀ H', Same H H' → G H') (hn : xs.length ≤ 50000) (P : V → Bool) (f : V → V)
    (step : ∀ x ∈ xs, ∀ (H' : Hp) (R : Hp → Prop) (Ra : VK), Same H H' → (P x = false → R H') → (P x = true → Ra (f x) H') →
      g x (wipe σ vs) H' fun σ2 H2 => wipe σ2 vs = wipe σ vs ∧ tt σ2 H2 fun b H3 => if b = true then te σ2 H3 Ra else R H3)
    (hd : ∀ H', Same H H' → H' D = some (.lst ((xs.filter P).map f)) → Qd H') :
    ∃ W : Nat → Nat → Hp → Prop, (∃ m, W 0 m (upd H D (.lst []))) ∧ ∀ i m H, W i m H →
      (J.stop i H ∧ Qd H) ∨ (J.go i H ∧ ∃ Nx : Hp → Prop, (∀ H', Nx H' → ∃ m', m' < m ∧ W (i + 1) m' H') ∧ ∀ x H', J.yld i H x H' → g x (wipe σ vs) H' fun σ2 H2 => wipe σ2 vs = wipe σ vs ∧ tt σ2 H2 fun b H3 =>
        if b = true then te σ2 H3 fun y H4 => ∃ acc, H4 D = some (.lst acc) ∧ acc.length < sizeLine ∧ Nx (upd H4 D (.lst (acc ++ [y]))) else Nx H3) := by
  refine lc_it wk (fun i H' => Same H H' ∧ H' D = some (.lst (((xs.take i).filter P).map f))) ⟨same_new hD, upd_same⟩ (fun i H' _ h => hG H' h.1) (fun i x H1 H2 hi hP hY => ?_) (fun H' h => hd H' h.1 (by rw [h.2, List.take_length]))
  obtain ⟨rfl, hx⟩ := hY
  obtain ⟨hs, hd1⟩ := hP
  have hx2 : xs.take (i + 1) = xs.take i ++ [x] := by rw [List.take_add_one, hx]; rfl
  refine step x (List.mem_of_getElem? hx) H2 (fun H3 => Same H H3 ∧ H3 D = some (.lst (((xs.take (i + 1)).filter P).map f))) _ hs (fun hp => ⟨hs, ?_⟩) (fun hp => ⟨_, hd1, ?_, fun a o ha => ?_, ?_⟩)
  · rw [hd1, hx2, List.filter_append]
    simp [hp]
  · rw [List.length_map]
    refine Nat.lt_of_le_of_lt (List.length_filter_le _ _) ?_
    rw [List.length_take]
    exact Nat.lt_of_le_of_lt (Nat.min_le_right _ _) (Nat.lt_of_le_of_lt hn (by decide))
  · rw [upd_ne (ne_of_none ha hD)]
    exact hs a o ha
  · rw [upd_same, hx2, List.filter_append]
    simp [hp]
def vK (z : Str) : Prop := ∀ c ∈ z.cps.toList, c < 0x110000
theorem dU (s : String) : vK (Str.ofString s) := by
  intro c hc
  rw [Str.ofString_eq_toList] at hc
  simp only [List.mem_map] at hc
  obtain ⟨d, _, rfl⟩ := hc
  have h := d.valid
  have h2 : d.toNat = d.val.toNat := rfl
  rw [h2]
  rcases h with h | h
  · exact Nat.lt_trans h (by decide)
  · exact h.2
theorem jy {z : Str} (h : vK z) : PyData.strOk z = true := by
  unfold PyData.strOk
  rw [Array.all_eq_true]
  intro i hi
  exact decide_eq_true (h _ (by simp))
theorem wG : ∀ {ys : List Str}, (∀ y ∈ ys, vK y) → PyData.canLayAll0 (ys.map PyData.str) = true
  | [], _ => rfl
  | y :: r, h => by
    rw [List.map_cons]
    unfold PyData.canLayAll0
    rw [show PyData.canLay0 (.str y) = PyData.strOk y by unfold PyData.canLay0; rfl, jy (h y List.mem_cons_self), wG fun z hz => h z (List.mem_cons_of_mem _ hz)]
    rfl
theorem Jl : ∀ ys : List Str, PyData.depthAll (ys.map PyData.str) ≤ 1
  | [] => by simp [PyData.depthAll]
  | y :: r => by
    have := Jl r
    rw [List.map_cons]
    unfold PyData.depthAll
    have e : PyData.depth (.str y) ≤ 1 := by simp [PyData.depth]
    omega
theorem yJ {ys : List Str} (h : ∀ y ∈ ys, vK y) : SeqAt.shaped (.list (ys.map PyData.str)) = true := by
  unfold SeqAt.shaped
  rw [show PyData.canLay0 (.list (ys.map PyData.str)) = PyData.canLayAll0 (ys.map PyData.str) by unfold PyData.canLay0; rfl, wG h]
  have h1 := Jl ys
  rw [show PyData.depth (.list (ys.map PyData.str)) = PyData.depthAll (ys.map PyData.str) + 1 by simp [PyData.depth]]
  exact decide_eq_true (by omega)
theorem ajj {σ : L2.St} {H : Hp} {Q : VK} (h : ∀ p H2, H p = none → H2 = upd H p (.dK []) → Q (.ref p) H2) : tDNewK σ H Q := fun p hp => h p _ hp rfl
theorem alw {wi : TI} {g : TG} {tb : TS} {D : Ends} {σ : L2.St} {H : Hp} (h : wi σ H fun J H1 => ∃ W : Nat → Nat → L2.St → Hp → Prop, (∃ m, W 0 m σ H1) ∧ ∀ i m σ H, W i m σ H →
  (J.stop i H ∧ D.nx σ H) ∨ (J.go i H ∧ ∃ N : L2.St → Hp → Prop, (∀ σ' H', N σ' H' → ∃ m', m' < m ∧ W (i + 1) m' σ' H') ∧ ∀ x H', J.yld i H x H' → g x σ H' fun σ2 H2 => tb { D with nx := N, ct := N, bk := D.nx } σ2 H2)) : tFor wi g tb D σ H := h
theorem Wd.same {H0 H H' : Hp} {w : Addr} {n : Nat} {L : List (Addr × HO)} (h : Wd H0 H w n L) (e : Same H H') : Wd H0 H' w n L := by
  obtain ⟨a, b, c, h1, h2⟩ := h.wl
  exact h.go (Ext.of e) ⟨a, b, c, e _ _ h1, h2⟩
theorem Has.sub {H : Hp} {L M : List (Addr × HO)} (h : Has H L) (s : M.Sublist L) : Has H M := ⟨fun p hp => h.1 p (s.subset hp), h.2.sublist (s.map _)⟩
theorem Wd.drop {H0 H : Hp} {w : Addr} {n : Nat} {L : List (Addr × HO)} (h : Wd H0 H w n L) (k : Nat) : Wd H0 H w n (L.drop k) :=
  ⟨h.wl, h.has.sub (List.drop_sublist k L), fun p hp => h.off p ((List.drop_sublist k L).subset hp), h.ext⟩
end GB
namespace GB
open PySem PySem.Spec PyProof.Rows L2
def Dn (K : PySem.W.Frag) (f : Addr) (x q : Str) (st : Stmt) (dvs : List V) (kws : List (Str × V)) : Prop :=
  ∃ fd, FunD K x q (defArgs st) (defBody st) (defScope st) dvs kws f fd
structure FO (P : Program) (w : World) (K : PySem.W.Frag) (mg : Str → Option Value) (base : Heap) (CX : CXT) (k : Nat) (f : Addr) (ps : List Str) (sp : Sp) : Prop where
  ex : ∃ fd, Binds K fd ps [] ∧ PySem.W.keepIn K (.ref f) = true ∧ FnOk P w K mg base CX k f fd ps sp
section
variable {P : Program} {w : World} {K : PySem.W.Frag} {mg : Str → Option Value} {base : Heap} {CX : CXT} {j k : Nat} {f : Addr} {x q : Str} {st : Stmt} {dvs : List V} {kws : List (Str × V)} {N ps : List Str} {sp sp' : Sp}
theorem FO.mono (c : FO P w K mg base CX j f ps sp) (h : j ≤ k) : FO P w K mg base CX k f ps sp := by
  obtain ⟨fd, b, kp, F⟩ := c.ex
  exact ⟨fd, b, kp, F.mono h⟩
theorem FO.imp (c : FO P w K mg base CX k f ps sp) (h : ∀ vs H Q E, sp' vs H Q E → sp vs H Q E) : FO P w K mg base CX k f ps sp' := by
  obtain ⟨fd, b, kp, F⟩ := c.ex
  exact ⟨fd, b, kp, F.imp h⟩
theorem FO.cal (c : FO P w K mg base CX k (He.ga K x) ps sp) (g : mg x = some (.ref (He.ga K x))) : Cal P w K mg base CX k x ps sp := by
  obtain ⟨fd, b, kp, F⟩ := c.ex
  exact ⟨⟨fd, b, kp, .amS F⟩, g⟩
abbrev ahe (x q : Str) (st : Stmt) (ps : List Str) : Prop := ∀ (kV doc pm : Value) (an : Option Addr) (cdv ct : Value) (us : List Value), us.length = ps.length →
  bindArgs (PySem.W.fnOf x q (defArgs st) (defBody st) (defScope st) .none kV doc pm an cdv ct) ⟨us, []⟩ = pure (ps.zip us)
theorem Dn.fo (T : Dn K f x q st [] kws) (S : FnScope N ps (defScope st)) (hbd : ahe x q st ps) (len : ∀ vs H Q E, sp vs H Q E → vs.length = ps.length)
    (hb : ∀ (cdv : Value) (A : Around) (outer : List Env) (s : Shared) (H : Hp) (vs : List V) (Q : VK) (E : XK), Room k (A.deeper (envOfC q (defScope st) s.heap.objs.size f cdv)) → sp vs H Q E →
      ∃ t, PSs (cxOf CX P w K mg base N q (defScope st) f cdv A outer s H E) (defBody st) t ∧ t { nx := fun _ H' => Q .non H', rt := Q } (start N vs) H) :
    FO P w K mg base CX (k + 1) f ps sp := by
  obtain ⟨fd, F⟩ := T
  exact ⟨fd, F.bindsN hbd, F.kp, F.ok S len hb⟩
theorem Dn.fo0 (T : Dn K f x q st [] kws) (S : FnScope N ps (defScope st)) (hbd : ahe x q st ps) (len : ∀ vs H Q E, sp vs H Q E → vs.length = ps.length)
    (hb : ∀ (cdv : Value) (A : Around) (outer : List Env) (s : Shared) (H : Hp) (vs : List V) (Q : VK) (E : XK), Room k (A.deeper (envOfC q (defScope st) s.heap.objs.size f cdv)) → sp vs H Q E →
      ∃ t, PSs (cxOf CX0 P w K mg base N q (defScope st) f cdv A outer s H E).nox (defBody st) t ∧ t { nx := fun _ H' => Q .non H', rt := Q } (start N vs) H) :
    FO P w K mg base CX0 (k + 1) f ps sp := by
  refine T.fo S hbd len ?_
  intro cdv A outer s H vs Q E hr h
  obtain ⟨t, a, b⟩ := hb cdv A outer s H vs Q E hr h
  exact ⟨t, a.nox, b⟩
end
section
variable {X : Cx} {CX : CXT} {k : Nat} {f C : Addr} {ps : List Str} {sp : Sp} {E : XK} {x m : Str} {p p1 p2 pos : Pos} {e : Expr} {es : List Expr} {t : TA}
theorem af2 {mc : Value} {pl : Sem Bool} (c : FO X.prog X.w X.K X.mg X.base CX k f ps sp) (hr : Room k X.A) (hg : Gl X x) (hm : X.mg x = some (.ref C)) (r : ClX.CRead X.K C mc) (v : ClX.CVal X.K C mc m (.ref f) (.ref f)) (hx : Passes CX X E) (ha : PA X (e :: es) t)
    (hc : eval (.Call (.Attribute (.Name x p1) m p2) (e :: es) [] pos) X.env = (do
      let ov ← eval (.Name x p1) X.env
      standAt p2.atName
      let (f, first) ← holding [ov] (getMethod ov m pl)
      callWith pos f first (backTo pos (starEach (e :: es) X.env)) (backToKw pos (keywordEach [] X.env))) := by rfl)
    (hdb : (x == ("__debug__" : Str)) = false := by decide) (he : starEach (e :: es) X.env = (false, eval e X.env) :: starEach es X.env := by rfl)
    (hpl : (backTo pos (starEach es X.env)).any (·.1) = false := by rfl) :
    PE X (.Call (.Attribute (.Name x p1) m p2) (e :: es) [] pos) (tCall sp [] E t) := by
  obtain ⟨fd, b, kp, F⟩ := c.ex
  constructor
  intro pins s σ H Q I h
  refine PySem.W.methodCall_KW (ld_glob I hg hm ?_ hdb) hc
  refine PySem.W.method_cls I.kIn r.ga (ClX.getcval_ok I r v ?_)
  intro s' J
  show wpAny _ _ (callWith pos (Value.ref f) [] (backTo pos (starEach (e :: es) X.env)) []) _ _ _
  refine PySem.W.callWith_K (h₀ := X.base) J.ok.mod.kin kp (thn (ha.run pos pins s' σ H _ J h) ?_) he hpl
  rintro us s1 ⟨vs, H1, I1, r1, q⟩
  exact ⟨I1.kIn, run_fn F hr b .nil hx I1 r1 q⟩
end
def clA (ta : TA) : TA := fun σ H Q => ∃ P : List V → Hp → Prop, ta σ H P ∧ ∀ vs H1, P vs H1 → Q vs H1
theorem PA.cl {X : Cx} {es : List Expr} {ta : TA} (h : PA X es ta) : PA X es (clA ta) := by
  constructor
  rintro pos pins s σ H Q I ⟨P, hP, imp⟩
  refine thn (h.run pos pins s σ H P I hP) ?_
  rintro us s' ⟨vs, H', I', r, q⟩
  exact ⟨vs, H', I', r, imp _ _ q⟩
def clE (te : TE) : TE := fun σ H Q => ∃ P : VK, te σ H P ∧ ∀ v H1, P v H1 → Q v H1
theorem PE.cl {X : Cx} {e : Expr} {te : TE} (h : PE X e te) : PE X e (clE te) := by
  constructor
  rintro pins s σ H Q I ⟨P, hP, imp⟩
  refine thn (h.run pins s σ H P I hP) ?_
  rintro u s' ⟨v, H', I', r, q⟩
  exact ⟨v, H', I', r, imp _ _ q⟩
def spInit (K : PySem.W.Frag) (names : List Str) (mk : List V → Option (List (Str × V))) : Sp := fun vs H Q _ => ∃ (a C : Addr) (args : List V) (fs : List (Str × V)), vs = .ref a :: args ∧ mk args = some fs ∧ OexC K C ∧
  (∀ n ∈ names, PySem.W.findIn K (.ref C) n = some none) ∧ H a = some (exo a C none) ∧ ∀ dx H', H dx = none → dx ≠ a → H' = upd (upd H dx (exd dx fs)) a (exo a C (some dx)) → Q .non H'
structure GZ (P : Program) (w : World) (K : PySem.W.Frag) (mg : Str → Option Value) (base : Heap) (k : Nat) (x : Str) (ps names : List Str) (mk : List V → Option (List (Str × V))) : Prop where
  oex : OexC K (He.ga K x)
  gl : mg x = some (.ref (He.ga K x))
  at_ : PySem.W.findIn K (.ref (He.ga K x)) "__init__" = some (some (.ref (He.ma K (He.ga K x) "__init__")))
  ty : PySem.W.typeIn K (.ref (He.ma K (He.ga K x) "__init__")) = some (.type "function")
  no : ∀ n ∈ names, PySem.W.findIn K (.ref (He.ga K x)) n = some none
  fo : FO P w K mg base CX0 k (He.ma K (He.ga K x) "__init__") ps (spInit K names mk)
theorem GZ.mono {P : Program} {w : World} {K : PySem.W.Frag} {mg : Str → Option Value} {base : Heap} {j k : Nat} {x : Str} {ps names : List Str} {mk : List V → Option (List (Str × V))} (c : GZ P w K mg base j x ps names mk) (h : j ≤ k) : GZ P w K mg base k x ps names mk :=
  ⟨c.oex, c.gl, c.at_, c.ty, c.no, c.fo.mono h⟩
def af3 (C : Addr) (mk : List V → Option (List (Str × V))) (ta : TA) : L2.St → Hp → XK → Prop := fun σ H Q => ta σ H fun vs H1 => vs.length ≤ 1000 ∧ ∃ fs, mk vs = some fs ∧ ∀ d H2, H1 d = none → H2 = upd H1 d (.xd fs) → Q (.ref C) (some d) H2
theorem alx {X : Cx} {k : Nat} {x : Str} {ps names : List Str} {mk : List V → Option (List (Str × V))} {e : Expr} {es : List Expr} {ta : TA} {p pos : Pos} (c : GZ X.prog X.w X.K X.mg X.base k x ps names mk) (hr : Room (k + 1) X.A) (hg : Gl X x) (ha : PA X (e :: es) ta)
    (hdb : (x == ("__debug__" : Str)) = false := by decide) (he : starEach (e :: es) X.env = (false, eval e X.env) :: starEach es X.env := by rfl) (hpl : (backTo pos (starEach es X.env)).any (·.1) = false := by rfl) :
    PMk X (.Call (.Name x p) (e :: es) [] pos) (af3 (He.ga X.K x) mk ta) := by
  obtain ⟨fd, b, kp, F⟩ := c.fo.ex
  intro pins s σ H Q I h
  refine pmk_oex c.oex c.at_ c.ty F hr b .nil (fun _ _ _ _ _ _ _ z => z.elim) hg c.gl (PA.cl ha) hdb he hpl pins s σ H Q I ?_
  refine ⟨_, h, ?_⟩
  rintro vs H1 ⟨hl, fs, hm, q⟩
  refine ⟨hl, fun a ha0 => ?_⟩
  rw [List.append_nil]
  refine ⟨a, _, vs, fs, rfl, hm, c.oex, c.no, upd_same, ?_⟩
  intro dx H' hdx hne e'
  subst e'
  have ajl : H1 dx = none := by
    rw [upd_ne hne] at hdx
    exact hdx
  refine ⟨rfl, dx, fs, upd_same, ?_, ajl, q dx _ ajl ?_⟩
  · rw [upd_ne hne, upd_same]
  · funext b
    by_cases hb : b = dx
    · rw [hb, upd_same, upd_same]
    · rw [upd_ne hb, upd_ne hb]
      by_cases hba : b = a
      · rw [hba, del_same, ha0]
      · rw [del_ne hba, upd_ne hba, upd_ne hb, upd_ne hba]
theorem aeA {X : Cx} {W : WX} {k : Nat} {x : Str} {ps names : List Str} {mk : List V → Option (List (Str × V))} {e : Expr} {es : List Expr} {ta : TA} {p pos pos2 : Pos} (c : GZ X.prog X.w X.K X.mg X.base k x ps names mk) (hr : Room (k + 1) X.A) (hc : X.calm = true) (tk : Takes X W) (hg : Gl X x) (ha : PA X (e :: es) ta)
    (hdb : (x == ("__debug__" : Str)) = false := by decide) (he : starEach (e :: es) X.env = (false, eval e X.env) :: starEach es X.env := by rfl) (hpl : (backTo pos (starEach es X.env)).any (·.1) = false := by rfl) :
    PS X (.Raise (some (.Call (.Name x p) (e :: es) [] pos)) none pos2) (fun _ σ H => af3 (He.ga X.K x) mk ta σ H fun cls d H' => W cls d σ H') := ps_raise hc tk (alx c hr hg ha hdb he hpl)
section
variable {K : PySem.W.Frag} {σ : L2.St} {H : Hp} {Q : VK} {D : Ends} {ta : TA} {to te : TE} {a C : Addr} {f : Str}
theorem aly (h : ta σ H fun vs H1 => ∃ (a C : Addr) (ws : List V), vs = .ref a :: ws ∧ ws.length ≤ 1000 ∧ OexC K C ∧ H1 a = some (exo a C none) ∧ Q .non H1) : tVeI K ta σ H Q := h
theorem ahg (h : te σ H fun y H1 => to σ H1 fun x H2 => ∃ a C : Addr, x = .ref a ∧ OexC K C ∧ PySem.W.findIn K (.ref C) f = some none ∧
  ((H2 a = some (exo a C none) ∧ ∀ dx, H2 dx = none → dx ≠ a → D.nx σ (upd (upd H2 dx (exd dx [(f, y)])) a (exo a C (some dx)))) ∨
    ∃ (dx : Addr) (fs : List (Str × V)), H2 a = some (exo a C (some dx)) ∧ H2 dx = some (exd dx fs) ∧ fs.length ≤ 900 ∧ D.nx σ (upd H2 dx (exd dx ((f, y) :: fs))))) : tOst K f to te D σ H := h
end
end GB
namespace GB
open PySem PySem.Spec PyProof.Rows L2
def Cd (K : PySem.W.Frag) (C : Addr) : Bool := (match K.lookup C with
  | some ⟨.type "type", _, .cls cd, sl⟩ => (match cd.mro, sl.toList with
    | .ref C' :: bm, [_, _, _, _, some (.builtin n), _] => C' == C && (n == "ValueError.__new__" && (!cd.hasDel && (cd.hasDict && PySem.HandSPX.refsVE bm)))
    | _, _ => false)
  | _ => false) && (decide (PySem.W.findIn K (.ref C) "__setattr__" = some (some (.builtin "object.__setattr__"))) && (decide (PySem.W.subIn K (.ref C) (.type "BaseException") = some true) &&
    (decide (PySem.W.typeIn K (.ref C) = some (.type "type")) && PySem.W.keepIn K (.ref C))))
theorem acH {K : PySem.W.Frag} {C : Addr} (h : Cd K C = true) : OexC K C := by
  unfold Cd at h
  obtain ⟨h1, h⟩ := Bool.and_eq_true_iff.mp h
  obtain ⟨h2, h⟩ := Bool.and_eq_true_iff.mp h
  obtain ⟨h3, h⟩ := Bool.and_eq_true_iff.mp h
  obtain ⟨h4, h5⟩ := Bool.and_eq_true_iff.mp h
  refine ⟨?_, of_decide_eq_true h2, of_decide_eq_true h3, of_decide_eq_true h4, h5⟩
  split at h1
  · rename_i dd cd sl ho
    split at h1
    · rename_i C' bm k0 k1 k2 k3 n k5 hm hs
      simp only [Bool.and_eq_true, beq_iff_eq, Bool.not_eq_true'] at h1
      obtain ⟨rfl, rfl, hd, hh, hr⟩ := h1
      obtain ⟨nm, bs, mro, ns, qn, hdd, sn, sb, ab, col, del⟩ := cd
      dsimp only at hm hd hh
      subst hm hd hh
      have hsl : sl = #[k0, k1, k2, k3, some (.builtin "ValueError.__new__"), k5] := by
        rw [← Array.toArray_toList (xs := sl), hs]
      subst hsl
      exact ⟨nm, qn, ns, bs, bm, sn, sb, ab, col, dd, k0, k1, k2, k3, k5, ho, hr⟩
    · cases h1
  · cases h1
def Wc (K : PySem.W.Frag) (C : Addr) (m : Str) (f : Addr) : Bool := PySem.W.readsIn K C (.type "type") && (decide (PySem.W.specialIn K (.ref C) "__getattribute__" = some (some (.builtin "type.__getattribute__"))) &&
  (match PySem.W.findCls K (.ref C) (.type "type") m with
  | some (.val (.ref g)) => g == f
  | _ => false))
theorem W7 {K : PySem.W.Frag} {C f : Addr} {m : Str} (h : Wc K C m f = true) : ClX.CRead K C (.type "type") ∧ ClX.CVal K C (.type "type") m (.ref f) (.ref f) := by
  unfold Wc at h
  obtain ⟨h1, h⟩ := Bool.and_eq_true_iff.mp h
  obtain ⟨h2, h3⟩ := Bool.and_eq_true_iff.mp h
  refine ⟨⟨h1, of_decide_eq_true h2⟩, ⟨?_, rfl⟩⟩
  split at h3
  · rename_i g hg
    rw [hg, beq_iff_eq.mp h3]
  · cases h3
def zY (K : PySem.W.Frag) (C : Addr) (m : Str) : Bool := decide (PySem.W.findIn K (.ref C) m = some (some (.ref (He.ma K C m)))) && decide (PySem.W.typeIn K (.ref (He.ma K C m)) = some (.type "function"))
theorem z8 {K : PySem.W.Frag} {C : Addr} {m : Str} (h : zY K C m = true) : PySem.W.findIn K (.ref C) m = some (some (.ref (He.ma K C m))) ∧ PySem.W.typeIn K (.ref (He.ma K C m)) = some (.type "function") := by
  obtain ⟨h1, h2⟩ := Bool.and_eq_true_iff.mp h
  exact ⟨of_decide_eq_true h1, of_decide_eq_true h2⟩
def W8 (K : PySem.W.Frag) (C : Addr) (names : List Str) : Bool := names.all fun n => decide (PySem.W.findIn K (.ref C) n = some none)
theorem W9 {K : PySem.W.Frag} {C : Addr} {names : List Str} (h : W8 K C names = true) : ∀ n ∈ names, PySem.W.findIn K (.ref C) n = some none := fun n hn => of_decide_eq_true (List.all_eq_true.mp h n hn)
def yd (K : PySem.W.Frag) (D : Addr) : Bool := decide (PySem.W.findIn K (.ref D) "__getattribute__" = some (some (.builtin "BaseException.__getattribute__"))) && (decide (PySem.W.findIn K (.ref D) "__getattr__" = some none) &&
  (decide (PySem.W.subIn K (.ref D) (.type "BaseException") = some true) && (PySem.W.hasDictIn K D && (decide (PySem.W.findIn K (.ref D) "__class__" = some (some (.builtin "object.__class__"))) &&
  (decide (PySem.W.specialIn K (.builtin "object.__class__") "__get__" = some (some (.builtin "getset_descriptor.__get__"))) && (decide (PySem.W.takesIn K (.builtin "object.__class__") = some true) && decide (PySem.W.mroIn K D (.type "object") = some true)))))))
theorem Xa {K : PySem.W.Frag} {D : Addr} (h : yd K D = true) : ExcC K D ∧ XfC K D := by
  unfold yd at h
  obtain ⟨h1, h⟩ := Bool.and_eq_true_iff.mp h
  obtain ⟨h2, h⟩ := Bool.and_eq_true_iff.mp h
  obtain ⟨h3, h⟩ := Bool.and_eq_true_iff.mp h
  obtain ⟨h4, h⟩ := Bool.and_eq_true_iff.mp h
  obtain ⟨h5, h⟩ := Bool.and_eq_true_iff.mp h
  obtain ⟨h6, h⟩ := Bool.and_eq_true_iff.mp h
  obtain ⟨h7, h8⟩ := Bool.and_eq_true_iff.mp h
  exact ⟨⟨of_decide_eq_true h1, of_decide_eq_true h2, of_decide_eq_true h3, h4, of_decide_eq_true h5, of_decide_eq_true h6, of_decide_eq_true h7, of_decide_eq_true h8⟩, ⟨of_decide_eq_true h1, of_decide_eq_true h2, of_decide_eq_true h3, h4⟩⟩
def tupB (K : PySem.W.Frag) (a : Addr) (vs : List V) : Bool := match K.lookup a with
  | some ⟨.type "tuple", _, .seq its _, _⟩ => decide (its.size ≤ 1000) && He.relAll vs its.toList
  | _ => false
theorem tupB_ok {K : PySem.W.Frag} {a : Addr} {vs : List V} (h : tupB K a vs = true) (H : Hp) : SqT K H a vs := by
  unfold tupB at h
  split at h
  · rename_i od its n sl ho
    obtain ⟨h1, h2⟩ := Bool.and_eq_true_iff.mp h
    have r := He.relAll_ok h2
    refine .inr ?_
    exact ⟨_, its, n, ho, rfl, rfl, Nat.le_trans (of_decide_eq_true h1) (by decide), r⟩
  · cases h
abbrev Xb : Type := He.AlT × Bool
def obsE (fa : List He.Fa) (fn : List He.DefD) (ts : List He.Tab) (ex : List (PySem.W.Frag → Bool)) (K : PySem.W.Frag) : Xb := (He.obsT fa fn ts K, ex.all fun f => f K)
def valE (fn : List He.DefD) (ts : List He.Tab) (w : World) : Xb := (He.valT fn ts w, true)
def SaysE (fa : List He.Fa) (fn : List He.DefD) (ts : List He.Tab) (ex : List (PySem.W.Frag → Bool)) (w : World) (K : PySem.W.Frag) : Prop := obsE fa fn ts ex K = valE fn ts w
def Ce (r : PySem.W.OpenRow) {α : Type} (ob : PySem.W.SharedT → α) (M : Nat) (v : World → α) (w : World) : Prop := ∀ os : OsState, (HandSHeadRun.endF (HandSHeadRun.stepQ (HandSHeadRun.denQ HandSHeadRun.tabQ) r.prog w) M r.prog w os).map ob = some (v w)
theorem Ce.row {r : PySem.W.OpenRow} {α : Type} {ob : PySem.W.SharedT → α} {M : Nat} {v : World → α} (hf : ∀ w : World, Ce r ob M v (w.withFollow "special-get-raises" false)) (ht : ∀ w : World, Ce r ob M v (w.withFollow "special-get-raises" true)) (w : World) : Ce r ob M v w :=
  PySem.W.byRow2 "special-get-raises" (P := fun w => Ce r ob M v w) hf ht w
theorem Ce.map {r : PySem.W.OpenRow} {α β : Type} {ob : PySem.W.SharedT → α} {oc : PySem.W.SharedT → β} {M : Nat} {v : World → α} {u : World → β} {w : World} (h : Ce r ob M v w) (f : ∀ s, ob s = v w → oc s = u w) : Ce r oc M u w := by
  intro os
  have a := h os
  cases e : HandSHeadRun.endF (HandSHeadRun.stepQ (HandSHeadRun.denQ HandSHeadRun.tabQ) r.prog w) M r.prog w os with
  | none =>
    rw [e] at a
    cases a
  | some s =>
    rw [e] at a
    show some (oc s) = _
    rw [f s (Option.some.inj a)]
abbrev Part : Type := List He.Fa × List He.DefD × List (PySem.W.Frag → Bool)
def Xc (ps : List Part) (w : World) : List Xb := ps.map fun p => valE p.2.1 [] w
abbrev AlP : Type := Xb × List Xb
structure ahh (fa : List He.Fa) (ts : List He.Tab) (ps : List Part) (w : World) (K : PySem.W.Frag) : Prop where
  b : SaysE fa [] ts [] w K
  p : ∀ (i : Nat) (q : Part), ps[i]? = some q → SaysE q.1 q.2.1 [] q.2.2 w K
section
variable {fa : List He.Fa} {fn : List He.DefD} {ts : List He.Tab} {ex : List (PySem.W.Frag → Bool)} {w : World} {K : PySem.W.Frag}
theorem SaysE.t (c : SaysE fa fn ts ex w K) : He.SaysT fa fn ts w K := congrArg (fun z : Xb => z.1) c
theorem SaysE.x (c : SaysE fa fn ts ex w K) (i : Nat) {f : PySem.W.Frag → Bool} (h : ex[i]? = some f := by rfl) : f K = true := by
  have c1 : (ex.all fun f => f K) = true := congrArg (fun z : Xb => z.2) c
  exact List.all_eq_true.mp c1 f (List.mem_of_getElem? h)
end
end GB
namespace GB
open PySem PySem.Spec PyProof.Rows L2
def z9 (K : PySem.W.Frag) (C : Addr) : Bool := decide (PySem.W.findIn K (.ref C) "__class__" = some (some (.builtin "object.__class__"))) && (decide (PySem.W.specialIn K (.builtin "object.__class__") "__get__" = some (some (.builtin "getset_descriptor.__get__"))) &&
  (decide (PySem.W.takesIn K (.builtin "object.__class__") = some true) && decide (PySem.W.mroIn K C (.type "object") = some true)))
theorem acI {K : PySem.W.Frag} {H : Hp} {a C dx : Addr} {fs : List (Str × V)} (h : z9 K C = true) (cl : Cls K C) (e : H a = some (.ins C dx fs)) : TyX K H (.ref a) (.ref C) := by
  unfold z9 at h
  obtain ⟨h1, h⟩ := Bool.and_eq_true_iff.mp h
  obtain ⟨h2, h⟩ := Bool.and_eq_true_iff.mp h
  obtain ⟨h3, h4⟩ := Bool.and_eq_true_iff.mp h
  exact .base (.ins e cl (of_decide_eq_true h1) (of_decide_eq_true h2) (of_decide_eq_true h3) (of_decide_eq_true h4))
def veB (K : PySem.W.Frag) : Bool := match PySem.W.findCls K (.type "ValueError") (.type "type") "__init__" with
  | some (.val (.builtin n)) => n == "ValueError.__init__"
  | _ => false
theorem ajm {K : PySem.W.Frag} (h : veB K = true) : PySem.W.findCls K (.type "ValueError") (.type "type") "__init__" = some (.val (.builtin "ValueError.__init__")) := by
  unfold veB at h
  split at h
  · rename_i n hn
    rw [hn, beq_iff_eq.mp h]
  · cases h
end GB
noncomputable section
namespace HP
open PySem PySem.W PySem.Calls PyProof.Rows
def aeB : List Stmt → Env → Sem Flow := PySem.W.Fast.tw12563942051412417395
theorem aeC : @PySem.execs = aeB := PySem.W.Fast.te12563942051412417395
abbrev Ux (p : Program) (w : World) : SharedT → Thread → Option (SharedT × Thread) := HandSHeadRun.stepQ (HandSHeadRun.denQ HandSHeadRun.tabQ) p w
theorem Jm (p : Program) (w : World) : stepT (denote treeTable) p w = Ux p w := by
  unfold Ux
  rw [HandSHeadRun.stepQ_eq, HandSHeadRun.denQ_eq, HandSHeadRun.tabQ_eq]
section
variable (st : SharedT → Thread → Option (SharedT × Thread)) (n0 : Nat) (ann : Option Value)
def Sw : Nat → SharedT → Thread → Option (Flow × SharedT × Code × Pos)
  | 0, _, _ => none
  | m + 1, s, t => match endAt 1 t with
    | some f => some (f, s, t.code, t.pos)
    | none => match stepOk n0 ann t with
      | false => none
      | true => match st s t with
        | some (s', t') => HandSHeadRun.frS s' fun s' => Sw m s' t'
        | none => none
def goP : Nat → SharedT → Thread → Option (SharedT × Thread)
  | 0, s, t => some (s, t)
  | m + 1, s, t => match through t with
    | true => none
    | false => match stepOk n0 ann t with
      | false => none
      | true => match st s t with
        | some (s', t') => HandSHeadRun.frS s' fun s' => goP m s' t'
        | none => none
end
theorem Sy {tb : String → Option Builtin} {p : Program} {w : World} {n0 : Nat} {ann : Option Value} : ∀ (m : Nat) (s : SharedT) (t : Thread), Sw (stepT (denote tb) p w) n0 ann m s t = segRunT tb p w n0 ann 1 m s t
  | 0, _, _ => rfl
  | m + 1, s, t => by
    unfold Sw segRunT
    cases endAt 1 t with
    | some f => rfl
    | none =>
      cases stepOk n0 ann t with
      | false => rfl
      | true =>
        cases h : stepT (denote tb) p w s t with
        | none => rfl
        | some r =>
          dsimp only
          rw [HandSHeadRun.frS_eq]
          exact Sy m r.1 r.2
theorem aeD {tb : String → Option Builtin} {p : Program} {w : World} {n0 : Nat} {ann : Option Value} : ∀ {m : Nat} {s s' : SharedT} {t t' : Thread}, goP (stepT (denote tb) p w) n0 ann m s t = some (s', t') → topGo tb p w n0 ann m s.abs t = some (s'.abs, t')
  | 0, s, s', t, t', h => by
    have h1 : some (s, t) = some (s', t') := h
    cases h1
    rfl
  | m + 1, s, s', t, t', h => by
    unfold goP at h
    unfold topGo
    cases h1 : through t with
    | true => rw [h1] at h; cases h
    | false =>
      rw [h1] at h
      cases h2 : stepOk n0 ann t with
      | false => rw [h2] at h; cases h
      | true =>
        rw [h2] at h
        cases h3 : stepT (denote tb) p w s t with
        | none => rw [h3] at h; cases h
        | some r =>
          rw [h3] at h
          dsimp only at h
          rw [HandSHeadRun.frS_eq] at h
          rw [stepT_spec h3]
          exact aeD h
section
variable {p : Program} {w : World} {n0 : Nat} {ann : Option Value} {env : Env} {q : Pos} {c : Code} {pos pos' : Pos} {s s' : SharedT} {r : Shared} {n N i m : Nat} {b : List Stmt}
def Piece (p : Program) (w : World) (n0 : Nat) (ann : Option Value) (env : Env) (q : Pos) (c : Code) (b : List Stmt) (i m n : Nat) (s s' : SharedT) (pos pos' : Pos) : Prop :=
  Sw (Ux p w) n0 ann n s ⟨(aeB ((b.drop i).take m) env).wrap doneF deadEnd id id, c, pos, [topFrame q]⟩ = some (.next, s', c, pos')
theorem Piece.app (h : Piece p w n0 ann env q c b i m n s s' pos pos') (k : topRun treeTable p w n0 ann N s'.abs (restOf (b.drop (i + m)) env c pos' [topFrame q]) = some r) :
    topRun treeTable p w n0 ann (n + N) s.abs (restOf (b.drop i) env c pos [topFrame q]) = some r := by
  unfold Piece at h
  rw [← Jm, Sy, ← aeC] at h
  have e : b.drop i = (b.drop i).take m ++ b.drop (i + m) := by
    rw [← List.drop_drop, List.take_append_drop]
  rw [e]
  exact piece_app (segRun_of h) k
theorem adD (hl : b.length ≤ i) (k : HandSHeadRun.goF (Ux p w) n0 ann N s ⟨doneF .next, c, pos, [topFrame q]⟩ = some s') : topRun treeTable p w n0 ann N s.abs (restOf (b.drop i) env c pos [topFrame q]) = some s'.abs := by
  rw [List.drop_of_length_le hl]
  rw [← Jm] at k
  exact piece_nil (HandSHeadRun.goF_ok k)
theorem block_start (h : Sw (Ux p w) n0 ann n s (blockOf b env c pos [topFrame q]) = some (.next, s', c, pos')) (k : topRun treeTable p w n0 ann N s'.abs (restOf (b.drop 0) env c pos' [topFrame q]) = some r) :
    topRun treeTable p w n0 ann (n + N) s.abs ⟨denote treeTable (.body b env), c, pos, [topFrame q]⟩ = some r := by
  rw [← Jm, Sy] at h
  exact piece_block (segRun_of h) k
def Ec (p : Program) (w : World) (os : OsState) (n : Nat) (r : SharedT × Thread) : Prop := (match HandSHeadRun.putAll (boot_heap w.params).objs.toList .nil 0 with
  | some (t, k) => HandSHeadRun.frNat k fun k => goP (Ux p w) k (HandSHeadRun.bootAnn w) n (HandSHeadRun.bootT w os (t, k)) (topStub p)
  | none => none) = some r
theorem Ec.top {os : OsState} {t : Thread} (h : Ec p w os n (s, t)) (k : topRun treeTable p w (boot_heap w.params).objs.size (HandSHeadRun.bootAnn w) N s.abs t = some r) :
    topRun treeTable p w (boot_heap w.params).objs.size (HandSHeadRun.bootAnn w) (n + N) ⟨boot_heap w.params, #[], boot_drawn, boot_toks, os⟩ (topStub p) = some r := by
  unfold Ec at h
  cases e : HandSHeadRun.putAll (boot_heap w.params).objs.toList .nil 0 with
  | none => rw [e] at h; cases h
  | some x =>
    obtain ⟨T, j⟩ := x
    rw [e] at h
    dsimp only at h
    rw [HandSHeadRun.frNat_eq, ← Jm] at h
    have hh := HandSHeadRun.putAll_heap e
    have hj : (boot_heap w.params).objs.size = j := by
      rw [← hh]
      exact absHeap_size T j _
    have g := aeD h
    have eb : (HandSHeadRun.bootT w os (T, j)).abs = ⟨boot_heap w.params, #[], boot_drawn, boot_toks, os⟩ := by
      show (⟨absHeap T j (boot_heap w.params).life, #[], boot_drawn, boot_toks, os⟩ : Shared) = _
      rw [hh]
    rw [eb] at g
    rw [← hj] at g
    exact go_top g k
end
structure Ends (p q : Program) (loose : List PySem.Str) (Xt : Shared → Bool) {α : Type} (Yf : Shared → α) (Ya : World → α) (M : Nat) (w : World) (os : OsState) (s : SharedT) : Prop where
  run : topRun treeTable p w (boot_heap w.params).objs.size (HandSHeadRun.bootAnn w) M ⟨boot_heap w.params, #[], boot_drawn, boot_toks, os⟩ (topStub p) = some s.abs
  looks : HandSHeadRun.looksF p (boot_heap w.params) s.abs = true
  seen : HandSHeadRun.seenQ q loose (importedModules p.main.body) Xt s.abs = openGood q loose
  says : Yf s.abs = Ya w
theorem ahY {p q : Program} {loose : List PySem.Str} {Xt : Shared → Bool} {α : Type} {Yf : Shared → α} {Ya : World → α} {M : Nat} (e : opening p = plainProg p.main.scope.names) (f : ∀ s, fenceModules? p s = some s)
    (h : ∀ w os, ∃ s, Ends p q loose Xt Yf Ya M w os s) : LeftO p q loose Xt Yf Ya (M + 600) true := by
  intro w
  obtain ⟨⟨hp, gs, dr, tk, os⟩, a, a'⟩ := Option.map_eq_some_iff.mp (boot_open (N := M + 600) e (Nat.ble_eq_true_of_le (by omega)) f w)
  obtain ⟨rfl, rfl, rfl, rfl⟩ : hp = boot_heap w.params ∧ gs = Array.mk [] ∧ dr = boot_drawn ∧ tk = boot_toks := by simpa using a'
  obtain ⟨s, E⟩ := h w os
  have r := topRun_mono 600 _ _ _ _ E.run
  have t : topFrom treeTable p w (M + 600) ⟨boot_heap w.params, Array.mk [], boot_drawn, boot_toks, os⟩ = some s.abs := by
    unfold topFrom
    dsimp only
    rw [HandSHeadRun.boot_ns]
    show Option.bind (topRun treeTable p w (boot_heap w.params).objs.size (HandSHeadRun.bootAnn w) (M + 600) ⟨boot_heap w.params, #[], boot_drawn, boot_toks, os⟩ (topStub p)) _ = some s.abs
    rw [r]
    have l := E.looks
    unfold HandSHeadRun.looksF at l
    show (match staticsOk (importedModules p.main.body) (boot_heap w.params) s.abs.heap && namesBound p s.abs.heap && gensDone s.abs && laidKept (boot_heap w.params) s.abs.heap with | true => some s.abs | false => none) = some s.abs
    rw [l]
  have sn := E.seen
  rw [← HandSHeadRun.seenQ_eq] at sn
  unfold openEnds
  rw [a]
  show Option.map _ (topFrom treeTable p w (M + 600) _) = _
  rw [t]
  exact congrArg some (Prod.ext sn E.says)
theorem head {r : OpenRow} {q : Program} {H : Hook} {M : Nat} {loose : List PySem.Str} {d : DefRec} {kwd : List (PySem.Str × PySem.Expr)}
    (e : opening r.prog = plainProg r.prog.main.scope.names) (f : ∀ s, fenceModules? r.prog s = some s) (h : ∀ w os, ∃ s, Ends r.prog q loose (fun s => xlAt q [] s && recOk r.toRowW.records s) H.obs H.val M w os s)
    (hdef : defOf q r.name = some (d, kwd)) (hp : r.prog.theDef r.name = some (d.params, d.body, d.scope)) (hk : kwWritten? d.params.kwonlyargs d.params.kw_defaults = some kwd)
    (hwr : (!r.writes || r.records.isEmpty) = true) (k1 : r.wellSaid = true) (ok : (chainsOk q && opensWell r.prog && (frees r.toRowW && r.within.isEmpty)) = true) (hb : r.prog.bare) (hw : r.toRowW.promised)
    (call : WalkO q loose (XL q []) H.says r.toRowW d kwd fun f vs => PySem.call f vs) : r.Holds :=
  holds_open (r := r) (q := q) (loose := loose) (XP := XL q []) (YP := H.says) (d := d) (kwd := kwd) (ahY e f h) H.of H.keeps (fun s z => xl_of s (Bool.and_eq_true_iff.mp z).1) XL.keeps hdef hp hk
    (fun s z => recFacts_of (Bool.and_eq_true_iff.mp z).2) hwr k1 ok hb hw call
end HP
end
namespace PD
open PySem PySem.Spec PyProof.Rows L2
def keyB (K : PySem.W.Frag) (a : Addr) (ks : List Str) : Bool := match K.lookup a with
  | some ⟨_, _, .dict es _, _⟩ => es.toList.all fun e => !e.refKey && ks.any fun k => e.key.isStr k
  | _ => false
inductive Tv where
  | int (i : Int) | str (x : Str) | tup (l : List Tv)
mutual
def SJ (K : PySem.W.Frag) : Value → Tv → Bool
  | u, .int i => match u with
    | .int j _ => decide (j = i)
    | _ => false
  | u, .str x => match u with
    | .str y _ => decide (y = x)
    | _ => false
  | u, .tup l => match u with
    | .ref b => (match K.lookup b with
      | some ⟨.type "tuple", _, .seq its _, _⟩ => decide (its.size ≤ 1000) && Xd K its.toList l
      | _ => false)
    | _ => false
def Xd (K : PySem.W.Frag) : List Value → List Tv → Bool
  | us, [] => us.isEmpty
  | us, t :: ts => match us with
    | u :: us => SJ K u t && Xd K us ts
    | [] => false
end
def af4 (K : PySem.W.Frag) (a : Addr) (kvs : List (Str × Tv)) : Bool := kvs.all fun q => match PySem.W.nsIn K a q.1 with
  | some (some u) => SJ K u q.2
  | _ => false
def yK (K : PySem.W.Frag) : List DictEntry → List (Int × Str) → Bool
  | [], [] => true
  | e :: es, q :: qs => (match e.key with
      | .int i _ => decide (i = q.1)
      | _ => false) && decide (e.hash = hashInt q.1) && decide (e.val = .ref (He.ga K q.2)) && yK K es qs
  | _, _ => false
def ahk (K : PySem.W.Frag) (x : Str) (qs : List (Int × Str)) : Bool := match K.lookup (He.ga K x) with
  | some ⟨.type "dict", none, .dict es _, sl⟩ => decide (sl = #[]) && !(He.ga K x == sysModules) && yK K es.toList qs
  | _ => false
end PD
namespace HP
open PySem PySem.W PySem.Calls PyProof.Rows
theorem ahZ {p q : Program} {loose : List PySem.Str} {Xt : Shared → Bool} {α : Type} {Yf : Shared → α} {Ya : World → α} {M0 : Nat} {w : World} {os : OsState} {s : SharedT}
    (h : ∃ M, M ≤ M0 ∧ topRun treeTable p w (boot_heap w.params).objs.size (HandSHeadRun.bootAnn w) M ⟨boot_heap w.params, #[], boot_drawn, boot_toks, os⟩ (topStub p) = some s.abs)
    (h1 : HandSHeadRun.looksF p (boot_heap w.params) s.abs = true) (h2 : HandSHeadRun.seenQ q loose (importedModules p.main.body) Xt s.abs = openGood q loose) (h3 : Yf s.abs = Ya w) : ∃ s, Ends p q loose Xt Yf Ya M0 w os s := by
  obtain ⟨M, hM, h⟩ := h
  obtain ⟨k, hk⟩ := Nat.exists_eq_add_of_le hM
  refine ⟨s, ?_, h1, h2, h3⟩
  rw [hk]
  exact topRun_mono k _ _ _ _ h
def af5 (as : List Addr) (fa : List He.Fa) (ts : List He.Tab) (ps : List GB.Part) (g : Addr → Option Obj) : GB.AlP := (GB.obsE fa [] ts [] (He.frG g as), ps.map fun p => GB.obsE p.1 p.2.1 [] p.2.2 (He.frG g as))
def adE (as : List Addr) (fa : List He.Fa) (ts : List He.Tab) (ps : List GB.Part) : PySem.W.Hook where
  α := GB.AlP
  obs := fun s => af5 as fa ts ps s.heap.get?
  val := fun w => (GB.valE [] ts w, GB.Xc ps w)
  says := fun w h => ∃ K : PySem.W.Frag, K.In h ∧ GB.ahh fa ts ps w K
  of := fun w s e => by
    have e1 : GB.obsE fa [] ts [] (He.frG s.heap.get? as) = GB.valE [] ts w := congrArg Prod.fst e
    have e2 : (ps.map fun p => GB.obsE p.1 p.2.1 [] p.2.2 (He.frG s.heap.get? as)) = ps.map fun p => GB.valE p.2.1 [] w := congrArg Prod.snd e
    refine ⟨_, He.frG_in, e1, fun i q hq => ?_⟩
    have e3 := congrArg (fun l => l[i]?) e2
    rw [List.getElem?_map, List.getElem?_map, hq] at e3
    exact Option.some.inj e3
  keeps := fun _ _ _ ⟨K, hK, c⟩ k => ⟨K, PySem.W.Frag.In.keeps hK k, c⟩
theorem af6 {as : List Addr} {fa : List He.Fa} {ts : List He.Tab} {ps : List GB.Part} {s : SharedT} {w : World} {K : PySem.W.Frag} (hK : He.frG (HandSHeadRun.getT s) as = K) (hb : GB.obsE fa [] ts [] K = GB.valE [] ts w) (hq : (ps.map fun p => GB.obsE p.1 p.2.1 [] p.2.2 K) = GB.Xc ps w) :
    (adE as fa ts ps).obs s.abs = (adE as fa ts ps).val w := by
  have e : s.abs.heap.get? = HandSHeadRun.getT s := funext fun a => (HandSHeadRun.getT_eq s a).symm
  show af5 as fa ts ps s.abs.heap.get? = (GB.valE [] ts w, GB.Xc ps w)
  unfold af5
  rw [e, hK, hb, hq]
end HP
namespace GB
open PySem PySem.Spec PyProof.Rows L2
mutual
inductive Im (K : PySem.W.Frag) (H : Hp) : V → PyData → Prop
  | non : Im K H .non .none
  | bl (b : Bool) : Im K H (.bl b) (.bool b)
  | int (i : Int) : Im K H (.int i) (.int i)
  | str (z : Str) : Im K H (.str z) (.str z)
  | tup {a : Addr} {xs : List V} {ds : List PyData} : SqT K H a xs → gj K H xs ds → Im K H (.ref a) (.tuple ds)
inductive gj (K : PySem.W.Frag) (H : Hp) : List V → List PyData → Prop
  | nil : gj K H [] []
  | cons {v : V} {vs : List V} {d : PyData} {ds : List PyData} : Im K H v d → gj K H vs ds → gj K H (v :: vs) (d :: ds)
end
structure Kp (H H' : Hp) : Prop where
  tup : ∀ a xs, H a = some (.tup xs) → H' a = some (.tup xs)
  frz : ∀ a o u, H a = some (.frz o u) → H' a = some (.frz o u)
section
variable {K : PySem.W.Frag} {H H' H2 : Hp}
theorem Kp.refl : Kp H H := ⟨fun _ _ h => h, fun _ _ _ h => h⟩
theorem Kp.trans (a : Kp H H') (b : Kp H' H2) : Kp H H2 := ⟨fun x y h => b.tup x y (a.tup x y h), fun x y z h => b.frz x y z (a.frz x y z h)⟩
theorem Kp.same (s : Same H H') : Kp H H' := ⟨fun a _ h => s a _ h, fun a _ _ h => s a _ h⟩
theorem Kp.new {p : Addr} {o : HO} (h : H p = none) : Kp H (upd H p o) := .same (same_new h)
theorem Kp.put {p : Addr} {o u : HO} (h : H p = some u) (m : Mut (some u)) : Kp H (upd H p o) := by
  refine ⟨fun a xs e => ?_, fun a ob x e => ?_⟩
  · have ne : a ≠ p := fun z => by
      rw [z, h] at e
      cases e
      exact m
    rw [upd_ne ne]
    exact e
  · have ne : a ≠ p := fun z => by
      rw [z, h] at e
      cases e
      exact m
    rw [upd_ne ne]
    exact e
theorem Kp.ext {w : Addr} {u : HO} (e : Ext w H H') (h : H w = some u) (m : Mut (some u)) : Kp H H' := by
  refine ⟨fun a xs q => e a _ (fun z => ?_) q, fun a ob x q => e a _ (fun z => ?_) q⟩
  · rw [z, h] at q
    cases q
    exact m
  · rw [z, h] at q
    cases q
    exact m
theorem Kp.sq (k : Kp H H') {a : Addr} {xs : List V} (h : SqT K H a xs) : SqT K H' a xs := by
  rcases h with (h | ⟨o, h⟩) | h
  · exact .inl (.inl (k.tup _ _ h))
  · exact .inl (.inr ⟨o, k.frz _ _ _ h⟩)
  · exact .inr h
mutual
theorem Im.kp (k : Kp H H') : ∀ {v : V} {d : PyData}, Im K H v d → Im K H' v d
  | _, _, .non => .non
  | _, _, .bl b => .bl b
  | _, _, .int i => .int i
  | _, _, .str z => .str z
  | _, _, .tup h a => .tup (k.sq h) (gj.kp k a)
theorem gj.kp (k : Kp H H') : ∀ {vs : List V} {ds : List PyData}, gj K H vs ds → gj K H' vs ds
  | _, _, .nil => .nil
  | _, _, .cons a b => .cons (Im.kp k a) (gj.kp k b)
end
mutual
theorem Im.dp : ∀ {v : V} {d : PyData}, Im K H v d → Dp K H v d
  | _, _, .non => .non
  | _, _, .bl b => .bl b
  | _, _, .int i => .int i
  | _, _, .str z => .str z
  | _, _, .tup h a => .tup h (gj.dp a)
theorem gj.dp : ∀ {vs : List V} {ds : List PyData}, gj K H vs ds → DpAll K H vs ds
  | _, _, .nil => .nil
  | _, _, .cons a b => .cons (Im.dp a) (gj.dp b)
end
theorem gj.length : ∀ {vs : List V} {ds : List PyData}, gj K H vs ds → vs.length = ds.length
  | _, _, .nil => rfl
  | _, _, .cons _ b => by rw [List.length_cons, List.length_cons, gj.length b]
theorem gj.get : ∀ {vs : List V} {ds : List PyData} {i : Nat} {v : V}, gj K H vs ds → vs[i]? = some v → ∃ d, ds[i]? = some d ∧ Im K H v d
  | _, _, _, _, .nil, e => by cases e
  | _, _, 0, _, .cons a _, e => by
    cases e
    exact ⟨_, rfl, a⟩
  | _, _, i + 1, _, .cons _ b, e => by
    rw [List.getElem?_cons_succ] at e
    obtain ⟨d, h1, h2⟩ := gj.get b e
    exact ⟨d, by rw [List.getElem?_cons_succ]; exact h1, h2⟩
theorem gj.app : ∀ {vs us : List V} {ds es : List PyData}, gj K H vs ds → gj K H us es → gj K H (vs ++ us) (ds ++ es)
  | _, _, _, _, .nil, b => b
  | _, _, _, _, .cons a r, b => .cons a (gj.app r b)
def isTup : PyData → Bool
  | .tuple _ => true
  | _ => false
def isRef : V → Bool
  | .ref _ => true
  | _ => false
theorem Im.ref : ∀ {v : V} {d : PyData}, Im K H v d → isRef v = isTup d
  | _, _, .non => rfl
  | _, _, .bl _ => rfl
  | _, _, .int _ => rfl
  | _, _, .str _ => rfl
  | _, _, .tup _ _ => rfl
end
mutual
def cnt : PyData → Nat
  | .tuple ds => 1 + aeE ds
  | _ => 0
def aeE : List PyData → Nat
  | [] => 0
  | d :: r => cnt d + aeE r
end
mutual
def dep : PyData → Nat
  | .tuple ds => 1 + aeF ds
  | _ => 0
def aeF : List PyData → Nat
  | [] => 0
  | d :: r => max (dep d) (aeF r)
end
mutual
def sz : PyData → Nat
  | .tuple ds => 1 + ahl ds
  | _ => 1
def ahl : List PyData → Nat
  | [] => 0
  | d :: r => sz d + ahl r
end
theorem Paired.len {α β : Type} {F : α → β → Prop} : ∀ {l : List α} {m : List β}, Paired F l m → l.length = m.length
  | _, _, .nil => rfl
  | _, _, .cons _ t => by rw [List.length_cons, List.length_cons, Paired.len t]
theorem Paired.snoc {α β : Type} {F : α → β → Prop} {a : α} {b : β} (h : F a b) : ∀ {l : List α} {m : List β}, Paired F l m → Paired F (l ++ [a]) (m ++ [b])
  | _, _, .nil => .cons h .nil
  | _, _, .cons r t => .cons r (Paired.snoc h t)
theorem Jo {J : It} {xs : List V} {G : Hp → Prop} (wk : Walk J xs.length G (YAt xs)) {g : TG} {tt : TT} {te : TE} {vs : List Nat} {σ : L2.St} {H : Hp} {D : Addr} {Qd : Hp → Prop} (hD : H D = none)
    (hG : ∀ H', Same H H' → G H') (hn : xs.length ≤ 50000) (P : V → Bool) (E : Hp → V → V → Prop) (hE : ∀ H1 H2 x y, Kp H1 H2 → E H1 x y → E H2 x y)
    (step : ∀ x ∈ xs, ∀ (H' : Hp) (R : Hp → Prop) (Ra : VK), Same H H' → (P x = false → ∀ H'', Same H' H'' → R H'') → (P x = true → ∀ y H'', Same H' H'' → E H'' x y → Ra y H'') →
      g x (wipe σ vs) H' fun σ2 H2 => wipe σ2 vs = wipe σ vs ∧ tt σ2 H2 fun b H3 => if b = true then te σ2 H3 Ra else R H3)
    (hd : ∀ H' ys, Same H H' → H' D = some (.lst ys) → Paired (E H') (xs.filter P) ys → Qd H') :
    ∃ W : Nat → Nat → Hp → Prop, (∃ m, W 0 m (upd H D (.lst []))) ∧ ∀ i m H, W i m H →
      (J.stop i H ∧ Qd H) ∨ (J.go i H ∧ ∃ Nx : Hp → Prop, (∀ H', Nx H' → ∃ m', m' < m ∧ W (i + 1) m' H') ∧ ∀ x H', J.yld i H x H' → g x (wipe σ vs) H' fun σ2 H2 => wipe σ2 vs = wipe σ vs ∧ tt σ2 H2 fun b H3 =>
        if b = true then te σ2 H3 fun y H4 => ∃ acc, H4 D = some (.lst acc) ∧ acc.length < sizeLine ∧ Nx (upd H4 D (.lst (acc ++ [y]))) else Nx H3) := by
  refine lc_it wk (fun i H' => Same H H' ∧ ∃ ys, H' D = some (.lst ys) ∧ Paired (E H') ((xs.take i).filter P) ys) ⟨same_new hD, [], upd_same, .nil⟩ (fun i H' _ h => hG H' h.1) (fun i x H1 H2 hi hP hY => ?_) (fun H' h => ?_)
  · obtain ⟨rfl, hx⟩ := hY
    obtain ⟨hs, ys, hd1, hp1⟩ := hP
    have hx2 : xs.take (i + 1) = xs.take i ++ [x] := by rw [List.take_add_one, hx]; rfl
    have hlen : ys.length ≤ 50000 := by
      rw [← Paired.len hp1]
      refine Nat.le_trans (List.length_filter_le _ _) ?_
      rw [List.length_take]
      omega
    refine step x (List.mem_of_getElem? hx) H2 (fun H3 => Same H H3 ∧ ∃ ys, H3 D = some (.lst ys) ∧ Paired (E H3) ((xs.take (i + 1)).filter P) ys) _ hs (fun hp H3 s3 => ⟨hs.trans s3, ys, s3 _ _ hd1, ?_⟩) (fun hp y H3 s3 e3 => ⟨ys, s3 _ _ hd1, Nat.lt_of_le_of_lt hlen (by decide), fun a o ha => ?_, ys ++ [y], upd_same, ?_⟩)
    · rw [hx2, List.filter_append, List.filter_cons, if_neg (by rw [hp]; exact Bool.false_ne_true), List.filter_nil, List.append_nil]
      exact Paired.mapP hp1 fun a b z => hE _ _ _ _ (.same s3) z
    · rw [upd_ne (ne_of_none ha hD)]
      exact s3 a o (hs a o ha)
    · rw [hx2, List.filter_append, List.filter_cons, if_pos hp, List.filter_nil]
      have kp : Kp H3 (upd H3 D (.lst (ys ++ [y]))) := Kp.put (s3 _ _ hd1) trivial
      exact Paired.snoc (hE _ _ _ _ kp e3) (Paired.mapP hp1 fun a b z => hE _ _ _ _ ((Kp.same s3).trans kp) z)
  · obtain ⟨hs, ys, hd1, hp1⟩ := h
    rw [List.take_length] at hp1
    exact hd H' ys hs hd1 hp1
end GB
namespace GB
open PySem PySem.Spec PyProof.Rows L2
def ahm (K : PySem.W.Frag) (w : World) (td ty tx : TE) : TE := fun σ H Q => td σ H fun x H1 => ∃ a es n, x = .ref a ∧ KDict K w a es n ∧ ty σ H1 fun y H2 => tx σ H2 fun z H3 => ∃ (k : Str), y = .str k ∧
  ((∃ u v, PySem.W.nsIn K a k = some (some u) ∧ RelV v u ∧ Q v H3) ∨ (PySem.W.nsIn K a k = some none ∧ Q z H3))
theorem ah0 {X : Cx} {o e f : Expr} {apos cpos : Pos} {td ty tx : TE} (ho : PE X o td) (he : PE X e ty) (hf : PE X f tx) (m : M2 X o "get" apos e f cpos) : PE X (.Call (.Attribute o "get" apos) [e, f] [] cpos) (ahm X.K X.w td ty tx) := by
  refine ⟨fun pins s σ H Q I h => ?_⟩
  refine wpAny_Call_method m.base m.few m.line PySem.F.plainAttrs_dict PySem.F.slot_dict_get PySem.F.type_dict_get (thn (ho.run pins s σ H _ I h) fun u s1 ⟨x, H1, I1, rx, a, es, n, ex, D, q1⟩ => ?_)
  subst ex
  obtain rfl : u = Value.ref a := rx
  refine ⟨kd_type D I1, fun b hb => ?_, ?_⟩
  · cases hb
    exact ⟨_, I1.kIn a _ D.at_, rfl⟩
  rw [m.trees]
  refine Calls.callWith_builtin rfl (Calls.evalArgs_plain (Calls.spliced_cons (thn (he.run pins s1 σ H1 _ I1 q1) fun iv s2 ⟨y, H2, I2, ry, q2⟩ =>
    Calls.spliced_cons (thn (hf.run pins s2 σ H2 _ I2 q2) fun fv s3 ⟨z, H3, I3, rz, k, ek, q3⟩ => Calls.spliced_nil ?_))))
  subst ek
  obtain ⟨t, rfl⟩ := (show ∃ t, iv = Value.str k t from ry)
  refine call_meetsIn PySem.F.slot_dict_get (kd_type D I3) PySem.F.entry_dict_get (PySem.F.args_dict_get_3 _ _ _) (meets_dict_get_default (PySem.strKind X.prog X.w) a (PySem.strKind_is X.prog X.w k t) D.low fv) ⟨_, PySem.W.mapOf_K (prog := X.prog) I3.kIn D.at_ D.lit, ?_⟩
  rcases q3 with ⟨u, v, e1, r1, q⟩ | ⟨e1, q⟩
  · rw [PySem.W.find_K D.at_ e1]
    exact ⟨v, H3, I3.tok _, r1, q⟩
  · rw [PySem.W.find_K D.at_ e1]
    exact ⟨z, H3, I3.tok _, rz, q⟩
def tCallS (i : Nat) (S : Addr → Sp → Prop) (E : XK) (t : TA) : TE := fun σ H Q => ∃ f sp, σ[i]? = some (some (.ref f)) ∧ S f sp ∧ t σ H fun vs H1 => sp vs H1 Q E
section
variable {X : Cx} {CX : CXT} {k i : Nat} {f C : Addr} {ps : List Str} {sp : Sp} {E : XK} {x m : Str} {p pos apos : Pos} {e o : Expr} {es : List Expr} {ta : TE} {t : TA}
def tMethS (S : Addr → Prop) (m : Str) (sp : Sp) (E : XK) (ta : TE) (t : TA) : TE := fun σ H Q => ta σ H fun x H1 => ∃ a C dx fs, x = .ref a ∧ S C ∧ H1 a = some (.ins C dx fs) ∧ fs.lookup m = none ∧ t σ H1 fun vs H2 => sp (x :: vs) H2 Q E
end
structure FOd (P : Program) (w : World) (K : PySem.W.Frag) (mg : Str → Option Value) (base : Heap) (CX : CXT) (k : Nat) (f : Addr) (x q : Str) (st : Stmt) (kws : List (Str × V)) (ps : List Str) (sp : Sp) : Prop where
  ex : ∃ fd, FunD K x q (defArgs st) (defBody st) (defScope st) [] kws f fd ∧ FnOk P w K mg base CX k f fd ps sp
section
variable {P : Program} {w : World} {K : PySem.W.Frag} {mg : Str → Option Value} {base : Heap} {CX : CXT} {j k : Nat} {f : Addr} {x q : Str} {st : Stmt} {dvs : List V} {kws : List (Str × V)} {N ps : List Str} {sp sp' : Sp}
theorem FOd.mono (c : FOd P w K mg base CX j f x q st kws ps sp) (h : j ≤ k) : FOd P w K mg base CX k f x q st kws ps sp := by
  obtain ⟨fd, F, G⟩ := c.ex
  exact ⟨fd, F, G.mono h⟩
end
section
variable {X : Cx} {CX : CXT} {k : Nat} {f C : Addr} {ps : List Str} {sp : Sp} {E : XK} {x y q : Str} {st : Stmt} {kwd : List (Str × V)} {p pos apos : Pos} {e o : Expr} {es : List Expr} {t tk : TA} {kws : List Keyword}
end
theorem Tp.dn {K : PySem.W.Frag} {mg : Str → Option Value} {x : Str} {st : Stmt} {dvs : List V} {kws : List (Str × V)} (T : Tp K mg x st dvs kws) : Dn K (He.ga K x) x x st dvs kws := T.ex
theorem Dn.foD {P : Program} {w : World} {K : PySem.W.Frag} {mg : Str → Option Value} {base : Heap} {CX : CXT} {k : Nat} {f : Addr} {x q : Str} {st : Stmt} {dvs : List V} {kws : List (Str × V)} {N ps : List Str} {sp : Sp}
    (T : Dn K f x q st dvs kws) (S : FnScope N ps (defScope st)) (hd : dvs ≠ [])
    (hbd : ∀ (T : Addr) (kV doc pm : Value) (an : Option Addr) (cdv ct : Value) (us its : List Value), us.length = ps.length → its.length = dvs.length →
      ∃ k, bindArgs (PySem.W.fnOf x q (defArgs st) (defBody st) (defScope st) (.ref T) kV doc pm an cdv ct) ⟨us, []⟩ = seqItems? (.ref T) >>= k ∧ k (some its.toArray) = pure (ps.zip us))
    (len : ∀ vs H Q E, sp vs H Q E → vs.length = ps.length)
    (hb : ∀ (cdv : Value) (A : Around) (outer : List Env) (s : Shared) (H : Hp) (vs : List V) (Q : VK) (E : XK), Room k (A.deeper (envOfC q (defScope st) s.heap.objs.size f cdv)) → sp vs H Q E →
      ∃ t, PSs (cxOf CX P w K mg base N q (defScope st) f cdv A outer s H E) (defBody st) t ∧ t { nx := fun _ H' => Q .non H', rt := Q } (start N vs) H) :
    FO P w K mg base CX (k + 1) f ps sp := by
  obtain ⟨fd, F⟩ := T
  obtain ⟨ds, v, b⟩ := F.binds1 (ps := ps) ps.length dvs.length hd (by omega) (fun T kV doc pm an cdv ct us its h1 h2 => by
    obtain ⟨k, e1, e2⟩ := hbd T kV doc pm an cdv ct us its h1 h2
    refine ⟨k, e1, ?_⟩
    rw [e2, List.drop_of_length_le (by omega), List.append_nil])
  rw [List.drop_of_length_le (Nat.le_refl _)] at v
  cases v
  exact ⟨fd, b, F.kp, F.ok S len hb⟩
theorem Dn.am9 {P : Program} {w : World} {K : PySem.W.Frag} {mg : Str → Option Value} {base : Heap} {k : Nat} {f : Addr} {x q : Str} {st : Stmt} {dvs : List V} {kws : List (Str × V)} {N ps : List Str} {sp : Sp}
    (T : Dn K f x q st dvs kws) (S : FnScope N ps (defScope st)) (hd : dvs ≠ [])
    (hbd : ∀ (T : Addr) (kV doc pm : Value) (an : Option Addr) (cdv ct : Value) (us its : List Value), us.length = ps.length → its.length = dvs.length →
      ∃ k, bindArgs (PySem.W.fnOf x q (defArgs st) (defBody st) (defScope st) (.ref T) kV doc pm an cdv ct) ⟨us, []⟩ = seqItems? (.ref T) >>= k ∧ k (some its.toArray) = pure (ps.zip us))
    (len : ∀ vs H Q E, sp vs H Q E → vs.length = ps.length)
    (hb : ∀ (cdv : Value) (A : Around) (outer : List Env) (s : Shared) (H : Hp) (vs : List V) (Q : VK) (E : XK), Room k (A.deeper (envOfC q (defScope st) s.heap.objs.size f cdv)) → sp vs H Q E →
      ∃ t, PSs (cxOf CX0 P w K mg base N q (defScope st) f cdv A outer s H E).nox (defBody st) t ∧ t { nx := fun _ H' => Q .non H', rt := Q } (start N vs) H) :
    FO P w K mg base CX0 (k + 1) f ps sp := by
  refine T.foD S hd hbd len ?_
  intro cdv A outer s H vs Q E hr h
  obtain ⟨t, a, b⟩ := hb cdv A outer s H vs Q E hr h
  exact ⟨t, a.nox, b⟩
end GB
namespace GB
open PySem PySem.Spec PyProof.Rows L2
inductive Slot
  | work | name | num | many | mark
  deriving DecidableEq
def slots (w : Str) : Option (List Slot) :=
  if w = "skip" then some [] else if w = "tell" then some [.num] else if w = "add" then some [.name, .num] else if w = "when" then some [.name, .num] else if w = "then" then some [.work, .work]
  else if w = "times" then some [.work, .many] else if w = "fail" then some [.name] else if w = "try" then some [.work, .work, .mark] else if w = "hold" then some [.name, .work]
  else if w = "behind" then some [.work, .work] else if w = "mask" then some [.work] else if w = "open" then some [.work] else if w = "room" then some [.work] else if w = "fork" then some [.name, .work]
  else if w = "kill" then some [.name] else if w = "wait" then some [.name] else if w = "get" then some [.name] else if w = "give" then some [.name] else none
def af7 : Str := "abcdefghijklmnopqrstuvwxyz"
def nameS (z : Str) : Bool := decide (1 ≤ z.length) && decide (z.length ≤ 8) && z.cps.toList.all fun c => decide (c ∈ af7.cps.toList)
def ahn : PyData → Bool
  | .str z => nameS z
  | _ => false
def aeG (lo hi : Int) : PyData → Bool
  | .int i => decide (lo ≤ i) && decide (i ≤ hi)
  | _ => false
def ana : PyData → Bool := aeG (1 - 10 ^ 40) (10 ^ 40 - 1)
def alz : PyData → Bool := aeG 0 1000
def markD : PyData → Bool
  | .none => true
  | d => ahn d
def alA : Slot → PyData → Bool
  | .work, _ => true
  | .name, d => ahn d
  | .num, d => ana d
  | .many, d => alz d
  | .mark, d => markD d
def Xe : List Slot → List PyData → Bool
  | [], [] => true
  | s :: ss, d :: ds => alA s d && Xe ss ds
  | _, _ => false
mutual
def shp : PyData → Bool
  | .tuple (.str w :: ds) => match slots w with
    | some ss => Xe ss ds && aeH ss ds
    | none => false
  | _ => false
def aeH : List Slot → List PyData → Bool
  | [], [] => true
  | s :: ss, d :: ds => (match s with | .work => shp d | _ => true) && aeH ss ds
  | _, _ => false
end
def waiting (w : Str) : Bool := decide (w ∈ (["when", "wait", "hold", "room"] : List Str))
def setting (w : Str) (i : Nat) (h o : Bool) : Bool × Bool :=
  if w = "mask" then (true, h) else if w = "open" then (o, o) else if w = "behind" then (if i = 0 then (h, o) else (true, true)) else if w = "fork" then (false, false) else (h, o)
mutual
def waits : PyData → Bool → Bool → Bool
  | .tuple (.str w :: ds), h, o => (h && waiting w) || Xf w 0 ds h o
  | _, _, _ => false
def Xf (w : Str) : Nat → List PyData → Bool → Bool → Bool
  | _, [], _, _ => false
  | i, d :: r, h, o => (isTup d && waits d (setting w i h o).1 (setting w i h o).2) || Xf w (i + 1) r h o
end
def refuse (d : PyData) : Option Str := if 60 < cnt d then some "parts" else if 12 < dep d then some "deep" else if waits d false false = true then some "waits" else none
mutual
def why : PyData → Option Str
  | .tuple (.str w :: ds) => match slots w with
    | some ss => if ss.length = ds.length then (match Xg ss ds with
      | some r => some r
      | none => if Xe ss ds = true then refuse (.tuple (.str w :: ds)) else some "kind") else some "kind"
    | none => some "kind"
  | _ => some "kind"
def Xg : List Slot → List PyData → Option Str
  | s :: ss, d :: ds => match s with
    | .work => (match why d with
      | some r => some r
      | none => Xg ss ds)
    | _ => Xg ss ds
  | _, _ => none
end
theorem ajo {K : PySem.W.Frag} {H : Hp} {a : Addr} {xs : List V} (h : SqT K H a xs) : TyX K H (.ref a) (.type "tuple") := by
  rcases h with (h | ⟨o, h⟩) | ⟨o, its, n, h, c, _⟩
  · exact .base (.tup h)
  · exact .fTuple h
  · exact .kTuple h c
def tyD : PyData → String
  | .none => "NoneType"
  | .bool _ => "bool"
  | .int _ => "int"
  | .str _ => "str"
  | .tuple _ => "tuple"
  | .list _ => "list"
  | .dict _ => "dict"
theorem Im.ty {K : PySem.W.Frag} {H : Hp} : ∀ {v : V} {d : PyData}, Im K H v d → TyX K H v (.type (tyD d))
  | _, _, .non => .base .non
  | _, _, .bl b => .base (.bl b)
  | _, _, .int i => .base (.int i)
  | _, _, .str z => .base (.str z)
  | _, _, .tup h _ => ajo h
section
variable {K : PySem.W.Frag} {σ : L2.St} {H : Hp} {Q : VK} {D : Ends} {ta tk : TA} {te to tx : TE} {a : Addr}
theorem anb {R : It → Hp → Prop} (h : te σ H fun x H1 => ∃ a, x = .ref a ∧ (∃ xs, SqT K H1 a xs) ∧ R (Itt K a) H1) : iTup K te σ H R := h
theorem alB {a : Addr} {xs : List V} {R : Addr → Prop} (s : SqT K H a xs) (h : R a) : ∃ b, V.ref a = .ref b ∧ (∃ xs, SqT K H b xs) ∧ R b := ⟨a, rfl, ⟨xs, s⟩, h⟩
theorem alC {r : List V → List V → Hp → VK → Prop} (h : ta σ H fun vs H1 => tk σ H1 fun zs H2 => r vs zs H2 Q) : tCKw r ta tk σ H Q := h
theorem anc {C : Addr} {sp : Sp} {dvs : List V} {E : XK} (h : ta σ H fun vs H1 => ∀ x dx, H1 x = none → H1 dx = none → dx ≠ x → sp (.ref x :: (vs ++ dvs)) (upd (upd H1 dx (.own x)) x (.ins C dx [])) (fun v H2 => v = .non ∧ Q (.ref x) H2) E) : tMake C sp dvs E ta σ H Q := h
theorem alD {C : Addr} {n m : Nat} {sp : Sp} {gV : List V → List V → List V} {E : XK} (h : ta σ H fun vs H1 => tk σ H1 fun zs H2 => vs.length = n ∧ zs.length = m ∧ ∀ x dx, H2 x = none → H2 dx = none → dx ≠ x → sp (gV (.ref x :: vs) zs) (upd (upd H2 dx (.own x)) x (.ins C dx [])) (fun v H3 => v = .non ∧ Q (.ref x) H3) E) : tMakeK C n m sp gV E ta tk σ H Q := h
theorem ah1 {S : Addr → Prop} {m : Str} {sp : Sp} {E : XK} (h : te σ H fun x H1 => ∃ a C dx fs, x = .ref a ∧ S C ∧ H1 a = some (.ins C dx fs) ∧ fs.lookup m = none ∧ ta σ H1 fun vs H2 => sp (x :: vs) H2 Q E) : tMethS S m sp E te ta σ H Q := h
theorem alE {C : Addr} {mk : List V → Option (List (Str × V))} {Q : XK} (h : ta σ H fun vs H1 => vs.length ≤ 1000 ∧ ∃ fs, mk vs = some fs ∧ ∀ d H2, H1 d = none → H2 = upd H1 d (.xd fs) → Q (.ref C) (some d) H2) : af3 C mk ta σ H Q := h
theorem alF {f : Str} (h : te σ H fun x H1 => ∃ a C dx fs v, x = .ref a ∧ H1 a = some (.ins C dx fs) ∧ Cls K C ∧ NoAttr K C f ∧ fs.lookup f = some v ∧ Q v H1) : tFld K te f σ H Q := h
theorem ajp {f : Str} (h : tx σ H fun y H1 => te σ H1 fun x H2 => ∃ a C dx fs, x = .ref a ∧ H2 a = some (.ins C dx fs) ∧ Cls K C ∧ NoAttr K C f ∧ fs.length < 1000 ∧ D.nx σ (upd H2 a (.ins C dx (putF f y fs)))) : sFld K te tx f D σ H := h
theorem ah2 {i : Nat} {S : Addr → Sp → Prop} {E : XK} (h : ∃ f sp, σ[i]? = some (some (.ref f)) ∧ S f sp ∧ ta σ H fun vs H1 => sp vs H1 Q E) : tCallS i S E ta σ H Q := h
theorem ajq {w : World} (h : te σ H fun x H1 => ∃ a es n, x = .ref a ∧ KDict K w a es n ∧ to σ H1 fun y H2 => tx σ H2 fun z H3 => ∃ (k : Str), y = .str k ∧
  ((∃ u v, PySem.W.nsIn K a k = some (some u) ∧ RelV v u ∧ Q v H3) ∨ (PySem.W.nsIn K a k = some none ∧ Q z H3))) : ahm K w te to tx σ H Q := h
theorem same_upd {H H' : Hp} {p : Addr} {o : HO} (s : Same H H') (h : H' p = none) : Same H (upd H' p o) := s.trans (same_new h)
end
def isB : V → Bool
  | .bl _ => true
  | _ => false
def NL (H1 H2 : Hp) : Prop := ∀ a o, H1 a = some o → (∀ xs, o ≠ .lst xs) → H2 a = some o
theorem NL.kp {H1 H2 : Hp} (n : NL H1 H2) : Kp H1 H2 := ⟨fun a xs h => n a _ h (fun _ e => by cases e), fun a o u h => n a _ h (fun _ e => by cases e)⟩
theorem NL.same {H1 H2 : Hp} (s : Same H1 H2) : NL H1 H2 := fun a o h _ => s a o h
theorem NL.trans {H1 H2 H3 : Hp} (a : NL H1 H2) (b : NL H2 H3) : NL H1 H3 := fun x o h n => b x o (a x o h n) n
theorem NL.refl {H1 : Hp} : NL H1 H1 := fun _ _ h _ => h
theorem NL.put {H : Hp} {p : Addr} {xs : List V} {o : HO} (h : H p = some (.lst xs)) : NL H (upd H p o) := fun a u e n => by
  have ne : a ≠ p := fun z => by
    rw [z, h] at e
    cases e
    exact n xs rfl
  rw [upd_ne ne]
  exact e
def af8 (K : PySem.W.Frag) (H : Hp) (y : V) (p : PyData × Bool × Bool) : Prop := ∃ t x, y = .ref t ∧ H t = some (.tup [x, .bl p.2.1, .bl p.2.2]) ∧ Im K H x p.1
theorem af8.nl {K : PySem.W.Frag} {H H' : Hp} {y : V} {p : PyData × Bool × Bool} (n : NL H H') (h : af8 K H y p) : af8 K H' y p := by
  obtain ⟨t, x, rfl, h1, h2⟩ := h
  exact ⟨t, x, rfl, n _ _ h1 (fun _ e => by cases e), h2.kp n.kp⟩
theorem alG {α : Type} {x : α} {xr : List α} : atI (x :: xr) 0 = some x := by
  unfold atI ixN
  rw [if_pos (by decide), if_pos (by rw [List.length_cons]; omega)]
  rfl
theorem Paired.at {α β : Type} {F : α → β → Prop} : ∀ {l : List α} {m : List β} {i : Nat} {a : α} {b : β}, Paired F l m → l[i]? = some a → m[i]? = some b → F a b
  | _, _, _, _, _, .nil, h, _ => by cases h
  | _, _, 0, _, _, .cons r _, h1, h2 => by
    cases h1
    cases h2
    exact r
  | _, _, i + 1, _, _, .cons _ t, h1, h2 => by
    rw [List.getElem?_cons_succ] at h1 h2
    exact Paired.at t h1 h2
end GB
namespace GB
open PySem PySem.Spec PyProof.Rows L2
structure ajr (newId : String) (bmB : List Value) (K : PySem.W.Frag) (C : Addr) : Prop where
  lay : ∃ nm q N bs bm sn sub ab col dd k0 k1 k2 k3 k5, K.lookup C = some (excClassObj nm q C N bs bm true sn sub ab col dd k0 k1 k2 k3 k5 newId) ∧ PySem.W.excTail bmB bm = true
  ov : PySem.W.excOver K C bmB = true
  st : PySem.W.findIn K (.ref C) "__setattr__" = some (some (.builtin "object.__setattr__"))
  be : PySem.W.subIn K (.ref C) (.type "BaseException") = some true
  ty : PySem.W.typeIn K (.ref C) = some (.type "type")
  kp : PySem.W.keepIn K (.ref C) = true
section
open Builtin Builtin.ObjectAttr
variable {prog : Program} {w : World} {A : Around} {R : Result → Shared → Prop} {hp : Heap} {g : Array GenState} {d : Drawn} {t : Nat} {os : OsState} {B newId initId : String} {bmB : List Value}
end
section
variable {X : Cx} {pins : List (Addr × Obj)} {σ : L2.St} {H : Hp} {s : Shared} {a C dx : Addr} {f : Str} {y : V} {u : Value} {E : Value → Shared → Prop} {A : Around} {B newId initId : String} {bmB : List Value}
end
section
variable {X : Cx} {o e : Expr} {es : List Expr} {to te : TE} {ta : TA} {f x : Str} {p p' p1 p2 pos : Pos} {B newId initId : String} {bmB : List Value}
end
def ajs (newId : String) (bmB : List Value) (K : PySem.W.Frag) (names : List Str) (mk : List V → Option (List (Str × V))) : Sp := fun vs H Q _ => ∃ (a C : Addr) (args : List V) (fs : List (Str × V)), vs = .ref a :: args ∧ mk args = some fs ∧ ajr newId bmB K C ∧
  (∀ n ∈ names, PySem.W.findIn K (.ref C) n = some none) ∧ H a = some (exo a C none) ∧ ∀ dx H', H dx = none → dx ≠ a → H' = upd (upd H dx (exd dx fs)) a (exo a C (some dx)) → Q .non H'
structure ExG (newId : String) (bmB : List Value) (P : Program) (w : World) (K : PySem.W.Frag) (mg : Str → Option Value) (base : Heap) (k : Nat) (x : Str) (ps names : List Str) (mk : List V → Option (List (Str × V))) : Prop where
  cl : ajr newId bmB K (He.ga K x)
  here : mg x = some (.ref (He.ga K x))
  ini : PySem.W.findIn K (.ref (He.ga K x)) "__init__" = some (some (.ref (He.ma K (He.ga K x) "__init__")))
  fn : PySem.W.typeIn K (.ref (He.ma K (He.ga K x) "__init__")) = some (.type "function")
  no : ∀ n ∈ names, PySem.W.findIn K (.ref (He.ga K x)) n = some none
  fo : FO P w K mg base CX0 k (He.ma K (He.ga K x) "__init__") ps (ajs newId bmB K names mk)
section
variable {X : Cx} {x : Str} {k : Nat} {ps names : List Str} {mk : List V → Option (List (Str × V))} {e : Expr} {es : List Expr} {ta : TA} {p pos pos2 : Pos} {B newId initId : String} {bmB : List Value}
end
end GB
namespace dJ
open PySem PySem.Spec PyProof.Rows L2
def top (i : Nat) : Stmt := PySem.Challenge.pw_givenback_k23_things_got_and_given.main.body.getD i (.Pass ⟨0, 0, 0, 0⟩)
abbrev nj : Stmt := top 7
abbrev nU : Stmt := top 8
abbrev lK : Stmt := top 9
abbrev jN : Stmt := top 12
abbrev nW : Stmt := top 13
abbrev oZ : Stmt := top 14
abbrev iY : Stmt := top 15
abbrev o7 : Stmt := top 16
abbrev gA : Stmt := top 18
abbrev nY : Stmt := top 25
abbrev lN : Stmt := top 26
abbrev lQ : Stmt := top 27
abbrev vN : Stmt := top 28
abbrev vO : Stmt := top 29
abbrev rJ : Stmt := top 30
abbrev o8 : Stmt := top 31
abbrev lU : Stmt := top 32
abbrev rK : Stmt := top 33
abbrev jO : Stmt := top 34
abbrev jP : Stmt := top 35
abbrev vP : Stmt := top 36
abbrev rO : Stmt := top 37
abbrev jo : Stmt := top 38
abbrev jH : Stmt := top 39
abbrev lV : Stmt := top 43
abbrev qT : Stmt := top 44
abbrev qU : Stmt := top 45
abbrev tM : Stmt := top 46
abbrev o9 : Stmt := top 47
abbrev pq : Stmt := top 48
abbrev tO : Stmt := top 49
abbrev pA : Stmt := top 50
abbrev tQ : Stmt := top 51
abbrev qW : Stmt := top 52
abbrev pB : Stmt := top 53
abbrev pN : Stmt := top 54
abbrev jQ : Stmt := inClass (top 1) 0
abbrev oK : Stmt := inClass (top 3) 0
abbrev lW : Stmt := inClass (top 24) 0
abbrev jR : Stmt := inClass (top 41) 0
abbrev lX : Stmt := inClass (top 41) 1
abbrev jT : Stmt := inClass (top 41) 2
abbrev fZ : Stmt := inClass (top 41) 3
abbrev mH : Stmt := inClass (top 41) 4
abbrev fK : Stmt := inClass (top 41) 5
abbrev fj : Stmt := inClass (top 41) 6
abbrev jU : Stmt := inClass (top 41) 7
abbrev jV : Stmt := inClass (top 41) 8
abbrev pC : Stmt := inClass (top 41) 9
abbrev jr : Stmt := inClass (top 41) 10
theorem Aa : FnScope ["thing", "sign"] ["thing"] (defScope nj) := ⟨rfl, rfl, rfl, by decide +kernel, rfl, by decide +kernel, by decide +kernel⟩
theorem aco : FnScope ["thing", "least", "most"] ["thing", "least", "most"] (defScope nU) := ⟨rfl, rfl, rfl, by decide +kernel, rfl, by decide +kernel, by decide +kernel⟩
theorem Xh : FnScope ["thing"] ["thing"] (defScope lK) := ⟨rfl, rfl, rfl, by decide +kernel, rfl, by decide +kernel, by decide +kernel⟩
theorem Vm : FnScope ["thing"] ["thing"] (defScope jN) := ⟨rfl, rfl, rfl, by decide +kernel, rfl, by decide +kernel, by decide +kernel⟩
theorem acp : FnScope ["thing"] ["thing"] (defScope nW) := ⟨rfl, rfl, rfl, by decide +kernel, rfl, by decide +kernel, by decide +kernel⟩
theorem adF : FnScope ["kind", "thing"] ["kind", "thing"] (defScope oZ) := ⟨rfl, rfl, rfl, by decide +kernel, rfl, by decide +kernel, by decide +kernel⟩
theorem oM : FnScope ["thing", "kinds", "kind", "part"] ["thing"] (defScope iY) := ⟨rfl, rfl, rfl, by decide +kernel, rfl, by decide +kernel, by decide +kernel⟩
theorem adG : FnScope ["row"] ["row"] (defScope o7) := ⟨rfl, rfl, rfl, by decide +kernel, rfl, by decide +kernel, by decide +kernel⟩
theorem jt : FnScope ["things", "cells", "name", "many", "worth"] ["things", "cells"] (defScope gA) := ⟨rfl, rfl, rfl, by decide +kernel, rfl, by decide +kernel, by decide +kernel⟩
theorem yL : FnScope ["rows", "word", "is_so"] ["rows"] (defScope nY) := ⟨rfl, rfl, rfl, by decide +kernel, rfl, by decide +kernel, by decide +kernel⟩
theorem Xi : FnScope ["watch", "task", "row"] ["watch", "task", "row"] (defScope lN) := ⟨rfl, rfl, rfl, by decide +kernel, rfl, by decide +kernel, by decide +kernel⟩
theorem wH : FnScope ["watch", "task", "row", "wrong", "home"] ["watch", "task", "row"] (defScope lQ) := ⟨rfl, rfl, rfl, by decide +kernel, rfl, by decide +kernel, by decide +kernel⟩
theorem Jp : FnScope ["watch", "task", "row", "held"] ["watch", "task", "row"] (defScope o8) := ⟨rfl, rfl, rfl, by decide +kernel, rfl, by decide +kernel, by decide +kernel⟩
theorem Xj : FnScope ["watch", "task", "row"] ["watch", "task", "row"] (defScope lU) := ⟨rfl, rfl, rfl, by decide +kernel, rfl, by decide +kernel, by decide +kernel⟩
theorem Vn : FnScope ["watch", "task", "row"] ["watch", "task", "row"] (defScope jO) := ⟨rfl, rfl, rfl, by decide +kernel, rfl, by decide +kernel, by decide +kernel⟩
theorem Vo : FnScope ["watch", "task", "row"] ["watch", "task", "row"] (defScope jP) := ⟨rfl, rfl, rfl, by decide +kernel, rfl, by decide +kernel, by decide +kernel⟩
theorem SM : FnScope ["watch", "task", "row"] ["watch", "task", "row"] (defScope jo) := ⟨rfl, rfl, rfl, by decide +kernel, rfl, by decide +kernel, by decide +kernel⟩
theorem gD : FnScope ["watch", "task", "row", "outlives", "keeps", "rows", "right", "one"] ["watch", "task", "row"] (defScope jH) := ⟨rfl, rfl, rfl, by decide +kernel, rfl, by decide +kernel, by decide +kernel⟩
theorem Xk : FnScope ["_law_script", "_law_k"] ["_law_script", "_law_k"] (defScope lV) := ⟨rfl, rfl, rfl, by decide +kernel, rfl, by decide +kernel, by decide +kernel⟩
theorem aeI : FnScope ["_law_cell"] ["_law_cell"] (defScope qT) := ⟨rfl, rfl, rfl, by decide +kernel, rfl, by decide +kernel, by decide +kernel⟩
theorem yg : FnScope ["_law_well_here", "_law_many", "_law_number", "_law_digit"] ["_law_well_here", "_law_many"] (defScope qU) := ⟨rfl, rfl, rfl, by decide +kernel, rfl, by decide +kernel, by decide +kernel⟩
theorem af9 : FnScope ["_law_well_here", "_law_some"] ["_law_well_here", "_law_some"] (defScope tM) := ⟨rfl, rfl, rfl, by decide +kernel, rfl, by decide +kernel, by decide +kernel⟩
theorem yh : FnScope ["_law_well_here", "_law_letters", "_law_k"] ["_law_well_here"] (defScope o9) := ⟨rfl, rfl, rfl, by decide +kernel, rfl, by decide +kernel, by decide +kernel⟩
theorem Cg : FnScope ["_law_tasks", "_law_sizes", "_law_thing", "_law_task"] ["_law_tasks", "_law_sizes", "_law_thing"] (defScope pq) := ⟨rfl, rfl, rfl, by decide +kernel, rfl, by decide +kernel, by decide +kernel⟩
theorem Hw : FnScope ["_law_tasks", "_law_sizes", "_law_bare", "_law_row_here", "_law_task", "_law_fails"] ["_law_tasks", "_law_sizes", "_law_bare", "_law_row_here"] (defScope tO) := ⟨rfl, rfl, rfl, by decide +kernel, rfl, by decide +kernel, by decide +kernel⟩
theorem uZ : FnScope ["_law_tasks", "_law_row_here", "_law_task", "_law_at", "_law_k"] ["_law_tasks", "_law_row_here"] (defScope pA) := ⟨rfl, rfl, rfl, by decide +kernel, rfl, by decide +kernel, by decide +kernel⟩
theorem Ab : FnScope ["_law_well_here", "_law_tasks", "_law_goods", "_law_marks", "_law_word_here", "_law_number", "_law_had"] ["_law_well_here", "_law_tasks", "_law_goods", "_law_marks"] (defScope tQ) := ⟨rfl, rfl, rfl, by decide +kernel, rfl, by decide +kernel, by decide +kernel⟩
theorem Uy : FnScope ["_law_watch", "_law_row_here", "e"] ["_law_watch", "_law_row_here"] (defScope qW) := ⟨rfl, rfl, rfl, by decide +kernel, rfl, by decide +kernel, by decide +kernel⟩
theorem gR : FnScope ["_law_watch", "_law_tasks", "_law_bare", "_law_ahead", "_law_number", "_law_task", "_law_outcome", "_law_why", "_law_one_here"] ["_law_watch", "_law_tasks", "_law_bare", "_law_ahead"] (defScope pB) := ⟨rfl, rfl, rfl, by decide +kernel, rfl, by decide +kernel, by decide +kernel⟩
theorem jA : FnScope ["_law_script", "_law_well_here", "_law_goods", "_law_marks", "_law_sizes", "_law_thing", "_law_bare", "_law_handed", "_law_watch", "_law_tasks", "_law_k", "_law_ahead", "_law_cell", "_law_row_here", "_law_why"] ["_law_script"] (defScope pN) := ⟨rfl, rfl, rfl, by decide +kernel, rfl, by decide +kernel, by decide +kernel⟩
theorem GJ : FnScope ["self", "why"] ["self", "why"] (defScope jQ) := ⟨rfl, rfl, rfl, by decide +kernel, rfl, by decide +kernel, by decide +kernel⟩
theorem SN : FnScope ["self", "at", "why"] ["self", "at", "why"] (defScope oK) := ⟨rfl, rfl, rfl, by decide +kernel, rfl, by decide +kernel, by decide +kernel⟩
theorem Xl : FnScope ["self", "beginner", "called"] ["self", "beginner", "called"] (defScope lW) := ⟨rfl, rfl, rfl, by decide +kernel, rfl, by decide +kernel, by decide +kernel⟩
theorem Vp : FnScope ["self", "things", "raw"] ["self", "things", "raw"] (defScope jR) := ⟨rfl, rfl, rfl, by decide +kernel, rfl, by decide +kernel, by decide +kernel⟩
theorem Ci : FnScope ["self", "row", "why"] ["self", "row"] (defScope lX) := ⟨rfl, rfl, rfl, by decide +kernel, rfl, by decide +kernel, by decide +kernel⟩
theorem Vq : FnScope ["self"] ["self"] (defScope jT) := ⟨rfl, rfl, rfl, by decide +kernel, rfl, by decide +kernel, by decide +kernel⟩
theorem fL : FnScope ["self", "row", "doer", "others", "task", "asking", "number"] ["self", "row"] (defScope fZ) := ⟨rfl, rfl, rfl, by decide +kernel, rfl, by decide +kernel, by decide +kernel⟩
theorem nZ : FnScope ["self", "thing", "many", "one"] ["self", "thing"] (defScope fK) := ⟨rfl, rfl, rfl, by decide +kernel, rfl, by decide +kernel, by decide +kernel⟩
theorem mJ : FnScope ["self", "number", "mark", "state", "handed", "one"] ["self", "number", "mark"] (defScope fj) := ⟨rfl, rfl, rfl, by decide +kernel, rfl, by decide +kernel, by decide +kernel⟩
theorem BJ : FnScope ["self", "row", "doer"] ["self", "row"] (defScope jU) := ⟨rfl, rfl, rfl, by decide +kernel, rfl, by decide +kernel, by decide +kernel⟩
theorem Vr : FnScope ["self", "had", "row"] ["self", "had", "row"] (defScope jV) := ⟨rfl, rfl, rfl, by decide +kernel, rfl, by decide +kernel, by decide +kernel⟩
theorem SQ : FnScope ["self", "task", "row"] ["self", "task", "row"] (defScope jr) := ⟨rfl, rfl, rfl, by decide +kernel, rfl, by decide +kernel, by decide +kernel⟩
structure Top (w : World) (K : PySem.W.Frag) (mg : Str → Option Value) : Prop where
  kY : GB.Tp K mg "is_name" nj [] []
  rP : GB.Tp K mg "is_whole" nU [] []
  lY : GB.Tp K mg "is_number" lK [] []
  wI : GB.Tp K mg "is_outcome" jN [] []
  Ac : GB.Tp K mg "is_count" nW [] []
  Cj : GB.Tp K mg "is_part" oZ [] []
  wJ : GB.Tp K mg "is_log_row" iY [] []
  u5 : GB.Tp K mg "doer_of" o7 [] []
  wL : GB.Tp K mg "check_told" gA [] []
  cX : GB.Tp K mg "first_so" nY [] []
  G6 : GB.Tp K mg "ask_doing" lN [] []
  G9 : GB.Tp K mg "ask_begun" lQ [] []
  alH : GB.Tp K mg "ask_kill" vN [] []
  alI : GB.Tp K mg "ask_late" vO [] []
  ajt : GB.Tp K mg "ask_nobody" rJ [] []
  Uz : GB.Tp K mg "ask_got" o8 [] []
  Hf : GB.Tp K mg "ask_given" lU [] []
  aju : GB.Tp K mg "ask_landed" rK [] []
  Ck : GB.Tp K mg "ask_masked" jO [] []
  Cm : GB.Tp K mg "ask_opened" jP [] []
  alJ : GB.Tp K mg "ask_last" vP [] []
  ajv : GB.Tp K mg "ask_lasted" rO [] []
  BK : GB.Tp K mg "ask_rescued" jo [] []
  Hg : GB.Tp K mg "ask_ended" jH [] []
  yM : GB.Tp K mg "_law_cell_at" lV [] []
  wM : GB.Tp K mg "_law_well" qT [] []
  dZ : GB.Tp K mg "_law_draw" qU [] []
  tU : GB.Tp K mg "_law_one" tM [] []
  jW : GB.Tp K mg "_law_word" o9 [] []
  Hz : GB.Tp K mg "_law_full" pq [] []
  S8 : GB.Tp K mg "_law_due" tO [] []
  HF : GB.Tp K mg "_law_done" pA [] []
  S9 : GB.Tp K mg "_law_row" tQ [] []
  qX : GB.Tp K mg "_law_seen" qW [] []
  HJ : GB.Tp K mg "_law_ends" pB [] []
  adH : GB.Tp K mg "law" pN [] []
  HS : GB.Dn K (He.ma K (He.ga K "WorkError") "__init__") "__init__" "WorkError.__init__" jQ [.str "refused"] []
  Vs : GB.Dn K (He.ma K (He.ga K "Broken") "__init__") "__init__" "Broken.__init__" oK [] []
  acq : GB.Dn K (He.ma K (He.ga K "Seen") "__init__") "__init__" "Seen.__init__" lW [] []
  Xm : GB.Dn K (He.ma K (He.ga K "Watch") "__init__") "__init__" "Watch.__init__" jR [] [("things", .non), ("raw", .bl false)]
  acr : GB.Dn K (He.ma K (He.ga K "Watch") "see") "see" "Watch.see" lX [] []
  Xn : GB.Dn K (He.ma K (He.ga K "Watch") "seen") "seen" "Watch.seen" jT [] []
  Tc : GB.Dn K (He.ma K (He.ga K "Watch") "reason") "reason" "Watch.reason" fZ [] []
  afW : GB.Dn K (He.ma K (He.ga K "Watch") "is_latest") "is_latest" "Watch.is_latest" mH [] []
  Jq : GB.Dn K (He.ma K (He.ga K "Watch") "is_full") "is_full" "Watch.is_full" fK [] []
  HW : GB.Dn K (He.ma K (He.ga K "Watch") "may_fail") "may_fail" "Watch.may_fail" fj [] []
  Xo : GB.Dn K (He.ma K (He.ga K "Watch") "take") "take" "Watch.take" jU [] []
  Xp : GB.Dn K (He.ma K (He.ga K "Watch") "hold") "hold" "Watch.hold" jV [] []
  Xq : GB.Dn K (He.ma K (He.ga K "Watch") "turn") "turn" "Watch.turn" pC [] []
  Vt : GB.Dn K (He.ma K (He.ga K "Watch") "go_on") "go_on" "Watch.go_on" jr [] []
  acs : mg "WorkError" = some (.ref (He.ga K "WorkError"))
  akY : GB.Cd K (He.ga K "WorkError") = true ∧ GB.zY K (He.ga K "WorkError") "__init__" = true ∧ GB.W8 K (He.ga K "WorkError") ["why"] = true ∧ GB.yd K (He.ga K "WorkError") = true
  wN : GB.Wc K (He.ga K "WorkError") "__init__" (He.ma K (He.ga K "WorkError") "__init__") = true
  aga : mg "BadRun" = some (.ref (He.ga K "BadRun"))
  HX : GB.Cd K (He.ga K "BadRun") = true ∧ GB.zY K (He.ga K "BadRun") "__init__" = true ∧ GB.W8 K (He.ga K "BadRun") ["why"] = true ∧ GB.yd K (He.ga K "BadRun") = true
  Vu : He.ma K (He.ga K "BadRun") "__init__" = He.ma K (He.ga K "WorkError") "__init__"
  Xr : mg "Broken" = some (.ref (He.ga K "Broken"))
  Ad : GB.Cd K (He.ga K "Broken") = true ∧ GB.zY K (He.ga K "Broken") "__init__" = true ∧ GB.W8 K (He.ga K "Broken") ["at", "why"] = true ∧ GB.yd K (He.ga K "Broken") = true
  aeJ : mg "Seen" = some (.ref (He.ga K "Seen"))
  u6 : Cls K (He.ga K "Seen")
  Jr : Mk K (He.ga K "Seen") (He.ma K (He.ga K "Seen") "__init__")
  Jt : NoAttr K (He.ga K "Seen") "beginner"
  Vv : NoAttr K (He.ga K "Seen") "called"
  Vw : NoAttr K (He.ga K "Seen") "ending"
  acu : NoAttr K (He.ga K "Seen") "owed"
  acv : NoAttr K (He.ga K "Seen") "shut"
  Xu : NoAttr K (He.ga K "Seen") "state"
  adI : NoAttr K (He.ga K "Seen") "had"
  Xv : NoAttr K (He.ga K "Seen") "lasts"
  anT : GB.z9 K (He.ga K "Seen") = true
  ah3 : mg "Watch" = some (.ref (He.ga K "Watch"))
  gQ : Cls K (He.ga K "Watch")
  acJ : Mk K (He.ga K "Watch") (He.ma K (He.ga K "Watch") "__init__")
  Vx : NoAttr K (He.ga K "Watch") "sizes"
  acw : NoAttr K (He.ga K "Watch") "raw"
  Vy : NoAttr K (He.ga K "Watch") "tasks"
  Td : NoAttr K (He.ga K "Watch") "latest"
  Vz : NoAttr K (He.ga K "Watch") "homes"
  Xw : NoAttr K (He.ga K "Watch") "must"
  Xx : NoAttr K (He.ga K "Watch") "many"
  dY : Meth K (He.ga K "Watch") "see" (He.ma K (He.ga K "Watch") "see")
  jX : Meth K (He.ga K "Watch") "seen" (He.ma K (He.ga K "Watch") "seen")
  dH : Meth K (He.ga K "Watch") "reason" (He.ma K (He.ga K "Watch") "reason")
  GX : Meth K (He.ga K "Watch") "is_latest" (He.ma K (He.ga K "Watch") "is_latest")
  gG : Meth K (He.ga K "Watch") "is_full" (He.ma K (He.ga K "Watch") "is_full")
  dN : Meth K (He.ga K "Watch") "may_fail" (He.ma K (He.ga K "Watch") "may_fail")
  fQ : Meth K (He.ga K "Watch") "take" (He.ma K (He.ga K "Watch") "take")
  fU : Meth K (He.ga K "Watch") "hold" (He.ma K (He.ga K "Watch") "hold")
  rQ : Meth K (He.ga K "Watch") "turn" (He.ma K (He.ga K "Watch") "turn")
  fY : Meth K (He.ga K "Watch") "go_on" (He.ma K (He.ga K "Watch") "go_on")
  anJ : GB.z9 K (He.ga K "Watch") = true
  aez : PySem.W.exmOne K (.ref (He.ga K "WorkError")) (.ref (He.ga K "Broken")) = some false
  agb : PySem.W.exmOne K (.ref (He.ga K "BadRun")) (.ref (He.ga K "Broken")) = some false
  HY : PySem.W.exmOne K (.ref (He.ga K "Broken")) (.ref (He.ga K "Broken")) = some true
  ve : GB.veB K = true
  Xy : mg "ValueError" = none
  Ju : mg "all" = none
  alK : mg "any" = none
  ajw : mg "bool" = none
  aeK : mg "dict" = none
  uI : mg "int" = none
  mU : mg "isinstance" = none
  qO : mg "len" = none
  Ed : mg "range" = none
  aho : mg "str" = none
  ahp : mg "sum" = none
  acK : mg "tuple" = none
  alL : mg "zip" = none
  aeL : ∃ t, mg "LETTERS" = some (.str "abcdefghijklmnopqrstuvwxyz" t)
  aeM : ∃ t, mg "LONGEST" = some (.int 8 t)
  ah4 : mg "FORMS" = some (.ref (He.ga K "FORMS"))
  ah5 : ∃ es n, KDict K w (He.ga K "FORMS") es n
  ah6 : PD.af4 K (He.ga K "FORMS") [("tell", .tup [.str "task", .str "number"]), ("add", .tup [.str "task", .str "name", .str "number"]), ("failed", .tup [.str "task", .str "name"]), ("rescued", .tup [.str "task", .str "name"]), ("got", .tup [.str "task", .str "name"]), ("given", .tup [.str "task", .str "name"]), ("masked", .tup [.str "task"]), ("opened", .tup [.str "task"]), ("last", .tup [.str "task"]), ("lasted", .tup [.str "task"]), ("begun", .tup [.str "task", .str "task", .str "name", .str "task"]), ("kill", .tup [.str "doer", .str "task"]), ("late", .tup [.str "doer", .str "task"]), ("nobody", .tup [.str "task", .str "name"]), ("landed", .tup [.str "task"]), ("ended", .tup [.str "task", .str "outcome"])] = true
  ah7 : PD.keyB K (He.ga K "FORMS") ["tell", "add", "failed", "rescued", "got", "given", "masked", "opened", "last", "lasted", "begun", "kill", "late", "nobody", "landed", "ended"] = true
  Tf : mg "ON" = some (.ref (He.ga K "ON"))
  ane : GB.tupB K (He.ga K "ON") [.str "on"] = true
  Ae : mg "KILLED" = some (.ref (He.ga K "KILLED"))
  agc : GB.tupB K (He.ga K "KILLED") [.str "killed"] = true
  Xz : ∃ t, mg "MOST_TASKS" = some (.int 12 t)
  XC : ∃ t, mg "PLAIN_SIZE" = some (.int 1 t)
  agd : mg "ASKING" = some (.ref (He.ga K "ASKING"))
  agf : ∃ es n, KDict K w (He.ga K "ASKING") es n
  agg : He.valsB K (He.ga K "ASKING") [("tell", .glo "ask_doing"), ("add", .glo "ask_doing"), ("failed", .glo "ask_doing"), ("rescued", .glo "ask_rescued"), ("got", .glo "ask_got"), ("given", .glo "ask_given"), ("masked", .glo "ask_masked"), ("opened", .glo "ask_opened"), ("last", .glo "ask_last"), ("lasted", .glo "ask_lasted"), ("begun", .glo "ask_begun"), ("kill", .glo "ask_kill"), ("late", .glo "ask_late"), ("nobody", .glo "ask_nobody"), ("landed", .glo "ask_landed"), ("ended", .glo "ask_ended")] = true
  agh : PD.keyB K (He.ga K "ASKING") ["tell", "add", "failed", "rescued", "got", "given", "masked", "opened", "last", "lasted", "begun", "kill", "late", "nobody", "landed", "ended"] = true
def fa0 : List He.Fa := []
def tabs : List He.Tab := [(fun K => He.ga K "FORMS", ["tell", "add", "failed", "rescued", "got", "given", "masked", "opened", "last", "lasted", "begun", "kill", "late", "nobody", "landed", "ended"]), (fun K => He.ga K "ASKING", ["tell", "add", "failed", "rescued", "got", "given", "masked", "opened", "last", "lasted", "begun", "kill", "late", "nobody", "landed", "ended"])]
def fa1 : List He.Fa := [.glo "is_name", .glo "is_whole", .glo "is_number", .glo "is_outcome", .glo "is_count", .glo "is_part", .glo "is_log_row", .glo "doer_of", .glo "check_told", .glo "first_so", .glo "ask_doing", .glo "ask_begun", .glo "ask_kill", .glo "ask_late", .glo "ask_nobody", .glo "ask_got", .glo "ask_given", .glo "ask_landed", .glo "ask_masked", .glo "ask_opened"]
def fn0 : List He.DefD := [⟨("is_name", none), "is_name", "is_name", defArgs nj, defBody nj, defScope nj, [], []⟩,
  ⟨("is_whole", none), "is_whole", "is_whole", defArgs nU, defBody nU, defScope nU, [], []⟩,
  ⟨("is_number", none), "is_number", "is_number", defArgs lK, defBody lK, defScope lK, [], []⟩,
  ⟨("is_outcome", none), "is_outcome", "is_outcome", defArgs jN, defBody jN, defScope jN, [], []⟩,
  ⟨("is_count", none), "is_count", "is_count", defArgs nW, defBody nW, defScope nW, [], []⟩,
  ⟨("is_part", none), "is_part", "is_part", defArgs oZ, defBody oZ, defScope oZ, [], []⟩,
  ⟨("is_log_row", none), "is_log_row", "is_log_row", defArgs iY, defBody iY, defScope iY, [], []⟩,
  ⟨("doer_of", none), "doer_of", "doer_of", defArgs o7, defBody o7, defScope o7, [], []⟩,
  ⟨("check_told", none), "check_told", "check_told", defArgs gA, defBody gA, defScope gA, [], []⟩,
  ⟨("first_so", none), "first_so", "first_so", defArgs nY, defBody nY, defScope nY, [], []⟩,
  ⟨("ask_doing", none), "ask_doing", "ask_doing", defArgs lN, defBody lN, defScope lN, [], []⟩,
  ⟨("ask_begun", none), "ask_begun", "ask_begun", defArgs lQ, defBody lQ, defScope lQ, [], []⟩,
  ⟨("ask_kill", none), "ask_kill", "ask_kill", defArgs vN, defBody vN, defScope vN, [], []⟩,
  ⟨("ask_late", none), "ask_late", "ask_late", defArgs vO, defBody vO, defScope vO, [], []⟩,
  ⟨("ask_nobody", none), "ask_nobody", "ask_nobody", defArgs rJ, defBody rJ, defScope rJ, [], []⟩,
  ⟨("ask_got", none), "ask_got", "ask_got", defArgs o8, defBody o8, defScope o8, [], []⟩,
  ⟨("ask_given", none), "ask_given", "ask_given", defArgs lU, defBody lU, defScope lU, [], []⟩,
  ⟨("ask_landed", none), "ask_landed", "ask_landed", defArgs rK, defBody rK, defScope rK, [], []⟩,
  ⟨("ask_masked", none), "ask_masked", "ask_masked", defArgs jO, defBody jO, defScope jO, [], []⟩,
  ⟨("ask_opened", none), "ask_opened", "ask_opened", defArgs jP, defBody jP, defScope jP, [], []⟩]
def ex0 : List (PySem.W.Frag → Bool) := [fun K => GB.Cd K (He.ga K "WorkError"),
  fun K => GB.zY K (He.ga K "WorkError") "__init__",
  fun K => GB.W8 K (He.ga K "WorkError") ["why"],
  fun K => GB.yd K (He.ga K "WorkError"),
  fun K => GB.Wc K (He.ga K "WorkError") "__init__" (He.ma K (He.ga K "WorkError") "__init__"),
  fun K => GB.Cd K (He.ga K "BadRun"),
  fun K => GB.zY K (He.ga K "BadRun") "__init__",
  fun K => GB.W8 K (He.ga K "BadRun") ["why"],
  fun K => GB.yd K (He.ga K "BadRun"),
  fun K => decide (He.ma K (He.ga K "BadRun") "__init__" = He.ma K (He.ga K "WorkError") "__init__"),
  fun K => GB.Cd K (He.ga K "Broken"),
  fun K => GB.zY K (He.ga K "Broken") "__init__",
  fun K => GB.W8 K (He.ga K "Broken") ["at", "why"],
  fun K => GB.yd K (He.ga K "Broken"),
  fun K => GB.z9 K (He.ga K "Seen"),
  fun K => GB.z9 K (He.ga K "Watch"),
  fun K => decide (PySem.W.exmOne K (.ref (He.ga K "WorkError")) (.ref (He.ga K "Broken")) = some false),
  fun K => decide (PySem.W.exmOne K (.ref (He.ga K "BadRun")) (.ref (He.ga K "Broken")) = some false),
  fun K => decide (PySem.W.exmOne K (.ref (He.ga K "Broken")) (.ref (He.ga K "Broken")) = some true),
  fun K => GB.veB K]
def fa2 : List He.Fa := [.glo "ask_last", .glo "ask_lasted", .glo "ask_rescued", .glo "ask_ended", .glo "_law_cell_at", .glo "_law_well", .glo "_law_draw", .glo "_law_one", .glo "_law_word", .glo "_law_full", .glo "_law_due", .glo "_law_done", .glo "_law_row", .glo "_law_seen", .glo "_law_ends", .glo "law", .glo "WorkError", .glo "BadRun", .glo "Broken", .glo "Seen"]
def fn1 : List He.DefD := [⟨("ask_last", none), "ask_last", "ask_last", defArgs vP, defBody vP, defScope vP, [], []⟩,
  ⟨("ask_lasted", none), "ask_lasted", "ask_lasted", defArgs rO, defBody rO, defScope rO, [], []⟩,
  ⟨("ask_rescued", none), "ask_rescued", "ask_rescued", defArgs jo, defBody jo, defScope jo, [], []⟩,
  ⟨("ask_ended", none), "ask_ended", "ask_ended", defArgs jH, defBody jH, defScope jH, [], []⟩,
  ⟨("_law_cell_at", none), "_law_cell_at", "_law_cell_at", defArgs lV, defBody lV, defScope lV, [], []⟩,
  ⟨("_law_well", none), "_law_well", "_law_well", defArgs qT, defBody qT, defScope qT, [], []⟩,
  ⟨("_law_draw", none), "_law_draw", "_law_draw", defArgs qU, defBody qU, defScope qU, [], []⟩,
  ⟨("_law_one", none), "_law_one", "_law_one", defArgs tM, defBody tM, defScope tM, [], []⟩,
  ⟨("_law_word", none), "_law_word", "_law_word", defArgs o9, defBody o9, defScope o9, [], []⟩,
  ⟨("_law_full", none), "_law_full", "_law_full", defArgs pq, defBody pq, defScope pq, [], []⟩,
  ⟨("_law_due", none), "_law_due", "_law_due", defArgs tO, defBody tO, defScope tO, [], []⟩,
  ⟨("_law_done", none), "_law_done", "_law_done", defArgs pA, defBody pA, defScope pA, [], []⟩,
  ⟨("_law_row", none), "_law_row", "_law_row", defArgs tQ, defBody tQ, defScope tQ, [], []⟩,
  ⟨("_law_seen", none), "_law_seen", "_law_seen", defArgs qW, defBody qW, defScope qW, [], []⟩,
  ⟨("_law_ends", none), "_law_ends", "_law_ends", defArgs pB, defBody pB, defScope pB, [], []⟩,
  ⟨("law", none), "law", "law", defArgs pN, defBody pN, defScope pN, [], []⟩,
  ⟨("WorkError", some "__init__"), "__init__", "WorkError.__init__", defArgs jQ, defBody jQ, defScope jQ, [.str "refused"], []⟩,
  ⟨("Broken", some "__init__"), "__init__", "Broken.__init__", defArgs oK, defBody oK, defScope oK, [], []⟩,
  ⟨("Seen", some "__init__"), "__init__", "Seen.__init__", defArgs lW, defBody lW, defScope lW, [], []⟩,
  ⟨("Watch", some "__init__"), "__init__", "Watch.__init__", defArgs jR, defBody jR, defScope jR, [], [("things", .non), ("raw", .bl false)]⟩]
def ex1 : List (PySem.W.Frag → Bool) := [fun K => PD.af4 K (He.ga K "FORMS") [("tell", .tup [.str "task", .str "number"]), ("add", .tup [.str "task", .str "name", .str "number"]), ("failed", .tup [.str "task", .str "name"]), ("rescued", .tup [.str "task", .str "name"]), ("got", .tup [.str "task", .str "name"]), ("given", .tup [.str "task", .str "name"]), ("masked", .tup [.str "task"]), ("opened", .tup [.str "task"]), ("last", .tup [.str "task"]), ("lasted", .tup [.str "task"]), ("begun", .tup [.str "task", .str "task", .str "name", .str "task"]), ("kill", .tup [.str "doer", .str "task"]), ("late", .tup [.str "doer", .str "task"]), ("nobody", .tup [.str "task", .str "name"]), ("landed", .tup [.str "task"]), ("ended", .tup [.str "task", .str "outcome"])],
  fun K => PD.keyB K (He.ga K "FORMS") ["tell", "add", "failed", "rescued", "got", "given", "masked", "opened", "last", "lasted", "begun", "kill", "late", "nobody", "landed", "ended"],
  fun K => GB.tupB K (He.ga K "ON") [.str "on"],
  fun K => GB.tupB K (He.ga K "KILLED") [.str "killed"],
  fun K => He.valsB K (He.ga K "ASKING") [("tell", .glo "ask_doing"), ("add", .glo "ask_doing"), ("failed", .glo "ask_doing"), ("rescued", .glo "ask_rescued"), ("got", .glo "ask_got"), ("given", .glo "ask_given"), ("masked", .glo "ask_masked"), ("opened", .glo "ask_opened"), ("last", .glo "ask_last"), ("lasted", .glo "ask_lasted"), ("begun", .glo "ask_begun"), ("kill", .glo "ask_kill"), ("late", .glo "ask_late"), ("nobody", .glo "ask_nobody"), ("landed", .glo "ask_landed"), ("ended", .glo "ask_ended")],
  fun K => PD.keyB K (He.ga K "ASKING") ["tell", "add", "failed", "rescued", "got", "given", "masked", "opened", "last", "lasted", "begun", "kill", "late", "nobody", "landed", "ended"]]
def fa3 : List He.Fa := [.cls "Seen", .mkr "Seen", .noat "Seen" "beginner", .noat "Seen" "called", .noat "Seen" "ending", .noat "Seen" "owed", .noat "Seen" "shut", .noat "Seen" "state", .noat "Seen" "had", .noat "Seen" "lasts", .glo "Watch", .cls "Watch", .mkr "Watch", .noat "Watch" "sizes", .noat "Watch" "raw", .noat "Watch" "tasks", .noat "Watch" "latest", .noat "Watch" "homes", .noat "Watch" "must", .noat "Watch" "many"]
def fn2 : List He.DefD := [⟨("Watch", some "see"), "see", "Watch.see", defArgs lX, defBody lX, defScope lX, [], []⟩,
  ⟨("Watch", some "seen"), "seen", "Watch.seen", defArgs jT, defBody jT, defScope jT, [], []⟩,
  ⟨("Watch", some "reason"), "reason", "Watch.reason", defArgs fZ, defBody fZ, defScope fZ, [], []⟩,
  ⟨("Watch", some "is_latest"), "is_latest", "Watch.is_latest", defArgs mH, defBody mH, defScope mH, [], []⟩,
  ⟨("Watch", some "is_full"), "is_full", "Watch.is_full", defArgs fK, defBody fK, defScope fK, [], []⟩,
  ⟨("Watch", some "may_fail"), "may_fail", "Watch.may_fail", defArgs fj, defBody fj, defScope fj, [], []⟩,
  ⟨("Watch", some "take"), "take", "Watch.take", defArgs jU, defBody jU, defScope jU, [], []⟩,
  ⟨("Watch", some "hold"), "hold", "Watch.hold", defArgs jV, defBody jV, defScope jV, [], []⟩,
  ⟨("Watch", some "turn"), "turn", "Watch.turn", defArgs pC, defBody pC, defScope pC, [], []⟩,
  ⟨("Watch", some "go_on"), "go_on", "Watch.go_on", defArgs jr, defBody jr, defScope jr, [], []⟩]
def ex2 : List (PySem.W.Frag → Bool) := []
def fa4 : List He.Fa := [.meth "Watch" "see", .meth "Watch" "seen", .meth "Watch" "reason", .meth "Watch" "is_latest", .meth "Watch" "is_full", .meth "Watch" "may_fail", .meth "Watch" "take", .meth "Watch" "hold", .meth "Watch" "turn", .meth "Watch" "go_on", .free "ValueError", .free "all", .free "any", .free "bool", .free "dict", .free "int", .free "isinstance", .free "len", .free "range", .free "str"]
def fn3 : List He.DefD := []
def ex3 : List (PySem.W.Frag → Bool) := []
def fa5 : List He.Fa := [.free "sum", .free "tuple", .free "zip", .str "LETTERS" "abcdefghijklmnopqrstuvwxyz", .int "LONGEST" 8, .glo "FORMS", .glo "ON", .glo "KILLED", .int "MOST_TASKS" 12, .int "PLAIN_SIZE" 1, .glo "ASKING"]
def fn4 : List He.DefD := []
def ex4 : List (PySem.W.Frag → Bool) := []
def pt0 : List GB.Part := [(fa1, fn0, ex0), (fa2, fn1, ex1), (fa3, fn2, ex2), (fa4, fn3, ex3), (fa5, fn4, ex4)]
def parts : List GB.Part := pt0
theorem ajK {w : World} {K : PySem.W.Frag} {h : Heap} {mg : Str → Option Value} (X : K.In h) (G : h.Ns mainGlobals mg) (c : GB.ahh fa0 tabs parts w K) : Top w K mg := by
  have c0 : GB.SaysE fa1 fn0 [] ex0 w K := c.p 0 (fa1, fn0, ex0) rfl
  have c1 : GB.SaysE fa2 fn1 [] ex1 w K := c.p 1 (fa2, fn1, ex1) rfl
  have c2 : GB.SaysE fa3 fn2 [] ex2 w K := c.p 2 (fa3, fn2, ex2) rfl
  have c3 : GB.SaysE fa4 fn3 [] ex3 w K := c.p 3 (fa4, fn3, ex3) rfl
  have c4 : GB.SaysE fa5 fn4 [] ex4 w K := c.p 4 (fa5, fn4, ex4) rfl
  exact ⟨⟨c0.t.d.def_ 0 rfl, He.glo_ok X G (c0.t.d.fact 0 (f := .glo "is_name") rfl)⟩,
  ⟨c0.t.d.def_ 1 rfl, He.glo_ok X G (c0.t.d.fact 1 (f := .glo "is_whole") rfl)⟩,
  ⟨c0.t.d.def_ 2 rfl, He.glo_ok X G (c0.t.d.fact 2 (f := .glo "is_number") rfl)⟩,
  ⟨c0.t.d.def_ 3 rfl, He.glo_ok X G (c0.t.d.fact 3 (f := .glo "is_outcome") rfl)⟩,
  ⟨c0.t.d.def_ 4 rfl, He.glo_ok X G (c0.t.d.fact 4 (f := .glo "is_count") rfl)⟩,
  ⟨c0.t.d.def_ 5 rfl, He.glo_ok X G (c0.t.d.fact 5 (f := .glo "is_part") rfl)⟩,
  ⟨c0.t.d.def_ 6 rfl, He.glo_ok X G (c0.t.d.fact 6 (f := .glo "is_log_row") rfl)⟩,
  ⟨c0.t.d.def_ 7 rfl, He.glo_ok X G (c0.t.d.fact 7 (f := .glo "doer_of") rfl)⟩,
  ⟨c0.t.d.def_ 8 rfl, He.glo_ok X G (c0.t.d.fact 8 (f := .glo "check_told") rfl)⟩,
  ⟨c0.t.d.def_ 9 rfl, He.glo_ok X G (c0.t.d.fact 9 (f := .glo "first_so") rfl)⟩,
  ⟨c0.t.d.def_ 10 rfl, He.glo_ok X G (c0.t.d.fact 10 (f := .glo "ask_doing") rfl)⟩,
  ⟨c0.t.d.def_ 11 rfl, He.glo_ok X G (c0.t.d.fact 11 (f := .glo "ask_begun") rfl)⟩,
  ⟨c0.t.d.def_ 12 rfl, He.glo_ok X G (c0.t.d.fact 12 (f := .glo "ask_kill") rfl)⟩,
  ⟨c0.t.d.def_ 13 rfl, He.glo_ok X G (c0.t.d.fact 13 (f := .glo "ask_late") rfl)⟩,
  ⟨c0.t.d.def_ 14 rfl, He.glo_ok X G (c0.t.d.fact 14 (f := .glo "ask_nobody") rfl)⟩,
  ⟨c0.t.d.def_ 15 rfl, He.glo_ok X G (c0.t.d.fact 15 (f := .glo "ask_got") rfl)⟩,
  ⟨c0.t.d.def_ 16 rfl, He.glo_ok X G (c0.t.d.fact 16 (f := .glo "ask_given") rfl)⟩,
  ⟨c0.t.d.def_ 17 rfl, He.glo_ok X G (c0.t.d.fact 17 (f := .glo "ask_landed") rfl)⟩,
  ⟨c0.t.d.def_ 18 rfl, He.glo_ok X G (c0.t.d.fact 18 (f := .glo "ask_masked") rfl)⟩,
  ⟨c0.t.d.def_ 19 rfl, He.glo_ok X G (c0.t.d.fact 19 (f := .glo "ask_opened") rfl)⟩,
  ⟨c1.t.d.def_ 0 rfl, He.glo_ok X G (c1.t.d.fact 0 (f := .glo "ask_last") rfl)⟩,
  ⟨c1.t.d.def_ 1 rfl, He.glo_ok X G (c1.t.d.fact 1 (f := .glo "ask_lasted") rfl)⟩,
  ⟨c1.t.d.def_ 2 rfl, He.glo_ok X G (c1.t.d.fact 2 (f := .glo "ask_rescued") rfl)⟩,
  ⟨c1.t.d.def_ 3 rfl, He.glo_ok X G (c1.t.d.fact 3 (f := .glo "ask_ended") rfl)⟩,
  ⟨c1.t.d.def_ 4 rfl, He.glo_ok X G (c1.t.d.fact 4 (f := .glo "_law_cell_at") rfl)⟩,
  ⟨c1.t.d.def_ 5 rfl, He.glo_ok X G (c1.t.d.fact 5 (f := .glo "_law_well") rfl)⟩,
  ⟨c1.t.d.def_ 6 rfl, He.glo_ok X G (c1.t.d.fact 6 (f := .glo "_law_draw") rfl)⟩,
  ⟨c1.t.d.def_ 7 rfl, He.glo_ok X G (c1.t.d.fact 7 (f := .glo "_law_one") rfl)⟩,
  ⟨c1.t.d.def_ 8 rfl, He.glo_ok X G (c1.t.d.fact 8 (f := .glo "_law_word") rfl)⟩,
  ⟨c1.t.d.def_ 9 rfl, He.glo_ok X G (c1.t.d.fact 9 (f := .glo "_law_full") rfl)⟩,
  ⟨c1.t.d.def_ 10 rfl, He.glo_ok X G (c1.t.d.fact 10 (f := .glo "_law_due") rfl)⟩,
  ⟨c1.t.d.def_ 11 rfl, He.glo_ok X G (c1.t.d.fact 11 (f := .glo "_law_done") rfl)⟩,
  ⟨c1.t.d.def_ 12 rfl, He.glo_ok X G (c1.t.d.fact 12 (f := .glo "_law_row") rfl)⟩,
  ⟨c1.t.d.def_ 13 rfl, He.glo_ok X G (c1.t.d.fact 13 (f := .glo "_law_seen") rfl)⟩,
  ⟨c1.t.d.def_ 14 rfl, He.glo_ok X G (c1.t.d.fact 14 (f := .glo "_law_ends") rfl)⟩,
  ⟨c1.t.d.def_ 15 rfl, He.glo_ok X G (c1.t.d.fact 15 (f := .glo "law") rfl)⟩,
  c1.t.d.def_ 16 rfl,
  c1.t.d.def_ 17 rfl,
  c1.t.d.def_ 18 rfl,
  c1.t.d.def_ 19 rfl,
  c2.t.d.def_ 0 rfl,
  c2.t.d.def_ 1 rfl,
  c2.t.d.def_ 2 rfl,
  c2.t.d.def_ 3 rfl,
  c2.t.d.def_ 4 rfl,
  c2.t.d.def_ 5 rfl,
  c2.t.d.def_ 6 rfl,
  c2.t.d.def_ 7 rfl,
  c2.t.d.def_ 8 rfl,
  c2.t.d.def_ 9 rfl,
  He.glo_ok X G (c1.t.d.fact 16 (f := .glo "WorkError") rfl),
  ⟨c0.x 0, c0.x 1, c0.x 2, c0.x 3⟩,
  c0.x 4,
  He.glo_ok X G (c1.t.d.fact 17 (f := .glo "BadRun") rfl),
  ⟨c0.x 5, c0.x 6, c0.x 7, c0.x 8⟩,
  of_decide_eq_true (c0.x 9),
  He.glo_ok X G (c1.t.d.fact 18 (f := .glo "Broken") rfl),
  ⟨c0.x 10, c0.x 11, c0.x 12, c0.x 13⟩,
  He.glo_ok X G (c1.t.d.fact 19 (f := .glo "Seen") rfl),
  He.cls_ok (c2.t.d.fact 0 (f := .cls "Seen") rfl),
  He.mkr_ok (c2.t.d.fact 1 (f := .mkr "Seen") rfl),
  He.noat_ok (c2.t.d.fact 2 (f := .noat "Seen" "beginner") rfl),
  He.noat_ok (c2.t.d.fact 3 (f := .noat "Seen" "called") rfl),
  He.noat_ok (c2.t.d.fact 4 (f := .noat "Seen" "ending") rfl),
  He.noat_ok (c2.t.d.fact 5 (f := .noat "Seen" "owed") rfl),
  He.noat_ok (c2.t.d.fact 6 (f := .noat "Seen" "shut") rfl),
  He.noat_ok (c2.t.d.fact 7 (f := .noat "Seen" "state") rfl),
  He.noat_ok (c2.t.d.fact 8 (f := .noat "Seen" "had") rfl),
  He.noat_ok (c2.t.d.fact 9 (f := .noat "Seen" "lasts") rfl),
  c0.x 14,
  He.glo_ok X G (c2.t.d.fact 10 (f := .glo "Watch") rfl),
  He.cls_ok (c2.t.d.fact 11 (f := .cls "Watch") rfl),
  He.mkr_ok (c2.t.d.fact 12 (f := .mkr "Watch") rfl),
  He.noat_ok (c2.t.d.fact 13 (f := .noat "Watch" "sizes") rfl),
  He.noat_ok (c2.t.d.fact 14 (f := .noat "Watch" "raw") rfl),
  He.noat_ok (c2.t.d.fact 15 (f := .noat "Watch" "tasks") rfl),
  He.noat_ok (c2.t.d.fact 16 (f := .noat "Watch" "latest") rfl),
  He.noat_ok (c2.t.d.fact 17 (f := .noat "Watch" "homes") rfl),
  He.noat_ok (c2.t.d.fact 18 (f := .noat "Watch" "must") rfl),
  He.noat_ok (c2.t.d.fact 19 (f := .noat "Watch" "many") rfl),
  He.meth_ok (c3.t.d.fact 0 (f := .meth "Watch" "see") rfl),
  He.meth_ok (c3.t.d.fact 1 (f := .meth "Watch" "seen") rfl),
  He.meth_ok (c3.t.d.fact 2 (f := .meth "Watch" "reason") rfl),
  He.meth_ok (c3.t.d.fact 3 (f := .meth "Watch" "is_latest") rfl),
  He.meth_ok (c3.t.d.fact 4 (f := .meth "Watch" "is_full") rfl),
  He.meth_ok (c3.t.d.fact 5 (f := .meth "Watch" "may_fail") rfl),
  He.meth_ok (c3.t.d.fact 6 (f := .meth "Watch" "take") rfl),
  He.meth_ok (c3.t.d.fact 7 (f := .meth "Watch" "hold") rfl),
  He.meth_ok (c3.t.d.fact 8 (f := .meth "Watch" "turn") rfl),
  He.meth_ok (c3.t.d.fact 9 (f := .meth "Watch" "go_on") rfl),
  c0.x 15,
  of_decide_eq_true (c0.x 16),
  of_decide_eq_true (c0.x 17),
  of_decide_eq_true (c0.x 18),
  c0.x 19,
  He.free_ok X G (c3.t.d.fact 10 (f := .free "ValueError") rfl),
  He.free_ok X G (c3.t.d.fact 11 (f := .free "all") rfl),
  He.free_ok X G (c3.t.d.fact 12 (f := .free "any") rfl),
  He.free_ok X G (c3.t.d.fact 13 (f := .free "bool") rfl),
  He.free_ok X G (c3.t.d.fact 14 (f := .free "dict") rfl),
  He.free_ok X G (c3.t.d.fact 15 (f := .free "int") rfl),
  He.free_ok X G (c3.t.d.fact 16 (f := .free "isinstance") rfl),
  He.free_ok X G (c3.t.d.fact 17 (f := .free "len") rfl),
  He.free_ok X G (c3.t.d.fact 18 (f := .free "range") rfl),
  He.free_ok X G (c3.t.d.fact 19 (f := .free "str") rfl),
  He.free_ok X G (c4.t.d.fact 0 (f := .free "sum") rfl),
  He.free_ok X G (c4.t.d.fact 1 (f := .free "tuple") rfl),
  He.free_ok X G (c4.t.d.fact 2 (f := .free "zip") rfl),
  He.str_ok X G (c4.t.d.fact 3 (f := .str "LETTERS" "abcdefghijklmnopqrstuvwxyz") rfl),
  He.int_ok X G (c4.t.d.fact 4 (f := .int "LONGEST" 8) rfl),
  He.glo_ok X G (c4.t.d.fact 5 (f := .glo "FORMS") rfl),
  c.b.t.tab 0,
  c1.x 0,
  c1.x 1,
  He.glo_ok X G (c4.t.d.fact 6 (f := .glo "ON") rfl),
  c1.x 2,
  He.glo_ok X G (c4.t.d.fact 7 (f := .glo "KILLED") rfl),
  c1.x 3,
  He.int_ok X G (c4.t.d.fact 8 (f := .int "MOST_TASKS" 12) rfl),
  He.int_ok X G (c4.t.d.fact 9 (f := .int "PLAIN_SIZE" 1) rfl),
  He.glo_ok X G (c4.t.d.fact 10 (f := .glo "ASKING") rfl),
  c.b.t.tab 1,
  c1.x 4,
  c1.x 5⟩
end dJ
noncomputable section
namespace Ib
open PySem PySem.W PySem.Calls PyProof.Rows dJ
abbrev S (x : String) : PySem.Str := PySem.Str.ofString x
def E (P : Params) (x : String) (t : Tok) (v : Value) : DictEntry := ⟨PyData.keyHash P (S x), .str (S x) t, v⟩
def env0 : Env := { scope := PySem.Challenge.pw_givenback_k23_things_got_and_given.main.scope, locals := mainNs, globals := mainNs, cells := [], code := (.ref 13), frame := some 14 }
def oh : List Stmt := behindTheImports PySem.Challenge.pw_givenback_k23_things_got_and_given
def c0 : Code := .body oh env0
def Af (P : Params) : Obj := ⟨(.type "dict"), none, (.dict [E P "__name__" 1 (.str (S "builtins") 160), E P "__doc__" 2 (.builtin "builtins.__doc__:str#opaque"), E P "__package__" 3 (.builtin "builtins.__package__:str#opaque"), E P "__loader__" 4 (.builtin "builtins.__loader__:shared#opaque"), E P "__spec__" 5 (.builtin "builtins.__spec__#opaque"), E P "__build_class__" 6 (.builtin "__build_class__"), E P "__import__" 7 (.builtin "__import__"), E P "abs" 8 (.builtin "abs"), E P "all" 9 (.builtin "all"), E P "any" 10 (.builtin "any"), E P "ascii" 11 (.builtin "ascii"), E P "bin" 12 (.builtin "bin"), E P "breakpoint" 13 (.builtin "breakpoint"), E P "callable" 14 (.builtin "callable"), E P "chr" 15 (.builtin "chr"), E P "compile" 16 (.builtin "compile"), E P "delattr" 17 (.builtin "delattr"), E P "dir" 18 (.builtin "dir"), E P "divmod" 19 (.builtin "divmod"), E P "eval" 20 (.builtin "eval"), E P "exec" 21 (.builtin "exec"), E P "format" 22 (.builtin "format"), E P "getattr" 23 (.builtin "getattr"), E P "globals" 24 (.builtin "globals"), E P "hasattr" 25 (.builtin "hasattr"), E P "hash" 26 (.builtin "hash"), E P "hex" 27 (.builtin "hex"), E P "id" 28 (.builtin "id"), E P "input" 29 (.builtin "input"), E P "isinstance" 30 (.builtin "isinstance"), E P "issubclass" 31 (.builtin "issubclass"), E P "iter" 32 (.builtin "iter"), E P "aiter" 33 (.builtin "aiter"), E P "len" 34 (.builtin "len"), E P "locals" 35 (.builtin "locals"), E P "max" 36 (.builtin "max"), E P "min" 37 (.builtin "min"), E P "next" 38 (.builtin "next"), E P "anext" 39 (.builtin "anext"), E P "oct" 40 (.builtin "oct"), E P "ord" 41 (.builtin "ord"), E P "pow" 42 (.builtin "pow"), E P "print" 43 (.builtin "print"), E P "repr" 44 (.builtin "repr"), E P "round" 45 (.builtin "round"), E P "setattr" 46 (.builtin "setattr"), E P "sorted" 47 (.builtin "sorted"), E P "sum" 48 (.builtin "sum"), E P "vars" 49 (.builtin "vars"), E P "None" 50 .none, E P "Ellipsis" 51 .ellipsis, E P "NotImplemented" 52 .notImplemented, E P "False" 53 (.bool false), E P "True" 54 (.bool true), E P "bool" 55 (.type "bool"), E P "memoryview" 56 (.type "memoryview"), E P "bytearray" 57 (.type "bytearray"), E P "bytes" 58 (.type "bytes"), E P "classmethod" 59 (.type "classmethod"), E P "complex" 60 (.type "complex"), E P "dict" 61 (.type "dict"), E P "enumerate" 62 (.type "enumerate"), E P "filter" 63 (.type "filter"), E P "float" 64 (.type "float"), E P "frozenset" 65 (.type "frozenset"), E P "property" 66 (.type "property"), E P "int" 67 (.type "int"), E P "list" 68 (.type "list"), E P "map" 69 (.type "map"), E P "object" 70 (.type "object"), E P "range" 71 (.type "range"), E P "reversed" 72 (.type "reversed"), E P "set" 73 (.type "set"), E P "slice" 74 (.type "slice"), E P "staticmethod" 75 (.type "staticmethod"), E P "str" 76 (.type "str"), E P "super" 77 (.type "super"), E P "tuple" 78 (.type "tuple"), E P "type" 79 (.type "type"), E P "zip" 80 (.type "zip"), E P "__debug__" 81 (.bool true), E P "BaseException" 82 (.type "BaseException"), E P "BaseExceptionGroup" 83 (.type "BaseExceptionGroup"), E P "Exception" 84 (.type "Exception"), E P "GeneratorExit" 85 (.type "GeneratorExit"), E P "KeyboardInterrupt" 86 (.type "KeyboardInterrupt"), E P "SystemExit" 87 (.type "SystemExit"), E P "ArithmeticError" 88 (.type "ArithmeticError"), E P "AssertionError" 89 (.type "AssertionError"), E P "AttributeError" 90 (.type "AttributeError"), E P "BufferError" 91 (.type "BufferError"), E P "EOFError" 92 (.type "EOFError"), E P "ImportError" 93 (.type "ImportError"), E P "LookupError" 94 (.type "LookupError"), E P "MemoryError" 95 (.type "MemoryError"), E P "NameError" 96 (.type "NameError"), E P "OSError" 97 (.type "OSError"), E P "ReferenceError" 98 (.type "ReferenceError"), E P "RuntimeError" 99 (.type "RuntimeError"), E P "StopAsyncIteration" 100 (.type "StopAsyncIteration"), E P "StopIteration" 101 (.type "StopIteration"), E P "SyntaxError" 102 (.type "SyntaxError"), E P "SystemError" 103 (.type "SystemError"), E P "TypeError" 104 (.type "TypeError"), E P "ValueError" 105 (.type "ValueError"), E P "Warning" 106 (.type "Warning"), E P "FloatingPointError" 107 (.type "FloatingPointError"), E P "OverflowError" 108 (.type "OverflowError"), E P "ZeroDivisionError" 109 (.type "ZeroDivisionError"), E P "BytesWarning" 110 (.type "BytesWarning"), E P "DeprecationWarning" 111 (.type "DeprecationWarning"), E P "EncodingWarning" 112 (.type "EncodingWarning"), E P "FutureWarning" 113 (.type "FutureWarning"), E P "ImportWarning" 114 (.type "ImportWarning"), E P "PendingDeprecationWarning" 115 (.type "PendingDeprecationWarning"), E P "ResourceWarning" 116 (.type "ResourceWarning"), E P "RuntimeWarning" 117 (.type "RuntimeWarning"), E P "SyntaxWarning" 118 (.type "SyntaxWarning"), E P "UnicodeWarning" 119 (.type "UnicodeWarning"), E P "UserWarning" 120 (.type "UserWarning"), E P "BlockingIOError" 121 (.type "BlockingIOError"), E P "ChildProcessError" 122 (.type "ChildProcessError"), E P "ConnectionError" 123 (.type "ConnectionError"), E P "FileExistsError" 124 (.type "FileExistsError"), E P "FileNotFoundError" 125 (.type "FileNotFoundError"), E P "InterruptedError" 126 (.type "InterruptedError"), E P "IsADirectoryError" 127 (.type "IsADirectoryError"), E P "NotADirectoryError" 128 (.type "NotADirectoryError"), E P "PermissionError" 129 (.type "PermissionError"), E P "ProcessLookupError" 130 (.type "ProcessLookupError"), E P "TimeoutError" 131 (.type "TimeoutError"), E P "IndentationError" 132 (.type "IndentationError"), E P "_IncompleteInputError" 133 (.type "_IncompleteInputError"), E P "IndexError" 134 (.type "IndexError"), E P "KeyError" 135 (.type "KeyError"), E P "ModuleNotFoundError" 136 (.type "ModuleNotFoundError"), E P "NotImplementedError" 137 (.type "NotImplementedError"), E P "PythonFinalizationError" 138 (.type "PythonFinalizationError"), E P "RecursionError" 139 (.type "RecursionError"), E P "UnboundLocalError" 140 (.type "UnboundLocalError"), E P "UnicodeError" 141 (.type "UnicodeError"), E P "BrokenPipeError" 142 (.type "BrokenPipeError"), E P "ConnectionAbortedError" 143 (.type "ConnectionAbortedError"), E P "ConnectionRefusedError" 144 (.type "ConnectionRefusedError"), E P "ConnectionResetError" 145 (.type "ConnectionResetError"), E P "TabError" 146 (.type "TabError"), E P "UnicodeDecodeError" 147 (.type "UnicodeDecodeError"), E P "UnicodeEncodeError" 148 (.type "UnicodeEncodeError"), E P "UnicodeTranslateError" 149 (.type "UnicodeTranslateError"), E P "ExceptionGroup" 150 (.type "ExceptionGroup"), E P "EnvironmentError" 151 (.type "OSError"), E P "IOError" 152 (.type "OSError"), E P "open" 153 (.builtin "open"), E P "quit" 154 (.builtin "builtins.quit#opaque"), E P "exit" 155 (.builtin "builtins.exit#opaque"), E P "copyright" 156 (.builtin "builtins.copyright#opaque"), E P "credits" 157 (.builtin "builtins.credits#opaque"), E P "license" 158 (.builtin "builtins.license#opaque"), E P "help" 159 (.builtin "builtins.help#opaque")].toArray 159), [].toArray⟩
def Cp (P : Params) : Obj := ⟨(.type "dict"), none, (.dict [E P "builtins" 162 (.ref 4), E P "__main__" 163 (.ref 5)].toArray 2), [].toArray⟩
def Cq (P : Params) : Obj := ⟨.none, none, (.dict [].toArray 0), [].toArray⟩
def ajL (P : Params) : Obj := ⟨(.type "dict"), none, (.dict [E P "__name__" 165 (.str (S "__main__") 164), E P "__doc__" 166 .none, E P "__package__" 167 .none, E P "__loader__" 168 (.builtin "__main__.__loader__#opaque"), E P "__spec__" 169 .none, E P "__annotations__" 170 (.ref 6), E P "__builtins__" 171 (.ref 4), E P "__file__" 173 (.str (S "/claim/cut.py") 172), E P "__cached__" 174 .none].toArray 9), [].toArray⟩
def Cr (P : Params) : Obj := ⟨(.type "module"), (some 0), .plain, [].toArray⟩
def Ie (P : Params) : Obj := ⟨(.type "module"), (some 3), .plain, [].toArray⟩
def Cu (P : Params) : Obj := ⟨(.type "dict"), none, (.dict [].toArray 0), [].toArray⟩
def Ig (P : Params) : Obj := ⟨(.type "tuple"), none, (.seq [].toArray 0), [].toArray⟩
def Ih (P : Params) : Obj := ⟨.none, none, (.fields [].toArray), [].toArray⟩
def Ii (P : Params) : Obj := ⟨(.type "code"), none, (.fields [(.str (S "<module>") 176), (.str (S "<module>") 177), (.str (S "/claim/cut.py") 178), (.int (1) 0), (.int (0) 0), (.int (0) 0), (.int (0) 0), (.int (0) 0), (.ref 7), (.bool false), (.int (175) 0), (.ref 8), .none, .none, .none, .none, (.int (179) 0), (.int (1) 0), (.str (S "/claim/cut.py") 180)].toArray), [].toArray⟩
def Ag (P : Params) : Obj := ⟨(.type "frame"), none, .plain, [(some (.ref 9)), (some (.ref 3)), (some (.ref 3)), none, (some (.str (S "__main__") 164)), none, (some (.ref 0))].toArray⟩
def yj (P : Params) : Obj := ⟨(.type "tuple"), none, (.seq [].toArray 0), [].toArray⟩
def ahq (P : Params) : Obj := ⟨.none, none, (.fields [].toArray), [].toArray⟩
def Ah (P : Params) : Obj := ⟨(.type "code"), none, (.fields [(.str (S "<module>") 182), (.str (S "<module>") 183), (.str (S "/claim/cut.py") 184), (.int (1) 0), (.int (0) 0), (.int (0) 0), (.int (0) 0), (.int (0) 0), (.ref 11), (.bool false), (.int (181) 0), (.ref 12), .none, .none, .none, .none, (.int (185) 0), (.int (1) 0), (.str (S "/claim/cut.py") 186)].toArray), [].toArray⟩
def Ai (P : Params) : Obj := ⟨(.type "frame"), none, .plain, [(some (.ref 13)), (some (.ref 3)), (some (.ref 3)), none, (some (.str (S "__main__") 164)), none, (some (.ref 0))].toArray⟩
def au (o : Obj) : BT := .node o .nil .nil
def t0 (P : Params) : BT := (.node (Af P) (.node (Cp P) (.node (ajL P) (au (Ig P)) (au (yj P))) (.node (Ie P) (au (Ii P)) (au (Ah P)))) (.node (Cq P) (.node (Cr P) (au (Ih P)) (au (ahq P))) (.node (Cu P) (au (Ag P)) (au (Ai P)))))
def S0 (w : World) (os : OsState) : SharedT := ⟨t0 w.params, 15, ⟨[], [], [], 0, [], [], false, [].toArray, [], 0, false, false, false, 0, [2000, 10, 10], false, 0, true, [], [], 0, false⟩, #[], ⟨0, 0, 0, 0⟩, 187, os⟩
abbrev n0 : Nat := 11
abbrev yq : Option Value := (some (.ref 6))
abbrev q0 : Pos := ⟨0, 0, 0, 0⟩
theorem hb (w : World) (os : OsState) : HP.Ec PySem.Challenge.pw_givenback_k23_things_got_and_given w os 12 (S0 w os, ⟨HandSHeadRun.denQ HandSHeadRun.tabQ c0, c0, ⟨0, 0, 0, 0⟩, [topFrame q0]⟩) := by
  unfold HP.Ec
  kernel_rfl
def t1 (P : Params) : BT := (.node (Af P) (.node (Cp P) (.node (ajL P) (au (Ig P)) (au (yj P))) (.node (Ie P) (au (Ii P)) (au (Ah P)))) (.node (Cq P) (.node (Cr P) (au (Ih P)) (au (ahq P))) (.node (Cu P) (au (Ag P)) (au (Ai P)))))
def S1 (w : World) (os : OsState) : SharedT := ⟨t1 w.params, 15, ⟨[], [], [], 0, [], [], false, [].toArray, [], 0, false, false, false, 0, [2000, 10, 10], false, 0, true, [], [], 0, false⟩, #[], ⟨0, 0, 0, 0⟩, 187, os⟩
theorem hs (w : World) (os : OsState) : HP.Sw (HP.Ux PySem.Challenge.pw_givenback_k23_things_got_and_given w) n0 yq 1 (S0 w os) (blockOf oh env0 c0 ⟨0, 0, 0, 0⟩ [topFrame q0]) = some (.next, S1 w os, c0, ⟨0, 0, 0, 0⟩) := by kernel_rfl
def anf (P : Params) : Obj := ⟨(.type "dict"), none, (.dict [E P "__name__" 165 (.str (S "givenback.rowforms") 287), E P "__doc__" 166 .none, E P "__package__" 167 .none, E P "__loader__" 168 (.builtin "__main__.__loader__#opaque"), E P "__spec__" 169 .none, E P "__annotations__" 170 (.ref 6), E P "__builtins__" 171 (.ref 4), E P "__file__" 173 (.str (S "/claim/cut.py") 172), E P "__cached__" 174 .none, E P "WorkError" 216 (.ref 32), E P "BadRun" 232 (.ref 45), E P "Broken" 258 (.ref 64), E P "LETTERS" 262 (.str (S "abcdefghijklmnopqrstuvwxyz") 261), E P "LONGEST" 264 (.int (8) 263), E P "is_name" 270 (.ref 71), E P "is_whole" 279 (.ref 78), E P "is_number" 286 (.ref 85)].toArray 17), [].toArray⟩
def ahr (P : Params) : Obj := ⟨.none, none, (.fields [(.int (2) 0), (.int (0) 0), (.ref 20), (.int (7) 0), (.int (0) 0), (.ref 41), (.int (9) 0), (.int (0) 0), (.ref 53), (.int (17) 0), (.int (0) 0), (.ref 70), (.int (19) 0), (.int (0) 0), (.ref 77), (.int (21) 0), (.int (0) 0), (.ref 84)].toArray), [].toArray⟩
def Jv (P : Params) : Obj := ⟨(.type "tuple"), none, (.seq [(.type "ValueError")].toArray 0), [].toArray⟩
def Jw (P : Params) : Obj := ⟨(.type "builtin_function_or_method"), none, (.fields [(.builtin "type.__prepare__"), (.type "type")].toArray), [].toArray⟩
def Jx (P : Params) : Obj := ⟨(.type "dict"), none, (.dict [E P "__module__" 196 (.str (S "givenback.errors") 187), E P "__qualname__" 198 (.str (S "WorkError") 197), E P "__firstlineno__" 200 (.int (2) 199), E P "__init__" 209 (.ref 29), E P "__static_attributes__" 211 (.ref 30)].toArray 5), [].toArray⟩
def Jy (P : Params) : Obj := ⟨(.type "tuple"), none, (.seq [].toArray 0), [].toArray⟩
def Jz (P : Params) : Obj := ⟨.none, none, (.fields [(.int (4) 0), (.int (4) 0), (.ref 28)].toArray), [].toArray⟩
def JB (P : Params) : Obj := ⟨(.type "code"), none, (.fields [(.str (S "WorkError") 191), (.str (S "WorkError") 192), (.str (S "/claim/cut.py") 193), (.int (2) 0), (.int (0) 0), (.int (0) 0), (.int (0) 0), (.int (0) 0), (.ref 18), (.bool false), (.int (181) 0), (.ref 19), .none, .none, .none, .none, (.int (194) 0), (.int (2) 0), (.str (S "/claim/cut.py") 195)].toArray), [].toArray⟩
def JC (P : Params) : Obj := ⟨(.type "frame"), none, .plain, [(some (.ref 20)), (some (.ref 3)), (some (.ref 17)), none, (some (.str (S "givenback.errors") 187)), none, (some (.ref 0))].toArray⟩
def Ef (P : Params) : Obj := ⟨(.type "tuple"), none, (.seq [(.str (S "refused") 201)].toArray 0), [].toArray⟩
def Eh (P : Params) : Obj := ⟨(.type "tuple"), none, (.seq [].toArray 0), [].toArray⟩
def Ei (P : Params) : Obj := ⟨.none, none, (.fields [].toArray), [].toArray⟩
def Ek (P : Params) : Obj := ⟨(.type "tuple"), none, (.seq [(.str (S "self") 205), (.str (S "why") 206)].toArray 0), [].toArray⟩
def El (P : Params) : Obj := ⟨(.type "tuple"), none, (.seq [].toArray 0), [].toArray⟩
def Aj (P : Params) : Obj := ⟨.none, none, (.func ⟨(S "__init__"), (S "WorkError.__init__"), L2.defArgs (L2.inClass (top 1) 0), .stmts (L2.defBody (L2.inClass (top 1) 0)), L2.defScope (L2.inClass (top 1) 0), 0, [], .none, .none, .none, .none, none, .none, .none, 0⟩), [].toArray⟩
def Em (P : Params) : Obj := ⟨(.type "code"), none, (.fields [(.str (S "__init__") 202), (.str (S "WorkError.__init__") 203), (.str (S "/claim/cut.py") 204), (.int (4) 0), (.int (2) 0), (.int (0) 0), (.int (0) 0), (.int (3) 0), (.ref 23), (.bool true), (.int (181) 0), (.ref 24), .none, (.ref 25), (.ref 26), (.ref 27), (.int (207) 0), (.int (4) 0), (.str (S "/claim/cut.py") 208)].toArray), [].toArray⟩
def Eo (P : Params) : Obj := ⟨(.type "function"), none, (.func ⟨(S "__init__"), (S "WorkError.__init__"), L2.defArgs (L2.inClass (top 1) 0), .stmts (L2.defBody (L2.inClass (top 1) 0)), L2.defScope (L2.inClass (top 1) 0), 3, [], (.ref 22), .none, .none, (.str (S "givenback.errors") 187), none, (.ref 28), .none, 0⟩), [].toArray⟩
def Ep (P : Params) : Obj := ⟨(.type "tuple"), none, (.seq [(.str (S "why") 210)].toArray 0), [].toArray⟩
def Es (P : Params) : Obj := ⟨(.type "dict"), none, (.dict [E P "__module__" 196 (.str (S "givenback.errors") 187), E P "__firstlineno__" 200 (.int (2) 199), E P "__init__" 209 (.ref 29), E P "__static_attributes__" 211 (.ref 30), E P "__weakref__" 213 (.ref 33), E P "__doc__" 214 .none].toArray 3), [].toArray⟩
def Et (P : Params) : Obj := ⟨(.type "type"), none, (.cls ⟨(S "WorkError"), [(.type "ValueError")], [(.ref 32), (.type "ValueError"), (.type "Exception"), (.type "BaseException"), (.type "object")], 31, (S "WorkError"), true, [], [(.ref 45), (.ref 64)], false, none, false⟩), [(some (.ref 15)), none, (some (.str (S "WorkError") 189)), (some (.str (S "WorkError") 197)), (some (.builtin "ValueError.__new__")), (some (.bool true))].toArray⟩
def Eu (P : Params) : Obj := ⟨(.type "getset_descriptor"), none, (.fields [(.str (S "__weakref__") 212), (.ref 32), (.builtin "ExceptionGroup.__weakref__"), .none].toArray), [].toArray⟩
def JD (P : Params) : Obj := ⟨(.type "super"), none, (.fields [(.ref 32), (.ref 32), (.ref 32)].toArray), [].toArray⟩
def JF (P : Params) : Obj := ⟨(.type "builtin_function_or_method"), none, (.fields [(.builtin "object.__init_subclass__"), (.ref 32)].toArray), [].toArray⟩
def JG (P : Params) : Obj := ⟨(.type "tuple"), none, (.seq [(.ref 32)].toArray 0), [].toArray⟩
def JH (P : Params) : Obj := ⟨(.type "builtin_function_or_method"), none, (.fields [(.builtin "type.__prepare__"), (.type "type")].toArray), [].toArray⟩
def JK (P : Params) : Obj := ⟨(.type "dict"), none, (.dict [E P "__module__" 224 (.str (S "givenback.errors") 187), E P "__qualname__" 226 (.str (S "BadRun") 225), E P "__firstlineno__" 228 (.int (7) 227), E P "__static_attributes__" 229 (.ref 43)].toArray 4), [].toArray⟩
def Wf (P : Params) : Obj := ⟨(.type "tuple"), none, (.seq [].toArray 0), [].toArray⟩
def Wh (P : Params) : Obj := ⟨.none, none, (.fields [].toArray), [].toArray⟩
def Wi (P : Params) : Obj := ⟨(.type "code"), none, (.fields [(.str (S "BadRun") 219), (.str (S "BadRun") 220), (.str (S "/claim/cut.py") 221), (.int (7) 0), (.int (0) 0), (.int (0) 0), (.int (0) 0), (.int (0) 0), (.ref 39), (.bool false), (.int (181) 0), (.ref 40), .none, .none, .none, .none, (.int (222) 0), (.int (7) 0), (.str (S "/claim/cut.py") 223)].toArray), [].toArray⟩
def Wj (P : Params) : Obj := ⟨(.type "frame"), none, .plain, [(some (.ref 41)), (some (.ref 3)), (some (.ref 38)), none, (some (.str (S "givenback.errors") 187)), none, (some (.ref 0))].toArray⟩
def Ew (P : Params) : Obj := ⟨(.type "tuple"), none, (.seq [].toArray 0), [].toArray⟩
def JL (P : Params) : Obj := ⟨(.type "dict"), none, (.dict [E P "__module__" 224 (.str (S "givenback.errors") 187), E P "__firstlineno__" 228 (.int (7) 227), E P "__static_attributes__" 229 (.ref 43), E P "__doc__" 230 .none].toArray 2), [].toArray⟩
def JM (P : Params) : Obj := ⟨(.type "type"), none, (.cls ⟨(S "BadRun"), [(.ref 32)], [(.ref 45), (.ref 32), (.type "ValueError"), (.type "Exception"), (.type "BaseException"), (.type "object")], 44, (S "BadRun"), true, [], [], false, none, false⟩), [(some (.ref 36)), none, (some (.str (S "BadRun") 217)), (some (.str (S "BadRun") 225)), (some (.builtin "ValueError.__new__")), (some (.bool true))].toArray⟩
def Wk (P : Params) : Obj := ⟨(.type "super"), none, (.fields [(.ref 45), (.ref 45), (.ref 45)].toArray), [].toArray⟩
def Wn (P : Params) : Obj := ⟨(.type "builtin_function_or_method"), none, (.fields [(.builtin "object.__init_subclass__"), (.ref 45)].toArray), [].toArray⟩
def Wq (P : Params) : Obj := ⟨(.type "tuple"), none, (.seq [(.ref 32)].toArray 0), [].toArray⟩
def Wr (P : Params) : Obj := ⟨(.type "builtin_function_or_method"), none, (.fields [(.builtin "type.__prepare__"), (.type "type")].toArray), [].toArray⟩
def Ws (P : Params) : Obj := ⟨(.type "dict"), none, (.dict [E P "__module__" 240 (.str (S "givenback.errors") 187), E P "__qualname__" 242 (.str (S "Broken") 241), E P "__firstlineno__" 244 (.int (9) 243), E P "__init__" 253 (.ref 61), E P "__static_attributes__" 255 (.ref 62)].toArray 5), [].toArray⟩
def Wt (P : Params) : Obj := ⟨(.type "tuple"), none, (.seq [].toArray 0), [].toArray⟩
def Wu (P : Params) : Obj := ⟨.none, none, (.fields [(.int (11) 0), (.int (4) 0), (.ref 60)].toArray), [].toArray⟩
def Wv (P : Params) : Obj := ⟨(.type "code"), none, (.fields [(.str (S "Broken") 235), (.str (S "Broken") 236), (.str (S "/claim/cut.py") 237), (.int (9) 0), (.int (0) 0), (.int (0) 0), (.int (0) 0), (.int (0) 0), (.ref 51), (.bool false), (.int (181) 0), (.ref 52), .none, .none, .none, .none, (.int (238) 0), (.int (9) 0), (.str (S "/claim/cut.py") 239)].toArray), [].toArray⟩
def JN (P : Params) : Obj := ⟨(.type "frame"), none, .plain, [(some (.ref 53)), (some (.ref 3)), (some (.ref 50)), none, (some (.str (S "givenback.errors") 187)), none, (some (.ref 0))].toArray⟩
def Ey (P : Params) : Obj := ⟨(.type "tuple"), none, (.seq [].toArray 0), [].toArray⟩
def Ez (P : Params) : Obj := ⟨.none, none, (.fields [].toArray), [].toArray⟩
def EY (P : Params) : Obj := ⟨(.type "tuple"), none, (.seq [(.str (S "self") 248), (.str (S "at") 249), (.str (S "why") 250)].toArray 0), [].toArray⟩
def Fb (P : Params) : Obj := ⟨(.type "tuple"), none, (.seq [].toArray 0), [].toArray⟩
def Fe (P : Params) : Obj := ⟨.none, none, (.func ⟨(S "__init__"), (S "Broken.__init__"), L2.defArgs (L2.inClass (top 3) 0), .stmts (L2.defBody (L2.inClass (top 3) 0)), L2.defScope (L2.inClass (top 3) 0), 0, [], .none, .none, .none, .none, none, .none, .none, 0⟩), [].toArray⟩
def Fg (P : Params) : Obj := ⟨(.type "code"), none, (.fields [(.str (S "__init__") 245), (.str (S "Broken.__init__") 246), (.str (S "/claim/cut.py") 247), (.int (11) 0), (.int (3) 0), (.int (0) 0), (.int (0) 0), (.int (3) 0), (.ref 55), (.bool true), (.int (181) 0), (.ref 56), .none, (.ref 57), (.ref 58), (.ref 59), (.int (251) 0), (.int (11) 0), (.str (S "/claim/cut.py") 252)].toArray), [].toArray⟩
def Fj (P : Params) : Obj := ⟨(.type "function"), none, (.func ⟨(S "__init__"), (S "Broken.__init__"), L2.defArgs (L2.inClass (top 3) 0), .stmts (L2.defBody (L2.inClass (top 3) 0)), L2.defScope (L2.inClass (top 3) 0), 3, [], .none, .none, .none, (.str (S "givenback.errors") 187), none, (.ref 60), .none, 0⟩), [].toArray⟩
def Fl (P : Params) : Obj := ⟨(.type "tuple"), none, (.seq [(.str (S "at") 254)].toArray 0), [].toArray⟩
def Fo (P : Params) : Obj := ⟨(.type "dict"), none, (.dict [E P "__module__" 240 (.str (S "givenback.errors") 187), E P "__firstlineno__" 244 (.int (9) 243), E P "__init__" 253 (.ref 61), E P "__static_attributes__" 255 (.ref 62), E P "__doc__" 256 .none].toArray 2), [].toArray⟩
def Fp (P : Params) : Obj := ⟨(.type "type"), none, (.cls ⟨(S "Broken"), [(.ref 32)], [(.ref 64), (.ref 32), (.type "ValueError"), (.type "Exception"), (.type "BaseException"), (.type "object")], 63, (S "Broken"), true, [], [], false, none, false⟩), [(some (.ref 48)), none, (some (.str (S "Broken") 233)), (some (.str (S "Broken") 241)), (some (.builtin "ValueError.__new__")), (some (.bool true))].toArray⟩
def JQ (P : Params) : Obj := ⟨(.type "super"), none, (.fields [(.ref 64), (.ref 64), (.ref 64)].toArray), [].toArray⟩
def JR (P : Params) : Obj := ⟨(.type "builtin_function_or_method"), none, (.fields [(.builtin "object.__init_subclass__"), (.ref 64)].toArray), [].toArray⟩
def Fq (P : Params) : Obj := ⟨(.type "tuple"), none, (.seq [].toArray 0), [].toArray⟩
def Ft (P : Params) : Obj := ⟨.none, none, (.fields [].toArray), [].toArray⟩
def Fv (P : Params) : Obj := ⟨.none, none, (.func ⟨(S "is_name"), (S "is_name"), L2.defArgs (top 7), .stmts (L2.defBody (top 7)), L2.defScope (top 7), 0, [], .none, .none, .none, .none, none, .none, .none, 0⟩), [].toArray⟩
def Fw (P : Params) : Obj := ⟨(.type "code"), none, (.fields [(.str (S "is_name") 265), (.str (S "is_name") 266), (.str (S "/claim/cut.py") 267), (.int (17) 0), (.int (1) 0), (.int (0) 0), (.int (0) 0), (.int (3) 0), (.ref 67), (.bool true), (.int (181) 0), (.ref 68), .none, .none, .none, (.ref 69), (.int (268) 0), (.int (17) 0), (.str (S "/claim/cut.py") 269)].toArray), [].toArray⟩
def JT (P : Params) : Obj := ⟨(.type "function"), none, (.func ⟨(S "is_name"), (S "is_name"), L2.defArgs (top 7), .stmts (L2.defBody (top 7)), L2.defScope (top 7), 3, [], .none, .none, .none, (.str (S "givenback.words") 259), none, (.ref 70), .none, 0⟩), [].toArray⟩
def JV (P : Params) : Obj := ⟨(.type "tuple"), none, (.seq [].toArray 0), [].toArray⟩
def JW (P : Params) : Obj := ⟨.none, none, (.fields [].toArray), [].toArray⟩
def JX (P : Params) : Obj := ⟨(.type "tuple"), none, (.seq [(.str (S "thing") 274), (.str (S "least") 275), (.str (S "most") 276)].toArray 0), [].toArray⟩
def Fx (P : Params) : Obj := ⟨(.type "tuple"), none, (.seq [].toArray 0), [].toArray⟩
def JZ (P : Params) : Obj := ⟨.none, none, (.func ⟨(S "is_whole"), (S "is_whole"), L2.defArgs (top 8), .stmts (L2.defBody (top 8)), L2.defScope (top 8), 0, [], .none, .none, .none, .none, none, .none, .none, 0⟩), [].toArray⟩
def J8 (P : Params) : Obj := ⟨(.type "code"), none, (.fields [(.str (S "is_whole") 271), (.str (S "is_whole") 272), (.str (S "/claim/cut.py") 273), (.int (19) 0), (.int (1) 0), (.int (0) 0), (.int (2) 0), (.int (3) 0), (.ref 72), (.bool true), (.int (181) 0), (.ref 73), .none, (.ref 74), (.ref 75), (.ref 76), (.int (277) 0), (.int (19) 0), (.str (S "/claim/cut.py") 278)].toArray), [].toArray⟩
def J9 (P : Params) : Obj := ⟨(.type "function"), none, (.func ⟨(S "is_whole"), (S "is_whole"), L2.defArgs (top 8), .stmts (L2.defBody (top 8)), L2.defScope (top 8), 3, [], .none, .none, .none, (.str (S "givenback.words") 259), none, (.ref 77), .none, 0⟩), [].toArray⟩
def Ka (P : Params) : Obj := ⟨(.type "tuple"), none, (.seq [].toArray 0), [].toArray⟩
def Kc (P : Params) : Obj := ⟨.none, none, (.fields [].toArray), [].toArray⟩
def Kd (P : Params) : Obj := ⟨(.type "tuple"), none, (.seq [(.str (S "thing") 283)].toArray 0), [].toArray⟩
def Ke (P : Params) : Obj := ⟨(.type "tuple"), none, (.seq [].toArray 0), [].toArray⟩
def Kf (P : Params) : Obj := ⟨.none, none, (.func ⟨(S "is_number"), (S "is_number"), L2.defArgs (top 9), .stmts (L2.defBody (top 9)), L2.defScope (top 9), 0, [], .none, .none, .none, .none, none, .none, .none, 0⟩), [].toArray⟩
def Kg (P : Params) : Obj := ⟨(.type "code"), none, (.fields [(.str (S "is_number") 280), (.str (S "is_number") 281), (.str (S "/claim/cut.py") 282), (.int (21) 0), (.int (1) 0), (.int (0) 0), (.int (0) 0), (.int (3) 0), (.ref 79), (.bool true), (.int (181) 0), (.ref 80), .none, (.ref 81), (.ref 82), (.ref 83), (.int (284) 0), (.int (21) 0), (.str (S "/claim/cut.py") 285)].toArray), [].toArray⟩
def Kh (P : Params) : Obj := ⟨(.type "function"), none, (.func ⟨(S "is_number"), (S "is_number"), L2.defArgs (top 9), .stmts (L2.defBody (top 9)), L2.defScope (top 9), 3, [], .none, .none, .none, (.str (S "givenback.words") 259), none, (.ref 84), .none, 0⟩), [].toArray⟩
def b5 (P : Params) : BT := (.node (Wn P) (au (Ka P)) .nil)
def b6 (P : Params) : BT := (.node (Wf P) (au (JT P)) .nil)
def b7 (P : Params) : BT := (.node (Wt P) (au (Kf P)) .nil)
def b8 (P : Params) : BT := (.node (Ew P) (au (Fx P)) .nil)
def b9 (P : Params) : BT := (.node (Wr P) (au (Kd P)) .nil)
def b10 (P : Params) : BT := (.node (Wi P) (au (JW P)) .nil)
def b11 (P : Params) : BT := (.node (Wv P) (au (Kh P)) .nil)
def b12 (P : Params) : BT := (.node (JM P) (au (J8 P)) .nil)
def b13 (P : Params) : BT := (.node (Wq P) (au (Kc P)) .nil)
def b14 (P : Params) : BT := (.node (Wh P) (au (JV P)) .nil)
def b15 (P : Params) : BT := (.node (Wu P) (au (Kg P)) .nil)
def b16 (P : Params) : BT := (.node (JL P) (au (JZ P)) .nil)
def b17 (P : Params) : BT := (.node (Ws P) (au (Ke P)) .nil)
def b18 (P : Params) : BT := (.node (Wj P) (au (JX P)) .nil)
def b19 (P : Params) : BT := (.node (Wk P) (au (J9 P)) .nil)
def t2 (P : Params) : BT := (.node (Af P) (.node (Cp P) (.node (anf P) (.node (Ig P) (.node (Jv P) (.node (Es P) (au (Fo P)) .nil) (b5 P)) (.node (Eh P) (b6 P) (au (Ey P)))) (.node (yj P) (.node (Jz P) (.node (JF P) (au (Fq P)) .nil) (b7 P)) (.node (Aj P) (b8 P) (au (Fe P))))) (.node (Ie P) (.node (Ii P) (.node (Jx P) (.node (Eu P) (au (JQ P)) .nil) (b9 P)) (.node (Ek P) (b10 P) (au (EY P)))) (.node (Ah P) (.node (JC P) (.node (JH P) (au (Fv P)) .nil) (b11 P)) (.node (Eo P) (b12 P) (au (Fj P)))))) (.node (Cq P) (.node (Cr P) (.node (Ih P) (.node (Jw P) (.node (Et P) (au (Fp P)) .nil) (b13 P)) (.node (Ei P) (b14 P) (au (Ez P)))) (.node (ahr P) (.node (JB P) (.node (JG P) (au (Ft P)) .nil) (b15 P)) (.node (Em P) (b16 P) (au (Fg P))))) (.node (Cu P) (.node (Ag P) (.node (Jy P) (.node (JD P) (au (JR P)) .nil) (b17 P)) (.node (El P) (b18 P) (au (Fb P)))) (.node (Ai P) (.node (Ef P) (.node (JK P) (au (Fw P)) .nil) (au (JN P))) (.node (Ep P) (b19 P) (au (Fl P)))))))
def S2 (w : World) (os : OsState) : SharedT := ⟨t2 w.params, 86, ⟨[], [], [], 0, [], [], false, [].toArray, [], 0, false, false, false, 0, [2000, 10, 10], false, 0, true, [], [], 0, false⟩, #[], ⟨0, 0, 0, 0⟩, 289, os⟩
theorem p2 (w : World) : ∀ os : OsState, HP.Piece PySem.Challenge.pw_givenback_k23_things_got_and_given w n0 yq env0 q0 c0 oh 0 11 811 (S1 w os) (S2 w os) ⟨0, 0, 0, 0⟩ ⟨23, 0, 23, 8⟩ := by
  intro os
  unfold HP.Piece
  kernel_rfl
def ang (P : Params) : Obj := ⟨(.type "dict"), none, (.dict [E P "__name__" 165 (.str (S "givenback.rowforms") 287), E P "__doc__" 166 .none, E P "__package__" 167 .none, E P "__loader__" 168 (.builtin "__main__.__loader__#opaque"), E P "__spec__" 169 .none, E P "__annotations__" 170 (.ref 6), E P "__builtins__" 171 (.ref 4), E P "__file__" 173 (.str (S "/claim/cut.py") 172), E P "__cached__" 174 .none, E P "WorkError" 216 (.ref 32), E P "BadRun" 232 (.ref 45), E P "Broken" 258 (.ref 64), E P "LETTERS" 262 (.str (S "abcdefghijklmnopqrstuvwxyz") 261), E P "LONGEST" 264 (.int (8) 263), E P "is_name" 270 (.ref 71), E P "is_whole" 279 (.ref 78), E P "is_number" 286 (.ref 85), E P "FORMS" 351 (.ref 86)].toArray 18), [].toArray⟩
def Km (P : Params) : Obj := ⟨(.type "dict"), none, (.dict [E P "tell" 289 (.ref 87), E P "add" 293 (.ref 88), E P "failed" 298 (.ref 89), E P "rescued" 302 (.ref 90), E P "got" 306 (.ref 91), E P "given" 310 (.ref 92), E P "masked" 314 (.ref 93), E P "opened" 317 (.ref 94), E P "last" 320 (.ref 95), E P "lasted" 323 (.ref 96), E P "begun" 326 (.ref 97), E P "kill" 332 (.ref 98), E P "late" 336 (.ref 99), E P "nobody" 340 (.ref 100), E P "landed" 344 (.ref 101), E P "ended" 347 (.ref 102)].toArray 16), [].toArray⟩
def Ko (P : Params) : Obj := ⟨(.type "tuple"), none, (.seq [(.str (S "task") 290), (.str (S "number") 291)].toArray 0), [].toArray⟩
def Kr (P : Params) : Obj := ⟨(.type "tuple"), none, (.seq [(.str (S "task") 294), (.str (S "name") 295), (.str (S "number") 296)].toArray 0), [].toArray⟩
def Ks (P : Params) : Obj := ⟨(.type "tuple"), none, (.seq [(.str (S "task") 299), (.str (S "name") 300)].toArray 0), [].toArray⟩
def Ku (P : Params) : Obj := ⟨(.type "tuple"), none, (.seq [(.str (S "task") 303), (.str (S "name") 304)].toArray 0), [].toArray⟩
def Kv (P : Params) : Obj := ⟨(.type "tuple"), none, (.seq [(.str (S "task") 307), (.str (S "name") 308)].toArray 0), [].toArray⟩
def Kw (P : Params) : Obj := ⟨(.type "tuple"), none, (.seq [(.str (S "task") 311), (.str (S "name") 312)].toArray 0), [].toArray⟩
def Ky (P : Params) : Obj := ⟨(.type "tuple"), none, (.seq [(.str (S "task") 315)].toArray 0), [].toArray⟩
def Kz (P : Params) : Obj := ⟨(.type "tuple"), none, (.seq [(.str (S "task") 318)].toArray 0), [].toArray⟩
def KC (P : Params) : Obj := ⟨(.type "tuple"), none, (.seq [(.str (S "task") 321)].toArray 0), [].toArray⟩
def KD (P : Params) : Obj := ⟨(.type "tuple"), none, (.seq [(.str (S "task") 324)].toArray 0), [].toArray⟩
def KH (P : Params) : Obj := ⟨(.type "tuple"), none, (.seq [(.str (S "task") 327), (.str (S "task") 328), (.str (S "name") 329), (.str (S "task") 330)].toArray 0), [].toArray⟩
def KJ (P : Params) : Obj := ⟨(.type "tuple"), none, (.seq [(.str (S "doer") 333), (.str (S "task") 334)].toArray 0), [].toArray⟩
def KN (P : Params) : Obj := ⟨(.type "tuple"), none, (.seq [(.str (S "doer") 337), (.str (S "task") 338)].toArray 0), [].toArray⟩
def Cv (P : Params) : Obj := ⟨(.type "tuple"), none, (.seq [(.str (S "task") 341), (.str (S "name") 342)].toArray 0), [].toArray⟩
def Cy (P : Params) : Obj := ⟨(.type "tuple"), none, (.seq [(.str (S "task") 345)].toArray 0), [].toArray⟩
def Cz (P : Params) : Obj := ⟨(.type "tuple"), none, (.seq [(.str (S "task") 348), (.str (S "outcome") 349)].toArray 0), [].toArray⟩
def t3 (P : Params) : BT := (.node (Af P) (.node (Cp P) (.node (ang P) (.node (Ig P) (.node (Jv P) (.node (Es P) (au (Fo P)) (au (KC P))) (b5 P)) (.node (Eh P) (b6 P) (.node (Ey P) (au (Ko P)) .nil))) (.node (yj P) (.node (Jz P) (.node (JF P) (au (Fq P)) (au (KN P))) (b7 P)) (.node (Aj P) (b8 P) (.node (Fe P) (au (Kv P)) .nil)))) (.node (Ie P) (.node (Ii P) (.node (Jx P) (.node (Eu P) (au (JQ P)) (au (KH P))) (b9 P)) (.node (Ek P) (b10 P) (.node (EY P) (au (Ks P)) .nil))) (.node (Ah P) (.node (JC P) (.node (JH P) (au (Fv P)) (au (Cy P))) (b11 P)) (.node (Eo P) (b12 P) (.node (Fj P) (au (Ky P)) .nil))))) (.node (Cq P) (.node (Cr P) (.node (Ih P) (.node (Jw P) (.node (Et P) (au (Fp P)) (au (KD P))) (b13 P)) (.node (Ei P) (b14 P) (.node (Ez P) (au (Kr P)) .nil))) (.node (ahr P) (.node (JB P) (.node (JG P) (au (Ft P)) (au (Cv P))) (b15 P)) (.node (Em P) (b16 P) (.node (Fg P) (au (Kw P)) .nil)))) (.node (Cu P) (.node (Ag P) (.node (Jy P) (.node (JD P) (au (JR P)) (au (KJ P))) (b17 P)) (.node (El P) (b18 P) (.node (Fb P) (au (Ku P)) .nil))) (.node (Ai P) (.node (Ef P) (.node (JK P) (au (Fw P)) (au (Cz P))) (.node (JN P) (au (Km P)) .nil)) (.node (Ep P) (b19 P) (.node (Fl P) (au (Kz P)) .nil))))))
def S3 (w : World) (os : OsState) : SharedT := ⟨t3 w.params, 103, ⟨[], [], [], 0, [], [], false, [].toArray, [], 0, false, false, false, 0, [2000, 10, 10], false, 0, true, [], [], 0, false⟩, #[], ⟨0, 0, 0, 0⟩, 352, os⟩
theorem anh (w : World) : ∀ os : OsState, HP.Piece PySem.Challenge.pw_givenback_k23_things_got_and_given (w.withFollow "special-get-raises" false) n0 yq env0 q0 c0 oh 11 1 298 (S2 (w.withFollow "special-get-raises" false) os) (S3 (w.withFollow "special-get-raises" false) os) ⟨23, 0, 23, 8⟩ ⟨24, 0, 24, 5⟩ := by
  intro os
  unfold HP.Piece
  kernel_rfl
theorem ani (w : World) : ∀ os : OsState, HP.Piece PySem.Challenge.pw_givenback_k23_things_got_and_given (w.withFollow "special-get-raises" true) n0 yq env0 q0 c0 oh 11 1 298 (S2 (w.withFollow "special-get-raises" true) os) (S3 (w.withFollow "special-get-raises" true) os) ⟨23, 0, 23, 8⟩ ⟨24, 0, 24, 5⟩ := by
  intro os
  unfold HP.Piece
  kernel_rfl
theorem p3 (w : World) : ∀ os : OsState, HP.Piece PySem.Challenge.pw_givenback_k23_things_got_and_given w n0 yq env0 q0 c0 oh 11 1 298 (S2 w os) (S3 w os) ⟨23, 0, 23, 8⟩ ⟨24, 0, 24, 5⟩ := byRow2 "special-get-raises" (P := fun w => ∀ os : OsState, HP.Piece PySem.Challenge.pw_givenback_k23_things_got_and_given w n0 yq env0 q0 c0 oh 11 1 298 (S2 w os) (S3 w os) ⟨23, 0, 23, 8⟩ ⟨24, 0, 24, 5⟩) anh ani w
def anj (P : Params) : Obj := ⟨(.type "dict"), none, (.dict [E P "__name__" 165 (.str (S "givenback.watch") 395), E P "__doc__" 166 .none, E P "__package__" 167 .none, E P "__loader__" 168 (.builtin "__main__.__loader__#opaque"), E P "__spec__" 169 .none, E P "__annotations__" 170 (.ref 6), E P "__builtins__" 171 (.ref 4), E P "__file__" 173 (.str (S "/claim/cut.py") 172), E P "__cached__" 174 .none, E P "WorkError" 216 (.ref 32), E P "BadRun" 232 (.ref 45), E P "Broken" 258 (.ref 64), E P "LETTERS" 262 (.str (S "abcdefghijklmnopqrstuvwxyz") 261), E P "LONGEST" 264 (.int (8) 263), E P "is_name" 270 (.ref 71), E P "is_whole" 279 (.ref 78), E P "is_number" 286 (.ref 85), E P "FORMS" 351 (.ref 86), E P "is_outcome" 358 (.ref 109), E P "is_count" 365 (.ref 116), E P "is_part" 373 (.ref 123), E P "is_log_row" 379 (.ref 128), E P "doer_of" 386 (.ref 135), E P "check_told" 394 (.ref 140), E P "ON" 398 (.ref 141), E P "KILLED" 400 (.ref 142), E P "MOST_TASKS" 402 (.int (12) 401), E P "PLAIN_SIZE" 404 (.int (1) 403), E P "Seen" 441 (.ref 159), E P "first_so" 450 (.ref 170), E P "ask_doing" 459 (.ref 177), E P "ask_begun" 470 (.ref 184), E P "ask_kill" 483 (.ref 191), E P "ask_late" 493 (.ref 198), E P "ask_nobody" 502 (.ref 205), E P "ask_got" 512 (.ref 212), E P "ask_given" 521 (.ref 219), E P "ask_landed" 530 (.ref 226), E P "ask_masked" 539 (.ref 233), E P "ask_opened" 548 (.ref 240), E P "ask_last" 557 (.ref 247), E P "ask_lasted" 566 (.ref 254), E P "ask_rescued" 575 (.ref 261), E P "ask_ended" 581 (.ref 266)].toArray 44), [].toArray⟩
def alM (P : Params) : Obj := ⟨.none, none, (.fields [(.int (2) 0), (.int (0) 0), (.ref 20), (.int (7) 0), (.int (0) 0), (.ref 41), (.int (9) 0), (.int (0) 0), (.ref 53), (.int (17) 0), (.int (0) 0), (.ref 70), (.int (19) 0), (.int (0) 0), (.ref 77), (.int (21) 0), (.int (0) 0), (.ref 84), (.int (25) 0), (.int (0) 0), (.ref 108), (.int (29) 0), (.int (0) 0), (.ref 115), (.int (31) 0), (.int (0) 0), (.ref 122), (.int (41) 0), (.int (0) 0), (.ref 127), (.int (48) 0), (.int (0) 0), (.ref 134), (.int (53) 0), (.int (0) 0), (.ref 139), (.int (63) 0), (.int (0) 0), (.ref 148), (.int (73) 0), (.int (0) 0), (.ref 169), (.int (78) 0), (.int (0) 0), (.ref 176), (.int (80) 0), (.int (0) 0), (.ref 183), (.int (84) 0), (.int (0) 0), (.ref 190), (.int (92) 0), (.int (0) 0), (.ref 197), (.int (97) 0), (.int (0) 0), (.ref 204), (.int (99) 0), (.int (0) 0), (.ref 211), (.int (102) 0), (.int (0) 0), (.ref 218), (.int (106) 0), (.int (0) 0), (.ref 225), (.int (108) 0), (.int (0) 0), (.ref 232), (.int (110) 0), (.int (0) 0), (.ref 239), (.int (112) 0), (.int (0) 0), (.ref 246), (.int (114) 0), (.int (0) 0), (.ref 253), (.int (116) 0), (.int (0) 0), (.ref 260), (.int (118) 0), (.int (0) 0), (.ref 265)].toArray), [].toArray⟩
def KQ (P : Params) : Obj := ⟨(.type "tuple"), none, (.seq [].toArray 0), [].toArray⟩
def KY (P : Params) : Obj := ⟨.none, none, (.fields [].toArray), [].toArray⟩
def KZ (P : Params) : Obj := ⟨(.type "tuple"), none, (.seq [(.str (S "thing") 355)].toArray 0), [].toArray⟩
def K6 (P : Params) : Obj := ⟨(.type "tuple"), none, (.seq [].toArray 0), [].toArray⟩
def K7 (P : Params) : Obj := ⟨.none, none, (.func ⟨(S "is_outcome"), (S "is_outcome"), L2.defArgs (top 12), .stmts (L2.defBody (top 12)), L2.defScope (top 12), 0, [], .none, .none, .none, .none, none, .none, .none, 0⟩), [].toArray⟩
def K8 (P : Params) : Obj := ⟨(.type "code"), none, (.fields [(.str (S "is_outcome") 352), (.str (S "is_outcome") 353), (.str (S "/claim/cut.py") 354), (.int (25) 0), (.int (1) 0), (.int (0) 0), (.int (0) 0), (.int (3) 0), (.ref 103), (.bool true), (.int (181) 0), (.ref 104), .none, (.ref 105), (.ref 106), (.ref 107), (.int (356) 0), (.int (25) 0), (.str (S "/claim/cut.py") 357)].toArray), [].toArray⟩
def K9 (P : Params) : Obj := ⟨(.type "function"), none, (.func ⟨(S "is_outcome"), (S "is_outcome"), L2.defArgs (top 12), .stmts (L2.defBody (top 12)), L2.defScope (top 12), 3, [], .none, .none, .none, (.str (S "givenback.rowforms") 287), none, (.ref 108), .none, 0⟩), [].toArray⟩
def La (P : Params) : Obj := ⟨(.type "tuple"), none, (.seq [].toArray 0), [].toArray⟩
def Ld (P : Params) : Obj := ⟨.none, none, (.fields [].toArray), [].toArray⟩
def Lf (P : Params) : Obj := ⟨(.type "tuple"), none, (.seq [(.str (S "thing") 362)].toArray 0), [].toArray⟩
def Lg (P : Params) : Obj := ⟨(.type "tuple"), none, (.seq [].toArray 0), [].toArray⟩
def Lh (P : Params) : Obj := ⟨.none, none, (.func ⟨(S "is_count"), (S "is_count"), L2.defArgs (top 13), .stmts (L2.defBody (top 13)), L2.defScope (top 13), 0, [], .none, .none, .none, .none, none, .none, .none, 0⟩), [].toArray⟩
def Lj (P : Params) : Obj := ⟨(.type "code"), none, (.fields [(.str (S "is_count") 359), (.str (S "is_count") 360), (.str (S "/claim/cut.py") 361), (.int (29) 0), (.int (1) 0), (.int (0) 0), (.int (0) 0), (.int (3) 0), (.ref 110), (.bool true), (.int (181) 0), (.ref 111), .none, (.ref 112), (.ref 113), (.ref 114), (.int (363) 0), (.int (29) 0), (.str (S "/claim/cut.py") 364)].toArray), [].toArray⟩
def Lk (P : Params) : Obj := ⟨(.type "function"), none, (.func ⟨(S "is_count"), (S "is_count"), L2.defArgs (top 13), .stmts (L2.defBody (top 13)), L2.defScope (top 13), 3, [], .none, .none, .none, (.str (S "givenback.rowforms") 287), none, (.ref 115), .none, 0⟩), [].toArray⟩
def Ln (P : Params) : Obj := ⟨(.type "tuple"), none, (.seq [].toArray 0), [].toArray⟩
def Lp (P : Params) : Obj := ⟨.none, none, (.fields [].toArray), [].toArray⟩
def Lq (P : Params) : Obj := ⟨(.type "tuple"), none, (.seq [(.str (S "kind") 369), (.str (S "thing") 370)].toArray 0), [].toArray⟩
def Lr (P : Params) : Obj := ⟨(.type "tuple"), none, (.seq [].toArray 0), [].toArray⟩
def Ly (P : Params) : Obj := ⟨.none, none, (.func ⟨(S "is_part"), (S "is_part"), L2.defArgs (top 14), .stmts (L2.defBody (top 14)), L2.defScope (top 14), 0, [], .none, .none, .none, .none, none, .none, .none, 0⟩), [].toArray⟩
def Lz (P : Params) : Obj := ⟨(.type "code"), none, (.fields [(.str (S "is_part") 366), (.str (S "is_part") 367), (.str (S "/claim/cut.py") 368), (.int (31) 0), (.int (2) 0), (.int (0) 0), (.int (0) 0), (.int (3) 0), (.ref 117), (.bool true), (.int (181) 0), (.ref 118), .none, (.ref 119), (.ref 120), (.ref 121), (.int (371) 0), (.int (31) 0), (.str (S "/claim/cut.py") 372)].toArray), [].toArray⟩
def LC (P : Params) : Obj := ⟨(.type "function"), none, (.func ⟨(S "is_part"), (S "is_part"), L2.defArgs (top 14), .stmts (L2.defBody (top 14)), L2.defScope (top 14), 3, [], .none, .none, .none, (.str (S "givenback.rowforms") 287), none, (.ref 122), .none, 0⟩), [].toArray⟩
def LK (P : Params) : Obj := ⟨(.type "tuple"), none, (.seq [].toArray 0), [].toArray⟩
def LQ (P : Params) : Obj := ⟨.none, none, (.fields [].toArray), [].toArray⟩
def LR (P : Params) : Obj := ⟨.none, none, (.func ⟨(S "is_log_row"), (S "is_log_row"), L2.defArgs (top 15), .stmts (L2.defBody (top 15)), L2.defScope (top 15), 0, [], .none, .none, .none, .none, none, .none, .none, 0⟩), [].toArray⟩
def Ma (P : Params) : Obj := ⟨(.type "code"), none, (.fields [(.str (S "is_log_row") 374), (.str (S "is_log_row") 375), (.str (S "/claim/cut.py") 376), (.int (41) 0), (.int (1) 0), (.int (0) 0), (.int (0) 0), (.int (3) 0), (.ref 124), (.bool true), (.int (181) 0), (.ref 125), .none, .none, .none, (.ref 126), (.int (377) 0), (.int (41) 0), (.str (S "/claim/cut.py") 378)].toArray), [].toArray⟩
def Mf (P : Params) : Obj := ⟨(.type "function"), none, (.func ⟨(S "is_log_row"), (S "is_log_row"), L2.defArgs (top 15), .stmts (L2.defBody (top 15)), L2.defScope (top 15), 3, [], .none, .none, .none, (.str (S "givenback.rowforms") 287), none, (.ref 127), .none, 0⟩), [].toArray⟩
def Mg (P : Params) : Obj := ⟨(.type "tuple"), none, (.seq [].toArray 0), [].toArray⟩
def Mh (P : Params) : Obj := ⟨.none, none, (.fields [].toArray), [].toArray⟩
def Mi (P : Params) : Obj := ⟨(.type "tuple"), none, (.seq [(.str (S "row") 383)].toArray 0), [].toArray⟩
def Mj (P : Params) : Obj := ⟨(.type "tuple"), none, (.seq [].toArray 0), [].toArray⟩
def Ml (P : Params) : Obj := ⟨.none, none, (.func ⟨(S "doer_of"), (S "doer_of"), L2.defArgs (top 16), .stmts (L2.defBody (top 16)), L2.defScope (top 16), 0, [], .none, .none, .none, .none, none, .none, .none, 0⟩), [].toArray⟩
def Mp (P : Params) : Obj := ⟨(.type "code"), none, (.fields [(.str (S "doer_of") 380), (.str (S "doer_of") 381), (.str (S "/claim/cut.py") 382), (.int (48) 0), (.int (1) 0), (.int (0) 0), (.int (0) 0), (.int (3) 0), (.ref 129), (.bool true), (.int (181) 0), (.ref 130), .none, (.ref 131), (.ref 132), (.ref 133), (.int (384) 0), (.int (48) 0), (.str (S "/claim/cut.py") 385)].toArray), [].toArray⟩
def Mq (P : Params) : Obj := ⟨(.type "function"), none, (.func ⟨(S "doer_of"), (S "doer_of"), L2.defArgs (top 16), .stmts (L2.defBody (top 16)), L2.defScope (top 16), 3, [], .none, .none, .none, (.str (S "givenback.rowforms") 287), none, (.ref 134), .none, 0⟩), [].toArray⟩
def Mr (P : Params) : Obj := ⟨(.type "tuple"), none, (.seq [].toArray 0), [].toArray⟩
def Ms (P : Params) : Obj := ⟨.none, none, (.fields [].toArray), [].toArray⟩
def Mu (P : Params) : Obj := ⟨.none, none, (.func ⟨(S "check_told"), (S "check_told"), L2.defArgs (top 18), .stmts (L2.defBody (top 18)), L2.defScope (top 18), 0, [], .none, .none, .none, .none, none, .none, .none, 0⟩), [].toArray⟩
def CG (P : Params) : Obj := ⟨(.type "code"), none, (.fields [(.str (S "check_told") 389), (.str (S "check_told") 390), (.str (S "/claim/cut.py") 391), (.int (53) 0), (.int (2) 0), (.int (0) 0), (.int (0) 0), (.int (3) 0), (.ref 136), (.bool true), (.int (181) 0), (.ref 137), .none, .none, .none, (.ref 138), (.int (392) 0), (.int (53) 0), (.str (S "/claim/cut.py") 393)].toArray), [].toArray⟩
def Mv (P : Params) : Obj := ⟨(.type "function"), none, (.func ⟨(S "check_told"), (S "check_told"), L2.defArgs (top 18), .stmts (L2.defBody (top 18)), L2.defScope (top 18), 3, [], .none, .none, .none, (.str (S "givenback.run") 387), none, (.ref 139), .none, 0⟩), [].toArray⟩
def Mw (P : Params) : Obj := ⟨(.type "tuple"), none, (.seq [(.str (S "on") 397)].toArray 0), [].toArray⟩
def Mx (P : Params) : Obj := ⟨(.type "tuple"), none, (.seq [(.str (S "killed") 399)].toArray 0), [].toArray⟩
def XD (P : Params) : Obj := ⟨(.type "tuple"), none, (.seq [].toArray 0), [].toArray⟩
def XF (P : Params) : Obj := ⟨(.type "builtin_function_or_method"), none, (.fields [(.builtin "type.__prepare__"), (.type "type")].toArray), [].toArray⟩
def XH (P : Params) : Obj := ⟨(.type "dict"), none, (.dict [E P "__module__" 412 (.str (S "givenback.watch") 395), E P "__qualname__" 414 (.str (S "Seen") 413), E P "__firstlineno__" 416 (.int (63) 415), E P "__init__" 425 (.ref 156), E P "__static_attributes__" 434 (.ref 157)].toArray 5), [].toArray⟩
def XJ (P : Params) : Obj := ⟨(.type "tuple"), none, (.seq [].toArray 0), [].toArray⟩
def XM (P : Params) : Obj := ⟨.none, none, (.fields [(.int (65) 0), (.int (4) 0), (.ref 155)].toArray), [].toArray⟩
def XQ (P : Params) : Obj := ⟨(.type "code"), none, (.fields [(.str (S "Seen") 407), (.str (S "Seen") 408), (.str (S "/claim/cut.py") 409), (.int (63) 0), (.int (0) 0), (.int (0) 0), (.int (0) 0), (.int (0) 0), (.ref 146), (.bool false), (.int (181) 0), (.ref 147), .none, .none, .none, .none, (.int (410) 0), (.int (63) 0), (.str (S "/claim/cut.py") 411)].toArray), [].toArray⟩
def XR (P : Params) : Obj := ⟨(.type "frame"), none, .plain, [(some (.ref 148)), (some (.ref 3)), (some (.ref 145)), none, (some (.str (S "givenback.watch") 395)), none, (some (.ref 0))].toArray⟩
def Mz (P : Params) : Obj := ⟨(.type "tuple"), none, (.seq [].toArray 0), [].toArray⟩
def MF (P : Params) : Obj := ⟨.none, none, (.fields [].toArray), [].toArray⟩
def MJ (P : Params) : Obj := ⟨(.type "tuple"), none, (.seq [(.str (S "self") 420), (.str (S "beginner") 421), (.str (S "called") 422)].toArray 0), [].toArray⟩
def MK (P : Params) : Obj := ⟨(.type "tuple"), none, (.seq [].toArray 0), [].toArray⟩
def MN (P : Params) : Obj := ⟨.none, none, (.func ⟨(S "__init__"), (S "Seen.__init__"), L2.defArgs (L2.inClass (top 24) 0), .stmts (L2.defBody (L2.inClass (top 24) 0)), L2.defScope (L2.inClass (top 24) 0), 0, [], .none, .none, .none, .none, none, .none, .none, 0⟩), [].toArray⟩
def MP (P : Params) : Obj := ⟨(.type "code"), none, (.fields [(.str (S "__init__") 417), (.str (S "Seen.__init__") 418), (.str (S "/claim/cut.py") 419), (.int (65) 0), (.int (3) 0), (.int (0) 0), (.int (0) 0), (.int (3) 0), (.ref 150), (.bool true), (.int (181) 0), (.ref 151), .none, (.ref 152), (.ref 153), (.ref 154), (.int (423) 0), (.int (65) 0), (.str (S "/claim/cut.py") 424)].toArray), [].toArray⟩
def M4 (P : Params) : Obj := ⟨(.type "function"), none, (.func ⟨(S "__init__"), (S "Seen.__init__"), L2.defArgs (L2.inClass (top 24) 0), .stmts (L2.defBody (L2.inClass (top 24) 0)), L2.defScope (L2.inClass (top 24) 0), 3, [], .none, .none, .none, (.str (S "givenback.watch") 395), none, (.ref 155), .none, 0⟩), [].toArray⟩
def M5 (P : Params) : Obj := ⟨(.type "tuple"), none, (.seq [(.str (S "beginner") 426), (.str (S "called") 427), (.str (S "ending") 428), (.str (S "had") 429), (.str (S "lasts") 430), (.str (S "owed") 431), (.str (S "shut") 432), (.str (S "state") 433)].toArray 0), [].toArray⟩
def M6 (P : Params) : Obj := ⟨(.type "dict"), none, (.dict [E P "__module__" 412 (.str (S "givenback.watch") 395), E P "__firstlineno__" 416 (.int (63) 415), E P "__init__" 425 (.ref 156), E P "__static_attributes__" 434 (.ref 157), E P "__dict__" 436 (.ref 160), E P "__weakref__" 438 (.ref 161), E P "__doc__" 439 .none].toArray 4), [].toArray⟩
def M7 (P : Params) : Obj := ⟨(.type "type"), none, (.cls ⟨(S "Seen"), [(.type "object")], [(.ref 159), (.type "object")], 158, (S "Seen"), true, [], [], false, none, false⟩), [none, none, (some (.str (S "Seen") 405)), (some (.str (S "Seen") 413)), (some (.builtin "object.__new__")), (some (.bool true))].toArray⟩
def M8 (P : Params) : Obj := ⟨(.type "getset_descriptor"), none, (.fields [(.str (S "__dict__") 435), (.ref 159), (.builtin "function.__dict__"), (.builtin "function.__dict__#set")].toArray), [].toArray⟩
def M9 (P : Params) : Obj := ⟨(.type "getset_descriptor"), none, (.fields [(.str (S "__weakref__") 437), (.ref 159), (.builtin "ExceptionGroup.__weakref__"), .none].toArray), [].toArray⟩
def XS (P : Params) : Obj := ⟨(.type "super"), none, (.fields [(.ref 159), (.ref 159), (.ref 159)].toArray), [].toArray⟩
def X3 (P : Params) : Obj := ⟨(.type "builtin_function_or_method"), none, (.fields [(.builtin "object.__init_subclass__"), (.ref 159)].toArray), [].toArray⟩
def Nb (P : Params) : Obj := ⟨(.type "tuple"), none, (.seq [].toArray 0), [].toArray⟩
def Nf (P : Params) : Obj := ⟨.none, none, (.fields [].toArray), [].toArray⟩
def Nh (P : Params) : Obj := ⟨(.type "tuple"), none, (.seq [(.str (S "rows") 445), (.str (S "word") 446), (.str (S "is_so") 447)].toArray 0), [].toArray⟩
def Nk (P : Params) : Obj := ⟨(.type "tuple"), none, (.seq [].toArray 0), [].toArray⟩
def Np (P : Params) : Obj := ⟨.none, none, (.func ⟨(S "first_so"), (S "first_so"), L2.defArgs (top 25), .stmts (L2.defBody (top 25)), L2.defScope (top 25), 0, [], .none, .none, .none, .none, none, .none, .none, 0⟩), [].toArray⟩
def Nq (P : Params) : Obj := ⟨(.type "code"), none, (.fields [(.str (S "first_so") 442), (.str (S "first_so") 443), (.str (S "/claim/cut.py") 444), (.int (73) 0), (.int (1) 0), (.int (0) 0), (.int (0) 0), (.int (3) 0), (.ref 164), (.bool true), (.int (181) 0), (.ref 165), .none, (.ref 166), (.ref 167), (.ref 168), (.int (448) 0), (.int (73) 0), (.str (S "/claim/cut.py") 449)].toArray), [].toArray⟩
def Nr (P : Params) : Obj := ⟨(.type "function"), none, (.func ⟨(S "first_so"), (S "first_so"), L2.defArgs (top 25), .stmts (L2.defBody (top 25)), L2.defScope (top 25), 3, [], .none, .none, .none, (.str (S "givenback.watch") 395), none, (.ref 169), .none, 0⟩), [].toArray⟩
def Nt (P : Params) : Obj := ⟨(.type "tuple"), none, (.seq [].toArray 0), [].toArray⟩
def Nu (P : Params) : Obj := ⟨.none, none, (.fields [].toArray), [].toArray⟩
def Nv (P : Params) : Obj := ⟨(.type "tuple"), none, (.seq [(.str (S "watch") 454), (.str (S "task") 455), (.str (S "row") 456)].toArray 0), [].toArray⟩
def Ny (P : Params) : Obj := ⟨(.type "tuple"), none, (.seq [].toArray 0), [].toArray⟩
def Nz (P : Params) : Obj := ⟨.none, none, (.func ⟨(S "ask_doing"), (S "ask_doing"), L2.defArgs (top 26), .stmts (L2.defBody (top 26)), L2.defScope (top 26), 0, [], .none, .none, .none, .none, none, .none, .none, 0⟩), [].toArray⟩
def NK (P : Params) : Obj := ⟨(.type "code"), none, (.fields [(.str (S "ask_doing") 451), (.str (S "ask_doing") 452), (.str (S "/claim/cut.py") 453), (.int (78) 0), (.int (3) 0), (.int (0) 0), (.int (0) 0), (.int (3) 0), (.ref 171), (.bool true), (.int (181) 0), (.ref 172), .none, (.ref 173), (.ref 174), (.ref 175), (.int (457) 0), (.int (78) 0), (.str (S "/claim/cut.py") 458)].toArray), [].toArray⟩
def NP (P : Params) : Obj := ⟨(.type "function"), none, (.func ⟨(S "ask_doing"), (S "ask_doing"), L2.defArgs (top 26), .stmts (L2.defBody (top 26)), L2.defScope (top 26), 3, [], .none, .none, .none, (.str (S "givenback.watch") 395), none, (.ref 176), .none, 0⟩), [].toArray⟩
def NQ (P : Params) : Obj := ⟨(.type "tuple"), none, (.seq [].toArray 0), [].toArray⟩
def NT (P : Params) : Obj := ⟨.none, none, (.fields [].toArray), [].toArray⟩
def NZ (P : Params) : Obj := ⟨(.type "tuple"), none, (.seq [(.str (S "watch") 463), (.str (S "task") 464), (.str (S "row") 465), (.str (S "wrong") 466), (.str (S "home") 467)].toArray 0), [].toArray⟩
def N5 (P : Params) : Obj := ⟨(.type "tuple"), none, (.seq [].toArray 0), [].toArray⟩
def N6 (P : Params) : Obj := ⟨.none, none, (.func ⟨(S "ask_begun"), (S "ask_begun"), L2.defArgs (top 27), .stmts (L2.defBody (top 27)), L2.defScope (top 27), 0, [], .none, .none, .none, .none, none, .none, .none, 0⟩), [].toArray⟩
def N7 (P : Params) : Obj := ⟨(.type "code"), none, (.fields [(.str (S "ask_begun") 460), (.str (S "ask_begun") 461), (.str (S "/claim/cut.py") 462), (.int (80) 0), (.int (3) 0), (.int (0) 0), (.int (0) 0), (.int (3) 0), (.ref 178), (.bool true), (.int (181) 0), (.ref 179), .none, (.ref 180), (.ref 181), (.ref 182), (.int (468) 0), (.int (80) 0), (.str (S "/claim/cut.py") 469)].toArray), [].toArray⟩
def N8 (P : Params) : Obj := ⟨(.type "function"), none, (.func ⟨(S "ask_begun"), (S "ask_begun"), L2.defArgs (top 27), .stmts (L2.defBody (top 27)), L2.defScope (top 27), 3, [], .none, .none, .none, (.str (S "givenback.watch") 395), none, (.ref 183), .none, 0⟩), [].toArray⟩
def Oa (P : Params) : Obj := ⟨(.type "tuple"), none, (.seq [].toArray 0), [].toArray⟩
def Oc (P : Params) : Obj := ⟨.none, none, (.fields [].toArray), [].toArray⟩
def Od (P : Params) : Obj := ⟨(.type "tuple"), none, (.seq [(.str (S "watch") 474), (.str (S "task") 475), (.str (S "row") 476), (.str (S "other") 477), (.str (S "over") 478), (.str (S "own") 479), (.str (S "unwinds") 480)].toArray 0), [].toArray⟩
def Oe (P : Params) : Obj := ⟨(.type "tuple"), none, (.seq [].toArray 0), [].toArray⟩
def Og (P : Params) : Obj := ⟨.none, none, (.func ⟨(S "ask_kill"), (S "ask_kill"), L2.defArgs (top 28), .stmts (L2.defBody (top 28)), L2.defScope (top 28), 0, [], .none, .none, .none, .none, none, .none, .none, 0⟩), [].toArray⟩
def Oh (P : Params) : Obj := ⟨(.type "code"), none, (.fields [(.str (S "ask_kill") 471), (.str (S "ask_kill") 472), (.str (S "/claim/cut.py") 473), (.int (84) 0), (.int (3) 0), (.int (0) 0), (.int (0) 0), (.int (3) 0), (.ref 185), (.bool true), (.int (181) 0), (.ref 186), .none, (.ref 187), (.ref 188), (.ref 189), (.int (481) 0), (.int (84) 0), (.str (S "/claim/cut.py") 482)].toArray), [].toArray⟩
def Oi (P : Params) : Obj := ⟨(.type "function"), none, (.func ⟨(S "ask_kill"), (S "ask_kill"), L2.defArgs (top 28), .stmts (L2.defBody (top 28)), L2.defScope (top 28), 3, [], .none, .none, .none, (.str (S "givenback.watch") 395), none, (.ref 190), .none, 0⟩), [].toArray⟩
def Oj (P : Params) : Obj := ⟨(.type "tuple"), none, (.seq [].toArray 0), [].toArray⟩
def Ol (P : Params) : Obj := ⟨.none, none, (.fields [].toArray), [].toArray⟩
def Om (P : Params) : Obj := ⟨(.type "tuple"), none, (.seq [(.str (S "watch") 487), (.str (S "task") 488), (.str (S "row") 489), (.str (S "lives") 490)].toArray 0), [].toArray⟩
def Oo (P : Params) : Obj := ⟨(.type "tuple"), none, (.seq [].toArray 0), [].toArray⟩
def Oq (P : Params) : Obj := ⟨.none, none, (.func ⟨(S "ask_late"), (S "ask_late"), L2.defArgs (top 29), .stmts (L2.defBody (top 29)), L2.defScope (top 29), 0, [], .none, .none, .none, .none, none, .none, .none, 0⟩), [].toArray⟩
def Ou (P : Params) : Obj := ⟨(.type "code"), none, (.fields [(.str (S "ask_late") 484), (.str (S "ask_late") 485), (.str (S "/claim/cut.py") 486), (.int (92) 0), (.int (3) 0), (.int (0) 0), (.int (0) 0), (.int (3) 0), (.ref 192), (.bool true), (.int (181) 0), (.ref 193), .none, (.ref 194), (.ref 195), (.ref 196), (.int (491) 0), (.int (92) 0), (.str (S "/claim/cut.py") 492)].toArray), [].toArray⟩
def Ov (P : Params) : Obj := ⟨(.type "function"), none, (.func ⟨(S "ask_late"), (S "ask_late"), L2.defArgs (top 29), .stmts (L2.defBody (top 29)), L2.defScope (top 29), 3, [], .none, .none, .none, (.str (S "givenback.watch") 395), none, (.ref 197), .none, 0⟩), [].toArray⟩
def Ow (P : Params) : Obj := ⟨(.type "tuple"), none, (.seq [].toArray 0), [].toArray⟩
def Ox (P : Params) : Obj := ⟨.none, none, (.fields [].toArray), [].toArray⟩
def Oz (P : Params) : Obj := ⟨(.type "tuple"), none, (.seq [(.str (S "watch") 497), (.str (S "task") 498), (.str (S "row") 499)].toArray 0), [].toArray⟩
def OD (P : Params) : Obj := ⟨(.type "tuple"), none, (.seq [].toArray 0), [].toArray⟩
def CJ (P : Params) : Obj := ⟨.none, none, (.func ⟨(S "ask_nobody"), (S "ask_nobody"), L2.defArgs (top 30), .stmts (L2.defBody (top 30)), L2.defScope (top 30), 0, [], .none, .none, .none, .none, none, .none, .none, 0⟩), [].toArray⟩
def OJ (P : Params) : Obj := ⟨(.type "code"), none, (.fields [(.str (S "ask_nobody") 494), (.str (S "ask_nobody") 495), (.str (S "/claim/cut.py") 496), (.int (97) 0), (.int (3) 0), (.int (0) 0), (.int (0) 0), (.int (3) 0), (.ref 199), (.bool true), (.int (181) 0), (.ref 200), .none, (.ref 201), (.ref 202), (.ref 203), (.int (500) 0), (.int (97) 0), (.str (S "/claim/cut.py") 501)].toArray), [].toArray⟩
def O4 (P : Params) : Obj := ⟨(.type "function"), none, (.func ⟨(S "ask_nobody"), (S "ask_nobody"), L2.defArgs (top 30), .stmts (L2.defBody (top 30)), L2.defScope (top 30), 3, [], .none, .none, .none, (.str (S "givenback.watch") 395), none, (.ref 204), .none, 0⟩), [].toArray⟩
def O5 (P : Params) : Obj := ⟨(.type "tuple"), none, (.seq [].toArray 0), [].toArray⟩
def O6 (P : Params) : Obj := ⟨.none, none, (.fields [].toArray), [].toArray⟩
def O7 (P : Params) : Obj := ⟨(.type "tuple"), none, (.seq [(.str (S "watch") 506), (.str (S "task") 507), (.str (S "row") 508), (.str (S "held") 509)].toArray 0), [].toArray⟩
def O8 (P : Params) : Obj := ⟨(.type "tuple"), none, (.seq [].toArray 0), [].toArray⟩
def O9 (P : Params) : Obj := ⟨.none, none, (.func ⟨(S "ask_got"), (S "ask_got"), L2.defArgs (top 31), .stmts (L2.defBody (top 31)), L2.defScope (top 31), 0, [], .none, .none, .none, .none, none, .none, .none, 0⟩), [].toArray⟩
def Pa (P : Params) : Obj := ⟨(.type "code"), none, (.fields [(.str (S "ask_got") 503), (.str (S "ask_got") 504), (.str (S "/claim/cut.py") 505), (.int (99) 0), (.int (3) 0), (.int (0) 0), (.int (0) 0), (.int (3) 0), (.ref 206), (.bool true), (.int (181) 0), (.ref 207), .none, (.ref 208), (.ref 209), (.ref 210), (.int (510) 0), (.int (99) 0), (.str (S "/claim/cut.py") 511)].toArray), [].toArray⟩
def Pb (P : Params) : Obj := ⟨(.type "function"), none, (.func ⟨(S "ask_got"), (S "ask_got"), L2.defArgs (top 31), .stmts (L2.defBody (top 31)), L2.defScope (top 31), 3, [], .none, .none, .none, (.str (S "givenback.watch") 395), none, (.ref 211), .none, 0⟩), [].toArray⟩
def Pg (P : Params) : Obj := ⟨(.type "tuple"), none, (.seq [].toArray 0), [].toArray⟩
def Ph (P : Params) : Obj := ⟨.none, none, (.fields [].toArray), [].toArray⟩
def Pj (P : Params) : Obj := ⟨(.type "tuple"), none, (.seq [(.str (S "watch") 516), (.str (S "task") 517), (.str (S "row") 518)].toArray 0), [].toArray⟩
def Pk (P : Params) : Obj := ⟨(.type "tuple"), none, (.seq [].toArray 0), [].toArray⟩
def Pn (P : Params) : Obj := ⟨.none, none, (.func ⟨(S "ask_given"), (S "ask_given"), L2.defArgs (top 32), .stmts (L2.defBody (top 32)), L2.defScope (top 32), 0, [], .none, .none, .none, .none, none, .none, .none, 0⟩), [].toArray⟩
def Pq (P : Params) : Obj := ⟨(.type "code"), none, (.fields [(.str (S "ask_given") 513), (.str (S "ask_given") 514), (.str (S "/claim/cut.py") 515), (.int (102) 0), (.int (3) 0), (.int (0) 0), (.int (0) 0), (.int (3) 0), (.ref 213), (.bool true), (.int (181) 0), (.ref 214), .none, (.ref 215), (.ref 216), (.ref 217), (.int (519) 0), (.int (102) 0), (.str (S "/claim/cut.py") 520)].toArray), [].toArray⟩
def Pr (P : Params) : Obj := ⟨(.type "function"), none, (.func ⟨(S "ask_given"), (S "ask_given"), L2.defArgs (top 32), .stmts (L2.defBody (top 32)), L2.defScope (top 32), 3, [], .none, .none, .none, (.str (S "givenback.watch") 395), none, (.ref 218), .none, 0⟩), [].toArray⟩
def Pu (P : Params) : Obj := ⟨(.type "tuple"), none, (.seq [].toArray 0), [].toArray⟩
def Px (P : Params) : Obj := ⟨.none, none, (.fields [].toArray), [].toArray⟩
def Py (P : Params) : Obj := ⟨(.type "tuple"), none, (.seq [(.str (S "watch") 525), (.str (S "task") 526), (.str (S "row") 527)].toArray 0), [].toArray⟩
def PB (P : Params) : Obj := ⟨(.type "tuple"), none, (.seq [].toArray 0), [].toArray⟩
def PL (P : Params) : Obj := ⟨.none, none, (.func ⟨(S "ask_landed"), (S "ask_landed"), L2.defArgs (top 33), .stmts (L2.defBody (top 33)), L2.defScope (top 33), 0, [], .none, .none, .none, .none, none, .none, .none, 0⟩), [].toArray⟩
def PN (P : Params) : Obj := ⟨(.type "code"), none, (.fields [(.str (S "ask_landed") 522), (.str (S "ask_landed") 523), (.str (S "/claim/cut.py") 524), (.int (106) 0), (.int (3) 0), (.int (0) 0), (.int (0) 0), (.int (3) 0), (.ref 220), (.bool true), (.int (181) 0), (.ref 221), .none, (.ref 222), (.ref 223), (.ref 224), (.int (528) 0), (.int (106) 0), (.str (S "/claim/cut.py") 529)].toArray), [].toArray⟩
def P0 (P : Params) : Obj := ⟨(.type "function"), none, (.func ⟨(S "ask_landed"), (S "ask_landed"), L2.defArgs (top 33), .stmts (L2.defBody (top 33)), L2.defScope (top 33), 3, [], .none, .none, .none, (.str (S "givenback.watch") 395), none, (.ref 225), .none, 0⟩), [].toArray⟩
def Qa (P : Params) : Obj := ⟨(.type "tuple"), none, (.seq [].toArray 0), [].toArray⟩
def Qc (P : Params) : Obj := ⟨.none, none, (.fields [].toArray), [].toArray⟩
def Qe (P : Params) : Obj := ⟨(.type "tuple"), none, (.seq [(.str (S "watch") 534), (.str (S "task") 535), (.str (S "row") 536)].toArray 0), [].toArray⟩
def Qg (P : Params) : Obj := ⟨(.type "tuple"), none, (.seq [].toArray 0), [].toArray⟩
def Qh (P : Params) : Obj := ⟨.none, none, (.func ⟨(S "ask_masked"), (S "ask_masked"), L2.defArgs (top 34), .stmts (L2.defBody (top 34)), L2.defScope (top 34), 0, [], .none, .none, .none, .none, none, .none, .none, 0⟩), [].toArray⟩
def Qi (P : Params) : Obj := ⟨(.type "code"), none, (.fields [(.str (S "ask_masked") 531), (.str (S "ask_masked") 532), (.str (S "/claim/cut.py") 533), (.int (108) 0), (.int (3) 0), (.int (0) 0), (.int (0) 0), (.int (3) 0), (.ref 227), (.bool true), (.int (181) 0), (.ref 228), .none, (.ref 229), (.ref 230), (.ref 231), (.int (537) 0), (.int (108) 0), (.str (S "/claim/cut.py") 538)].toArray), [].toArray⟩
def Ql (P : Params) : Obj := ⟨(.type "function"), none, (.func ⟨(S "ask_masked"), (S "ask_masked"), L2.defArgs (top 34), .stmts (L2.defBody (top 34)), L2.defScope (top 34), 3, [], .none, .none, .none, (.str (S "givenback.watch") 395), none, (.ref 232), .none, 0⟩), [].toArray⟩
def Qm (P : Params) : Obj := ⟨(.type "tuple"), none, (.seq [].toArray 0), [].toArray⟩
def Qn (P : Params) : Obj := ⟨.none, none, (.fields [].toArray), [].toArray⟩
def Qo (P : Params) : Obj := ⟨(.type "tuple"), none, (.seq [(.str (S "watch") 543), (.str (S "task") 544), (.str (S "row") 545)].toArray 0), [].toArray⟩
def Qp (P : Params) : Obj := ⟨(.type "tuple"), none, (.seq [].toArray 0), [].toArray⟩
def Qq (P : Params) : Obj := ⟨.none, none, (.func ⟨(S "ask_opened"), (S "ask_opened"), L2.defArgs (top 35), .stmts (L2.defBody (top 35)), L2.defScope (top 35), 0, [], .none, .none, .none, .none, none, .none, .none, 0⟩), [].toArray⟩
def Qs (P : Params) : Obj := ⟨(.type "code"), none, (.fields [(.str (S "ask_opened") 540), (.str (S "ask_opened") 541), (.str (S "/claim/cut.py") 542), (.int (110) 0), (.int (3) 0), (.int (0) 0), (.int (0) 0), (.int (3) 0), (.ref 234), (.bool true), (.int (181) 0), (.ref 235), .none, (.ref 236), (.ref 237), (.ref 238), (.int (546) 0), (.int (110) 0), (.str (S "/claim/cut.py") 547)].toArray), [].toArray⟩
def Qt (P : Params) : Obj := ⟨(.type "function"), none, (.func ⟨(S "ask_opened"), (S "ask_opened"), L2.defArgs (top 35), .stmts (L2.defBody (top 35)), L2.defScope (top 35), 3, [], .none, .none, .none, (.str (S "givenback.watch") 395), none, (.ref 239), .none, 0⟩), [].toArray⟩
def Qu (P : Params) : Obj := ⟨(.type "tuple"), none, (.seq [].toArray 0), [].toArray⟩
def Qv (P : Params) : Obj := ⟨.none, none, (.fields [].toArray), [].toArray⟩
def Qw (P : Params) : Obj := ⟨(.type "tuple"), none, (.seq [(.str (S "watch") 552), (.str (S "task") 553), (.str (S "row") 554)].toArray 0), [].toArray⟩
def Qx (P : Params) : Obj := ⟨(.type "tuple"), none, (.seq [].toArray 0), [].toArray⟩
def Qy (P : Params) : Obj := ⟨.none, none, (.func ⟨(S "ask_last"), (S "ask_last"), L2.defArgs (top 36), .stmts (L2.defBody (top 36)), L2.defScope (top 36), 0, [], .none, .none, .none, .none, none, .none, .none, 0⟩), [].toArray⟩
def Qz (P : Params) : Obj := ⟨(.type "code"), none, (.fields [(.str (S "ask_last") 549), (.str (S "ask_last") 550), (.str (S "/claim/cut.py") 551), (.int (112) 0), (.int (3) 0), (.int (0) 0), (.int (0) 0), (.int (3) 0), (.ref 241), (.bool true), (.int (181) 0), (.ref 242), .none, (.ref 243), (.ref 244), (.ref 245), (.int (555) 0), (.int (112) 0), (.str (S "/claim/cut.py") 556)].toArray), [].toArray⟩
def QC (P : Params) : Obj := ⟨(.type "function"), none, (.func ⟨(S "ask_last"), (S "ask_last"), L2.defArgs (top 36), .stmts (L2.defBody (top 36)), L2.defScope (top 36), 3, [], .none, .none, .none, (.str (S "givenback.watch") 395), none, (.ref 246), .none, 0⟩), [].toArray⟩
def QD (P : Params) : Obj := ⟨(.type "tuple"), none, (.seq [].toArray 0), [].toArray⟩
def QF (P : Params) : Obj := ⟨.none, none, (.fields [].toArray), [].toArray⟩
def QG (P : Params) : Obj := ⟨(.type "tuple"), none, (.seq [(.str (S "watch") 561), (.str (S "task") 562), (.str (S "row") 563)].toArray 0), [].toArray⟩
def QJ (P : Params) : Obj := ⟨(.type "tuple"), none, (.seq [].toArray 0), [].toArray⟩
def QK (P : Params) : Obj := ⟨.none, none, (.func ⟨(S "ask_lasted"), (S "ask_lasted"), L2.defArgs (top 37), .stmts (L2.defBody (top 37)), L2.defScope (top 37), 0, [], .none, .none, .none, .none, none, .none, .none, 0⟩), [].toArray⟩
def QL (P : Params) : Obj := ⟨(.type "code"), none, (.fields [(.str (S "ask_lasted") 558), (.str (S "ask_lasted") 559), (.str (S "/claim/cut.py") 560), (.int (114) 0), (.int (3) 0), (.int (0) 0), (.int (0) 0), (.int (3) 0), (.ref 248), (.bool true), (.int (181) 0), (.ref 249), .none, (.ref 250), (.ref 251), (.ref 252), (.int (564) 0), (.int (114) 0), (.str (S "/claim/cut.py") 565)].toArray), [].toArray⟩
def QM (P : Params) : Obj := ⟨(.type "function"), none, (.func ⟨(S "ask_lasted"), (S "ask_lasted"), L2.defArgs (top 37), .stmts (L2.defBody (top 37)), L2.defScope (top 37), 3, [], .none, .none, .none, (.str (S "givenback.watch") 395), none, (.ref 253), .none, 0⟩), [].toArray⟩
def QS (P : Params) : Obj := ⟨(.type "tuple"), none, (.seq [].toArray 0), [].toArray⟩
def QT (P : Params) : Obj := ⟨.none, none, (.fields [].toArray), [].toArray⟩
def QV (P : Params) : Obj := ⟨(.type "tuple"), none, (.seq [(.str (S "watch") 570), (.str (S "task") 571), (.str (S "row") 572)].toArray 0), [].toArray⟩
def QW (P : Params) : Obj := ⟨(.type "tuple"), none, (.seq [].toArray 0), [].toArray⟩
def QX (P : Params) : Obj := ⟨.none, none, (.func ⟨(S "ask_rescued"), (S "ask_rescued"), L2.defArgs (top 38), .stmts (L2.defBody (top 38)), L2.defScope (top 38), 0, [], .none, .none, .none, .none, none, .none, .none, 0⟩), [].toArray⟩
def QZ (P : Params) : Obj := ⟨(.type "code"), none, (.fields [(.str (S "ask_rescued") 567), (.str (S "ask_rescued") 568), (.str (S "/claim/cut.py") 569), (.int (116) 0), (.int (3) 0), (.int (0) 0), (.int (0) 0), (.int (3) 0), (.ref 255), (.bool true), (.int (181) 0), (.ref 256), .none, (.ref 257), (.ref 258), (.ref 259), (.int (573) 0), (.int (116) 0), (.str (S "/claim/cut.py") 574)].toArray), [].toArray⟩
def Q5 (P : Params) : Obj := ⟨(.type "function"), none, (.func ⟨(S "ask_rescued"), (S "ask_rescued"), L2.defArgs (top 38), .stmts (L2.defBody (top 38)), L2.defScope (top 38), 3, [], .none, .none, .none, (.str (S "givenback.watch") 395), none, (.ref 260), .none, 0⟩), [].toArray⟩
def Q6 (P : Params) : Obj := ⟨(.type "tuple"), none, (.seq [].toArray 0), [].toArray⟩
def Q7 (P : Params) : Obj := ⟨.none, none, (.fields [].toArray), [].toArray⟩
def Q8 (P : Params) : Obj := ⟨.none, none, (.func ⟨(S "ask_ended"), (S "ask_ended"), L2.defArgs (top 39), .stmts (L2.defBody (top 39)), L2.defScope (top 39), 0, [], .none, .none, .none, .none, none, .none, .none, 0⟩), [].toArray⟩
def Q9 (P : Params) : Obj := ⟨(.type "code"), none, (.fields [(.str (S "ask_ended") 576), (.str (S "ask_ended") 577), (.str (S "/claim/cut.py") 578), (.int (118) 0), (.int (3) 0), (.int (0) 0), (.int (0) 0), (.int (3) 0), (.ref 262), (.bool true), (.int (181) 0), (.ref 263), .none, .none, .none, (.ref 264), (.int (579) 0), (.int (118) 0), (.str (S "/claim/cut.py") 580)].toArray), [].toArray⟩
def Rb (P : Params) : Obj := ⟨(.type "function"), none, (.func ⟨(S "ask_ended"), (S "ask_ended"), L2.defArgs (top 39), .stmts (L2.defBody (top 39)), L2.defScope (top 39), 3, [], .none, .none, .none, (.str (S "givenback.watch") 395), none, (.ref 265), .none, 0⟩), [].toArray⟩
def b20 (P : Params) : BT := (.node (Ig P) (.node (Jv P) (.node (Es P) (.node (Fo P) (.node (Ma P) (au (QS P)) .nil) (au (Oi P))) (.node (KC P) (au (M7 P)) (au (PB P)))) (.node (Wn P) (.node (Ka P) (au (XD P)) (au (O6 P))) (.node (Ld P) (au (Nz P)) (au (Qs P))))) (.node (Eh P) (.node (Wf P) (.node (JT P) (.node (Mq P) (au (Q7 P)) .nil) (au (Ow P))) (.node (KQ P) (au (Nk P)) (au (Qh P)))) (.node (Ey P) (.node (Ko P) (au (MF P)) (au (Pj P))) (.node (Lq P) (au (N7 P)) (au (QC P))))))
def b21 (P : Params) : BT := (.node (Jz P) (.node (JF P) (.node (Fq P) (.node (Mi P) (au (QX P)) .nil) (au (Oo P))) (.node (KN P) (au (X3 P)) (au (Qa P)))) (.node (Wt P) (.node (Kf P) (au (XM P)) (au (Pa P))) (.node (Lj P) (au (NT P)) (au (Qw P)))))
def b22 (P : Params) : BT := (.node (K7 P) (au (Nt P)) (au (Qn P)))
def b23 (P : Params) : BT := (.node (Fe P) (.node (Kv P) (au (MP P)) (au (Pr P))) (.node (LC P) (au (Od P)) (au (QJ P))))
def b24 (P : Params) : BT := (.node (Ie P) (.node (Ii P) (.node (Jx P) (.node (Eu P) (.node (JQ P) (.node (Mg P) (au (QV P)) .nil) (au (Ol P))) (.node (KH P) (au (M9 P)) (au (PN P)))) (.node (Wr P) (.node (Kd P) (au (XH P)) (au (O8 P))) (.node (Lg P) (au (NP P)) (au (Qu P))))) (.node (Ek P) (.node (Wi P) (.node (JW P) (.node (Ms P) (au (Q9 P)) .nil) (au (Oz P))) (.node (KZ P) (au (Nq P)) (au (Ql P)))) (.node (EY P) (.node (Ks P) (au (MK P)) (au (Pn P))) (.node (Ly P) (au (Oa P)) (au (QF P)))))) (.node (Ah P) (.node (JC P) (.node (JH P) (.node (Fv P) (.node (Ml P) (au (Q5 P)) .nil) (au (Ou P))) (.node (Cy P) (au (Nf P)) (au (Qe P)))) (.node (Wv P) (.node (Kh P) (au (XR P)) (au (Pg P))) (.node (Ln P) (au (N5 P)) (au (Qy P))))) (.node (Eo P) (.node (JM P) (.node (J8 P) (au (Mw P)) (au (O4 P))) (.node (K9 P) (au (Nv P)) (au (Qp P)))) (.node (Fj P) (.node (Ky P) (au (M5 P)) (au (Px P))) (.node (LQ P) (au (Og P)) (au (QL P)))))))
def b25 (P : Params) : BT := (.node (Cq P) (.node (Cr P) (.node (Ih P) (.node (Jw P) (.node (Et P) (.node (Fp P) (.node (Mf P) (au (QT P)) .nil) (au (Oj P))) (.node (KD P) (au (M8 P)) (au (PL P)))) (.node (Wq P) (.node (Kc P) (au (XF P)) (au (O7 P))) (.node (Lf P) (au (NK P)) (au (Qt P))))) (.node (Ei P) (.node (Wh P) (.node (JV P) (.node (Mr P) (au (Q8 P)) .nil) (au (Ox P))) (.node (KY P) (au (Np P)) (au (Qi P)))) (.node (Ez P) (.node (Kr P) (au (MJ P)) (au (Pk P))) (.node (Lr P) (au (N8 P)) (au (QD P)))))) (.node (alM P) (.node (JB P) (.node (JG P) (.node (Ft P) (.node (Mj P) (au (QZ P)) .nil) (au (Oq P))) (.node (Cv P) (au (Nb P)) (au (Qc P)))) (.node (Wu P) (.node (Kg P) (au (XQ P)) (au (Pb P))) (.node (Lk P) (au (NZ P)) (au (Qx P))))) (.node (Em P) (.node (JL P) (.node (JZ P) (au (Mv P)) (au (OJ P))) (.node (K8 P) (au (Nu P)) (au (Qo P)))) (.node (Fg P) (.node (Kw P) (au (M4 P)) (au (Pu P))) (.node (LK P) (au (Oe P)) (au (QK P))))))) (.node (Cu P) (.node (Ag P) (.node (Jy P) (.node (JD P) (.node (JR P) (.node (Mh P) (au (QW P)) .nil) (au (Om P))) (.node (KJ P) (au (XS P)) (au (P0 P)))) (.node (Ws P) (.node (Ke P) (au (XJ P)) (au (O9 P))) (.node (Lh P) (au (NQ P)) (au (Qv P))))) (.node (El P) (.node (Wj P) (.node (JX P) (.node (Mu P) (au (Rb P)) .nil) (au (OD P))) (.node (K6 P) (au (Nr P)) (au (Qm P)))) (.node (Fb P) (.node (Ku P) (au (MN P)) (au (Pq P))) (.node (Lz P) (au (Oc P)) (au (QG P)))))) (.node (Ai P) (.node (Ef P) (.node (JK P) (.node (Fw P) (.node (Mp P) (au (Q6 P)) .nil) (au (Ov P))) (.node (Cz P) (au (Nh P)) (au (Qg P)))) (.node (JN P) (.node (Km P) (au (Mz P)) (au (Ph P))) (.node (Lp P) (au (N6 P)) (au (Qz P))))) (.node (Ep P) (.node (Wk P) (.node (J9 P) (au (Mx P)) (au (O5 P))) (.node (La P) (au (Ny P)) (au (Qq P)))) (.node (Fl P) (.node (Kz P) (au (M6 P)) (au (Py P))) (.node (LR P) (au (Oh P)) (au (QM P))))))))
def t4 (P : Params) : BT := (.node (Af P) (.node (Cp P) (.node (anj P) (b20 P) (.node (yj P) (b21 P) (.node (Aj P) (.node (Ew P) (.node (Fx P) (au (CG P)) (au (CJ P))) (b22 P)) (b23 P)))) (b24 P)) (b25 P))
def S4 (w : World) (os : OsState) : SharedT := ⟨t4 w.params, 267, ⟨[], [], [], 0, [], [], false, [].toArray, [], 0, false, false, false, 0, [2000, 10, 10], false, 0, true, [], [], 0, false⟩, #[], ⟨0, 0, 0, 0⟩, 582, os⟩
theorem p4 (w : World) : ∀ os : OsState, HP.Piece PySem.Challenge.pw_givenback_k23_things_got_and_given w n0 yq env0 q0 c0 oh 12 28 926 (S3 w os) (S4 w os) ⟨24, 0, 24, 5⟩ ⟨118, 0, 128, 70⟩ := by
  intro os
  unfold HP.Piece
  kernel_rfl
def ank (P : Params) : Obj := ⟨(.type "dict"), none, (.dict [E P "__name__" 165 (.str (S "givenback.watch") 395), E P "__doc__" 166 .none, E P "__package__" 167 .none, E P "__loader__" 168 (.builtin "__main__.__loader__#opaque"), E P "__spec__" 169 .none, E P "__annotations__" 170 (.ref 6), E P "__builtins__" 171 (.ref 4), E P "__file__" 173 (.str (S "/claim/cut.py") 172), E P "__cached__" 174 .none, E P "WorkError" 216 (.ref 32), E P "BadRun" 232 (.ref 45), E P "Broken" 258 (.ref 64), E P "LETTERS" 262 (.str (S "abcdefghijklmnopqrstuvwxyz") 261), E P "LONGEST" 264 (.int (8) 263), E P "is_name" 270 (.ref 71), E P "is_whole" 279 (.ref 78), E P "is_number" 286 (.ref 85), E P "FORMS" 351 (.ref 86), E P "is_outcome" 358 (.ref 109), E P "is_count" 365 (.ref 116), E P "is_part" 373 (.ref 123), E P "is_log_row" 379 (.ref 128), E P "doer_of" 386 (.ref 135), E P "check_told" 394 (.ref 140), E P "ON" 398 (.ref 141), E P "KILLED" 400 (.ref 142), E P "MOST_TASKS" 402 (.int (12) 401), E P "PLAIN_SIZE" 404 (.int (1) 403), E P "Seen" 441 (.ref 159), E P "first_so" 450 (.ref 170), E P "ask_doing" 459 (.ref 177), E P "ask_begun" 470 (.ref 184), E P "ask_kill" 483 (.ref 191), E P "ask_late" 493 (.ref 198), E P "ask_nobody" 502 (.ref 205), E P "ask_got" 512 (.ref 212), E P "ask_given" 521 (.ref 219), E P "ask_landed" 530 (.ref 226), E P "ask_masked" 539 (.ref 233), E P "ask_opened" 548 (.ref 240), E P "ask_last" 557 (.ref 247), E P "ask_lasted" 566 (.ref 254), E P "ask_rescued" 575 (.ref 261), E P "ask_ended" 581 (.ref 266), E P "ASKING" 614 (.ref 267)].toArray 45), [].toArray⟩
def Rf (P : Params) : Obj := ⟨(.type "dict"), none, (.dict [E P "tell" 582 (.ref 177), E P "add" 584 (.ref 177), E P "failed" 586 (.ref 177), E P "rescued" 588 (.ref 261), E P "got" 590 (.ref 212), E P "given" 592 (.ref 219), E P "masked" 594 (.ref 233), E P "opened" 596 (.ref 240), E P "last" 598 (.ref 247), E P "lasted" 600 (.ref 254), E P "begun" 602 (.ref 184), E P "kill" 604 (.ref 191), E P "late" 606 (.ref 198), E P "nobody" 608 (.ref 205), E P "landed" 610 (.ref 226), E P "ended" 612 (.ref 266)].toArray 16), [].toArray⟩
def t5 (P : Params) : BT := (.node (Af P) (.node (Cp P) (.node (ank P) (b20 P) (.node (yj P) (b21 P) (.node (Aj P) (.node (Ew P) (.node (Fx P) (.node (CG P) (au (Rf P)) .nil) (au (CJ P))) (b22 P)) (b23 P)))) (b24 P)) (b25 P))
def S5 (w : World) (os : OsState) : SharedT := ⟨t5 w.params, 268, ⟨[], [], [], 0, [], [], false, [].toArray, [], 0, false, false, false, 0, [2000, 10, 10], false, 0, true, [], [], 0, false⟩, #[], ⟨0, 0, 0, 0⟩, 615, os⟩
theorem anl (w : World) : ∀ os : OsState, HP.Piece PySem.Challenge.pw_givenback_k23_things_got_and_given (w.withFollow "special-get-raises" false) n0 yq env0 q0 c0 oh 40 1 268 (S4 (w.withFollow "special-get-raises" false) os) (S5 (w.withFollow "special-get-raises" false) os) ⟨118, 0, 128, 70⟩ ⟨129, 0, 129, 6⟩ := by
  intro os
  unfold HP.Piece
  kernel_rfl
theorem anm (w : World) : ∀ os : OsState, HP.Piece PySem.Challenge.pw_givenback_k23_things_got_and_given (w.withFollow "special-get-raises" true) n0 yq env0 q0 c0 oh 40 1 268 (S4 (w.withFollow "special-get-raises" true) os) (S5 (w.withFollow "special-get-raises" true) os) ⟨118, 0, 128, 70⟩ ⟨129, 0, 129, 6⟩ := by
  intro os
  unfold HP.Piece
  kernel_rfl
theorem p5 (w : World) : ∀ os : OsState, HP.Piece PySem.Challenge.pw_givenback_k23_things_got_and_given w n0 yq env0 q0 c0 oh 40 1 268 (S4 w os) (S5 w os) ⟨118, 0, 128, 70⟩ ⟨129, 0, 129, 6⟩ := byRow2 "special-get-raises" (P := fun w => ∀ os : OsState, HP.Piece PySem.Challenge.pw_givenback_k23_things_got_and_given w n0 yq env0 q0 c0 oh 40 1 268 (S4 w os) (S5 w os) ⟨118, 0, 128, 70⟩ ⟨129, 0, 129, 6⟩) anl anm w
def agi (P : Params) : Obj := ⟨(.type "dict"), none, (.dict [E P "__name__" 165 (.str (S "law_givenback_k23_things_got_and_given") 733), E P "__doc__" 166 .none, E P "__package__" 167 .none, E P "__loader__" 168 (.builtin "__main__.__loader__#opaque"), E P "__spec__" 169 .none, E P "__annotations__" 170 (.ref 6), E P "__builtins__" 171 (.ref 4), E P "__file__" 173 (.str (S "/claim/cut.py") 172), E P "__cached__" 174 .none, E P "WorkError" 216 (.ref 32), E P "BadRun" 232 (.ref 45), E P "Broken" 258 (.ref 64), E P "LETTERS" 262 (.str (S "abcdefghijklmnopqrstuvwxyz") 261), E P "LONGEST" 264 (.int (8) 263), E P "is_name" 270 (.ref 71), E P "is_whole" 279 (.ref 78), E P "is_number" 286 (.ref 85), E P "FORMS" 351 (.ref 86), E P "is_outcome" 358 (.ref 109), E P "is_count" 365 (.ref 116), E P "is_part" 373 (.ref 123), E P "is_log_row" 379 (.ref 128), E P "doer_of" 386 (.ref 135), E P "check_told" 394 (.ref 140), E P "ON" 398 (.ref 141), E P "KILLED" 400 (.ref 142), E P "MOST_TASKS" 402 (.int (12) 401), E P "PLAIN_SIZE" 404 (.int (1) 403), E P "Seen" 441 (.ref 159), E P "first_so" 450 (.ref 170), E P "ask_doing" 459 (.ref 177), E P "ask_begun" 470 (.ref 184), E P "ask_kill" 483 (.ref 191), E P "ask_late" 493 (.ref 198), E P "ask_nobody" 502 (.ref 205), E P "ask_got" 512 (.ref 212), E P "ask_given" 521 (.ref 219), E P "ask_landed" 530 (.ref 226), E P "ask_masked" 539 (.ref 233), E P "ask_opened" 548 (.ref 240), E P "ask_last" 557 (.ref 247), E P "ask_lasted" 566 (.ref 254), E P "ask_rescued" 575 (.ref 261), E P "ask_ended" 581 (.ref 266), E P "ASKING" 614 (.ref 267), E P "Watch" 732 (.ref 349), E P "_law_cell_at" 742 (.ref 360), E P "_law_well" 749 (.ref 367), E P "_law_draw" 759 (.ref 374), E P "_law_one" 767 (.ref 381), E P "_law_word" 773 (.ref 386), E P "_law_full" 779 (.ref 391), E P "_law_due" 791 (.ref 398), E P "_law_done" 797 (.ref 403), E P "_law_row" 810 (.ref 410), E P "_law_seen" 819 (.ref 417), E P "_law_ends" 825 (.ref 422), E P "law" 846 (.ref 429)].toArray 58), [].toArray⟩
def ahs (P : Params) : Obj := ⟨.none, none, (.fields [(.int (2) 0), (.int (0) 0), (.ref 20), (.int (7) 0), (.int (0) 0), (.ref 41), (.int (9) 0), (.int (0) 0), (.ref 53), (.int (17) 0), (.int (0) 0), (.ref 70), (.int (19) 0), (.int (0) 0), (.ref 77), (.int (21) 0), (.int (0) 0), (.ref 84), (.int (25) 0), (.int (0) 0), (.ref 108), (.int (29) 0), (.int (0) 0), (.ref 115), (.int (31) 0), (.int (0) 0), (.ref 122), (.int (41) 0), (.int (0) 0), (.ref 127), (.int (48) 0), (.int (0) 0), (.ref 134), (.int (53) 0), (.int (0) 0), (.ref 139), (.int (63) 0), (.int (0) 0), (.ref 148), (.int (73) 0), (.int (0) 0), (.ref 169), (.int (78) 0), (.int (0) 0), (.ref 176), (.int (80) 0), (.int (0) 0), (.ref 183), (.int (84) 0), (.int (0) 0), (.ref 190), (.int (92) 0), (.int (0) 0), (.ref 197), (.int (97) 0), (.int (0) 0), (.ref 204), (.int (99) 0), (.int (0) 0), (.ref 211), (.int (102) 0), (.int (0) 0), (.ref 218), (.int (106) 0), (.int (0) 0), (.ref 225), (.int (108) 0), (.int (0) 0), (.ref 232), (.int (110) 0), (.int (0) 0), (.ref 239), (.int (112) 0), (.int (0) 0), (.ref 246), (.int (114) 0), (.int (0) 0), (.ref 253), (.int (116) 0), (.int (0) 0), (.ref 260), (.int (118) 0), (.int (0) 0), (.ref 265), (.int (130) 0), (.int (0) 0), (.ref 273), (.int (235) 0), (.int (0) 0), (.ref 359), (.int (239) 0), (.int (0) 0), (.ref 366), (.int (241) 0), (.int (0) 0), (.ref 373), (.int (250) 0), (.int (0) 0), (.ref 380), (.int (252) 0), (.int (0) 0), (.ref 385), (.int (255) 0), (.int (0) 0), (.ref 390), (.int (257) 0), (.int (0) 0), (.ref 397), (.int (275) 0), (.int (0) 0), (.ref 402), (.int (286) 0), (.int (0) 0), (.ref 409), (.int (297) 0), (.int (0) 0), (.ref 416), (.int (304) 0), (.int (0) 0), (.ref 421), (.int (322) 0), (.int (0) 0), (.ref 428)].toArray), [].toArray⟩
def aeN (P : Params) : Obj := ⟨(.type "tuple"), none, (.seq [].toArray 0), [].toArray⟩
def aeO (P : Params) : Obj := ⟨(.type "builtin_function_or_method"), none, (.fields [(.builtin "type.__prepare__"), (.type "type")].toArray), [].toArray⟩
def aeP (P : Params) : Obj := ⟨(.type "dict"), none, (.dict [E P "__module__" 622 (.str (S "givenback.watch") 395), E P "__qualname__" 624 (.str (S "Watch") 623), E P "__firstlineno__" 626 (.int (130) 625), E P "__init__" 637 (.ref 282), E P "see" 646 (.ref 289), E P "seen" 653 (.ref 296), E P "reason" 659 (.ref 301), E P "is_latest" 667 (.ref 308), E P "is_full" 673 (.ref 313), E P "may_fail" 679 (.ref 318), E P "take" 688 (.ref 325), E P "hold" 697 (.ref 332), E P "turn" 708 (.ref 339), E P "go_on" 717 (.ref 346), E P "__static_attributes__" 725 (.ref 347)].toArray 15), [].toArray⟩
def aeQ (P : Params) : Obj := ⟨(.type "tuple"), none, (.seq [].toArray 0), [].toArray⟩
def aeR (P : Params) : Obj := ⟨.none, none, (.fields [(.int (132) 0), (.int (4) 0), (.ref 281), (.int (142) 0), (.int (4) 0), (.ref 288), (.int (151) 0), (.int (4) 0), (.ref 295), (.int (154) 0), (.int (4) 0), (.ref 300), (.int (171) 0), (.int (4) 0), (.ref 307), (.int (174) 0), (.int (4) 0), (.ref 312), (.int (178) 0), (.int (4) 0), (.ref 317), (.int (185) 0), (.int (4) 0), (.ref 324), (.int (203) 0), (.int (4) 0), (.ref 331), (.int (211) 0), (.int (4) 0), (.ref 338), (.int (224) 0), (.int (4) 0), (.ref 345)].toArray), [].toArray⟩
def aeS (P : Params) : Obj := ⟨(.type "code"), none, (.fields [(.str (S "Watch") 617), (.str (S "Watch") 618), (.str (S "/claim/cut.py") 619), (.int (130) 0), (.int (0) 0), (.int (0) 0), (.int (0) 0), (.int (0) 0), (.ref 271), (.bool false), (.int (181) 0), (.ref 272), .none, .none, .none, .none, (.int (620) 0), (.int (130) 0), (.str (S "/claim/cut.py") 621)].toArray), [].toArray⟩
def aeT (P : Params) : Obj := ⟨(.type "frame"), none, .plain, [(some (.ref 273)), (some (.ref 3)), (some (.ref 270)), none, (some (.str (S "givenback.watch") 395)), none, (some (.ref 0))].toArray⟩
def X4 (P : Params) : Obj := ⟨(.type "dict"), none, (.dict [E P "things" 627 .none, E P "raw" 628 (.bool false)].toArray 2), [].toArray⟩
def X5 (P : Params) : Obj := ⟨(.type "tuple"), none, (.seq [].toArray 0), [].toArray⟩
def X6 (P : Params) : Obj := ⟨.none, none, (.fields [].toArray), [].toArray⟩
def X7 (P : Params) : Obj := ⟨(.type "tuple"), none, (.seq [(.str (S "self") 632), (.str (S "things") 633), (.str (S "raw") 634)].toArray 0), [].toArray⟩
def X8 (P : Params) : Obj := ⟨(.type "tuple"), none, (.seq [].toArray 0), [].toArray⟩
def Yb (P : Params) : Obj := ⟨.none, none, (.func ⟨(S "__init__"), (S "Watch.__init__"), L2.defArgs (L2.inClass (top 41) 0), .stmts (L2.defBody (L2.inClass (top 41) 0)), L2.defScope (L2.inClass (top 41) 0), 0, [], .none, .none, .none, .none, none, .none, .none, 0⟩), [].toArray⟩
def Yc (P : Params) : Obj := ⟨(.type "code"), none, (.fields [(.str (S "__init__") 629), (.str (S "Watch.__init__") 630), (.str (S "/claim/cut.py") 631), (.int (132) 0), (.int (1) 0), (.int (0) 0), (.int (2) 0), (.int (3) 0), (.ref 276), (.bool true), (.int (181) 0), (.ref 277), .none, (.ref 278), (.ref 279), (.ref 280), (.int (635) 0), (.int (132) 0), (.str (S "/claim/cut.py") 636)].toArray), [].toArray⟩
def Yd (P : Params) : Obj := ⟨(.type "function"), none, (.func ⟨(S "__init__"), (S "Watch.__init__"), L2.defArgs (L2.inClass (top 41) 0), .stmts (L2.defBody (L2.inClass (top 41) 0)), L2.defScope (L2.inClass (top 41) 0), 3, [], .none, (.ref 275), .none, (.str (S "givenback.watch") 395), none, (.ref 281), .none, 0⟩), [].toArray⟩
def Ye (P : Params) : Obj := ⟨(.type "tuple"), none, (.seq [].toArray 0), [].toArray⟩
def Yg (P : Params) : Obj := ⟨.none, none, (.fields [].toArray), [].toArray⟩
def Yh (P : Params) : Obj := ⟨(.type "tuple"), none, (.seq [(.str (S "self") 641), (.str (S "row") 642), (.str (S "why") 643)].toArray 0), [].toArray⟩
def Yi (P : Params) : Obj := ⟨(.type "tuple"), none, (.seq [].toArray 0), [].toArray⟩
def Yj (P : Params) : Obj := ⟨.none, none, (.func ⟨(S "see"), (S "Watch.see"), L2.defArgs (L2.inClass (top 41) 1), .stmts (L2.defBody (L2.inClass (top 41) 1)), L2.defScope (L2.inClass (top 41) 1), 0, [], .none, .none, .none, .none, none, .none, .none, 0⟩), [].toArray⟩
def Yk (P : Params) : Obj := ⟨(.type "code"), none, (.fields [(.str (S "see") 638), (.str (S "Watch.see") 639), (.str (S "/claim/cut.py") 640), (.int (142) 0), (.int (2) 0), (.int (0) 0), (.int (0) 0), (.int (3) 0), (.ref 283), (.bool true), (.int (181) 0), (.ref 284), .none, (.ref 285), (.ref 286), (.ref 287), (.int (644) 0), (.int (142) 0), (.str (S "/claim/cut.py") 645)].toArray), [].toArray⟩
def Yl (P : Params) : Obj := ⟨(.type "function"), none, (.func ⟨(S "see"), (S "Watch.see"), L2.defArgs (L2.inClass (top 41) 1), .stmts (L2.defBody (L2.inClass (top 41) 1)), L2.defScope (L2.inClass (top 41) 1), 3, [], .none, .none, .none, (.str (S "givenback.watch") 395), none, (.ref 288), .none, 0⟩), [].toArray⟩
def Ym (P : Params) : Obj := ⟨(.type "tuple"), none, (.seq [].toArray 0), [].toArray⟩
def Yn (P : Params) : Obj := ⟨.none, none, (.fields [].toArray), [].toArray⟩
def Yo (P : Params) : Obj := ⟨(.type "tuple"), none, (.seq [(.str (S "self") 650)].toArray 0), [].toArray⟩
def Yp (P : Params) : Obj := ⟨(.type "tuple"), none, (.seq [].toArray 0), [].toArray⟩
def Yq (P : Params) : Obj := ⟨.none, none, (.func ⟨(S "seen"), (S "Watch.seen"), L2.defArgs (L2.inClass (top 41) 2), .stmts (L2.defBody (L2.inClass (top 41) 2)), L2.defScope (L2.inClass (top 41) 2), 0, [], .none, .none, .none, .none, none, .none, .none, 0⟩), [].toArray⟩
def Yr (P : Params) : Obj := ⟨(.type "code"), none, (.fields [(.str (S "seen") 647), (.str (S "Watch.seen") 648), (.str (S "/claim/cut.py") 649), (.int (151) 0), (.int (1) 0), (.int (0) 0), (.int (0) 0), (.int (3) 0), (.ref 290), (.bool true), (.int (181) 0), (.ref 291), .none, (.ref 292), (.ref 293), (.ref 294), (.int (651) 0), (.int (151) 0), (.str (S "/claim/cut.py") 652)].toArray), [].toArray⟩
def Ys (P : Params) : Obj := ⟨(.type "function"), none, (.func ⟨(S "seen"), (S "Watch.seen"), L2.defArgs (L2.inClass (top 41) 2), .stmts (L2.defBody (L2.inClass (top 41) 2)), L2.defScope (L2.inClass (top 41) 2), 3, [], .none, .none, .none, (.str (S "givenback.watch") 395), none, (.ref 295), .none, 0⟩), [].toArray⟩
def Yt (P : Params) : Obj := ⟨(.type "tuple"), none, (.seq [].toArray 0), [].toArray⟩
def Yu (P : Params) : Obj := ⟨.none, none, (.fields [].toArray), [].toArray⟩
def Yv (P : Params) : Obj := ⟨.none, none, (.func ⟨(S "reason"), (S "Watch.reason"), L2.defArgs (L2.inClass (top 41) 3), .stmts (L2.defBody (L2.inClass (top 41) 3)), L2.defScope (L2.inClass (top 41) 3), 0, [], .none, .none, .none, .none, none, .none, .none, 0⟩), [].toArray⟩
def Yw (P : Params) : Obj := ⟨(.type "code"), none, (.fields [(.str (S "reason") 654), (.str (S "Watch.reason") 655), (.str (S "/claim/cut.py") 656), (.int (154) 0), (.int (2) 0), (.int (0) 0), (.int (0) 0), (.int (3) 0), (.ref 297), (.bool true), (.int (181) 0), (.ref 298), .none, .none, .none, (.ref 299), (.int (657) 0), (.int (154) 0), (.str (S "/claim/cut.py") 658)].toArray), [].toArray⟩
def Yx (P : Params) : Obj := ⟨(.type "function"), none, (.func ⟨(S "reason"), (S "Watch.reason"), L2.defArgs (L2.inClass (top 41) 3), .stmts (L2.defBody (L2.inClass (top 41) 3)), L2.defScope (L2.inClass (top 41) 3), 3, [], .none, .none, .none, (.str (S "givenback.watch") 395), none, (.ref 300), .none, 0⟩), [].toArray⟩
def Yy (P : Params) : Obj := ⟨(.type "tuple"), none, (.seq [].toArray 0), [].toArray⟩
def Yz (P : Params) : Obj := ⟨.none, none, (.fields [].toArray), [].toArray⟩
def YB (P : Params) : Obj := ⟨(.type "tuple"), none, (.seq [(.str (S "self") 663), (.str (S "number") 664)].toArray 0), [].toArray⟩
def YC (P : Params) : Obj := ⟨(.type "tuple"), none, (.seq [].toArray 0), [].toArray⟩
def YD (P : Params) : Obj := ⟨.none, none, (.func ⟨(S "is_latest"), (S "Watch.is_latest"), L2.defArgs (L2.inClass (top 41) 4), .stmts (L2.defBody (L2.inClass (top 41) 4)), L2.defScope (L2.inClass (top 41) 4), 0, [], .none, .none, .none, .none, none, .none, .none, 0⟩), [].toArray⟩
def YF (P : Params) : Obj := ⟨(.type "code"), none, (.fields [(.str (S "is_latest") 660), (.str (S "Watch.is_latest") 661), (.str (S "/claim/cut.py") 662), (.int (171) 0), (.int (2) 0), (.int (0) 0), (.int (0) 0), (.int (3) 0), (.ref 302), (.bool true), (.int (181) 0), (.ref 303), .none, (.ref 304), (.ref 305), (.ref 306), (.int (665) 0), (.int (171) 0), (.str (S "/claim/cut.py") 666)].toArray), [].toArray⟩
def YG (P : Params) : Obj := ⟨(.type "function"), none, (.func ⟨(S "is_latest"), (S "Watch.is_latest"), L2.defArgs (L2.inClass (top 41) 4), .stmts (L2.defBody (L2.inClass (top 41) 4)), L2.defScope (L2.inClass (top 41) 4), 3, [], .none, .none, .none, (.str (S "givenback.watch") 395), none, (.ref 307), .none, 0⟩), [].toArray⟩
def YH (P : Params) : Obj := ⟨(.type "tuple"), none, (.seq [].toArray 0), [].toArray⟩
def YJ (P : Params) : Obj := ⟨.none, none, (.fields [].toArray), [].toArray⟩
def YK (P : Params) : Obj := ⟨.none, none, (.func ⟨(S "is_full"), (S "Watch.is_full"), L2.defArgs (L2.inClass (top 41) 5), .stmts (L2.defBody (L2.inClass (top 41) 5)), L2.defScope (L2.inClass (top 41) 5), 0, [], .none, .none, .none, .none, none, .none, .none, 0⟩), [].toArray⟩
def YL (P : Params) : Obj := ⟨(.type "code"), none, (.fields [(.str (S "is_full") 668), (.str (S "Watch.is_full") 669), (.str (S "/claim/cut.py") 670), (.int (174) 0), (.int (2) 0), (.int (0) 0), (.int (0) 0), (.int (3) 0), (.ref 309), (.bool true), (.int (181) 0), (.ref 310), .none, .none, .none, (.ref 311), (.int (671) 0), (.int (174) 0), (.str (S "/claim/cut.py") 672)].toArray), [].toArray⟩
def YM (P : Params) : Obj := ⟨(.type "function"), none, (.func ⟨(S "is_full"), (S "Watch.is_full"), L2.defArgs (L2.inClass (top 41) 5), .stmts (L2.defBody (L2.inClass (top 41) 5)), L2.defScope (L2.inClass (top 41) 5), 3, [], .none, .none, .none, (.str (S "givenback.watch") 395), none, (.ref 312), .none, 0⟩), [].toArray⟩
def YQ (P : Params) : Obj := ⟨(.type "tuple"), none, (.seq [].toArray 0), [].toArray⟩
def YS (P : Params) : Obj := ⟨.none, none, (.fields [].toArray), [].toArray⟩
def YT (P : Params) : Obj := ⟨.none, none, (.func ⟨(S "may_fail"), (S "Watch.may_fail"), L2.defArgs (L2.inClass (top 41) 6), .stmts (L2.defBody (L2.inClass (top 41) 6)), L2.defScope (L2.inClass (top 41) 6), 0, [], .none, .none, .none, .none, none, .none, .none, 0⟩), [].toArray⟩
def YW (P : Params) : Obj := ⟨(.type "code"), none, (.fields [(.str (S "may_fail") 674), (.str (S "Watch.may_fail") 675), (.str (S "/claim/cut.py") 676), (.int (178) 0), (.int (3) 0), (.int (0) 0), (.int (0) 0), (.int (3) 0), (.ref 314), (.bool true), (.int (181) 0), (.ref 315), .none, .none, .none, (.ref 316), (.int (677) 0), (.int (178) 0), (.str (S "/claim/cut.py") 678)].toArray), [].toArray⟩
def YX (P : Params) : Obj := ⟨(.type "function"), none, (.func ⟨(S "may_fail"), (S "Watch.may_fail"), L2.defArgs (L2.inClass (top 41) 6), .stmts (L2.defBody (L2.inClass (top 41) 6)), L2.defScope (L2.inClass (top 41) 6), 3, [], .none, .none, .none, (.str (S "givenback.watch") 395), none, (.ref 317), .none, 0⟩), [].toArray⟩
def YZ (P : Params) : Obj := ⟨(.type "tuple"), none, (.seq [].toArray 0), [].toArray⟩
def Y0 (P : Params) : Obj := ⟨.none, none, (.fields [].toArray), [].toArray⟩
def Y4 (P : Params) : Obj := ⟨(.type "tuple"), none, (.seq [(.str (S "self") 683), (.str (S "row") 684), (.str (S "doer") 685)].toArray 0), [].toArray⟩
def Y5 (P : Params) : Obj := ⟨(.type "tuple"), none, (.seq [].toArray 0), [].toArray⟩
def Y6 (P : Params) : Obj := ⟨.none, none, (.func ⟨(S "take"), (S "Watch.take"), L2.defArgs (L2.inClass (top 41) 7), .stmts (L2.defBody (L2.inClass (top 41) 7)), L2.defScope (L2.inClass (top 41) 7), 0, [], .none, .none, .none, .none, none, .none, .none, 0⟩), [].toArray⟩
def Y7 (P : Params) : Obj := ⟨(.type "code"), none, (.fields [(.str (S "take") 680), (.str (S "Watch.take") 681), (.str (S "/claim/cut.py") 682), (.int (185) 0), (.int (2) 0), (.int (0) 0), (.int (0) 0), (.int (3) 0), (.ref 319), (.bool true), (.int (181) 0), (.ref 320), .none, (.ref 321), (.ref 322), (.ref 323), (.int (686) 0), (.int (185) 0), (.str (S "/claim/cut.py") 687)].toArray), [].toArray⟩
def Y8 (P : Params) : Obj := ⟨(.type "function"), none, (.func ⟨(S "take"), (S "Watch.take"), L2.defArgs (L2.inClass (top 41) 7), .stmts (L2.defBody (L2.inClass (top 41) 7)), L2.defScope (L2.inClass (top 41) 7), 3, [], .none, .none, .none, (.str (S "givenback.watch") 395), none, (.ref 324), .none, 0⟩), [].toArray⟩
def Y9 (P : Params) : Obj := ⟨(.type "tuple"), none, (.seq [].toArray 0), [].toArray⟩
def Za (P : Params) : Obj := ⟨.none, none, (.fields [].toArray), [].toArray⟩
def Zb (P : Params) : Obj := ⟨(.type "tuple"), none, (.seq [(.str (S "self") 692), (.str (S "had") 693), (.str (S "row") 694)].toArray 0), [].toArray⟩
def Zd (P : Params) : Obj := ⟨(.type "tuple"), none, (.seq [].toArray 0), [].toArray⟩
def Ze (P : Params) : Obj := ⟨.none, none, (.func ⟨(S "hold"), (S "Watch.hold"), L2.defArgs (L2.inClass (top 41) 8), .stmts (L2.defBody (L2.inClass (top 41) 8)), L2.defScope (L2.inClass (top 41) 8), 0, [], .none, .none, .none, .none, none, .none, .none, 0⟩), [].toArray⟩
def Zf (P : Params) : Obj := ⟨(.type "code"), none, (.fields [(.str (S "hold") 689), (.str (S "Watch.hold") 690), (.str (S "/claim/cut.py") 691), (.int (203) 0), (.int (3) 0), (.int (0) 0), (.int (0) 0), (.int (3) 0), (.ref 326), (.bool true), (.int (181) 0), (.ref 327), .none, (.ref 328), (.ref 329), (.ref 330), (.int (695) 0), (.int (203) 0), (.str (S "/claim/cut.py") 696)].toArray), [].toArray⟩
def Zg (P : Params) : Obj := ⟨(.type "function"), none, (.func ⟨(S "hold"), (S "Watch.hold"), L2.defArgs (L2.inClass (top 41) 8), .stmts (L2.defBody (L2.inClass (top 41) 8)), L2.defScope (L2.inClass (top 41) 8), 3, [], .none, .none, .none, (.str (S "givenback.watch") 395), none, (.ref 331), .none, 0⟩), [].toArray⟩
def Zh (P : Params) : Obj := ⟨(.type "tuple"), none, (.seq [].toArray 0), [].toArray⟩
def Zi (P : Params) : Obj := ⟨.none, none, (.fields [].toArray), [].toArray⟩
def Zj (P : Params) : Obj := ⟨(.type "tuple"), none, (.seq [(.str (S "self") 701), (.str (S "task") 702), (.str (S "row") 703), (.str (S "state") 704), (.str (S "shut") 705)].toArray 0), [].toArray⟩
def Zk (P : Params) : Obj := ⟨(.type "tuple"), none, (.seq [].toArray 0), [].toArray⟩
def Zm (P : Params) : Obj := ⟨.none, none, (.func ⟨(S "turn"), (S "Watch.turn"), L2.defArgs (L2.inClass (top 41) 9), .stmts (L2.defBody (L2.inClass (top 41) 9)), L2.defScope (L2.inClass (top 41) 9), 0, [], .none, .none, .none, .none, none, .none, .none, 0⟩), [].toArray⟩
def Zo (P : Params) : Obj := ⟨(.type "code"), none, (.fields [(.str (S "turn") 698), (.str (S "Watch.turn") 699), (.str (S "/claim/cut.py") 700), (.int (211) 0), (.int (3) 0), (.int (0) 0), (.int (0) 0), (.int (3) 0), (.ref 333), (.bool true), (.int (181) 0), (.ref 334), .none, (.ref 335), (.ref 336), (.ref 337), (.int (706) 0), (.int (211) 0), (.str (S "/claim/cut.py") 707)].toArray), [].toArray⟩
def Zq (P : Params) : Obj := ⟨(.type "function"), none, (.func ⟨(S "turn"), (S "Watch.turn"), L2.defArgs (L2.inClass (top 41) 9), .stmts (L2.defBody (L2.inClass (top 41) 9)), L2.defScope (L2.inClass (top 41) 9), 3, [], .none, .none, .none, (.str (S "givenback.watch") 395), none, (.ref 338), .none, 0⟩), [].toArray⟩
def Zr (P : Params) : Obj := ⟨(.type "tuple"), none, (.seq [].toArray 0), [].toArray⟩
def Zt (P : Params) : Obj := ⟨.none, none, (.fields [].toArray), [].toArray⟩
def Zu (P : Params) : Obj := ⟨(.type "tuple"), none, (.seq [(.str (S "self") 712), (.str (S "task") 713), (.str (S "row") 714)].toArray 0), [].toArray⟩
def Zv (P : Params) : Obj := ⟨(.type "tuple"), none, (.seq [].toArray 0), [].toArray⟩
def Zw (P : Params) : Obj := ⟨.none, none, (.func ⟨(S "go_on"), (S "Watch.go_on"), L2.defArgs (L2.inClass (top 41) 10), .stmts (L2.defBody (L2.inClass (top 41) 10)), L2.defScope (L2.inClass (top 41) 10), 0, [], .none, .none, .none, .none, none, .none, .none, 0⟩), [].toArray⟩
def Zx (P : Params) : Obj := ⟨(.type "code"), none, (.fields [(.str (S "go_on") 709), (.str (S "Watch.go_on") 710), (.str (S "/claim/cut.py") 711), (.int (224) 0), (.int (3) 0), (.int (0) 0), (.int (0) 0), (.int (3) 0), (.ref 340), (.bool true), (.int (181) 0), (.ref 341), .none, (.ref 342), (.ref 343), (.ref 344), (.int (715) 0), (.int (224) 0), (.str (S "/claim/cut.py") 716)].toArray), [].toArray⟩
def Zy (P : Params) : Obj := ⟨(.type "function"), none, (.func ⟨(S "go_on"), (S "Watch.go_on"), L2.defArgs (L2.inClass (top 41) 10), .stmts (L2.defBody (L2.inClass (top 41) 10)), L2.defScope (L2.inClass (top 41) 10), 3, [], .none, .none, .none, (.str (S "givenback.watch") 395), none, (.ref 345), .none, 0⟩), [].toArray⟩
def Zz (P : Params) : Obj := ⟨(.type "tuple"), none, (.seq [(.str (S "homes") 718), (.str (S "latest") 719), (.str (S "many") 720), (.str (S "must") 721), (.str (S "raw") 722), (.str (S "sizes") 723), (.str (S "tasks") 724)].toArray 0), [].toArray⟩
def ZC (P : Params) : Obj := ⟨(.type "dict"), none, (.dict [E P "__module__" 622 (.str (S "givenback.watch") 395), E P "__firstlineno__" 626 (.int (130) 625), E P "__init__" 637 (.ref 282), E P "see" 646 (.ref 289), E P "seen" 653 (.ref 296), E P "reason" 659 (.ref 301), E P "is_latest" 667 (.ref 308), E P "is_full" 673 (.ref 313), E P "may_fail" 679 (.ref 318), E P "take" 688 (.ref 325), E P "hold" 697 (.ref 332), E P "turn" 708 (.ref 339), E P "go_on" 717 (.ref 346), E P "__static_attributes__" 725 (.ref 347), E P "__dict__" 727 (.ref 350), E P "__weakref__" 729 (.ref 351), E P "__doc__" 730 .none].toArray 4), [].toArray⟩
def ZD (P : Params) : Obj := ⟨(.type "type"), none, (.cls ⟨(S "Watch"), [(.type "object")], [(.ref 349), (.type "object")], 348, (S "Watch"), true, [], [], false, none, false⟩), [none, none, (some (.str (S "Watch") 615)), (some (.str (S "Watch") 623)), (some (.builtin "object.__new__")), (some (.bool true))].toArray⟩
def ZF (P : Params) : Obj := ⟨(.type "getset_descriptor"), none, (.fields [(.str (S "__dict__") 726), (.ref 349), (.builtin "function.__dict__"), (.builtin "function.__dict__#set")].toArray), [].toArray⟩
def ZG (P : Params) : Obj := ⟨(.type "getset_descriptor"), none, (.fields [(.str (S "__weakref__") 728), (.ref 349), (.builtin "ExceptionGroup.__weakref__"), .none].toArray), [].toArray⟩
def aeU (P : Params) : Obj := ⟨(.type "super"), none, (.fields [(.ref 349), (.ref 349), (.ref 349)].toArray), [].toArray⟩
def aeV (P : Params) : Obj := ⟨(.type "builtin_function_or_method"), none, (.fields [(.builtin "object.__init_subclass__"), (.ref 349)].toArray), [].toArray⟩
def ZJ (P : Params) : Obj := ⟨(.type "tuple"), none, (.seq [].toArray 0), [].toArray⟩
def ZK (P : Params) : Obj := ⟨.none, none, (.fields [].toArray), [].toArray⟩
def ZL (P : Params) : Obj := ⟨(.type "tuple"), none, (.seq [(.str (S "_law_script") 738), (.str (S "_law_k") 739)].toArray 0), [].toArray⟩
def ZM (P : Params) : Obj := ⟨(.type "tuple"), none, (.seq [].toArray 0), [].toArray⟩
def ZP (P : Params) : Obj := ⟨.none, none, (.func ⟨(S "_law_cell_at"), (S "_law_cell_at"), L2.defArgs (top 43), .stmts (L2.defBody (top 43)), L2.defScope (top 43), 0, [], .none, .none, .none, .none, none, .none, .none, 0⟩), [].toArray⟩
def ZQ (P : Params) : Obj := ⟨(.type "code"), none, (.fields [(.str (S "_law_cell_at") 735), (.str (S "_law_cell_at") 736), (.str (S "/claim/cut.py") 737), (.int (235) 0), (.int (2) 0), (.int (0) 0), (.int (0) 0), (.int (3) 0), (.ref 354), (.bool true), (.int (181) 0), (.ref 355), .none, (.ref 356), (.ref 357), (.ref 358), (.int (740) 0), (.int (235) 0), (.str (S "/claim/cut.py") 741)].toArray), [].toArray⟩
def ZR (P : Params) : Obj := ⟨(.type "function"), none, (.func ⟨(S "_law_cell_at"), (S "_law_cell_at"), L2.defArgs (top 43), .stmts (L2.defBody (top 43)), L2.defScope (top 43), 3, [], .none, .none, .none, (.str (S "law_givenback_k23_things_got_and_given") 733), none, (.ref 359), .none, 0⟩), [].toArray⟩
def ZV (P : Params) : Obj := ⟨(.type "tuple"), none, (.seq [].toArray 0), [].toArray⟩
def ZW (P : Params) : Obj := ⟨.none, none, (.fields [].toArray), [].toArray⟩
def ZX (P : Params) : Obj := ⟨(.type "tuple"), none, (.seq [(.str (S "_law_cell") 746)].toArray 0), [].toArray⟩
def Z0 (P : Params) : Obj := ⟨(.type "tuple"), none, (.seq [].toArray 0), [].toArray⟩
def Z4 (P : Params) : Obj := ⟨.none, none, (.func ⟨(S "_law_well"), (S "_law_well"), L2.defArgs (top 44), .stmts (L2.defBody (top 44)), L2.defScope (top 44), 0, [], .none, .none, .none, .none, none, .none, .none, 0⟩), [].toArray⟩
def Z5 (P : Params) : Obj := ⟨(.type "code"), none, (.fields [(.str (S "_law_well") 743), (.str (S "_law_well") 744), (.str (S "/claim/cut.py") 745), (.int (239) 0), (.int (1) 0), (.int (0) 0), (.int (0) 0), (.int (3) 0), (.ref 361), (.bool true), (.int (181) 0), (.ref 362), .none, (.ref 363), (.ref 364), (.ref 365), (.int (747) 0), (.int (239) 0), (.str (S "/claim/cut.py") 748)].toArray), [].toArray⟩
def Z6 (P : Params) : Obj := ⟨(.type "function"), none, (.func ⟨(S "_law_well"), (S "_law_well"), L2.defArgs (top 44), .stmts (L2.defBody (top 44)), L2.defScope (top 44), 3, [], .none, .none, .none, (.str (S "law_givenback_k23_things_got_and_given") 733), none, (.ref 366), .none, 0⟩), [].toArray⟩
def Z7 (P : Params) : Obj := ⟨(.type "tuple"), none, (.seq [].toArray 0), [].toArray⟩
def Z8 (P : Params) : Obj := ⟨.none, none, (.fields [].toArray), [].toArray⟩
def Z9 (P : Params) : Obj := ⟨(.type "tuple"), none, (.seq [(.str (S "_law_well_here") 753), (.str (S "_law_many") 754), (.str (S "_law_digit") 755), (.str (S "_law_number") 756)].toArray 0), [].toArray⟩
def aac (P : Params) : Obj := ⟨(.type "tuple"), none, (.seq [].toArray 0), [].toArray⟩
def aad (P : Params) : Obj := ⟨.none, none, (.func ⟨(S "_law_draw"), (S "_law_draw"), L2.defArgs (top 45), .stmts (L2.defBody (top 45)), L2.defScope (top 45), 0, [], .none, .none, .none, .none, none, .none, .none, 0⟩), [].toArray⟩
def aae (P : Params) : Obj := ⟨(.type "code"), none, (.fields [(.str (S "_law_draw") 750), (.str (S "_law_draw") 751), (.str (S "/claim/cut.py") 752), (.int (241) 0), (.int (2) 0), (.int (0) 0), (.int (0) 0), (.int (3) 0), (.ref 368), (.bool true), (.int (181) 0), (.ref 369), .none, (.ref 370), (.ref 371), (.ref 372), (.int (757) 0), (.int (241) 0), (.str (S "/claim/cut.py") 758)].toArray), [].toArray⟩
def aaf (P : Params) : Obj := ⟨(.type "function"), none, (.func ⟨(S "_law_draw"), (S "_law_draw"), L2.defArgs (top 45), .stmts (L2.defBody (top 45)), L2.defScope (top 45), 3, [], .none, .none, .none, (.str (S "law_givenback_k23_things_got_and_given") 733), none, (.ref 373), .none, 0⟩), [].toArray⟩
def aag (P : Params) : Obj := ⟨(.type "tuple"), none, (.seq [].toArray 0), [].toArray⟩
def aah (P : Params) : Obj := ⟨.none, none, (.fields [].toArray), [].toArray⟩
def aai (P : Params) : Obj := ⟨(.type "tuple"), none, (.seq [(.str (S "_law_well_here") 763), (.str (S "_law_some") 764)].toArray 0), [].toArray⟩
def aaj (P : Params) : Obj := ⟨(.type "tuple"), none, (.seq [].toArray 0), [].toArray⟩
def aak (P : Params) : Obj := ⟨.none, none, (.func ⟨(S "_law_one"), (S "_law_one"), L2.defArgs (top 46), .stmts (L2.defBody (top 46)), L2.defScope (top 46), 0, [], .none, .none, .none, .none, none, .none, .none, 0⟩), [].toArray⟩
def aal (P : Params) : Obj := ⟨(.type "code"), none, (.fields [(.str (S "_law_one") 760), (.str (S "_law_one") 761), (.str (S "/claim/cut.py") 762), (.int (250) 0), (.int (2) 0), (.int (0) 0), (.int (0) 0), (.int (3) 0), (.ref 375), (.bool true), (.int (181) 0), (.ref 376), .none, (.ref 377), (.ref 378), (.ref 379), (.int (765) 0), (.int (250) 0), (.str (S "/claim/cut.py") 766)].toArray), [].toArray⟩
def aam (P : Params) : Obj := ⟨(.type "function"), none, (.func ⟨(S "_law_one"), (S "_law_one"), L2.defArgs (top 46), .stmts (L2.defBody (top 46)), L2.defScope (top 46), 3, [], .none, .none, .none, (.str (S "law_givenback_k23_things_got_and_given") 733), none, (.ref 380), .none, 0⟩), [].toArray⟩
def aan (P : Params) : Obj := ⟨(.type "tuple"), none, (.seq [].toArray 0), [].toArray⟩
def aao (P : Params) : Obj := ⟨.none, none, (.fields [].toArray), [].toArray⟩
def aap (P : Params) : Obj := ⟨.none, none, (.func ⟨(S "_law_word"), (S "_law_word"), L2.defArgs (top 47), .stmts (L2.defBody (top 47)), L2.defScope (top 47), 0, [], .none, .none, .none, .none, none, .none, .none, 0⟩), [].toArray⟩
def aaq (P : Params) : Obj := ⟨(.type "code"), none, (.fields [(.str (S "_law_word") 768), (.str (S "_law_word") 769), (.str (S "/claim/cut.py") 770), (.int (252) 0), (.int (1) 0), (.int (0) 0), (.int (0) 0), (.int (3) 0), (.ref 382), (.bool true), (.int (181) 0), (.ref 383), .none, .none, .none, (.ref 384), (.int (771) 0), (.int (252) 0), (.str (S "/claim/cut.py") 772)].toArray), [].toArray⟩
def aar (P : Params) : Obj := ⟨(.type "function"), none, (.func ⟨(S "_law_word"), (S "_law_word"), L2.defArgs (top 47), .stmts (L2.defBody (top 47)), L2.defScope (top 47), 3, [], .none, .none, .none, (.str (S "law_givenback_k23_things_got_and_given") 733), none, (.ref 385), .none, 0⟩), [].toArray⟩
def aas (P : Params) : Obj := ⟨(.type "tuple"), none, (.seq [].toArray 0), [].toArray⟩
def aat (P : Params) : Obj := ⟨.none, none, (.fields [].toArray), [].toArray⟩
def aau (P : Params) : Obj := ⟨.none, none, (.func ⟨(S "_law_full"), (S "_law_full"), L2.defArgs (top 48), .stmts (L2.defBody (top 48)), L2.defScope (top 48), 0, [], .none, .none, .none, .none, none, .none, .none, 0⟩), [].toArray⟩
def aav (P : Params) : Obj := ⟨(.type "code"), none, (.fields [(.str (S "_law_full") 774), (.str (S "_law_full") 775), (.str (S "/claim/cut.py") 776), (.int (255) 0), (.int (3) 0), (.int (0) 0), (.int (0) 0), (.int (3) 0), (.ref 387), (.bool true), (.int (181) 0), (.ref 388), .none, .none, .none, (.ref 389), (.int (777) 0), (.int (255) 0), (.str (S "/claim/cut.py") 778)].toArray), [].toArray⟩
def aaw (P : Params) : Obj := ⟨(.type "function"), none, (.func ⟨(S "_law_full"), (S "_law_full"), L2.defArgs (top 48), .stmts (L2.defBody (top 48)), L2.defScope (top 48), 3, [], .none, .none, .none, (.str (S "law_givenback_k23_things_got_and_given") 733), none, (.ref 390), .none, 0⟩), [].toArray⟩
def aax (P : Params) : Obj := ⟨(.type "tuple"), none, (.seq [].toArray 0), [].toArray⟩
def aay (P : Params) : Obj := ⟨.none, none, (.fields [].toArray), [].toArray⟩
def aaz (P : Params) : Obj := ⟨(.type "tuple"), none, (.seq [(.str (S "_law_tasks") 783), (.str (S "_law_sizes") 784), (.str (S "_law_bare") 785), (.str (S "_law_row_here") 786), (.str (S "_law_task") 787), (.str (S "_law_fails") 788)].toArray 0), [].toArray⟩
def aaA (P : Params) : Obj := ⟨(.type "tuple"), none, (.seq [].toArray 0), [].toArray⟩
def aaB (P : Params) : Obj := ⟨.none, none, (.func ⟨(S "_law_due"), (S "_law_due"), L2.defArgs (top 49), .stmts (L2.defBody (top 49)), L2.defScope (top 49), 0, [], .none, .none, .none, .none, none, .none, .none, 0⟩), [].toArray⟩
def aaC (P : Params) : Obj := ⟨(.type "code"), none, (.fields [(.str (S "_law_due") 780), (.str (S "_law_due") 781), (.str (S "/claim/cut.py") 782), (.int (257) 0), (.int (4) 0), (.int (0) 0), (.int (0) 0), (.int (3) 0), (.ref 392), (.bool true), (.int (181) 0), (.ref 393), .none, (.ref 394), (.ref 395), (.ref 396), (.int (789) 0), (.int (257) 0), (.str (S "/claim/cut.py") 790)].toArray), [].toArray⟩
def aaD (P : Params) : Obj := ⟨(.type "function"), none, (.func ⟨(S "_law_due"), (S "_law_due"), L2.defArgs (top 49), .stmts (L2.defBody (top 49)), L2.defScope (top 49), 3, [], .none, .none, .none, (.str (S "law_givenback_k23_things_got_and_given") 733), none, (.ref 397), .none, 0⟩), [].toArray⟩
def aaE (P : Params) : Obj := ⟨(.type "tuple"), none, (.seq [].toArray 0), [].toArray⟩
def aaF (P : Params) : Obj := ⟨.none, none, (.fields [].toArray), [].toArray⟩
def aaG (P : Params) : Obj := ⟨.none, none, (.func ⟨(S "_law_done"), (S "_law_done"), L2.defArgs (top 50), .stmts (L2.defBody (top 50)), L2.defScope (top 50), 0, [], .none, .none, .none, .none, none, .none, .none, 0⟩), [].toArray⟩
def aaH (P : Params) : Obj := ⟨(.type "code"), none, (.fields [(.str (S "_law_done") 792), (.str (S "_law_done") 793), (.str (S "/claim/cut.py") 794), (.int (275) 0), (.int (2) 0), (.int (0) 0), (.int (0) 0), (.int (3) 0), (.ref 399), (.bool true), (.int (181) 0), (.ref 400), .none, .none, .none, (.ref 401), (.int (795) 0), (.int (275) 0), (.str (S "/claim/cut.py") 796)].toArray), [].toArray⟩
def aaI (P : Params) : Obj := ⟨(.type "function"), none, (.func ⟨(S "_law_done"), (S "_law_done"), L2.defArgs (top 50), .stmts (L2.defBody (top 50)), L2.defScope (top 50), 3, [], .none, .none, .none, (.str (S "law_givenback_k23_things_got_and_given") 733), none, (.ref 402), .none, 0⟩), [].toArray⟩
def aaJ (P : Params) : Obj := ⟨(.type "tuple"), none, (.seq [].toArray 0), [].toArray⟩
def aaK (P : Params) : Obj := ⟨.none, none, (.fields [].toArray), [].toArray⟩
def aaL (P : Params) : Obj := ⟨(.type "tuple"), none, (.seq [(.str (S "_law_well_here") 801), (.str (S "_law_tasks") 802), (.str (S "_law_goods") 803), (.str (S "_law_marks") 804), (.str (S "_law_word_here") 805), (.str (S "_law_number") 806), (.str (S "_law_had") 807)].toArray 0), [].toArray⟩
def aaM (P : Params) : Obj := ⟨(.type "tuple"), none, (.seq [].toArray 0), [].toArray⟩
def aaN (P : Params) : Obj := ⟨.none, none, (.func ⟨(S "_law_row"), (S "_law_row"), L2.defArgs (top 51), .stmts (L2.defBody (top 51)), L2.defScope (top 51), 0, [], .none, .none, .none, .none, none, .none, .none, 0⟩), [].toArray⟩
def aaO (P : Params) : Obj := ⟨(.type "code"), none, (.fields [(.str (S "_law_row") 798), (.str (S "_law_row") 799), (.str (S "/claim/cut.py") 800), (.int (286) 0), (.int (4) 0), (.int (0) 0), (.int (0) 0), (.int (3) 0), (.ref 404), (.bool true), (.int (181) 0), (.ref 405), .none, (.ref 406), (.ref 407), (.ref 408), (.int (808) 0), (.int (286) 0), (.str (S "/claim/cut.py") 809)].toArray), [].toArray⟩
def aaP (P : Params) : Obj := ⟨(.type "function"), none, (.func ⟨(S "_law_row"), (S "_law_row"), L2.defArgs (top 51), .stmts (L2.defBody (top 51)), L2.defScope (top 51), 3, [], .none, .none, .none, (.str (S "law_givenback_k23_things_got_and_given") 733), none, (.ref 409), .none, 0⟩), [].toArray⟩
def aaQ (P : Params) : Obj := ⟨(.type "tuple"), none, (.seq [].toArray 0), [].toArray⟩
def aaR (P : Params) : Obj := ⟨.none, none, (.fields [].toArray), [].toArray⟩
def aaS (P : Params) : Obj := ⟨(.type "tuple"), none, (.seq [(.str (S "_law_watch") 814), (.str (S "_law_row_here") 815), (.str (S "e") 816)].toArray 0), [].toArray⟩
def aaT (P : Params) : Obj := ⟨(.type "tuple"), none, (.seq [].toArray 0), [].toArray⟩
def aaU (P : Params) : Obj := ⟨.none, none, (.func ⟨(S "_law_seen"), (S "_law_seen"), L2.defArgs (top 52), .stmts (L2.defBody (top 52)), L2.defScope (top 52), 0, [], .none, .none, .none, .none, none, .none, .none, 0⟩), [].toArray⟩
def aaV (P : Params) : Obj := ⟨(.type "code"), none, (.fields [(.str (S "_law_seen") 811), (.str (S "_law_seen") 812), (.str (S "/claim/cut.py") 813), (.int (297) 0), (.int (2) 0), (.int (0) 0), (.int (0) 0), (.int (3) 0), (.ref 411), (.bool true), (.int (181) 0), (.ref 412), .none, (.ref 413), (.ref 414), (.ref 415), (.int (817) 0), (.int (297) 0), (.str (S "/claim/cut.py") 818)].toArray), [].toArray⟩
def aaW (P : Params) : Obj := ⟨(.type "function"), none, (.func ⟨(S "_law_seen"), (S "_law_seen"), L2.defArgs (top 52), .stmts (L2.defBody (top 52)), L2.defScope (top 52), 3, [], .none, .none, .none, (.str (S "law_givenback_k23_things_got_and_given") 733), none, (.ref 416), .none, 0⟩), [].toArray⟩
def aaX (P : Params) : Obj := ⟨(.type "tuple"), none, (.seq [].toArray 0), [].toArray⟩
def aaY (P : Params) : Obj := ⟨.none, none, (.fields [].toArray), [].toArray⟩
def aaZ (P : Params) : Obj := ⟨.none, none, (.func ⟨(S "_law_ends"), (S "_law_ends"), L2.defArgs (top 53), .stmts (L2.defBody (top 53)), L2.defScope (top 53), 0, [], .none, .none, .none, .none, none, .none, .none, 0⟩), [].toArray⟩
def aa0 (P : Params) : Obj := ⟨(.type "code"), none, (.fields [(.str (S "_law_ends") 820), (.str (S "_law_ends") 821), (.str (S "/claim/cut.py") 822), (.int (304) 0), (.int (4) 0), (.int (0) 0), (.int (0) 0), (.int (3) 0), (.ref 418), (.bool true), (.int (181) 0), (.ref 419), .none, .none, .none, (.ref 420), (.int (823) 0), (.int (304) 0), (.str (S "/claim/cut.py") 824)].toArray), [].toArray⟩
def aa1 (P : Params) : Obj := ⟨(.type "function"), none, (.func ⟨(S "_law_ends"), (S "_law_ends"), L2.defArgs (top 53), .stmts (L2.defBody (top 53)), L2.defScope (top 53), 3, [], .none, .none, .none, (.str (S "law_givenback_k23_things_got_and_given") 733), none, (.ref 421), .none, 0⟩), [].toArray⟩
def aa2 (P : Params) : Obj := ⟨(.type "tuple"), none, (.seq [].toArray 0), [].toArray⟩
def aa3 (P : Params) : Obj := ⟨.none, none, (.fields [].toArray), [].toArray⟩
def aa4 (P : Params) : Obj := ⟨(.type "tuple"), none, (.seq [(.str (S "_law_script") 829), (.str (S "_law_well_here") 830), (.str (S "_law_goods") 831), (.str (S "_law_marks") 832), (.str (S "_law_sizes") 833), (.str (S "_law_thing") 834), (.str (S "_law_bare") 835), (.str (S "_law_handed") 836), (.str (S "_law_watch") 837), (.str (S "_law_tasks") 838), (.str (S "_law_k") 839), (.str (S "_law_ahead") 840), (.str (S "_law_cell") 841), (.str (S "_law_row_here") 842), (.str (S "_law_why") 843)].toArray 0), [].toArray⟩
def aa5 (P : Params) : Obj := ⟨(.type "tuple"), none, (.seq [].toArray 0), [].toArray⟩
def aa6 (P : Params) : Obj := ⟨.none, none, (.func ⟨(S "law"), (S "law"), L2.defArgs (top 54), .stmts (L2.defBody (top 54)), L2.defScope (top 54), 0, [], .none, .none, .none, .none, none, .none, .none, 0⟩), [].toArray⟩
def aa7 (P : Params) : Obj := ⟨(.type "code"), none, (.fields [(.str (S "law") 826), (.str (S "law") 827), (.str (S "/claim/cut.py") 828), (.int (322) 0), (.int (1) 0), (.int (0) 0), (.int (0) 0), (.int (3) 0), (.ref 423), (.bool true), (.int (181) 0), (.ref 424), .none, (.ref 425), (.ref 426), (.ref 427), (.int (844) 0), (.int (322) 0), (.str (S "/claim/cut.py") 845)].toArray), [].toArray⟩
def aa8 (P : Params) : Obj := ⟨(.type "function"), none, (.func ⟨(S "law"), (S "law"), L2.defArgs (top 54), .stmts (L2.defBody (top 54)), L2.defScope (top 54), 3, [], .none, .none, .none, (.str (S "law_givenback_k23_things_got_and_given") 733), none, (.ref 428), .none, 0⟩), [].toArray⟩
def t6 (P : Params) : BT := (.node (Af P) (.node (Cp P) (.node (agi P) (.node (Ig P) (.node (Jv P) (.node (Es P) (.node (Fo P) (.node (Ma P) (au (QS P)) (au (aao P))) (.node (Oi P) (au (YZ P)) .nil)) (.node (KC P) (.node (M7 P) (au (Yj P)) (au (aaU P))) (.node (PB P) (au (ZG P)) .nil))) (.node (Wn P) (.node (Ka P) (.node (XD P) (au (aeQ P)) (au (aaE P))) (.node (O6 P) (au (Zj P)) .nil)) (.node (Ld P) (.node (Nz P) (au (Yz P)) .nil) (.node (Qs P) (au (Z6 P)) .nil)))) (.node (Eh P) (.node (Wf P) (.node (JT P) (.node (Mq P) (au (Q7 P)) (au (aaw P))) (.node (Ow P) (au (Za P)) .nil)) (.node (KQ P) (.node (Nk P) (au (Yr P)) (au (aa2 P))) (.node (Qh P) (au (ZQ P)) .nil))) (.node (Ey P) (.node (Ko P) (.node (MF P) (au (X8 P)) (au (aaM P))) (.node (Pj P) (au (Zv P)) .nil)) (.node (Lq P) (.node (N7 P) (au (YK P)) .nil) (.node (QC P) (au (aag P)) .nil))))) (.node (yj P) (.node (Jz P) (.node (JF P) (.node (Fq P) (.node (Mi P) (au (QX P)) (au (aas P))) (.node (Oo P) (au (Y6 P)) .nil)) (.node (KN P) (.node (X3 P) (au (Yn P)) (au (aaY P))) (.node (Qa P) (au (ZK P)) .nil))) (.node (Wt P) (.node (Kf P) (.node (XM P) (au (X4 P)) (au (aaI P))) (.node (Pa P) (au (Zq P)) .nil)) (.node (Lj P) (.node (NT P) (au (YF P)) .nil) (.node (Qw P) (au (aac P)) .nil)))) (.node (Aj P) (.node (Ew P) (.node (Fx P) (.node (CG P) (au (Rf P)) (au (aaA P))) (.node (CJ P) (au (Zf P)) .nil)) (.node (K7 P) (.node (Nt P) (au (Yv P)) (au (aa6 P))) (.node (Qn P) (au (ZX P)) .nil))) (.node (Fe P) (.node (Kv P) (.node (MP P) (au (Ye P)) (au (aaQ P))) (.node (Pr P) (au (Zz P)) .nil)) (.node (LC P) (.node (Od P) (au (YS P)) .nil) (.node (QJ P) (au (aak P)) .nil)))))) (.node (Ie P) (.node (Ii P) (.node (Jx P) (.node (Eu P) (.node (JQ P) (.node (Mg P) (au (QV P)) (au (aaq P))) (.node (Ol P) (au (Y4 P)) .nil)) (.node (KH P) (.node (M9 P) (au (Yl P)) (au (aaW P))) (.node (PN P) (au (aeV P)) .nil))) (.node (Wr P) (.node (Kd P) (.node (XH P) (au (aeS P)) (au (aaG P))) (.node (O8 P) (au (Zm P)) .nil)) (.node (Lg P) (.node (NP P) (au (YC P)) .nil) (.node (Qu P) (au (Z8 P)) .nil)))) (.node (Ek P) (.node (Wi P) (.node (JW P) (.node (Ms P) (au (Q9 P)) (au (aay P))) (.node (Oz P) (au (Zd P)) .nil)) (.node (KZ P) (.node (Nq P) (au (Yt P)) (au (aa4 P))) (.node (Ql P) (au (ZV P)) .nil))) (.node (EY P) (.node (Ks P) (.node (MK P) (au (Yc P)) (au (aaO P))) (.node (Pn P) (au (Zx P)) .nil)) (.node (Ly P) (.node (Oa P) (au (YM P)) .nil) (.node (QF P) (au (aai P)) .nil))))) (.node (Ah P) (.node (JC P) (.node (JH P) (.node (Fv P) (.node (Ml P) (au (Q5 P)) (au (aau P))) (.node (Ou P) (au (Y8 P)) .nil)) (.node (Cy P) (.node (Nf P) (au (Yp P)) (au (aa0 P))) (.node (Qe P) (au (ZM P)) .nil))) (.node (Wv P) (.node (Kh P) (.node (XR P) (au (X6 P)) (au (aaK P))) (.node (Pg P) (au (Zt P)) .nil)) (.node (Ln P) (.node (N5 P) (au (YH P)) .nil) (.node (Qy P) (au (aae P)) .nil)))) (.node (Eo P) (.node (JM P) (.node (J8 P) (.node (Mw P) (au (aeO P)) (au (aaC P))) (.node (O4 P) (au (Zh P)) .nil)) (.node (K9 P) (.node (Nv P) (au (Yx P)) (au (aa8 P))) (.node (Qp P) (au (Z4 P)) .nil))) (.node (Fj P) (.node (Ky P) (.node (M5 P) (au (Yh P)) (au (aaS P))) (.node (Px P) (au (ZD P)) .nil)) (.node (LQ P) (.node (Og P) (au (YW P)) .nil) (.node (QL P) (au (aam P)) .nil))))))) (.node (Cq P) (.node (Cr P) (.node (Ih P) (.node (Jw P) (.node (Et P) (.node (Fp P) (.node (Mf P) (au (QT P)) (au (aap P))) (.node (Oj P) (au (Y0 P)) .nil)) (.node (KD P) (.node (M8 P) (au (Yk P)) (au (aaV P))) (.node (PL P) (au (aeU P)) .nil))) (.node (Wq P) (.node (Kc P) (.node (XF P) (au (aeR P)) (au (aaF P))) (.node (O7 P) (au (Zk P)) .nil)) (.node (Lf P) (.node (NK P) (au (YB P)) .nil) (.node (Qt P) (au (Z7 P)) .nil)))) (.node (Ei P) (.node (Wh P) (.node (JV P) (.node (Mr P) (au (Q8 P)) (au (aax P))) (.node (Ox P) (au (Zb P)) .nil)) (.node (KY P) (.node (Np P) (au (Ys P)) (au (aa3 P))) (.node (Qi P) (au (ZR P)) .nil))) (.node (Ez P) (.node (Kr P) (.node (MJ P) (au (Yb P)) (au (aaN P))) (.node (Pk P) (au (Zw P)) .nil)) (.node (Lr P) (.node (N8 P) (au (YL P)) .nil) (.node (QD P) (au (aah P)) .nil))))) (.node (ahs P) (.node (JB P) (.node (JG P) (.node (Ft P) (.node (Mj P) (au (QZ P)) (au (aat P))) (.node (Oq P) (au (Y7 P)) .nil)) (.node (Cv P) (.node (Nb P) (au (Yo P)) (au (aaZ P))) (.node (Qc P) (au (ZL P)) .nil))) (.node (Wu P) (.node (Kg P) (.node (XQ P) (au (X5 P)) (au (aaJ P))) (.node (Pb P) (au (Zr P)) .nil)) (.node (Lk P) (.node (NZ P) (au (YG P)) .nil) (.node (Qx P) (au (aad P)) .nil)))) (.node (Em P) (.node (JL P) (.node (JZ P) (.node (Mv P) (au (aeN P)) (au (aaB P))) (.node (OJ P) (au (Zg P)) .nil)) (.node (K8 P) (.node (Nu P) (au (Yw P)) (au (aa7 P))) (.node (Qo P) (au (Z0 P)) .nil))) (.node (Fg P) (.node (Kw P) (.node (M4 P) (au (Yg P)) (au (aaR P))) (.node (Pu P) (au (ZC P)) .nil)) (.node (LK P) (.node (Oe P) (au (YT P)) .nil) (.node (QK P) (au (aal P)) .nil)))))) (.node (Cu P) (.node (Ag P) (.node (Jy P) (.node (JD P) (.node (JR P) (.node (Mh P) (au (QW P)) (au (aar P))) (.node (Om P) (au (Y5 P)) .nil)) (.node (KJ P) (.node (XS P) (au (Ym P)) (au (aaX P))) (.node (P0 P) (au (ZJ P)) .nil))) (.node (Ws P) (.node (Ke P) (.node (XJ P) (au (aeT P)) (au (aaH P))) (.node (O9 P) (au (Zo P)) .nil)) (.node (Lh P) (.node (NQ P) (au (YD P)) .nil) (.node (Qv P) (au (Z9 P)) .nil)))) (.node (El P) (.node (Wj P) (.node (JX P) (.node (Mu P) (au (Rb P)) (au (aaz P))) (.node (OD P) (au (Ze P)) .nil)) (.node (K6 P) (.node (Nr P) (au (Yu P)) (au (aa5 P))) (.node (Qm P) (au (ZW P)) .nil))) (.node (Fb P) (.node (Ku P) (.node (MN P) (au (Yd P)) (au (aaP P))) (.node (Pq P) (au (Zy P)) .nil)) (.node (Lz P) (.node (Oc P) (au (YQ P)) .nil) (.node (QG P) (au (aaj P)) .nil))))) (.node (Ai P) (.node (Ef P) (.node (JK P) (.node (Fw P) (.node (Mp P) (au (Q6 P)) (au (aav P))) (.node (Ov P) (au (Y9 P)) .nil)) (.node (Cz P) (.node (Nh P) (au (Yq P)) (au (aa1 P))) (.node (Qg P) (au (ZP P)) .nil))) (.node (JN P) (.node (Km P) (.node (Mz P) (au (X7 P)) (au (aaL P))) (.node (Ph P) (au (Zu P)) .nil)) (.node (Lp P) (.node (N6 P) (au (YJ P)) .nil) (.node (Qz P) (au (aaf P)) .nil)))) (.node (Ep P) (.node (Wk P) (.node (J9 P) (.node (Mx P) (au (aeP P)) (au (aaD P))) (.node (O5 P) (au (Zi P)) .nil)) (.node (La P) (.node (Ny P) (au (Yy P)) .nil) (.node (Qq P) (au (Z5 P)) .nil))) (.node (Fl P) (.node (Kz P) (.node (M6 P) (au (Yi P)) (au (aaT P))) (.node (Py P) (au (ZF P)) .nil)) (.node (LR P) (.node (Oh P) (au (YX P)) .nil) (.node (QM P) (au (aan P)) .nil))))))))
def S6 (w : World) (os : OsState) : SharedT := ⟨t6 w.params, 430, ⟨[], [], [], 0, [], [], false, [].toArray, [], 0, false, false, false, 0, [2000, 10, 10], false, 0, true, [], [], 0, false⟩, #[], ⟨0, 0, 0, 0⟩, 847, os⟩
theorem p6 (w : World) : ∀ os : OsState, HP.Piece PySem.Challenge.pw_givenback_k23_things_got_and_given w n0 yq env0 q0 c0 oh 41 14 930 (S5 w os) (S6 w os) ⟨129, 0, 129, 6⟩ ⟨322, 0, 347, 67⟩ := by
  intro os
  unfold HP.Piece
  kernel_rfl
def t7 (P : Params) : BT := (.node (Af P) (.node (Cp P) (.node (agi P) (.node (Ig P) (.node (Jv P) (.node (Es P) (.node (Fo P) (.node (Ma P) (au (QS P)) (au (aao P))) (.node (Oi P) (au (YZ P)) .nil)) (.node (KC P) (.node (M7 P) (au (Yj P)) (au (aaU P))) (.node (PB P) (au (ZG P)) .nil))) (.node (Wn P) (.node (Ka P) (.node (XD P) (au (aeQ P)) (au (aaE P))) (.node (O6 P) (au (Zj P)) .nil)) (.node (Ld P) (.node (Nz P) (au (Yz P)) .nil) (.node (Qs P) (au (Z6 P)) .nil)))) (.node (Eh P) (.node (Wf P) (.node (JT P) (.node (Mq P) (au (Q7 P)) (au (aaw P))) (.node (Ow P) (au (Za P)) .nil)) (.node (KQ P) (.node (Nk P) (au (Yr P)) (au (aa2 P))) (.node (Qh P) (au (ZQ P)) .nil))) (.node (Ey P) (.node (Ko P) (.node (MF P) (au (X8 P)) (au (aaM P))) (.node (Pj P) (au (Zv P)) .nil)) (.node (Lq P) (.node (N7 P) (au (YK P)) .nil) (.node (QC P) (au (aag P)) .nil))))) (.node (yj P) (.node (Jz P) (.node (JF P) (.node (Fq P) (.node (Mi P) (au (QX P)) (au (aas P))) (.node (Oo P) (au (Y6 P)) .nil)) (.node (KN P) (.node (X3 P) (au (Yn P)) (au (aaY P))) (.node (Qa P) (au (ZK P)) .nil))) (.node (Wt P) (.node (Kf P) (.node (XM P) (au (X4 P)) (au (aaI P))) (.node (Pa P) (au (Zq P)) .nil)) (.node (Lj P) (.node (NT P) (au (YF P)) .nil) (.node (Qw P) (au (aac P)) .nil)))) (.node (Aj P) (.node (Ew P) (.node (Fx P) (.node (CG P) (au (Rf P)) (au (aaA P))) (.node (CJ P) (au (Zf P)) .nil)) (.node (K7 P) (.node (Nt P) (au (Yv P)) (au (aa6 P))) (.node (Qn P) (au (ZX P)) .nil))) (.node (Fe P) (.node (Kv P) (.node (MP P) (au (Ye P)) (au (aaQ P))) (.node (Pr P) (au (Zz P)) .nil)) (.node (LC P) (.node (Od P) (au (YS P)) .nil) (.node (QJ P) (au (aak P)) .nil)))))) (.node (Ie P) (.node (Ii P) (.node (Jx P) (.node (Eu P) (.node (JQ P) (.node (Mg P) (au (QV P)) (au (aaq P))) (.node (Ol P) (au (Y4 P)) .nil)) (.node (KH P) (.node (M9 P) (au (Yl P)) (au (aaW P))) (.node (PN P) (au (aeV P)) .nil))) (.node (Wr P) (.node (Kd P) (.node (XH P) (au (aeS P)) (au (aaG P))) (.node (O8 P) (au (Zm P)) .nil)) (.node (Lg P) (.node (NP P) (au (YC P)) .nil) (.node (Qu P) (au (Z8 P)) .nil)))) (.node (Ek P) (.node (Wi P) (.node (JW P) (.node (Ms P) (au (Q9 P)) (au (aay P))) (.node (Oz P) (au (Zd P)) .nil)) (.node (KZ P) (.node (Nq P) (au (Yt P)) (au (aa4 P))) (.node (Ql P) (au (ZV P)) .nil))) (.node (EY P) (.node (Ks P) (.node (MK P) (au (Yc P)) (au (aaO P))) (.node (Pn P) (au (Zx P)) .nil)) (.node (Ly P) (.node (Oa P) (au (YM P)) .nil) (.node (QF P) (au (aai P)) .nil))))) (.node (Ah P) (.node (JC P) (.node (JH P) (.node (Fv P) (.node (Ml P) (au (Q5 P)) (au (aau P))) (.node (Ou P) (au (Y8 P)) .nil)) (.node (Cy P) (.node (Nf P) (au (Yp P)) (au (aa0 P))) (.node (Qe P) (au (ZM P)) .nil))) (.node (Wv P) (.node (Kh P) (.node (XR P) (au (X6 P)) (au (aaK P))) (.node (Pg P) (au (Zt P)) .nil)) (.node (Ln P) (.node (N5 P) (au (YH P)) .nil) (.node (Qy P) (au (aae P)) .nil)))) (.node (Eo P) (.node (JM P) (.node (J8 P) (.node (Mw P) (au (aeO P)) (au (aaC P))) (.node (O4 P) (au (Zh P)) .nil)) (.node (K9 P) (.node (Nv P) (au (Yx P)) (au (aa8 P))) (.node (Qp P) (au (Z4 P)) .nil))) (.node (Fj P) (.node (Ky P) (.node (M5 P) (au (Yh P)) (au (aaS P))) (.node (Px P) (au (ZD P)) .nil)) (.node (LQ P) (.node (Og P) (au (YW P)) .nil) (.node (QL P) (au (aam P)) .nil))))))) (.node (Cq P) (.node (Cr P) (.node (Ih P) (.node (Jw P) (.node (Et P) (.node (Fp P) (.node (Mf P) (au (QT P)) (au (aap P))) (.node (Oj P) (au (Y0 P)) .nil)) (.node (KD P) (.node (M8 P) (au (Yk P)) (au (aaV P))) (.node (PL P) (au (aeU P)) .nil))) (.node (Wq P) (.node (Kc P) (.node (XF P) (au (aeR P)) (au (aaF P))) (.node (O7 P) (au (Zk P)) .nil)) (.node (Lf P) (.node (NK P) (au (YB P)) .nil) (.node (Qt P) (au (Z7 P)) .nil)))) (.node (Ei P) (.node (Wh P) (.node (JV P) (.node (Mr P) (au (Q8 P)) (au (aax P))) (.node (Ox P) (au (Zb P)) .nil)) (.node (KY P) (.node (Np P) (au (Ys P)) (au (aa3 P))) (.node (Qi P) (au (ZR P)) .nil))) (.node (Ez P) (.node (Kr P) (.node (MJ P) (au (Yb P)) (au (aaN P))) (.node (Pk P) (au (Zw P)) .nil)) (.node (Lr P) (.node (N8 P) (au (YL P)) .nil) (.node (QD P) (au (aah P)) .nil))))) (.node (ahs P) (.node (JB P) (.node (JG P) (.node (Ft P) (.node (Mj P) (au (QZ P)) (au (aat P))) (.node (Oq P) (au (Y7 P)) .nil)) (.node (Cv P) (.node (Nb P) (au (Yo P)) (au (aaZ P))) (.node (Qc P) (au (ZL P)) .nil))) (.node (Wu P) (.node (Kg P) (.node (XQ P) (au (X5 P)) (au (aaJ P))) (.node (Pb P) (au (Zr P)) .nil)) (.node (Lk P) (.node (NZ P) (au (YG P)) .nil) (.node (Qx P) (au (aad P)) .nil)))) (.node (Em P) (.node (JL P) (.node (JZ P) (.node (Mv P) (au (aeN P)) (au (aaB P))) (.node (OJ P) (au (Zg P)) .nil)) (.node (K8 P) (.node (Nu P) (au (Yw P)) (au (aa7 P))) (.node (Qo P) (au (Z0 P)) .nil))) (.node (Fg P) (.node (Kw P) (.node (M4 P) (au (Yg P)) (au (aaR P))) (.node (Pu P) (au (ZC P)) .nil)) (.node (LK P) (.node (Oe P) (au (YT P)) .nil) (.node (QK P) (au (aal P)) .nil)))))) (.node (Cu P) (.node (Ag P) (.node (Jy P) (.node (JD P) (.node (JR P) (.node (Mh P) (au (QW P)) (au (aar P))) (.node (Om P) (au (Y5 P)) .nil)) (.node (KJ P) (.node (XS P) (au (Ym P)) (au (aaX P))) (.node (P0 P) (au (ZJ P)) .nil))) (.node (Ws P) (.node (Ke P) (.node (XJ P) (au (aeT P)) (au (aaH P))) (.node (O9 P) (au (Zo P)) .nil)) (.node (Lh P) (.node (NQ P) (au (YD P)) .nil) (.node (Qv P) (au (Z9 P)) .nil)))) (.node (El P) (.node (Wj P) (.node (JX P) (.node (Mu P) (au (Rb P)) (au (aaz P))) (.node (OD P) (au (Ze P)) .nil)) (.node (K6 P) (.node (Nr P) (au (Yu P)) (au (aa5 P))) (.node (Qm P) (au (ZW P)) .nil))) (.node (Fb P) (.node (Ku P) (.node (MN P) (au (Yd P)) (au (aaP P))) (.node (Pq P) (au (Zy P)) .nil)) (.node (Lz P) (.node (Oc P) (au (YQ P)) .nil) (.node (QG P) (au (aaj P)) .nil))))) (.node (Ai P) (.node (Ef P) (.node (JK P) (.node (Fw P) (.node (Mp P) (au (Q6 P)) (au (aav P))) (.node (Ov P) (au (Y9 P)) .nil)) (.node (Cz P) (.node (Nh P) (au (Yq P)) (au (aa1 P))) (.node (Qg P) (au (ZP P)) .nil))) (.node (JN P) (.node (Km P) (.node (Mz P) (au (X7 P)) (au (aaL P))) (.node (Ph P) (au (Zu P)) .nil)) (.node (Lp P) (.node (N6 P) (au (YJ P)) .nil) (.node (Qz P) (au (aaf P)) .nil)))) (.node (Ep P) (.node (Wk P) (.node (J9 P) (.node (Mx P) (au (aeP P)) (au (aaD P))) (.node (O5 P) (au (Zi P)) .nil)) (.node (La P) (.node (Ny P) (au (Yy P)) .nil) (.node (Qq P) (au (Z5 P)) .nil))) (.node (Fl P) (.node (Kz P) (.node (M6 P) (au (Yi P)) (au (aaT P))) (.node (Py P) (au (ZF P)) .nil)) (.node (LR P) (.node (Oh P) (au (YX P)) .nil) (.node (QM P) (au (aan P)) .nil))))))))
def S7 (w : World) (os : OsState) : SharedT := ⟨t7 w.params, 430, ⟨[], [], [], 0, [], [], false, [].toArray, [], 0, false, false, false, 0, [2000, 10, 10], false, 0, true, [], [], 0, false⟩, #[], ⟨0, 0, 0, 0⟩, 847, os⟩
theorem hf (w : World) (os : OsState) : HandSHeadRun.goF (HP.Ux PySem.Challenge.pw_givenback_k23_things_got_and_given w) n0 yq 3 (S6 w os) ⟨doneF .next, c0, ⟨322, 0, 347, 67⟩, [topFrame q0]⟩ = some (S7 w os) := by kernel_rfl
abbrev SF (w : World) (os : OsState) : SharedT := S7 w os
def as0 : List Addr := [3, 2, 6, 4, 32, 45, 64, 71, 78, 85, 86, 109, 116, 123, 128, 135, 140, 141, 142, 159, 170, 177, 184, 191, 198, 205, 212, 219, 226, 233, 240, 247, 254, 261, 266, 267, 349, 360, 367, 374, 381, 386, 391, 398, 403, 410, 417, 422, 429, 0, 31, 44, 63, 70, 77, 84, 87, 88, 89, 90, 91, 92, 93, 94, 95, 96, 97, 98, 99, 100, 101, 102, 108, 115, 122, 127, 134, 139, 158, 169, 176, 183, 190, 197, 204, 211, 218, 225, 232, 239, 246, 253, 260, 265, 348, 359, 366, 373, 380, 385, 390, 397, 402, 409, 416, 421, 428, 29, 30, 33, 43, 61, 62, 67, 68, 69, 72, 73, 74, 75, 76, 79, 80, 81, 82, 83, 103, 104, 105, 106, 107, 110, 111, 112, 113, 114, 117, 118, 119, 120, 121, 124, 125, 126, 129, 130, 131, 132, 133, 136, 137, 138, 156, 157, 160, 161, 164, 165, 166, 167, 168, 171, 172, 173, 174, 175, 178, 179, 180, 181, 182, 185, 186, 187, 188, 189, 192, 193, 194, 195, 196, 199, 200, 201, 202, 203, 206, 207, 208, 209, 210, 213, 214, 215, 216, 217, 220, 221, 222, 223, 224, 227, 228, 229, 230, 231, 234, 235, 236, 237, 238, 241, 242, 243, 244, 245, 248, 249, 250, 251, 252, 255, 256, 257, 258, 259, 262, 263, 264, 282, 289, 296, 301, 308, 313, 318, 325, 332, 339, 346, 347, 350, 351, 354, 355, 356, 357, 358, 361, 362, 363, 364, 365, 368, 369, 370, 371, 372, 375, 376, 377, 378, 379, 382, 383, 384, 387, 388, 389, 392, 393, 394, 395, 396, 399, 400, 401, 404, 405, 406, 407, 408, 411, 412, 413, 414, 415, 418, 419, 420, 423, 424, 425, 426, 427, 28, 22, 60, 155, 281, 275, 288, 295, 300, 307, 312, 317, 324, 331, 338, 345, 23, 24, 25, 26, 27, 55, 56, 57, 58, 59, 150, 151, 152, 153, 154, 276, 277, 278, 279, 280, 283, 284, 285, 286, 287, 290, 291, 292, 293, 294, 297, 298, 299, 302, 303, 304, 305, 306, 309, 310, 311, 314, 315, 316, 319, 320, 321, 322, 323, 326, 327, 328, 329, 330, 333, 334, 335, 336, 337, 340, 341, 342, 343, 344]
def KF (P : Params) : PySem.W.Frag := [(3, agi P), (2, Cq P), (6, Cu P), (4, Cr P), (32, Et P), (45, JM P), (64, Fp P), (71, JT P), (78, J9 P), (85, Kh P), (86, Km P), (109, K9 P), (116, Lk P), (123, LC P), (128, Mf P), (135, Mq P), (140, Mv P), (141, Mw P), (142, Mx P), (159, M7 P), (170, Nr P), (177, NP P), (184, N8 P), (191, Oi P), (198, Ov P), (205, O4 P), (212, Pb P), (219, Pr P), (226, P0 P), (233, Ql P), (240, Qt P), (247, QC P), (254, QM P), (261, Q5 P), (266, Rb P), (267, Rf P), (349, ZD P), (360, ZR P), (367, Z6 P), (374, aaf P), (381, aam P), (386, aar P), (391, aaw P), (398, aaD P), (403, aaI P), (410, aaP P), (417, aaW P), (422, aa1 P), (429, aa8 P), (0, Af P), (31, Es P), (44, JL P), (63, Fo P), (70, Fw P), (77, J8 P), (84, Kg P), (87, Ko P), (88, Kr P), (89, Ks P), (90, Ku P), (91, Kv P), (92, Kw P), (93, Ky P), (94, Kz P), (95, KC P), (96, KD P), (97, KH P), (98, KJ P), (99, KN P), (100, Cv P), (101, Cy P), (102, Cz P), (108, K8 P), (115, Lj P), (122, Lz P), (127, Ma P), (134, Mp P), (139, CG P), (158, M6 P), (169, Nq P), (176, NK P), (183, N7 P), (190, Oh P), (197, Ou P), (204, OJ P), (211, Pa P), (218, Pq P), (225, PN P), (232, Qi P), (239, Qs P), (246, Qz P), (253, QL P), (260, QZ P), (265, Q9 P), (348, ZC P), (359, ZQ P), (366, Z5 P), (373, aae P), (380, aal P), (385, aaq P), (390, aav P), (397, aaC P), (402, aaH P), (409, aaO P), (416, aaV P), (421, aa0 P), (428, aa7 P), (29, Eo P), (30, Ep P), (33, Eu P), (43, Ew P), (61, Fj P), (62, Fl P), (67, Fq P), (68, Ft P), (69, Fv P), (72, JV P), (73, JW P), (74, JX P), (75, Fx P), (76, JZ P), (79, Ka P), (80, Kc P), (81, Kd P), (82, Ke P), (83, Kf P), (103, KQ P), (104, KY P), (105, KZ P), (106, K6 P), (107, K7 P), (110, La P), (111, Ld P), (112, Lf P), (113, Lg P), (114, Lh P), (117, Ln P), (118, Lp P), (119, Lq P), (120, Lr P), (121, Ly P), (124, LK P), (125, LQ P), (126, LR P), (129, Mg P), (130, Mh P), (131, Mi P), (132, Mj P), (133, Ml P), (136, Mr P), (137, Ms P), (138, Mu P), (156, M4 P), (157, M5 P), (160, M8 P), (161, M9 P), (164, Nb P), (165, Nf P), (166, Nh P), (167, Nk P), (168, Np P), (171, Nt P), (172, Nu P), (173, Nv P), (174, Ny P), (175, Nz P), (178, NQ P), (179, NT P), (180, NZ P), (181, N5 P), (182, N6 P), (185, Oa P), (186, Oc P), (187, Od P), (188, Oe P), (189, Og P), (192, Oj P), (193, Ol P), (194, Om P), (195, Oo P), (196, Oq P), (199, Ow P), (200, Ox P), (201, Oz P), (202, OD P), (203, CJ P), (206, O5 P), (207, O6 P), (208, O7 P), (209, O8 P), (210, O9 P), (213, Pg P), (214, Ph P), (215, Pj P), (216, Pk P), (217, Pn P), (220, Pu P), (221, Px P), (222, Py P), (223, PB P), (224, PL P), (227, Qa P), (228, Qc P), (229, Qe P), (230, Qg P), (231, Qh P), (234, Qm P), (235, Qn P), (236, Qo P), (237, Qp P), (238, Qq P), (241, Qu P), (242, Qv P), (243, Qw P), (244, Qx P), (245, Qy P), (248, QD P), (249, QF P), (250, QG P), (251, QJ P), (252, QK P), (255, QS P), (256, QT P), (257, QV P), (258, QW P), (259, QX P), (262, Q6 P), (263, Q7 P), (264, Q8 P), (282, Yd P), (289, Yl P), (296, Ys P), (301, Yx P), (308, YG P), (313, YM P), (318, YX P), (325, Y8 P), (332, Zg P), (339, Zq P), (346, Zy P), (347, Zz P), (350, ZF P), (351, ZG P), (354, ZJ P), (355, ZK P), (356, ZL P), (357, ZM P), (358, ZP P), (361, ZV P), (362, ZW P), (363, ZX P), (364, Z0 P), (365, Z4 P), (368, Z7 P), (369, Z8 P), (370, Z9 P), (371, aac P), (372, aad P), (375, aag P), (376, aah P), (377, aai P), (378, aaj P), (379, aak P), (382, aan P), (383, aao P), (384, aap P), (387, aas P), (388, aat P), (389, aau P), (392, aax P), (393, aay P), (394, aaz P), (395, aaA P), (396, aaB P), (399, aaE P), (400, aaF P), (401, aaG P), (404, aaJ P), (405, aaK P), (406, aaL P), (407, aaM P), (408, aaN P), (411, aaQ P), (412, aaR P), (413, aaS P), (414, aaT P), (415, aaU P), (418, aaX P), (419, aaY P), (420, aaZ P), (423, aa2 P), (424, aa3 P), (425, aa4 P), (426, aa5 P), (427, aa6 P), (28, Em P), (22, Ef P), (60, Fg P), (155, MP P), (281, Yc P), (275, X4 P), (288, Yk P), (295, Yr P), (300, Yw P), (307, YF P), (312, YL P), (317, YW P), (324, Y7 P), (331, Zf P), (338, Zo P), (345, Zx P), (23, Eh P), (24, Ei P), (25, Ek P), (26, El P), (27, Aj P), (55, Ey P), (56, Ez P), (57, EY P), (58, Fb P), (59, Fe P), (150, Mz P), (151, MF P), (152, MJ P), (153, MK P), (154, MN P), (276, X5 P), (277, X6 P), (278, X7 P), (279, X8 P), (280, Yb P), (283, Ye P), (284, Yg P), (285, Yh P), (286, Yi P), (287, Yj P), (290, Ym P), (291, Yn P), (292, Yo P), (293, Yp P), (294, Yq P), (297, Yt P), (298, Yu P), (299, Yv P), (302, Yy P), (303, Yz P), (304, YB P), (305, YC P), (306, YD P), (309, YH P), (310, YJ P), (311, YK P), (314, YQ P), (315, YS P), (316, YT P), (319, YZ P), (320, Y0 P), (321, Y4 P), (322, Y5 P), (323, Y6 P), (326, Y9 P), (327, Za P), (328, Zb P), (329, Zd P), (330, Ze P), (333, Zh P), (334, Zi P), (335, Zj P), (336, Zk P), (337, Zm P), (340, Zr P), (341, Zt P), (342, Zu P), (343, Zv P), (344, Zw P)]
theorem hK (w : World) (os : OsState) : He.frG (HandSHeadRun.getT (SF w os)) as0 = KF w.params := by kernel_rfl
theorem hn (w : World) : (boot_heap w.params).objs.size = n0 := by kernel_rfl
theorem ha (w : World) : HandSHeadRun.bootAnn w = yq := by kernel_rfl
theorem run (w : World) (os : OsState) : ∃ M, M ≤ 200000 ∧ topRun treeTable PySem.Challenge.pw_givenback_k23_things_got_and_given w (boot_heap w.params).objs.size (HandSHeadRun.bootAnn w) M ⟨boot_heap w.params, #[], boot_drawn, boot_toks, os⟩ (topStub PySem.Challenge.pw_givenback_k23_things_got_and_given) = some (SF w os).abs := by
  have h1 := (HP.Piece.app (p2 w os) (HP.Piece.app (p3 w os) (HP.Piece.app (p4 w os) (HP.Piece.app (p5 w os) (HP.Piece.app (p6 w os) (HP.adD (env := env0) (b := oh) (by decide +kernel) (hf w os)))))))
  have h2 := HP.block_start (hs w os) h1
  rw [← hn w, ← ha w] at h2
  have e : HandSHeadRun.denQ HandSHeadRun.tabQ c0 = denote treeTable (.body oh env0) := by
    rw [← HandSHeadRun.denQ_eq, ← HandSHeadRun.tabQ_eq]
    rfl
  have h0 := hb w os
  rw [e] at h0
  exact ⟨_, by decide, HP.Ec.top h0 h2⟩
end Ib
end
noncomputable section
namespace Ib
open PySem PySem.W PyProof.Rows L2 dJ
abbrev R : PySem.W.OpenRow := PySem.W.OpenLaw.row PySem.Challenge.rw_givenback_k23_things_got_and_given
abbrev hk : PySem.W.Hook := HP.adE as0 fa0 tabs parts
def others : List PySem.Str := ((["is_name", "is_whole", "is_number", "is_outcome", "is_count", "is_part", "is_log_row", "doer_of", "check_told", "first_so", "ask_doing", "ask_begun", "ask_kill", "ask_late", "ask_nobody", "ask_got", "ask_given", "ask_landed", "ask_masked", "ask_opened"] : List PySem.Str) ++ (["ask_last", "ask_lasted", "ask_rescued", "ask_ended", "_law_cell_at", "_law_well", "_law_draw", "_law_one", "_law_word", "_law_full", "_law_due", "_law_done", "_law_row", "_law_seen", "_law_ends", "LETTERS", "LONGEST", "FORMS", "ON", "KILLED"] : List PySem.Str) ++ (["MOST_TASKS", "PLAIN_SIZE", "ASKING", "WorkError", "BadRun", "Broken", "Seen", "Watch"] : List PySem.Str))
abbrev Q : Program := PySem.W.view R.prog [54]
abbrev xt : Shared → Bool := fun s => PySem.W.xlAt Q [] s && PySem.W.recOk R.toRowW.records s
theorem ah8 (w : World) (os : OsState) : HandSHeadRun.looksF R.prog (PySem.W.boot_heap w.params) (SF w os).abs = true := by kernel_rfl
theorem ajM (w : World) (os : OsState) : HandSHeadRun.seenQ Q others (importedModules R.prog.main.body) xt (SF w os).abs = PySem.W.openGood Q others := by kernel_rfl
theorem ajN (w : World) : GB.obsE fa0 [] tabs [] (KF w.params) = GB.valE [] tabs w := by kernel_rfl
theorem ano (w : World) : (pt0.map fun p => GB.obsE p.1 p.2.1 [] p.2.2 (KF w.params)) = GB.Xc pt0 w := by kernel_rfl
theorem ah9 (w : World) : (parts.map fun p => GB.obsE p.1 p.2.1 [] p.2.2 (KF w.params)) = GB.Xc parts w := ano w
theorem ends (w : World) (os : OsState) : ∃ s, HP.Ends R.prog Q others xt hk.obs hk.val 200000 w os s :=
  HP.ahZ (run w os) (ah8 w os) (ajM w os) (HP.af6 (hK w os) (ajN w) (ah9 w))
end Ib
end
section
open PySem PySem.W PySem.Calls PyProof.Rows
set_option maxHeartbeats 0 in
theorem hold0 (call : PySem.W.WalkO Ib.Q Ib.others (XL Ib.Q []) (Hook.says Ib.hk) (OpenRow.toRowW (OpenLaw.row PySem.Challenge.rw_givenback_k23_things_got_and_given)) (HandSHeadRun.topDef (OpenLaw.row PySem.Challenge.rw_givenback_k23_things_got_and_given).prog 54) [] fun f vs => PySem.call f vs) : PySem.Challenge.rw_givenback_k23_things_got_and_given.Holds := by
  w_on; o_law
  refine HP.head (r := OpenLaw.row PySem.Challenge.rw_givenback_k23_things_got_and_given) (q := Ib.Q) (H := Ib.hk) (M := 200000) (loose := Ib.others) (d := HandSHeadRun.topDef (OpenLaw.row PySem.Challenge.rw_givenback_k23_things_got_and_given).prog 54) (kwd := [])
    (by kernel_rfl) (fun s => by kernel_rfl) Ib.ends (by kernel_rfl) (by kernel_rfl) (by kernel_rfl) (by rfl) (by first | assumption | decide +kernel) (by decide +kernel) ⟨rfl, rfl, rfl, rfl, rfl, by decide +kernel⟩ ?hw call
  case hw => w_witness2
end
namespace PD
open PySem PySem.Spec PyProof.Rows L2
inductive D where
  | non | bl (b : Bool) | int (i : Int) | str (x : Str) | tup (ds : List D) | lst (ds : List D) | dD (ds : List D)
  | obj (c : Str) (fs : List (Str × D)) | ref (n : Nat) | glo (x : Str) | ty (n : String)
  deriving Inhabited
inductive Cell where
  | lst (ds : List D) | dict (kvs : List (Key × D)) | ins (c : Str) (fs : List (Str × D)) | gU (kvs : List (Key × D))
abbrev AH := List Cell
inductive Res (β : Type) where
  | ok (b : β) (h : AH) | exc (c : Str) (fs : List (Str × D)) (h : AH) | stuck
def Res.bind {β γ : Type} : Res β → (β → AH → Res γ) → Res γ
  | .ok b h, g => g b h
  | .exc c fs h, _ => .exc c fs h
  | .stuck, _ => .stuck
@[simp] theorem Res.tV {β γ : Type} {b : β} {h : AH} {g : β → AH → Res γ} : (Res.ok b h).bind g = g b h := rfl
@[simp] theorem Res.tW {β γ : Type} {c : Str} {fs : List (Str × D)} {h : AH} {g : β → AH → Res γ} : (Res.exc c fs h).bind g = .exc c fs h := rfl
@[simp] theorem Res.alN {β γ : Type} {g : β → AH → Res γ} : (Res.stuck : Res β).bind g = .stuck := rfl
def CK {β : Type} : Option (β × AH) → Res β
  | some p => .ok p.1 p.2
  | none => .stuck
@[simp] theorem tX {β : Type} {p : β × AH} : CK (some p) = .ok p.1 p.2 := rfl
@[simp] theorem anp {β : Type} : CK (none : Option (β × AH)) = .stuck := rfl
abbrev En := List (Option D)
abbrev ME := En → AH → Res D
abbrev MT := En → AH → Res Bool
abbrev MA := En → AH → Res (List D)
inductive RS where
  | nx (e : En) (h : AH) | rt (d : D) (h : AH) | bk (e : En) (h : AH) | ct (e : En) (h : AH)
  | exc (c : Str) (fs : List (Str × D)) (e : En) (h : AH) | stuck
abbrev MS := En → AH → RS
abbrev MG := D → En → AH → Res En
def Res.st {β : Type} (e : En) : Res β → (β → AH → RS) → RS
  | .ok b h, g => g b h
  | .exc c fs h, _ => .exc c fs e h
  | .stuck, _ => .stuck
@[simp] theorem Res.Ak {β : Type} {e : En} {b : β} {h : AH} {g : β → AH → RS} : (Res.ok b h).st e g = g b h := rfl
@[simp] theorem Res.zm {β : Type} {e : En} {c : Str} {fs : List (Str × D)} {h : AH} {g : β → AH → RS} : (Res.exc c fs h).st e g = .exc c fs e h := rfl
@[simp] theorem Res.anq {β : Type} {e : En} {g : β → AH → RS} : (Res.stuck : Res β).st e g = .stuck := rfl
def RS.seq : RS → (En → AH → RS) → RS
  | .nx e h, g => g e h
  | r, _ => r
@[simp] theorem RS.zp {e : En} {h : AH} {g : En → AH → RS} : (RS.nx e h).seq g = g e h := rfl
@[simp] theorem RS.zq {d : D} {h : AH} {g : En → AH → RS} : (RS.rt d h).seq g = .rt d h := rfl
@[simp] theorem RS.v8 {c : Str} {fs : List (Str × D)} {e : En} {h : AH} {g : En → AH → RS} : (RS.exc c fs e h).seq g = .exc c fs e h := rfl
@[simp] theorem RS.amE {g : En → AH → RS} : RS.stuck.seq g = .stuck := rfl
@[simp] theorem RS.anU {e : En} {h : AH} {g : En → AH → RS} : (RS.bk e h).seq g = .bk e h := rfl
@[simp] theorem RS.anV {e : En} {h : AH} {g : En → AH → RS} : (RS.ct e h).seq g = .ct e h := rfl
def aj (i : Nat) : ME := fun e h => match e[i]? with
  | some (some d) => .ok d h
  | _ => .stuck
def eC (d : D) : ME := fun _ h => .ok d h
abbrev O1 := D → AH → Option (D × AH)
abbrev O2 := D → D → AH → Option (D × AH)
abbrev ON := List D → AH → Option (D × AH)
def wO (o : O1) (fa : ME) : ME := fun e h => (fa e h).bind fun a h1 => CK (o a h1)
def aG (o : O2) (fa fb : ME) : ME := fun e h => (fa e h).bind fun a h1 => (fb e h1).bind fun b h2 => CK (o a b h2)
def aA : MA := fun _ h => .ok [] h
def ak (fa : ME) (fr : MA) : MA := fun e h => (fa e h).bind fun a h1 => (fr e h1).bind fun r h2 => .ok (a :: r) h2
def bB (o : ON) (fa : MA) : ME := fun e h => (fa e h).bind fun as h1 => CK (o as h1)
def truth : D → AH → Option Bool
  | .non, _ => some false
  | .bl b, _ => some b
  | .int i, _ => some (i != 0)
  | .str x, _ => if x.length ≤ 16777216 then some ((x.length : Int) != 0) else none
  | .lst ds, _ => some (!ds.isEmpty)
  | .dD ds, _ => some (!ds.isEmpty)
  | .tup ds, _ => some (!ds.isEmpty)
  | .ref n, h => match h[n]? with
    | some (.lst ds) => some (!ds.isEmpty)
    | some (.dict kvs) => some (!kvs.isEmpty)
    | _ => none
  | _, _ => none
def tTru (d : D) (h : AH) : Res Bool := match truth d h with
  | some b => .ok b h
  | none => .stuck
def ju (fa fb : ME) : ME := fun e h => (fa e h).bind fun a h1 => (tTru a h1).bind fun b h1 => if b = true then fb e h1 else .ok a h1
def CN (fa fb : ME) : ME := fun e h => (fa e h).bind fun a h1 => (tTru a h1).bind fun b h1 => if b = true then .ok a h1 else fb e h1
def rR (fa : ME) : ME := fun e h => (fa e h).bind fun a h1 => (tTru a h1).bind fun b h1 => .ok (.bl (!b)) h1
def UG (c : MT) (fa fb : ME) : ME := fun e h => (c e h).bind fun b h1 => if b = true then fa e h1 else fb e h1
def qF (o o' : O2) (fa fb fc : ME) : ME := fun e h => (fa e h).bind fun a h1 => (fb e h1).bind fun b h2 => (CK (o a b h2)).bind fun z h3 => match z with
  | .bl k => if k = true then (fc e h3).bind fun c h4 => CK (o' b c h4) else .ok (.bl false) h3
  | _ => .stuck
def eE (fa : ME) : MT := fun e h => (fa e h).bind fun a h1 => tTru a h1
def isB : D → AH → Res Bool
  | .bl b, h => .ok b h
  | _, _ => .stuck
@[simp] theorem zu {b : Bool} {h : AH} : isB (.bl b) h = .ok b h := rfl
def bZ (fa : ME) : MT := fun e h => (fa e h).bind fun a h1 => isB a h1
def jD (c d : MT) : MT := fun e h => (c e h).bind fun b h1 => if b = true then d e h1 else .ok false h1
def BL (c d : MT) : MT := fun e h => (c e h).bind fun b h1 => if b = true then .ok true h1 else d e h1
def ou (c : MT) : MT := fun e h => (c e h).bind fun b h1 => .ok (!b) h1
def cG : MS := fun e h => .nx e h
def aY (f g : MS) : MS := fun e h => (f e h).seq g
def gq (fa : ME) : MS := fun e h => (fa e h).st e fun _ h1 => .nx e h1
def bV (fa : ME) : MS := fun e h => (fa e h).st e fun d h1 => .rt d h1
def Fy : MS := fun _ h => .rt .non h
def cD (c : MT) (f g : MS) : MS := fun e h => (c e h).st e fun b h1 => if b = true then f e h1 else g e h1
def bJ (fa : ME) (g : MG) : MS := fun e h => (fa e h).st e fun d h1 => (g d e h1).st e fun e' h2 => .nx e' h2
def gName (i : Nat) : MG := fun d e h => .ok (e.set i (some d)) h
def gNil : List D → En → AH → Res En := fun ds e h => match ds with
  | [] => .ok e h
  | _ => .stuck
def gCons (g : MG) (r : List D → En → AH → Res En) : List D → En → AH → Res En := fun ds e h => match ds with
  | d :: ds => (g d e h).bind fun e' h1 => r ds e' h1
  | _ => .stuck
def forL (g : MG) (b : MS) : List D → En → AH → RS
  | [], e, h => .nx e h
  | d :: ds, e, h => (g d e h).st e fun e1 h1 => match b e1 h1 with
    | .nx e2 h2 => forL g b ds e2 h2
    | .ct e2 h2 => forL g b ds e2 h2
    | .bk e2 h2 => .nx e2 h2
    | r => r
def vB (it : En → AH → Res (List D)) (g : MG) (b : MS) : MS := fun e h => (it e h).st e fun ds h1 => forL g b ds e h1
def gJ (e : En) : List Nat → En
  | [] => e
  | i :: is => (gJ e is).set i none
def eY (g : MG) (t : MT) (f : ME) (own : List Nat) (e : En) : List D → List D → AH → Res (List D)
  | acc, [], h => .ok acc h
  | acc, d :: ds, h => match g d (gJ e own) h with
    | .ok e1 h1 => match t e1 h1 with
      | .ok true h2 => match f e1 h2 with
        | .ok x h3 => if acc.length < 16777216 then eY g t f own e (acc ++ [x]) ds h3 else .stuck
        | _ => .stuck
      | .ok false h2 => eY g t f own e acc ds h2
      | _ => .stuck
    | _ => .stuck
def kJ (it : En → AH → Res (List D)) (g : MG) (t : MT) (f : ME) (own : List Nat) : ME := fun e h => (it e h).bind fun ds h1 => (eY g t f own e [] ds h1).bind fun r h2 => .ok (.lst r) h2
def g8 : MT := fun _ h => .ok true h
def body (n N : Nat) (f : MS) : List D → AH → Res D := fun ds h => if ds.length = n then match f (ds.map some ++ List.replicate (N - n) none) h with
  | .nx _ h' => .ok .non h'
  | .rt d h' => .ok d h'
  | .exc c fs _ h' => .exc c fs h'
  | _ => .stuck
  else .stuck
def bx (n k : Nat) (m : List D → AH → Res D) (fa fk : MA) : ME := fun e h => (fa e h).bind fun ds h1 => (fk e h1).bind fun es h2 => if ds.length = n ∧ es.length = k then m (ds ++ es) h2 else .stuck
end PD
namespace PD
open PySem PySem.Spec PyProof.Rows L2
structure Al where
  c : List Addr
  r : List Addr
def Al.has (al : Al) (a : Addr) : Prop := a ∈ al.c ∨ a ∈ al.r
def Ls (H : Hp) (al : Al) (a : Addr) (vs : List V) : Prop := H a = some (.lst vs) ∧ ¬ al.has a
def Kl (K : PySem.W.Frag) (H : Hp) (al : Al) (a : Addr) (vs : List V) : Prop :=
  (∃ o, H a = some (.frz o (.lst vs)) ∧ ¬ al.has a) ∨
    ∃ (o : Obj) (its : Array Value) (n : Nat), K.lookup a = some o ∧ o.cls = .type "list" ∧ o.dict = none ∧ o.data = .seq its n ∧ its.size ≤ sizeLine ∧ Vals vs its.toList
theorem Ls.sq {K : PySem.W.Frag} {H : Hp} {al : Al} {a : Addr} {vs : List V} (h : Ls H al a vs) : SqL K H a vs := .inl (.inl h.1)
theorem Kl.sq {K : PySem.W.Frag} {H : Hp} {al : Al} {a : Addr} {vs : List V} (h : Kl K H al a vs) : SqL K H a vs := by
  rcases h with ⟨o, h, _⟩ | h
  · exact .inl (.inr ⟨o, h⟩)
  · exact .inr h
mutual
inductive Rp (K : PySem.W.Frag) (H : Hp) (al : Al) : D → V → Prop
  | non : Rp K H al .non .non
  | bl (b : Bool) : Rp K H al (.bl b) (.bl b)
  | int (i : Int) : Rp K H al (.int i) (.int i)
  | str (x : Str) : Rp K H al (.str x) (.str x)
  | ty (n : String) : Rp K H al (.ty n) (.ty n)
  | glo (x : Str) : Rp K H al (.glo x) (.ref (He.ga K x))
  | ref {n : Nat} {a : Addr} : al.c[n]? = some a → Rp K H al (.ref n) (.ref a)
  | tup {a : Addr} {ds : List D} {vs : List V} : SqT K H a vs → bD K H al ds vs → Rp K H al (.tup ds) (.ref a)
  | lst {a : Addr} {ds : List D} {vs : List V} : Ls H al a vs → bD K H al ds vs → Rp K H al (.lst ds) (.ref a)
  | dD {a : Addr} {ds : List D} {vs : List V} : Kl K H al a vs → bD K H al ds vs → Rp K H al (.dD ds) (.ref a)
  | obj {c : Str} {a dx : Addr} {fs : List (Str × D)} {gs : List (Str × V)} : H a = some (.ins (He.ga K c) dx gs) → ¬ al.has a → dM K H al fs gs → Rp K H al (.obj c fs) (.ref a)
inductive bD (K : PySem.W.Frag) (H : Hp) (al : Al) : List D → List V → Prop
  | nil : bD K H al [] []
  | cons {d : D} {v : V} {ds : List D} {vs : List V} : Rp K H al d v → bD K H al ds vs → bD K H al (d :: ds) (v :: vs)
inductive dM (K : PySem.W.Frag) (H : Hp) (al : Al) : List (Str × D) → List (Str × V) → Prop
  | nil : dM K H al [] []
  | cons {f : Str} {d : D} {v : V} {ds : List (Str × D)} {vs : List (Str × V)} : Rp K H al d v → dM K H al ds vs → dM K H al ((f, d) :: ds) ((f, v) :: vs)
end
structure Le (H : Hp) (al : Al) (H' : Hp) (aQ : Al) : Prop where
  pre : ∃ t, aQ.c = al.c ++ t
  tG : aQ.r = al.r
  keep : ∀ a o, H a = some o → ¬ al.has a → H' a = some o
  res : ∀ a ∈ al.r, H' a = H a
  new : ∀ a ∈ aQ.c, a ∈ al.c ∨ H a = none
  lk : ∀ a o u, H a = some (.frz o u) → H' a = some (.frz o u)
section
variable {K : PySem.W.Frag} {H H' H2 : Hp} {al aQ cZ : Al} {a : Addr} {vs : List V}
theorem Le.refl : Le H al H al := ⟨⟨[], by simp⟩, rfl, fun _ _ h _ => h, fun _ _ => rfl, fun _ h => .inl h, fun _ _ _ h => h⟩
theorem Le.out (l : Le H al H' aQ) {o : HO} (h : H a = some o) (n : ¬ al.has a) : ¬ aQ.has a := fun z => by
  rcases z with z | z
  · rcases l.new a z with q | q
    · exact n (.inl q)
    · rw [h] at q
      cases q
  · rw [l.tG] at z
    exact n (.inr z)
theorem Le.trans (l : Le H al H' aQ) (m : Le H' aQ H2 cZ) : Le H al H2 cZ := by
  obtain ⟨t, ht⟩ := l.pre
  obtain ⟨u, hu⟩ := m.pre
  refine ⟨⟨t ++ u, by rw [hu, ht, List.append_assoc]⟩, m.tG.trans l.tG, fun a o e n => m.keep a o (l.keep a o e n) (l.out e n), fun a ha => (m.res a (by rw [l.tG]; exact ha)).trans (l.res a ha), fun a ha => ?_, fun a o u e => m.lk a o u (l.lk a o u e)⟩
  rcases m.new a ha with h | h
  · exact l.new a h
  · by_cases q : al.has a
    · rcases q with q | q
      · exact .inl q
      · rw [l.res a q] at h
        exact .inr h
    · cases e : H a with
      | none => exact .inr rfl
      | some o =>
        rw [l.keep a o e q] at h
        cases h
structure fV (H : Hp) (al : Al) (H' : Hp) (aQ : Al) : Prop where
  pre : ∃ t, aQ.c = al.c ++ t
  keep : ∀ a o, H a = some o → ¬ al.has a → H' a = some o
  out : ∀ a o, H a = some o → ¬ al.has a → ¬ aQ.has a
  lk : ∀ a o u, H a = some (.frz o u) → H' a = some (.frz o u)
theorem Le.zA (l : Le H al H' aQ) : fV H al H' aQ := ⟨l.pre, l.keep, fun _ _ h n => l.out h n, l.lk⟩
theorem fV.get (l : fV H al H' aQ) {n : Nat} (h : al.c[n]? = some a) : aQ.c[n]? = some a := by
  obtain ⟨t, ht⟩ := l.pre
  rw [ht, List.getElem?_append_left]
  · exact h
  · exact (List.getElem?_eq_some_iff.mp h).1
theorem Ls.cP (h : Ls H al a vs) (l : fV H al H' aQ) : Ls H' aQ a vs := ⟨l.keep _ _ h.1 h.2, l.out _ _ h.1 h.2⟩
theorem Kl.cP (h : Kl K H al a vs) (l : fV H al H' aQ) : Kl K H' aQ a vs := by
  rcases h with ⟨o, h, n⟩ | h
  · exact .inl ⟨o, l.keep _ _ h n, l.out _ _ h n⟩
  · exact .inr h
end
def eG (K : PySem.W.Frag) (H : Hp) (al : Al) (a : Addr) : Cell → Prop
  | .lst ds => ∃ vs, H a = some (.lst vs) ∧ bD K H al ds vs
  | .dict kvs => ∃ ws, H a = some (.dK ws) ∧ ws.map (·.1) = kvs.map (·.1) ∧ bD K H al (kvs.map (·.2)) (ws.map (·.2))
  | .ins c fs => ∃ dx gs, H a = some (.ins (He.ga K c) dx gs) ∧ dM K H al fs gs
  | .gU kvs => ∃ o ws, H a = some (.frz o (.dK ws)) ∧ ws.map (·.1) = kvs.map (·.1) ∧ bD K H al (kvs.map (·.2)) (ws.map (·.2))
theorem eG.some {K : PySem.W.Frag} {H : Hp} {al : Al} {a : Addr} {c : Cell} (h : eG K H al a c) : ∃ o, H a = some o ∧ ∀ xs, o ≠ .tup xs := by
  cases c with
  | lst ds =>
    obtain ⟨vs, e, _⟩ := h
    exact ⟨_, e, fun _ z => nomatch z⟩
  | dict kvs =>
    obtain ⟨vs, e, _⟩ := h
    exact ⟨_, e, fun _ z => nomatch z⟩
  | ins c fs =>
    obtain ⟨dx, gs, e, _⟩ := h
    exact ⟨_, e, fun _ z => nomatch z⟩
  | gU kvs =>
    obtain ⟨o, ws, e, _⟩ := h
    exact ⟨_, e, fun _ z => nomatch z⟩
structure HR (K : PySem.W.Frag) (H : Hp) (al : Al) (h : AH) : Prop where
  nd : al.c.Nodup
  len : al.c.length = h.length
  dis : ∀ a ∈ al.c, a ∉ al.r
  rs : ∀ a ∈ al.r, ∃ vs, H a = some (.lst vs)
  at_ : ∀ (n : Nat) (c : Cell) (a : Addr), h[n]? = some c → al.c[n]? = some a → eG K H al a c
section
variable {K : PySem.W.Frag} {H H' H2 : Hp} {al aQ cZ : Al} {a p : Addr} {vs : List V} {h h' : AH} {n : Nat} {c : Cell}
theorem HR.addr (r : HR K H al h) (e : h[n]? = some c) : ∃ a, al.c[n]? = some a ∧ eG K H al a c := by
  have hl : n < al.c.length := by
    rw [r.len]
    exact (List.getElem?_eq_some_iff.mp e).1
  exact ⟨al.c[n], by simp [hl], r.at_ n c _ e (by simp [hl])⟩
theorem HR.cell (r : HR K H al h) (e : al.c[n]? = some a) : ∃ c, h[n]? = some c ∧ eG K H al a c := by
  have hl : n < h.length := by
    rw [← r.len]
    exact (List.getElem?_eq_some_iff.mp e).1
  exact ⟨h[n], by simp [hl], r.at_ n _ a (by simp [hl]) e⟩
theorem HR.here (r : HR K H al h) (m : a ∈ al.c) : ∃ o, H a = some o ∧ ∀ xs, o ≠ .tup xs := by
  obtain ⟨n, e⟩ := List.getElem?_of_mem m
  obtain ⟨c, _, q⟩ := r.cell e
  exact q.some
theorem HR.aeW (r : HR K H al h) {xs : List V} (e : Rd H a (.tup xs)) : ¬ al.has a := fun m => by
  rcases m with m | m
  · obtain ⟨n, e2⟩ := List.getElem?_of_mem m
    obtain ⟨c, _, q⟩ := r.cell e2
    cases c with
    | lst ds =>
      obtain ⟨vs, q, _⟩ := q
      rcases e with e | ⟨o, e⟩ <;> rw [q] at e <;> cases e
    | dict kvs =>
      obtain ⟨vs, q, _⟩ := q
      rcases e with e | ⟨o, e⟩ <;> rw [q] at e <;> cases e
    | ins c fs =>
      obtain ⟨dx, gs, q, _⟩ := q
      rcases e with e | ⟨o, e⟩ <;> rw [q] at e <;> cases e
    | gU kvs =>
      obtain ⟨o2, ws, q, _⟩ := q
      rcases e with e | ⟨o, e⟩ <;> rw [q] at e <;> cases e
  · obtain ⟨vs, q⟩ := r.rs a m
    rcases e with e | ⟨o, e⟩ <;> rw [q] at e <;> cases e
theorem Ij {xs : List V} (r : HR K H al h) (s : SqT K H a xs) (l : fV H al H' aQ) : SqT K H' a xs := by
  rcases s with s | s
  · have n := r.aeW s
    rcases s with s | ⟨o, s⟩
    · exact .inl (.inl (l.keep _ _ s n))
    · exact .inl (.inr ⟨o, l.keep _ _ s n⟩)
  · exact .inr s
mutual
theorem Rp.cP (r : HR K H al h) (l : fV H al H' aQ) : ∀ {d : D} {v : V}, Rp K H al d v → Rp K H' aQ d v
  | _, _, .non => .non
  | _, _, .bl b => .bl b
  | _, _, .int i => .int i
  | _, _, .str x => .str x
  | _, _, .ty n => .ty n
  | _, _, .glo x => .glo x
  | _, _, .ref e => .ref (l.get e)
  | _, _, .tup s q => .tup (Ij r s l) (bD.cP r l q)
  | _, _, .lst s q => .lst (s.cP l) (bD.cP r l q)
  | _, _, .dD s q => .dD (s.cP l) (bD.cP r l q)
  | _, _, .obj e n q => .obj (l.keep _ _ e n) (l.out _ _ e n) (dM.cP r l q)
theorem bD.cP (r : HR K H al h) (l : fV H al H' aQ) : ∀ {ds : List D} {vs : List V}, bD K H al ds vs → bD K H' aQ ds vs
  | _, _, .nil => .nil
  | _, _, .cons q qs => .cons (Rp.cP r l q) (bD.cP r l qs)
theorem dM.cP (r : HR K H al h) (l : fV H al H' aQ) : ∀ {ds : List (Str × D)} {vs : List (Str × V)}, dM K H al ds vs → dM K H' aQ ds vs
  | _, _, .nil => .nil
  | _, _, .cons q qs => .cons (Rp.cP r l q) (dM.cP r l qs)
end
theorem Rp.mono (r : HR K H al h) (l : Le H al H' aQ) {d : D} {v : V} (q : Rp K H al d v) : Rp K H' aQ d v := q.cP r l.zA
theorem bD.mono (r : HR K H al h) (l : Le H al H' aQ) {d : List D} {v : List V} (q : bD K H al d v) : bD K H' aQ d v := q.cP r l.zA
theorem dM.mono (r : HR K H al h) (l : Le H al H' aQ) {d : List (Str × D)} {v : List (Str × V)} (q : dM K H al d v) : dM K H' aQ d v := q.cP r l.zA
theorem bD.length {ds : List D} : ∀ {vs : List V}, bD K H al ds vs → ds.length = vs.length := by
  induction ds with
  | nil => intro vs h; cases h; rfl
  | cons d ds ih => intro vs h; cases h with | cons _ q => simp [ih q]
theorem bD.get {ds : List D} {vs : List V} (q : bD K H al ds vs) {i : Nat} {d : D} (e : ds[i]? = some d) : ∃ v, vs[i]? = some v ∧ Rp K H al d v := by
  induction ds generalizing vs i with
  | nil => simp at e
  | cons x ds ih =>
    cases q with
    | cons q qs =>
      cases i with
      | zero => simp at e; subst e; exact ⟨_, rfl, q⟩
      | succ i => simpa using ih qs (by simpa using e)
theorem bD.get' {ds : List D} {vs : List V} (q : bD K H al ds vs) {i : Nat} {v : V} (e : vs[i]? = some v) : ∃ d, ds[i]? = some d ∧ Rp K H al d v := by
  induction ds generalizing vs i with
  | nil => cases q; simp at e
  | cons x ds ih =>
    cases q with
    | cons q qs =>
      cases i with
      | zero => simp at e; subst e; exact ⟨_, rfl, q⟩
      | succ i => simpa using ih qs (by simpa using e)
theorem bD.append {ds es : List D} {vs ws : List V} (q : bD K H al ds vs) (r : bD K H al es ws) : bD K H al (ds ++ es) (vs ++ ws) := by
  induction ds generalizing vs with
  | nil => cases q; exact r
  | cons d ds ih => cases q with | cons q qs => exact .cons q (ih qs)
theorem bD.set {ds : List D} {vs : List V} (q : bD K H al ds vs) {d : D} {v : V} (r : Rp K H al d v) (i : Nat) : bD K H al (ds.set i d) (vs.set i v) := by
  induction ds generalizing vs i with
  | nil => cases q; exact .nil
  | cons x ds ih =>
    cases q with
    | cons q qs =>
      cases i with
      | zero => exact .cons r qs
      | succ i => exact .cons q (ih qs i)
theorem bD.take {ds : List D} {vs : List V} (q : bD K H al ds vs) (n : Nat) : bD K H al (ds.take n) (vs.take n) := by
  induction ds generalizing vs n with
  | nil => cases q; simp; exact .nil
  | cons x ds ih =>
    cases q with
    | cons q qs =>
      cases n with
      | zero => exact .nil
      | succ n => exact .cons q (ih qs n)
theorem bD.drop {ds : List D} {vs : List V} (q : bD K H al ds vs) (n : Nat) : bD K H al (ds.drop n) (vs.drop n) := by
  induction ds generalizing vs n with
  | nil => cases q; simp; exact .nil
  | cons x ds ih =>
    cases q with
    | cons q qs =>
      cases n with
      | zero => exact .cons q qs
      | succ n => exact ih qs n
theorem bD.reverse {ds : List D} {vs : List V} (q : bD K H al ds vs) : bD K H al ds.reverse vs.reverse := by
  induction ds generalizing vs with
  | nil => cases q; exact .nil
  | cons x ds ih =>
    cases q with
    | cons q qs =>
      rw [List.reverse_cons, List.reverse_cons]
      exact (ih qs).append (.cons q .nil)
theorem eG.cP (r : HR K H al h) (l : fV H al H' aQ) (q : eG K H al a c) (e : H' a = H a) : eG K H' aQ a c := by
  cases c with
  | lst ds =>
    obtain ⟨vs, z, q⟩ := q
    exact ⟨vs, e.trans z, q.cP r l⟩
  | dict kvs =>
    obtain ⟨ws, z, k, q⟩ := q
    exact ⟨ws, e.trans z, k, q.cP r l⟩
  | ins c fs =>
    obtain ⟨dx, gs, z, q⟩ := q
    exact ⟨dx, gs, e.trans z, q.cP r l⟩
  | gU kvs =>
    obtain ⟨o, ws, z, k, q⟩ := q
    exact ⟨o, ws, e.trans z, k, q.cP r l⟩
theorem eG.mono (r : HR K H al h) (l : Le H al H' aQ) (q : eG K H al a c) (e : H' a = H a) : eG K H' aQ a c := q.cP r l.zA e
theorem Le.same (r : HR K H al h) (s : Same H H') : Le H al H' al := ⟨⟨[], by simp⟩, rfl, fun a u q _ => s a u q, fun a ha => by
  obtain ⟨vs, e⟩ := r.rs a ha
  rw [e]
  exact s _ _ e, fun _ z => .inl z, fun a o u e => s _ _ e⟩
theorem HR.same (r : HR K H al h) (s : Same H H') : HR K H' al h := ⟨r.nd, r.len, r.dis, fun a ha => by
  obtain ⟨vs, e⟩ := r.rs a ha
  exact ⟨vs, s _ _ e⟩, fun n c a e1 e2 => by
  have q := r.at_ n c a e1 e2
  obtain ⟨o, z, _⟩ := q.some
  exact q.mono r (Le.same r s) ((s _ _ z).trans z.symm)⟩
theorem same_upd {o : HO} (e : H p = none) : Same H (upd H p o) := fun a u q => by
  rw [upd_ne (ne_of_none q e)]
  exact q
theorem Le.fresh {o : HO} (r : HR K H al h) (e : H p = none) : Le H al (upd H p o) al := Le.same r (same_upd e)
theorem HR.fresh {o : HO} (r : HR K H al h) (e : H p = none) : HR K (upd H p o) al h := r.same (same_upd e)
theorem HR.Rg (r : HR K H al h) (e : H p = none) : ¬ al.has p := fun m => by
  rcases m with m | m
  · obtain ⟨o, z, _⟩ := r.here m
    rw [e] at z
    cases z
  · obtain ⟨vs, z⟩ := r.rs p m
    rw [e] at z
    cases z
theorem HR.push {o : HO} (r : HR K H al h) (e : H p = none) (q : ∀ H' aQ, Le H al H' aQ → H' p = some o → eG K H' aQ p c) : HR K (upd H p o) ⟨al.c ++ [p], al.r⟩ (h ++ [c]) ∧ Le H al (upd H p o) ⟨al.c ++ [p], al.r⟩ := by
  have np := r.Rg e
  have l : Le H al (upd H p o) ⟨al.c ++ [p], al.r⟩ := ⟨⟨[p], rfl⟩, rfl, fun a u q _ => by
    rw [upd_ne (ne_of_none q e)]
    exact q, fun a ha => upd_ne fun z => np (.inr (z ▸ ha)), fun b hb => by
    rcases List.mem_append.mp hb with z | z
    · exact .inl z
    · cases List.mem_singleton.mp z
      exact .inr e, fun b o' u q => by
    rw [upd_ne (ne_of_none q e)]
    exact q⟩
  refine ⟨⟨?_, by simp [r.len], fun a ha => ?_, fun a ha => ?_, fun n c' a e1 e2 => ?_⟩, l⟩
  · rw [List.nodup_append]
    refine ⟨r.nd, by simp, fun x hx y hy => ?_⟩
    cases List.mem_singleton.mp hy
    intro z
    subst z
    exact np (.inl hx)
  · rcases List.mem_append.mp ha with z | z
    · exact r.dis a z
    · cases List.mem_singleton.mp z
      exact fun w => np (.inr w)
  · obtain ⟨vs, z⟩ := r.rs a ha
    exact ⟨vs, (l.res a ha).trans z⟩
  · have e2 : (al.c ++ [p])[n]? = some a := e2
    by_cases hn : n < h.length
    · rw [List.getElem?_append_left hn] at e1
      rw [List.getElem?_append_left (by rw [r.len]; exact hn)] at e2
      have q := r.at_ n c' a e1 e2
      obtain ⟨o, z, _⟩ := q.some
      exact q.mono r l (upd_ne (ne_of_none z e))
    · have hn' : n = h.length := by
        rw [List.getElem?_append_right (by omega)] at e1
        have := (List.getElem?_eq_some_iff.mp e1).1
        simp at this
        omega
      subst hn'
      simp at e1
      rw [← r.len] at e2
      simp at e2
      subst e1 e2
      exact q _ _ l upd_same
theorem HR.nofrz (r : HR K H al h) (e : al.c[n]? = some a) (hn : ∀ kvs, h[n]? ≠ some (.gU kvs)) : ∀ o u, H a ≠ some (.frz o u) := fun o u z => by
  obtain ⟨c, hc, q⟩ := r.cell e
  cases c with
  | lst ds =>
    obtain ⟨vs, q, _⟩ := q
    rw [z] at q
    cases q
  | dict kvs =>
    obtain ⟨vs, q, _⟩ := q
    rw [z] at q
    cases q
  | ins c fs =>
    obtain ⟨dx, gs, q, _⟩ := q
    rw [z] at q
    cases q
  | gU kvs => exact hn kvs hc
theorem HR.put {o : HO} (r : HR K H al h) (e : al.c[n]? = some a) (q : ∀ H' aQ, Le H al H' aQ → H' a = some o → eG K H' aQ a c) (hn : ∀ kvs, h[n]? ≠ some (.gU kvs) := by intro kvs w; simp_all) : HR K (upd H a o) al (h.set n c) ∧ Le H al (upd H a o) al := by
  have ha : a ∈ al.c := List.mem_of_getElem? e
  have l : Le H al (upd H a o) al := ⟨⟨[], by simp⟩, rfl, fun b u q n => by
    rw [upd_ne fun z => n (.inl (by rw [z]; exact ha))]
    exact q, fun b hb => upd_ne fun z => r.dis a ha (z ▸ hb), fun b hb => .inl hb, fun b o' u q => by
    have ne : b ≠ a := fun z => r.nofrz e hn o' u (by rw [← z]; exact q)
    rw [upd_ne ne]
    exact q⟩
  refine ⟨⟨r.nd, by simp [r.len], r.dis, fun b hb => ?_, fun m c' b e1 e2 => ?_⟩, l⟩
  · obtain ⟨vs, z⟩ := r.rs b hb
    exact ⟨vs, (l.res b hb).trans z⟩
  by_cases hm : n = m
  · subst hm
    rw [e] at e2
    cases e2
    have hn : n < h.length := by
      rw [← r.len]
      exact (List.getElem?_eq_some_iff.mp e).1
    rw [List.getElem?_set_self hn] at e1
    cases e1
    exact q _ _ l upd_same
  · rw [List.getElem?_set_ne hm] at e1
    have z := r.at_ m c' b e1 e2
    refine z.mono r l (upd_ne fun z2 => hm ?_)
    subst z2
    have l1 := (List.getElem?_eq_some_iff.mp e).1
    exact (List.getElem?_inj l1 r.nd).mp (e.trans e2.symm)
theorem fV.CP {o : HO} (e : a ∈ al.r) (hl : ∃ ws, H a = some (.lst ws)) : fV H al (upd H a o) al := ⟨⟨[], by simp⟩, fun b u q n => by
  have ne : b ≠ a := fun z => n (.inr (by rw [z]; exact e))
  rw [upd_ne ne]
  exact q, fun _ _ _ n => n, fun b o' u q => by
  have ne : b ≠ a := fun z => by
    obtain ⟨ws, hl⟩ := hl
    rw [z, hl] at q
    cases q
  rw [upd_ne ne]
  exact q⟩
theorem HR.CP {ws : List V} (r : HR K H al h) (e : a ∈ al.r) : HR K (upd H a (.lst ws)) al h := by
  refine ⟨r.nd, r.len, r.dis, fun b hb => ?_, fun n c b e1 e2 => ?_⟩
  · by_cases z : b = a
    · subst z
      exact ⟨ws, upd_same⟩
    · rw [upd_ne z]
      exact r.rs b hb
  · exact (r.at_ n c b e1 e2).cP r (fV.CP e (r.rs a e)) (upd_ne fun z => r.dis b (List.mem_of_getElem? e2) (z ▸ e))
theorem fV.hold {o : HO} (e : H p = none) : fV H al (upd H p o) ⟨al.c, p :: al.r⟩ := ⟨⟨[], by simp⟩, fun b u q _ => by
  rw [upd_ne (ne_of_none q e)]
  exact q, fun b u q n z => by
  rcases z with z | z
  · exact n (.inl z)
  · rcases List.mem_cons.mp z with z | z
    · exact ne_of_none q e z
    · exact n (.inr z), fun b o' u q => by
  rw [upd_ne (ne_of_none q e)]
  exact q⟩
theorem HR.hold {ws : List V} (r : HR K H al h) (e : H p = none) : HR K (upd H p (.lst ws)) ⟨al.c, p :: al.r⟩ h := by
  have np := r.Rg e
  refine ⟨r.nd, r.len, fun a ha z => ?_, fun b hb => ?_, fun n c b e1 e2 => ?_⟩
  · rcases List.mem_cons.mp z with z | z
    · exact np (.inl (z ▸ ha))
    · exact r.dis a ha z
  · rcases List.mem_cons.mp hb with z | z
    · subst z
      exact ⟨ws, upd_same⟩
    · have ne : b ≠ p := fun w => np (.inr (by rw [← w]; exact z))
      rw [upd_ne ne]
      exact r.rs b z
  · exact (r.at_ n c b e1 e2).cP r (fV.hold e) (upd_ne fun z => np (.inl (z ▸ List.mem_of_getElem? e2)))
theorem fV.free {q : Addr} : fV H ⟨al.c, q :: al.r⟩ H al := ⟨⟨[], by simp⟩, fun _ _ h _ => h, fun _ _ _ n z => n (z.elim .inl fun w => .inr (List.mem_cons_of_mem _ w)), fun _ _ _ h => h⟩
theorem HR.free {q : Addr} (r : HR K H ⟨al.c, q :: al.r⟩ h) : HR K H al h :=
  ⟨r.nd, r.len, fun a ha z => r.dis a ha (List.mem_cons_of_mem _ z), fun b hb => r.rs b (List.mem_cons_of_mem _ hb), fun n c b e1 e2 => (r.at_ n c b e1 e2).cP r fV.free rfl⟩
end
def bL (K : PySem.W.Frag) {β γ : Type} (R : Hp → Al → β → γ → Prop) (H : Hp) (al : Al) (E : XK) (Q : γ → Hp → Prop) : Res β → Prop
  | .ok d h' => ∀ v H' aQ, Le H al H' aQ → HR K H' aQ h' → R H' aQ d v → Q v H'
  | .exc c fs h' => ∀ a H' aQ gs, Le H al H' aQ → HR K H' aQ h' → H' a = some (.xd gs) → dM K H' aQ fs gs → E (.ref (He.ga K c)) (some a) H'
  | .stuck => False
abbrev mK (K : PySem.W.Frag) : Hp → Al → XK → VK → Res D → Prop := bL K (fun H al d v => Rp K H al d v)
abbrev alO (K : PySem.W.Frag) : Hp → Al → XK → (List V → Hp → Prop) → Res (List D) → Prop := bL K (fun H al d v => bD K H al d v)
abbrev aht (K : PySem.W.Frag) : Hp → Al → XK → (Bool → Hp → Prop) → Res Bool → Prop := bL K (fun _ _ b c => b = c)
def cV (K : PySem.W.Frag) (H : Hp) (al : Al) (Q : VK) : Option (D × AH) → Prop
  | some p => ∀ v H' aQ, Le H al H' aQ → HR K H' aQ p.2 → Rp K H' aQ p.1 v → Q v H'
  | none => False
section
variable {K : PySem.W.Frag} {H H' : Hp} {al aQ : Al} {E : XK} {Q : VK} {β γ : Type} {R : Hp → Al → β → γ → Prop}
theorem bL.mono {Q Q' : γ → Hp → Prop} {m : Res β} (p : bL K R H al E Q m) (i : ∀ v H', Q v H' → Q' v H') : bL K R H al E Q' m := by
  cases m with
  | ok d h => exact fun v H' aQ l r q => i _ _ (p v H' aQ l r q)
  | exc c fs h => exact p
  | stuck => exact p
theorem bL.le {Q : γ → Hp → Prop} {m : Res β} (p : bL K R H al E Q m) (l : Le H al H' aQ) : bL K R H' aQ E Q m := by
  cases m with
  | ok d h => exact fun v H2 cZ l2 r q => p v H2 cZ (l.trans l2) r q
  | exc c fs h => exact fun a H2 cZ gs l2 r e q => p a H2 cZ gs (l.trans l2) r e q
  | stuck => exact p
theorem bL.bind {δ ε : Type} {R' : Hp → Al → δ → ε → Prop} {Q : ε → Hp → Prop} {m : Res β} {g : β → AH → Res δ} (p : bL K R' H al E Q (m.bind g)) :
    bL K R H al E (fun v H1 => ∃ d aZ h1, Le H al H1 aZ ∧ HR K H1 aZ h1 ∧ R H1 aZ d v ∧ bL K R' H1 aZ E Q (g d h1)) m := by
  cases m with
  | ok d h => exact fun v H' aQ l r q => ⟨d, aQ, h, l, r, q, bL.le p l⟩
  | exc c fs h => exact p
  | stuck => exact p
theorem cV.of {m : Option (D × AH)} (p : mK K H al E Q (CK m)) : cV K H al Q m := by
  cases m with
  | none => exact p
  | some q => exact p
theorem cV.le {m : Option (D × AH)} (p : cV K H al Q m) (l : Le H al H' aQ) : cV K H' aQ Q m := by
  cases m with
  | none => exact p
  | some q => exact fun v H2 cZ l2 r q => p v H2 cZ (l.trans l2) r q
end
def fW (K : PySem.W.Frag) (H : Hp) (al : Al) (e : En) (st : L2.St) : Prop := e.length = st.length ∧ ∀ (i : Nat) (d : D), e[i]? = some (some d) → ∃ v, st[i]? = some (some v) ∧ Rp K H al d v
theorem fW.cP {K : PySem.W.Frag} {H H' : Hp} {al aQ : Al} {e : En} {st : L2.St} {h : AH} (r : HR K H al h) (l : fV H al H' aQ) (q : fW K H al e st) : fW K H' aQ e st := ⟨q.1, fun i d z => by
  obtain ⟨v, e1, e2⟩ := q.2 i d z
  exact ⟨v, e1, e2.cP r l⟩⟩
theorem fW.mono {K : PySem.W.Frag} {H H' : Hp} {al aQ : Al} {e : En} {st : L2.St} {h : AH} (r : HR K H al h) (l : Le H al H' aQ) (q : fW K H al e st) : fW K H' aQ e st := q.cP r l.zA
theorem fW.set {K : PySem.W.Frag} {H : Hp} {al : Al} {e : En} {st : L2.St} {d : D} {v : V} (q : fW K H al e st) (r : Rp K H al d v) (i : Nat) : fW K H al (e.set i (some d)) (st.set i (some v)) := by
  refine ⟨by simp [q.1], fun j d' z => ?_⟩
  by_cases hj : i = j
  · subst hj
    by_cases hl : i < e.length
    · rw [List.getElem?_set_self hl] at z
      cases z
      exact ⟨v, by rw [List.getElem?_set_self (by rw [← q.1]; exact hl)], r⟩
    · rw [List.getElem?_eq_none (by simp; omega)] at z
      cases z
  · rw [List.getElem?_set_ne hj] at z ⊢
    exact q.2 j d' z
def rd (K : PySem.W.Frag) (W : WX) (f : ME) : TE := fun st H Q => ∃ e al h, HR K H al h ∧ fW K H al e st ∧ mK K H al (fun c d H' => W c d st H') Q (f e h)
def nu (K : PySem.W.Frag) (W : WX) (f : MT) : TT := fun st H Q => ∃ e al h, HR K H al h ∧ fW K H al e st ∧ aht K H al (fun c d H' => W c d st H') Q (f e h)
def kW (K : PySem.W.Frag) (W : WX) (f : MA) : TA := fun st H Q => ∃ e al h, HR K H al h ∧ fW K H al e st ∧ alO K H al (fun c d H' => W c d st H') Q (f e h)
def kZ (K : PySem.W.Frag) (W : WX) (H : Hp) (al : Al) (N : Ends) : RS → Prop
  | .nx e h' => ∀ st H' aQ, Le H al H' aQ → HR K H' aQ h' → fW K H' aQ e st → N.nx st H'
  | .bk e h' => ∀ st H' aQ, Le H al H' aQ → HR K H' aQ h' → fW K H' aQ e st → N.bk st H'
  | .ct e h' => ∀ st H' aQ, Le H al H' aQ → HR K H' aQ h' → fW K H' aQ e st → N.ct st H'
  | .rt d h' => ∀ v H' aQ, Le H al H' aQ → HR K H' aQ h' → Rp K H' aQ d v → N.rt v H'
  | .exc c fs e h' => ∀ a st H' aQ gs, Le H al H' aQ → HR K H' aQ h' → fW K H' aQ e st → H' a = some (.xd gs) → dM K H' aQ fs gs → W (.ref (He.ga K c)) (some a) st H'
  | .stuck => False
def lu (K : PySem.W.Frag) (W : WX) (f : MS) : TS := fun N st H => ∃ e al h, HR K H al h ∧ fW K H al e st ∧ kZ K W H al N (f e h)
def CQ (K : PySem.W.Frag) (W : WX) (g : MG) : TG := fun v st H Q => ∃ d e al h, HR K H al h ∧ fW K H al e st ∧ Rp K H al d v ∧
  bL K (fun H al e st => fW K H al e st) H al (fun c d H' => W c d st H') Q (g d e h)
def CT (K : PySem.W.Frag) (f : List D → AH → Res D) : Sp := fun vs H Q E => ∃ ds al h, HR K H al h ∧ bD K H al ds vs ∧ mK K H al E Q (f ds h)
section
variable {X : Cx} {e : Expr} {st : Stmt} {sts : List Stmt}
theorem _root_.L2.PE.weak {t t' : TE} (h : PE X e t) (i : ∀ σ H Q, t' σ H Q → t σ H Q) : PE X e t' := ⟨fun pins s σ H Q I q => h.run pins s σ H Q I (i _ _ _ q)⟩
theorem _root_.L2.PT.weak {t t' : TT} (h : PT X e t) (i : ∀ σ H Q, t' σ H Q → t σ H Q) : PT X e t' := ⟨fun pins s σ H Q I q => h.run pins s σ H Q I (i _ _ _ q)⟩
theorem _root_.L2.PW.weak {t t' : TT} (h : PW X e t) (i : ∀ σ H Q, t' σ H Q → t σ H Q) : PW X e t' := ⟨fun wh pins s σ H Q I q => h.run wh pins s σ H Q I (i _ _ _ q)⟩
theorem _root_.L2.PA.weak {es : List Expr} {t t' : TA} (h : PA X es t) (i : ∀ σ H Q, t' σ H Q → t σ H Q) : PA X es t' := ⟨fun pos pins s σ H Q I q => h.run pos pins s σ H Q I (i _ _ _ q)⟩
theorem _root_.L2.PK.weak {es : List Keyword} {t t' : TA} (h : PK X es t) (i : ∀ σ H Q, t' σ H Q → t σ H Q) : PK X es t' := ⟨fun pos pins s σ H Q I q => h.run pos pins s σ H Q I (i _ _ _ q)⟩
theorem _root_.L2.PS.weak {t t' : TS} (h : PS X st t) (i : ∀ D σ H, t' D σ H → t D σ H) : PS X st t' := ⟨fun pins s σ H D I q => h.run pins s σ H D I (i _ _ _ q)⟩
theorem _root_.L2.PSs.weak {t t' : TS} (h : PSs X sts t) (i : ∀ D σ H, t' D σ H → t D σ H) : PSs X sts t' := ⟨fun pins s σ H D I q => h.run pins s σ H D I (i _ _ _ q)⟩
theorem _root_.L2.PG.weak {t t' : TG} (h : PG X e t) (i : ∀ v σ H Q, t' v σ H Q → t v σ H Q) : PG X e t' := ⟨fun pins s σ H v u Q I r q => h.run pins s σ H v u Q I r (i _ _ _ _ q)⟩
theorem _root_.L2.PI.weak {tg : Expr} {t t' : TI} (h : PI X tg e t) (i : ∀ σ H Q, t' σ H Q → t σ H Q) : PI X tg e t' := ⟨fun pins s σ H Q I q => h.run pins s σ H Q I (i _ _ _ q)⟩
theorem _root_.L2.OpR.weak {f : Value → Value → Sem Value} {r r' : R2} (h : OpR X f r) (i : ∀ x y H Q, r' x y H Q → r x y H Q) : OpR X f r' := fun pins s σ H x y v u Q I rx ry q => h pins s σ H x y v u Q I rx ry (i _ _ _ _ q)
end
end PD
namespace PD
open PySem PySem.Spec PyProof.Rows L2
section
variable {X : Cx} {W : WX} {a b c e : Expr} {es : List Expr} {fa fb fc : ME} {fr : MA} {pos p1 p2 : Pos} {i : Nat} {x : Str}
theorem ao (hN : X.N[i]? = some x) (hv : Vis X.env.scope x) (hd : (x == ("__debug__" : Str)) = false := by decide) (hcd : (x == ("__classdict__" : Str)) = false := by decide) : PE X (.Name x pos) (rd X.K W (aj i)) :=
  (pe_var hN hv hd hcd).weak fun σ H Q ⟨e, al, h, r, re, p⟩ => by
    unfold aj at p
    split at p
    · rename_i d hd
      obtain ⟨v, hv, q⟩ := re.2 i d hd
      exact ⟨v, hv, p v H al .refl r q⟩
    · exact p.elim
theorem UJ {d : D} {v : V} (h : PE X e (tC v)) (q : ∀ H al, Rp X.K H al d v) : PE X e (rd X.K W (eC d)) :=
  h.weak fun σ H Q ⟨e, al, h, r, re, p⟩ => p v H al .refl r (q H al)
theorem aR {i : Int} {j} : PE X (.Constant (.int i) j pos) (rd X.K W (eC (.int i))) := UJ pe_int fun _ _ => .int i
theorem qY {b : Bool} {j} : PE X (.Constant (.bool b) j pos) (rd X.K W (eC (.bl b))) := UJ pe_bl fun _ _ => .bl b
theorem iJ {j} : PE X (.Constant .none j pos) (rd X.K W (eC .non)) := UJ pe_non fun _ _ => .non
theorem aU {x : Str} {j} : PE X (.Constant (.str x) j pos) (rd X.K W (eC (.str x))) := UJ pe_str fun _ _ => .str x
theorem aa9 {i : Int} {t : Tok} (hg : Gl X x) (hm : X.mg x = some (.int i t)) (hd : (x == ("__debug__" : Str)) = false := by decide) : PE X (.Name x pos) (rd X.K W (eC (.int i))) :=
  UJ (pe_glob (v := .int i) hg hm ⟨t, rfl⟩ hd) fun _ _ => .int i
theorem ajO {s : Str} {t : Tok} (hg : Gl X x) (hm : X.mg x = some (.str s t)) (hd : (x == ("__debug__" : Str)) = false := by decide) : PE X (.Name x pos) (rd X.K W (eC (.str s))) :=
  UJ (pe_glob (v := .str s) hg hm ⟨t, rfl⟩ hd) fun _ _ => .str s
theorem qG {d : D} (hg : Gl X x) (hm : X.mg x = some (.ref (He.ga X.K x))) (q : ∀ H al, Rp X.K H al d (.ref (He.ga X.K x))) (hd : (x == ("__debug__" : Str)) = false := by decide) : PE X (.Name x pos) (rd X.K W (eC d)) :=
  UJ (pe_glob (v := .ref (He.ga X.K x)) hg hm rfl hd) q
theorem Tg {n : String} (hg : Gl X x) (hm : X.mg x = none) (hv : bootBuiltins x = some (.type n)) (hn : x ≠ "__name__" := by decide) (hd : (x == ("__debug__" : Str)) = false := by decide) : PE X (.Name x pos) (rd X.K W (eC (.ty n))) :=
  UJ (pe_bltn (v := .ty n) hg hm hv rfl hn hd) fun _ _ => .ty n
def r1 (K : PySem.W.Frag) (o : O1) : V → Hp → VK → Prop := fun x H Q => ∃ d al h, HR K H al h ∧ Rp K H al d x ∧ cV K H al Q (o d h)
def r2 (K : PySem.W.Frag) (o : O2) : R2 := fun x y H Q => ∃ d e al h, HR K H al h ∧ Rp K H al d x ∧ Rp K H al e y ∧ cV K H al Q (o d e h)
def rN (K : PySem.W.Frag) (o : ON) : List V → Hp → VK → Prop := fun xs H Q => ∃ ds al h, HR K H al h ∧ bD K H al ds xs ∧ cV K H al Q (o ds h)
theorem Rh {o : O2} {σ : L2.St} {H : Hp} {Q : VK} {K : PySem.W.Frag} : rd K W (aG o fa fb) σ H Q → tOp (r2 K o) (rd K W fa) (rd K W fb) σ H Q := by
  rintro ⟨e, al, h, r, re, p⟩
  refine ⟨e, al, h, r, re, (bL.bind p).mono ?_⟩
  rintro v H1 ⟨d, aZ, h1, l, r1, q, p1⟩
  refine ⟨e, aZ, h1, r1, re.mono r l, (bL.bind p1).mono ?_⟩
  rintro u H2 ⟨d2, cZ, h2, l2, r2, q2, p2⟩
  exact ⟨d, d2, cZ, h2, r2, q.mono r1 l2, q2, cV.of p2⟩
theorem dW {op : Operator} {o : O2} (ho : OpR X (binaryOp op) (r2 X.K o)) (ha : PE X a (rd X.K W fa)) (hb : PE X b (rd X.K W fb)) : PE X (.BinOp a op b pos) (rd X.K W (aG o fa fb)) :=
  (pe_op ho ha hb).weak fun σ H Q h => Rh h
theorem Tj {op : UnaryOp} {o : O1} (ho : UnR X (unaryOp op) (r1 X.K o)) (ha : PE X a (rd X.K W fa)) : PE X (.UnaryOp op a pos) (rd X.K W (wO o fa)) :=
  (pe_un ho ha).weak fun σ H Q ⟨e, al, h, r, re, p⟩ => by
    refine ⟨e, al, h, r, re, (bL.bind p).mono ?_⟩
    rintro v H1 ⟨d, aZ, h1, l, r1, q, p1⟩
    exact ⟨d, aZ, h1, r1, q, cV.of p1⟩
theorem dB {op : CmpOp} {o : O2} (ho : OpR X (compareOp op) (r2 X.K o)) (ha : PE X a (rd X.K W fa)) (hb : PE X b (rd X.K W fb)) (hm : behindInMarks op b = false) : PE X (.Compare a [op] [b] pos) (rd X.K W (aG o fa fb)) :=
  (pe_cmpR ho ha hb hm).weak fun σ H Q h => Rh h
theorem bW {op : CmpOp} {o : O2} (ho : OpR X (compareOp op) (r2 X.K o)) (ha : PE X a (rd X.K W fa)) (hb : PE X b (rd X.K W fb)) (hm : behindInMarks op b = false) : PT X (.Compare a [op] [b] pos) (nu X.K W (bZ (aG o fa fb))) :=
  (pt_cmpR ho ha hb hm).weak fun σ H Q ⟨e, al, h, r, re, p⟩ => by
    refine Rh (W := W) ⟨e, al, h, r, re, (bL.bind p).mono ?_⟩
    rintro v H1 ⟨d, aZ, h1, l, r1, q, p1⟩
    cases q with
    | bl k => exact ⟨k, rfl, p1 _ _ _ .refl r1 rfl⟩
    | _ => exact p1.elim
theorem abb {K : PySem.W.Frag} {H : Hp} {al : Al} {h : AH} {d : D} {v : V} {b : Bool} (r : HR K H al h) (q : Rp K H al d v) (e : truth d h = some b) : TruV K v H b := by
  have hs : sizeLine = 16777216 := sizeLine_eq
  cases q with
  | non => cases e; rfl
  | bl k => cases e; rfl
  | int i => cases e; rfl
  | str x =>
    simp only [truth] at e
    split at e
    · cases e
      rename_i hz
      exact ⟨by rw [hs]; exact hz, rfl⟩
    · cases e
  | ty n => cases e
  | glo x => cases e
  | tup s q =>
    cases e
    exact .inr (.inl ⟨_, s, by cases q <;> rfl⟩)
  | lst s q =>
    cases e
    exact .inl ⟨_, s.sq, by cases q <;> rfl⟩
  | dD s q =>
    cases e
    exact .inl ⟨_, s.sq, by cases q <;> rfl⟩
  | obj _ _ _ => cases e
  | ref z =>
    obtain ⟨c, hc, ok⟩ := r.cell z
    simp only [truth, hc] at e
    cases c with
    | lst ds =>
      cases e
      obtain ⟨vs, z, q⟩ := ok
      exact .inl ⟨vs, SqL.of z, by cases q <;> rfl⟩
    | dict kvs =>
      cases e
      obtain ⟨ws, z, k, q⟩ := ok
      refine .inr (.inr ⟨ws, z, ?_⟩)
      have := congrArg List.length k
      simp only [List.length_map] at this
      cases kvs <;> cases ws <;> simp_all
    | ins c fs => cases e
    | gU kvs => cases e
theorem Tn {K : PySem.W.Frag} {H : Hp} {al : Al} {h : AH} {d : D} {v : V} {E : XK} {β γ : Type} {R : Hp → Al → β → γ → Prop} {Q : γ → Hp → Prop} {g : Bool → AH → Res β} (r : HR K H al h) (q : Rp K H al d v) (p : bL K R H al E Q ((tTru d h).bind g)) :
    ∃ k, TruV K v H k ∧ bL K R H al E Q (g k h) := by
  unfold tTru at p
  cases e : truth d h with
  | none =>
    rw [e] at p
    exact p.elim
  | some b =>
    rw [e] at p
    exact ⟨b, abb r q e, p⟩
theorem oX (ha : PE X a (rd X.K W fa)) (he : ∀ whole, isTrue a X.env whole = (do let v ← whole; standAt a.pos; holding [v] (truthy v))) : PT X a (nu X.K W (eE fa)) :=
  (pt_truth ha he).weak fun σ H Q ⟨e, al, h, r, re, p⟩ => by
    refine ⟨e, al, h, r, re, (bL.bind p).mono ?_⟩
    rintro v H1 ⟨d, aZ, h1, l, r1, q, p1⟩
    unfold tTru at p1
    cases e : truth d h1 with
    | none =>
      rw [e] at p1
      exact p1.elim
    | some b =>
      rw [e] at p1
      exact ⟨b, abb r1 q e, p1 _ _ _ .refl r1 rfl⟩
variable {rest : List Expr}
theorem lA {op} (ha : PE X a (rd X.K W fa)) : PE X (.BoolOp op [a] pos) (rd X.K W fa) := pe_one ha
theorem oA (ha : PE X a (rd X.K W fa)) (hb : PE X (.BoolOp .And (b :: rest) pos) (rd X.K W fb)) : PE X (.BoolOp .And (a :: b :: rest) pos) (rd X.K W (ju fa fb)) :=
  (pe_andT ha hb).weak fun σ H Q ⟨e, al, h, r, re, p⟩ => by
    refine ⟨e, al, h, r, re, (bL.bind p).mono ?_⟩
    rintro v H1 ⟨d, aZ, h1, l, r1, q, p1⟩
    obtain ⟨k, t, p2⟩ := Tn r1 q p1
    refine ⟨k, t, ?_⟩
    cases k with
    | true => exact ⟨e, aZ, h1, r1, re.mono r l, p2⟩
    | false => exact p2 _ _ _ .refl r1 q
theorem adJ (ha : PE X a (rd X.K W fa)) (hb : PE X (.BoolOp .Or (b :: rest) pos) (rd X.K W fb)) : PE X (.BoolOp .Or (a :: b :: rest) pos) (rd X.K W (CN fa fb)) :=
  (pe_orT ha hb).weak fun σ H Q ⟨e, al, h, r, re, p⟩ => by
    refine ⟨e, al, h, r, re, (bL.bind p).mono ?_⟩
    rintro v H1 ⟨d, aZ, h1, l, r1, q, p1⟩
    obtain ⟨k, t, p2⟩ := Tn r1 q p1
    refine ⟨k, t, ?_⟩
    cases k with
    | false => exact ⟨e, aZ, h1, r1, re.mono r l, p2⟩
    | true => exact p2 _ _ _ .refl r1 q
theorem Am (ha : PE X a (rd X.K W fa)) : PE X (.UnaryOp .Not a pos) (rd X.K W (rR fa)) :=
  (pe_notT ha).weak fun σ H Q ⟨e, al, h, r, re, p⟩ => by
    refine ⟨e, al, h, r, re, (bL.bind p).mono ?_⟩
    rintro v H1 ⟨d, aZ, h1, l, r1, q, p1⟩
    obtain ⟨k, t, p2⟩ := Tn r1 q p1
    exact ⟨k, t, p2 _ _ _ .refl r1 (.bl _)⟩
variable {ta tb : MT}
theorem Ww {K : PySem.W.Frag} {H : Hp} {al : Al} {E : XK} {β γ : Type} {R : Hp → Al → β → γ → Prop} {Q : γ → Hp → Prop} {m : Res Bool} {g : Bool → AH → Res β} (p : bL K R H al E Q (m.bind g)) :
    aht K H al E (fun b H1 => ∃ aZ h1, Le H al H1 aZ ∧ HR K H1 aZ h1 ∧ bL K R H1 aZ E Q (g b h1)) m := (bL.bind p).mono fun b H1 ⟨d, aZ, h1, l, r, q, p1⟩ => by
  subst q
  exact ⟨aZ, h1, l, r, p1⟩
theorem zB (ha : PT X a (nu X.K W ta)) : PW X (.BoolOp .And [a] pos) (nu X.K W ta) := pw_and1 ha
theorem Wx (ha : PT X a (nu X.K W ta)) : PW X (.BoolOp .Or [a] pos) (nu X.K W ta) := pw_or1 ha
theorem Ao (ha : PT X a (nu X.K W ta)) (hb : PW X (.BoolOp .And (b :: rest) pos) (nu X.K W tb)) : PW X (.BoolOp .And (a :: b :: rest) pos) (nu X.K W (jD ta tb)) :=
  (pw_and ha hb).weak fun σ H Q ⟨e, al, h, r, re, p⟩ => by
    refine ⟨e, al, h, r, re, (Ww p).mono ?_⟩
    rintro v H1 ⟨aZ, h1, l, r1, p1⟩
    cases v with
    | true => exact ⟨e, aZ, h1, r1, re.mono r l, p1⟩
    | false => exact p1 _ _ _ .refl r1 rfl
theorem abd (ha : PT X a (nu X.K W ta)) (hb : PW X (.BoolOp .Or (b :: rest) pos) (nu X.K W tb)) : PW X (.BoolOp .Or (a :: b :: rest) pos) (nu X.K W (BL ta tb)) :=
  (pw_or ha hb).weak fun σ H Q ⟨e, al, h, r, re, p⟩ => by
    refine ⟨e, al, h, r, re, (Ww p).mono ?_⟩
    rintro v H1 ⟨aZ, h1, l, r1, p1⟩
    cases v with
    | false => exact ⟨e, aZ, h1, r1, re.mono r l, p1⟩
    | true => exact p1 _ _ _ .refl r1 rfl
theorem Aq (ha : PT X a (nu X.K W ta)) : PT X (.UnaryOp .Not a pos) (nu X.K W (ou ta)) :=
  (pt_not ha).weak fun σ H Q ⟨e, al, h, r, re, p⟩ => by
    refine ⟨e, al, h, r, re, (Ww p).mono ?_⟩
    rintro v H1 ⟨aZ, h1, l, r1, p1⟩
    exact p1 _ _ _ .refl r1 rfl
theorem anr (hc : PT X c (nu X.K W ta)) (ha : PE X a (rd X.K W fa)) (hb : PE X b (rd X.K W fb)) : PE X (.IfExp c a b pos) (rd X.K W (UG ta fa fb)) :=
  (pe_ifExp hc ha hb).weak fun σ H Q ⟨e, al, h, r, re, p⟩ => by
    refine ⟨e, al, h, r, re, (Ww p).mono ?_⟩
    rintro v H1 ⟨aZ, h1, l, r1, p1⟩
    cases v with
    | true => exact ⟨e, aZ, h1, r1, re.mono r l, p1⟩
    | false => exact ⟨e, aZ, h1, r1, re.mono r l, p1⟩
theorem aH : PA X [] (kW X.K W aA) := pa_nil.weak fun σ H Q ⟨e, al, h, r, re, p⟩ => p [] H al .refl r .nil
theorem ahu {σ : L2.St} {H : Hp} {Q : List V → Hp → Prop} {K : PySem.W.Frag} : kW K W (ak fa fr) σ H Q → tCons (rd K W fa) (kW K W fr) σ H Q := by
  rintro ⟨e, al, h, r, re, p⟩
  refine ⟨e, al, h, r, re, (bL.bind p).mono ?_⟩
  rintro v H1 ⟨d, aZ, h1, l, r1, q, p1⟩
  refine ⟨e, aZ, h1, r1, re.mono r l, (bL.bind p1).mono ?_⟩
  rintro vs H2 ⟨ds, cZ, h2, l2, r2, q2, p2⟩
  exact p2 _ _ _ .refl r2 (.cons (q.mono r1 l2) q2)
theorem aq (ha : PE X e (rd X.K W fa)) (hr : PA X es (kW X.K W fr)) (hs : starEach (e :: es) X.env = (false, eval e X.env) :: starEach es X.env := by rfl) : PA X (e :: es) (kW X.K W (ak fa fr)) :=
  (pa_cons ha hr hs).weak fun σ H Q h => ahu h
theorem adK : PK X [] (kW X.K W aA) := pk_nil.weak fun σ H Q ⟨e, al, h, r, re, p⟩ => p [] H al .refl r .nil
theorem zE {nm : Option Str} {kpos : Pos} {kws : List Keyword} (ha : PE X e (rd X.K W fa)) (hr : PK X kws (kW X.K W fr)) : PK X (⟨nm, e, kpos⟩ :: kws) (kW X.K W (ak fa fr)) :=
  (pk_cons ha hr).weak fun σ H Q h => ahu h
def bQ : ON := fun ds h => if ds.length ≤ 16777216 then some (.tup ds, h) else none
def cC : ON := fun ds h => if ds.length ≤ 16777216 then some (.lst ds, h) else none
def fH : ON := fun ds h => if ds.length ≤ 16777216 then some (.ref h.length, h ++ [.lst ds]) else none
section
variable {K : PySem.W.Frag} {H : Hp} {al : Al} {h : AH} {Q : VK} {ds : List D} {vs : List V} {p : Addr}
theorem cV.Ri (r : HR K H al h) (q : bD K H al ds vs) (po : cV K H al Q (some (.tup ds, h))) (n : H p = none) : Q (.ref p) (upd H p (.tup vs)) :=
  po _ _ _ (Le.fresh r n) (r.fresh n) (.tup (SqT.of upd_same) (q.mono r (Le.fresh r n)))
theorem cV.rW (r : HR K H al h) (q : bD K H al ds vs) (po : cV K H al Q (some (.lst ds, h))) (n : H p = none) : Q (.ref p) (upd H p (.lst vs)) :=
  po _ _ _ (Le.fresh r n) (r.fresh n) (.lst ⟨upd_same, r.Rg n⟩ (q.mono r (Le.fresh r n)))
theorem cV.Tq (r : HR K H al h) (q : bD K H al ds vs) (po : cV K H al Q (some (.ref h.length, h ++ [.lst ds]))) (n : H p = none) : Q (.ref p) (upd H p (.lst vs)) := by
  obtain ⟨r', l⟩ := r.push (o := .lst vs) (c := .lst ds) n fun H' aQ l e => ⟨vs, e, q.mono r l⟩
  exact po _ _ _ l r' (.ref (by rw [← r.len]; simp))
theorem aeX (r : HR K H al h) (q : bD K H al ds vs) (po : cV K H al Q (bQ ds h)) : vs.length ≤ sizeLine ∧ ∀ p, H p = none → Q (.ref p) (upd H p (.tup vs)) := by
  unfold bQ at po
  split at po
  · rename_i hl
    exact ⟨by rw [← q.length, sizeLine_eq]; exact hl, fun p n => po.Ri r q n⟩
  · exact po.elim
theorem aeY (r : HR K H al h) (q : bD K H al ds vs) (po : cV K H al Q (cC ds h)) : vs.length ≤ sizeLine ∧ ∀ p, H p = none → Q (.ref p) (upd H p (.lst vs)) := by
  unfold cC at po
  split at po
  · rename_i hl
    exact ⟨by rw [← q.length, sizeLine_eq]; exact hl, fun p n => po.rW r q n⟩
  · exact po.elim
theorem adL (r : HR K H al h) (q : bD K H al ds vs) (po : cV K H al Q (fH ds h)) : vs.length ≤ sizeLine ∧ ∀ p, H p = none → Q (.ref p) (upd H p (.lst vs)) := by
  unfold fH at po
  split at po
  · rename_i hl
    exact ⟨by rw [← q.length, sizeLine_eq]; exact hl, fun p n => po.Tq r q n⟩
  · exact po.elim
end
theorem CV {o : ON} {K : PySem.W.Frag} {σ : L2.St} {H : Hp} {Q : VK} : rd K W (bB o fr) σ H Q → kW K W fr σ H fun vs H1 => rN K o vs H1 Q := by
  rintro ⟨e, al, h, r, re, p⟩
  refine ⟨e, al, h, r, re, (bL.bind p).mono ?_⟩
  rintro v H1 ⟨d, aZ, h1, l, r1, q, p1⟩
  exact ⟨d, aZ, h1, r1, q, cV.of p1⟩
theorem cQ {x1} (ha : PA X es (kW X.K W fr)) : PE X (.Tuple es x1 pos) (rd X.K W (bB bQ fr)) :=
  (pe_tup (GB.PA.cl ha)).weak fun σ H Q h => ⟨_, CV h, fun vs H1 ⟨ds, al, h, r, q, p⟩ => aeX r q p⟩
theorem d7 (ha : PA X es (kW X.K W fr)) : PE X (.List es pos) (rd X.K W (bB cC fr)) :=
  (pe_lst (GB.PA.cl ha)).weak fun σ H Q h => ⟨_, CV h, fun vs H1 ⟨ds, al, h, r, q, p⟩ => aeY r q p⟩
theorem zF (ha : PA X es (kW X.K W fr)) : PE X (.List es pos) (rd X.K W (bB fH fr)) :=
  (pe_lst (GB.PA.cl ha)).weak fun σ H Q h => ⟨_, CV h, fun vs H1 ⟨ds, al, h, r, q, p⟩ => adL r q p⟩
theorem iZ {id : String} {o : ON} (hc : CallR X (.builtin id) (rN X.K o)) (hg : Gl X x) (hm : X.mg x = none) (hv : bootBuiltins x = some (.builtin id)) (ha : PA X (e :: es) (kW X.K W fr))
    (hn : x ≠ "__name__" := by decide) (hdb : (x == ("__debug__" : Str)) = false := by decide) (he : starEach (e :: es) X.env = (false, eval e X.env) :: starEach es X.env := by rfl) (hpl : (backTo pos (starEach es X.env)).any (·.1) = false := by rfl) :
    PE X (.Call (.Name x p1) (e :: es) [] pos) (rd X.K W (bB o fr)) := (pe_callB hc hg hm hv (GB.PA.cl ha) hn hdb he hpl).weak fun σ H Q h => ⟨_, CV h, fun _ _ z => z⟩
theorem rY {T : String} {o : ON} (hc : CallR X (.type T) (rN X.K o)) (hg : Gl X x) (hm : X.mg x = none) (hv : bootBuiltins x = some (.type T)) (ha : PA X (e :: es) (kW X.K W fr))
    (hn : x ≠ "__name__" := by decide) (hdb : (x == ("__debug__" : Str)) = false := by decide) (he : starEach (e :: es) X.env = (false, eval e X.env) :: starEach es X.env := by rfl) (hpl : (backTo pos (starEach es X.env)).any (·.1) = false := by rfl) :
    PE X (.Call (.Name x p1) (e :: es) [] pos) (rd X.K W (bB o fr)) := (pe_callTy hc hg hm hv (GB.PA.cl ha) hn hdb he hpl).weak fun σ H Q h => ⟨_, CV h, fun _ _ z => z⟩
end
end PD
namespace PD
open PySem PySem.Spec PyProof.Rows L2
section
variable {K : PySem.W.Frag} {W : WX} {H H' : Hp} {al aQ : Al} {N N' : Ends}
theorem kZ.le {m : RS} (p : kZ K W H al N m) (l : Le H al H' aQ) : kZ K W H' aQ N m := by
  cases m with
  | nx e h => exact fun st H2 cZ l2 r q => p st H2 cZ (l.trans l2) r q
  | bk e h => exact fun st H2 cZ l2 r q => p st H2 cZ (l.trans l2) r q
  | ct e h => exact fun st H2 cZ l2 r q => p st H2 cZ (l.trans l2) r q
  | rt d h => exact fun v H2 cZ l2 r q => p v H2 cZ (l.trans l2) r q
  | exc c fs e h => exact fun a st H2 cZ gs l2 r re e q => p a st H2 cZ gs (l.trans l2) r re e q
  | stuck => exact p
theorem jB {β γ : Type} {R : Hp → Al → β → γ → Prop} {m : Res β} {g : β → AH → RS} {e : En} {st : L2.St} {h : AH} (r : HR K H al h) (re : fW K H al e st) (p : kZ K W H al N (m.st e g)) :
    bL K R H al (fun c d H' => W c d st H') (fun v H1 => ∃ d aZ h1, Le H al H1 aZ ∧ HR K H1 aZ h1 ∧ R H1 aZ d v ∧ kZ K W H1 aZ N (g d h1)) m := by
  cases m with
  | ok d h => exact fun v H' aQ l r q => ⟨d, aQ, h, l, r, q, kZ.le p l⟩
  | exc c fs h => exact fun a H' aQ gs l r' x q => p a st H' aQ gs l r' (re.mono r l) x q
  | stuck => exact p
end
section
variable {X : Cx} {W : WX} {a b c e : Expr} {es : List Expr} {fa fb fc : ME} {fr : MA} {tc : MT} {f g : MS} {gt : MG} {pos p1 p2 : Pos} {i : Nat} {x : Str} {st : Stmt} {sts agj : List Stmt}
theorem cU : PSs X [] (lu X.K W cG) := pss_nil.weak fun N σ H ⟨e, al, h, r, re, p⟩ => p σ H al .refl r re
theorem aX (h : PS X st (lu X.K W f)) : PSs X [st] (lu X.K W f) := pss_one h
theorem aV (h1 : PS X st (lu X.K W f)) (h2 : PSs X sts (lu X.K W g)) : PSs X (st :: sts) (lu X.K W (aY f g)) :=
  (pss_cons h1 h2).weak fun N σ H ⟨e, al, h, r, re, p⟩ => by
    refine ⟨e, al, h, r, re, ?_⟩
    unfold aY at p
    cases q : f e h with
    | nx e' h' =>
      rw [q] at p
      exact fun st H' aQ l r' u9 => ⟨e', aQ, h', r', u9, kZ.le p l⟩
    | rt d h' => rw [q] at p; exact p
    | bk e' h' => rw [q] at p; exact p
    | ct e' h' => rw [q] at p; exact p
    | exc c fs e' h' => rw [q] at p; exact p
    | stuck => rw [q] at p; exact p
theorem mV (he : PE X e (rd X.K W fa)) (hs : swapsWith e none pos.line X.env = pure false := by rfl) : PS X (.Expr e pos) (lu X.K W (gq fa)) :=
  (ps_expr he hs).weak fun N σ H ⟨e, al, h, r, re, p⟩ => by
    refine ⟨e, al, h, r, re, (jB r re p).mono ?_⟩
    rintro v H1 ⟨d, aZ, h1, l, r1, q, p1⟩
    exact p1 σ H1 aZ .refl r1 (re.mono r l)
theorem s_ret (he : PE X e (rd X.K W fa)) : PS X (.Return (some e) pos) (lu X.K W (bV fa)) :=
  (ps_ret he).weak fun N σ H ⟨e, al, h, r, re, p⟩ => by
    refine ⟨e, al, h, r, re, (jB r re p).mono ?_⟩
    rintro v H1 ⟨d, aZ, h1, l, r1, q, p1⟩
    exact p1 v H1 aZ .refl r1 q
theorem s_if (hc : PT X c (nu X.K W tc)) (ha : PSs X sts (lu X.K W f)) (hb : PSs X agj (lu X.K W g)) : PS X (.If c sts agj pos) (lu X.K W (cD tc f g)) :=
  (ps_if hc ha hb).weak fun N σ H ⟨e, al, h, r, re, p⟩ => by
    refine ⟨e, al, h, r, re, (jB r re p).mono ?_⟩
    rintro v H1 ⟨d, aZ, h1, l, r1, q, p1⟩
    subst q
    cases d with
    | true => exact ⟨e, aZ, h1, r1, re.mono r l, p1⟩
    | false => exact ⟨e, aZ, h1, r1, re.mono r l, p1⟩
theorem bO (hN : X.N.Nodup) (hi : X.N[i]? = some x) (hx : Loc X.env.scope x) (hf : X.fn x = true ∨ X.env.scope.names.lookup x = some .local := by first | exact .inl rfl | exact .inr rfl | assumption) : PG X (.Name x pos) (CQ X.K W (gName i)) :=
  (pg_name hN hi hx hf).weak fun v σ H Q ⟨d, e, al, h, r, re, q, p⟩ => p _ H al .refl r (re.set q i)
def adM (K : PySem.W.Frag) (W : WX) (g : List D → En → AH → Res En) : TGs := fun vs st H Q => ∃ ds e al h, HR K H al h ∧ fW K H al e st ∧ bD K H al ds vs ∧
  bL K (fun H al e st => fW K H al e st) H al (fun c d H' => W c d st H') Q (g ds e h)
theorem PGs.weak {t t' : TGs} (h : PGs X es t) (i : ∀ v σ H Q, t' v σ H Q → t v σ H Q) : PGs X es t' := ⟨fun pins s σ H v u Q I r q => h.run pins s σ H v u Q I r (i _ _ _ _ q)⟩
theorem ajP : PGs X [] (adM X.K W gNil) := PGs.weak pgs_nil fun v σ H Q ⟨ds, e, al, h, r, re, q, p⟩ => by
  cases q with
  | nil => exact ⟨rfl, p _ H al .refl r re⟩
  | cons _ _ => exact p.elim
theorem acL {gr : List D → En → AH → Res En} (h1 : PG X e (CQ X.K (fun _ _ _ _ => False) gt)) (h2 : PGs X es (adM X.K (fun _ _ _ _ => False) gr))
    (hs : (assignEach (e :: es) X.env).map (·.2) = assign e X.env :: (assignEach es X.env).map (·.2) := by rfl) : PGs X (e :: es) (adM X.K (fun _ _ _ _ => False) (gCons gt gr)) := PGs.weak (pgs_cons h1 h2 hs) fun v σ H Q ⟨ds, e, al, h, r, re, q, p⟩ => by
  cases q with
  | nil => exact p.elim
  | cons q qs =>
    refine ⟨_, _, rfl, _, e, al, h, r, re, q, (bL.bind p).mono ?_⟩
    rintro st H1 ⟨e1, aZ, h1, l, r1, Hh, p1⟩
    exact ⟨_, e1, aZ, h1, r1, Hh, qs.mono r l, p1⟩
def lB (n : Nat) (r : List D → En → AH → Res En) : MG := fun d e h => match d with
  | .tup ds => if ds.length = n then r ds e h else .stuck
  | _ => .stuck
theorem alP {k n : Nat} {gr : List D → En → AH → Res En} (hc : X.calm = true) (h : PGs X es (adM X.K (fun _ _ _ _ => False) gr))
    (hn : (assignEach es X.env).length = n := by rfl) (hst : (assignEach es X.env).findIdx? (·.1) = none := by rfl) : PG X (.Tuple es k pos) (CQ X.K (fun _ _ _ _ => False) (lB n gr)) :=
  (pg_tup hc h hn hst).weak fun v σ H Q ⟨d, e, al, h, r, re, q, p⟩ => by
    cases q with
    | tup s q =>
      simp only [lB] at p
      split at p
      · rename_i hl
        exact ⟨_, _, rfl, s, by rw [← q.length]; exact hl, _, e, al, h, r, re, q, p⟩
      · exact p.elim
    | _ => exact p.elim
def uJ (g : MG) : MG := fun d e h => match g d e h with
  | .ok e' h' => .ok e' h'
  | _ => .stuck
theorem alQ (h : PG X e (CQ X.K (fun _ _ _ _ => False) gt)) : PG X e (CQ X.K W (uJ gt)) := h.weak fun v σ H Q ⟨d, e, al, h, r, re, q, p⟩ => by
  refine ⟨d, e, al, h, r, re, q, ?_⟩
  unfold uJ at p
  cases z : gt d e h with
  | ok e' h' => rw [z] at p; exact p
  | exc c fs h' => rw [z] at p; exact p.elim
  | stuck => rw [z] at p; exact p.elim
theorem s_asg {tg : Expr} (he : PE X e (rd X.K W fa)) (hg : PG X tg (CQ X.K W gt)) (hs : swapsWithSole [tg] e pos.line X.env = pure false := by rfl) (hw : swappedStores [tg] e X.env = pure none := by rfl)
    (h1 : (assignEach [tg] X.env).map (·.2) = [assign tg X.env] := by rfl) : PS X (.Assign [tg] e pos) (lu X.K W (bJ fa gt)) :=
  (ps_asg he hg hs hw h1).weak fun N σ H ⟨e, al, h, r, re, p⟩ => by
    refine ⟨e, al, h, r, re, (jB r re p).mono ?_⟩
    rintro v H1 ⟨d, aZ, h1, l, r1, q, p1⟩
    refine ⟨d, e, aZ, h1, r1, re.mono r l, q, (jB r1 (re.mono r l) p1).mono ?_⟩
    rintro st H2 ⟨e2, cZ, h2, l2, r2, wQ, p2⟩
    exact p2 st H2 cZ .refl r2 wQ
def oE (K : PySem.W.Frag) (J : It) (ds : List D) (H0 : Hp) (al0 : Al) : Prop := ∀ H al h, fV H0 al0 H al → HR K H al h →
  (∀ i, i < ds.length → J.go i H) ∧ J.stop ds.length H ∧ ∀ i x H', i < ds.length → J.yld i H x H' → Le H al H' al ∧ HR K H' al h ∧ ∃ d, ds[i]? = some d ∧ Rp K H' al d x
def BP (K : PySem.W.Frag) (W : WX) (it : En → AH → Res (List D)) : TI := fun st H R => ∃ e al h, HR K H al h ∧ fW K H al e st ∧
  bL K (fun H al ds J => oE K J ds H al) H al (fun c d H' => W c d st H') R (it e h)
theorem fV.trans {H H' H2 : Hp} {al aQ cZ : Al} (l : fV H al H' aQ) (m : fV H' aQ H2 cZ) : fV H al H2 cZ := by
  obtain ⟨t, ht⟩ := l.pre
  obtain ⟨u, hu⟩ := m.pre
  exact ⟨⟨t ++ u, by rw [hu, ht, List.append_assoc]⟩, fun a o e n => m.keep a o (l.keep a o e n) (l.out a o e n), fun a o e n => m.out a o (l.keep a o e n) (l.out a o e n), fun a o u e => m.lk a o u (l.lk a o u e)⟩
theorem oE.le {K : PySem.W.Frag} {J : It} {ds : List D} {H H' : Hp} {al aQ : Al} (w : oE K J ds H al) (l : fV H al H' aQ) : oE K J ds H' aQ := fun H2 cZ h l2 r => w H2 cZ h (l.trans l2) r
theorem Rj {tg iter : Expr} {it : En → AH → Res (List D)} {body : List Stmt} (hp : PassesOwn (model X.prog X.w) X.A X.env X.xe) (hc : X.calm = true) (hi : PI X tg iter (BP X.K W it)) (hg : PG X tg (CQ X.K W gt)) (hb : PSs X body (lu X.K W f))
    (hs : ∀ x, foldedSetIterable iter X.env x = pure x := by intro _; rfl) : PS X (.For tg iter body [] pos) (lu X.K W (vB it gt f)) :=
  (ps_for hp hc hi hg hb hs).weak fun N σ H ⟨e, al, h, r, re, p⟩ => by
    refine ⟨e, al, h, r, re, (jB r re p).mono ?_⟩
    rintro J H1 ⟨ds, aZ, h1, l, r1, w, p1⟩
    refine ⟨fun i m σ' H' => m = ds.length - i ∧ i ≤ ds.length ∧ ∃ e' aQ h', Le H1 aZ H' aQ ∧ HR X.K H' aQ h' ∧ fW X.K H' aQ e' σ' ∧ kZ X.K W H' aQ N (forL gt f (ds.drop i) e' h'), ⟨ds.length, by omega, Nat.zero_le _, e, aZ, h1, .refl, r1, re.mono r l, p1⟩, ?_⟩
    rintro i m σ' H' ⟨rfl, hle, e', aQ, h', l', r', u9, p'⟩
    obtain ⟨w1, w2, w3⟩ := w H' aQ h' l'.zA r'
    by_cases hlt : i < ds.length
    · refine .inr ⟨w1 i hlt, fun σ2 H2 => i + 1 ≤ ds.length ∧ ∃ e' aQ h', Le H1 aZ H2 aQ ∧ HR X.K H2 aQ h' ∧ fW X.K H2 aQ e' σ2 ∧ kZ X.K W H2 aQ N (forL gt f (ds.drop (i + 1)) e' h'), ?_, ?_⟩
      · rintro σ2 H2 ⟨hl2, z⟩
        exact ⟨ds.length - (i + 1), by omega, rfl, hl2, z⟩
      · intro x H2 y
        obtain ⟨l2, r2, d, hd, rp⟩ := w3 i x H2 hlt y
        have ed : ds.drop i = d :: ds.drop (i + 1) := by
          rw [List.drop_eq_getElem_cons hlt]
          congr 1
          rw [List.getElem?_eq_getElem hlt] at hd
          exact Option.some.inj hd
        rw [ed, forL] at p'
        have wQ := u9.mono r' l2
        refine ⟨d, e', aQ, h', r2, wQ, rp, (jB r2 wQ (kZ.le p' l2)).mono ?_⟩
        rintro st H3 ⟨e3, UL, h3, l3, r3, Rk, p3⟩
        refine ⟨e3, UL, h3, r3, Rk, ?_⟩
        cases q : f e3 h3 with
        | nx e4 h4 =>
          rw [q] at p3
          exact fun st' H4 al4 l4 r4 re4 => ⟨hlt, e4, al4, h4, ((l'.trans l2).trans l3).trans l4, r4, re4, kZ.le p3 l4⟩
        | ct e4 h4 =>
          rw [q] at p3
          exact fun st' H4 al4 l4 r4 re4 => ⟨hlt, e4, al4, h4, ((l'.trans l2).trans l3).trans l4, r4, re4, kZ.le p3 l4⟩
        | bk e4 h4 =>
          rw [q] at p3
          exact p3
        | rt d h4 => rw [q] at p3; exact p3
        | exc c fs e4 h4 => rw [q] at p3; exact p3
        | stuck => rw [q] at p3; exact p3
    · have hi' : i = ds.length := by omega
      subst hi'
      rw [List.drop_length] at p'
      exact .inl ⟨w2, p' σ' H' aQ .refl r' u9⟩
def items : D → AH → Res (List D)
  | .lst ds, h => .ok ds h
  | .dD ds, h => .ok ds h
  | .tup ds, h => .ok ds h
  | .str x, h => .ok (x.cps.toList.map fun c => .str ⟨#[c]⟩) h
  | _, _ => .stuck
def jY (fa : ME) : En → AH → Res (List D) := fun e h => (fa e h).bind fun d h1 => items d h1
theorem abe {K : PySem.W.Frag} {H : Hp} {al : Al} {ds : List D} {vs : List V} {a : Addr} (s : ∀ H' aQ, fV H al H' aQ → SqL K H' a vs) {h : AH} (r : HR K H al h) (q : bD K H al ds vs) : oE K (Itl K a) ds H al := by
  intro H' aQ h' l r'
  have s' := s H' aQ l
  have q' := q.cP r l
  have w := walk_list (K := K) (a := a) (xs := vs)
  rw [← q.length] at w
  refine ⟨fun i hi => w.goes i H' hi s', w.stops H' s', fun i x H2 hi y => ?_⟩
  obtain ⟨rfl, e⟩ := w.yields i H' x H2 hi s' y
  obtain ⟨d, hd, rp⟩ := q'.get' e
  exact ⟨.refl, r', d, hd, rp⟩
theorem adN {K : PySem.W.Frag} {H : Hp} {al : Al} {ds : List D} {vs : List V} {a : Addr} (s : Ls H al a vs) {h : AH} (r : HR K H al h) (q : bD K H al ds vs) : oE K (Itl K a) ds H al := abe (fun _ _ l => (s.cP l).sq) r q
theorem acy {K : PySem.W.Frag} {H : Hp} {al : Al} {ds : List D} {vs : List V} {a : Addr} (s : Kl K H al a vs) {h : AH} (r : HR K H al h) (q : bD K H al ds vs) : oE K (Itl K a) ds H al := abe (fun _ _ l => (s.cP l).sq) r q
theorem ae0 {K : PySem.W.Frag} {H : Hp} {al : Al} {ds : List D} {vs : List V} {a : Addr} (s : SqT K H a vs) {h : AH} (r : HR K H al h) (q : bD K H al ds vs) : oE K (Itt K a) ds H al := by
  intro H' aQ h' l r'
  have s' := Ij r s l
  have q' := q.cP r l
  have w := walk_tup (K := K) (a := a) (xs := vs)
  rw [← q.length] at w
  refine ⟨fun i hi => w.goes i H' hi s', w.stops H' s', fun i x H2 hi y => ?_⟩
  obtain ⟨rfl, e⟩ := w.yields i H' x H2 hi s' y
  obtain ⟨d, hd, rp⟩ := q'.get' e
  exact ⟨.refl, r', d, hd, rp⟩
theorem ae1 {K : PySem.W.Frag} {H : Hp} {al : Al} {z : Str} : oE K (Its z) (z.cps.toList.map fun c => .str ⟨#[c]⟩) H al := by
  intro H' aQ h' l r'
  have w := walk_str (z := z)
  have hl : (z.cps.toList.map fun c => D.str ⟨#[c]⟩).length = z.cps.size := by simp
  rw [hl]
  refine ⟨fun i hi => w.goes i H' hi trivial, w.stops H' trivial, fun i x H2 hi y => ?_⟩
  obtain ⟨rfl, c, e, rfl⟩ := w.yields i H' x H2 hi trivial y
  exact ⟨.refl, r', _, by rw [List.getElem?_map, Array.getElem?_toList, e]; rfl, .str _⟩
theorem FJ {tg : Expr} (he : PE X e (rd X.K W fa)) : PI X tg e (BP X.K W (jY fa)) := by
  constructor
  rintro pins s σ H R I ⟨e, al, h, r, re, p⟩
  have p' := bL.bind (R := fun H al d v => Rp X.K H al d v) p
  cases q : fa e h with
  | exc c fs h' =>
    refine (pi_list (tg := tg) he).run pins s σ H R I ⟨e, al, h, r, re, ?_⟩
    rw [q] at p' ⊢
    exact p'
  | stuck =>
    rw [q] at p'
    exact p'.elim
  | ok d h' =>
    rw [q] at p'
    cases d with
    | lst ds =>
      refine (pi_list (tg := tg) he).run pins s σ H R I ⟨e, al, h, r, re, ?_⟩
      rw [q]
      intro v H' aQ l r' rp
      obtain ⟨d, aZ, h1, l1, r1, q1, p1⟩ := p' v H' aQ l r' rp
      unfold jY at p
      rw [q] at p
      cases rp with
      | lst s rl => exact ⟨_, rfl, ⟨_, s.sq⟩, p _ H' aQ l r' (adN s r' rl)⟩
    | dD ds =>
      refine (pi_list (tg := tg) he).run pins s σ H R I ⟨e, al, h, r, re, ?_⟩
      rw [q]
      intro v H' aQ l r' rp
      unfold jY at p
      rw [q] at p
      cases rp with
      | dD s rl => exact ⟨_, rfl, ⟨_, s.sq⟩, p _ H' aQ l r' (acy s r' rl)⟩
    | tup ds =>
      refine (pi_tup (tg := tg) he).run pins s σ H R I ⟨e, al, h, r, re, ?_⟩
      rw [q]
      intro v H' aQ l r' rp
      unfold jY at p
      rw [q] at p
      cases rp with
      | tup s rl => exact ⟨_, rfl, ⟨_, s⟩, p _ H' aQ l r' (ae0 s r' rl)⟩
    | str z =>
      refine (pi_str (tg := tg) he).run pins s σ H R I ⟨e, al, h, r, re, ?_⟩
      rw [q]
      intro v H' aQ l r' rp
      unfold jY at p
      rw [q] at p
      cases rp with
      | str z => exact ⟨z, rfl, p _ H' aQ l r' ae1⟩
    | _ =>
      unfold jY at p
      rw [q] at p
      exact p.elim
end
end PD
namespace PD
open PySem PySem.Spec PyProof.Rows L2
abbrev WF : WX := fun _ _ _ _ => False
structure cA (X : Cx) (W : WX) : Prop where
  tk : Takes X W
  po : PassesOwn (model X.prog X.w) X.A X.env X.xe
  gd : X.A.guards = some []
theorem cA.blk {X : Cx} {W : WX} (ct : cA X W) {s : Shared} {H : Hp} {scope : Scope} {cenv : Env} {fp : List Addr} : cA (X.blk s H scope cenv fp) WF :=
  ⟨fun u s' ⟨_, _, _, _, _, _, _, _, _, _, _, _, _, _, _, _, w⟩ => w.elim, PassesOwn.never, ct.gd⟩
theorem cA.def_ {P : Program} {w : World} {K : PySem.W.Frag} {mg : Str → Option Value} {base : Heap} {N : List Str} {q : Str} {sc : Scope} {f : Addr} {cdv : Value} {A : Around} {outer : List Env} {s : Shared} {H : Hp} {E : XK} (hG : A.guards = some []) :
    cA (cxOf (L2.CX P w) P w K mg base N q sc f cdv A outer s H E) (fun cls d _ H => E cls d H) := ⟨takes_of rfl rfl rfl rfl, passes_of rfl, hG⟩
section
variable {K : PySem.W.Frag} {H H' H2 : Hp} {al aQ : Al} {p q : Addr} {h : AH}
theorem Le.free {c c' r : List Addr} (l : Le H ⟨c, q :: r⟩ H' ⟨c', q :: r⟩) (hq : ∃ o, H q = some o) : Le H ⟨c, r⟩ H' ⟨c', r⟩ := by
  refine ⟨l.pre, rfl, fun a o e n => ?_, fun a ha => l.res a (List.mem_cons_of_mem _ ha), l.new, l.lk⟩
  by_cases z : a = q
  · subst z
    rw [l.res a (List.mem_cons_self)]
    exact e
  · refine l.keep a o e fun w => ?_
    rcases w with w | w
    · exact n (.inl w)
    · rcases List.mem_cons.mp w with w | w
      · exact z w
      · exact n (.inr w)
theorem Le.putN {o : HO} (l : Le H al H' aQ) (e : H p = none) (n : p ∉ al.r) : Le H al (upd H' p o) aQ := by
  refine ⟨l.pre, l.tG, fun a u q m => ?_, fun a ha => ?_, l.new, fun a o' u q => by
    rw [upd_ne (ne_of_none q e)]
    exact l.lk a o' u q⟩
  · rw [upd_ne (ne_of_none q e)]
    exact l.keep a u q m
  · have ne : a ≠ p := fun z => n (by rw [← z]; exact ha)
    rw [upd_ne ne]
    exact l.res a ha
theorem fW.wipe {e : En} {st : L2.St} (q : fW K H al e st) : ∀ vs : List Nat, fW K H al (gJ e vs) (L2.wipe st vs)
  | [] => q
  | v :: vs => by
    have ih := fW.wipe q vs
    refine ⟨by simp [gJ, L2.wipe, ih.1], fun i d z => ?_⟩
    unfold gJ at z
    unfold L2.wipe
    by_cases hi : v = i
    · subst hi
      by_cases hl : v < (gJ e vs).length
      · rw [List.getElem?_set_self hl] at z
        cases z
      · rw [List.getElem?_eq_none (by simp; omega)] at z
        cases z
    · rw [List.getElem?_set_ne hi] at z ⊢
      exact ih.2 i d z
end
section
variable {X : Cx} {W : WX} {a b c e : Expr} {es : List Expr} {fa fb fc : ME} {fr fk : MA} {tc : MT} {f g : MS} {gt : MG} {pos p1 p2 : Pos} {i : Nat} {x : Str} {st : Stmt} {sts agj : List Stmt}
def Hi (K : PySem.W.Frag) (vs : List Nat) (g : MG) : TG := fun v st H Q => ∃ d e al h, HR K H al h ∧ fW K H al e st ∧ Rp K H al d v ∧
  bL K (fun H al e st' => fW K H al e st' ∧ wipe st' vs = wipe st vs) H al (fun _ _ _ => False) Q (g d e h)
theorem abf {st : L2.St} {v : Option V} : ∀ {vs : List Nat} {i : Nat}, i ∈ vs → wipe (st.set i v) vs = wipe st vs
  | [], i, h => nomatch h
  | w :: vs, i, h => by
    unfold wipe
    by_cases hi : i ∈ vs
    · rw [abf hi]
    · have hw : i = w := by
        rcases List.mem_cons.mp h with z | z
        · exact z
        · exact absurd z hi
      subst hw
      have key : ∀ us : List Nat, i ∉ us → wipe (st.set i v) us = (wipe st us).set i v := by
        intro us
        induction us with
        | nil => intro _; rfl
        | cons u us ih =>
          intro hn
          simp only [List.mem_cons, not_or] at hn
          unfold wipe
          rw [ih hn.2, List.set_comm _ _ hn.1]
      rw [key vs hi, List.set_set]
theorem Ik {st : L2.St} {i : Nat} : ∀ {vs : List Nat}, (wipe st vs)[i]? = if i ∈ vs then (st[i]?).map (fun _ => none) else st[i]?
  | [] => by simp [wipe]
  | w :: vs => by
    unfold wipe
    have hl := wipe_length st vs
    by_cases hw : w = i
    · subst hw
      rw [if_pos List.mem_cons_self]
      by_cases hn : w < st.length
      · rw [List.getElem?_set_self (by rw [hl]; exact hn), List.getElem?_eq_getElem hn]
        rfl
      · rw [List.getElem?_eq_none (by rw [List.length_set, hl]; omega), List.getElem?_eq_none (by omega)]
        rfl
    · rw [List.getElem?_set_ne hw, Ik]
      have : (i ∈ w :: vs) = (i ∈ vs) := propext ⟨fun z => (List.mem_cons.mp z).resolve_left (fun q => hw q.symm), List.mem_cons_of_mem _⟩
      simp only [this]
theorem UW {st : L2.St} {vs : List Nat} : wipe (wipe st vs) vs = wipe st vs := by
  apply List.ext_getElem?
  intro i
  rw [Ik, Ik]
  by_cases hi : i ∈ vs
  · simp only [if_pos hi, Option.map_map]
    rfl
  · simp only [if_neg hi]
theorem iw {vs : List Nat} (hv : i ∈ vs) (hN : X.N.Nodup) (hi : X.N[i]? = some x) (hx : Loc X.env.scope x) (hf : X.fn x = true ∨ X.env.scope.names.lookup x = some .local := by first | exact .inl rfl | exact .inr rfl | assumption) : PG X (.Name x pos) (Hi X.K vs (gName i)) :=
  (pg_name hN hi hx hf).weak fun v σ H Q ⟨d, e, al, h, r, re, q, p⟩ => p _ H al .refl r ⟨re.set q i, abf hv⟩
def adP (K : PySem.W.Frag) (vs : List Nat) (g : List D → En → AH → Res En) : TGs := fun ws st H Q => ∃ ds e al h, HR K H al h ∧ fW K H al e st ∧ bD K H al ds ws ∧
  bL K (fun H al e st' => fW K H al e st' ∧ wipe st' vs = wipe st vs) H al (fun _ _ _ => False) Q (g ds e h)
theorem Tr {vs : List Nat} : PGs X [] (adP X.K vs gNil) := PGs.weak pgs_nil fun v σ H Q ⟨ds, e, al, h, r, re, q, p⟩ => by
  cases q with
  | nil => exact ⟨rfl, p _ H al .refl r ⟨re, rfl⟩⟩
  | cons _ _ => exact p.elim
theorem tY {vs : List Nat} {gr : List D → En → AH → Res En} (h1 : PG X e (Hi X.K vs gt)) (h2 : PGs X es (adP X.K vs gr))
    (hs : (assignEach (e :: es) X.env).map (·.2) = assign e X.env :: (assignEach es X.env).map (·.2) := by rfl) : PGs X (e :: es) (adP X.K vs (gCons gt gr)) := PGs.weak (pgs_cons h1 h2 hs) fun v σ H Q ⟨ds, e, al, h, r, re, q, p⟩ => by
  cases q with
  | nil => exact p.elim
  | cons q qs =>
    refine ⟨_, _, rfl, _, e, al, h, r, re, q, (bL.bind p).mono ?_⟩
    rintro st H1 ⟨e1, aZ, h1, l, r1, ⟨Hh, w1⟩, p1⟩
    refine ⟨_, e1, aZ, h1, r1, Hh, qs.mono r l, ?_⟩
    cases z : gr _ e1 h1 with
    | ok e2 h2 =>
      rw [z] at p1
      exact fun v H' aQ l' r' q' => p1 v H' aQ l' r' ⟨q'.1, q'.2.trans w1⟩
    | exc c fs h2 => rw [z] at p1; exact p1
    | stuck => rw [z] at p1; exact p1
theorem abg {vs : List Nat} {k n : Nat} {gr : List D → En → AH → Res En} (hc : X.calm = true) (h : PGs X es (adP X.K vs gr))
    (hn : (assignEach es X.env).length = n := by rfl) (hst : (assignEach es X.env).findIdx? (·.1) = none := by rfl) : PG X (.Tuple es k pos) (Hi X.K vs (lB n gr)) :=
  (pg_tup hc h hn hst).weak fun v σ H Q ⟨d, e, al, h, r, re, q, p⟩ => by
    cases q with
    | tup s q =>
      simp only [lB] at p
      split at p
      · rename_i hl
        exact ⟨_, _, rfl, s, by rw [← q.length]; exact hl, _, e, al, h, r, re, q, p⟩
      · exact p.elim
    | _ => exact p.elim
theorem rZ : PTs X [] (nu X.K W g8) := ⟨fun pins s σ H Q I ⟨e, al, h, r, re, p⟩ => pts_nil.run pins s σ H Q I (p true H al .refl r rfl)⟩
theorem abh {c : Expr} {t : MT} (h : PT X c (nu X.K W t)) : PTs X [c] (nu X.K W t) := pts_one h
def ant (fin : List D → AH → Res D) (it : En → AH → Res (List D)) (g : MG) (t : MT) (f : ME) (own : List Nat) : ME := fun e h => (it e h).bind fun ds h1 => (eY g t f own e [] ds h1).bind fun r h2 => fin r h2
theorem aia {fin : List D → AH → Res D} {it : En → AH → Res (List D)} {t : MT} {f : ME} {vs : List Nat} {σ : L2.St} {H : Hp} {Q : VK} {K : PySem.W.Frag} (hf : ∀ (H1 : Hp) (aZ : Al) (H' : Hp) (c' : List Addr) (h' : AH) (acc : List D) (ws : List V) (A : Addr), Le H1 aZ H' ⟨c', aZ.r⟩ → HR K H' ⟨c', A :: aZ.r⟩ h' → H' A = some (.lst ws) → bD K H' ⟨c', A :: aZ.r⟩ acc ws → H1 A = none → ¬ aZ.has A → mK K H1 aZ (fun c d H' => W c d σ H') Q (fin acc h') → Q (.ref A) H') : rd K W (ant fin it gt t f vs) σ H Q → tLc (BP K W it) (Hi K vs gt) (nu K WF t) (rd K WF f) vs σ H Q := by
  rintro ⟨e, al, h, r, re, p⟩
  refine ⟨e, al, h, r, re, (bL.bind p).mono ?_⟩
  rintro J H1 ⟨ds, aZ, h1, l, r1, w, p1⟩ A hA
  have nA := r1.Rg hA
  have hs : sizeLine = 16777216 := sizeLine_eq
  refine ⟨fun i m H' => m = ds.length - i ∧ i ≤ ds.length ∧ ∃ c' h' acc ws, Le H1 aZ H' ⟨c', aZ.r⟩ ∧ HR K H' ⟨c', A :: aZ.r⟩ h' ∧ H' A = some (.lst ws) ∧ bD K H' ⟨c', A :: aZ.r⟩ acc ws ∧ fV H1 aZ H' ⟨c', A :: aZ.r⟩ ∧
    mK K H1 aZ (fun c d H' => W c d σ H') Q ((eY gt t f vs e acc (ds.drop i) h').bind fun r h2 => fin r h2), ⟨ds.length, by omega, Nat.zero_le _, aZ.c, h1, [], [], (Le.fresh r1 hA), r1.hold hA, upd_same, .nil, fV.hold hA, p1⟩, ?_⟩
  rintro i m H' ⟨rfl, hle, c', h', acc, ws, l', r', eA, ra, l0, p'⟩
  obtain ⟨w1, w2, w3⟩ := w H' _ h' l0 r'
  by_cases hlt : i < ds.length
  · refine .inr ⟨w1 i hlt, fun H2 => i + 1 ≤ ds.length ∧ ∃ c' h' acc ws, Le H1 aZ H2 ⟨c', aZ.r⟩ ∧ HR K H2 ⟨c', A :: aZ.r⟩ h' ∧ H2 A = some (.lst ws) ∧ bD K H2 ⟨c', A :: aZ.r⟩ acc ws ∧ fV H1 aZ H2 ⟨c', A :: aZ.r⟩ ∧
      mK K H1 aZ (fun c d H' => W c d σ H') Q ((eY gt t f vs e acc (ds.drop (i + 1)) h').bind fun r h2 => fin r h2), ?_, ?_⟩
    · rintro H2 ⟨hl2, z⟩
      exact ⟨ds.length - (i + 1), by omega, rfl, hl2, z⟩
    · intro x H2 y
      obtain ⟨l2, r2, d, hd, rp⟩ := w3 i x H2 hlt y
      have ed : ds.drop i = d :: ds.drop (i + 1) := by
        rw [List.drop_eq_getElem_cons hlt]
        congr 1
        rw [List.getElem?_eq_getElem hlt] at hd
        exact Option.some.inj hd
      rw [ed, eY] at p'
      have Hh : fW K H1 aZ e σ := re.mono r l
      have wQ : fW K H2 ⟨c', A :: aZ.r⟩ (gJ e vs) (L2.wipe σ vs) := ((Hh.cP r1 l0).mono r' l2).wipe vs
      refine ⟨d, gJ e vs, _, h', r2, wQ, rp, ?_⟩
      cases z : gt d (gJ e vs) h' with
      | exc c fs h3 => rw [z] at p'; exact p'.elim
      | stuck => rw [z] at p'; exact p'.elim
      | ok e3 h3 =>
        rw [z] at p'
        rintro σ3 H3 ⟨c3, r3x⟩ l3 r3 ⟨Rk, hw3⟩
        obtain rfl : r3x = A :: aZ.r := l3.tG
        rw [UW] at hw3
        refine ⟨hw3, e3, _, h3, r3, Rk, ?_⟩
        dsimp only at p'
        cases z2 : t e3 h3 with
        | exc c fs h4 => rw [z2] at p'; exact p'.elim
        | stuck => rw [z2] at p'; exact p'.elim
        | ok b h4 =>
          rw [z2] at p'
          rintro b' H4 ⟨c4, r4x⟩ l4 r4 rfl
          obtain rfl : r4x = A :: aZ.r := l4.tG
          have CW : Le H' ⟨c', A :: aZ.r⟩ H4 ⟨c4, A :: aZ.r⟩ := (l2.trans l3).trans l4
          cases b with
          | false =>
            have agk := CW.free ⟨_, eA⟩
            exact ⟨hlt, c4, h4, acc, ws, l'.trans agk, r4, by rw [CW.res A List.mem_cons_self]; exact eA, ra.mono r' CW, l0.trans CW.zA, p'⟩
          | true =>
            refine ⟨e3, _, h4, r4, Rk.mono r3 l4, ?_⟩
            dsimp only at p'
            cases z3 : f e3 h4 with
            | exc c fs h5 => rw [z3] at p'; exact p'.elim
            | stuck => rw [z3] at p'; exact p'.elim
            | ok y h5 =>
              rw [z3] at p'
              rintro v H5 ⟨c5, r5x⟩ l5 r5 rv
              obtain rfl : r5x = A :: aZ.r := l5.tG
              have Rm := CW.trans l5
              have agl := Rm.free ⟨_, eA⟩
              have eA5 : H5 A = some (.lst ws) := by rw [Rm.res A List.mem_cons_self]; exact eA
              dsimp only at p'
              split at p'
              · rename_i hsz
                have ra5 := ra.mono r' Rm
                have L1 := (l'.trans agl).putN (o := .lst (ws ++ [v])) hA fun z => nA (.inr z)
                refine ⟨ws, eA5, by rw [← ra5.length, hs]; exact hsz, hlt, c5, h5, acc ++ [y], ws ++ [v], L1, r5.CP List.mem_cons_self, upd_same, (ra5.append (.cons rv .nil)).cP r5 (fV.CP List.mem_cons_self ⟨_, eA5⟩), (l0.trans Rm.zA).trans (fV.CP List.mem_cons_self ⟨_, eA5⟩), p'⟩
              · exact p'.elim
  · have hi' : i = ds.length := by omega
    subst hi'
    rw [List.drop_length, eY] at p'
    exact .inl ⟨w2, hf H1 aZ H' c' h' acc ws A l' r' eA ra hA nA p'⟩
theorem ae4 {it : En → AH → Res (List D)} {t : MT} {f : ME} {vs : List Nat} {σ : L2.St} {H : Hp} {Q : VK} {K : PySem.W.Frag} (p : rd K W (kJ it gt t f vs) σ H Q) : tLc (BP K W it) (Hi K vs gt) (nu K WF t) (rd K WF f) vs σ H Q :=
  aia (fin := fun r h2 => .ok (.lst r) h2) (fun H1 aZ H' c' h' acc ws A l' r' eA ra hA nA p' => p' _ H' ⟨c', aZ.r⟩ l' (HR.free (al := ⟨c', aZ.r⟩) r') (.lst ⟨eA, fun z => by
    rcases z with z | z
    · exact r'.dis A z List.mem_cons_self
    · exact nA (.inr z)⟩ (ra.cP r' (fV.free (al := ⟨c', aZ.r⟩))))) p
theorem yN {elt tg iter : Expr} {ifs : List Expr} {scope : Scope} {own : List (Str × Nat)} {it : En → AH → Res (List D)} {t : MT} {f : ME} (hc : X.calm = true) (hN : X.N.Nodup) (hi : PI X tg iter (BP X.K W it)) (ok : BlkOk X.N X.env.scope scope own)
    (hg : ∀ (s : Shared) (H : Hp) (C : Addr) (cl : List (Str × Addr)) (fp : List Addr), PG (X.blk s H scope (compEnvC scope cl C X.env) fp) tg (Hi X.K (own.map (·.2)) gt))
    (ht : ∀ (s : Shared) (H : Hp) (C : Addr) (cl : List (Str × Addr)) (fp : List Addr), PTs (X.blk s H scope (compEnvC scope cl C X.env) fp) ifs (nu X.K WF t))
    (he : ∀ (s : Shared) (H : Hp) (C : Addr) (cl : List (Str × Addr)) (fp : List Addr), PE (X.blk s H scope (compEnvC scope cl C X.env) fp) elt (rd X.K WF f)) (hs : ∀ x, foldedSetIterable iter X.env x = pure x := by intro _; rfl) :
    PE X (.ListComp elt [⟨tg, iter, ifs, 0⟩] scope pos) (rd X.K W (kJ it gt t f (own.map (·.2)))) := (pe_lc hc hN hi ok hg ht he hs).weak fun σ H Q h => ae4 h
theorem aib {y : Str} {py spos : Pos} {elt tg iter : Expr} {ifs : List Expr} {scope : Scope} {own : List (Str × Nat)} {it : En → AH → Res (List D)} {t : MT} {f : ME} (hc : X.calm = true) (hN : X.N.Nodup) (hy : X.N[i]? = some y) (hyl : X.env.scope.names.lookup y = some .local)
    (hsw : swapsWith (.ListComp elt [⟨tg, iter, ifs, 0⟩] scope pos) (some (.Name y py)) spos.line X.env = pure true) (hi : PI X tg iter (BP X.K W it)) (ok : BlkOk X.N X.env.scope scope own)
    (hg : ∀ (s : Shared) (H : Hp) (C : Addr) (cl : List (Str × Addr)) (fp : List Addr), PG (X.blk s H scope (compEnvC scope cl C X.env) fp) tg (Hi X.K (own.map (·.2)) gt))
    (ht : ∀ (s : Shared) (H : Hp) (C : Addr) (cl : List (Str × Addr)) (fp : List Addr), PTs (X.blk s H scope (compEnvC scope cl C X.env) fp) ifs (nu X.K WF t))
    (he : ∀ (s : Shared) (H : Hp) (C : Addr) (cl : List (Str × Addr)) (fp : List Addr), PE (X.blk s H scope (compEnvC scope cl C X.env) fp) elt (rd X.K WF f)) (hs : ∀ x, foldedSetIterable iter X.env x = pure x := by intro _; rfl) :
    PS X (.Assign [.Name y py] (.ListComp elt [⟨tg, iter, ifs, 0⟩] scope pos) spos) (lu X.K W (bJ (kJ it gt t f (own.map (·.2))) (gName i))) :=
  (ps_setLc hc hN hy hyl hsw hi ok hg ht he hs).weak fun N σ H ⟨e, al, h, r, re, p⟩ => by
    refine ae4 (W := W) ⟨e, al, h, r, re, (jB r re p).mono ?_⟩
    rintro v H1 ⟨d, aZ, h1, l, r1, q, p1⟩
    exact p1 _ H1 aZ .refl r1 ((re.mono r l).set q i)
def oF (lo : Int) (n : Nat) : List D := (List.range n).map fun k => .int (lo + (k : Nat))
def pZ : List D → AH → Res (List D)
  | [.int j], h => if -(2 ^ 62) ≤ j ∧ j < 2 ^ 62 then .ok (oF 0 j.toNat) h else .stuck
  | _, _ => .stuck
def mW (o : List D → AH → Res (List D)) (fa : MA) : En → AH → Res (List D) := fun e h => (fa e h).bind fun ds h1 => o ds h1
theorem acz {K : PySem.W.Frag} {H : Hp} {al : Al} {lo : Int} {n : Nat} : oE K (Itr lo n) (oF lo n) H al := by
  intro H' aQ h' l r'
  have w := walk_range (lo := lo) (n := n)
  have hl : (oF lo n).length = n := by simp [oF]
  rw [hl]
  refine ⟨fun i hi => w.goes i H' hi trivial, w.stops H' trivial, fun i x H2 hi y => ?_⟩
  obtain ⟨rfl, rfl⟩ := w.yields i H' x H2 hi trivial y
  exact ⟨.refl, r', .int (lo + (i : Nat)), by simp [oF, hi], .int _⟩
theorem CZ {o : List D → AH → Res (List D)} {σ : L2.St} {H : Hp} {R : It → Hp → Prop} {K : PySem.W.Frag} : BP K W (mW o fr) σ H R → GB.clA (kW K W fr) σ H fun vs H1 => ∃ ds al h, HR K H1 al h ∧ bD K H1 al ds vs ∧ bL K (fun H al ds J => oE K J ds H al) H1 al (fun c d H' => W c d σ H') R (o ds h) := by
  rintro ⟨e, al, h, r, re, p⟩
  refine ⟨_, ⟨e, al, h, r, re, bL.bind p⟩, ?_⟩
  rintro vs H1 ⟨ds, aZ, h1, l, r1, q, p1⟩
  exact ⟨ds, aZ, h1, r1, q, p1⟩
theorem Il {t : TA} {σ : L2.St} {H : Hp} {Q Q' : List V → Hp → Prop} (h : GB.clA t σ H Q) (i : ∀ v H, Q v H → Q' v H) : GB.clA t σ H Q' := by
  obtain ⟨P, hP, j⟩ := h
  exact ⟨P, hP, fun v H z => i _ _ (j v H z)⟩
theorem abk {tg : Expr} (hg : Gl X "range") (hm : X.mg "range" = none) (ha : PA X [a] (kW X.K W fr)) (hs : starEach [a] X.env = [(false, eval a X.env)] := by rfl) : PI X tg (.Call (.Name "range" p1) [a] [] pos) (BP X.K W (mW pZ fr)) :=
  (pi_range1 hg hm (GB.PA.cl ha) hs).weak fun σ H R h => by
    refine Il (CZ h) ?_
    rintro vs H1 ⟨ds, aZ, h1, r1, q, p1⟩
    unfold pZ at p1
    split at p1
    · cases q with
      | cons q qs =>
        cases q
        cases qs
        split at p1
        · rename_i hb
          exact ⟨_, rfl, hb.1, hb.2, p1 _ _ _ .refl r1 acz⟩
        · exact p1.elim
    · exact p1.elim
def wR : List D → List D → List D
  | d :: ds, e :: es => .tup [d, e] :: wR ds es
  | _, _ => []
theorem Io : ∀ (ds es : List D), (wR ds es).length = min ds.length es.length
  | [], _ => by simp [wR]
  | _ :: _, [] => by simp [wR]
  | d :: ds, e :: es => by simp [wR, Io ds es]
theorem abl : ∀ (ds es : List D) (i : Nat) (d e : D), ds[i]? = some d → es[i]? = some e → (wR ds es)[i]? = some (.tup [d, e])
  | [], _, i, d, e, h, _ => by simp at h
  | _ :: _, [], i, d, e, _, h => by simp at h
  | x :: ds, y :: es, 0, d, e, h, h2 => by simp at h h2; subst h h2; simp [wR]
  | x :: ds, y :: es, i + 1, d, e, h, h2 => by simpa [wR] using abl ds es i d e (by simpa using h) (by simpa using h2)
end
end PD
namespace PD
open PySem PySem.Spec PyProof.Rows L2
def j9 (X : Cx) (W : WX) (f : Value) (n : Nat) (ks : List Str) (m : List D → AH → Res D) : Prop :=
  ∀ (pins : List (Addr × Obj)) (s : Shared) (σ : L2.St) (H : Hp) (us ws : List Value) (vs zs : List V) (Q : VK), Inv X pins σ H s → Vals vs us → Vals zs ws → us.length = n → ws.length = ks.length →
    (∃ ds es al h, HR X.K H al h ∧ bD X.K H al ds vs ∧ bD X.K H al es zs ∧ mK X.K H al (fun c d H' => W c d σ H') Q (m (ds ++ es) h)) →
    wpAny (model X.prog X.w) X.A (call f us (ks.zip ws)) (EP X pins σ Q) X.xe s
section
variable {X : Cx} {W : WX} {e o : Expr} {es : List Expr} {kws : List Keyword} {fo : ME} {fa fk : MA} {x : Str} {f : Value} {p pos apos : Pos} {n : Nat} {ks : List Str} {m : List D → AH → Res D}
theorem U0 {K : PySem.W.Frag} {k : Nat} {σ : L2.St} {H : Hp} {Q : VK} : rd K W (bx n k m fa fk) σ H Q → kW K W fa σ H fun vs H1 => kW K W fk σ H1 fun zs H2 => vs.length = n ∧ zs.length = k ∧
    ∃ ds es al h, HR K H2 al h ∧ bD K H2 al ds vs ∧ bD K H2 al es zs ∧ mK K H2 al (fun c d H' => W c d σ H') Q (m (ds ++ es) h) := by
  rintro ⟨e, al, h, r, re, po⟩
  refine ⟨e, al, h, r, re, (bL.bind po).mono ?_⟩
  rintro vs H1 ⟨ds, aZ, h1, l, r1, q, p1⟩
  refine ⟨e, aZ, h1, r1, re.mono r l, (bL.bind p1).mono ?_⟩
  rintro zs H2 ⟨es, cZ, h2, l2, r2, q2, p2⟩
  have q' := q.mono r1 l2
  split at p2
  · rename_i hl
    exact ⟨by rw [← q'.length]; exact hl.1, by rw [← q2.length]; exact hl.2, ds, es, cZ, h2, r2, q', q2, p2⟩
  · exact p2.elim
theorem bU (c : j9 X W f n [] m) (hg : Gl X x) (hm : X.mg x = some f) (kp : PySem.W.keepIn X.K f = true) (ha : PA X (e :: es) (kW X.K W fa))
    (hdb : (x == ("__debug__" : Str)) = false := by decide) (he : starEach (e :: es) X.env = (false, eval e X.env) :: starEach es X.env := by rfl)
    (hpl : (backTo pos (starEach es X.env)).any (·.1) = false := by rfl) : PE X (.Call (.Name x p) (e :: es) [] pos) (rd X.K W (bx n 0 m fa aA)) := by
  constructor
  intro pins s σ H Q I h
  refine wpAny_Call_Name_kw (ld_glob I hg hm ?_ hdb)
  refine PySem.W.callWith_K (h₀ := X.base) I.ok.mod.kin kp (thn ((GB.PA.cl ha).run pos pins s σ H _ I ⟨_, U0 h, fun _ _ z => z⟩) ?_) he hpl
  rintro us s1 ⟨vs, H1, I1, r, ⟨e1, aZ, h1, hr, hre, z⟩⟩
  obtain ⟨l1, l2, w⟩ := z [] H1 aZ .refl hr .nil
  exact ⟨I1.kIn, c pins s1 σ H1 us [] vs [] Q I1 r .nil (r.length.symm.trans l1) rfl w⟩
theorem acM (c : j9 X W f n ks m) (hg : Gl X x) (hm : X.mg x = some f) (kp : PySem.W.keepIn X.K f = true) (ha : PA X (e :: es) (kW X.K W fa)) (hkw : PK X kws (kW X.K W fk))
    (hall : (backToKw pos (keywordEach kws X.env)).all (·.1.isSome) = true := by rfl) (hks : (backToKw pos (keywordEach kws X.env)).filterMap (·.1) = ks := by rfl)
    (hdb : (x == ("__debug__" : Str)) = false := by decide) (he : starEach (e :: es) X.env = (false, eval e X.env) :: starEach es X.env := by rfl)
    (hpl : ((backTo pos (starEach (e :: es) X.env)).any (·.1) || (backToKw pos (keywordEach kws X.env)).any (·.1.isNone)) = false := by rfl) :
    PE X (.Call (.Name x p) (e :: es) kws pos) (rd X.K W (bx n ks.length m fa fk)) := by
  constructor
  intro pins s σ H Q I h
  refine wpAny_Call_Name_kw (ld_glob I hg hm ?_ hdb)
  refine PySem.W.callWith_KW (h₀ := X.base) I.ok.mod.kin kp hall (thn (ha.run pos pins s σ H _ I (U0 h)) ?_) hpl he
  rintro us s1 ⟨vs, H1, I1, r, z⟩
  refine thn (hkw.run pos pins s1 σ H1 _ I1 z) ?_
  rintro ws s2 ⟨zs, H2, I2, rz, l1, l2, w⟩
  rw [hks]
  exact ⟨I2.kIn, c pins s2 σ H2 us ws vs zs Q I2 r rz (r.length.symm.trans l1) (rz.length.symm.trans l2) w⟩
theorem agm (c : j9 X W f 0 ks m) (hg : Gl X x) (hm : X.mg x = some f) (kp : PySem.W.keepIn X.K f = true) (hkw : PK X kws (kW X.K W fk))
    (hall : (backToKw pos (keywordEach kws X.env)).all (·.1.isSome) = true := by rfl) (hks : (backToKw pos (keywordEach kws X.env)).filterMap (·.1) = ks := by rfl)
    (hdb : (x == ("__debug__" : Str)) = false := by decide)
    (hpl : ((backTo pos (starEach [] X.env)).any (·.1) || (backToKw pos (keywordEach kws X.env)).any (·.1.isNone)) = false := by rfl) :
    PE X (.Call (.Name x p) [] kws pos) (rd X.K W (bx 0 ks.length m aA fk)) := by
  constructor
  intro pins s σ H Q I h
  refine wpAny_Call_Name_kw (ld_glob I hg hm ?_ hdb)
  obtain ⟨e, al, h0, r, re, po⟩ := h
  have po' : mK X.K H al (fun c d H' => W c d σ H') Q ((fk e h0).bind fun es h2 => if [].length = 0 ∧ es.length = ks.length then m ([] ++ es) h2 else .stuck) := po
  refine PySem.W.callWith_KW0 (h₀ := X.base) I.ok.mod.kin kp hall (thn (hkw.run pos pins s σ H _ I ⟨e, al, h0, r, re, bL.bind po'⟩) ?_) hpl
  rintro ws s2 ⟨zs, H2, I2, rz, es, cZ, h2, l, r2, q2, p2⟩
  split at p2
  · rename_i hl
    rw [hks]
    exact ⟨I2.kIn, c pins s2 σ H2 [] ws [] zs Q I2 .nil rz rfl (rz.length.symm.trans (q2.length.symm.trans hl.2)) ⟨[], es, cZ, h2, r2, .nil, q2, p2⟩⟩
  · exact p2.elim
end
structure Fd (P : Program) (w : World) (K : PySem.W.Frag) (mg : Str → Option Value) (base : Heap) (k : Nat) (f : Addr) (x q : Str) (st : Stmt) (dvs : List V) (kws : List (Str × V)) (ps : List Str) (m : List D → AH → Res D) : Prop where
  ex : ∃ fd, FunD K x q (defArgs st) (defBody st) (defScope st) dvs kws f fd ∧ GB.Fn P w K mg base (L2.CX P w) k f fd ps (CT K m)
section
variable {P : Program} {w : World} {K : PySem.W.Frag} {mg : Str → Option Value} {base : Heap} {j k : Nat} {f : Addr} {x q : Str} {st : Stmt} {dvs : List V} {kws : List (Str × V)} {N ps : List Str} {m m' : List D → AH → Res D} {g : MS}
theorem Fd.mono (F : Fd P w K mg base j f x q st dvs kws ps m) (h : j ≤ k) : Fd P w K mg base k f x q st dvs kws ps m := by
  obtain ⟨fd, a, b⟩ := F.ex
  exact ⟨fd, a, b.mono h⟩
theorem agn {H : Hp} {al : Al} {ds : List D} {vs : List V} (q : bD K H al ds vs) (n : Nat) : fW K H al (ds.map some ++ List.replicate n none) (vs.map some ++ List.replicate n none) := by
  refine ⟨by simp [q.length], fun i d z => ?_⟩
  by_cases hi : i < ds.length
  · rw [List.getElem?_append_left (by simpa using hi), List.getElem?_map] at z
    obtain ⟨d', e1, e2⟩ := Option.map_eq_some_iff.mp z
    cases e2
    obtain ⟨v, e, rp⟩ := q.get e1
    refine ⟨v, ?_, rp⟩
    rw [List.getElem?_append_left (by simpa [← q.length] using hi), List.getElem?_map, e]
    rfl
  · rw [List.getElem?_append_right (by simpa using hi)] at z
    rw [List.getElem?_replicate] at z
    split at z <;> cases z
theorem Fd.of (T : GB.Dn K f x q st dvs kws) (S : FnScope N ps (defScope st))
    (hb : ∀ (cdv : Value) (A : Around) (outer : List Env) (s : Shared) (H : Hp) (E : XK), Room k (A.deeper (envOfC q (defScope st) s.heap.objs.size f cdv)) → A.guards = some [] →
      PSs (cxOf (L2.CX P w) P w K mg base N q (defScope st) f cdv A outer s H E) (defBody st) (lu K (fun c d _ H' => E c d H') g)) :
    Fd P w K mg base (k + 1) f x q st dvs kws ps (body ps.length N.length g) := by
  obtain ⟨fd, F⟩ := T
  have len : ∀ vs H Q E, CT K (body ps.length N.length g) vs H Q E → vs.length = ps.length := by
    rintro vs H Q E ⟨ds, al, h, r, rp, po⟩
    unfold body at po
    split at po
    · rename_i hl
      rw [← rp.length]
      exact hl
    · exact po.elim
  refine ⟨fd, F, GB.fnG F S len ?_⟩
  intro cdv A outer s H vs Q E hr hG h
  have hl := len _ _ _ _ h
  refine ⟨_, hb cdv A outer s H E hr hG, ?_⟩
  obtain ⟨ds, al, h, r, rp, po⟩ := h
  unfold body at po
  have hd : ds.length = ps.length := by rw [rp.length]; exact hl
  rw [if_pos hd] at po
  refine ⟨ds.map some ++ List.replicate (N.length - ps.length) none, al, h, r, ?_, ?_⟩
  · have e : start N vs = vs.map some ++ List.replicate (N.length - ps.length) none := by unfold L2.start; rw [hl]
    rw [e]
    exact agn rp _
  · cases z : g (ds.map some ++ List.replicate (N.length - ps.length) none) h with
    | nx e' h' => rw [z] at po; exact fun st H' aQ l r' re => po .non H' aQ l r' .non
    | rt d h' => rw [z] at po; exact po
    | exc c fs e' h' => rw [z] at po; exact fun a st H' aQ gs l r' re e q => po a H' aQ gs l r' e q
    | bk e' h' => rw [z] at po; exact po.elim
    | ct e' h' => rw [z] at po; exact po.elim
    | stuck => rw [z] at po; exact po.elim
def Bd (K : PySem.W.Frag) (x q : Str) (st : Stmt) (dvs : List V) (kws : List (Str × V)) (f : Addr) (ps : List Str) (n : Nat) (ks : List Str) (dv : List V) (is : List Nat) : Prop :=
  ∀ fd, FunD K x q (defArgs st) (defBody st) (defScope st) dvs kws f fd → ∃ g, KBn K fd ps n ks g (fun vs zs => GB.picked (vs ++ zs ++ dv) is)
theorem bD.picked {H : Hp} {al : Al} {ds : List D} {vs : List V} (r : bD K H al ds vs) : ∀ is : List Nat, bD K H al (GB.picked ds is) (GB.picked vs is)
  | [] => .nil
  | i :: is => by
    have ih := bD.picked r is
    unfold GB.picked at ih ⊢
    rw [List.filterMap_cons, List.filterMap_cons]
    cases e : ds[i]? with
    | none =>
      have : vs[i]? = none := by
        rw [List.getElem?_eq_none_iff] at e ⊢
        rw [← r.length]
        exact e
      rw [this]
      exact ih
    | some d =>
      obtain ⟨v, hv, rv⟩ := r.get e
      rw [hv]
      exact .cons rv ih
theorem Bd.all {n : Nat} {ks : List Str} {is : List Nat} (hbd : ∀ (kV doc pm : Value) (an : Option Addr) (cdv ct : Value) (us ws : List Value), us.length = n → ws.length = ks.length →
      bindArgs (PySem.W.fnOf x q (defArgs st) (defBody st) (defScope st) .none kV doc pm an cdv ct) ⟨us, ks.zip ws⟩ = pure (ps.zip (GB.picked (us ++ ws) is))) : Bd K x q st [] kws f ps n ks [] is := by
  rintro fd F
  obtain ⟨oc, od, dV, kV, doc, pm, an, cdv, ct, osl, rfl, lk, hcd, hD, hK⟩ := F.ex
  have hdv : dV = .none := by
    rcases hD with ⟨_, e⟩ | ⟨e, _⟩
    · exact e
    · exact absurd rfl e
  subst hdv
  refine ⟨fun us ws => GB.picked (us ++ ws) is, ⟨fun s us ws _ l1 l2 => .of_eq (hbd kV doc pm an cdv ct us ws l1 l2), fun r1 r2 => ?_⟩⟩
  rw [List.append_nil]
  exact GB.Jk (r1.append r2) is
end
section
variable {X : Cx} {W : WX} {k n : Nat} {f C : Addr} {x q : Str} {st : Stmt} {dvs dv : List V} {kws : List (Str × V)} {ps ks : List Str} {m : List D → AH → Res D} {dd : List D} {is : List Nat}
theorem Fd.calls (F : Fd X.prog X.w X.K X.mg X.base k f x q st dvs kws ps m) (hr : Room k X.A) (ct : cA X W) (b : Bd X.K x q st dvs kws f ps n ks dv is) (hd : ∀ H al, bD X.K H al dd dv) :
    j9 X W (.ref f) n ks (fun ds => m (GB.picked (ds ++ dd) is)) := by
  obtain ⟨fd, D1, F1⟩ := F.ex
  obtain ⟨g, B⟩ := b fd D1
  rintro pins s σ H us ws vs zs Q I r rz l1 l2 ⟨ds, es, al, h, hr1, q1, q2, po⟩
  refine wpAny_call (codeAny_mono (F1.go X.A X.stack s H ⟨us, ks.zip ws⟩ (g us ws) _ Q (fun c d H' => W c d σ H') hr ct.gd I.env0 (B.to s us ws I.kIn l1 l2) (B.rel r rz) ⟨_, al, h, hr1, ((q1.append q2).append (hd H al)).picked is, po⟩) ?_)
  rintro (err | fl) s' z
  · exact passAt ct.tk σ pins H s err s' I z
  · match fl, z with
    | .ret u, z => exact I.after z
def lC (c : Str) (m : List D → AH → Res D) : List D → AH → Res D := fun ds h => match m (.ref h.length :: ds) (h ++ [.ins c []]) with
  | .ok .non h' => .ok (.ref h.length) h'
  | .exc c fs h' => .exc c fs h'
  | _ => .stuck
theorem Fd.makes {c : Str} (M : Mk X.K (He.ga X.K c) f) (F : Fd X.prog X.w X.K X.mg X.base k f x q st dvs kws ps m) (hr : Room (k + 1) X.A) (ct : cA X W) (b : Bd X.K x q st dvs kws f ps (n + 1) ks dv is) (hd : ∀ H al, bD X.K H al dd dv) :
    j9 X W (.ref (He.ga X.K c)) n ks (lC c fun ds => m (GB.picked (ds ++ dd) is)) := by
  obtain ⟨fd, D1, F1⟩ := F.ex
  obtain ⟨g, B⟩ := b fd D1
  rintro pins s σ H us ws vs zs Q I r rz l1 l2 ⟨ds, es, al, h, hr1, q1, q2, po⟩
  let a := s.heap.objs.size + 1
  let dx := s.heap.objs.size
  have ha : H a = none := I.hok.fresh (Nat.le_succ _)
  have hdx : H dx = none := I.hok.fresh (Nat.le_refl _)
  have hne : dx ≠ a := Nat.ne_of_lt (Nat.lt_succ_self _)
  have I2 := Inv.made (C := He.ga X.K c) I
  have hr2 := hr1.fresh (o := .own a) hdx
  have l0 := Le.fresh (o := .own a) hr1 hdx
  have ha2 : upd H dx (.own a) a = none := by rw [upd_ne (Ne.symm hne)]; exact ha
  obtain ⟨hr3, l3⟩ := hr2.push (o := .ins (He.ga X.K c) dx []) (c := .ins c []) ha2 fun H' aQ _ e => ⟨dx, [], e, .nil⟩
  have l03 := l0.trans l3
  have self : Rp X.K (upd (upd H dx (.own a)) a (.ins (He.ga X.K c) dx [])) ⟨al.c ++ [a], al.r⟩ (.ref h.length) (.ref a) := .ref (by show (al.c ++ [a])[h.length]? = some a; rw [← hr1.len]; simp)
  have rS : Vals (V.ref a :: vs) (Value.ref a :: us) := .cons rfl r
  have e1 : (Value.ref a :: us).length = n + 1 := congrArg Nat.succ l1
  refine wpAny_call (make_map (f := f) I.kIn M.makes M.init (beq_iff_eq.mp M.fn) (codeAny_mono (F1.go _ X.stack _ _ ⟨Value.ref a :: us, ks.zip ws⟩ (g (Value.ref a :: us) ws) _ (fun v H2 => v = .non ∧ Q (.ref a) H2) (fun c d H' => W c d σ H')
    (hr.make (He.ga X.K c) us (ks.zip ws)) ct.gd (I2.env0.make (He.ga X.K c) us (ks.zip ws)) (B.to _ (Value.ref a :: us) ws I2.kIn e1 l2) (B.rel rS rz) ⟨_, _, _, hr3, (((bD.cons self (q1.mono hr1 l03)).append (q2.mono hr1 l03)).append (hd _ _)).picked is, ?_⟩) ?_))
  · unfold lC at po
    have ee : (D.ref h.length :: ds ++ es ++ dd) = D.ref h.length :: (ds ++ es) ++ dd := by simp
    rw [ee]
    cases z : m (GB.picked (D.ref h.length :: (ds ++ es) ++ dd) is) (h ++ [.ins c []]) with
    | ok d h' =>
      dsimp only at po
      rw [z] at po
      cases d with
      | non =>
        intro v H' aQ l r' rp
        cases rp
        exact ⟨rfl, po _ H' aQ (l03.trans l) r' (self.mono hr3 l)⟩
      | _ => exact po.elim
    | exc c' fs h' =>
      dsimp only at po
      rw [z] at po
      exact fun a' H' aQ gs l r' e q => po a' H' aQ gs (l03.trans l) r' e q
    | stuck =>
      dsimp only at po
      rw [z] at po
      exact po.elim
  · rintro (err | fl) s' z
    · exact passAt ct.tk σ pins _ _ err s' I2 z
    · match fl, z with
      | .ret u, z =>
        obtain ⟨v, H', I3, rv, ev, q3⟩ := I2.after z
        subst ev
        exact ⟨rv, ⟨V.ref a, H', I3, rfl, q3⟩⟩
end
end PD
namespace PD
open PySem PySem.Spec PyProof.Rows L2
mutual
def Ip (n : Nat) : D → Prop
  | .tup ds => tZ n ds
  | .lst ds => tZ n ds
  | .dD ds => tZ n ds
  | .obj _ fs => Ar n fs
  | .ref k => k < n
  | _ => True
def tZ (n : Nat) : List D → Prop
  | [] => True
  | d :: ds => Ip n d ∧ tZ n ds
def Ar (n : Nat) : List (Str × D) → Prop
  | [] => True
  | (_, d) :: fs => Ip n d ∧ Ar n fs
end
section
variable {K : PySem.W.Frag} {H H' : Hp} {al aQ : Al} {h h' : AH}
mutual
theorem Rp.low : ∀ {d : D} {v : V}, Rp K H al d v → Ip al.c.length d
  | _, _, .non => trivial
  | _, _, .bl _ => trivial
  | _, _, .int _ => trivial
  | _, _, .str _ => trivial
  | _, _, .ty _ => trivial
  | _, _, .glo _ => trivial
  | _, _, .ref e => (List.getElem?_eq_some_iff.mp e).1
  | _, _, .tup _ q => bD.low q
  | _, _, .lst _ q => bD.low q
  | _, _, .dD _ q => bD.low q
  | _, _, .obj _ _ q => dM.low q
theorem bD.low : ∀ {ds : List D} {vs : List V}, bD K H al ds vs → tZ al.c.length ds
  | _, _, .nil => trivial
  | _, _, .cons q qs => ⟨Rp.low q, bD.low qs⟩
theorem dM.low : ∀ {ds : List (Str × D)} {vs : List (Str × V)}, dM K H al ds vs → Ar al.c.length ds
  | _, _, .nil => trivial
  | _, _, .cons q qs => ⟨Rp.low q, dM.low qs⟩
end
variable {c t r : List Addr}
theorem uf {a : Addr} (n : ¬ Al.has ⟨c ++ t, r⟩ a) : ¬ Al.has ⟨c, r⟩ a := fun z => n (z.elim (fun w => .inl (List.mem_append_left _ w)) .inr)
mutual
theorem Rp.less : ∀ {d : D} {v : V}, Rp K H ⟨c ++ t, r⟩ d v → Ip c.length d → Rp K H ⟨c, r⟩ d v
  | _, _, .non, _ => .non
  | _, _, .bl b, _ => .bl b
  | _, _, .int i, _ => .int i
  | _, _, .str x, _ => .str x
  | _, _, .ty n, _ => .ty n
  | _, _, .glo x, _ => .glo x
  | _, _, .ref (n := n) e, w => .ref (by
    have e' : (c ++ t)[n]? = _ := e
    rw [List.getElem?_append_left (show n < c.length from w)] at e'
    exact e')
  | _, _, .tup s q, w => .tup s (bD.less q w)
  | _, _, .lst s q, w => .lst ⟨s.1, uf s.2⟩ (bD.less q w)
  | _, _, .dD s q, w => .dD (s.elim (fun ⟨o, z⟩ => .inl ⟨o, z.1, uf z.2⟩) .inr) (bD.less q w)
  | _, _, .obj e n q, w => .obj e (uf n) (dM.less q w)
theorem bD.less : ∀ {ds : List D} {vs : List V}, bD K H ⟨c ++ t, r⟩ ds vs → tZ c.length ds → bD K H ⟨c, r⟩ ds vs
  | _, _, .nil, _ => .nil
  | _, _, .cons q qs, w => .cons (Rp.less q w.1) (bD.less qs w.2)
theorem dM.less : ∀ {ds : List (Str × D)} {vs : List (Str × V)}, dM K H ⟨c ++ t, r⟩ ds vs → Ar c.length ds → dM K H ⟨c, r⟩ ds vs
  | _, _, .nil, _ => .nil
  | _, _, .cons q qs, w => .cons (Rp.less q w.1) (dM.less qs w.2)
end
theorem eG.less {x : Cell} {a : Addr} {K0 : PySem.W.Frag} {H0 : Hp} {r0 : List Addr} {a0 : Addr} (q : eG K H ⟨c ++ t, r⟩ a x) (q0 : eG K0 H0 ⟨c, r0⟩ a0 x) : eG K H ⟨c, r⟩ a x := by
  cases x with
  | lst ds =>
    obtain ⟨vs, z, q⟩ := q
    obtain ⟨_, _, q0⟩ := q0
    exact ⟨vs, z, q.less q0.low⟩
  | dict kvs =>
    obtain ⟨ws, z, k, q⟩ := q
    obtain ⟨_, _, _, q0⟩ := q0
    exact ⟨ws, z, k, q.less q0.low⟩
  | ins c fs =>
    obtain ⟨dx, gs, z, q⟩ := q
    obtain ⟨_, _, _, q0⟩ := q0
    exact ⟨dx, gs, z, q.less q0.low⟩
  | gU kvs =>
    obtain ⟨o, ws, z, k, q⟩ := q
    obtain ⟨_, _, _, _, q0⟩ := q0
    exact ⟨o, ws, z, k, q.less q0.low⟩
theorem HR.less {x : Cell} {a : Addr} (r0 : HR K H al h) (l : Le H al H' aQ) (r1 : HR K H' aQ (h ++ [x])) (e : aQ.c[h.length]? = some a) : HR K H' al h ∧ Le H al H' al ∧ ¬ al.has a ∧ aQ.c = al.c ++ [a] ∧ eG K H' aQ a x := by
  obtain ⟨t, ht⟩ := l.pre
  obtain ⟨c', r'⟩ := aQ
  obtain rfl : r' = al.r := l.tG
  obtain rfl : c' = al.c ++ t := ht
  have hlen : (al.c ++ t).length = h.length + 1 := by simpa using r1.len
  have htl : t.length = 1 := by
    have := r0.len
    simp only [List.length_append] at hlen
    omega
  obtain ⟨b, rfl⟩ := List.length_eq_one_iff.mp htl
  have e' : (al.c ++ [b])[h.length]? = some a := e
  rw [← r0.len] at e'
  simp at e'
  subst e'
  refine ⟨⟨r0.nd, r0.len, r0.dis, r1.rs, fun n x a e1 e2 => ?_⟩, ⟨⟨[], by simp⟩, rfl, l.keep, l.res, fun _ z => .inl z, l.lk⟩, fun z => ?_, rfl, ?_⟩
  · have hn := (List.getElem?_eq_some_iff.mp e1).1
    have hn2 := (List.getElem?_eq_some_iff.mp e2).1
    refine (r1.at_ n x a ?_ ?_).less (r0.at_ n x a e1 e2)
    · rw [List.getElem?_append_left hn]
      exact e1
    · show (al.c ++ [b])[n]? = some a
      rw [List.getElem?_append_left hn2]
      exact e2
  · rcases z with z | z
    · have nd : (al.c ++ [b]).Nodup := r1.nd
      rw [List.nodup_append] at nd
      exact nd.2.2 b z b (List.mem_singleton.mpr rfl) rfl
    · exact r1.dis b (List.mem_append_right _ (List.mem_singleton.mpr rfl)) z
  · exact r1.at_ h.length x b (by simp) e
end
open Classical in
noncomputable def ago (h : AH) (n : Nat) (h' : AH) : Res D := if n = h.length ∧ ∃ x, h' = h ++ [x] then match h'[n]? with
      | some (.ins c fs) => if Ar n fs then .ok (.obj c fs) h else .stuck
      | some (.lst ds) => if tZ n ds then .ok (.lst ds) h else .stuck
      | _ => .stuck
    else .stuck
noncomputable def frz (h : AH) : Res D → Res D
  | .ok d h' => match d with
    | .ref n => ago h n h'
    | d => .ok d h'
  | r => r
theorem aic {h h' : AH} {n : Nat} : frz h (.ok (.ref n) h') = ago h n h' := rfl
theorem acN {K : PySem.W.Frag} {H : Hp} {al : Al} {h : AH} {E : XK} {Q : VK} {m : Res D} (r : HR K H al h) (p : mK K H al E Q (frz h m)) : mK K H al E Q m := by
  cases m with
  | exc c fs h' => exact p
  | stuck => exact p
  | ok d h' =>
    cases d with
    | ref n =>
      intro v H' aQ l r' rp
      rw [aic] at p
      unfold ago at p
      split at p
      · rename_i hc
        obtain ⟨rfl, x, rfl⟩ := hc
        cases rp with
        | ref e =>
          obtain ⟨r2, l2, na, hc, ok⟩ := r.less l r' e
          rw [show (h ++ [x])[h.length]? = some x by simp] at p
          obtain ⟨c', rr⟩ := aQ
          obtain rfl : rr = al.r := l.tG
          obtain rfl : c' = _ := hc
          cases x with
          | ins c fs =>
            dsimp only at p
            split at p
            · rename_i w
              obtain ⟨dx, gs, e1, q⟩ := ok
              exact p _ H' al l2 r2 (.obj e1 na (dM.less q (by rw [r.len]; exact w)))
            · exact p.elim
          | lst ds =>
            dsimp only at p
            split at p
            · rename_i w
              obtain ⟨vs, e1, q⟩ := ok
              exact p _ H' al l2 r2 (.lst ⟨e1, na⟩ (bD.less q (by rw [r.len]; exact w)))
            · exact p.elim
          | dict kvs => exact p.elim
          | gU kvs => exact p.elim
      · exact p.elim
    | _ => exact p
theorem j9.frz {X : Cx} {W : WX} {f : Value} {n : Nat} {ks : List Str} {m : List D → AH → Res D} (c : j9 X W f n ks m) : j9 X W f n ks (fun ds h => PD.frz h (m ds h)) := by
  rintro pins s σ H us ws vs zs Q I r rz l1 l2 ⟨ds, es, al, h, hr, q1, q2, po⟩
  exact c pins s σ H us ws vs zs Q I r rz l1 l2 ⟨ds, es, al, h, hr, q1, q2, acN hr po⟩
theorem Fd.frz {P : Program} {w : World} {K : PySem.W.Frag} {mg : Str → Option Value} {base : Heap} {k : Nat} {f : Addr} {x q : Str} {st : Stmt} {dvs : List V} {kws : List (Str × V)} {ps : List Str} {m : List D → AH → Res D}
    (F : Fd P w K mg base k f x q st dvs kws ps m) : Fd P w K mg base k f x q st dvs kws ps (fun ds h => PD.frz h (m ds h)) := by
  obtain ⟨fd, a, b⟩ := F.ex
  exact ⟨fd, a, b.imp fun vs H Q E ⟨ds, al, h, r, rp, po⟩ => ⟨ds, al, h, r, rp, acN r po⟩⟩
def clsOf : D → AH → Option (Str × List (Str × D))
  | .obj c fs, _ => some (c, fs)
  | .ref n, h => match h[n]? with
    | some (.ins c fs) => some (c, fs)
    | _ => none
  | _, _ => none
def kh (cs : List Str) (f : Str) (d : D) (h : AH) : Res D := match clsOf d h with
  | some (c, fs) => if c ∈ cs then match fs.lookup f with
      | some v => .ok v h
      | none => .stuck
    else .stuck
  | none => .stuck
def bM (cs : List Str) (f : Str) (fo : ME) : ME := fun e h => (fo e h).bind fun d h1 => kh cs f d h1
theorem Ir {K : PySem.W.Frag} {H : Hp} {al : Al} {h : AH} {d : D} {v : V} {c : Str} {fs : List (Str × D)} (r : HR K H al h) (q : Rp K H al d v) (e : clsOf d h = some (c, fs)) : ∃ a dx gs, v = .ref a ∧ H a = some (.ins (He.ga K c) dx gs) ∧ dM K H al fs gs := by
  cases q with
  | obj e1 n q =>
    cases e
    exact ⟨_, _, _, rfl, e1, q⟩
  | ref e1 =>
    obtain ⟨x, hx, ok⟩ := r.cell e1
    simp only [clsOf, hx] at e
    cases x with
    | ins c fs =>
      cases e
      obtain ⟨dx, gs, e2, q⟩ := ok
      exact ⟨_, _, _, rfl, e2, q⟩
    | lst ds => cases e
    | dict ds => cases e
    | gU ds => cases e
  | _ => cases e
theorem dM.lookup {K : PySem.W.Frag} {H : Hp} {al : Al} {f : Str} {d : D} : ∀ {fs : List (Str × D)} {gs : List (Str × V)}, dM K H al fs gs → fs.lookup f = some d → ∃ v, gs.lookup f = some v ∧ Rp K H al d v
  | _, _, .nil, e => by cases e
  | _, _, .cons (f := g) q qs, e => by
    rw [List.lookup_cons] at e ⊢
    cases z : f == g with
    | true =>
      rw [z] at e
      cases e
      exact ⟨_, rfl, q⟩
    | false =>
      rw [z] at e
      exact dM.lookup qs e
theorem dM.Tt {K : PySem.W.Frag} {H : Hp} {al : Al} {f : Str} : ∀ {fs : List (Str × D)} {gs : List (Str × V)}, dM K H al fs gs → fs.lookup f = none → gs.lookup f = none
  | _, _, .nil, e => rfl
  | _, _, .cons (f := g) q qs, e => by
    rw [List.lookup_cons] at e ⊢
    cases z : f == g with
    | true =>
      rw [z] at e
      cases e
    | false =>
      rw [z] at e
      exact dM.Tt qs e
theorem dM.length {K : PySem.W.Frag} {H : Hp} {al : Al} : ∀ {fs : List (Str × D)} {gs : List (Str × V)}, dM K H al fs gs → fs.length = gs.length
  | _, _, .nil => rfl
  | _, _, .cons _ qs => by simp [dM.length qs]
def putD (f : Str) (v : D) : List (Str × D) → List (Str × D)
  | [] => [(f, v)]
  | (g, x) :: r => if g = f then (g, v) :: r else (g, x) :: putD f v r
theorem dM.put {K : PySem.W.Frag} {H : Hp} {al : Al} {f : Str} {d : D} {v : V} (p : Rp K H al d v) : ∀ {fs : List (Str × D)} {gs : List (Str × V)}, dM K H al fs gs → dM K H al (putD f d fs) (putF f v gs)
  | _, _, .nil => .cons p .nil
  | _, _, .cons (f := g) q qs => by
    unfold putD putF
    by_cases z : g = f
    · rw [if_pos z, if_pos z]
      exact .cons p qs
    · rw [if_neg z, if_neg z]
      exact .cons q (dM.put p qs)
section
variable {X : Cx} {W : WX} {e o v : Expr} {es : List Expr} {kws : List Keyword} {fo fv : ME} {fa fk : MA} {x f mn : Str} {p p1 p2 pos pos' apos : Pos} {n : Nat} {ks cs : List Str} {m : List D → AH → Res D}
theorem cO (hC : ∀ c ∈ cs, Cls X.K (He.ga X.K c) ∧ NoAttr X.K (He.ga X.K c) f) (ho : PE X o (rd X.K W fo)) (hb : attributeBase o f X.env (eval o X.env) = eval o X.env := by rfl) : PE X (.Attribute o f pos) (rd X.K W (bM cs f fo)) :=
  (pe_fld ho hb).weak fun σ H Q ⟨e, al, h, r, re, po⟩ => by
    refine ⟨e, al, h, r, re, (bL.bind po).mono ?_⟩
    rintro v H1 ⟨d, aZ, h1, l, r1, q, p1⟩
    unfold kh at p1
    split at p1
    · rename_i c fs hcl
      obtain ⟨a, dx, gs, rfl, e1, qf⟩ := Ir r1 q hcl
      split at p1
      · rename_i hm
        split at p1
        · rename_i d' hl
          obtain ⟨w, e2, q2⟩ := qf.lookup hl
          exact ⟨a, _, dx, gs, w, rfl, e1, (hC c hm).1, (hC c hm).2, e2, p1 _ _ _ .refl r1 q2⟩
        · exact p1.elim
      · exact p1.elim
    · exact p1.elim
def jC (cs : List Str) (f : Str) (e : En) (o y : D) (h : AH) : RS := match o with
  | .ref n => match h[n]? with
    | some (.ins c fs) => if c ∈ cs ∧ fs.length < 1000 then .nx e (h.set n (.ins c (putD f y fs))) else .stuck
    | _ => .stuck
  | _ => .stuck
def cJ (cs : List Str) (f : Str) (fo fv : ME) : MS := fun e h => (fv e h).st e fun y h1 => (fo e h1).st e fun o h2 => jC cs f e o y h2
theorem iK (hC : ∀ c ∈ cs, Cls X.K (He.ga X.K c) ∧ NoAttr X.K (He.ga X.K c) f) (ho : PE X o (rd X.K W fo)) (hv : PE X v (rd X.K W fv)) (hs : swapsWith v (some (.Attribute o f pos')) pos.line X.env = pure false := by rfl) :
    PS X (.Assign [.Attribute o f pos'] v pos) (lu X.K W (cJ cs f fo fv)) :=
  (ps_fld ho hv hs).weak fun N σ H ⟨e, al, h, r, re, po⟩ => by
    refine ⟨e, al, h, r, re, (jB r re po).mono ?_⟩
    rintro y H1 ⟨d, aZ, h1, l, r1, q, p1⟩
    refine ⟨e, aZ, h1, r1, re.mono r l, (jB r1 (re.mono r l) p1).mono ?_⟩
    rintro w H2 ⟨d2, cZ, h2, l2, r2, q2, p2⟩
    unfold jC at p2
    split at p2
    · rename_i n
      split at p2
      · rename_i c fs hx
        split at p2
        · rename_i hc
          cases q2 with
          | ref ea =>
            obtain ⟨dx, gs, e1, qf⟩ := r2.at_ n _ _ hx ea
            obtain ⟨r3, l3⟩ := r2.put (o := .ins (He.ga X.K c) dx (putF f y gs)) (c := .ins c (putD f d fs)) ea fun H' aQ l' e' => ⟨dx, _, e', (qf.mono r2 l').put ((q.mono r1 l2).mono r2 l')⟩
            exact ⟨_, _, dx, gs, rfl, e1, (hC c hc.1).1, (hC c hc.1).2, by rw [← qf.length]; exact hc.2, p2 _ _ _ l3 r3 (((re.mono r l).mono r1 l2).mono r2 l3)⟩
        · exact p2.elim
      · exact p2.elim
    · exact p2.elim
def Wy (cs : List Str) (mn : Str) (d : D) (h : AH) : Prop := ∃ c fs, clsOf d h = some (c, fs) ∧ c ∈ cs ∧ fs.lookup mn = none
open Classical in
noncomputable def fM (cs : List Str) (mn : Str) (n : Nat) (m : List D → AH → Res D) (fo : ME) (fa : MA) : ME := fun e h => (fo e h).bind fun d h1 =>
  if Wy cs mn d h1 then (fa e h1).bind fun ds h2 => if ds.length = n then m (d :: ds) h2 else .stuck else .stuck
theorem sE {f : Addr} {pl : Sem Bool} (hM : ∀ c ∈ cs, Cls X.K (He.ga X.K c) ∧ Meth X.K (He.ga X.K c) mn f) (c : j9 X W (.ref f) (n + 1) [] m) (ho : PE X o (rd X.K W fo)) (ha : PA X (e :: es) (kW X.K W fa))
    (hst : starEach (e :: es) X.env = (false, eval e X.env) :: starEach es X.env := by rfl) (hpl : (backTo pos (starEach es X.env)).any (·.1) = false := by rfl)
    (ht : eval (.Call (.Attribute o mn apos) (e :: es) [] pos) X.env = (eval o X.env >>= fun ov => standAt apos.atName >>= fun _ => holding [ov] (getMethod ov mn pl) >>= fun fp => callWith pos fp.1 fp.2 (backTo pos (starEach (e :: es) X.env)) (backToKw pos (keywordEach [] X.env))) := by rfl) :
    PE X (.Call (.Attribute o mn apos) (e :: es) [] pos) (rd X.K W (fM cs mn n m fo fa)) := by
  constructor
  rintro pins s σ H Q I ⟨en, al, h, r, re, po⟩
  refine PySem.W.methodCall_KW (pl := pl) (thn (ho.run pins s σ H _ I ⟨en, al, h, r, re, bL.bind po⟩) ?_) ht
  rintro u s1 ⟨v, H1, I1, rx, d, aZ, h1, l, r1, q, p1⟩
  split at p1
  · rename_i hc
    obtain ⟨cn, fs, hcl, hmem, hl⟩ := hc
    obtain ⟨a, dx, gs, rfl, e1, qf⟩ := Ir r1 q hcl
    obtain rfl : u = Value.ref a := rx
    obtain ⟨cl, hmC⟩ := hM cn hmem
    refine getmeth_ok I1 e1 cl hmC (qf.Tt hl) ?_
    refine PySem.W.callWith_K (first := [.ref a]) (h₀ := X.base) I.ok.mod.kin hmC.kp (thn (ha.run pos pins s1 σ H1 _ I1 ⟨en, aZ, h1, r1, re.mono r l, bL.bind p1⟩) ?_) hst hpl
    rintro us s2 ⟨vs, H2, I2, rv, ds, cZ, h2, l2, r2, q2, p2⟩
    refine ⟨I2.kIn, ?_⟩
    split at p2
    · rename_i hn
      exact c pins s2 σ H2 (.ref a :: us) [] (.ref a :: vs) [] Q I2 (.cons rfl rv) .nil (congrArg Nat.succ (rv.length.symm.trans (q2.length.symm.trans hn))) rfl ⟨d :: ds, [], cZ, h2, r2, .cons (q.mono r1 l2) q2, .nil, by rw [List.append_nil]; exact p2⟩
    · exact p2.elim
  · exact p1.elim
theorem aie {f : Addr} {pl : Sem Bool} (hM : ∀ c ∈ cs, Cls X.K (He.ga X.K c) ∧ Meth X.K (He.ga X.K c) mn f) (c : j9 X W (.ref f) 1 [] m) (ho : PE X o (rd X.K W fo))
    (ht : eval (.Call (.Attribute o mn apos) [] [] pos) X.env = (eval o X.env >>= fun ov => standAt apos.atName >>= fun _ => holding [ov] (getMethod ov mn pl) >>= fun fp => callWith pos fp.1 fp.2 (backTo pos (starEach [] X.env)) (backToKw pos (keywordEach [] X.env))) := by rfl) :
    PE X (.Call (.Attribute o mn apos) [] [] pos) (rd X.K W (fM cs mn 0 m fo aA)) := by
  constructor
  rintro pins s σ H Q I ⟨en, al, h, r, re, po⟩
  refine PySem.W.methodCall_KW (pl := pl) (thn (ho.run pins s σ H _ I ⟨en, al, h, r, re, bL.bind po⟩) ?_) ht
  rintro u s1 ⟨v, H1, I1, rx, d, aZ, h1, l, r1, q, p1⟩
  split at p1
  · rename_i hc
    obtain ⟨cn, fs, hcl, hmem, hl⟩ := hc
    obtain ⟨a, dx, gs, rfl, e1, qf⟩ := Ir r1 q hcl
    obtain rfl : u = Value.ref a := rx
    obtain ⟨cl, hmC⟩ := hM cn hmem
    refine getmeth_ok I1 e1 cl hmC (qf.Tt hl) ?_
    exact PySem.W.callWith_K0 (first := [.ref a]) I1.kIn hmC.kp (c pins s1 σ H1 [.ref a] [] [.ref a] [] Q I1 (.cons rfl .nil) .nil rfl rfl ⟨[d], [], aZ, h1, r1, .cons q .nil, .nil, p1⟩)
  · exact p1.elim
def Dc (c : Str) (mk : List D → Option (List (Str × D))) (fa : MA) : MS := fun e h => (fa e h).st e fun ds h1 => match mk ds with
  | some fs => if ds.length ≤ 1000 then .exc c fs e h1 else .stuck
  | none => .stuck
theorem Tw {k : Nat} {ps names : List Str} {mk : List D → Option (List (Str × D))} {mkV : List V → Option (List (Str × V))} (c : GB.GZ X.prog X.w X.K X.mg X.base k x ps names mkV) (hr : Room (k + 1) X.A) (hc : X.calm = true) (ct : cA X W) (hg : Gl X x) (ha : PA X (e :: es) (kW X.K W fa))
    (hmk : ∀ H al ds vs fs, bD X.K H al ds vs → mk ds = some fs → ∃ gs, mkV vs = some gs ∧ dM X.K H al fs gs)
    (hdb : (x == ("__debug__" : Str)) = false := by decide) (he : starEach (e :: es) X.env = (false, eval e X.env) :: starEach es X.env := by rfl) (hpl : (backTo pos (starEach es X.env)).any (·.1) = false := by rfl) :
    PS X (.Raise (some (.Call (.Name x p) (e :: es) [] pos)) none pos') (lu X.K W (Dc x mk fa)) :=
  (GB.aeA c hr hc ct.tk hg (GB.PA.cl ha) hdb he hpl).weak fun N σ H ⟨en, al, h, r, re, po⟩ => by
    refine ⟨_, ⟨en, al, h, r, re, jB r re po⟩, ?_⟩
    rintro vs H1 ⟨ds, aZ, h1, l, r1, q, p1⟩
    split at p1
    · rename_i fs hfs
      split at p1
      · rename_i hl
        obtain ⟨gs, e1, qf⟩ := hmk H1 aZ ds vs fs q hfs
        refine ⟨by rw [← q.length]; exact hl, gs, e1, fun d H2 hd e2 => ?_⟩
        subst e2
        have lf := Le.fresh (o := .xd gs) r1 hd
        exact p1 d σ _ aZ gs lf (r1.fresh hd) ((re.mono r l).mono r1 lf) upd_same (qf.mono r1 lf)
      · exact p1.elim
    · exact p1.elim
end
end PD
namespace PD
open PySem PySem.Spec PyProof.Rows L2
theorem agp (l : Addr) (xs : Array Value) (n : Nat) (q : Option Addr) (sl : Array (Option Value)) (k : Int) (u : Tok) (c0 : (decide (k < -(2 ^ 63)) || decide (k ≥ 2 ^ 63)) = false) (c1 : (xs.isEmpty || k == 1) = true) :
    Meets (Builtin.«tuple.__mul__» ⟨[.ref l, .int k u], []⟩) (fun _ R s => s.heap.get? l = some ⟨.type "tuple", q, .seq xs n, sl⟩ ∧ R (.ok (.ret (.ref l))) s) :=
  .of_wp fun prog w A R s h => by
    obtain ⟨hp, g, d, tk, os⟩ := s
    obtain ⟨hl, h⟩ := h
    have f1 := AutoSeq1.idx_int
    wp_walk using wpAny_loadPart' hl
    refine wpAny_ite_false (decide_eq_false fun z => by rw [c0] at z; cases z) ?_
    wp_walk using wpAny_loadPart' hl
    exact ⟨_, rfl, h⟩
theorem agq (l : Addr) (xs : Array Value) (n : Nat) (q : Option Addr) (sl : Array (Option Value)) (k : Int) (u : Tok) (c0 : (decide (k < -(2 ^ 63)) || decide (k ≥ 2 ^ 63)) = false) (c1 : (xs.isEmpty || k == 1) = false) (c2 : (decide (k ≤ 0) || xs.isEmpty) = true) :
    Meets (Builtin.«tuple.__mul__» ⟨[.ref l, .int k u], []⟩) (fun _ R s => s.heap.get? l = some ⟨.type "tuple", q, .seq xs n, sl⟩ ∧ R (.ok (.ret (.ref s.heap.objs.size))) { s with heap := s.heap.push ⟨.type "tuple", none, .seq #[] 0, #[]⟩, toks := s.toks }) :=
  .of_wp fun prog w A R s h => by
    obtain ⟨hp, g, d, tk, os⟩ := s
    obtain ⟨hl, h⟩ := h
    have f1 := AutoSeq1.idx_int
    wp_walk using wpAny_loadPart' hl
    refine wpAny_ite_false (decide_eq_false fun z => by rw [c0] at z; cases z) ?_
    wp_walk using wpAny_loadPart' hl
    exact ⟨_, rfl, h⟩
variable {X : Cx}
theorem aif {xs : List V} {l : Addr} {k : Int} {pins : List (Addr × Obj)} {s : Shared} {σ : L2.St} {H : Hp} {v u : Value} {Q : VK} (I : L2.Inv X pins σ H s) (rx : RelV (.ref l) v) (ry : RelV (.int k) u) (hT : SqT X.K H l xs) (h0 : 0 ≤ k) (h1 : k ≤ 1000) (hz : xs.length ≤ 1000)
    (qs : (List.replicate k.toNat xs).flatten = xs → Q (.ref l) H) (qn : ∀ p, H p = none → Q (.ref p) (upd H p (.tup (List.replicate k.toNat xs).flatten))) : wpAny (model X.prog X.w) X.A (binaryOp .Mult v u) (EP X pins σ Q) X.xe s := by
  by_cases h2 : xs ≠ [] ∧ 2 ≤ k
  · exact op_repT pins s σ H _ _ v u Q I rx ry ⟨l, k, xs, rfl, rfl, hT, h2.1, h2.2, h1, hz, qn⟩
  cases rx
  obtain ⟨t, rfl⟩ := ry
  obtain ⟨its, r, ⟨⟨cls, dd, data, sl⟩, ho, hc, n, hd⟩, hs⟩ := I.tuple hT
  simp only at hc hd
  subst hc hd
  have c0 : (decide (k < -(2 ^ 63)) || decide (k ≥ 2 ^ 63)) = false := by
    have a : ¬ k < -(2 ^ 63) := by omega
    have b : ¬ k ≥ 2 ^ 63 := by omega
    simp only [a, b, decide_false, Bool.or_self]
  have hem : its.toArray.isEmpty = xs.isEmpty := by
    cases r with
    | nil => rfl
    | cons _ _ => rfl
  by_cases h3 : xs = [] ∨ k = 1
  · have c1 : (its.toArray.isEmpty || k == 1) = true := by
      rw [hem]
      rcases h3 with rfl | rfl
      · rfl
      · exact Bool.or_true _
    have e : (List.replicate k.toNat xs).flatten = xs := by
      rcases h3 with rfl | rfl
      · exact List.flatten_replicate_nil
      · exact (List.append_nil xs)
    refine wpAny_binaryOp_repeat_ref (T := "tuple") (U := "int") (by decide) ⟨_, ho, rfl⟩ (fun s' => typeIs_int s' k t) noFill_tuple_mul F.fills_int_mul F.slot_int_rmul repeat_tuple F.slot_int_index.lookup
      (call_meets F.slot_int_rmul (typeIs_int s k t) F.entry_int_rmul (F.args_int_rmul_2 _ _) (int_rmul_tuple k t l its.toArray n dd sl) ⟨ho, rfl, ⟨_, ho, rfl⟩, ?_⟩)
    exact call_meets F.slot_tuple_mul ⟨_, ho, rfl⟩ F.entry_tuple_mul (F.args_tuple_mul_2 _ _) (agp l its.toArray n dd sl k t c0 c1) ⟨ho, .ref l, H, I, rfl, qs e⟩
  · have n1 : xs ≠ [] := fun z => h3 (.inl z)
    have n2 : k ≤ 0 := by
      have : ¬ 2 ≤ k := fun z => h2 ⟨n1, z⟩
      have : k ≠ 1 := fun z => h3 (.inr z)
      omega
    have k0 : k = 0 := by omega
    have em : its.toArray.isEmpty = false := by
      rw [hem]
      cases xs with
      | nil => exact absurd rfl n1
      | cons _ _ => rfl
    subst k0
    refine wpAny_binaryOp_repeat_ref (T := "tuple") (U := "int") (by decide) ⟨_, ho, rfl⟩ (fun s' => typeIs_int s' 0 t) noFill_tuple_mul F.fills_int_mul F.slot_int_rmul repeat_tuple F.slot_int_index.lookup
      (call_meets F.slot_int_rmul (typeIs_int s 0 t) F.entry_int_rmul (F.args_int_rmul_2 _ _) (int_rmul_tuple 0 t l its.toArray n dd sl) ⟨ho, rfl, ⟨_, ho, rfl⟩, ?_⟩)
    refine call_meets F.slot_tuple_mul ⟨_, ho, rfl⟩ F.entry_tuple_mul (F.args_tuple_mul_2 _ _) (agq l its.toArray n dd sl 0 t c0 (by rw [em]; rfl) rfl) ⟨ho, ?_⟩
    exact ⟨.ref s.heap.objs.size, _, I.laid (t' := s.toks) (o := .tup []) (fun b ob q => Heap.get?_push_of_some _ q) (Nat.le_refl _) ⟨by decide, [], .nil, IsTup.new _ _⟩, rfl, qn _ (I.hok.fresh (Nat.le_refl _))⟩
end PD
namespace PD
open PySem PySem.Spec PyProof.Rows L2
section
variable {X : Cx} {W : WX}
def eO : O2
  | .int i, .int j, h => some (.int (i + j), h)
  | .str a, .str b, h => if a.length + b.length ≤ 16777216 then some (.str (a ++ b), h) else none
  | .lst a, .lst b, h => if a.length + b.length ≤ 16777216 then some (.lst (a ++ b), h) else none
  | .tup a, .tup b, h => if a.length + b.length ≤ 16777216 then some (.tup (a ++ b), h) else none
  | .ref n, .lst b, h => match h[n]? with
    | some (.lst a) => if a.length + b.length ≤ 16777216 then some (.lst (a ++ b), h) else none
    | _ => none
  | .lst a, .ref n, h => match h[n]? with
    | some (.lst b) => if a.length + b.length ≤ 16777216 then some (.lst (a ++ b), h) else none
    | _ => none
  | .ref m, .ref n, h => match h[m]?, h[n]? with
    | some (.lst a), some (.lst b) => if a.length + b.length ≤ 16777216 then some (.lst (a ++ b), h) else none
    | _, _ => none
  | _, _, _ => none
theorem HR.lst {K : PySem.W.Frag} {H : Hp} {al : Al} {h : AH} {n : Nat} {a : Addr} {ds : List D} (r : HR K H al h) (e : al.c[n]? = some a) (z : h[n]? = some (.lst ds)) : ∃ vs, H a = some (.lst vs) ∧ bD K H al ds vs := r.at_ n _ a z e
theorem lD : OpR X (binaryOp .Add) (r2 X.K eO) := by
  have hs : sizeLine = 16777216 := sizeLine_eq
  rintro pins s σ H x y v u Q I rx ry ⟨d, e, al, h, r, p, q, po⟩
  cases p with
  | int i =>
    cases q with
    | int j => exact op_add pins s σ H _ _ v u Q I rx ry ⟨i, j, rfl, rfl, po _ _ _ .refl r (.int _)⟩
    | _ => exact False.elim po
  | str a =>
    cases q with
    | str b =>
      simp only [eO] at po
      split at po
      · rename_i hl
        exact op_add_str pins s σ H _ _ v u Q I rx ry ⟨a, b, rfl, rfl, by rw [hs]; exact hl, po _ _ _ .refl r (.str _)⟩
      · exact False.elim po
    | _ => exact False.elim po
  | lst sa qa =>
    cases q with
    | lst sb qb =>
      simp only [eO] at po
      split at po
      · rename_i hl
        exact op_cat pins s σ H _ _ v u Q I rx ry ⟨_, _, _, _, rfl, rfl, sa.1, sb.1, by rw [hs, ← qa.length, ← qb.length]; exact hl, fun p n => cV.rW r (qa.append qb) po n⟩
      · exact False.elim po
    | ref eb =>
      simp only [eO] at po
      split at po
      · rename_i b hb
        obtain ⟨ws, hw, qb⟩ := r.lst eb hb
        split at po
        · rename_i hl
          exact op_cat pins s σ H _ _ v u Q I rx ry ⟨_, _, _, _, rfl, rfl, sa.1, hw, by rw [hs, ← qa.length, ← qb.length]; exact hl, fun p n => cV.rW r (qa.append qb) po n⟩
        · exact False.elim po
      · exact False.elim po
    | _ => exact False.elim po
  | ref ea =>
    cases q with
    | lst sb qb =>
      simp only [eO] at po
      split at po
      · rename_i b hb
        obtain ⟨ws, hw, qa⟩ := r.lst ea hb
        split at po
        · rename_i hl
          exact op_cat pins s σ H _ _ v u Q I rx ry ⟨_, _, _, _, rfl, rfl, hw, sb.1, by rw [hs, ← qa.length, ← qb.length]; exact hl, fun p n => cV.rW r (qa.append qb) po n⟩
        · exact False.elim po
      · exact False.elim po
    | ref eb =>
      simp only [eO] at po
      split at po
      · rename_i b c hb hc
        obtain ⟨ws, hw, qa⟩ := r.lst ea hb
        obtain ⟨zs, hz, qb⟩ := r.lst eb hc
        split at po
        · rename_i hl
          exact op_cat pins s σ H _ _ v u Q I rx ry ⟨_, _, _, _, rfl, rfl, hw, hz, by rw [hs, ← qa.length, ← qb.length]; exact hl, fun p n => cV.rW r (qa.append qb) po n⟩
        · exact False.elim po
      · exact False.elim po
    | _ => exact False.elim po
  | tup sa qa =>
    cases q with
    | tup sb qb =>
      simp only [eO] at po
      split at po
      · rename_i hl
        refine op_catA pins s σ H _ _ v u Q I rx ry ⟨_, _, _, _, rfl, rfl, sa, sb, by rw [hs, ← qa.length, ← qb.length]; exact hl, fun e => ?_, fun _ e => ?_, fun _ _ p n => cV.Ri r (qa.append qb) po n⟩
        · subst e
          cases qa
          exact po _ _ _ .refl r (.tup sb qb)
        · subst e
          cases qb
          rw [List.append_nil] at po
          exact po _ _ _ .refl r (.tup sa qa)
      · exact False.elim po
    | _ => exact False.elim po
  | _ => exact False.elim po
def ug : O2
  | .int i, .int j, h => some (.int (i - j), h)
  | _, _, _ => none
theorem Wz : OpR X (binaryOp .Sub) (r2 X.K ug) := by
  rintro pins s σ H x y v u Q I rx ry ⟨d, e, al, h, r, p, q, po⟩
  cases p with
  | int i =>
    cases q with
    | int j => exact op_sub pins s σ H _ _ v u Q I rx ry ⟨i, j, rfl, rfl, po _ _ _ .refl r (.int _)⟩
    | _ => exact False.elim po
  | _ => exact False.elim po
theorem bD.rep {K : PySem.W.Frag} {H : Hp} {al : Al} {ds : List D} {vs : List V} (q : bD K H al ds vs) : ∀ n : Nat, bD K H al (List.replicate n ds).flatten (List.replicate n vs).flatten
  | 0 => .nil
  | n + 1 => by
    rw [List.replicate_succ, List.replicate_succ, List.flatten_cons, List.flatten_cons]
    exact q.append (bD.rep q n)
def mulM : O2
  | .int i, .int j, h => if i.natAbs.log2 + j.natAbs.log2 < 1000000 then some (.int (i * j), h) else none
  | .lst a, .int k, h => if -(2 ^ 63) ≤ k ∧ k < 2 ^ 63 ∧ a.length * k.toNat ≤ 16777216 then some (.lst (List.replicate k.toNat a).flatten, h) else none
  | .tup a, .int k, h => if 0 ≤ k ∧ k ≤ 1000 ∧ a.length ≤ 1000 then some (.tup (List.replicate k.toNat a).flatten, h) else none
  | _, _, _ => none
theorem ahw : OpR X (binaryOp .Mult) (r2 X.K mulM) := by
  have hs : sizeLine = 16777216 := sizeLine_eq
  rintro pins s σ H x y v u Q I rx ry ⟨d, e, al, h, r, p, q, po⟩
  cases p with
  | int i =>
    cases q with
    | int j =>
      simp only [mulM] at po
      split at po
      · rename_i hl
        exact op_mulW pins s σ H _ _ v u Q I rx ry ⟨i, j, rfl, rfl, hl, po _ _ _ .refl r (.int _)⟩
      · exact False.elim po
    | _ => exact False.elim po
  | lst sa qa =>
    cases q with
    | int k =>
      simp only [mulM] at po
      split at po
      · rename_i hl
        exact op_rep pins s σ H _ _ v u Q I rx ry ⟨_, k, _, rfl, rfl, sa.1, hl.1, hl.2.1, by rw [hs, ← qa.length]; exact hl.2.2, fun p n => cV.rW r (qa.rep _) po n⟩
      · exact False.elim po
    | _ => exact False.elim po
  | tup sa qa =>
    cases q with
    | int k =>
      simp only [mulM] at po
      split at po
      · rename_i hl
        refine aif I rx ry sa hl.1 hl.2.1 (by rw [← qa.length]; exact hl.2.2) (fun e => ?_) (fun p n => cV.Ri r (qa.rep _) po n)
        exact po _ _ _ .refl r (.tup sa (by
          have w := qa.rep k.toNat
          rw [e] at w
          exact w))
      · exact False.elim po
    | _ => exact False.elim po
  | _ => exact False.elim po
def qP : O2
  | .int i, .int j, h => if 0 < j ∧ j.natAbs.log2 < 9000 then some (.int (i / j), h) else none
  | _, _, _ => none
theorem Ro : OpR X (binaryOp .FloorDiv) (r2 X.K qP) := by
  rintro pins s σ H x y v u Q I rx ry ⟨d, e, al, h, r, p, q, po⟩
  cases p with
  | int i =>
    cases q with
    | int j =>
      simp only [qP] at po
      split at po
      · rename_i hl
        exact op_fdivW pins s σ H _ _ v u Q I rx ry ⟨i, j, rfl, rfl, hl, po _ _ _ .refl r (.int _)⟩
      · exact False.elim po
    | _ => exact False.elim po
  | _ => exact False.elim po
def oW : O2
  | .int i, .int j, h => if 0 < j then some (.int (i % j), h) else none
  | _, _, _ => none
theorem Av : OpR X (binaryOp .Mod) (r2 X.K oW) := by
  rintro pins s σ H x y v u Q I rx ry ⟨d, e, al, h, r, p, q, po⟩
  cases p with
  | int i =>
    cases q with
    | int j =>
      simp only [oW] at po
      split at po
      · rename_i hl
        exact op_mod pins s σ H _ _ v u Q I rx ry ⟨i, j, rfl, rfl, hl, po _ _ _ .refl r (.int _)⟩
      · exact False.elim po
    | _ => exact False.elim po
  | _ => exact False.elim po
def vC : O2
  | .int i, .int j, h => if 0 ≤ j ∧ j ≤ 1000000 ∧ i.natAbs < 2 ^ 64 then some (.int (i ^ j.toNat), h) else none
  | _, _, _ => none
theorem WD : OpR X (binaryOp .Pow) (r2 X.K vC) := by
  rintro pins s σ H x y v u Q I rx ry ⟨d, e, al, h, r, p, q, po⟩
  cases p with
  | int i =>
    cases q with
    | int j =>
      simp only [vC] at po
      split at po
      · rename_i hl
        exact op_pow pins s σ H _ _ v u Q I rx ry ⟨i, j, rfl, rfl, hl, po _ _ _ .refl r (.int _)⟩
      · exact False.elim po
    | _ => exact False.elim po
  | _ => exact False.elim po
def sG : O1
  | .int i, h => some (.int (-i), h)
  | _, _ => none
theorem FQ : UnR X (unaryOp .USub) (r1 X.K sG) := by
  rintro pins s σ H x v Q I rx ⟨d, al, h, r, p, po⟩
  cases p with
  | int i => exact un_neg pins s σ H _ v Q I rx ⟨i, rfl, po _ _ _ .refl r (.int _)⟩
  | _ => exact False.elim po
def U3 : O2
  | .int i, .int j, h => some (.bl (decide (i < j)), h)
  | .str a, .str b, h => some (.bl (decide (a.cps.toList < b.cps.toList)), h)
  | _, _, _ => none
def Dd : O2
  | .int i, .int j, h => some (.bl (decide (i ≤ j)), h)
  | .str a, .str b, h => some (.bl (!decide (b.cps.toList < a.cps.toList)), h)
  | _, _, _ => none
def U4 : O2
  | .int i, .int j, h => some (.bl (decide (j < i)), h)
  | .str a, .str b, h => some (.bl (decide (b.cps.toList < a.cps.toList)), h)
  | _, _, _ => none
def BR : O2
  | .int i, .int j, h => some (.bl (decide (j ≤ i)), h)
  | .str a, .str b, h => some (.bl (!decide (a.cps.toList < b.cps.toList)), h)
  | _, _, _ => none
theorem anu : OpR X (compareOp .Lt) (r2 X.K U3) := by
  rintro pins s σ H x y v u Q I rx ry ⟨d, e, al, h, r, p, q, po⟩
  cases p with
  | int i =>
    cases q with
    | int j => exact op_lt pins s σ H _ _ v u Q I rx ry ⟨i, j, rfl, rfl, po _ _ _ .refl r (.bl _)⟩
    | _ => exact False.elim po
  | str i =>
    cases q with
    | str j => exact op_lt_str pins s σ H _ _ v u Q I rx ry ⟨i, j, rfl, rfl, po _ _ _ .refl r (.bl _)⟩
    | _ => exact False.elim po
  | _ => exact False.elim po
theorem adQ : OpR X (compareOp .LtE) (r2 X.K Dd) := by
  rintro pins s σ H x y v u Q I rx ry ⟨d, e, al, h, r, p, q, po⟩
  cases p with
  | int i =>
    cases q with
    | int j => exact op_le pins s σ H _ _ v u Q I rx ry ⟨i, j, rfl, rfl, po _ _ _ .refl r (.bl _)⟩
    | _ => exact False.elim po
  | str i =>
    cases q with
    | str j => exact op_le_str pins s σ H _ _ v u Q I rx ry ⟨i, j, rfl, rfl, po _ _ _ .refl r (.bl _)⟩
    | _ => exact False.elim po
  | _ => exact False.elim po
theorem anv : OpR X (compareOp .Gt) (r2 X.K U4) := by
  rintro pins s σ H x y v u Q I rx ry ⟨d, e, al, h, r, p, q, po⟩
  cases p with
  | int i =>
    cases q with
    | int j => exact op_gt pins s σ H _ _ v u Q I rx ry ⟨i, j, rfl, rfl, po _ _ _ .refl r (.bl _)⟩
    | _ => exact False.elim po
  | str i =>
    cases q with
    | str j => exact op_gt_str pins s σ H _ _ v u Q I rx ry ⟨i, j, rfl, rfl, po _ _ _ .refl r (.bl _)⟩
    | _ => exact False.elim po
  | _ => exact False.elim po
theorem abm : OpR X (compareOp .GtE) (r2 X.K BR) := by
  rintro pins s σ H x y v u Q I rx ry ⟨d, e, al, h, r, p, q, po⟩
  cases p with
  | int i =>
    cases q with
    | int j => exact op_ge pins s σ H _ _ v u Q I rx ry ⟨i, j, rfl, rfl, po _ _ _ .refl r (.bl _)⟩
    | _ => exact False.elim po
  | str i =>
    cases q with
    | str j => exact op_ge_str pins s σ H _ _ v u Q I rx ry ⟨i, j, rfl, rfl, po _ _ _ .refl r (.bl _)⟩
    | _ => exact False.elim po
  | _ => exact False.elim po
mutual
def toP : D → Option PyData
  | .non => some .none
  | .bl b => some (.bool b)
  | .int i => some (.int i)
  | .str x => some (.str x)
  | .tup ds => (Df ds).map .tuple
  | .lst ds => (Df ds).map .list
  | .dD ds => (Df ds).map .list
  | _ => none
def Df : List D → Option (List PyData)
  | [] => some []
  | d :: ds => (toP d).bind fun p => (Df ds).map (p :: ·)
end
def ajV (h : AH) : D → Option PyData
  | .ref n => match h[n]? with
    | some (.lst ds) => (Df ds).map .list
    | _ => none
  | d => toP d
mutual
theorem Rp.dp {K : PySem.W.Frag} {H : Hp} {al : Al} : ∀ {d : D} {v : V} {p : PyData}, Rp K H al d v → toP d = some p → Dp K H v p
  | _, _, _, .non, e => by simp only [toP] at e; cases e; exact .non
  | _, _, _, .bl b, e => by simp only [toP] at e; cases e; exact .bl b
  | _, _, _, .int i, e => by simp only [toP] at e; cases e; exact .int i
  | _, _, _, .str x, e => by simp only [toP] at e; cases e; exact .str x
  | _, _, _, .ty _, e => by simp [toP] at e
  | _, _, _, .glo _, e => by simp [toP] at e
  | _, _, _, .ref _, e => by simp [toP] at e
  | _, _, _, .obj _ _ _, e => by simp [toP] at e
  | _, _, _, .tup s q, e => by
    simp only [toP] at e
    obtain ⟨ps, e1, e2⟩ := Option.map_eq_some_iff.mp e
    cases e2
    exact .tup s (bD.dp q e1)
  | _, _, _, .lst s q, e => by
    simp only [toP] at e
    obtain ⟨ps, e1, e2⟩ := Option.map_eq_some_iff.mp e
    cases e2
    exact .lst s.sq (bD.dp q e1)
  | _, _, _, .dD s q, e => by
    simp only [toP] at e
    obtain ⟨ps, e1, e2⟩ := Option.map_eq_some_iff.mp e
    cases e2
    exact .lst s.sq (bD.dp q e1)
theorem bD.dp {K : PySem.W.Frag} {H : Hp} {al : Al} : ∀ {ds : List D} {vs : List V} {ps : List PyData}, bD K H al ds vs → Df ds = some ps → DpAll K H vs ps
  | _, _, _, .nil, e => by simp only [Df] at e; cases e; exact .nil
  | _, _, _, .cons q qs, e => by
    simp only [Df] at e
    obtain ⟨p, e1, e2⟩ := Option.bind_eq_some_iff.mp e
    obtain ⟨ps, e3, e4⟩ := Option.map_eq_some_iff.mp e2
    cases e4
    exact .cons (Rp.dp q e1) (bD.dp qs e3)
end
def eqB (h : AH) (d e : D) : Option Bool := match ajV h d, ajV h e with
  | some p, some q => if SeqAt.shaped p = true ∧ SeqAt.shaped q = true then some (PyData.eqv p q) else none
  | _, _ => none
def eqM : O2 := fun d e h => (eqB h d e).map fun b => (.bl b, h)
def neM : O2 := fun d e h => (eqB h d e).map fun b => (.bl (!b), h)
def isNon : D → Bool
  | .non => true
  | _ => false
def zG : O2 := fun d e h => match e with
  | .non => some (.bl (isNon d), h)
  | _ => none
def qd : O2 := fun d e h => match e with
  | .non => some (.bl (!isNon d), h)
  | _ => none
theorem abn {K : PySem.W.Frag} {H : Hp} {al : Al} {d : D} {x : V} (p : Rp K H al d x) : decide (x = .non) = isNon d := by
  cases p <;> rfl
theorem adR : OpR X (compareOp .Is) (r2 X.K zG) := by
  rintro pins s σ H x y v u Q I rx ry ⟨d, e, al, h, r, p, q, po⟩
  cases q with
  | non => exact op_isN pins s σ H _ _ v u Q I rx ry ⟨rfl, po _ _ _ .refl r (by rw [abn p]; exact .bl _)⟩
  | _ => exact False.elim po
theorem Ax : OpR X (compareOp .IsNot) (r2 X.K qd) := by
  rintro pins s σ H x y v u Q I rx ry ⟨d, e, al, h, r, p, q, po⟩
  cases q with
  | non => exact op_notN pins s σ H _ _ v u Q I rx ry ⟨rfl, po _ _ _ .refl r (by rw [abn p]; exact .bl _)⟩
  | _ => exact False.elim po
def toV : D → Option V
  | .non => some .non
  | .bl b => some (.bl b)
  | .int i => some (.int i)
  | .str x => some (.str x)
  | _ => none
def yO : List D → Option (List V)
  | [] => some []
  | d :: ds => (toV d).bind fun v => (yO ds).map (v :: ·)
theorem ae6 {K : PySem.W.Frag} {H : Hp} {al : Al} {d : D} {x v : V} (p : Rp K H al d x) (e : toV d = some v) : x = v ∧ flatV v = true := by
  cases p <;> first | (cases e; exact ⟨rfl, rfl⟩) | cases e
theorem acO {K : PySem.W.Frag} {H : Hp} {al : Al} : ∀ {ds : List D} {xs vs : List V}, bD K H al ds xs → yO ds = some vs → xs = vs ∧ vs.all flatV = true
  | _, _, _, .nil, e => by cases e; exact ⟨rfl, rfl⟩
  | _, _, _, .cons q qs, e => by
    simp only [yO] at e
    obtain ⟨v, e1, e2⟩ := Option.bind_eq_some_iff.mp e
    obtain ⟨vs, e3, e4⟩ := Option.map_eq_some_iff.mp e2
    cases e4
    obtain ⟨rfl, f1⟩ := ae6 q e1
    obtain ⟨rfl, f2⟩ := acO qs e3
    exact ⟨rfl, by rw [List.all_cons, f1, f2]; rfl⟩
def inB (h : AH) (d : D) : D → Option Bool
  | .str z => match d with
    | .str ⟨⟨[c]⟩⟩ => some (decide (c ∈ z.cps.toList))
    | _ => none
  | .tup es => (toV d).bind fun v => (yO es).map fun vs => inV v vs
  | .lst es => (toV d).bind fun v => (yO es).map fun vs => inV v vs
  | _ => none
def Dg : O2 := fun d e h => (inB h d e).map fun b => (.bl b, h)
def Tz : O2 := fun d e h => (inB h d e).map fun b => (.bl (!b), h)
theorem acP {K : PySem.W.Frag} {H : Hp} {al : Al} {d : D} {x : V} {es : List D} {ys : List V} {b : Bool} (p : Rp K H al d x) (q : bD K H al es ys) (z : ((toV d).bind fun v => (yO es).map fun vs => inV v vs) = some b) : flatV x = true ∧ ys.all flatV = true ∧ inV x ys = b := by
  obtain ⟨v, e1, e2⟩ := Option.bind_eq_some_iff.mp z
  obtain ⟨vs, e3, e4⟩ := Option.map_eq_some_iff.mp e2
  obtain ⟨rfl, f1⟩ := ae6 p e1
  obtain ⟨rfl, f2⟩ := acO q e3
  exact ⟨f1, f2, e4⟩
theorem agr : OpR X (compareOp .In) (r2 X.K Dg) := by
  rintro pins s σ H x y v u Q I rx ry ⟨d, e, al, h, r, p, q, po⟩
  unfold Dg at po
  cases z : inB h d e with
  | none => rw [z] at po; exact False.elim po
  | some b =>
    rw [z] at po
    cases q with
    | str w =>
      simp only [inB] at z
      split at z
      · cases z
        cases p
        exact op_in_sign pins s σ H _ _ v u Q I rx ry ⟨_, w, rfl, rfl, po _ _ _ .refl r (.bl _)⟩
      · cases z
    | tup sq q =>
      simp only [inB] at z
      obtain ⟨f1, f2, rfl⟩ := acP p q z
      exact op_in_seq pins s σ H _ _ v u Q I rx ry ⟨_, _, rfl, .inr sq, f1, f2, po _ _ _ .refl r (.bl _)⟩
    | lst sq q =>
      simp only [inB] at z
      obtain ⟨f1, f2, rfl⟩ := acP p q z
      exact op_in_seq pins s σ H _ _ v u Q I rx ry ⟨_, _, rfl, .inl sq.sq, f1, f2, po _ _ _ .refl r (.bl _)⟩
    | _ => simp [inB] at z
end
end PD
namespace PD
open PySem PySem.Spec PyProof.Rows L2
section
variable {X : Cx} {W : WX} {K : PySem.W.Frag} {H : Hp} {al : Al} {h : AH}
def jc : ON
  | [.str x], h => if x.length ≤ 16777216 then some (.int (x.length : Nat), h) else none
  | [.lst ds], h => some (.int (ds.length : Nat), h)
  | [.dD ds], h => some (.int (ds.length : Nat), h)
  | [.tup ds], h => some (.int (ds.length : Nat), h)
  | [.ref n], h => match h[n]? with
    | some (.lst ds) => some (.int (ds.length : Nat), h)
    | some (.dict kvs) => some (.int (kvs.length : Nat), h)
    | _ => none
  | _, _ => none
theorem qQ : CallR X (.builtin "len") (rN X.K jc) := by
  have hs : sizeLine = 16777216 := sizeLine_eq
  rintro pins s σ H xs us Q I rv ⟨ds, al, h, r, p, po⟩
  cases p with
  | nil => exact False.elim po
  | cons q qs =>
    cases qs with
    | cons _ _ => cases q <;> exact False.elim po
    | nil =>
      cases q with
      | str x =>
        simp only [jc] at po
        split at po
        · rename_i hl
          exact call_len_str pins s σ H _ us Q I rv ⟨x, rfl, by rw [hs]; exact hl, po _ _ _ .refl r (.int _)⟩
        · exact False.elim po
      | lst sq q => exact call_len_seq pins s σ H _ us Q I rv ⟨_, _, rfl, .inl sq.sq, by rw [← q.length]; exact po _ _ _ .refl r (.int _)⟩
      | dD sq q => exact call_len_seq pins s σ H _ us Q I rv ⟨_, _, rfl, .inl sq.sq, by rw [← q.length]; exact po _ _ _ .refl r (.int _)⟩
      | tup sq q => exact call_len_seq pins s σ H _ us Q I rv ⟨_, _, rfl, .inr sq, by rw [← q.length]; exact po _ _ _ .refl r (.int _)⟩
      | ref z =>
        obtain ⟨c, hc, ok⟩ := r.cell z
        simp only [jc, hc] at po
        cases c with
        | lst ds =>
          obtain ⟨vs, e, q⟩ := ok
          exact call_len_seq pins s σ H _ us Q I rv ⟨_, _, rfl, .inl (SqL.of e), by rw [← q.length]; exact po _ _ _ .refl r (.int _)⟩
        | dict kvs =>
          obtain ⟨ws, e, k, q⟩ := ok
          have hl : ws.length = kvs.length := by simpa using congrArg List.length k
          exact call_lenD pins s σ H _ us Q I rv ⟨_, ws, rfl, e, by rw [hl]; exact po _ _ _ .refl r (.int _)⟩
        | ins _ _ => exact False.elim po
        | gU _ => exact False.elim po
      | _ => exact False.elim po
theorem bD.atI {ds : List D} {vs : List V} {i : Int} {d : D} (q : bD K H al ds vs) (e : L2.atI ds i = some d) : ∃ v, L2.atI vs i = some v ∧ Rp K H al d v := by
  unfold L2.atI at e ⊢
  rw [← q.length]
  cases z : ixN ds.length i with
  | none => rw [z] at e; cases e
  | some j =>
    rw [z] at e
    exact q.get e
def yr : O2
  | .lst ds, .int i, h => (L2.atI ds i).map fun d => (d, h)
  | .dD ds, .int i, h => (L2.atI ds i).map fun d => (d, h)
  | .tup ds, .int i, h => (L2.atI ds i).map fun d => (d, h)
  | .str z, .int i, h => if z.length ≤ 16777216 then (L2.atI z.cps.toList i).map fun c => (.str ⟨#[c]⟩, h) else none
  | .ref n, .int i, h => match h[n]? with
    | some (.lst ds) => (L2.atI ds i).map fun d => (d, h)
    | _ => none
  | _, _, _ => none
theorem ajW : IxR X (r2 X.K yr) := by
  have hs : sizeLine = 16777216 := sizeLine_eq
  rintro value slice pins s σ H x y v u Q I rx ry ⟨d, e, al, h, r, p, q, po⟩ hsl
  cases q with
  | int i =>
    cases p with
    | lst sq q =>
      simp only [yr] at po
      cases z : L2.atI _ i with
      | none => rw [z] at po; exact False.elim po
      | some d =>
        rw [z] at po
        obtain ⟨w, e1, e2⟩ := q.atI z
        exact ix_list value slice pins s σ H _ _ v u Q I rx ry ⟨_, _, i, w, rfl, rfl, sq.sq, e1, po _ _ _ .refl r e2⟩ hsl
    | dD sq q =>
      simp only [yr] at po
      cases z : L2.atI _ i with
      | none => rw [z] at po; exact False.elim po
      | some d =>
        rw [z] at po
        obtain ⟨w, e1, e2⟩ := q.atI z
        exact ix_list value slice pins s σ H _ _ v u Q I rx ry ⟨_, _, i, w, rfl, rfl, sq.sq, e1, po _ _ _ .refl r e2⟩ hsl
    | tup sq q =>
      simp only [yr] at po
      cases z : L2.atI _ i with
      | none => rw [z] at po; exact False.elim po
      | some d =>
        rw [z] at po
        obtain ⟨w, e1, e2⟩ := q.atI z
        exact ix_tup value slice pins s σ H _ _ v u Q I rx ry ⟨_, _, i, w, rfl, rfl, sq, e1, po _ _ _ .refl r e2⟩ hsl
    | str w =>
      simp only [yr] at po
      split at po
      · rename_i hl
        cases z : L2.atI w.cps.toList i with
        | none => rw [z] at po; exact False.elim po
        | some c =>
          rw [z] at po
          exact ix_str value slice pins s σ H _ _ v u Q I rx ry ⟨w, i, c, rfl, rfl, by rw [hs]; exact hl, z, po _ _ _ .refl r (.str _)⟩ hsl
      · exact False.elim po
    | ref ea =>
      obtain ⟨c, hc, ok⟩ := r.cell ea
      simp only [yr, hc] at po
      cases c with
      | lst ds =>
        obtain ⟨vs, e, q⟩ := ok
        dsimp only at po
        cases z : L2.atI ds i with
        | none => rw [z] at po; exact False.elim po
        | some d =>
          rw [z] at po
          obtain ⟨w, e1, e2⟩ := q.atI z
          exact ix_list value slice pins s σ H _ _ v u Q I rx ry ⟨_, _, i, w, rfl, rfl, SqL.of e, e1, po _ _ _ .refl r e2⟩ hsl
      | _ => exact False.elim po
    | _ => exact False.elim po
  | _ => cases p <;> exact False.elim po
abbrev MO := En → AH → Res (Option Int)
def rB : MO := fun _ h => .ok none h
def gY (f : ME) : MO := fun e h => (f e h).bind fun d h1 => match d with
  | .int i => .ok (some i) h1
  | _ => .stuck
def rdO (K : PySem.W.Frag) (W : WX) (f : MO) : TO := fun st H Q => ∃ e al h, HR K H al h ∧ fW K H al e st ∧ bL K (fun _ _ (b c : Option Int) => b = c) H al (fun c d H' => W c d st H') Q (f e h)
theorem _root_.L2.PO.weak {e : Option Expr} {t t' : TO} (h : PO X e t) (i : ∀ σ H Q, t' σ H Q → t σ H Q) : PO X e t' := ⟨fun pins s σ H Q I q => h.run pins s σ H Q I (i _ _ _ q)⟩
theorem Dh : PO X none (rdO X.K W rB) := po_none.weak fun σ H Q ⟨e, al, h, r, re, p⟩ => p none H al .refl r rfl
theorem qH {a : Expr} {fa : ME} (ha : PE X a (rd X.K W fa)) : PO X (some a) (rdO X.K W (gY fa)) := (po_some ha).weak fun σ H Q ⟨e, al, h, r, re, p⟩ => by
  refine ⟨e, al, h, r, re, (bL.bind p).mono ?_⟩
  rintro v H1 ⟨d, aZ, h1, l, r1, q, p1⟩
  cases q with
  | int i => exact ⟨i, rfl, p1 _ _ _ .refl r1 rfl⟩
  | _ => exact p1.elim
def cutD {α : Type} (xs : List α) (lo hi : Option Int) : List α := (xs.drop (HT.sIx xs.length 0 lo)).take (HT.sIx xs.length xs.length hi - HT.sIx xs.length 0 lo)
def tH : D → Option Int → Option Int → AH → Option (D × AH)
  | .str z, lo, hi, h => if z.length ≤ 16777216 then some (.str (cutS z lo hi), h) else none
  | .lst ds, lo, hi, h => some (.lst (cutD ds lo hi), h)
  | .dD ds, lo, hi, h => some (.lst (cutD ds lo hi), h)
  | .tup ds, lo, hi, h => some (.tup (cutD ds lo hi), h)
  | .ref n, lo, hi, h => match h[n]? with
    | some (.lst ds) => some (.lst (cutD ds lo hi), h)
    | _ => none
  | _, _, _, _ => none
theorem bD.cut {ds : List D} {vs : List V} (q : bD K H al ds vs) (lo hi : Option Int) : bD K H al (cutD ds lo hi) (cutV vs lo hi) := by
  unfold cutD cutV
  rw [← q.length]
  exact (q.drop _).take _
def rSl (K : PySem.W.Frag) : V → Option Int → Option Int → Hp → VK → Prop := fun x lo hi H Q => ∃ d al h, HR K H al h ∧ Rp K H al d x ∧ cV K H al Q (tH d lo hi h)
theorem anw : SlR X (rSl X.K) := by
  have hs : sizeLine = 16777216 := sizeLine_eq
  rintro pins s σ H x v vl vu lo hi sl Q I rx hsl pl pu ⟨d, al, h, r, p, po⟩
  cases p with
  | str z =>
    simp only [tH] at po
    split at po
    · rename_i hl
      exact sl_str pins s σ H _ v vl vu lo hi sl Q I rx hsl pl pu ⟨z, rfl, by rw [hs]; exact hl, po _ _ _ .refl r (.str _)⟩
    · exact False.elim po
  | lst sq q => exact sl_list pins s σ H _ v vl vu lo hi sl Q I rx hsl pl pu ⟨_, _, rfl, sq.sq, fun p n => cV.rW r (q.cut lo hi) po n⟩
  | dD sq q => exact sl_list pins s σ H _ v vl vu lo hi sl Q I rx hsl pl pu ⟨_, _, rfl, sq.sq, fun p n => cV.rW r (q.cut lo hi) po n⟩
  | tup sq q =>
    refine sl_tupA pins s σ H _ v vl vu lo hi sl Q I rx hsl pl pu ⟨_, _, rfl, sq, fun w => ?_, fun _ p n => cV.Ri r (q.cut lo hi) po n⟩
    refine po _ _ _ .refl r ?_
    have e : ∀ {α : Type} {xs : List α}, HT.sIx xs.length 0 lo = 0 ∧ HT.sIx xs.length xs.length hi = xs.length → cutD xs lo hi = xs := fun h => by
      unfold cutD
      rw [h.1, h.2]
      simp
    rw [← q.length] at w
    rw [e w]
    exact .tup sq q
  | ref ea =>
    obtain ⟨c, hc, ok⟩ := r.cell ea
    simp only [tH, hc] at po
    cases c with
    | lst ds =>
      obtain ⟨vs, e, q⟩ := ok
      exact sl_list pins s σ H _ v vl vu lo hi sl Q I rx hsl pl pu ⟨_, _, rfl, SqL.of e, fun p n => cV.rW r (q.cut lo hi) po n⟩
    | _ => exact False.elim po
  | _ => exact False.elim po
def qI (fa : ME) (lo hi : MO) : ME := fun e h => (fa e h).bind fun d h1 => (lo e h1).bind fun l h2 => (hi e h2).bind fun u h3 => CK (tH d l u h3)
theorem Ay {a : Expr} {lo hi : Option Expr} {fa : ME} {fl fu : MO} {p2 pos : Pos} (ha : PE X a (rd X.K W fa)) (hl : PO X lo (rdO X.K W fl)) (hh : PO X hi (rdO X.K W fu)) : PE X (.Subscript a (.Slice lo hi none p2) pos) (rd X.K W (qI fa fl fu)) :=
  (pe_slice anw ha hl hh).weak fun σ H Q ⟨e, al, h, r, re, p⟩ => by
    refine ⟨e, al, h, r, re, (bL.bind p).mono ?_⟩
    rintro v H1 ⟨d, aZ, h1, l1, r1, q, p1⟩
    refine ⟨e, aZ, h1, r1, re.mono r l1, (bL.bind p1).mono ?_⟩
    rintro lo' H2 ⟨d2, cZ, h2, l2, r2, q2, p2⟩
    subst q2
    refine ⟨e, cZ, h2, r2, (re.mono r l1).mono r1 l2, (bL.bind p2).mono ?_⟩
    rintro hi' H3 ⟨d3, UL, h3, l3, r3, q3, p3⟩
    subst q3
    exact ⟨d, UL, h3, r3, (q.mono r1 l2).mono r2 l3, cV.of p3⟩
def dI : List D → Option (List Bool)
  | [] => some []
  | .bl b :: ds => (dI ds).map (b :: ·)
  | _ => none
def intsOf : List D → Option (List Int)
  | [] => some []
  | .int i :: ds => (intsOf ds).map (i :: ·)
  | _ => none
def strsOf : List D → Option (List Str)
  | [] => some []
  | .str i :: ds => (strsOf ds).map (i :: ·)
  | _ => none
theorem Iu : ∀ {ds : List D} {vs : List V} {bs : List Bool}, bD K H al ds vs → dI ds = some bs → vs = bs.map V.bl
  | _, _, _, .nil, e => by cases e; rfl
  | _, _, _, .cons q qs, e => by
    cases q with
    | bl b =>
      simp only [dI] at e
      obtain ⟨cs, e1, e2⟩ := Option.map_eq_some_iff.mp e
      cases e2
      rw [Iu qs e1]
      rfl
    | _ => cases e
theorem acQ : ∀ {ds : List D} {vs : List V} {bs : List Int}, bD K H al ds vs → intsOf ds = some bs → vs = bs.map V.int
  | _, _, _, .nil, e => by cases e; rfl
  | _, _, _, .cons q qs, e => by
    cases q with
    | int b =>
      simp only [intsOf] at e
      obtain ⟨cs, e1, e2⟩ := Option.map_eq_some_iff.mp e
      cases e2
      rw [acQ qs e1]
      rfl
    | _ => cases e
theorem acR : ∀ {ds : List D} {vs : List V} {bs : List Str}, bD K H al ds vs → strsOf ds = some bs → vs = bs.map V.str
  | _, _, _, .nil, e => by cases e; rfl
  | _, _, _, .cons q qs, e => by
    cases q with
    | str b =>
      simp only [strsOf] at e
      obtain ⟨cs, e1, e2⟩ := Option.map_eq_some_iff.mp e
      cases e2
      rw [acR qs e1]
      rfl
    | _ => cases e
def mD (o : List D → AH → Option (D × AH)) : ON
  | [.lst ds], h => o ds h
  | _, _ => none
theorem TF {o : List D → AH → Option (D × AH)} {xs : List V} {Q : VK} (p : rN K (mD o) xs H Q) : ∃ a ds vs al h, xs = [.ref a] ∧ HR K H al h ∧ SqL K H a vs ∧ bD K H al ds vs ∧ cV K H al Q (o ds h) := by
  obtain ⟨ds, al, h, r, p, po⟩ := p
  cases p with
  | nil => exact False.elim po
  | cons q qs =>
    cases qs with
    | cons _ _ => cases q <;> exact False.elim po
    | nil =>
      cases q with
      | lst sq q => exact ⟨_, _, _, al, h, rfl, r, sq.sq, q, po⟩
      | _ => exact False.elim po
def allM : ON := mD fun ds h => (dI ds).map fun bs => (.bl (bs.all id), h)
def anyM : ON := mD fun ds h => (dI ds).map fun bs => (.bl (bs.any id), h)
def abo : ON := mD fun ds h => (intsOf ds).map fun bs => (.int bs.sum, h)
theorem Rq (hc : X.calm = true) : CallR X (.builtin "all") (rN X.K allM) := by
  rintro pins s σ H xs us Q I rv p
  obtain ⟨a, ds, vs, al, h, rfl, r, sq, q, po⟩ := TF p
  cases z : dI ds with
  | none => rw [z] at po; exact False.elim po
  | some bs =>
    rw [z] at po
    rw [Iu q z] at sq
    exact cr_all hc pins s σ H _ us Q I rv ⟨a, bs, rfl, sq, po _ _ _ .refl r (.bl _)⟩
theorem alR (hc : X.calm = true) : CallR X (.builtin "any") (rN X.K anyM) := by
  rintro pins s σ H xs us Q I rv p
  obtain ⟨a, ds, vs, al, h, rfl, r, sq, q, po⟩ := TF p
  cases z : dI ds with
  | none => rw [z] at po; exact False.elim po
  | some bs =>
    rw [z] at po
    rw [Iu q z] at sq
    exact cr_any hc pins s σ H _ us Q I rv ⟨a, bs, rfl, sq, po _ _ _ .refl r (.bl _)⟩
theorem ahy (hc : X.calm = true) : CallR X (.builtin "sum") (rN X.K abo) := by
  rintro pins s σ H xs us Q I rv p
  obtain ⟨a, ds, vs, al, h, rfl, r, sq, q, po⟩ := TF p
  cases z : intsOf ds with
  | none => rw [z] at po; exact False.elim po
  | some bs =>
    rw [z] at po
    rw [acQ q z] at sq
    exact cr_sum hc pins s σ H _ us Q I rv ⟨a, bs, rfl, sq, po _ _ _ .refl r (.int _)⟩
def iy : ON
  | [.int i], h => some (.int i, h)
  | [.bl b], h => some (.int (if b then 1 else 0), h)
  | _, _ => none
theorem vQ : CallR X (.type "int") (rN X.K iy) := by
  rintro pins s σ H xs us Q I rv ⟨ds, al, h, r, p, po⟩
  cases p with
  | nil => exact False.elim po
  | cons q qs =>
    cases qs with
    | cons _ _ => cases q <;> exact False.elim po
    | nil =>
      cases q with
      | int i => exact call_int1 pins s σ H _ us Q I rv (.inl ⟨i, rfl, po _ _ _ .refl r (.int _)⟩)
      | bl b => exact call_int1 pins s σ H _ us Q I rv (.inr ⟨b, rfl, po _ _ _ .refl r (.int _)⟩)
      | _ => exact False.elim po
end
end PD
namespace PD
open PySem PySem.Spec PyProof.Rows L2
section
variable {X : Cx} {W : WX} {K : PySem.W.Frag} {H : Hp} {al : Al} {h : AH}
def BW : D → AH → Option (String ⊕ Str)
  | .non, _ => some (.inl "NoneType")
  | .bl _, _ => some (.inl "bool")
  | .int _, _ => some (.inl "int")
  | .str _, _ => some (.inl "str")
  | .tup _, _ => some (.inl "tuple")
  | .lst _, _ => some (.inl "list")
  | .dD _, _ => some (.inl "list")
  | .obj c _, _ => some (.inr c)
  | .ref n, h => match h[n]? with
    | some (.lst _) => some (.inl "list")
    | some (.dict _) => some (.inl "dict")
    | some (.ins c _) => some (.inr c)
    | some (.gU _) => none
    | none => none
  | _, _ => none
structure Isa where
  oo : Str → Str → Option Bool
  to : String → Str → Option Bool
  ot : Str → String → Option Bool
structure Isa.Ok (I : Isa) (K : PySem.W.Frag) : Prop where
  oo : ∀ c g b, I.oo c g = some b → PySem.W.kitOne K (.ref (He.ga K c)) (.ref (He.ga K g)) = some b ∧ GB.z9 K (He.ga K c) = true ∧ Cls K (He.ga K c)
  to : ∀ t g b, I.to t g = some b → PySem.W.kitOne K (.type t) (.ref (He.ga K g)) = some b
  ot : ∀ c n b, I.ot c n = some b → PySem.W.kitOne K (.ref (He.ga K c)) (.type n) = some b ∧ GB.z9 K (He.ga K c) = true ∧ Cls K (He.ga K c)
def TJ (I : Isa) : Option (String ⊕ Str) → D → Option Bool
  | some (.inl t), .ty n => kitB t n
  | some (.inl t), .glo g => I.to t g
  | some (.inr c), .glo g => I.oo c g
  | some (.inr c), .ty n => I.ot c n
  | _, _ => none
def qj (I : Isa) : ON
  | [d, c], h => (TJ I (BW d h) c).map fun b => (.bl b, h)
  | _, _ => none
theorem acT {d : D} {x : V} {t : String} (r : HR K H al h) (p : Rp K H al d x) (e : BW d h = some (.inl t)) : TyX K H x (.type t) := by
  cases p with
  | non => cases e; exact .base .non
  | bl b => cases e; exact .base (.bl b)
  | int i => cases e; exact .base (.int i)
  | str x => cases e; exact .base (.str x)
  | ty n => cases e
  | glo x => cases e
  | tup s q =>
    cases e
    rcases s with (s | ⟨o, s⟩) | ⟨o, its, n, e1, e2, _⟩
    · exact .base (.tup s)
    · exact .fTuple s
    · exact .kTuple e1 e2
  | lst s q => cases e; exact .base (.lst s.1)
  | dD s q =>
    cases e
    rcases s with ⟨o, s, _⟩ | ⟨o, its, n, e1, e2, _⟩
    · exact .base (.frz s)
    · exact .kList e1 e2
  | obj _ _ _ => cases e
  | ref z =>
    obtain ⟨c, hc, ok⟩ := r.cell z
    simp only [BW, hc] at e
    cases c with
    | lst ds =>
      cases e
      obtain ⟨vs, e1, _⟩ := ok
      exact .base (.lst e1)
    | dict kvs =>
      cases e
      obtain ⟨vs, e1, _⟩ := ok
      exact .base (.dK e1)
    | ins c fs => cases e
    | gU kvs => cases e
theorem acU {d : D} {x : V} {c : Str} (r : HR K H al h) (p : Rp K H al d x) (e : BW d h = some (.inr c)) (hi : GB.z9 K (He.ga K c) = true) (hc : Cls K (He.ga K c)) : TyX K H x (.ref (He.ga K c)) := by
  cases p with
  | obj e1 _ _ => cases e; exact GB.acI hi hc e1
  | ref z =>
    obtain ⟨c', hc', ok⟩ := r.cell z
    simp only [BW, hc'] at e
    cases c' with
    | ins c fs =>
      cases e
      obtain ⟨dx, gs, e1, _⟩ := ok
      exact GB.acI hi hc e1
    | _ => cases e
  | _ => cases e
theorem FW {I : Isa} (ok : I.Ok X.K) : CallR X (.builtin "isinstance") (rN X.K (qj I)) := by
  rintro pins s σ H xs us Q Iv rv ⟨ds, al, h, r, p, po⟩
  match ds, p with
  | [], .nil => exact False.elim po
  | [_], .cons _ .nil => exact False.elim po
  | _ :: _ :: _ :: _, .cons _ (.cons _ (.cons _ _)) => exact False.elim po
  | [d, c], .cons q (.cons q2 .nil) =>
    simp only [qj] at po
    cases z : TJ I (BW d h) c with
    | none => rw [z] at po; exact False.elim po
    | some b =>
      rw [z] at po
      have fin : ∀ t u, ClsV _ u → TyX X.K H _ t → PySem.W.kitOne X.K t u = some b → _ := fun t u h1 h2 h3 => call_isi pins s σ H _ us Q Iv rv ⟨_, _, t, u, b, rfl, h1, h2, h3, po _ _ _ .refl r (.bl _)⟩
      cases e : BW d h with
      | none => rw [e] at z; cases c <;> cases z
      | some y =>
        rw [e] at z
        cases y with
        | inl t =>
          cases q2 with
          | ty n => exact fin _ _ (.ty n) (acT r q e) (kit_ty z)
          | glo g => exact fin _ _ (.own _) (acT r q e) (ok.to _ _ _ z)
          | _ => cases z
        | inr c' =>
          cases q2 with
          | ty n =>
            obtain ⟨z1, z2, z3⟩ := ok.ot _ _ _ z
            exact fin _ _ (.ty n) (acU r q e z2 z3) z1
          | glo g =>
            obtain ⟨z1, z2, z3⟩ := ok.oo _ _ _ z
            exact fin _ _ (.own _) (acU r q e z2 z3) z1
          | _ => cases z
abbrev OM := D → List D → AH → Option (D × AH)
def rM (K : PySem.W.Frag) (o : OM) : V → List V → Hp → VK → Prop := fun x xs H Q => ∃ d ds al h, HR K H al h ∧ Rp K H al d x ∧ bD K H al ds xs ∧ cV K H al Q (o d ds h)
def isT : String → D → AH → Bool
  | "list", .lst _, _ => true
  | "list", .dD _, _ => true
  | "str", .str _, _ => true
  | T, .ref n, h => match h[n]? with
    | some (.lst _) => T == "list"
    | some (.dict _) => T == "dict"
    | _ => false
  | _, _, _ => false
theorem ae7 {T : String} {d : D} {x : V} (r : HR K H al h) (p : Rp K H al d x) (e : isT T d h = true) : tyV K T x H := by
  unfold isT at e
  split at e
  · cases p with | lst s q => exact .inl ⟨rfl, _, s.sq⟩
  · cases p with | dD s q => exact .inl ⟨rfl, _, s.sq⟩
  · cases p with | str x => rfl
  · cases p with
    | ref z =>
      obtain ⟨c, hc, ok⟩ := r.cell z
      rw [hc] at e
      cases c with
      | lst ds =>
        obtain ⟨vs, e1, _⟩ := ok
        exact .inl ⟨beq_iff_eq.mp e, vs, SqL.of e1⟩
      | dict kvs =>
        obtain ⟨vs, e1, _⟩ := ok
        exact .inr (.inr (.inl ⟨beq_iff_eq.mp e, .inl ⟨vs, e1⟩⟩))
      | ins c fs => cases e
      | gU kvs => cases e
  · cases e
def jJ (T : String) (o : OM) (fo : ME) (fa : MA) : ME := fun e h => (fo e h).bind fun d h1 => if isT T d h1 = true then (fa e h1).bind fun ds h2 => CK (o d ds h2) else .stuck
theorem Di {o e : Expr} {es : List Expr} {fo : ME} {fa : MA} {name : Str} {apos cpos : Pos} {T id : String} {om : OM} (pa : PlainAttrs T) (slot : Slot T name id) (hty : typeOf (.builtin id) = pure (.type "method_descriptor")) (hm : MtR X id (rM X.K om)) (ho : PE X o (rd X.K W fo)) (ha : PA X (e :: es) (kW X.K W fa))
    (hbase : attributeBase o name X.env (eval o X.env) = eval o X.env := by rfl)
    (hfew : ((backTo cpos (starEach (e :: es) X.env)).all (fun x => !x.1) && (backToKw cpos (keywordEach [] X.env)).all (fun x => x.1.isSome)
      && decide ((e :: es).length + ([] : List Keyword).length + (if ([] : List Keyword).isEmpty then 0 else 1) < 30)) = true := by rfl)
    (hline : (apos.endLine == cpos.line) = true := by rfl) (hs : starEach (e :: es) X.env = (false, eval e X.env) :: starEach es X.env := by rfl) (hplain : (backTo cpos (starEach es X.env)).any (·.1) = false := by rfl) :
    PE X (.Call (.Attribute o name apos) (e :: es) [] cpos) (rd X.K W (jJ T om fo fa)) :=
  (pe_bm pa slot hty hm ho (GB.PA.cl ha) hbase hfew hline hs hplain).weak fun σ H Q ⟨en, al, h, r, re, p⟩ => by
    refine ⟨en, al, h, r, re, (bL.bind p).mono ?_⟩
    rintro v H1 ⟨d, aZ, h1, l1, r1, q, p1⟩
    split at p1
    · rename_i hT
      refine ⟨ae7 r1 q hT, _, ⟨en, aZ, h1, r1, re.mono r l1, bL.bind p1⟩, ?_⟩
      rintro vs H2 ⟨ds, cZ, h2, l2, r2, q2, p2⟩
      exact ⟨d, ds, cZ, h2, r2, q.mono r1 l2, q2, cV.of p2⟩
    · exact p1.elim
def sJ : OM
  | .ref n, [y], h => match h[n]? with
    | some (.lst xs) => if xs.length < 16777216 then some (.non, h.set n (.lst (xs ++ [y]))) else none
    | _ => none
  | _, _, _ => none
theorem m_append : MtR X "list.append" (rM X.K sJ) := by
  have hs : sizeLine = 16777216 := sizeLine_eq
  rintro pins s σ H x xs v us Q I rx rv ⟨d, ds, al, h, r, p, q, po⟩
  match ds, q with
  | [], .nil => cases p <;> exact False.elim po
  | _ :: _ :: _, .cons _ (.cons _ _) => cases p <;> exact False.elim po
  | [y], .cons q .nil =>
    cases p with
    | ref z =>
      obtain ⟨c, hc, ok⟩ := r.cell z
      simp only [sJ, hc] at po
      cases c with
      | lst ys =>
        obtain ⟨vs, e1, qs⟩ := ok
        dsimp only at po
        split at po
        · rename_i hl
          refine mt_append pins s σ H _ _ v us Q I rx rv ⟨_, vs, _, rfl, rfl, e1, by rw [← qs.length, hs]; exact hl, ?_⟩
          obtain ⟨r3, l3⟩ := r.put (o := .lst (vs ++ [_])) (c := .lst (ys ++ [y])) z fun H' aQ l' e' => ⟨_, e', (qs.mono r l').append (.cons (q.mono r l') .nil)⟩
          exact po _ _ _ l3 r3 .non
        · exact False.elim po
      | _ => exact False.elim po
    | _ => exact False.elim po
theorem Iw {o e : Expr} {fo : ME} {fa : MA} {apos cpos : Pos} (ho : PE X o (rd X.K W fo)) (ha : PA X [e] (kW X.K W fa))
    (hbase : attributeBase o "append" X.env (eval o X.env) = eval o X.env := by rfl)
    (hfew : ((backTo cpos (starEach [e] X.env)).all (fun x => !x.1) && (backToKw cpos (keywordEach [] X.env)).all (fun x => x.1.isSome)
      && decide ([e].length + ([] : List Keyword).length + (if ([] : List Keyword).isEmpty then 0 else 1) < 30)) = true := by rfl)
    (hline : (apos.endLine == cpos.line) = true := by rfl) (hs : starEach [e] X.env = [(false, eval e X.env)] := by rfl) (hplain : (backTo cpos (starEach [] X.env)).any (·.1) = false := by rfl) :
    PE X (.Call (.Attribute o "append" apos) [e] [] cpos) (rd X.K W (jJ "list" sJ fo fa)) :=
  Di PySem.F.plainAttrs_list PySem.F.slot_list_append PySem.F.type_list_append m_append ho ha hbase hfew hline hs hplain
def joinM : OM
  | .str a, [.lst ds], h => match strsOf ds with
    | some ys => if (ys.map (·.length)).sum + ys.length * a.length ≤ 16777216 then some (.str (Txt.join a ys), h) else none
    | none => none
  | _, _, _ => none
theorem m_join : MtR X "str.join" (rM X.K joinM) := by
  rintro pins s σ H x xs v us Q I rx rv ⟨d, ds, al, h, r, p, q, po⟩
  match ds, q with
  | [], .nil => cases p <;> exact False.elim po
  | y :: _ :: _, .cons _ (.cons _ _) => cases p <;> cases y <;> exact False.elim po
  | [y], .cons q .nil =>
    cases p with
    | str a =>
      cases q with
      | lst sq q =>
        simp only [joinM] at po
        split at po
        · rename_i ys hy
          split at po
          · rename_i hl
            have e := acR q hy
            subst e
            exact mt_join pins s σ H _ _ v us Q I rx rv ⟨a, _, ys, rfl, rfl, .inl sq.sq, hl, po _ _ _ .refl r (.str _)⟩
          · exact False.elim po
        · exact False.elim po
      | _ => exact False.elim po
    | _ => cases q <;> exact False.elim po
theorem ajX {o e : Expr} {fo : ME} {fa : MA} {apos cpos : Pos} (ho : PE X o (rd X.K W fo)) (ha : PA X [e] (kW X.K W fa))
    (hbase : attributeBase o "join" X.env (eval o X.env) = eval o X.env := by rfl)
    (hfew : ((backTo cpos (starEach [e] X.env)).all (fun x => !x.1) && (backToKw cpos (keywordEach [] X.env)).all (fun x => x.1.isSome)
      && decide ([e].length + ([] : List Keyword).length + (if ([] : List Keyword).isEmpty then 0 else 1) < 30)) = true := by rfl)
    (hline : (apos.endLine == cpos.line) = true := by rfl) (hs : starEach [e] X.env = [(false, eval e X.env)] := by rfl) (hplain : (backTo cpos (starEach [] X.env)).any (·.1) = false := by rfl) :
    PE X (.Call (.Attribute o "join" apos) [e] [] cpos) (rd X.K W (jJ "str" joinM fo fa)) :=
  Di PySem.F.plainAttrs_str PySem.F.slot_str_join PySem.F.type_str_join m_join ho ha hbase hfew hline hs hplain
def Az (n : Nat) (i : Int) (v : D) (h : AH) : Option AH := match h[n]? with
  | some (.lst xs) => (ixN xs.length i).map fun j => h.set n (.lst (xs.set j v))
  | _ => none
def FZ (fo fi : ME) : MG := fun v e h => (fo e h).bind fun o h1 => (fi e h1).bind fun i h2 => match o, i with
  | .ref n, .int k => match Az n k v h2 with
    | some h3 => .ok e h3
    | none => .stuck
  | _, _ => .stuck
end
end PD
namespace PD
open PySem PySem.Spec PyProof.Rows L2
section
variable {X : Cx} {W : WX} {K : PySem.W.Frag} {H : Hp} {al : Al} {h : AH}
structure KTab (K : PySem.W.Frag) (w : World) (x : Str) (tab : Str → Option (Option D)) : Prop where
  kd : ∃ es n, KDict K w (He.ga K x) es n
  hit : ∀ k d, tab k = some (some d) → ∃ u v, PySem.W.nsIn K (He.ga K x) k = some (some u) ∧ RelV v u ∧ ∀ H al, Rp K H al d v
  miss : ∀ k, tab k = some none → PySem.W.nsIn K (He.ga K x) k = some none
def uK (tab : Str → Option (Option D)) (k z : D) (h : AH) : Res D := match k with
  | .str k => match tab k with
    | some (some d) => .ok d h
    | some none => .ok z h
    | none => .stuck
  | _ => .stuck
def uL (tab : Str → Option (Option D)) (fk fz : ME) : ME := fun e h => (fk e h).bind fun k h1 => (fz e h1).bind fun z h2 => uK tab k z h2
theorem ajY {x : Str} {tab : Str → Option (Option D)} {e f : Expr} {fk fz : ME} {p apos cpos : Pos} (T : KTab X.K X.w x tab) (hg : Gl X x) (hmg : X.mg x = some (.ref (He.ga X.K x))) (he : PE X e (rd X.K W fk)) (hf : PE X f (rd X.K W fz)) (m : M2 X (.Name x p) "get" apos e f cpos) (hdb : (x == ("__debug__" : Str)) = false := by decide) :
    PE X (.Call (.Attribute (.Name x p) "get" apos) [e, f] [] cpos) (rd X.K W (uL tab fk fz)) :=
  (GB.ah0 (pe_glob (v := .ref (He.ga X.K x)) hg hmg rfl hdb) he hf m).weak fun σ H Q ⟨en, al, h, r, re, po⟩ => by
    obtain ⟨es, n, kd⟩ := T.kd
    refine ⟨_, es, n, rfl, kd, en, al, h, r, re, (bL.bind po).mono ?_⟩
    rintro v H1 ⟨d, aZ, h1, l1, r1, q, p1⟩
    refine ⟨en, aZ, h1, r1, re.mono r l1, (bL.bind p1).mono ?_⟩
    rintro z H2 ⟨d2, cZ, h2, l2, r2, q2, p2⟩
    cases q with
    | str k =>
      simp only [uK] at p2
      split at p2
      · rename_i d3 hd
        obtain ⟨u, v, e1, e2, e3⟩ := T.hit k d3 hd
        exact ⟨k, rfl, .inl ⟨u, v, e1, e2, p2 _ _ _ .refl r2 (e3 _ _)⟩⟩
      · rename_i hd
        exact ⟨k, rfl, .inr ⟨T.miss k hd, p2 _ _ _ .refl r2 q2⟩⟩
      · exact p2.elim
    | _ => exact p2.elim
def yP (tab : Str → Option (Option D)) (k : D) (h : AH) : Res D := match k with
  | .str k => match tab k with
    | some (some d) => .ok d h
    | _ => .stuck
  | _ => .stuck
def yQ (tab : Str → Option (Option D)) (fk : ME) : ME := fun e h => (fk e h).bind fun k h1 => yP tab k h1
theorem alS {x : Str} {tab : Str → Option (Option D)} {e : Expr} {fk : ME} {p pos : Pos} (T : KTab X.K X.w x tab) (hg : Gl X x) (hmg : X.mg x = some (.ref (He.ga X.K x))) (he : PE X e (rd X.K W fk)) (hs : PlainIx e) (hdb : (x == ("__debug__" : Str)) = false := by decide) :
    PE X (.Subscript (.Name x p) e pos) (rd X.K W (yQ tab fk)) :=
  (pe_ix ix_kdict (pe_glob (v := .ref (He.ga X.K x)) hg hmg rfl hdb) he hs).weak fun σ H Q ⟨en, al, h, r, re, po⟩ => by
    obtain ⟨es, n, kd⟩ := T.kd
    refine ⟨en, al, h, r, re, (bL.bind po).mono ?_⟩
    rintro v H1 ⟨d, aZ, h1, l1, r1, q, p1⟩
    cases q with
    | str k =>
      simp only [yP] at p1
      split at p1
      · rename_i d3 hd
        obtain ⟨u, v, e1, e2, e3⟩ := T.hit k d3 hd
        exact ⟨_, k, v, rfl, rfl, ⟨es, n, u, kd.at_, kd.lit, e1, e2⟩, p1 _ _ _ .refl r1 (e3 _ _)⟩
      · exact p1.elim
    | _ => exact p1.elim
def pD (i n : Nat) (fs : Str → Option (List D → AH → Res D)) (fa : MA) : ME := fun e h => match e[i]? with
  | some (some (.glo x)) => match fs x with
    | some m => (fa e h).bind fun ds h1 => if ds.length = n then m ds h1 else .stuck
    | none => .stuck
  | _ => .stuck
theorem aii {i n : Nat} {y : Str} {fs : Str → Option (List D → AH → Res D)} {e : Expr} {es : List Expr} {fa : MA} {p pos : Pos} (c : ∀ x m, fs x = some m → j9 X W (.ref (He.ga X.K x)) n [] m ∧ PySem.W.keepIn X.K (.ref (He.ga X.K x)) = true)
    (hN : X.N[i]? = some y) (hv : Vis X.env.scope y) (ha : PA X (e :: es) (kW X.K W fa)) (hdb : (y == ("__debug__" : Str)) = false := by decide) (hcd : (y == ("__classdict__" : Str)) = false := by decide)
    (he : starEach (e :: es) X.env = (false, eval e X.env) :: starEach es X.env := by rfl) (hpl : (backTo pos (starEach es X.env)).any (·.1) = false := by rfl) :
    PE X (.Call (.Name y p) (e :: es) [] pos) (rd X.K W (pD i n fs fa)) := by
  constructor
  rintro pins s σ H Q I ⟨en, al, h, r, re, po⟩
  unfold pD at po
  split at po
  · rename_i x hx
    split at po
    · rename_i m hm
      obtain ⟨cm, kp⟩ := c x m hm
      obtain ⟨v, hv1, q⟩ := re.2 i _ hx
      cases q
      refine wpAny_Call_Name_kw (thn ((pe_var hN hv hdb hcd).run pins s σ H (fun v H' => v = .ref (He.ga X.K x) ∧ H' = H) I ⟨_, hv1, rfl, rfl⟩) ?_)
      rintro u s1 ⟨v, H1, I1, rv, rfl, rfl⟩
      obtain rfl : u = Value.ref (He.ga X.K x) := rv
      refine PySem.W.callWith_K (h₀ := X.base) I1.ok.mod.kin kp (thn (ha.run pos pins s1 σ _ _ I1 ⟨en, al, h, r, re, bL.bind po⟩) ?_) he hpl
      rintro us s2 ⟨vs, H2, I2, rvs, ds, cZ, h2, l2, r2, q2, p2⟩
      refine ⟨I2.kIn, ?_⟩
      split at p2
      · rename_i hn
        exact cm pins s2 σ H2 us [] vs [] Q I2 rvs .nil (rvs.length.symm.trans (q2.length.symm.trans hn)) rfl ⟨ds, [], cZ, h2, r2, q2, .nil, by rw [List.append_nil]; exact p2⟩
      · exact p2.elim
    · exact po.elim
  · exact po.elim
end
abbrev MX := List (Str × D) → AH → Option D
def rdX (K : PySem.W.Frag) (ok : Str → Prop) (a : Addr) (cls : Value) (d : Option Addr) (i : Nat) (g : MX) : TE := fun st H Q => ∃ c fs al h dd gs, ok c ∧ cls = .ref (He.ga K c) ∧ d = some dd ∧ st[i]? = some (some (.ref a)) ∧ HR K H al h ∧ H dd = some (.xd gs) ∧ dM K H al fs gs ∧
  ∃ x, g fs h = some x ∧ ∀ v H' aQ, Le H al H' aQ → HR K H' aQ h → Rp K H' aQ x v → Q v H'
theorem HR.ae8 {K : PySem.W.Frag} {H : Hp} {al : Al} {h : AH} {dd : Addr} {gs : List (Str × V)} (r : HR K H al h) (e : H dd = some (.xd gs)) : ¬ al.has dd := fun m => by
  rcases m with m | m
  · obtain ⟨n, e2⟩ := List.getElem?_of_mem m
    obtain ⟨c, _, q⟩ := r.cell e2
    cases c with
    | lst ds => obtain ⟨vs, q, _⟩ := q; rw [e] at q; cases q
    | dict kvs => obtain ⟨vs, q, _⟩ := q; rw [e] at q; cases q
    | ins c fs => obtain ⟨dx, gs, q, _⟩ := q; rw [e] at q; cases q
    | gU kvs => obtain ⟨o, ws, q, _⟩ := q; rw [e] at q; cases q
  · obtain ⟨vs, q⟩ := r.rs dd m
    rw [e] at q
    cases q
def xF (f : Str) : MX := fun fs _ => fs.lookup f
def adS (gs : List MX) : MX := fun fs h => (gs.mapM fun (g : MX) => g fs h).map D.tup
section
variable {X : Cx} {W : WX} {ok : Str → Prop} {a : Addr} {oe : Obj} {cls : Value} {d : Option Addr} {pn : List (Addr × Obj)} {i : Nat} {n f : Str} {pos p1 : Pos}
theorem ahz (hT : ∀ c, ok c → XfC X.K (He.ga X.K c) ∧ PySem.W.findIn X.K (.ref (He.ga X.K c)) f = some none) (hz : Zc cls d oe) (hf : ∃ vs, oe.data = .fields vs) (hN : X.N[i]? = some n) (hv : Vis X.env.scope n)
    (hb : attributeBase (.Name n p1) f X.env (eval (.Name n p1) X.env) = eval (.Name n p1) X.env := by rfl) (hd : (n == ("__debug__" : Str)) = false := by decide) (hcd : (n == ("__classdict__" : Str)) = false := by decide) :
    PE (X.suite a ((a, oe) :: pn)) (.Attribute (.Name n p1) f pos) (rdX X.K ok a cls d i (xF f)) := by
  constructor
  rintro pins s σ H Q I ⟨c, fs, al, h, dd, gs, hok, ec, ed, es, r, e1, qf, x, e, q⟩
  obtain ⟨T, hno⟩ := hT c hok
  obtain ⟨v, e2, q2⟩ := qf.lookup e
  exact (pe_xf (C := He.ga X.K c) T hno hz hf (pe_var (X := X.suite a ((a, oe) :: pn)) hN hv hd hcd) hb).run pins s σ H Q I ⟨_, es, rfl, ec, dd, gs, v, ed, e1, e2, q v H al .refl r q2⟩
def adT (K : PySem.W.Frag) (ok : Str → Prop) (a : Addr) (cls : Value) (d : Option Addr) (i : Nat) (ms : List MX) : TA := fun st H Q => ∃ c fs al h dd gs, ok c ∧ cls = .ref (He.ga K c) ∧ d = some dd ∧ st[i]? = some (some (.ref a)) ∧ HR K H al h ∧ H dd = some (.xd gs) ∧ dM K H al fs gs ∧
  ∃ xs, (ms.mapM fun (g : MX) => g fs h) = some xs ∧ ∀ vs H' aQ, Le H al H' aQ → HR K H' aQ h → bD K H' aQ xs vs → Q vs H'
theorem ajZ : PA (X.suite a ((a, oe) :: pn)) [] (adT X.K ok a cls d i []) :=
  pa_nil.weak fun σ H Q ⟨c, fs, al, h, dd, gs, _, _, _, _, r, _, _, xs, e, q⟩ => by
    cases e
    exact q [] H al .refl r .nil
theorem acV {e : Expr} {es : List Expr} {g : MX} {ms : List MX} (he : PE (X.suite a ((a, oe) :: pn)) e (rdX X.K ok a cls d i g)) (hs : PA (X.suite a ((a, oe) :: pn)) es (adT X.K ok a cls d i ms)) (hst : starEach (e :: es) X.env = (false, eval e X.env) :: starEach es X.env := by rfl) :
    PA (X.suite a ((a, oe) :: pn)) (e :: es) (adT X.K ok a cls d i (g :: ms)) :=
  (pa_cons he hs hst).weak fun σ H Q ⟨c, fs, al, h, dd, gs, hok, ec, ed, es, r, e1, qf, xs, e, q⟩ => by
    rw [List.mapM_cons] at e
    obtain ⟨x, e2, e3⟩ := Option.bind_eq_some_iff.mp e
    obtain ⟨ys, e4, e5⟩ := Option.bind_eq_some_iff.mp e3
    cases e5
    refine ⟨c, fs, al, h, dd, gs, hok, ec, ed, es, r, e1, qf, x, e2, fun v H1 aZ l1 r1 q1 => ?_⟩
    refine ⟨c, fs, aZ, h, dd, gs, hok, ec, ed, es, r1, l1.keep _ _ e1 (r.ae8 e1), qf.mono r l1, ys, e4, fun vs H2 cZ l2 r2 q2 => ?_⟩
    exact q _ H2 cZ (l1.trans l2) r2 (.cons (q1.mono r1 l2) q2)
theorem alT {es : List Expr} {ms : List MX} {k : Nat} (ha : PA (X.suite a ((a, oe) :: pn)) es (adT X.K ok a cls d i ms)) (hl : ms.length ≤ 1000) : PE (X.suite a ((a, oe) :: pn)) (.Tuple es k pos) (rdX X.K ok a cls d i (adS ms)) :=
  (pe_tup (GB.PA.cl ha)).weak fun σ H Q ⟨c, fs, al, h, dd, gs, hok, ec, ed, es, r, e1, qf, x, e, q⟩ => by
    have hs : sizeLine = 16777216 := sizeLine_eq
    obtain ⟨xs, e2, e3⟩ := Option.map_eq_some_iff.mp e
    cases e3
    refine ⟨_, ⟨c, fs, al, h, dd, gs, hok, ec, ed, es, r, e1, qf, xs, e2, fun vs H1 aZ l1 r1 q1 => (⟨aZ, l1, r1, q1⟩ : ∃ aZ, Le H al H1 aZ ∧ HR X.K H1 aZ h ∧ bD X.K H1 aZ xs vs)⟩, ?_⟩
    rintro vs H1 ⟨aZ, l1, r1, q1⟩
    refine ⟨?_, fun p np => ?_⟩
    · have := abp e2
      rw [← q1.length, hs]
      omega
    · have lf := Le.fresh (o := .tup vs) r1 np
      exact q _ _ aZ (l1.trans lf) (r1.fresh np) (.tup (SqT.of upd_same) (q1.mono r1 lf))
where
  abp {α β : Type} {g : α → Option β} : ∀ {l : List α} {r : List β}, l.mapM g = some r → r.length = l.length
    | [], _, e => by cases e; rfl
    | x :: l, r, e => by
      rw [List.mapM_cons] at e
      obtain ⟨y, _, e3⟩ := Option.bind_eq_some_iff.mp e
      obtain ⟨ys, e4, e5⟩ := Option.bind_eq_some_iff.mp e3
      cases e5
      simp [abp e4]
def Rr (i : Nat) (exm : Str → Option Bool) (f : MS) (g : MX) : MS := fun e h => match f e h with
  | .exc c fs e' h' => match exm c with
    | some true => if i < e'.length then match g fs h' with
        | some x => .rt x h'
        | none => .stuck
      else .stuck
    | some false => .exc c fs e' h'
    | none => .stuck
  | r => r
theorem aj0 {x : Str} {C : Value} {f : MS} {g : MX} {exm : Str → Option Bool} {body : List Stmt} {ex : Expr} {np pos' pos2 : Pos} (ct : cA X W) (hs : X.stack = X.env :: X.outer) (hf : X.env.frame = some X.env.locals) (hN : X.N.Nodup) (hi : X.N[i]? = some n) (hln : X.env.kindOf n = some .local) (hc : Names X x C)
    (hex : ∀ c b, exm c = some b → PySem.W.exmOne X.K (.ref (He.ga X.K c)) C = some b)
    (hb : ∀ (W : WX) (pn : List (Addr × Obj)) (xe : Value → Shared → Prop), cA (X.tr pn xe) W → PSs (X.tr pn xe) body (lu X.K W f))
    (hx : ∀ (a : Addr) (oe : Obj) (cls : Value) (d : Option Addr) (pn : List (Addr × Obj)), Zc cls d oe → (∃ vs, oe.data = .fields vs) → PE (X.suite a ((a, oe) :: pn)) ex (rdX X.K (fun c => exm c = some true) a cls d i g)) :
    PS X (.Try body [.ExceptHandler (some (.Name x np)) (some n) [.Return (some ex) pos2] pos'] [] [] pos) (lu X.K W (Rr i exm f g)) := by
  refine (ps_try_as (ts := fun a cls d => tRet (rdX X.K (fun c => exm c = some true) a cls d i g)) hs hf hN hi hln hc ct.tk (fun W pn xe tk po => hb W pn xe ⟨tk, po, ct.gd⟩) (fun a oe cls d pn hz hfl => pss_one (ps_ret (hx a oe cls d pn hz hfl)))).weak ?_
  rintro N σ H ⟨e, al, h, r, re, po⟩
  refine ⟨e, al, h, r, re, ?_⟩
  unfold Rr at po
  cases z : f e h with
  | nx e' h' => rw [z] at po; exact po
  | bk e' h' => rw [z] at po; exact po
  | ct e' h' => rw [z] at po; exact po
  | rt d h' => rw [z] at po; exact po
  | stuck => rw [z] at po; exact po
  | exc c fs e' h' =>
    rw [z] at po
    dsimp only at po
    rintro dd st H' aQ gs l r' u9 e1 qf
    cases w : exm c with
    | none => rw [w] at po; exact po.elim
    | some b =>
      rw [w] at po
      refine ⟨b, hex c b w, fun hb1 a ha => ?_, fun hb2 => ?_⟩
      · subst hb1
        dsimp only at po
        split at po
        · rename_i hil
          rw [u9.1] at hil
          split at po
          · rename_i x hx
            exact ⟨c, fs, aQ, h', dd, gs, w, rfl, rfl, by rw [List.getElem?_set_self hil], r', e1, qf, x, hx, fun v H2 cZ l2 r2 q2 => po v H2 cZ (l.trans l2) r2 q2⟩
          · exact po.elim
        · exact po.elim
      · subst hb2
        exact po dd st H' aQ gs l r' u9 e1 qf
end
end PD
namespace PD
open PySem PySem.Spec PyProof.Rows L2
section
variable {X : Cx} {W : WX} {a b c : Expr} {fa fb fc : ME} {pos : Pos}
theorem ae9 {o o' : O2} {σ : L2.St} {H : Hp} {Q : VK} {K : PySem.W.Frag} : rd K W (qF o o' fa fb fc) σ H Q → tChain (r2 K o) (r2 K o') (rd K W fa) (rd K W fb) (rd K W fc) σ H Q := by
  rintro ⟨e, al, h, r, re, p⟩
  refine ⟨e, al, h, r, re, (bL.bind p).mono ?_⟩
  rintro v H1 ⟨d, aZ, h1, l, r1, q, p1⟩
  have Hh := re.mono r l
  refine ⟨e, aZ, h1, r1, Hh, (bL.bind p1).mono ?_⟩
  rintro u H2 ⟨d2, cZ, h2, l2, r2, q2, p2⟩
  have wQ := Hh.mono r1 l2
  refine ⟨d, d2, cZ, h2, r2, q.mono r1 l2, q2, ?_⟩
  have p3 := cV.of (bL.bind p2)
  cases z : o d d2 h2 with
  | none => rw [z] at p3; exact p3
  | some zz =>
    obtain ⟨d3, h3⟩ := zz
    rw [z] at p3
    intro v3 H3 UL l3 r3 q3
    obtain ⟨d3', aj1, h3', l3', r3', q3', p4⟩ := p3 v3 H3 UL l3 r3 q3
    cases q3' with
    | bl k =>
      refine ⟨k, rfl, ?_⟩
      cases k with
      | true =>
        rw [if_pos rfl]
        have l23 : Le H2 cZ H3 aj1 := l3'
        refine ⟨e, aj1, h3', r3', wQ.mono r2 l23, (bL.bind p4).mono ?_⟩
        rintro w H4 ⟨d4, al4, h4, l4, r4, q4, p5⟩
        exact ⟨d2, d4, al4, h4, r4, (q2.mono r2 l23).mono r3' l4, q4, cV.of p5⟩
      | false =>
        rw [if_neg (by decide)]
        exact p4 _ _ _ .refl r3' (.bl false)
    | _ => exact p4.elim
theorem acW {op op' : CmpOp} {o o' : O2} (ho : OpR X (compareOp op) (r2 X.K o)) (ho' : OpR X (compareOp op') (r2 X.K o')) (ha : PE X a (rd X.K W fa)) (hb : PE X b (rd X.K W fb)) (hc : PE X c (rd X.K W fc))
    (hm : lastMarks [op, op'] [b, c] = false := by with_unfolding_all rfl) : PE X (.Compare a [op, op'] [b, c] pos) (rd X.K W (qF o o' fa fb fc)) :=
  (pe_chain ho ho' ha hb hc hm).weak fun σ H Q h => ae9 h
end
section
variable {X : Cx} {W : WX} {k n : Nat} {f : Addr} {x q : Str} {st : Stmt} {dvs : List V} {kws : List (Str × V)} {ps ks : List Str} {m m' : List D → AH → Res D}
theorem j9.congr {g : Value} (c : j9 X W g n ks m) (h : ∀ ds, ds.length = n + ks.length → m ds = m' ds) : j9 X W g n ks m' := by
  rintro pins s σ H us ws vs zs Q I r rz l1 l2 ⟨ds, es, al, hh, hr1, q1, q2, po⟩
  refine c pins s σ H us ws vs zs Q I r rz l1 l2 ⟨ds, es, al, hh, hr1, q1, q2, ?_⟩
  have e : (ds ++ es).length = n + ks.length := by
    rw [List.length_append, q1.length, q2.length, r.length, rz.length, l1, l2]
  rw [h _ e]
  exact po
theorem adU {α : Type} (ds : List α) : GB.picked ds (List.range ds.length) = ds := by
  unfold GB.picked
  induction ds with
  | nil => rfl
  | cons a l ih =>
    rw [List.length_cons, List.range_succ_eq_map, List.filterMap_cons, List.filterMap_map]
    show a :: List.filterMap (fun i => l[i]?) (List.range l.length) = a :: l
    rw [ih]
theorem Fd.bK (F : Fd X.prog X.w X.K X.mg X.base k f x q st dvs kws ps m) (hr : Room k X.A) (ct : cA X W) (b : Bd X.K x q st dvs kws f ps n [] [] (List.range n)) : j9 X W (.ref f) n [] m := by
  refine (F.calls hr ct b (dd := []) fun _ _ => .nil).congr fun ds hl => ?_
  have e : n = ds.length := by simpa using hl.symm
  rw [List.append_nil, e, adU]
theorem Fd.kp {P : Program} {w : World} {K : PySem.W.Frag} {mg : Str → Option Value} {base : Heap} (F : Fd P w K mg base k f x q st dvs kws ps m) : PySem.W.keepIn K (.ref f) = true := by
  obtain ⟨fd, F1, _⟩ := F.ex
  exact F1.kp
end
end PD
theorem GB.Tp.kp {K : PySem.W.Frag} {mg : PySem.Str → Option PySem.Value} {x : PySem.Str} {st : PySem.Stmt} {dvs : List L2.V} {kws : List (PySem.Str × L2.V)} (T : GB.Tp K mg x st dvs kws) : PySem.W.keepIn K (.ref (He.ga K x)) = true := by
  obtain ⟨fd, F⟩ := T.ex
  exact F.kp
namespace PD
open PySem PySem.Spec PyProof.Rows L2
end PD
namespace PD
open PySem PySem.Spec PyProof.Rows L2
abbrev Mn := List D → AH → Res D
theorem Fd.stuck {P : Program} {w : World} {K : PySem.W.Frag} {mg : Str → Option Value} {base : Heap} {k : Nat} {f : Addr} {x q : Str} {st : Stmt} {dvs : List V} {kws : List (Str × V)} {ps : List Str} (T : GB.Dn K f x q st dvs kws) : Fd P w K mg base k f x q st dvs kws ps (fun _ _ => .stuck) := by
  obtain ⟨fd, F⟩ := T
  exact ⟨fd, F, ⟨fun _ _ _ _ ⟨_, _, _, _, _, po⟩ => po.elim, fun _ _ _ _ _ _ _ _ _ _ _ _ _ _ ⟨_, _, _, _, _, po⟩ => po.elim⟩⟩
end PD
namespace PD
open PySem PySem.Spec PyProof.Rows L2
def dOf : He.Dv → Option D
  | .non => some .non
  | .bl b => some (.bl b)
  | .int i => some (.int i)
  | .str x => some (.str x)
  | .ty n => some (.ty n)
  | .glo x => some (.glo x)
  | _ => none
theorem aj2 {K : PySem.W.Frag} {v : He.Dv} {d : D} (e : dOf v = some d) (H : Hp) (al : Al) : Rp K H al d (v.v K) := by
  cases v <;> cases e <;> constructor
def tabOf (kvs : List (Str × He.Dv)) (k : Str) : Option (Option D) := match kvs.find? fun q => decide (q.1 = k) with
  | some q => (dOf q.2).map some
  | none => none
theorem KTab.of {K : PySem.W.Frag} {w : World} {x : Str} {kvs : List (Str × He.Dv)} (kd : ∃ es n, KDict K w (He.ga K x) es n) (h : He.valsB K (He.ga K x) kvs = true) : KTab K w x (tabOf kvs) := by
  refine ⟨kd, fun k d e => ?_, fun k e => ?_⟩
  · unfold tabOf at e
    split at e
    · rename_i q hq
      obtain ⟨d', e1, e2⟩ := Option.map_eq_some_iff.mp e
      cases e2
      have hk : q.1 = k := of_decide_eq_true (List.find?_some (p := fun q : Str × He.Dv => decide (q.1 = k)) hq)
      obtain ⟨u, a, b⟩ := He.valsB_ok h (List.mem_of_find?_eq_some hq)
      subst hk
      exact ⟨u, _, a, b, fun H al => aj2 e1 H al⟩
    · cases e
  · unfold tabOf at e
    split at e
    · rename_i q hq
      cases z : dOf q.2 with
      | none => rw [z] at e; cases e
      | some d => rw [z] at e; cases e
    · cases e
end PD
namespace PD
open PySem PySem.Spec PyProof.Rows L2
section
variable {X : Cx} {W : WX}
end
end PD
namespace PD
open PySem PySem.Spec PyProof.Rows L2
section
variable {X : Cx} {W : WX}
theorem bD.eraseIdx {K : PySem.W.Frag} {H : Hp} {al : Al} : ∀ {ds : List D} {vs : List V} (k : Nat), bD K H al ds vs → bD K H al (ds.eraseIdx k) (vs.eraseIdx k)
  | _, _, _, .nil => .nil
  | _, _, 0, .cons _ q => q
  | _, _, k + 1, .cons p q => .cons p (q.eraseIdx k)
def TQ (T : String) (o : OM) (fo : ME) : ME := fun e h => (fo e h).bind fun d h1 => if isT T d h1 = true then CK (o d [] h1) else .stuck
theorem adV {o : Expr} {fo : ME} {name : Str} {apos cpos : Pos} {T id : String} {om : OM} (pa : PlainAttrs T) (slot : Slot T name id) (hty : typeOf (.builtin id) = pure (.type "method_descriptor")) (hm : MtR X id (rM X.K om)) (ho : PE X o (rd X.K W fo))
    (hbase : attributeBase o name X.env (eval o X.env) = eval o X.env := by rfl) (hline : (apos.endLine == cpos.line) = true := by rfl) :
    PE X (.Call (.Attribute o name apos) [] [] cpos) (rd X.K W (TQ T om fo)) :=
  (pe_bm0 pa slot hty hm ho hbase hline).weak fun σ H Q ⟨en, al, h, r, re, p⟩ => by
    refine ⟨en, al, h, r, re, (bL.bind p).mono ?_⟩
    rintro v H1 ⟨d, aZ, h1, l1, r1, q, p1⟩
    split at p1
    · rename_i hT
      exact ⟨ae7 r1 q hT, d, [], aZ, h1, r1, q, .nil, cV.of p1⟩
    · exact p1.elim
def rI (K : PySem.W.Frag) (o : O2) : TIp := fun x y H Q => ∃ d e al h, HR K H al h ∧ Rp K H al d x ∧ Rp K H al e y ∧ cV K H al Q (o d e h)
end
end PD
namespace PD
open PySem PySem.Spec PyProof.Rows L2
mutual
def mX (n : Nat) : D → Bool
  | .tup ds => uM n ds
  | .lst ds => uM n ds
  | .dD ds => uM n ds
  | .obj _ fs => yt n fs
  | .ref k => decide (k < n)
  | _ => true
def uM (n : Nat) : List D → Bool
  | [] => true
  | d :: ds => mX n d && uM n ds
def yt (n : Nat) : List (Str × D) → Bool
  | [] => true
  | (_, d) :: fs => mX n d && yt n fs
end
mutual
theorem acX {n : Nat} : ∀ {d : D}, mX n d = true → Ip n d
  | .tup ds, h => wU (by simpa only [mX] using h)
  | .lst ds, h => wU (by simpa only [mX] using h)
  | .dD ds, h => wU (by simpa only [mX] using h)
  | .obj _ fs, h => Iz (by simpa only [mX] using h)
  | .ref k, h => by
    have h : decide (k < n) = true := by simpa only [mX] using h
    exact (of_decide_eq_true h : k < n)
  | .non, _ => trivial
  | .bl _, _ => trivial
  | .int _, _ => trivial
  | .str _, _ => trivial
  | .glo _, _ => trivial
  | .ty _, _ => trivial
theorem wU {n : Nat} : ∀ {ds : List D}, uM n ds = true → tZ n ds
  | [], _ => trivial
  | d :: ds, h => by
    simp only [uM, Bool.and_eq_true] at h
    exact ⟨acX h.1, wU h.2⟩
theorem Iz {n : Nat} : ∀ {ds : List (Str × D)}, yt n ds = true → Ar n ds
  | [], _ => trivial
  | (_, d) :: ds, h => by
    simp only [yt, Bool.and_eq_true] at h
    exact ⟨acX h.1, Iz h.2⟩
end
def ags (n : Nat) : Cell → Prop
  | .lst ds => tZ n ds
  | .dict kvs => tZ n (kvs.map (·.2))
  | .ins _ fs => Ar n fs
  | .gU kvs => tZ n (kvs.map (·.2))
mutual
def mY (h : AH) (n : Nat) : D → Option D
  | .tup ds => (Hj h n ds).map .tup
  | .lst ds => (Hj h n ds).map .lst
  | .dD ds => (Hj h n ds).map .dD
  | .obj c fs => (Ru h n fs).map (.obj c)
  | .ref k => if k < n then some (.ref k) else match h[k]? with
    | some (.lst ds) => if uM n ds = true then some (.lst ds) else none
    | some (.ins c fs) => if yt n fs = true then some (.obj c fs) else none
    | _ => none
  | .non => some .non
  | .bl b => some (.bl b)
  | .int i => some (.int i)
  | .str x => some (.str x)
  | .glo x => some (.glo x)
  | .ty x => some (.ty x)
def Hj (h : AH) (n : Nat) : List D → Option (List D)
  | [] => some []
  | d :: ds => match mY h n d, Hj h n ds with
    | some d', some ds' => some (d' :: ds')
    | _, _ => none
def Ru (h : AH) (n : Nat) : List (Str × D) → Option (List (Str × D))
  | [] => some []
  | (f, d) :: ds => match mY h n d, Ru h n ds with
    | some d', some ds' => some ((f, d') :: ds')
    | _, _ => none
end
section
variable {K : PySem.W.Frag} {H H' : Hp} {al aQ : Al} {h h' : AH}
def Kept (h h' : AH) : Prop := h.length ≤ h'.length ∧ ∀ i c, i < h.length → h'[i]? = some c → h[i]? = some c ∨ ags h.length c
theorem eG.alU {c t r : List Addr} {x : Cell} {a : Addr} (q : eG K H ⟨c ++ t, r⟩ a x) (w : ags c.length x) : eG K H ⟨c, r⟩ a x := by
  cases x with
  | lst ds =>
    obtain ⟨vs, z, q⟩ := q
    exact ⟨vs, z, q.less w⟩
  | dict kvs =>
    obtain ⟨ws, z, k, q⟩ := q
    exact ⟨ws, z, k, q.less w⟩
  | ins c fs =>
    obtain ⟨dx, gs, z, q⟩ := q
    exact ⟨dx, gs, z, q.less w⟩
  | gU kvs =>
    obtain ⟨o, ws, z, k, q⟩ := q
    exact ⟨o, ws, z, k, q.less w⟩
theorem HR.cut (r0 : HR K H al h) (l : Le H al H' aQ) (r1 : HR K H' aQ h') (k : Kept h h') : HR K H' al (h'.take h.length) ∧ Le H al H' al := by
  obtain ⟨t, ht⟩ := l.pre
  obtain ⟨c', r'⟩ := aQ
  obtain rfl : r' = al.r := l.tG
  obtain rfl : c' = al.c ++ t := ht
  refine ⟨⟨r0.nd, by rw [List.length_take, r0.len]; exact (Nat.min_eq_left k.1).symm, r0.dis, r1.rs, fun n x a e1 e2 => ?_⟩, ⟨⟨[], by simp⟩, rfl, l.keep, l.res, fun _ z => .inl z, l.lk⟩⟩
  have hn2 := (List.getElem?_eq_some_iff.mp e2).1
  have hn : n < h.length := by rw [← r0.len]; exact hn2
  rw [List.getElem?_take_of_lt hn] at e1
  have q := r1.at_ n x a e1 (by
    show (al.c ++ t)[n]? = some a
    rw [List.getElem?_append_left hn2]
    exact e2)
  rcases k.2 n x hn e1 with z | z
  · exact q.less (r0.at_ n x a z e2)
  · exact q.alU (by rw [r0.len]; exact z)
variable {c t r : List Addr}
theorem aij {k : Nat} {a : Addr} (nd : (c ++ t).Nodup) (ds : ∀ x ∈ c ++ t, x ∉ r) (e : (c ++ t)[k]? = some a) (hk : ¬ k < c.length) : ¬ Al.has ⟨c, r⟩ a := by
  have hm : a ∈ t := by
    rw [List.getElem?_append_right (by omega)] at e
    exact List.mem_of_getElem? e
  rintro (z | z)
  · rw [List.nodup_append] at nd
    exact nd.2.2 a z a hm rfl
  · exact ds a (List.mem_append_right _ hm) z
mutual
theorem Rp.fz (r1 : HR K H ⟨c ++ t, r⟩ h) : ∀ {d d' : D} {v : V}, Rp K H ⟨c ++ t, r⟩ d v → mY h c.length d = some d' → Rp K H ⟨c, r⟩ d' v
  | _, _, _, .non, e => by simp only [mY] at e; cases e; exact .non
  | _, _, _, .bl b, e => by simp only [mY] at e; cases e; exact .bl b
  | _, _, _, .int i, e => by simp only [mY] at e; cases e; exact .int i
  | _, _, _, .str x, e => by simp only [mY] at e; cases e; exact .str x
  | _, _, _, .ty n, e => by simp only [mY] at e; cases e; exact .ty n
  | _, _, _, .glo x, e => by simp only [mY] at e; cases e; exact .glo x
  | _, _, _, .ref (n := n) (a := a) e1, e => by
    have e1 : (c ++ t)[n]? = some a := e1
    simp only [mY] at e
    split at e
    · rename_i hn
      cases e
      refine .ref ?_
      show c[n]? = some a
      rw [List.getElem?_append_left hn] at e1
      exact e1
    · rename_i hn
      have no := aij r1.nd r1.dis e1 hn
      split at e
      · rename_i ds hd
        split at e
        · rename_i w
          cases e
          obtain ⟨vs, ev, q⟩ := r1.at_ n _ a hd e1
          exact .lst ⟨ev, no⟩ (q.less (wU w))
        · cases e
      · rename_i cl fs hd
        split at e
        · rename_i w
          cases e
          obtain ⟨dx, gs, ev, q⟩ := r1.at_ n _ a hd e1
          exact .obj ev no (q.less (Iz w))
        · cases e
      · cases e
  | _, _, _, .tup s q, e => by
    simp only [mY, Option.map_eq_some_iff] at e
    obtain ⟨ds', e, rfl⟩ := e
    exact .tup s (bD.fz r1 q e)
  | _, _, _, .lst s q, e => by
    simp only [mY, Option.map_eq_some_iff] at e
    obtain ⟨ds', e, rfl⟩ := e
    exact .lst ⟨s.1, uf s.2⟩ (bD.fz r1 q e)
  | _, _, _, .dD s q, e => by
    simp only [mY, Option.map_eq_some_iff] at e
    obtain ⟨ds', e, rfl⟩ := e
    exact .dD (s.elim (fun ⟨o, z⟩ => .inl ⟨o, z.1, uf z.2⟩) .inr) (bD.fz r1 q e)
  | _, _, _, .obj e1 n q, e => by
    simp only [mY, Option.map_eq_some_iff] at e
    obtain ⟨ds', e, rfl⟩ := e
    exact .obj e1 (uf n) (dM.fz r1 q e)
theorem bD.fz (r1 : HR K H ⟨c ++ t, r⟩ h) : ∀ {ds ds' : List D} {vs : List V}, bD K H ⟨c ++ t, r⟩ ds vs → Hj h c.length ds = some ds' → bD K H ⟨c, r⟩ ds' vs
  | _, _, _, .nil, e => by simp only [Hj] at e; cases e; exact .nil
  | _, _, _, .cons q qs, e => by
    simp only [Hj] at e
    split at e
    · rename_i d' ds' e1 e2
      cases e
      exact .cons (Rp.fz r1 q e1) (bD.fz r1 qs e2)
    · cases e
theorem dM.fz (r1 : HR K H ⟨c ++ t, r⟩ h) : ∀ {ds ds' : List (Str × D)} {vs : List (Str × V)}, dM K H ⟨c ++ t, r⟩ ds vs → Ru h c.length ds = some ds' → dM K H ⟨c, r⟩ ds' vs
  | _, _, _, .nil, e => by simp only [Ru] at e; cases e; exact .nil
  | _, _, _, .cons q qs, e => by
    simp only [Ru] at e
    split at e
    · rename_i d' ds' e1 e2
      cases e
      exact .cons (Rp.fz r1 q e1) (dM.fz r1 qs e2)
    · cases e
end
end
open Classical in
noncomputable def gc (h : AH) : Res D → Res D
  | .ok d h' => if Kept h h' then match mY h' h.length d with
      | some d' => .ok d' (h'.take h.length)
      | none => .ok d h'
    else .ok d h'
  | .exc c fs h' => if Kept h h' then match Ru h' h.length fs with
      | some fs' => .exc c fs' (h'.take h.length)
      | none => .exc c fs h'
    else .exc c fs h'
  | .stuck => .stuck
theorem afb {K : PySem.W.Frag} {H : Hp} {al : Al} {h : AH} {E : XK} {Q : VK} {m : Res D} (r : HR K H al h) (p : mK K H al E Q (gc h m)) : mK K H al E Q m := by
  cases m with
  | stuck => exact p
  | ok d h' =>
    intro v H' aQ l r' rp
    unfold gc at p
    dsimp only at p
    split at p
    · rename_i k
      obtain ⟨r2, l2⟩ := r.cut l r' k
      split at p
      · rename_i d' e
        obtain ⟨t, ht⟩ := l.pre
        obtain ⟨c', rr⟩ := aQ
        obtain rfl : rr = al.r := l.tG
        obtain rfl : c' = al.c ++ t := ht
        exact p v H' al l2 r2 (Rp.fz r' rp (by rw [r.len]; exact e))
      · exact p v H' aQ l r' rp
    · exact p v H' aQ l r' rp
  | exc c fs h' =>
    intro a H' aQ gs l r' ea rp
    unfold gc at p
    dsimp only at p
    split at p
    · rename_i k
      obtain ⟨r2, l2⟩ := r.cut l r' k
      split at p
      · rename_i d' e
        obtain ⟨t, ht⟩ := l.pre
        obtain ⟨c', rr⟩ := aQ
        obtain rfl : rr = al.r := l.tG
        obtain rfl : c' = al.c ++ t := ht
        exact p a H' al gs l2 r2 ea (dM.fz r' rp (by rw [r.len]; exact e))
      · exact p a H' aQ gs l r' ea rp
    · exact p a H' aQ gs l r' ea rp
theorem Fd.gc {P : Program} {w : World} {K : PySem.W.Frag} {mg : Str → Option Value} {base : Heap} {k : Nat} {f : Addr} {x q : Str} {st : Stmt} {dvs : List V} {kws : List (Str × V)} {ps : List Str} {m : List D → AH → Res D}
    (F : Fd P w K mg base k f x q st dvs kws ps m) : Fd P w K mg base k f x q st dvs kws ps (fun ds h => PD.gc h (m ds h)) := by
  obtain ⟨fd, a, b⟩ := F.ex
  exact ⟨fd, a, b.imp fun vs H Q E ⟨ds, al, h, r, rp, po⟩ => ⟨ds, al, h, r, rp, afb r po⟩⟩
theorem j9.gc {X : Cx} {W : WX} {f : Value} {n : Nat} {ks : List Str} {m : List D → AH → Res D} (c : j9 X W f n ks m) : j9 X W f n ks (fun ds h => PD.gc h (m ds h)) := by
  rintro pins s σ H us ws vs zs Q I r rz l1 l2 ⟨ds, es, al, h, hr, q1, q2, po⟩
  exact c pins s σ H us ws vs zs Q I r rz l1 l2 ⟨ds, es, al, h, hr, q1, q2, afb hr po⟩
mutual
theorem afc {h : AH} {n : Nat} : ∀ {d : D}, Ip n d → mY h n d = some d
  | .tup ds, w => by simp only [mY, Ge (ds := ds) w, Option.map_some]
  | .lst ds, w => by simp only [mY, Ge (ds := ds) w, Option.map_some]
  | .dD ds, w => by simp only [mY, Ge (ds := ds) w, Option.map_some]
  | .obj c fs, w => by simp only [mY, acY (ds := fs) w, Option.map_some]
  | .ref k, w => by simp only [mY]; rw [if_pos (show k < n from w)]
  | .non, _ => by simp only [mY]
  | .bl _, _ => by simp only [mY]
  | .int _, _ => by simp only [mY]
  | .str _, _ => by simp only [mY]
  | .glo _, _ => by simp only [mY]
  | .ty _, _ => by simp only [mY]
theorem Ge {h : AH} {n : Nat} : ∀ {ds : List D}, tZ n ds → Hj h n ds = some ds
  | [], _ => by simp only [Hj]
  | d :: ds, w => by simp only [Hj, afc w.1, Ge w.2]
theorem acY {h : AH} {n : Nat} : ∀ {ds : List (Str × D)}, Ar n ds → Ru h n ds = some ds
  | [], _ => by simp only [Ru]
  | (_, d) :: ds, w => by simp only [Ru, afc w.1, acY w.2]
end
mutual
theorem ahA {n : Nat} : ∀ {d : D}, Ip n d → mX n d = true
  | .tup ds, w => by simp only [mX]; exact Rv w
  | .lst ds, w => by simp only [mX]; exact Rv w
  | .dD ds, w => by simp only [mX]; exact Rv w
  | .obj c fs, w => by simp only [mX]; exact afd w
  | .ref k, w => by simp only [mX]; exact decide_eq_true w
  | .non, _ => by simp only [mX]
  | .bl _, _ => by simp only [mX]
  | .int _, _ => by simp only [mX]
  | .str _, _ => by simp only [mX]
  | .glo _, _ => by simp only [mX]
  | .ty _, _ => by simp only [mX]
theorem Rv {n : Nat} : ∀ {ds : List D}, tZ n ds → uM n ds = true
  | [], _ => by simp only [uM]
  | d :: ds, w => by simp only [uM, ahA w.1, Rv w.2, Bool.and_self]
theorem afd {n : Nat} : ∀ {ds : List (Str × D)}, Ar n ds → yt n ds = true
  | [], _ => by simp only [yt]
  | (_, d) :: ds, w => by simp only [yt, ahA w.1, afd w.2, Bool.and_self]
end
theorem Kept.same {h t : AH} : Kept h (h ++ t) := ⟨by simp, fun i c hi e => .inl (by rw [List.getElem?_append_left hi] at e; exact e)⟩
theorem Kept.set {h t : AH} {n : Nat} {x : Cell} (w : ags h.length x) : Kept h (h.set n x ++ t) := ⟨by simp, fun i c hi e => by
  rw [List.getElem?_append_left (by simpa using hi)] at e
  by_cases z : n = i
  · subst z
    rw [List.getElem?_set_self hi] at e
    cases e
    exact .inr w
  · rw [List.getElem?_set_ne z] at e
    exact .inl e⟩
end PD
namespace PD
open PySem PySem.Spec PyProof.Rows L2
def keyOf : D → Option Key
  | .int i => some (.inl i)
  | .str s => some (.inr s)
  | _ => none
theorem uh {K : PySem.W.Frag} {H : Hp} {al : Al} {d : D} {v : V} {k : Key} (q : Rp K H al d v) (e : keyOf d = some k) : v = kV k := by
  cases q <;> cases e <;> rfl
def valD (kvs : List (Key × D)) (k : Key) : Option D := (kvs.find? fun kv => decide (kv.1 = k)).map (·.2)
def dO (kvs : List (Key × D)) (k : Key) (v : D) : List (Key × D) :=
  if (kvs.any fun kv => decide (kv.1 = k)) = true then kvs.map (fun kv => if kv.1 = k then (kv.1, v) else kv) else kvs ++ [(k, v)]
def KR (K : PySem.W.Frag) (H : Hp) (al : Al) (kvs : List (Key × D)) (ws : List (Key × V)) : Prop := ws.map (·.1) = kvs.map (·.1) ∧ bD K H al (kvs.map (·.2)) (ws.map (·.2))
section
variable {K : PySem.W.Frag} {H H' : Hp} {al aQ : Al} {h : AH}
theorem KR.nil : KR K H al [] [] := ⟨rfl, .nil⟩
theorem KR.inv {p : Key × D} {kvs : List (Key × D)} {ws : List (Key × V)} (r : KR K H al (p :: kvs) ws) : ∃ v ws', ws = (p.1, v) :: ws' ∧ Rp K H al p.2 v ∧ KR K H al kvs ws' := by
  obtain ⟨a, b⟩ := r
  cases ws with
  | nil => cases a
  | cons w ws =>
    simp only [List.map_cons, List.cons.injEq] at a b
    cases b with
    | cons q qs => exact ⟨w.2, ws, by rw [← a.1], q, a.2, qs⟩
theorem KR.cons {k : Key} {d : D} {v : V} {kvs : List (Key × D)} {ws : List (Key × V)} (q : Rp K H al d v) (r : KR K H al kvs ws) : KR K H al ((k, d) :: kvs) ((k, v) :: ws) :=
  ⟨by simp only [List.map_cons, r.1], .cons q r.2⟩
theorem KR.mono {kvs : List (Key × D)} {ws : List (Key × V)} (r : KR K H al kvs ws) (hr : HR K H al h) (l : Le H al H' aQ) : KR K H' aQ kvs ws := ⟨r.1, r.2.mono hr l⟩
theorem KR.length : ∀ {kvs : List (Key × D)} {ws : List (Key × V)}, KR K H al kvs ws → ws.length = kvs.length := fun r => by
  have := congrArg List.length r.1
  simpa using this
theorem KR.val (k : Key) : ∀ {kvs : List (Key × D)} {ws : List (Key × V)}, KR K H al kvs ws → (valD kvs k = none ∧ valV ws k = none) ∨ ∃ d v, valD kvs k = some d ∧ valV ws k = some v ∧ Rp K H al d v
  | [], ws, r => by
    have e := r.length
    cases ws with
    | nil => exact .inl ⟨rfl, rfl⟩
    | cons _ _ => cases e
  | p :: kvs, ws, r => by
    obtain ⟨v, ws', rfl, q, r'⟩ := r.inv
    by_cases e : p.1 = k
    · refine .inr ⟨p.2, v, ?_, valV_pos e, q⟩
      simp [valD, List.find?_cons, e]
    · rcases KR.val k r' with ⟨a, b⟩ | ⟨d, w, a, b, c⟩
      · exact .inl ⟨by simpa [valD, List.find?_cons, e] using a, (valV_neg e).trans b⟩
      · exact .inr ⟨d, w, by simpa [valD, List.find?_cons, e] using a, (valV_neg e).trans b, c⟩
theorem KR.any (k : Key) : ∀ {kvs : List (Key × D)} {ws : List (Key × V)}, KR K H al kvs ws → (ws.any fun kv => decide (kv.1 = k)) = kvs.any fun kv => decide (kv.1 = k)
  | [], ws, r => by
    have e := r.length
    cases ws with
    | nil => rfl
    | cons _ _ => cases e
  | p :: kvs, ws, r => by
    obtain ⟨v, ws', rfl, q, r'⟩ := r.inv
    simp only [List.any_cons, KR.any k r']
theorem KR.repl (k : Key) {d : D} {v : V} (q : Rp K H al d v) : ∀ {kvs : List (Key × D)} {ws : List (Key × V)}, KR K H al kvs ws → KR K H al (kvs.map fun kv => if kv.1 = k then (kv.1, d) else kv) (ws.map fun kv => if kv.1 = k then (kv.1, v) else kv)
  | [], ws, r => by
    have e := r.length
    cases ws with
    | nil => exact .nil
    | cons _ _ => cases e
  | p :: kvs, ws, r => by
    obtain ⟨w, ws', rfl, q', r'⟩ := r.inv
    simp only [List.map_cons]
    by_cases e : p.1 = k
    · rw [if_pos e, if_pos e]
      exact .cons q (KR.repl k q r')
    · rw [if_neg e, if_neg e]
      exact .cons q' (KR.repl k q r')
theorem KR.snoc (k : Key) {d : D} {v : V} (q : Rp K H al d v) : ∀ {kvs : List (Key × D)} {ws : List (Key × V)}, KR K H al kvs ws → KR K H al (kvs ++ [(k, d)]) (ws ++ [(k, v)])
  | [], ws, r => by
    have e := r.length
    cases ws with
    | nil => exact .cons q .nil
    | cons _ _ => cases e
  | p :: kvs, ws, r => by
    obtain ⟨w, ws', rfl, q', r'⟩ := r.inv
    exact .cons q' (KR.snoc k q r')
theorem KR.put (k : Key) {d : D} {v : V} (q : Rp K H al d v) {kvs : List (Key × D)} {ws : List (Key × V)} (r : KR K H al kvs ws) : KR K H al (dO kvs k d) (putK ws k v) := by
  unfold dO putK
  rw [r.any k]
  split
  · exact r.repl k q
  · exact r.snoc k q
def vf (kvs more : List (Key × D)) : List (Key × D) := more.foldl (fun acc kv => dO acc kv.1 kv.2) kvs
theorem KR.merge : ∀ {more : List (Key × D)} {ms : List (Key × V)} {kvs : List (Key × D)} {ws : List (Key × V)}, KR K H al more ms → KR K H al kvs ws → KR K H al (vf kvs more) (mergeK ws ms)
  | [], ms, kvs, ws, r, q => by
    have e := r.length
    cases ms with
    | nil => exact q
    | cons _ _ => cases e
  | p :: more, ms, kvs, ws, r, q => by
    obtain ⟨v, ms', rfl, q', r'⟩ := r.inv
    show KR K H al (vf (dO kvs p.1 p.2) more) (mergeK (putK ws p.1 v) ms')
    exact KR.merge r' (q.put p.1 q')
theorem HR.dct (r : HR K H al h) {n : Nat} {a : Addr} {kvs : List (Key × D)} (z : al.c[n]? = some a) (e : h[n]? = some (.dict kvs)) : ∃ ws, H a = some (.dK ws) ∧ KR K H al kvs ws := by
  obtain ⟨c, hc, ok⟩ := r.cell z
  rw [e] at hc
  cases hc
  obtain ⟨ws, e1, e2, e3⟩ := ok
  exact ⟨ws, e1, e2, e3⟩
theorem HR.abq (r : HR K H al h) {n : Nat} {a : Addr} {kvs : List (Key × D)} {ws : List (Key × V)} (z : al.c[n]? = some a) (q : KR K H al kvs ws) (hn : ∀ kvs, h[n]? ≠ some (.gU kvs) := by intro kvs w; simp_all) : HR K (upd H a (.dK ws)) al (h.set n (.dict kvs)) ∧ Le H al (upd H a (.dK ws)) al :=
  r.put (o := .dK ws) (c := .dict kvs) z (fun H' aQ l' e' => ⟨ws, e', (q.mono r l').1, (q.mono r l').2⟩) hn
end
section
variable {X : Cx} {W : WX}
theorem hu1 (hu : X.A.units + 64 < cLine) : X.A.units + 1 < cLine := by omega
def bf : O2 := fun d k h => match d with
  | .ref n => match h[n]? with
    | some (.dict kvs) => ((keyOf k).bind (valD kvs)).map fun v => (v, h)
    | _ => yr d k h
  | _ => yr d k h
theorem alV (hu : X.A.units + 64 < cLine) : IxR X (r2 X.K bf) := by
  rintro value slice pins s σ H x y v u Q I rx ry ⟨d, e, al, h, r, p, q, po⟩ hsl
  unfold bf at po
  split at po
  · rename_i n
    split at po
    · rename_i kvs hk
      cases p with
      | @ref _ a z =>
        obtain ⟨ws, e1, kr⟩ := r.dct z hk
        cases ek : keyOf e with
        | none => rw [ek] at po; exact False.elim po
        | some k =>
          rw [ek] at po
          obtain rfl := uh q ek
          rcases kr.val k with ⟨e2, e3⟩ | ⟨d', v', e2, e3, q'⟩
          · rw [show (some k).bind (valD kvs) = valD kvs k from rfl, e2] at po
            exact False.elim po
          · rw [show (some k).bind (valD kvs) = valD kvs k from rfl, e2] at po
            obtain rfl : v = Value.ref _ := rx
            have g : DGet H _ (kV k) (some v') := e3 ▸ DGet.k e1
            have hT := dict_typeIs I g
            unfold subscriptTail
            refine wpAny_bind ?_
            rw [getitemInPython_of_ne hT.not_modules]
            refine wpAny_bind (wpAny_specialOf hT PySem.F.slot_dict_getitem.lookup ?_)
            have fin : wpAny (model X.prog X.w) X.A (subscripted slice false (.ref a) u) (fun r s₃ => wpAny (model X.prog X.w) X.A (letTemporaryGo value (.ref a) r >>= fun _ => pure r) (EP X pins σ Q) X.xe s₃) X.xe s := by
              rw [hsl]
              exact wpAny_operating (wpAny_mono (d_getItem (hu1 hu) I g ry fun w' s3 I3 rw' => ⟨v', H, I3, rw', po _ _ _ .refl r q'⟩) (fun r s₃ h₃ => wpAny_bind (wpAny_letTemporaryGo (wpAny_pure h₃))) fun _ _ x => x)
            first
              | exact wpAny_pure (wpAny_bind fin)
              | exact wpAny_bind (wpAny_pure (wpAny_bind fin))
              | exact wpAny_bind fin
    · exact ajW value slice pins s σ H x y v u Q I rx ry ⟨_, e, al, h, r, p, q, po⟩ hsl
  · exact ajW value slice pins s σ H x y v u Q I rx ry ⟨d, e, al, h, r, p, q, po⟩ hsl
theorem aW {a b : Expr} {fa fb : ME} {pos : Pos} (hu : X.A.units + 64 < cLine) (ha : PE X a (rd X.K W fa)) (hb : PE X b (rd X.K W fb)) (hs : PlainIx b) : PE X (.Subscript a b pos) (rd X.K W (aG bf fa fb)) :=
  (pe_ix (alV hu) ha hb hs).weak fun σ H Q h => Rh h
def inX : O2 := fun k d h => match d with
  | .ref n => match h[n]? with
    | some (.dict kvs) => (keyOf k).map fun k => (.bl (valD kvs k).isSome, h)
    | _ => Dg k d h
  | _ => Dg k d h
def adW : O2 := fun k d h => match d with
  | .ref n => match h[n]? with
    | some (.dict kvs) => (keyOf k).map fun k => (.bl (!(valD kvs k).isSome), h)
    | _ => Tz k d h
  | _ => Tz k d h
theorem KR.isSome {K : PySem.W.Frag} {H : Hp} {al : Al} {kvs : List (Key × D)} {ws : List (Key × V)} (r : KR K H al kvs ws) (k : Key) : (valV ws k).isSome = (valD kvs k).isSome := by
  rcases r.val k with ⟨a, b⟩ | ⟨d, v, a, b, _⟩ <;> rw [a, b] <;> rfl
theorem vR (hu : X.A.units + 64 < cLine) : OpR X (compareOp .In) (r2 X.K inX) := by
  rintro pins s σ H x y v u Q I rx ry ⟨d, e, al, h, r, p, q, po⟩
  unfold inX at po
  split at po
  · rename_i n
    split at po
    · rename_i kvs hk
      cases q with
      | ref z =>
        obtain ⟨ws, e1, kr⟩ := r.dct z hk
        cases ek : keyOf d with
        | none => rw [ek] at po; exact False.elim po
        | some k =>
          rw [ek] at po
          obtain rfl := uh p ek
          obtain rfl : u = Value.ref _ := ry
          refine d_in (hu1 hu) I (DGet.k e1) rx fun s3 I3 => ⟨.bl (valV ws k).isSome, H, I3, rfl, ?_⟩
          rw [kr.isSome]
          exact po _ _ _ .refl r (.bl _)
    · exact agr pins s σ H x y v u Q I rx ry ⟨d, _, al, h, r, p, q, po⟩
  · exact agr pins s σ H x y v u Q I rx ry ⟨d, e, al, h, r, p, q, po⟩
def IK (o i v : D) (h : AH) : Option AH := match o with
  | .ref n => match h[n]? with
    | some (.dict kvs) => match keyOf i with
      | some k => if kvs.length < 16777216 then some (h.set n (.dict (dO kvs k v))) else none
      | none => none
    | _ => match i with
      | .int k => Az n k v h
      | _ => none
  | _ => none
def jE (fo fi : ME) : MG := fun v e h => (fo e h).bind fun o h1 => (fi e h1).bind fun i h2 => match IK o i v h2 with
  | some h3 => .ok e h3
  | none => .stuck
def alW (K : PySem.W.Frag) : TSet := fun o i v H Q => ∃ d e f al h, HR K H al h ∧ Rp K H al d o ∧ Rp K H al e i ∧ Rp K H al f v ∧
  ∃ h', IK d e f h = some h' ∧ ∀ H' aQ, Le H al H' aQ → HR K H' aQ h' → Q H'
theorem aik (hu : X.A.units + 64 < cLine) : PSet X (alW X.K) := by
  have hsz : sizeLine = 16777216 := sizeLine_eq
  rintro pins s σ H o i v ov iv u Q I ro ri rv ⟨d, e, f, al, h, r, p, q, pv, h', eh, po⟩
  unfold IK at eh
  split at eh
  · rename_i n
    cases p with
    | ref z =>
      split at eh
      · rename_i kvs hk
        obtain ⟨ws, e1, kr⟩ := r.dct z hk
        split at eh
        · rename_i k ek
          split at eh
          · rename_i hl
            cases eh
            obtain rfl := uh q ek
            obtain rfl : ov = Value.ref _ := ro
            obtain ⟨r3, l3⟩ := r.abq z (kr.put k pv)
            exact d_setItem (hu1 hu) I (DPut.k e1 (by rw [kr.length, hsz]; exact hl)) ri rv fun s4 I4 => ⟨_, I4, po _ _ l3 r3⟩
          · cases eh
        · cases eh
      · split at eh
        · rename_i k
          cases q
          unfold Az at eh
          split at eh
          · rename_i xs hx
            obtain ⟨vs, e1, qs⟩ := r.lst z hx
            cases w : ixN xs.length k with
            | none => rw [w] at eh; cases eh
            | some j =>
              rw [w] at eh
              cases eh
              obtain ⟨r3, l3⟩ := r.put (o := .lst (vs.set j v)) (c := .lst (xs.set j f)) z fun H' aQ l' e' => ⟨_, e', (qs.mono r l').set (pv.mono r l') j⟩
              exact set_list pins s σ H _ _ _ ov iv u Q I ro ri rv ⟨_, vs, k, j, rfl, rfl, e1, by rw [← qs.length]; exact w, po _ _ l3 r3⟩
          · cases eh
        · cases eh
  · cases eh
theorem qJ {o i : Expr} {fo fi : ME} {pos : Pos} (hu : X.A.units + 64 < cLine) (ho : PE X o (rd X.K W fo)) (hi : PE X i (rd X.K W fi))
    (ha : ∀ v, assign (.Subscript o i pos) X.env v = (do
      let ov ← holding [v] (eval o X.env)
      let iv ← holding [v, ov] (eval i X.env)
      standAt pos
      holding [v, ov, iv] (setItem ov iv v)
      release [v, ov, iv] []) := by intro _; rfl) : PG X (.Subscript o i pos) (CQ X.K W (jE fo fi)) :=
  (pg_sub ho hi (aik hu) ha).weak fun v σ H Q ⟨d, e, al, h, r, re, q, p⟩ => by
    refine ⟨e, al, h, r, re, (bL.bind p).mono ?_⟩
    rintro vo H1 ⟨d1, aZ, h1, l1, r1, q1, p1⟩
    refine ⟨e, aZ, h1, r1, re.mono r l1, (bL.bind p1).mono ?_⟩
    rintro vi H2 ⟨d2, cZ, h2, l2, r2, q2, p2⟩
    split at p2
    · rename_i h3 eh
      exact ⟨d1, d2, d, cZ, h2, r2, q1.mono r1 l2, q2, (q.mono r l1).mono r1 l2, h3, eh, fun H' aQ l' r' => p2 _ _ _ l' r' (((re.mono r l1).mono r1 l2).mono r2 l')⟩
    · exact p2.elim
def pO : ME := fun _ h => .ok (.ref h.length) (h ++ [.dict []])
theorem zH {pos : Pos} : PE X (.Dict [] [] pos) (rd X.K W pO) :=
  pe_dnewK.weak fun σ H Q ⟨e, al, h, r, re, p⟩ => fun a n => by
    obtain ⟨r', l⟩ := r.push (o := .dK []) (c := .dict []) n fun H' aQ l e => ⟨[], e, rfl, .nil⟩
    exact p _ _ _ l r' (.ref (by rw [← r.len]; simp))
def vg : List (ME × ME) → En → AH → Res (List (D × D))
  | [], _, h => .ok [] h
  | (fk, fv) :: r, e, h => (fk e h).bind fun k h1 => (fv e h1).bind fun v h2 => (vg r e h2).bind fun ps h3 => .ok ((k, v) :: ps) h3
def keysOf : List (D × D) → Option (List (Key × D))
  | [] => some []
  | (k, v) :: r => (keyOf k).bind fun k => (keysOf r).map fun r => (k, v) :: r
def oG (ps : List (ME × ME)) : ME := fun e h => (vg ps e (h ++ [.dict []])).bind fun qs h2 => match keysOf qs, h2[h.length]? with
  | some kvs, some (.dict []) => if qs.length ≤ 15 then .ok (.ref h.length) (h2.set h.length (.dict (vf [] kvs))) else .stuck
  | _, _ => .stuck
inductive RpP (K : PySem.W.Frag) (H : Hp) (al : Al) : List (D × D) → List (V × V) → Prop
  | nil : RpP K H al [] []
  | cons {k d : D} {x y : V} {ds : List (D × D)} {vs : List (V × V)} : Rp K H al k x → Rp K H al d y → RpP K H al ds vs → RpP K H al ((k, d) :: ds) ((x, y) :: vs)
theorem U5 {K : PySem.W.Frag} : ∀ (ps : List (ME × ME)) {σ : L2.St} {e : En} {H : Hp} {al : Al} {h : AH} {Q : List (V × V) → Hp → Prop}, HR K H al h → fW K H al e σ →
    bL K (fun H al d v => RpP K H al d v) H al (fun c d H' => W c d σ H') Q (vg ps e h) → tPairs (ps.map fun p => (rd K W p.1, rd K W p.2)) σ H Q
  | [], σ, e, H, al, h, Q, r, re, p => p _ _ _ .refl r .nil
  | (fk, fv) :: ps, σ, e, H, al, h, Q, r, re, p => by
    refine ⟨e, al, h, r, re, (bL.bind p).mono ?_⟩
    rintro vk H1 ⟨d1, aZ, h1, l1, r1, q1, p1⟩
    refine ⟨e, aZ, h1, r1, re.mono r l1, (bL.bind p1).mono ?_⟩
    rintro vv H2 ⟨d2, cZ, h2, l2, r2, q2, p2⟩
    refine U5 ps r2 ((re.mono r l1).mono r1 l2) ((bL.bind p2).mono ?_)
    rintro vs H3 ⟨ds, UL, h3, l3, r3, q3, p3⟩
    exact p3 _ _ _ .refl r3 (.cons ((q1.mono r1 l2).mono r2 l3) (q2.mono r2 l3) q3)
theorem U6 {K : PySem.W.Frag} {H : Hp} {al : Al} : ∀ {qs : List (D × D)} {vs : List (V × V)} {kvs : List (Key × D)}, RpP K H al qs vs → keysOf qs = some kvs → ∃ ws, vs = ws.map (fun kv => (kV kv.1, kv.2)) ∧ KR K H al kvs ws ∧ ws.length = qs.length
  | _, _, _, .nil, e => by cases e; exact ⟨[], rfl, .nil, rfl⟩
  | _, _, _, .cons (k := k) (ds := ds) a b c, e => by
    simp only [keysOf] at e
    cases ek : keyOf k with
    | none => rw [ek] at e; cases e
    | some k' =>
      cases er : keysOf ds with
      | none => rw [ek, er] at e; cases e
      | some r =>
        rw [ek, er] at e
        cases e
        obtain ⟨ws, rfl, kr, hl⟩ := U6 c er
        obtain rfl := uh a ek
        exact ⟨(k', _) :: ws, rfl, .cons b kr, by simp [hl]⟩
theorem Rx {pos : Pos} {keys : List (Option Expr)} {values : List Expr} {ps : List (ME × ME)} (h : PPs X pos keys values (ps.map fun p => (rd X.K W p.1, rd X.K W p.2))) (hall : keys.all (·.isSome) = true := by rfl) (hl : keys.length = values.length := by rfl) (h0 : keys ≠ [] := by intro z; cases z)
    (h15 : keys.length ≤ 15 := by decide) : PE X (.Dict keys values pos) (rd X.K W (oG ps)) :=
  (pe_disp h hall hl h0 h15).weak fun σ H Q ⟨e, al, h, r, re, p⟩ => fun a n => by
    obtain ⟨r', l⟩ := r.push (o := .dK []) (c := .dict []) n fun H' aQ l e => ⟨[], e, rfl, .nil⟩
    have hn : (al.c ++ [a])[h.length]? = some a := by rw [← r.len]; simp
    refine U5 ps r' (re.mono r l) ((bL.bind (bL.le p l)).mono ?_)
    rintro vs H2 ⟨qs, cZ, h2, l2, r2, q2, p2⟩
    split at p2
    · rename_i kvs ek eh
      split at p2
      · rename_i hq
        have z := l2.zA.get hn
        obtain ⟨ws0, e1, kr0⟩ := r2.dct z eh
        obtain ⟨ws, rfl, kr, hw⟩ := U6 q2 ek
        have : ws0 = [] := List.length_eq_zero_iff.mp kr0.length
        subst this
        refine ⟨e1, ws, rfl, by omega, ?_⟩
        obtain ⟨r3, l3⟩ := r2.abq z (kr.merge .nil)
        exact p2 _ _ _ l3 r3 (.ref z)
      · exact p2.elim
    · exact p2.elim
def getM : OM
  | .ref n, [k], h => match h[n]?, keyOf k with
    | some (.dict kvs), some k => some ((valD kvs k).getD .non, h)
    | _, _ => none
  | .ref n, [k, x], h => match h[n]?, keyOf k with
    | some (.dict kvs), some k => some ((valD kvs k).getD x, h)
    | _, _ => none
  | _, _, _ => none
theorem adX (hu : X.A.units + 64 < cLine) : MtR X "dict.get" (rM X.K getM) := by
  rintro pins s σ H x xs v us Q I rx rv ⟨d, ds, al, h, r, p, q, po⟩
  unfold getM at po
  split at po
  · rename_i n k h'
    cases p with
    | ref z =>
      match q with
      | .cons qk .nil =>
        split at po
        · rename_i kvs k' hk ek
          obtain ⟨ws, e1, kr⟩ := r.dct z hk
          obtain rfl := uh qk ek
          obtain rfl : v = Value.ref _ := rx
          cases rv with
          | cons r1 r2 =>
            cases r2
            refine d_get1 (hu1 hu) I (DGet.k e1) r1 fun w' s3 I3 rw' => ⟨_, H, I3, rw', ?_⟩
            rcases kr.val k' with ⟨a, b⟩ | ⟨d', v', a, b, q'⟩
            · rw [b]; rw [a] at po; exact po _ _ _ .refl r .non
            · rw [b]; rw [a] at po; exact po _ _ _ .refl r q'
        · exact po.elim
  · rename_i n k z' h'
    cases p with
    | ref z =>
      match q with
      | .cons qk (.cons qz .nil) =>
        split at po
        · rename_i kvs k' hk ek
          obtain ⟨ws, e1, kr⟩ := r.dct z hk
          obtain rfl := uh qk ek
          obtain rfl : v = Value.ref _ := rx
          cases rv with
          | cons r1 r2 =>
            cases r2 with
            | cons r2 r3 =>
              cases r3
              refine d_get2 (hu1 hu) I (DGet.k e1) r1 r2 fun w' s3 I3 rw' => ⟨_, H, I3, rw', ?_⟩
              rcases kr.val k' with ⟨a, b⟩ | ⟨d', v', a, b, q'⟩
              · rw [b]; rw [a] at po; exact po _ _ _ .refl r qz
              · rw [b]; rw [a] at po; exact po _ _ _ .refl r q'
        · exact po.elim
  · exact po.elim
end
end PD
namespace PD
open PySem PySem.Spec PyProof.Rows L2
def oH {α β : Type} (f : α → Option β) : List α → Option (List β)
  | [] => some []
  | d :: ds => (f d).bind fun p => (oH f ds).map (p :: ·)
def eU (h : AH) : Nat → D → Option PyData
  | 0, _ => none
  | _ + 1, .non => some .none
  | _ + 1, .bl b => some (.bool b)
  | _ + 1, .int i => some (.int i)
  | _ + 1, .str x => some (.str x)
  | f + 1, .tup ds => (oH (eU h f) ds).map .tuple
  | f + 1, .lst ds => (oH (eU h f) ds).map .list
  | f + 1, .dD ds => (oH (eU h f) ds).map .list
  | f + 1, .ref n => match h[n]? with
    | some (.lst ds) => (oH (eU h f) ds).map .list
    | _ => none
  | _ + 1, _ => none
section
variable {K : PySem.W.Frag} {H : Hp} {al : Al} {h : AH}
theorem zJ {F : D → Option PyData} : ∀ {ds : List D} {vs : List V} {ps : List PyData}, (∀ d v p, Rp K H al d v → F d = some p → Dp K H v p) → bD K H al ds vs → oH F ds = some ps → DpAll K H vs ps
  | _, _, _, hF, .nil, e => by simp only [oH] at e; cases e; exact .nil
  | _, _, _, hF, .cons q qs, e => by
    simp only [oH] at e
    obtain ⟨p, e1, e2⟩ := Option.bind_eq_some_iff.mp e
    obtain ⟨ps, e3, e4⟩ := Option.map_eq_some_iff.mp e2
    cases e4
    exact .cons (hF _ _ _ q e1) (zJ hF qs e3)
theorem Rp.Hl (r : HR K H al h) : ∀ (f : Nat) (d : D) (v : V) (p : PyData), Rp K H al d v → eU h f d = some p → Dp K H v p
  | 0, _, _, _, _, e => by simp [eU] at e
  | f + 1, _, _, _, .non, e => by simp only [eU] at e; cases e; exact .non
  | f + 1, _, _, _, .bl b, e => by simp only [eU] at e; cases e; exact .bl b
  | f + 1, _, _, _, .int i, e => by simp only [eU] at e; cases e; exact .int i
  | f + 1, _, _, _, .str x, e => by simp only [eU] at e; cases e; exact .str x
  | f + 1, _, _, _, .ty _, e => by simp [eU] at e
  | f + 1, _, _, _, .glo _, e => by simp [eU] at e
  | f + 1, _, _, _, .obj _ _ _, e => by simp [eU] at e
  | f + 1, _, _, _, .tup s q, e => by
    simp only [eU] at e
    obtain ⟨ps, e1, e2⟩ := Option.map_eq_some_iff.mp e
    cases e2
    exact .tup s (zJ (Rp.Hl r f) q e1)
  | f + 1, _, _, _, .lst s q, e => by
    simp only [eU] at e
    obtain ⟨ps, e1, e2⟩ := Option.map_eq_some_iff.mp e
    cases e2
    exact .lst s.sq (zJ (Rp.Hl r f) q e1)
  | f + 1, _, _, _, .dD s q, e => by
    simp only [eU] at e
    obtain ⟨ps, e1, e2⟩ := Option.map_eq_some_iff.mp e
    cases e2
    exact .lst s.sq (zJ (Rp.Hl r f) q e1)
  | f + 1, _, _, _, .ref z, e => by
    simp only [eU] at e
    split at e
    · rename_i ds hd
      obtain ⟨vs, e1, q⟩ := r.lst z hd
      obtain ⟨ps, e2, e3⟩ := Option.map_eq_some_iff.mp e
      cases e3
      exact .lst (SqL.of e1) (zJ (Rp.Hl r f) q e2)
    · cases e
end
def iD (h : AH) (d e : D) : Option Bool := match eU h 80 d, eU h 80 e with
  | some p, some q => if SeqAt.shaped p = true ∧ SeqAt.shaped q = true then some (PyData.eqv p q) else none
  | _, _ => none
def cM : O2 := fun d e h => (iD h d e).map fun b => (.bl b, h)
def cY : O2 := fun d e h => (iD h d e).map fun b => (.bl (!b), h)
section
variable {X : Cx} {W : WX}
theorem acZ {K : PySem.W.Frag} {H : Hp} {al : Al} {h : AH} {d e : D} {x y : V} {b : Bool} (r : HR K H al h) (p : Rp K H al d x) (q : Rp K H al e y) (z : iD h d e = some b) : ∃ d e, Dp K H x d ∧ Dp K H y e ∧ SeqAt.shaped d = true ∧ SeqAt.shaped e = true ∧ PyData.eqv d e = b := by
  unfold iD at z
  split at z
  · rename_i p' q' h1 h2
    split at z
    · rename_i hs
      cases z
      exact ⟨p', q', Rp.Hl r _ _ _ _ p h1, Rp.Hl r _ _ _ _ q h2, hs.1, hs.2, rfl⟩
    · cases z
  · cases z
theorem cR (hu : X.A.units + 64 < cLine) : OpR X (compareOp .Eq) (r2 X.K cM) := by
  rintro pins s σ H x y v u Q I rx ry ⟨d, e, al, h, r, p, q, po⟩
  unfold cM at po
  cases z : iD h d e with
  | none => rw [z] at po; exact False.elim po
  | some b =>
    rw [z] at po
    obtain ⟨d', e', h1, h2, h3, h4, rfl⟩ := acZ r p q z
    exact op_eqD hu pins s σ H _ _ v u Q I rx ry ⟨d', e', h1, h2, h3, h4, po _ _ _ .refl r (.bl _)⟩
theorem ji (hu : X.A.units + 64 < cLine) : OpR X (compareOp .NotEq) (r2 X.K cY) := by
  rintro pins s σ H x y v u Q I rx ry ⟨d, e, al, h, r, p, q, po⟩
  unfold cY at po
  cases z : iD h d e with
  | none => rw [z] at po; exact False.elim po
  | some b =>
    rw [z] at po
    obtain ⟨d', e', h1, h2, h3, h4, rfl⟩ := acZ r p q z
    exact op_neD hu pins s σ H _ _ v u Q I rx ry ⟨d', e', h1, h2, h3, h4, po _ _ _ .refl r (.bl _)⟩
def agt : D → Option (Int × Int)
  | .tup [.int i, .int j] => some (i, j)
  | _ => none
def prD (p : Int × Int) : D := .tup [.int p.1, .int p.2]
def Ry (p q : Int × Int) : Bool := !SrtO.lexB q p
def WK (ps : List (Int × Int)) : List (Int × Int) := ps.mergeSort Ry
def Dj (h : AH) : D → Option (List D)
  | .lst ds => some ds
  | .dD ds => some ds
  | .ref n => match h[n]? with
    | some (.lst ds) => some ds
    | _ => none
  | _ => none
theorem wV {K : PySem.W.Frag} {H : Hp} {al : Al} {h : AH} {d : D} {v : V} {ds : List D} (r : HR K H al h) (q : Rp K H al d v) (e : Dj h d = some ds) : ∃ a vs, v = .ref a ∧ SqL K H a vs ∧ bD K H al ds vs := by
  cases q with
  | lst s q => cases e; exact ⟨_, _, rfl, s.sq, q⟩
  | dD s q => cases e; exact ⟨_, _, rfl, s.sq, q⟩
  | ref z =>
    simp only [Dj] at e
    split at e
    · rename_i ds' hd
      cases e
      obtain ⟨vs, e1, q⟩ := r.lst z hd
      exact ⟨_, _, rfl, SqL.of e1, q⟩
    · cases e
  | _ => cases e
def abr : ON
  | [d], h => match (Dj h d).bind (oH agt) with
    | some ps => some (.ref h.length, h ++ [.lst ((WK ps).map prD)])
    | none => none
  | _, _ => none
theorem aj3 (a b c : Int × Int) (h1 : Ry a b = true) (h2 : Ry b c = true) : Ry a c = true := by
  simp only [Ry, Bool.not_eq_true'] at *
  have x := SrtO.lexB_no.mp h1
  have y := SrtO.lexB_no.mp h2
  refine SrtO.lexB_no.mpr ?_
  omega
theorem ail (a b : Int × Int) : (Ry a b || Ry b a) = true := by
  simp only [Ry, Bool.or_eq_true, Bool.not_eq_true']
  by_cases h : SrtO.lexB b a = true
  · right
    have := SrtO.lexB_iff.mp h
    refine SrtO.lexB_no.mpr ?_
    omega
  · left
    simpa using h
theorem agu : SrtO.Swo SrtO.lexB := by
  refine ⟨fun x y h => ?_, fun x y z h1 h2 => ?_⟩
  · have a := SrtO.lexB_iff.mp h
    exact SrtO.lexB_no.mpr (by omega)
  · have a := SrtO.lexB_no.mp h1
    have b := SrtO.lexB_no.mp h2
    exact SrtO.lexB_no.mpr (by omega)
theorem agv {x y : Int × Int} (h : SrtO.eqv SrtO.lexB x y = true) : y = x := by
  simp only [SrtO.eqv, Bool.and_eq_true, Bool.not_eq_true'] at h
  have a := SrtO.lexB_no.mp h.1
  have b := SrtO.lexB_no.mp h.2
  obtain ⟨x1, x2⟩ := x
  obtain ⟨y1, y2⟩ := y
  simp only at a b
  have e1 : y1 = x1 := by omega
  have e2 : y2 = x2 := by omega
  rw [e1, e2]
theorem acA {l m : List (Int × Int)} (h : l.Perm m) : SrtO.Stb SrtO.lexB l m := by
  refine ⟨h, fun x => ?_⟩
  have p := h.filter (SrtO.eqv SrtO.lexB x)
  have r : ∀ k : List (Int × Int), ∀ y ∈ k.filter (SrtO.eqv SrtO.lexB x), y = x := fun k y hy => agv (List.mem_filter.mp hy).2
  rw [List.eq_replicate_of_mem (r l), List.eq_replicate_of_mem (r m), p.length_eq]
theorem agw {l ps : List (Int × Int)} (h : SrtO.Srtd SrtO.lexB l) (p : l.Perm ps) : l = WK ps := by
  have q : (WK ps).Perm ps := List.mergeSort_perm _ _
  have s : SrtO.Srtd SrtO.lexB (WK ps) := by
    refine (List.pairwise_mergeSort aj3 ail ps).imp fun h => ?_
    simpa [Ry] using h
  exact SrtO.stb_uniq agu h s (acA (p.trans q.symm))
theorem afg {K : PySem.W.Frag} {H : Hp} {al : Al} : ∀ {ds : List D} {vs : List V} {ps : List (Int × Int)}, bD K H al ds vs → oH agt ds = some ps → Paired (fun v p => ∃ t, v = V.ref t ∧ SqT K H t [.int p.1, .int p.2]) vs ps
  | _, _, _, .nil, e => by simp only [oH] at e; cases e; exact .nil
  | _, _, _, .cons (d := d) q qs, e => by
    simp only [oH] at e
    obtain ⟨p, e1, e2⟩ := Option.bind_eq_some_iff.mp e
    obtain ⟨ps, e3, e4⟩ := Option.map_eq_some_iff.mp e2
    cases e4
    refine .cons ?_ (afg qs e3)
    unfold agt at e1
    split at e1
    · cases e1
      cases q with
      | tup sq ql =>
        cases ql with
        | cons a b =>
          cases b with
          | cons b c =>
            cases a; cases b; cases c
            exact ⟨_, rfl, sq⟩
    · cases e1
theorem Paired.mem {α β : Type} {R : α → β → Prop} : ∀ {xs : List α} {ys : List β}, Paired R xs ys → ∀ x ∈ xs, ∃ y, R x y
  | _, _, .nil, _, h => by cases h
  | _, _, .cons a b, x, h => by
    rcases List.mem_cons.mp h with rfl | h
    · exact ⟨_, a⟩
    · exact Paired.mem b x h
theorem Paired.aj4 {α β : Type} {R : α → β → Prop} {k : α → β} : ∀ {xs : List α} {ys : List β}, Paired R xs ys → (∀ x y, R x y → k x = y) → xs.map k = ys
  | _, _, .nil, _ => rfl
  | _, _, .cons a b, h => by rw [List.map_cons, h _ _ a, Paired.aj4 b h]
open Classical in
theorem amI : CallR X (.builtin "sorted") (rN X.K abr) := by
  rintro pins s σ H xs us Q I rv ⟨ds, al, h, r, p, po⟩
  cases p with
  | nil => exact False.elim po
  | cons q qs =>
    cases qs with
    | cons _ _ => exact False.elim po
    | nil =>
      simp only [abr] at po
      split at po
      · rename_i ps eps
        obtain ⟨es, ee, e2⟩ := Option.bind_eq_some_iff.mp eps
        obtain ⟨a, vs, rfl, sq, ql⟩ := wV r q ee
        have pr := afg ql e2
        let R : V → Int × Int → Prop := fun v p => ∃ t, v = V.ref t ∧ SqT X.K H t [.int p.1, .int p.2]
        have uq : ∀ v p q, R v p → R v q → q = p := by
          rintro v ⟨p1, p2⟩ ⟨q1, q2⟩ ⟨t, rfl, h1⟩ ⟨t', e, h2⟩
          cases e
          have := I.tuple_inj h1 h2
          simp only [List.cons.injEq, V.int.injEq, and_true] at this
          rw [this.1, this.2]
        let k : V → Int × Int := fun v => if z : ∃ p, R v p then Classical.choose z else (0, 0)
        have hk : ∀ v p, R v p → k v = p := fun v p hp => by
          have z : ∃ p, R v p := ⟨p, hp⟩
          show (if z : ∃ p, R v p then Classical.choose z else (0, 0)) = p
          rw [dif_pos z]
          exact uq v _ _ hp (Classical.choose_spec z)
        have mk : vs.map k = ps := Paired.aj4 pr fun v p h => hk v p h
        have hx : ∀ x ∈ vs, R x (k x) := fun x m => by
          obtain ⟨p, hp⟩ := Paired.mem pr x m
          rw [hk x p hp]
          exact hp
        obtain ⟨its, rl, hl, hz⟩ := I.list sq
        obtain ⟨u, rfl, ru⟩ := vals1 rv
        obtain rfl : u = Value.ref a := ru
        obtain ⟨b1, b2⟩ := refs_back rl fun x m => by
          obtain ⟨t, e, _⟩ := hx x m
          exact ⟨t, e⟩
        refine SrtO.sorted_pairsO (k := fun u => k (backV u)) hl.isList (by rw [← rl.length]; exact hz) (fun v hv => ?_) fun h' d out h1 h2 kp hd hn => ?_
        · obtain ⟨t, rfl⟩ := b2 v hv
          have hm : V.ref t ∈ vs := by rw [b1]; exact List.mem_map.mpr ⟨_, hv, rfl⟩
          obtain ⟨t', e, ht⟩ := hx _ hm
          cases e
          obtain ⟨its2, r2, ⟨o, ho, hc, n, hd⟩, _⟩ := I.tuple ht
          obtain ⟨u1, u2, rfl, ri, rj⟩ := vals2 r2
          obtain ⟨t1, rfl⟩ := ri
          obtain ⟨t2, rfl⟩ := rj
          exact ⟨t, o, t1, t2, n, rfl, ho, hc, hd⟩
        · have h3 : ∀ u ∈ out, ∃ a, u = Value.ref a := fun u hu => b2 u (h2.perm.mem_iff.mp hu)
          obtain ⟨n, hn⟩ := hn
          have hb : SrtO.Stb (ltP k) (out.map backV) vs := by
            rw [b1]
            exact SrtO.Stb.map (ltP_swo k) backV h2
          have fresh := I.hok.fresh hd
          have sr : SrtO.Srtd SrtO.lexB ((out.map backV).map k) := SrtO.srtd_map (lt := SrtO.lexB) (f := k) (SrtO.srtd_map (lt := ltP k) (f := backV) h1)
          have pe : ((out.map backV).map k).Perm ps := by rw [← mk]; exact hb.perm.map k
          have eo := agw sr pe
          refine ⟨.ref d, upd H d (.lst (out.map backV)), I.laid (t' := s.toks) kp hd ⟨?_, out, n, vals_back h3, hn⟩, rfl, ?_⟩
          · rw [hb.len]
            exact hz
          · refine cV.Tq r (vs := out.map backV) ?_ po fresh
            rw [← eo, List.map_map]
            have : ∀ l : List V, (∀ y ∈ l, R y (k y)) → bD X.K H al (l.map (prD ∘ k)) l := fun l => by
              induction l with
              | nil => exact fun _ => .nil
              | cons y l ih =>
                intro hl
                obtain ⟨t, e, ht⟩ := hl y List.mem_cons_self
                refine .cons ?_ (ih fun z hz => hl z (List.mem_cons_of_mem _ hz))
                show Rp X.K H al (prD (k y)) y
                rw [e] at ht ⊢
                exact .tup ht (.cons (.int _) (.cons (.int _) .nil))
            exact this _ fun y hy => hx y (hb.perm.mem_iff.mp hy)
      · exact False.elim po
end
end PD
namespace PD
open PySem PySem.Spec PyProof.Rows L2
section
variable {X : Cx} {W : WX}
def zK (i : Int) : Bool := decide (-(2 ^ 64) < i ∧ i < 2 ^ 64)
def yR : O2
  | .int i, .int j, h => if zK i || zK j then some (.int (i * j), h) else mulM (.int i) (.int j) h
  | d, e, h => mulM d e h
theorem Rz : OpR X (binaryOp .Mult) (r2 X.K yR) := by
  rintro pins s σ H x y v u Q I rx ry ⟨d, e, al, h, r, p, q, po⟩
  unfold yR at po
  split at po
  · rename_i h' i j
    split at po
    · rename_i hl
      cases p; cases q
      refine op_mul pins s σ H _ _ v u Q I rx ry ⟨i, j, rfl, rfl, ?_, po _ _ _ .refl r (.int _)⟩
      rcases Bool.or_eq_true_iff.mp hl with z | z
      · exact .inl (of_decide_eq_true z)
      · exact .inr (of_decide_eq_true z)
    · exact ahw pins s σ H x y v u Q I rx ry ⟨_, _, al, h, r, p, q, po⟩
  · exact ahw pins s σ H x y v u Q I rx ry ⟨d, e, al, h, r, p, q, po⟩
def wW (l : List (Str × (List D → AH → Res D))) (x : Str) : Option (List D → AH → Res D) := (l.find? fun q => decide (q.1 = x)).map (·.2)
def lE (P : Str → (List D → AH → Res D) → Prop) (l : List (Str × (List D → AH → Res D))) : Prop := ∀ q ∈ l, P q.1 q.2
theorem lE.nil {P : Str → (List D → AH → Res D) → Prop} : lE P [] := fun _ h => nomatch h
theorem lE.cons {P : Str → (List D → AH → Res D) → Prop} {x : Str} {m : List D → AH → Res D} {l : List (Str × (List D → AH → Res D))} (h : P x m) (r : lE P l) : lE P ((x, m) :: l) := fun q hq => by
  rcases List.mem_cons.mp hq with rfl | hq
  · exact h
  · exact r q hq
theorem lE.get {P : Str → (List D → AH → Res D) → Prop} {l : List (Str × (List D → AH → Res D))} (r : lE P l) : ∀ x m, wW l x = some m → P x m := fun x m h => by
  obtain ⟨q, hq, rfl⟩ := Option.map_eq_some_iff.mp h
  have e : q.1 = x := of_decide_eq_true (List.find?_some (p := fun q : Str × (List D → AH → Res D) => decide (q.1 = x)) hq)
  subst e
  exact r q (List.mem_of_find?_eq_some hq)
end
end PD
namespace PD
open PySem PySem.Spec PyProof.Rows L2
theorem at0 {α : Type} {a : α} {l : List α} : atI (a :: l) 0 = some a := by
  simp [atI, ixN]
theorem atN {α : Type} (k : Nat) (l : List α) : atI l ((k : Nat) : Int) = l[k]? := by
  unfold atI ixN
  rw [if_pos (by omega)]
  by_cases h : ((k : Nat) : Int) < l.length
  · rw [if_pos h]; rfl
  · rw [if_neg h, List.getElem?_eq_none (by omega)]; rfl
theorem at1 {α : Type} {a b : α} {l : List α} : atI (a :: b :: l) 1 = some b := atN 1 _
theorem at2 {α : Type} {a b c : α} {l : List α} : atI (a :: b :: c :: l) 2 = some c := atN 2 _
theorem at3 {α : Type} {a b c d : α} {l : List α} : atI (a :: b :: c :: d :: l) 3 = some d := atN 3 _
theorem at4 {α : Type} {a b c d e : α} {l : List α} : atI (a :: b :: c :: d :: e :: l) 4 = some e := atN 4 _
theorem v9 {b : Bool} {h : AH} : tTru (.bl b) h = .ok b h := rfl
theorem TV : ixN 3 0 = some 0 := rfl
theorem TX : ixN 3 2 = some 2 := rfl
theorem RB (i : Int) : SeqAt.shaped (.int i) = true := by
  unfold SeqAt.shaped PyData.canLay0 PyData.depth
  rfl
theorem RD {z : Str} (h : GB.vK z) : SeqAt.shaped (.str z) = true := by
  unfold SeqAt.shaped PyData.canLay0 PyData.depth
  rw [GB.jy h]
  rfl
theorem TY {a b : Int} {h : AH} : eqB h (.int a) (.int b) = some (decide (a = b)) := by
  show (if SeqAt.shaped (.int a) = true ∧ SeqAt.shaped (.int b) = true then some (PyData.eqv (.int a) (.int b)) else none) = _
  rw [if_pos ⟨RB a, RB b⟩]
  rfl
theorem abt {a b : Int} {h : AH} : iD h (.int a) (.int b) = some (decide (a = b)) := TY (h := h)
theorem wg {a b : Int} {h : AH} : eqM (.int a) (.int b) h = some (.bl (decide (a = b)), h) := by
  show (eqB h (.int a) (.int b)).map _ = _
  rw [TY]
  rfl
theorem aP {a b : Int} {h : AH} : neM (.int a) (.int b) h = some (.bl (!decide (a = b)), h) := by
  show (eqB h (.int a) (.int b)).map _ = _
  rw [TY]
  rfl
theorem Gf {a b : Int} {h : AH} : cM (.int a) (.int b) h = some (.bl (decide (a = b)), h) := by
  show (iD h (.int a) (.int b)).map _ = _
  rw [abt]
  rfl
theorem Gg {a b : Int} {h : AH} : cY (.int a) (.int b) h = some (.bl (!decide (a = b)), h) := by
  show (iD h (.int a) (.int b)).map _ = _
  rw [abt]
  rfl
theorem T5 {a b : Str} {h : AH} (ha : GB.vK a) (hb : GB.vK b) : eqB h (.str a) (.str b) = some (a == b) := by
  show (if SeqAt.shaped (.str a) = true ∧ SeqAt.shaped (.str b) = true then some (PyData.eqv (.str a) (.str b)) else none) = _
  rw [if_pos ⟨RD ha, RD hb⟩]
  rfl
theorem abu {a b : Str} {h : AH} (ha : GB.vK a) (hb : GB.vK b) : iD h (.str a) (.str b) = some (a == b) := T5 (h := h) ha hb
theorem wj {s t : String} (e : PySem.Str.ofString s = PySem.Str.ofString t) : s = t := by
  rw [PySem.Str.ofString_eq_toList, PySem.Str.ofString_eq_toList] at e
  have e1 : s.toList.map Char.toNat = t.toList.map Char.toNat := by
    have := congrArg (fun z => z.cps.toList) e
    simpa using this
  have inj : ∀ a b : Char, a.toNat = b.toNat → a = b := fun a b h => Char.ext (UInt32.toNat_inj.mp h)
  have e2 : s.toList = t.toList := by
    generalize s.toList = l at e1
    generalize t.toList = m at e1
    induction l generalizing m with
    | nil => cases m with
      | nil => rfl
      | cons b m => cases e1
    | cons a l ih => cases m with
      | nil => cases e1
      | cons b m =>
        simp only [List.map_cons, List.cons.injEq] at e1
        rw [inj _ _ e1.1, ih m e1.2]
  exact String.toList_inj.mp e2
theorem wu {s t : String} : (PySem.Str.ofString s == PySem.Str.ofString t) = decide (s = t) := by
  by_cases h : s = t
  · subst h
    rw [decide_eq_true rfl]
    exact beq_self_eq_true _
  · rw [decide_eq_false h]
    exact beq_eq_false_iff_ne.mpr fun e => h (wj e)
theorem wA {s t : String} {h : AH} : eqM (.str (PySem.Str.ofString s)) (.str (PySem.Str.ofString t)) h = some (.bl (decide (s = t)), h) := by
  show (eqB h _ _).map _ = _
  rw [T5 (GB.dU s) (GB.dU t), wu]
  rfl
theorem wB {s t : String} {h : AH} : neM (.str (PySem.Str.ofString s)) (.str (PySem.Str.ofString t)) h = some (.bl (!decide (s = t)), h) := by
  show (eqB h _ _).map _ = _
  rw [T5 (GB.dU s) (GB.dU t), wu]
  rfl
theorem wD {s t : String} {h : AH} : cM (.str (PySem.Str.ofString s)) (.str (PySem.Str.ofString t)) h = some (.bl (decide (s = t)), h) := by
  show (iD h _ _).map _ = _
  rw [abu (GB.dU s) (GB.dU t), wu]
  rfl
theorem uo {s t : String} {h : AH} : cY (.str (PySem.Str.ofString s)) (.str (PySem.Str.ofString t)) h = some (.bl (!decide (s = t)), h) := by
  show (iD h _ _).map _ = _
  rw [abu (GB.dU s) (GB.dU t), wu]
  rfl
theorem Gh {x : V} : inV x [] = false := rfl
theorem Gi {s t : String} {vs : List V} : inV (.str (PySem.Str.ofString s)) (.str (PySem.Str.ofString t) :: vs) = (decide (t = s) || inV (.str (PySem.Str.ofString s)) vs) := by
  show ((PySem.Str.ofString t == PySem.Str.ofString s) || _) = _
  rw [wu]
  rfl
theorem RG {a b : Bool} {vs : List V} : inV (.bl a) (.bl b :: vs) = (decide (b = a) || inV (.bl a) vs) := by
  show (eqV (.bl b) (.bl a) || _) = _
  cases a <;> cases b <;> rfl
theorem Ba {k : Key} : valD [] k = none := rfl
theorem Bb {s t : String} {v : D} {r : List (Key × D)} : valD ((.inr (PySem.Str.ofString s), v) :: r) (.inr (PySem.Str.ofString t)) = if s = t then some v else valD r (.inr (PySem.Str.ofString t)) := by
  by_cases e : s = t
  · subst e
    simp [valD, List.find?_cons]
  · have n : ¬ (Sum.inr (PySem.Str.ofString s) : Key) = .inr (PySem.Str.ofString t) := fun z => e (wj (Sum.inr.inj z))
    rw [if_neg e]
    simp [valD, List.find?_cons, n]
theorem Bc {n : Nat} {kvs : List (Key × D)} {h : AH} (e : h[n]? = some (.dict kvs)) : isT "dict" (.ref n) h = true := by
  unfold isT
  simp [e]
theorem pF {n : Nat} {ds : List D} {h : AH} (e : h[n]? = some (.lst ds)) : isT "list" (.ref n) h = true := by
  unfold isT
  simp [e]
end PD
namespace GB
open PySem PySem.W PyProof.Rows
section
variable {M : Model} {prog : Program} {w : World} {A : Around} {E : Value → Shared → Prop} {s : Shared} {K : Frag} {x C f : Addr} {ox : Obj} {od : Option Obj} {b tb : Value}
end
end GB
namespace PD
open PySem PySem.Spec PyProof.Rows L2
section
variable {X : Cx} {W : WX} {k n : Nat} {f : Addr} {x q : Str} {st : Stmt} {dvs : List V} {kws : List (Str × V)} {ps : List Str} {m : List D → AH → Res D}
end
def anx (cs : List Str) (ts : List String) : Option (String ⊕ Str) → Bool
  | some (.inl t) => ts.contains t
  | some (.inr c) => cs.contains c
  | none => false
def anz (m : List D → AH → Res D) (ds : List D) (h : AH) : Option (Bool × AH) := match m ds h with
  | .ok (.bl k) h' => some (k, h')
  | _ => none
section
variable {X : Cx} {W : WX} {k : Nat} {f : Addr} {x q : Str} {st : Stmt} {dvs : List V} {kws : List (Str × V)} {ps : List Str} {m : List D → AH → Res D} {cs : List Str} {ts : List String}
end
end PD
namespace GB
open PySem PySem.SeqAt
open AutoSeq1 (wpAny_loadPart')
open MeetsSeq MeetsSeq2 MeetsSeq3 SeqRoads2
section
variable {prog : Program} {w : World} {A : Around} {E : Value → Shared → Prop} {s : Shared}
theorem agx {R : Result → Shared → Prop} {l b : Addr} {items items2 : Array Value} {n n2 : Nat} {sl sl2 : Array (Option Value)} (hl1 : s.heap.get? l = some { cls := .type "list", data := .seq items n, slots := sl }) (hb1 : s.heap.get? b = some { cls := .type "list", data := .seq items2 n2, slots := sl2 }) (hne : items.size ≠ items2.size)
    (last : R (.ok (.ret (.bool false))) s) : wpAny (model prog w) A.in1 (Builtin.«list.__eq__» ⟨[.ref l, .ref b], []⟩) (GQ.FinOf prog w A R) (fun e s' => R (.error e) s') s := by
  obtain ⟨hp, g, d, tk, os⟩ := s
  have f3 := AutoSeq1.sub_list_list
  have hne : (items.size != items2.size) = true := by simpa using hne
  wp_walk using wpAny_loadPart' hl1, wpAny_loadPart' hb1
  exact last
theorem aj5 {l b : Addr} {items items2 : Array Value} {n n2 : Nat} {sl sl2 : Array (Option Value)} {Q : Value → Shared → Prop} (hu : A.units < cLine) (hl1 : s.heap.get? l = some { cls := .type "list", data := .seq items n, slots := sl }) (hb1 : s.heap.get? b = some { cls := .type "list", data := .seq items2 n2, slots := sl2 }) (hne : items.size ≠ items2.size)
    (hq : Q (.bool false) s) : wpAny (model prog w) A (richCompare .Eq (.ref l) (.ref b)) Q E s :=
  wpAny_richCompare_same_room (op := .Eq) ⟨_, hl1, rfl⟩ ⟨_, hb1, rfl⟩ F.slot_list_eq (GQ.call_here F.slot_list_eq ⟨_, hl1, rfl⟩ F.entry_list_eq (F.args_list_eq_2 _ _)
    (agx (R := wants (fun v s' => v ≠ .notImplemented ∧ Q v s') E) hl1 hb1 hne ⟨(fun z => nomatch z), hq⟩)) hu
end
end GB
namespace PD
open PySem PySem.Spec PyProof.Rows L2
section
variable {X : Cx} {W : WX}
def yu (o : O2) : O2 := fun d e h => match Dj h d, Dj h e with
  | some xs, some ys => if xs.length ≠ ys.length then some (.bl false, h) else o d e h
  | _, _ => o d e h
theorem vU {o : O2} (hu : X.A.units + 64 < cLine) (ho : OpR X (compareOp .Eq) (r2 X.K o)) : OpR X (compareOp .Eq) (r2 X.K (yu o)) := by
  rintro pins s σ H x y v u Q I rx ry ⟨d, e, al, h, r, p, q, po⟩
  unfold yu at po
  split at po
  · rename_i xs ys hx hy
    split at po
    · rename_i hn
      obtain ⟨a, vs, rfl, sq, ql⟩ := wV r p hx
      obtain ⟨b, ws, rfl, sq2, ql2⟩ := wV r q hy
      obtain ⟨its, rl, pl, hz⟩ := I.list sq
      obtain ⟨its2, rl2, pl2, hz2⟩ := I.list sq2
      obtain rfl : v = Value.ref a := rx
      obtain rfl : u = Value.ref b := ry
      obtain ⟨⟨c1, dd1, dt1, sl1⟩, n1, g1, e1, e2, e3⟩ := pl
      obtain ⟨⟨c2, dd2, dt2, sl2⟩, n2, g2, f1, f2, f3⟩ := pl2
      simp only at e1 e2 e3 f1 f2 f3
      subst e1 e2 e3 f1 f2 f3
      refine GB.aj5 (by omega) g1 g2 ?_ ⟨.bl false, H, I, rfl, po _ _ _ .refl r (.bl _)⟩
      rw [List.size_toArray, List.size_toArray, ← rl.length, ← rl2.length, ← ql.length, ← ql2.length]
      exact hn
    · exact ho pins s σ H x y v u Q I rx ry ⟨d, e, al, h, r, p, q, po⟩
  · exact ho pins s σ H x y v u Q I rx ry ⟨d, e, al, h, r, p, q, po⟩
end
end PD
namespace PD
open PySem PySem.Spec PyProof.Rows L2
section
variable {X : Cx} {W : WX} {gt : MG} {fa : ME} {f0 : MS}
abbrev BX := List D × (AH → Prop)
def adY (K : PySem.W.Frag) (P : AH → Prop) (J : It) (ds : List D) (H0 : Hp) (al0 : Al) : Prop := ∀ H al h, fV H0 al0 H al → HR K H al h → P h →
  (∀ i, i < ds.length → J.go i H) ∧ J.stop ds.length H ∧ ∀ i x H', i < ds.length → J.yld i H x H' → Le H al H' al ∧ HR K H' al h ∧ ∃ d, ds[i]? = some d ∧ Rp K H' al d x
def adZ (K : PySem.W.Frag) (W : WX) (it : En → AH → Res BX) : TI := fun st H R => ∃ e al h, HR K H al h ∧ fW K H al e st ∧
  bL K (fun H al (dp : BX) J => adY K dp.2 J dp.1 H al) H al (fun c d H' => W c d st H') R (it e h)
open Classical in
noncomputable def wX (P : AH → Prop) (g : MG) (t : MT) (f : ME) (own : List Nat) (e : En) : List D → List D → AH → Res (List D)
  | acc, [], h => if P h then .ok acc h else .stuck
  | acc, d :: ds, h => if P h then match g d (gJ e own) h with
    | .ok e1 h1 => match t e1 h1 with
      | .ok true h2 => match f e1 h2 with
        | .ok x h3 => if acc.length < 16777216 then wX P g t f own e (acc ++ [x]) ds h3 else .stuck
        | _ => .stuck
      | .ok false h2 => wX P g t f own e acc ds h2
      | _ => .stuck
    | _ => .stuck
    else .stuck
noncomputable def alX (fin : List D → AH → Res D) (it : En → AH → Res BX) (g : MG) (t : MT) (f : ME) (own : List Nat) : ME := fun e h => (it e h).bind fun dp h1 => (wX dp.2 g t f own e [] dp.1 h1).bind fun r h2 => fin r h2
theorem agy {fin : List D → AH → Res D} {it : En → AH → Res BX} {t : MT} {f : ME} {vs : List Nat} {σ : L2.St} {H : Hp} {Q : VK} {K : PySem.W.Frag} (hf : ∀ (H1 : Hp) (aZ : Al) (H' : Hp) (c' : List Addr) (h' : AH) (acc : List D) (ws : List V) (A : Addr), Le H1 aZ H' ⟨c', aZ.r⟩ → HR K H' ⟨c', A :: aZ.r⟩ h' → H' A = some (.lst ws) → bD K H' ⟨c', A :: aZ.r⟩ acc ws → H1 A = none → ¬ aZ.has A → mK K H1 aZ (fun c d H' => W c d σ H') Q (fin acc h') → Q (.ref A) H') : rd K W (alX fin it gt t f vs) σ H Q → tLc (adZ K W it) (Hi K vs gt) (nu K WF t) (rd K WF f) vs σ H Q := by
  rintro ⟨e, al, h, r, re, p⟩
  refine ⟨e, al, h, r, re, (bL.bind p).mono ?_⟩
  rintro J H1 ⟨⟨ds, P⟩, aZ, h1, l, r1, w, p1⟩ A hA
  have nA := r1.Rg hA
  have hs : sizeLine = 16777216 := sizeLine_eq
  dsimp only at p1
  refine ⟨fun i m H' => m = ds.length - i ∧ i ≤ ds.length ∧ ∃ c' h' acc ws, Le H1 aZ H' ⟨c', aZ.r⟩ ∧ HR K H' ⟨c', A :: aZ.r⟩ h' ∧ H' A = some (.lst ws) ∧ bD K H' ⟨c', A :: aZ.r⟩ acc ws ∧ fV H1 aZ H' ⟨c', A :: aZ.r⟩ ∧
    mK K H1 aZ (fun c d H' => W c d σ H') Q ((wX P gt t f vs e acc (ds.drop i) h').bind fun r h2 => fin r h2), ⟨ds.length, by omega, Nat.zero_le _, aZ.c, h1, [], [], (Le.fresh r1 hA), r1.hold hA, upd_same, .nil, fV.hold hA, p1⟩, ?_⟩
  rintro i m H' ⟨rfl, hle, c', h', acc, ws, l', r', eA, ra, l0, p'⟩
  have hP : P h' := by
    by_cases q : P h'
    · exact q
    · cases hd : ds.drop i <;> rw [hd, wX, if_neg q] at p' <;> exact p'.elim
  obtain ⟨w1, w2, w3⟩ := w H' _ h' l0 r' hP
  by_cases hlt : i < ds.length
  · refine .inr ⟨w1 i hlt, fun H2 => i + 1 ≤ ds.length ∧ ∃ c' h' acc ws, Le H1 aZ H2 ⟨c', aZ.r⟩ ∧ HR K H2 ⟨c', A :: aZ.r⟩ h' ∧ H2 A = some (.lst ws) ∧ bD K H2 ⟨c', A :: aZ.r⟩ acc ws ∧ fV H1 aZ H2 ⟨c', A :: aZ.r⟩ ∧
      mK K H1 aZ (fun c d H' => W c d σ H') Q ((wX P gt t f vs e acc (ds.drop (i + 1)) h').bind fun r h2 => fin r h2), ?_, ?_⟩
    · rintro H2 ⟨hl2, z⟩
      exact ⟨ds.length - (i + 1), by omega, rfl, hl2, z⟩
    · intro x H2 y
      obtain ⟨l2, r2, d, hd, rp⟩ := w3 i x H2 hlt y
      have ed : ds.drop i = d :: ds.drop (i + 1) := by
        rw [List.drop_eq_getElem_cons hlt]
        congr 1
        rw [List.getElem?_eq_getElem hlt] at hd
        exact Option.some.inj hd
      rw [ed, wX, if_pos hP] at p'
      have Hh : fW K H1 aZ e σ := re.mono r l
      have wQ : fW K H2 ⟨c', A :: aZ.r⟩ (gJ e vs) (L2.wipe σ vs) := ((Hh.cP r1 l0).mono r' l2).wipe vs
      refine ⟨d, gJ e vs, _, h', r2, wQ, rp, ?_⟩
      cases z : gt d (gJ e vs) h' with
      | exc c fs h3 => rw [z] at p'; exact p'.elim
      | stuck => rw [z] at p'; exact p'.elim
      | ok e3 h3 =>
        rw [z] at p'
        rintro σ3 H3 ⟨c3, r3x⟩ l3 r3 ⟨Rk, hw3⟩
        obtain rfl : r3x = A :: aZ.r := l3.tG
        rw [UW] at hw3
        refine ⟨hw3, e3, _, h3, r3, Rk, ?_⟩
        dsimp only at p'
        cases z2 : t e3 h3 with
        | exc c fs h4 => rw [z2] at p'; exact p'.elim
        | stuck => rw [z2] at p'; exact p'.elim
        | ok b h4 =>
          rw [z2] at p'
          rintro b' H4 ⟨c4, r4x⟩ l4 r4 rfl
          obtain rfl : r4x = A :: aZ.r := l4.tG
          have CW : Le H' ⟨c', A :: aZ.r⟩ H4 ⟨c4, A :: aZ.r⟩ := (l2.trans l3).trans l4
          cases b with
          | false =>
            have agk := CW.free ⟨_, eA⟩
            exact ⟨hlt, c4, h4, acc, ws, l'.trans agk, r4, by rw [CW.res A List.mem_cons_self]; exact eA, ra.mono r' CW, l0.trans CW.zA, p'⟩
          | true =>
            refine ⟨e3, _, h4, r4, Rk.mono r3 l4, ?_⟩
            dsimp only at p'
            cases z3 : f e3 h4 with
            | exc c fs h5 => rw [z3] at p'; exact p'.elim
            | stuck => rw [z3] at p'; exact p'.elim
            | ok y h5 =>
              rw [z3] at p'
              rintro v H5 ⟨c5, r5x⟩ l5 r5 rv
              obtain rfl : r5x = A :: aZ.r := l5.tG
              have Rm := CW.trans l5
              have agl := Rm.free ⟨_, eA⟩
              have eA5 : H5 A = some (.lst ws) := by rw [Rm.res A List.mem_cons_self]; exact eA
              dsimp only at p'
              split at p'
              · rename_i hsz
                have ra5 := ra.mono r' Rm
                have L1 := (l'.trans agl).putN (o := .lst (ws ++ [v])) hA fun z => nA (.inr z)
                refine ⟨ws, eA5, by rw [← ra5.length, hs]; exact hsz, hlt, c5, h5, acc ++ [y], ws ++ [v], L1, r5.CP List.mem_cons_self, upd_same, (ra5.append (.cons rv .nil)).cP r5 (fV.CP List.mem_cons_self ⟨_, eA5⟩), (l0.trans Rm.zA).trans (fV.CP List.mem_cons_self ⟨_, eA5⟩), p'⟩
              · exact p'.elim
  · have hi' : i = ds.length := by omega
    subst hi'
    rw [List.drop_length, wX, if_pos hP] at p'
    exact .inl ⟨w2, hf H1 aZ H' c' h' acc ws A l' r' eA ra hA nA p'⟩
noncomputable def ad0 (it : En → AH → Res BX) (g : MG) (t : MT) (f : ME) (own : List Nat) : ME := fun e h => (it e h).bind fun dp h1 => (wX dp.2 g t f own e [] dp.1 h1).bind fun r h2 => .ok (.lst r) h2
noncomputable def aoF (it : En → AH → Res BX) (g : MG) (t : MT) (f : ME) (own : List Nat) : ME := fun e h => (it e h).bind fun dp h1 => (wX dp.2 g t f own e [] dp.1 h1).bind fun r h2 => .ok (.ref h2.length) (h2 ++ [.lst r])
theorem ain {it : En → AH → Res BX} {t : MT} {f : ME} {vs : List Nat} {σ : L2.St} {H : Hp} {Q : VK} {K : PySem.W.Frag} (p : rd K W (ad0 it gt t f vs) σ H Q) : tLc (adZ K W it) (Hi K vs gt) (nu K WF t) (rd K WF f) vs σ H Q :=
  agy (fin := fun r h2 => .ok (.lst r) h2) (fun H1 aZ H' c' h' acc ws A l' r' eA ra hA nA p' => p' _ H' ⟨c', aZ.r⟩ l' (HR.free (al := ⟨c', aZ.r⟩) r') (.lst ⟨eA, fun z => by
    rcases z with z | z
    · exact r'.dis A z List.mem_cons_self
    · exact nA (.inr z)⟩ (ra.cP r' (fV.free (al := ⟨c', aZ.r⟩))))) p
section
variable {elt tg iter : Expr} {ifs : List Expr} {scope : Scope} {own : List (Str × Nat)} {it : En → AH → Res BX} {t : MT} {f : ME} {pos : Pos}
theorem alY (hc : X.calm = true) (hN : X.N.Nodup) (hi : PI X tg iter (adZ X.K W it)) (ok : BlkOk X.N X.env.scope scope own)
    (hg : ∀ (s : Shared) (H : Hp) (C : Addr) (cl : List (Str × Addr)) (fp : List Addr), PG (X.blk s H scope (compEnvC scope cl C X.env) fp) tg (Hi X.K (own.map (·.2)) gt))
    (ht : ∀ (s : Shared) (H : Hp) (C : Addr) (cl : List (Str × Addr)) (fp : List Addr), PTs (X.blk s H scope (compEnvC scope cl C X.env) fp) ifs (nu X.K WF t))
    (he : ∀ (s : Shared) (H : Hp) (C : Addr) (cl : List (Str × Addr)) (fp : List Addr), PE (X.blk s H scope (compEnvC scope cl C X.env) fp) elt (rd X.K WF f)) (hs : ∀ x, foldedSetIterable iter X.env x = pure x := by intro _; rfl) :
    PE X (.ListComp elt [⟨tg, iter, ifs, 0⟩] scope pos) (rd X.K W (ad0 it gt t f (own.map (·.2)))) := (pe_lc hc hN hi ok hg ht he hs).weak fun σ H Q h => ain h
end
open Classical in
noncomputable def agz (P : AH → Prop) (g : MG) (b : MS) : List D → En → AH → RS
  | [], e, h => if P h then .nx e h else .stuck
  | d :: ds, e, h => if P h then (g d e h).st e fun e1 h1 => match b e1 h1 with
    | .nx e2 h2 => agz P g b ds e2 h2
    | .ct e2 h2 => agz P g b ds e2 h2
    | .bk e2 h2 => .nx e2 h2
    | r => r
    else .stuck
noncomputable def aoG (it : En → AH → Res BX) (g : MG) (b : MS) : MS := fun e h => (it e h).st e fun dp h1 => agz dp.2 g b dp.1 e h1
def WL : D → AH → Res BX
  | .ref n, h => match h[n]? with
    | some (.lst ds) => .ok (ds, fun h' => h'[n]? = some (.lst ds)) h
    | _ => .stuck
  | _, _ => .stuck
def WM (fa : ME) : En → AH → Res BX := fun e h => (fa e h).bind fun d h1 => WL d h1
theorem ad1 {K : PySem.W.Frag} {H : Hp} {al : Al} {h : AH} {ds : List D} {n : Nat} {v : V} (r : HR K H al h) (q : Rp K H al (.ref n) v) (e : h[n]? = some (.lst ds)) : ∃ a, v = .ref a ∧ (∃ vs, SqL K H a vs) ∧ adY K (fun h' => h'[n]? = some (.lst ds)) (Itl K a) ds H al := by
  obtain ⟨a, vs, rfl, s, rl⟩ := wV r q (ds := ds) (by simp only [Dj, e])
  refine ⟨a, rfl, ⟨vs, s⟩, fun H' aQ h' l r' e' => ?_⟩
  have q' : Rp K H' aQ (.ref n) (.ref a) := q.cP r l
  obtain ⟨a', vs', ea, s', q'⟩ := wV r' q' (ds := ds) (by simp only [Dj, e'])
  cases ea
  have w := walk_list (K := K) (a := a) (xs := vs')
  rw [← q'.length] at w
  refine ⟨fun i hi => w.goes i H' hi s', w.stops H' s', fun i x H2 hi y => ?_⟩
  obtain ⟨rfl, e⟩ := w.yields i H' x H2 hi s' y
  obtain ⟨d, hd, rp⟩ := q'.get' e
  exact ⟨.refl, r', d, hd, rp⟩
theorem akb {tg e : Expr} (he : PE X e (rd X.K W fa)) : PI X tg e (adZ X.K W (WM fa)) := by
  constructor
  rintro pins s σ H R I ⟨en, al, h, r, re, p⟩
  refine (pi_list (tg := tg) he).run pins s σ H R I ⟨en, al, h, r, re, ?_⟩
  unfold WM at p
  cases q : fa en h with
  | exc c fs h' =>
    rw [q] at p
    exact p
  | stuck =>
    rw [q] at p
    exact p.elim
  | ok d h' =>
    rw [q] at p
    have p : bL X.K (fun H al (dp : BX) J => adY X.K dp.2 J dp.1 H al) H al (fun c d H' => W c d σ H') R (WL d h') := p
    intro v H' aQ l r' rp
    cases d with
    | ref n =>
      simp only [WL] at p
      cases z : h'[n]? with
      | none => rw [z] at p; exact p.elim
      | some c =>
        cases c with
        | lst ds =>
          rw [z] at p
          obtain ⟨a, rfl, s, w⟩ := ad1 r' rp z
          exact ⟨_, rfl, s, p _ H' aQ l r' w⟩
        | dict kvs => rw [z] at p; exact p.elim
        | ins c fs => rw [z] at p; exact p.elim
        | gU kvs => rw [z] at p; exact p.elim
    | _ => exact p.elim
end
end PD
namespace GB
open PySem PySem.W PySem.Spec PySem.Calls PyProof.Rows
section
variable {prog : Program} {w : World} {A : Around} {E : Value → Shared → Prop} {s : Shared}
end
end GB
namespace PD
open PySem PySem.Spec PyProof.Rows L2
section
variable {X : Cx} {W : WX}
end
end PD
namespace L2
open PySem PySem.Spec PyProof.Rows
abbrev Clause := Value × Option Nat × (Addr → Value → Option Addr → TS)
def abv (K : PySem.W.Frag) (Wout : WX) (D : Ends) : List Clause → WX
  | [] => Wout
  | (c, io, ts) :: r => fun cls d σ H => ∃ b, PySem.W.exmOne K cls c = some b ∧ (b = true → ∀ a, H a = none → match io with
      | none => ts a cls d D σ H
      | some i => ts a cls d { nx := fun σ' H' => D.nx (σ'.set i none) H', rt := D.rt, bk := fun σ' H' => D.bk (σ'.set i none) H', ct := fun σ' H' => D.ct (σ'.set i none) H' } (σ.set i (some (.ref a))) H) ∧ (b = false → abv K Wout D r cls d σ H)
inductive T6 (X : Cx) : List ExceptHandler → List Clause → Prop
  | nil : T6 X [] []
  | cons {x : Str} {c : Value} {ts : Addr → Value → Option Addr → TS} {b₀ : Stmt} {suite : List Stmt} {np pos' : Pos} {hds : List ExceptHandler} {l : List Clause} (hc : Names X x c)
      (hsu : ∀ (a : Addr) (oe : Obj) (cls : Value) (d : Option Addr) (pn : List (Addr × Obj)), Zc cls d oe → (∃ vs, oe.data = .fields vs) → PSs (X.suite a ((a, oe) :: pn)) (b₀ :: suite) (ts a cls d)) (r : T6 X hds l) :
      T6 X (.ExceptHandler (some (.Name x np)) none (b₀ :: suite) pos' :: hds) ((c, none, ts) :: l)
  | as_ {x n : Str} {c : Value} {i : Nat} {ts : Addr → Value → Option Addr → TS} {b₀ : Stmt} {suite : List Stmt} {np pos' : Pos} {hds : List ExceptHandler} {l : List Clause} (hN : X.N.Nodup) (hi : X.N[i]? = some n) (hln : X.env.kindOf n = some .local) (hc : Names X x c)
      (hsu : ∀ (a : Addr) (oe : Obj) (cls : Value) (d : Option Addr) (pn : List (Addr × Obj)), Zc cls d oe → (∃ vs, oe.data = .fields vs) → PSs (X.suite a ((a, oe) :: pn)) (b₀ :: suite) (ts a cls d)) (r : T6 X hds l) :
      T6 X (.ExceptHandler (some (.Name x np)) (some n) (b₀ :: suite) pos' :: hds) ((c, some i, ts) :: l)
section
variable {X : Cx} {pos : Pos} {Wout : WX} {pins : List (Addr × Obj)} {σ : St} {H : Hp} {D : Ends} {a : Addr} {cls : Value} {d : Option Addr} {u : Shared}
structure wY (X : Cx) (pins : List (Addr × Obj)) (σ : St) (H : Hp) (D : Ends) (Wout : WX) (a : Addr) (cls : Value) (d : Option Addr) (u : Shared) : Prop where
  ok : X.Ok
  free : H a = none
  out : Wout cls d σ H → wpAny (model X.prog X.w) X.A (handleBy (.ref a) X.env []) (SP X pins D) X.xe u
  word : ∀ {x : Str} {np : Pos} {c : Value} {Q : Value → Shared → Prop} {E : Value → Shared → Prop}, Names X x c → Q c u → wpAny (model X.prog X.w) (X.A.mark (some (.ref a))) (eval (.Name x np) X.env) Q E u
  fits : ∀ {c : Value} {b : Bool}, PySem.W.exmOne X.K cls c = some b → PySem.W.Looks (model X.prog X.w) u.heap (excMatches (.ref a) c) b
  land : ∀ {A : Around} {Q : Unit → Shared → Prop} {E : Value → Shared → Prop},
    (∀ u' oe, Zc cls d oe → (∃ vs, oe.data = .fields vs) → Inv (X.suite a ((a, oe) :: (X.pn ++ pins))) [] σ H u' → Q () u') → wpAny (model X.prog X.w) A (setFlight (.ref a) none) Q E u
theorem wY.plain {x : Str} {c : Value} {ts : Addr → Value → Option Addr → TS} {s1 : Stmt} {su : List Stmt} {np p1 : Pos} {rest : List ExceptHandler} {b : Bool} (L : wY X pins σ H D Wout a cls d u) (hc : Names X x c)
    (suite : ∀ (oe : Obj) (pn : List (Addr × Obj)), Zc cls d oe → (∃ vs, oe.data = .fields vs) → PSs (X.suite a ((a, oe) :: pn)) (s1 :: su) (ts a cls d)) (e : PySem.W.exmOne X.K cls c = some b) (yes : b = true → ts a cls d D σ H)
    (no : b = false → wpAny (model X.prog X.w) X.A (handleBy (.ref a) X.env rest) (SP X pins D) X.xe u) :
    wpAny (model X.prog X.w) X.A (handleBy (.ref a) X.env (.ExceptHandler (some (.Name x np)) none (s1 :: su) p1 :: rest)) (SP X pins D) X.xe u := by
  refine wpAny_handleBy_cons (codeAny_handlers_test (L.word hc ((L.fits e).here ?_))) fun q => nomatch q
  cases b with
  | false => exact no rfl
  | true =>
    refine codeAny_handlers_suite (L.land fun u' oe z f I => wpAny_mono ((suite oe _ z f).run [] u' σ H D I (yes rfl)) (fun way s2 r => ?_) fun _ _ q => False.elim q)
    cases way <;> first
      | (obtain ⟨v2, σ2, H2, I2, r2, q2⟩ := r; exact ⟨v2, σ2, H2, I2.unsuite L.ok, r2, q2⟩)
      | (obtain ⟨σ2, H2, I2, q2⟩ := r; exact ⟨σ2, H2, I2.unsuite L.ok, q2⟩)
theorem wY.named {x n : Str} {c : Value} {i : Nat} {ts : Addr → Value → Option Addr → TS} {s1 : Stmt} {su : List Stmt} {np p1 : Pos} {rest : List ExceptHandler} {b : Bool} (L : wY X pins σ H D Wout a cls d u) (hN : X.N.Nodup) (hi : X.N[i]? = some n) (hln : X.env.kindOf n = some .local) (hc : Names X x c)
    (suite : ∀ (oe : Obj) (pn : List (Addr × Obj)), Zc cls d oe → (∃ vs, oe.data = .fields vs) → PSs (X.suite a ((a, oe) :: pn)) (s1 :: su) (ts a cls d)) (e : PySem.W.exmOne X.K cls c = some b)
    (yes : b = true → ts a cls d { nx := fun σ' H' => D.nx (σ'.set i none) H', rt := D.rt, bk := fun σ' H' => D.bk (σ'.set i none) H', ct := fun σ' H' => D.ct (σ'.set i none) H' } (σ.set i (some (.ref a))) H)
    (no : b = false → wpAny (model X.prog X.w) X.A (handleBy (.ref a) X.env rest) (SP X pins D) X.xe u) :
    wpAny (model X.prog X.w) X.A (handleBy (.ref a) X.env (.ExceptHandler (some (.Name x np)) (some n) (s1 :: su) p1 :: rest)) (SP X pins D) X.xe u := by
  refine wpAny_handleBy_cons (codeAny_handlers_test (L.word hc ((L.fits e).here ?_))) fun q => nomatch q
  cases b with
  | false => exact no rfl
  | true =>
    refine codeAny_handlers_suite_as (L.land fun u' oe z f I => ?_)
    refine store_ok (X := X.suite a ((a, oe) :: (X.pn ++ pins))) (v := .ref a) I hN hi (.inl hln) rfl (fun u2 I2 => ?_) (.inr hln)
    refine wpAny_mono ((suite oe _ z f).run [] u2 _ H _ I2 (yes rfl)) (fun way s2 r => ?_) fun _ _ q => False.elim q
    have bye : ∀ {σ2 : St} {H2 : Hp} {R : Shared → Prop}, Inv (X.suite a ((a, oe) :: (X.pn ++ pins))) [] σ2 H2 s2 → (∀ s3, Inv X pins (σ2.set i none) H2 s3 → R s3) →
        wpAny (model X.prog X.w) X.A (do bindName X.env n .none; unbindBehindTheSuite X.env n p1) (fun _ s3 => R s3) X.xe s2 := fun I3 k => gone_ok (I3.unsuite L.ok) hN hi hln k
    cases way <;> first
      | (obtain ⟨v2, σ2, H2, I3, r2, q2⟩ := r; exact bye I3 fun s3 I4 => ⟨v2, _, H2, I4, r2, q2⟩)
      | (obtain ⟨σ2, H2, I3, q2⟩ := r; exact bye I3 fun s3 I4 => ⟨_, H2, I4, q2⟩)
theorem wY.all {hds : List ExceptHandler} {l : List Clause} (hk : T6 X hds l) (L : wY X pins σ H D Wout a cls d u) (w : abv X.K Wout D l cls d σ H) : wpAny (model X.prog X.w) X.A (handleBy (.ref a) X.env hds) (SP X pins D) X.xe u := by
  induction hk with
  | nil => exact L.out w
  | cons hc hsu r ih =>
    obtain ⟨b, e, yes, no⟩ := w
    exact L.plain hc (fun oe pn z f => hsu a oe cls d pn z f) e (fun z => yes z a L.free) fun z => ih (no z)
  | as_ hN hi hln hc hsu r ih =>
    obtain ⟨b, e, yes, no⟩ := w
    exact L.named hN hi hln hc (fun oe pn z f => hsu a oe cls d pn z f) e (fun z => yes z a L.free) fun z => ih (no z)
end
section
variable {X : Cx} {body : List Stmt} {c0 : ExceptHandler} {cs : List ExceptHandler} {l : List Clause} {pos : Pos} {tb : WX → TS} {Wout : WX}
end
end L2
namespace PD
open PySem PySem.Spec PyProof.Rows L2
section
variable {X : Cx} {W : WX}
abbrev zM := Option Nat × (Str → Option Bool) × MX
def akd (io : Option Nat) (e : En) : Bool := match io with
  | none => true
  | some i => decide (i < e.length)
def runN : List zM → Str → List (Str × D) → En → AH → RS
  | [], c, fs, e, h => .exc c fs e h
  | (io, exm, g) :: r, c, fs, e, h => match exm c with
    | some true => if akd io e = true then match g fs h with
        | some x => .rt x h
        | none => .stuck
      else .stuck
    | some false => runN r c fs e h
    | none => .stuck
def rdY (K : PySem.W.Frag) (ok : Str → Prop) (a : Addr) (cls : Value) (d : Option Addr) (io : Option Nat) (g : MX) : TE := fun st H Q => ∃ c fs al h dd gs, ok c ∧ cls = .ref (He.ga K c) ∧ d = some dd ∧ (∀ i, io = some i → st[i]? = some (some (.ref a))) ∧ HR K H al h ∧ H dd = some (.xd gs) ∧ dM K H al fs gs ∧
  ∃ x, g fs h = some x ∧ ∀ v H' aQ, Le H al H' aQ → HR K H' aQ h → Rp K H' aQ x v → Q v H'
inductive IV (X : Cx) : List ExceptHandler → List zM → List Clause → Prop
  | nil : IV X [] [] []
  | cons {x : Str} {C : Value} {exm : Str → Option Bool} {g : MX} {ex : Expr} {np pos' pos2 : Pos} {hds : List ExceptHandler} {l : List zM} {r : List Clause} (hc : Names X x C) (hex : ∀ c b, exm c = some b → PySem.W.exmOne X.K (.ref (He.ga X.K c)) C = some b)
      (hx : ∀ (a : Addr) (oe : Obj) (cls : Value) (d : Option Addr) (pn : List (Addr × Obj)), Zc cls d oe → (∃ vs, oe.data = .fields vs) → PE (X.suite a ((a, oe) :: pn)) ex (rdY X.K (fun c => exm c = some true) a cls d none g)) (t : IV X hds l r) :
      IV X (.ExceptHandler (some (.Name x np)) none [.Return (some ex) pos2] pos' :: hds) ((none, exm, g) :: l) ((C, none, fun a cls d => tRet (rdY X.K (fun c => exm c = some true) a cls d none g)) :: r)
  | as_ {x n : Str} {C : Value} {i : Nat} {exm : Str → Option Bool} {g : MX} {ex : Expr} {np pos' pos2 : Pos} {hds : List ExceptHandler} {l : List zM} {r : List Clause} (hN : X.N.Nodup) (hi : X.N[i]? = some n) (hln : X.env.kindOf n = some .local) (hc : Names X x C) (hex : ∀ c b, exm c = some b → PySem.W.exmOne X.K (.ref (He.ga X.K c)) C = some b)
      (hx : ∀ (a : Addr) (oe : Obj) (cls : Value) (d : Option Addr) (pn : List (Addr × Obj)), Zc cls d oe → (∃ vs, oe.data = .fields vs) → PE (X.suite a ((a, oe) :: pn)) ex (rdX X.K (fun c => exm c = some true) a cls d i g)) (t : IV X hds l r) :
      IV X (.ExceptHandler (some (.Name x np)) (some n) [.Return (some ex) pos2] pos' :: hds) ((some i, exm, g) :: l) ((C, some i, fun a cls d => tRet (rdX X.K (fun c => exm c = some true) a cls d i g)) :: r)
theorem IV.go {hds : List ExceptHandler} {l : List zM} {r : List Clause} (t : IV X hds l r) {N : Ends} {c : Str} {fs : List (Str × D)} {e' : En} {h' : AH} {H0 H' : Hp} {al aQ : Al} {dd : Addr} {gs : List (Str × V)} {st : L2.St} (l0 : Le H0 al H' aQ) (r' : HR X.K H' aQ h') (u9 : fW X.K H' aQ e' st) (e1 : H' dd = some (.xd gs)) (qf : dM X.K H' aQ fs gs)
    (po : kZ X.K W H0 al N (runN l c fs e' h')) : abv X.K W N r (.ref (He.ga X.K c)) (some dd) st H' := by
  induction t with
  | nil => exact po dd st H' aQ gs l0 r' u9 e1 qf
  | @cons x C exm g ex np pos' pos2 hds l r hc hex hx t ih =>
    unfold runN at po
    cases w : exm c with
    | none => rw [w] at po; exact po.elim
    | some b =>
      rw [w] at po
      refine ⟨b, hex c b w, fun hb1 a ha => ?_, fun hb2 => ?_⟩
      · subst hb1
        dsimp only at po
        rw [if_pos (show akd none e' = true from rfl)] at po
        split at po
        · rename_i x hx
          exact ⟨c, fs, aQ, h', dd, gs, w, rfl, rfl, (fun i z => nomatch z), r', e1, qf, x, hx, fun v H2 cZ l2 r2 q2 => po v H2 cZ (l0.trans l2) r2 q2⟩
        · exact po.elim
      · subst hb2
        exact ih po
  | @as_ x n C i exm g ex np pos' pos2 hds l r hN hi hln hc hex hx t ih =>
    unfold runN at po
    cases w : exm c with
    | none => rw [w] at po; exact po.elim
    | some b =>
      rw [w] at po
      refine ⟨b, hex c b w, fun hb1 a ha => ?_, fun hb2 => ?_⟩
      · subst hb1
        dsimp only at po
        split at po
        · rename_i hil
          have hil : i < e'.length := of_decide_eq_true hil
          rw [u9.1] at hil
          split at po
          · rename_i x hx
            exact ⟨c, fs, aQ, h', dd, gs, w, rfl, rfl, by rw [List.getElem?_set_self hil], r', e1, qf, x, hx, fun v H2 cZ l2 r2 q2 => po v H2 cZ (l0.trans l2) r2 q2⟩
          · exact po.elim
        · exact po.elim
      · subst hb2
        exact ih po
end
end PD
namespace PD
open PySem PySem.Spec PyProof.Rows L2
section
variable {X : Cx} {W : WX}
end
end PD
namespace GB
open PySem PySem.W PySem.Spec PySem.Calls PyProof.Rows L2
section
variable {prog : Program} {w : World} {A : Around} {E : Value → Shared → Prop} {s : Shared} {K : Frag} {x D : Addr} {ox : Obj} {od : Option Obj}
end
end GB
namespace PD
open PySem PySem.Spec PyProof.Rows L2
section
variable {X : Cx} {W : WX} {ok : Str → Prop} {a : Addr} {oe : Obj} {cls : Value} {d : Option Addr} {pn : List (Addr × Obj)} {i : Nat} {n f : Str} {pos p1 p2 : Pos} {io : Option Nat}
end
end PD
namespace GB
open PySem PySem.Spec PyProof.Rows L2
theorem vL {a b : Nat} (h : a = b → False) : @Ne Addr a b := h
inductive ZS | l (a : Addr) | t (a : Addr) | s (z : Str)
namespace ZS
def val : ZS → V | l a => .ref a | t a => .ref a | s z => .str z
def At (K : PySem.W.Frag) (H : Hp) : ZS → List V → Prop
  | l a, xs => SqL K H a xs
  | t a, xs => SqT K H a xs
  | s z, xs => xs = z.cps.toList.map fun c => V.str ⟨#[c]⟩
def Under (n : Nat) : ZS → Prop | l a => a < n | t a => a < n | s _ => True
def Ho (it : Addr) (h : Heap) (i : Nat) : ZS → Prop
  | l a => h.IsListIter it a i
  | t a => h.IsTupleIter it a i
  | s z => ∃ t, h.IsStrIter it (strIterType z) z t i
def fp (it : Addr) : ZS → List Addr | l a => [it, a] | t a => [it, a] | s _ => [it]
theorem Ho.get {it : Addr} {h : Heap} {i : Nat} : ∀ {z : ZS}, z.Ho it h i → ∃ o, h.get? it = some o ∧ ∀ v, o.data ≠ .cell v
  | .l _, ⟨o, e, _, d⟩ => ⟨o, e, fun v q => by rw [d] at q; cases q⟩
  | .t _, ⟨o, e, _, d⟩ => ⟨o, e, fun v q => by rw [d] at q; cases q⟩
  | .s _, ⟨_, o, e, _, d⟩ => ⟨o, e, fun v q => by rw [d] at q; cases q⟩
theorem Ho.keep {it : Addr} {h h' : Heap} {i : Nat} (k : ∀ o, h.get? it = some o → h'.get? it = some o) : ∀ {z : ZS}, z.Ho it h i → z.Ho it h' i
  | .l _, c => Heap.IsListIter.at c k
  | .t _, c => Heap.IsTupleIter.at c k
  | .s _, ⟨u, o, e, r⟩ => ⟨u, o, k o e, r⟩
theorem draws {X : Cx} {pins : List (Addr × Obj)} {σ : L2.St} {H : Hp} {s : Shared} (I : Inv X pins σ H s) {A : Around} (hh : A.handled = none) {it : Addr} {n : Nat} (hlt : n ≤ it) {i : Nat} {z : ZS} (u : z.Under n) {xs : List V} (a : z.At X.K H xs) (c : z.Ho it s.heap i) :
    ∃ (P : Nat → Value → Prop) (St : Nat → Heap → Prop), Draws X.prog X.w A it (z.fp it) xs.length P St ∧ St i s.heap ∧ (∀ j h, St j h → z.Ho it h j) ∧ ∀ j x v, xs[j]? = some x → P j v → RelV x v := by
  cases z with
  | l b =>
    obtain ⟨its, rv, p, _⟩ := I.list a
    have e : its.toArray.size = xs.length := by simpa using rv.length.symm
    have D := Draws.list (prog := X.prog) (w := X.w) hh it b (vL fun q => by have u' : Nat.lt b n := u; have l' : Nat.le n it := hlt; unfold Nat.lt at u'; rw [q] at u'; exact absurd (Nat.le_trans u' l') (Nat.not_succ_le_self it)) its.toArray
    rw [e] at D
    refine ⟨_, _, D, ⟨c, p.isList⟩, fun j h st => st.1, fun j x v hx hv => ?_⟩
    obtain ⟨w, hw, rw'⟩ := rv.get hx
    have : v = w := by simpa [hw] using hv.symm
    exact this ▸ rw'
  | t b =>
    obtain ⟨its, rv, p, _⟩ := I.tuple a
    have e : its.toArray.size = xs.length := by simpa using rv.length.symm
    have D := Draws.tuple (prog := X.prog) (w := X.w) hh it b (vL fun q => by have u' : Nat.lt b n := u; have l' : Nat.le n it := hlt; unfold Nat.lt at u'; rw [q] at u'; exact absurd (Nat.le_trans u' l') (Nat.not_succ_le_self it)) its.toArray
    rw [e] at D
    refine ⟨_, _, D, ⟨c, p⟩, fun j h st => st.1, fun j x v hx hv => ?_⟩
    obtain ⟨w, hw, rw'⟩ := rv.get hx
    have : v = w := by simpa [hw] using hv.symm
    exact this ▸ rw'
  | s z =>
    obtain ⟨t, c⟩ := c
    have a' : xs = z.cps.toList.map fun c => V.str ⟨#[c]⟩ := a
    subst a'
    have D := Draws.text (prog := X.prog) (w := X.w) hh it z t
    have e : z.cps.size = (z.cps.toList.map fun c => V.str ⟨#[c]⟩).length := by simp
    rw [e] at D
    refine ⟨_, _, D, c, fun j h st => ⟨t, st⟩, fun j x v hx hv => ?_⟩
    obtain ⟨c', u', hc, rfl⟩ := hv
    have : x = V.str ⟨#[c']⟩ := by
      have h2 : (z.cps.toList.map fun c => V.str ⟨#[c]⟩)[j]? = some (V.str ⟨#[c']⟩) := by rw [List.getElem?_map]; simp [hc]
      exact (Option.some.inj (hx.symm.trans h2))
    exact this ▸ ⟨u', rfl⟩
theorem inj {X : Cx} {pins : List (Addr × Obj)} {σ : L2.St} {H : Hp} {s : Shared} (I : Inv X pins σ H s) : ∀ {z : ZS} {xs ys : List V}, z.At X.K H xs → z.At X.K H ys → xs = ys
  | .l _, _, _, p, q => I.list_inj p q
  | .t _, _, _, p, q => I.tuple_inj p q
  | .s _, _, _, p, q => Eq.trans p (Eq.symm q)
end ZS
def agA (K : PySem.W.Frag) (a b : ZS) : It :=
  ⟨fun i H => ∃ (xs ys : List V) (x y : V), a.At K H xs ∧ b.At K H ys ∧ xs[i]? = some x ∧ ys[i]? = some y,
    fun i H v H' => ∃ T x y, v = .ref T ∧ H T = none ∧ H' = upd H T (.tup [x, y]) ∧ (∀ xs, a.At K H xs → xs[i]? = some x) ∧ ∀ ys, b.At K H ys → ys[i]? = some y,
    fun i H => ∃ xs ys : List V, a.At K H xs ∧ b.At K H ys ∧ i ≤ xs.length ∧ i ≤ ys.length ∧ (i = xs.length ∨ i = ys.length)⟩
abbrev zfp (n : Nat) : List Addr := [n + 4, n + 2, n + 3, n, n + 1]
theorem T7 {n : Nat} {c : Addr} (h : c ∈ zfp n) : c = n + 4 ∨ c = n + 2 ∨ c = n + 3 ∨ c = n ∨ c = n + 1 := by simpa using h
theorem ake {n : Nat} {a b : ZS} (ua : a.Under n) (ub : b.Under n) : ZipSep2 (n + 4) (n + 2) (n + 3) n (n + 1) (a.fp n) (b.fp (n + 1)) := by
  have sub : ∀ {c : ZS} {k it : Nat}, c.Under n → n ≤ k → k ≠ it → (k : Addr) ∉ c.fp it := fun {c k it} u l ne m => by
    cases c with
    | l x =>
      have m' : (k : Nat) = it ∨ (k : Nat) = x := by simpa [ZS.fp] using m
      have u' : @LT.lt Nat _ x n := u
      rcases m' with q | q
      · exact ne q
      · have q' := Nat.le_of_eq q
        exact absurd (Nat.lt_of_lt_of_le u' (Nat.le_trans l q')) (Nat.lt_irrefl x)
    | t x =>
      have m' : (k : Nat) = it ∨ (k : Nat) = x := by simpa [ZS.fp] using m
      have u' : @LT.lt Nat _ x n := u
      rcases m' with q | q
      · exact ne q
      · have q' := Nat.le_of_eq q
        exact absurd (Nat.lt_of_lt_of_le u' (Nat.le_trans l q')) (Nat.lt_irrefl x)
    | s x =>
      have m' : k = it := by simpa [ZS.fp] using m
      omega
  have hd : ∀ {c : ZS} {it : Addr}, it ∈ c.fp it := fun {c it} => by cases c <;> simp [ZS.fp]
  exact ⟨vL (by omega), vL (by omega), vL (by omega), vL (by omega), hd, sub ua (by omega) (by omega), sub ua (by omega) (by omega), vL (by omega), hd, sub ub (by omega) (by omega), sub ub (by omega) (by omega), sub ub (by omega) (by omega), sub ua (by omega) (by omega)⟩
theorem afi {P : Program} {w : World} {K : PySem.W.Frag} {elts : List Expr} {kk : Nat} {tpos : Pos} {a b : ZS} {n : Nat} (ua : a.Under n) (ub : b.Under n) :
    Turn P w K (.Tuple elts kk tpos) (agA K a b) (zfp n) (n + 4) (fun i h => IsZip h (n + 4) (n + 2) (n + 3) .none ∧ IsTupOf2 h (n + 2) (.ref n) (.ref (n + 1)) ∧ (∃ x y, IsTupOf2 h (n + 3) x y) ∧ a.Ho n h i ∧ b.Ho (n + 1) h i) where
  mem := by simp
  obj := fun i h st c hc => by
    obtain ⟨hz, hI, ⟨x, y, hO⟩, h1, h2⟩ := st
    rcases T7 hc with q | q | q | q | q <;> subst q
    · exact ⟨_, hz, fun v q => nomatch q⟩
    · exact ⟨_, hI, fun v q => nomatch q⟩
    · exact ⟨_, hO, fun v q => nomatch q⟩
    · exact h1.get
    · exact h2.get
  keep := fun i h h' st k => by
    obtain ⟨hz, hI, ⟨x, y, hO⟩, h1, h2⟩ := st
    exact ⟨k _ (by simp) _ hz, k _ (by simp) _ hI, ⟨x, y, k _ (by simp) _ hO⟩, h1.keep fun o q => k n (by simp) o q, h2.keep fun o q => k (n + 1) (by simp) o q⟩
  item := by
    intro X hP hw hK hc i pins s σ H E I hf st hg
    subst hP hw hK
    obtain ⟨hz, hI, ⟨x0, y0, hO⟩, h1, h2⟩ := st
    obtain ⟨xs, ys, x, y, ax, ay, hx, hy⟩ := hg
    have hh : X.A.in1.handled = none := I.ok.hd hc
    obtain ⟨P1, S1, D1, s1, c1, r1⟩ := ZS.draws I hh (Nat.le_refl n) ua ax h1
    obtain ⟨P2, S2, D2, s2, c2, r2⟩ := ZS.draws I hh (Nat.le_succ n) ub ay h2
    have l1 : i < xs.length := (List.getElem?_eq_some_iff.mp hx).1
    have l2 : i < ys.length := (List.getElem?_eq_some_iff.mp hy).1
    have hzl : n + 4 < s.heap.objs.size := Heap.lt_size hz
    refine wpAny_pyNext_zipD2_item (ake ua ub) D1 D2 hz hI hO s1 s2 l1 l2 fun u1 u2 h' tk p1 p2 z' O' s1' s2' hT hsz hk => ?_
    refine ⟨_, rfl, wpAny_letOwnedTupleGo_zip (s := { s with heap := h', toks := tk }) z' fun h'' z'' sb => ?_⟩
    have hT2 : h''.get? s.heap.objs.size = some { cls := .type "tuple", data := .seq #[u1, u2] } := (sb.2 _ (vL (by omega))).trans hT
    have new : ObjOk X.prog X.w (upd H s.heap.objs.size (.tup [x, y])) h'' s.heap.objs.size (.tup [x, y]) :=
      ⟨by show 2 ≤ sizeLine; decide, [u1, u2], .cons (r1 _ _ _ hx p1) (.cons (r2 _ _ _ hy p2) .nil), ⟨_, hT2, rfl, _, rfl⟩⟩
    have I1 : Inv X pins σ (upd H s.heap.objs.size (.tup [x, y])) { s with heap := h'', toks := tk } :=
      I.turnedNew (t' := tk) (ch := zfp n) (fun c o hb q => (sb.2 c (fun q' => hb (by simp [q']))).trans (hk c o (fun q' => hb (by simp [q'])) (fun q' => hb (by simp [q'])) (fun q' => hb (by simp [q'])) (fun q' => hb (by simp [q'])) q)) hf (Nat.le_refl _) new
    have up : ∀ c, c ≠ n + 4 → ∀ o, h'.get? c = some o → h''.get? c = some o := fun c ne o q => (sb.2 c ne).trans q
    refine ⟨.ref s.heap.objs.size, _, I1, rfl, ⟨_, x, y, rfl, I.hok.fresh (Nat.le_refl _), rfl, fun l q => by rw [ZS.inj I q ax]; exact hx, fun l q => by rw [ZS.inj I q ay]; exact hy⟩, ⟨z'', ?_, ⟨u1, u2, up _ (vL (by omega)) _ O'⟩, (c1 _ _ s1').keep (up _ (vL (by omega))), (c2 _ _ s2').keep (up _ (vL (by omega)))⟩, fun c hcm => ?_⟩
    · exact up _ (vL (by omega)) _ (hk _ _ (vL (by omega)) (vL (by omega)) (vL (by omega)) (vL (by omega)) hI)
    · have hlt : @LT.lt Nat _ c s.heap.objs.size := by
        rcases T7 hcm with q | q | q | q | q <;> subst q
        · exact hzl
        · exact Heap.lt_size hI
        · exact Heap.lt_size hO
        · obtain ⟨_, e, _⟩ := h1.get; exact Heap.lt_size e
        · obtain ⟨_, e, _⟩ := h2.get; exact Heap.lt_size e
      rw [upd_ne (Nat.ne_of_lt hlt)]
      exact (hf c hcm).1
  done := by
    intro X hP hw hK hc i pins s σ H E I hf st hg
    subst hP hw hK
    obtain ⟨hz, hI, ⟨x0, y0, hO⟩, h1, h2⟩ := st
    obtain ⟨xs, ys, ax, ay, l1, l2, e⟩ := hg
    have hh : X.A.in1.handled = none := I.ok.hd hc
    obtain ⟨P1, S1, D1, s1, c1, r1⟩ := ZS.draws I hh (Nat.le_refl n) ua ax h1
    obtain ⟨P2, S2, D2, s2, c2, r2⟩ := ZS.draws I hh (Nat.le_succ n) ub ay h2
    exact wpAny_pyNext_zipD2_end (ake ua ub) D1 D2 hz hI hO s1 s2 l1 l2 e fun h' tk hk => ⟨rfl, I.turnedL (t' := tk) (ch := zfp n) (fun c o hb q =>
      hk c o (fun q' => hb (by simp [q'])) (fun q' => hb (by simp [q'])) (fun q' => hb (by simp [q'])) (fun q' => hb (by simp [q'])) q) hf⟩
  self := fun A i s Q E st h => wpAny_pyIter_zip st.1 h
theorem ZS.begins {X : Cx} {pins : List (Addr × Obj)} {σ : L2.St} {H : Hp} {s : Shared} (I : Inv X pins σ H s) {z : ZS} {xs : List V} (a : z.At X.K H xs) {u : Value} (r : RelV z.val u) :
    ∃ (o : Obj) (S : Heap → Prop), Begins u o S ∧ S s.heap ∧ z.Under s.heap.objs.size ∧ ∀ it h, h.get? it = some o → z.Ho it h 0 := by
  cases z with
  | l b =>
    cases r
    obtain ⟨its, rv, p, _⟩ := I.list a
    exact ⟨_, _, begins_list b its.toArray, p.isList, p.lt, fun it h e => ⟨_, e, rfl, rfl⟩⟩
  | t b =>
    cases r
    obtain ⟨its, rv, p, _⟩ := I.tuple a
    obtain ⟨o1, e1, _⟩ := id p
    exact ⟨_, _, begins_tuple b its.toArray, p, Heap.lt_size e1, fun it h e => ⟨_, e, rfl, rfl⟩⟩
  | s z =>
    obtain ⟨t, rfl⟩ := r
    exact ⟨_, _, begins_text z t, trivial, trivial, fun it h e => ⟨t, _, e, rfl, rfl⟩⟩
def alZ (K : PySem.W.Frag) (ta : TA) : TI := fun σ H R => ta σ H fun vs H1 => ∃ a b xs ys, vs = [a.val, b.val] ∧ ZS.At K H1 a xs ∧ ZS.At K H1 b ys ∧ R (agA K a b) H1
theorem aio {X : Cx} {e e2 : Expr} {ta : TA} {p pos tpos : Pos} {elts : List Expr} {kk : Nat} (hg : Gl X "zip") (hm : X.mg "zip" = none) (ha : PA X [e, e2] ta)
    (hs : starEach [e, e2] X.env = (false, eval e X.env) :: starEach [e2] X.env := by rfl) (hpl : (backTo pos (starEach [e2] X.env)).any (·.1) = false := by rfl) :
    PI X (.Tuple elts kk tpos) (.Call (.Name "zip" p) [e, e2] [] pos) (alZ X.K ta) := by
  refine ⟨fun pins s σ H R I h => ?_⟩
  refine Call_ (ld_blt I hg hm PyProof.Rows.boot_zip (PyProof.Rows.callWith_type1 (thn (ha.run pos pins s σ H _ I h) fun us s1 ⟨vs, H1, I1, r1, q1⟩ => ?_) hs hpl))
  obtain ⟨a, b, xs, ys, ex, ax, ay, q⟩ := q1
  subst ex
  cases r1 with
  | cons ra rr =>
    cases rr with
    | cons rb rr =>
      cases rr
      obtain ⟨o1, S1, B1, h1, u1, c1⟩ := ZS.begins I1 ax ra
      obtain ⟨o2, S2, B2, h2, u2, c2⟩ := ZS.begins I1 ay rb
      refine zip_begins2 B1 B2 h1 h2 fun h' hz hI hO g1 g2 hsz hk => wpAny_pyIter_zip hz ?_
      have I2 : Inv X pins σ H1 { s1 with heap := h' } := I1.kept (t' := s1.toks) hk
      refine ⟨s1.heap.objs.size + 4, zfp s1.heap.objs.size, _, _, H1, rfl, I2, afi u1 u2, ⟨hz, hI, ⟨_, _, hO⟩, c1 _ _ g1, c2 _ _ g2⟩, fun c hcm => ?_, q⟩
      have hle : @LE.le Nat _ s1.heap.objs.size c := by rcases T7 hcm with q | q | q | q | q <;> rw [q] <;> omega
      exact I1.fpOk hle (I1.hok.fresh hle)
end GB
namespace PD
open PySem PySem.Spec PyProof.Rows L2 GB
variable {K : PySem.W.Frag} {W : WX} {X : Cx} {H : Hp} {al : Al}
def WQ : D → Option (List D)
  | .lst ds => some ds
  | .dD ds => some ds
  | .tup ds => some ds
  | .str z => some (z.cps.toList.map fun c => .str ⟨#[c]⟩)
  | _ => none
def T8 : List D → AH → Res (List D)
  | [d, e], h => match WQ d, WQ e with
    | some ds, some es => .ok (wR ds es) h
    | _, _ => .stuck
  | _, _ => .stuck
theorem abw {d : D} {v : V} (rp : Rp K H al d v) {h : AH} (r : HR K H al h) {ds : List D} (e : WQ d = some ds) :
    ∃ (z : ZS) (xs : List V), v = z.val ∧ bD K H al ds xs ∧ ∀ H' aQ, fV H al H' aQ → z.At K H' xs := by
  cases rp <;> simp only [WQ, Option.some.injEq, reduceCtorEq] at e
  case str x =>
    subst e
    refine ⟨.s x, _, rfl, ?_, fun _ _ _ => rfl⟩
    generalize x.cps.toList = l
    induction l with
    | nil => exact .nil
    | cons c cs ih => exact .cons (.str _) ih
  case tup a ds' vs s q =>
    subst e
    exact ⟨.t a, vs, rfl, q, fun H' aQ l => Ij r s l⟩
  case lst a ds' vs s q =>
    subst e
    exact ⟨.l a, vs, rfl, q, fun H' aQ l => (s.cP l).sq⟩
  case dD a ds' vs s q =>
    subst e
    exact ⟨.l a, vs, rfl, q, fun H' aQ l => (s.cP l).sq⟩
theorem afj : ∀ (ds es : List D) (i : Nat), i < (wR ds es).length → i < ds.length ∧ i < es.length := fun ds es i h => by
  rw [Io] at h
  omega
theorem ad2 {ds es : List D} {xs ys : List V} {a b : ZS} (s : ∀ H' aQ, fV H al H' aQ → a.At K H' xs) (s2 : ∀ H' aQ, fV H al H' aQ → b.At K H' ys) {h : AH} (r : HR K H al h) (q : bD K H al ds xs) (q2 : bD K H al es ys) : oE K (agA K a b) (wR ds es) H al := by
  intro H' aQ h' l r'
  have sa := s _ _ l
  have sb := s2 _ _ l
  have qa := q.cP r l
  have qb := q2.cP r l
  have la := q.length
  have lb := q2.length
  refine ⟨fun i hi => ?_, ?_, fun i x H2 hi y => ?_⟩
  · obtain ⟨h1, h2⟩ := afj ds es i hi
    exact ⟨xs, ys, xs[i]'(by omega), ys[i]'(by omega), sa, sb, by simp, by simp⟩
  · rw [Io]
    exact ⟨xs, ys, sa, sb, by omega, by omega, by omega⟩
  · obtain ⟨T, x1, x2, rfl, hT, rfl, e1, e2⟩ := y
    obtain ⟨d, hd, rp⟩ := qa.get' (e1 _ sa)
    obtain ⟨d2, hd2, rp2⟩ := qb.get' (e2 _ sb)
    have lf := Le.fresh (o := .tup [x1, x2]) r' hT
    exact ⟨lf, r'.fresh hT, .tup [d, d2], abl ds es i d d2 hd hd2, .tup (SqT.of upd_same) (.cons (rp.mono r' lf) (.cons (rp2.mono r' lf) .nil))⟩
variable {fr : MA} {a b : Expr} {p1 pos : Pos}
theorem akf {elts : List Expr} {kk : Nat} {tpos : Pos} (hg : Gl X "zip") (hm : X.mg "zip" = none) (ha : PA X [a, b] (kW X.K W fr)) (hs : starEach [a, b] X.env = (false, eval a X.env) :: starEach [b] X.env := by rfl) (hpl : (backTo pos (starEach [b] X.env)).any (·.1) = false := by rfl) : PI X (.Tuple elts kk tpos) (.Call (.Name "zip" p1) [a, b] [] pos) (BP X.K W (mW T8 fr)) :=
  (aio hg hm (GB.PA.cl ha) hs hpl).weak fun σ H R h => by
    refine Il (CZ h) ?_
    rintro vs H1 ⟨ds, aZ, h1, r1, q, p1⟩
    unfold T8 at p1
    split at p1
    · cases q with
      | cons q qs =>
        cases qs with
        | cons q2 qs =>
          cases qs
          split at p1
          · rename_i e1 e2
            obtain ⟨z1, xs, rfl, qa, sa⟩ := abw q r1 e1
            obtain ⟨z2, ys, rfl, qb, sb⟩ := abw q2 r1 e2
            exact ⟨_, _, _, _, rfl, sa _ _ Le.refl.zA, sb _ _ Le.refl.zA, p1 _ _ _ .refl r1 (ad2 sa sb r1 qa qb)⟩
          · exact p1.elim
    · exact p1.elim
end PD
namespace GB
open PySem PySem.Spec PyProof.Rows L2 HT
section
variable {prog : Program} {w : World} {A : Around} {E : Value → Shared → Prop} {s : Shared}
end
end GB
namespace PD
open PySem PySem.Spec PyProof.Rows L2 GB
section
variable {K : PySem.W.Frag} {W : WX} {X : Cx} {H : Hp} {al : Al}
end
end PD
namespace PD
open PySem PySem.Spec PyProof.Rows L2
theorem isStr_inj {v : Value} {a b : Str} (h : v.isStr a = true) (h2 : v.isStr b = true) : a = b := by
  cases v <;> simp only [Value.isStr, Bool.false_eq_true] at h h2
  exact (eq_of_beq h).symm.trans (eq_of_beq h2)
theorem U7 {K : PySem.W.Frag} {a : Addr} {ks : List Str} (h : keyB K a ks = true) {k : Str} (hk : k ∉ ks) : PySem.W.nsIn K a k = some none := by
  unfold keyB at h
  unfold PySem.W.nsIn
  split at h
  · rename_i es n sl e
    rw [e]
    dsimp only
    have all := List.all_eq_true.mp h
    have f : es.toList.find? (·.key.isStr k) = none := by
      rw [List.find?_eq_none]
      intro x hx z
      have y := all x hx
      rw [Bool.and_eq_true] at y
      obtain ⟨k', m, i⟩ := List.any_eq_true.mp y.2
      exact hk (isStr_inj z i ▸ m)
    have g : es.toList.any (·.refKey) = false := by
      rw [List.any_eq_false]
      intro x hx z
      have y := all x hx
      rw [Bool.and_eq_true, z] at y
      cases y.1
    rw [f]
    dsimp only
    rw [g]
    rfl
  · cases h
def ad3 (kvs : List (Str × He.Dv)) (k : Str) : Option (Option D) := match kvs.find? fun q => decide (q.1 = k) with
  | some q => (dOf q.2).map some
  | none => some none
theorem KTab.ofG {K : PySem.W.Frag} {w : World} {x : Str} {kvs : List (Str × He.Dv)} (kd : ∃ es n, KDict K w (He.ga K x) es n) (h : He.valsB K (He.ga K x) kvs = true) (hk : keyB K (He.ga K x) (kvs.map (·.1)) = true) : KTab K w x (ad3 kvs) := by
  have t := KTab.of kd h
  refine ⟨kd, fun k d e => ?_, fun k e => ?_⟩
  · refine t.hit k d ?_
    unfold ad3 at e
    unfold tabOf
    split at e
    · rename_i q hq
      try rw [hq]
      exact e
    · cases e
  · unfold ad3 at e
    split at e
    · rename_i q hq
      cases z : dOf q.2 with
      | none => rw [z] at e; cases e
      | some d => rw [z] at e; cases e
    · rename_i hn
      refine U7 hk fun m => ?_
      obtain ⟨p, hp, rfl⟩ := List.mem_map.mp m
      have := List.find?_eq_none.mp hn p hp
      exact this (decide_eq_true rfl)
end PD
namespace PD
open PySem PySem.Spec PyProof.Rows L2
section
variable {X : Cx} {W : WX} {x : Str} {e : Expr} {es : List Expr} {fa : MA} {p pos pos' : Pos} {B newId initId : String} {bmB : List Value}
end
end PD
namespace L2
open PySem PySem.Spec PyProof.Rows
section
variable {X : Cx} {pos : Pos} {Wout : WX} {pins : List (Addr × Obj)} {σ : St} {H : Hp} {D : Ends} {a : Addr} {cls : Value} {d : Option Addr} {t : Shared}
structure anK (X : Cx) (pins : List (Addr × Obj)) (σ : St) (H : Hp) (D : Ends) (Wout : WX) (a : Addr) (cls : Value) (d : Option Addr) (t : Shared) (G : Heap → Prop) : Prop where
  on : ∀ h, G h → wY X pins σ H D Wout a cls d { t with heap := h }
  up : ∀ h o, G h → G (h.push o)
  kin : ∀ h, G h → X.K.In h
  ty : ∀ h, G h → PySem.W.Looks (model X.prog X.w) h (typeOf (.ref a)) cls
variable {G : Heap → Prop} {ts : Addr → Value → Option Addr → TS} {s1 : Stmt} {su : List Stmt} {rest : List ExceptHandler} {b : Bool} {te : Expr} {p1 : Pos}
end
section
variable {X : Cx} {body : List Stmt} {hds : List ExceptHandler} {pos : Pos} {tb : WX → TS} {Wout : WX}
end
end L2
namespace PD
open PySem PySem.Spec PyProof.Rows L2
section
variable {X : Cx} {W : WX}
end
end PD
namespace PD
open PySem PySem.Spec PyProof.Rows L2
section
variable {X : Cx} {W : WX} {gt g1 : MG} {pos : Pos}
section
variable {elt tg iter tg1 iter1 : Expr} {ifs ifs1 : List Expr} {scope : Scope} {own : List (Str × Nat)} {vs1 : List Nat} {it it1 : En → AH → Res (List D)} {t t1 : MT} {f : ME}
end
end
end PD
namespace PD
open PySem PySem.Spec PyProof.Rows L2
structure WR (K : PySem.W.Frag) (x : Str) (qs : List (Int × Str)) : Prop where
  ex : ∃ es n, K.lookup (He.ga K x) = some ⟨.type "dict", none, .dict es n, #[]⟩ ∧ yK K es.toList qs = true
  low : (He.ga K x == sysModules) = false
theorem WR.of {K : PySem.W.Frag} {x : Str} {qs : List (Int × Str)} (h : ahk K x qs = true) : WR K x qs := by
  unfold ahk at h
  split at h
  · rename_i es n sl e
    simp only [Bool.and_eq_true, decide_eq_true_eq, Bool.not_eq_true'] at h
    obtain ⟨⟨h1, h2⟩, h3⟩ := h
    subst h1
    exact ⟨⟨es, n, e, h3⟩, h2⟩
  · cases h
theorem U8 {K : PySem.W.Frag} : ∀ {es : List DictEntry} {qs : List (Int × Str)}, yK K es qs = true → ∀ e ∈ es, ∃ i t, e.key = .int i t ∧ e.hash = hashInt i
  | [], _, _, e, he => by cases he
  | d :: es, [], h, _, _ => by simp [yK] at h
  | d :: es, q :: qs, h, e, he => by
    simp only [yK, Bool.and_eq_true, decide_eq_true_eq] at h
    obtain ⟨⟨⟨h1, h2⟩, h3⟩, h4⟩ := h
    rcases List.mem_cons.mp he with z | z
    · subst z
      split at h1
      · rename_i i t hk
        cases of_decide_eq_true h1
        exact ⟨_, t, hk, h2⟩
      · cases h1
    · exact U8 h4 e z
theorem U9 {K : PySem.W.Frag} {i : Int} : ∀ {es : List DictEntry} {qs : List (Int × Str)}, yK K es qs = true → (es.find? fun e => Value.isInt i e.key).map (·.val) = (qs.find? fun q => decide (q.1 = i)).map fun q => Value.ref (He.ga K q.2)
  | [], [], _ => rfl
  | [], q :: qs, h => by simp [yK] at h
  | d :: es, [], h => by simp [yK] at h
  | d :: es, q :: qs, h => by
    simp only [yK, Bool.and_eq_true, decide_eq_true_eq] at h
    obtain ⟨⟨⟨h1, h2⟩, h3⟩, h4⟩ := h
    have ih := U9 (i := i) h4
    split at h1
    · rename_i j t hk
      cases of_decide_eq_true h1
      have e : Value.isInt i d.key = decide (q.1 = i) := by
        rw [hk]
        simp only [Value.isInt]
        by_cases z : q.1 = i
        · simp [z]
        · simp [z]
      by_cases z : q.1 = i
      · rw [List.find?_cons_of_pos (by rw [e]; exact decide_eq_true z), List.find?_cons_of_pos (by exact decide_eq_true z), Option.map_some, Option.map_some, h3]
      · rw [List.find?_cons_of_neg (by rw [e, decide_eq_false z]; exact Bool.false_ne_true), List.find?_cons_of_neg (by rw [decide_eq_false z]; exact Bool.false_ne_true)]
        exact ih
    · cases h1
section
variable {X : Cx} {W : WX} {x : Str} {qs : List (Int × Str)}
theorem WR.map (T : WR X.K x qs) {h : Heap} (k : X.K.In h) : h.MapOf (PySem.intKind X.prog X.w) (He.ga X.K x) (fun i => (qs.find? fun q => decide (q.1 = i)).map fun q => Value.ref (He.ga X.K q.2)) := by
  obtain ⟨es, n, e1, e2⟩ := T.ex
  refine ⟨_, es, n, k _ _ e1, ⟨rfl, rfl, rfl⟩, rfl, fun e he => ?_, fun i => ?_⟩
  · obtain ⟨i, t, h1, h2⟩ := U8 e2 e (Array.mem_toList_iff.mpr he)
    exact ⟨i, by rw [h1]; exact PySem.intKind_is X.prog X.w i t, h2⟩
  · obtain ⟨l⟩ := es
    show findBy Value.isInt _ i = _
    unfold findBy
    rw [List.find?_toArray]
    exact U9 e2
end
end PD
namespace PD
open PySem PySem.Spec PyProof.Rows L2
section
variable {X : Cx} {W : WX} {gt : MG} {fa : ME} {f0 : MS}
end
end PD
namespace PD
open PySem PySem.Spec PyProof.Rows L2
section
variable {X : Cx} {W : WX}
end
end PD
namespace GB
open PySem PySem.SeqAt
open AutoSeq1 (wpAny_loadPart')
open MeetsSeq MeetsSeq2 MeetsSeq3 SeqRoads2
section
variable {prog : Program} {w : World} {A : Around} {E : Value → Shared → Prop} {s : Shared}
end
end GB
namespace PD
open PySem PySem.Spec PyProof.Rows L2
open Classical in
noncomputable def neP (cs : List Str) (ts : List String) (m : List D → AH → Res D) : O2 := fun d e h => match d, e with
  | .tup [a, .lst []], .tup [c, .lst []] => match clsOf a h, clsOf c h with
    | some (n, _), some _ => if n ∈ cs ∧ anx cs ts (BW c h) = true ∧ anz m [a, c] h = some (true, h) then some (.bl false, h) else none
    | _, _ => none
  | _, _ => none
section
variable {X : Cx} {W : WX} {k : Nat} {f : Addr} {x q : Str} {st : Stmt} {dvs : List V} {kws : List (Str × V)} {ps : List Str} {m : List D → AH → Res D} {cs : List Str} {ts : List String}
end
end PD
namespace PD
open PySem PySem.Spec PyProof.Rows L2
section
variable {K : PySem.W.Frag} {H H' : Hp} {al aQ : Al} {h h' : AH} {n : Nat} {a : Addr} {kvs kvs' : List (Key × D)} {ws : List (Key × V)} {od : Obj}
structure Va (H : Hp) (al : Al) (a : Addr) (H' : Hp) : Prop where
  here : al.has a
  keep : ∀ b, b ≠ a → H' b = H b
theorem Va.ne (l : Va H al a H') {b : Addr} (n : ¬ al.has b) : b ≠ a := fun z => n (z ▸ l.here)
mutual
theorem Rp.fG (r : HR K H al h) (l : Va H al a H') : ∀ {d : D} {v : V}, Rp K H al d v → Rp K H' al d v
  | _, _, .non => .non
  | _, _, .bl b => .bl b
  | _, _, .int i => .int i
  | _, _, .str x => .str x
  | _, _, .ty n => .ty n
  | _, _, .glo x => .glo x
  | _, _, .ref e => .ref e
  | _, _, .tup s q => .tup (by
      rcases s with s | s
      · have n := r.aeW s
        rcases s with s | ⟨o, s⟩
        · exact .inl (.inl ((l.keep _ (l.ne n)).trans s))
        · exact .inl (.inr ⟨o, (l.keep _ (l.ne n)).trans s⟩)
      · exact .inr s) (bD.fG r l q)
  | _, _, .lst s q => .lst ⟨(l.keep _ (l.ne s.2)).trans s.1, s.2⟩ (bD.fG r l q)
  | _, _, .dD s q => .dD (by
      rcases s with ⟨o, s, n⟩ | s
      · exact .inl ⟨o, (l.keep _ (l.ne n)).trans s, n⟩
      · exact .inr s) (bD.fG r l q)
  | _, _, .obj e n q => .obj ((l.keep _ (l.ne n)).trans e) n (dM.fG r l q)
theorem bD.fG (r : HR K H al h) (l : Va H al a H') : ∀ {ds : List D} {vs : List V}, bD K H al ds vs → bD K H' al ds vs
  | _, _, .nil => .nil
  | _, _, .cons q qs => .cons (Rp.fG r l q) (bD.fG r l qs)
theorem dM.fG (r : HR K H al h) (l : Va H al a H') : ∀ {ds : List (Str × D)} {vs : List (Str × V)}, dM K H al ds vs → dM K H' al ds vs
  | _, _, .nil => .nil
  | _, _, .cons q qs => .cons (Rp.fG r l q) (dM.fG r l qs)
end
theorem eG.fG (r : HR K H al h) (l : Va H al a H') {b : Addr} {c : Cell} (ne : b ≠ a) (q : eG K H al b c) : eG K H' al b c := by
  have e := l.keep b ne
  cases c with
  | lst ds =>
    obtain ⟨vs, z, q⟩ := q
    exact ⟨vs, e.trans z, bD.fG r l q⟩
  | dict kvs =>
    obtain ⟨ws, z, k, q⟩ := q
    exact ⟨ws, e.trans z, k, bD.fG r l q⟩
  | ins c fs =>
    obtain ⟨dx, gs, z, q⟩ := q
    exact ⟨dx, gs, e.trans z, dM.fG r l q⟩
  | gU kvs =>
    obtain ⟨o, ws, z, k, q⟩ := q
    exact ⟨o, ws, e.trans z, k, bD.fG r l q⟩
theorem HR.unlock (r0 : HR K H al h) (z : al.c[n]? = some a) (hH : H a = some (.dK ws)) (l : Le (upd H a (.frz od (.dK ws))) al H' aQ) (r : HR K H' aQ h') (e : h'[n]? = some (.gU kvs')) :
    HR K (upd H' a (.dK ws)) aQ (h'.set n (.dict kvs')) ∧ Le H al (upd H' a (.dK ws)) aQ ∧ Va H' aQ a (upd H' a (.dK ws)) := by
  have ha : a ∈ al.c := List.mem_of_getElem? z
  have na := r0.dis a ha
  have z' : aQ.c[n]? = some a := by
    obtain ⟨t, ht⟩ := l.pre
    rw [ht, List.getElem?_append_left (List.getElem?_eq_some_iff.mp z).1]
    exact z
  have ha' : a ∈ aQ.c := List.mem_of_getElem? z'
  have eH := l.lk a _ _ upd_same
  have u : Va H' aQ a (upd H' a (.dK ws)) := ⟨.inl ha', fun b ne => upd_ne ne⟩
  refine ⟨⟨r.nd, by simp [r.len], r.dis, fun b hb => ?_, fun m c b e1 e2 => ?_⟩, ⟨l.pre, l.tG, fun b o q nb => ?_, fun b hb => ?_, fun b hb => ?_, fun b o' u' q => ?_⟩, u⟩
  · have ne : b ≠ a := fun w => by
      rw [w, l.tG] at hb
      exact na hb
    rw [upd_ne ne]
    exact r.rs b hb
  · by_cases hm : n = m
    · subst hm
      rw [z'] at e2
      cases e2
      have hl : n < h'.length := (List.getElem?_eq_some_iff.mp e).1
      rw [List.getElem?_set_self hl] at e1
      cases e1
      obtain ⟨o, ws2, y, k, q⟩ := r.at_ n _ a e z'
      rw [eH] at y
      cases y
      exact ⟨ws, upd_same, k, bD.fG r u q⟩
    · rw [List.getElem?_set_ne hm] at e1
      refine eG.fG r u (fun w => hm ?_) (r.at_ m c b e1 e2)
      subst w
      have l1 := (List.getElem?_eq_some_iff.mp z').1
      exact (List.getElem?_inj l1 r.nd).mp (z'.trans e2.symm)
  · have ne : b ≠ a := fun w => nb (.inl (w ▸ ha))
    rw [upd_ne ne]
    exact l.keep b o (by rw [upd_ne ne]; exact q) nb
  · have ne : b ≠ a := fun w => na (w ▸ hb)
    rw [upd_ne ne, l.res b hb, upd_ne ne]
  · rcases l.new b hb with w | w
    · exact .inl w
    · by_cases ne : b = a
      · exact .inl (by rw [ne]; exact ha)
      · rw [upd_ne ne] at w
        exact .inr w
  · have ne : b ≠ a := fun w => by
      rw [w, hH] at q
      cases q
    rw [upd_ne ne]
    exact l.lk b o' u' (by rw [upd_ne ne]; exact q)
end
section
variable {X : Cx} {W : WX} {fd f : ME} {ex : Expr}
def pP (fd f : ME) : ME := fun e h => match fd e h with
  | .ok (.ref n) _ => match h[n]? with
    | some (.dict kvs) => (f e (h.set n (.gU kvs))).bind fun d h2 => match h2[n]? with
      | some (.gU abx) => .ok d (h2.set n (.dict abx))
      | _ => .stuck
    | _ => .stuck
  | _ => .stuck
theorem RJ (he : PE X ex (rd X.K W f)) : PE X ex (rd X.K W (pP fd f)) := (pe_lock he).weak fun σ H Q ⟨e, al, h, r, re, p⟩ => by
  unfold pP at p
  split at p
  · rename_i n h0 hf
    split at p
    · rename_i kvs hn
      obtain ⟨a, z, ok⟩ := r.addr hn
      obtain ⟨ws, eH, k, qs⟩ := ok
      refine ⟨a, .dK ws, eH, trivial, fun od => ?_⟩
      obtain ⟨r2, l2⟩ := r.put (o := .frz od (.dK ws)) (c := .gU kvs) z (fun H' aQ l' e' => ⟨od, ws, e', k, qs.mono r l'⟩) (fun kv w => by rw [hn] at w; cases w)
      refine ⟨e, al, _, r2, re.mono r l2, ?_⟩
      cases y : f e (h.set n (.gU kvs)) with
      | stuck => rw [y] at p; exact p.elim
      | exc c fs h' =>
        rw [y] at p
        intro a' H' aQ gs l' r' e1 e2
        exact p a' H' aQ gs (l2.trans l') r' e1 e2
      | ok d h2 =>
        rw [y] at p
        simp only [Res.tV] at p
        split at p
        · rename_i abx hn2
          intro v H' aQ l' r' q
          obtain ⟨r3, l3, u3⟩ := HR.unlock r z eH l' r' hn2
          exact ⟨l'.lk a _ _ upd_same, p v _ aQ l3 r3 (Rp.fG r' u3 q)⟩
        · exact p.elim
    · exact p.elim
  · exact p.elim
end
section
variable {X : Cx} {W : WX} {fd : ME} {de tg : Expr} {apos cpos : Pos}
def RK (fd : ME) : En → AH → Res (List D) := fun e h => (fd e h).bind fun d h1 => match d with
  | .ref n => match h1[n]? with
    | some (.gU kvs) => .ok (kvs.map (·.2)) h1
    | _ => .stuck
  | _ => .stuck
def keyD : Key → D
  | .inl i => .int i
  | .inr s => .str s
def itI (fd : ME) : En → AH → Res (List D) := fun e h => (fd e h).bind fun d h1 => match d with
  | .ref n => match h1[n]? with
    | some (.gU kvs) => .ok (kvs.map fun q => .tup [keyD q.1, q.2]) h1
    | _ => .stuck
  | _ => .stuck
theorem ad4 {K : PySem.W.Frag} {H : Hp} {al : Al} {h : AH} {a : Addr} {o : Obj} {ws : List (Key × V)} {kvs : List (Key × D)} (r : HR K H al h) (e : H a = some (.frz o (.dK ws))) (q : bD K H al (kvs.map (·.2)) (ws.map (·.2))) :
    oE K (Itd a o ws) (kvs.map (·.2)) H al := by
  intro H' aQ h' l r'
  have e' := l.lk a _ _ e
  have q' := q.cP r l
  have hl := q'.length
  simp only [List.length_map] at hl
  refine ⟨fun i hi => ⟨e', by simp only [List.length_map] at hi; omega⟩, ⟨e', by simp only [List.length_map]; omega⟩, fun i x H2 hi y => ?_⟩
  obtain ⟨rfl, k, hk⟩ := y
  obtain ⟨d, hd, rp⟩ := q'.get' (i := i) (v := x) (by rw [List.getElem?_map, hk]; rfl)
  exact ⟨.refl, r', d, hd, rp⟩
theorem acB {K : PySem.W.Frag} {H : Hp} {al : Al} {h : AH} {a : Addr} {o : Obj} {ws : List (Key × V)} {kvs : List (Key × D)} (r : HR K H al h) (e : H a = some (.frz o (.dK ws))) (k : ws.map (·.1) = kvs.map (·.1)) (q : bD K H al (kvs.map (·.2)) (ws.map (·.2))) :
    oE K (Iti a o ws) (kvs.map fun q => D.tup [keyD q.1, q.2]) H al := by
  intro H' aQ h' l r'
  have e' := l.lk a _ _ e
  have q' := q.cP r l
  have hl := q'.length
  simp only [List.length_map] at hl
  refine ⟨fun i hi => ⟨e', by simp only [List.length_map] at hi; omega⟩, ⟨e', by simp only [List.length_map]; omega⟩, fun i x H2 hi y => ?_⟩
  obtain ⟨T, ky, v, hk, rfl, hT, rfl⟩ := y
  obtain ⟨d, hd, rp⟩ := q'.get' (i := i) (v := v) (by rw [List.getElem?_map, hk]; rfl)
  rw [List.getElem?_map] at hd
  obtain ⟨⟨k2, d2⟩, hkv, rfl⟩ := Option.map_eq_some_iff.mp hd
  have ek : ky = k2 := by
    have := congrArg (fun l => l[i]?) k
    simp only [List.getElem?_map, hk, hkv, Option.map_some] at this
    exact Option.some.inj this
  subst ek
  have lf := Le.fresh (o := .tup [kV ky, v]) r' hT
  refine ⟨lf, r'.fresh hT, .tup [keyD ky, d2], by rw [List.getElem?_map, hkv]; rfl, .tup (SqT.of upd_same) (.cons ?_ (.cons (rp.mono r' lf) .nil))⟩
  cases ky with
  | inl i => exact .int i
  | inr s => exact .str s
theorem aby (he : PE X de (rd X.K W fd)) (hbase : attributeBase de "values" X.env (eval de X.env) = eval de X.env := by rfl) (hline : (apos.endLine == cpos.line) = true := by rfl) :
    PI X tg (.Call (.Attribute de "values" apos) [] [] cpos) (BP X.K W (RK fd)) := (pi_values he hbase hline).weak fun σ H R ⟨e, al, h, r, re, p⟩ => by
  refine ⟨e, al, h, r, re, (bL.bind p).mono ?_⟩
  rintro x H1 ⟨d, aZ, h1, l, r1, q, p1⟩
  split at p1
  · rename_i n
    split at p1
    · rename_i kvs hn
      cases q with
      | ref z =>
        obtain ⟨o, ws, e1, k, qs⟩ := r1.at_ n _ _ hn z
        exact ⟨_, o, ws, rfl, e1, p1 _ H1 aZ .refl r1 (ad4 r1 e1 qs)⟩
    · exact p1.elim
  · exact p1.elim
theorem ac0 {elts : List Expr} {kk : Nat} {tpos : Pos} (he : PE X de (rd X.K W fd)) (hbase : attributeBase de "items" X.env (eval de X.env) = eval de X.env := by rfl) (hline : (apos.endLine == cpos.line) = true := by rfl) :
    PI X (.Tuple elts kk tpos) (.Call (.Attribute de "items" apos) [] [] cpos) (BP X.K W (itI fd)) := (pi_items he hbase hline).weak fun σ H R ⟨e, al, h, r, re, p⟩ => by
  refine ⟨e, al, h, r, re, (bL.bind p).mono ?_⟩
  rintro x H1 ⟨d, aZ, h1, l, r1, q, p1⟩
  split at p1
  · rename_i n
    split at p1
    · rename_i kvs hn
      cases q with
      | ref z =>
        obtain ⟨o, ws, e1, k, qs⟩ := r1.at_ n _ _ hn z
        exact ⟨_, o, ws, rfl, e1, p1 _ H1 aZ .refl r1 (acB r1 e1 k qs)⟩
    · exact p1.elim
  · exact p1.elim
end
end PD
namespace PD
open PySem PySem.Spec PyProof.Rows L2
section
variable {X : Cx} {W : WX} {fo fa : ME} {o e : Expr} {cs : List Str} {f : Str} {pos : Pos} {g1 g2 : MG}
def RL (cs : List Str) (f : Str) (e : En) (v o : D) (h : AH) : Res En := match o with
  | .ref n => match h[n]? with
    | some (.ins c fs) => if c ∈ cs ∧ fs.length < 1000 then .ok e (h.set n (.ins c (putD f v fs))) else .stuck
    | _ => .stuck
  | _ => .stuck
def ad5 (cs : List Str) (f : Str) (fo : ME) : MG := fun v e h => (fo e h).bind fun o h1 => RL cs f e v o h1
theorem ahE (hC : ∀ c ∈ cs, Cls X.K (He.ga X.K c) ∧ NoAttr X.K (He.ga X.K c) f) (ho : PE X o (rd X.K W fo)) : PG X (.Attribute o f pos) (CQ X.K W (ad5 cs f fo)) := by
  refine ⟨fun pins s σ H v u Q I rv ⟨d, en, al, h, r, re, q, p⟩ => ?_⟩
  rw [assign_Attribute]
  refine wpAny_bind (wpAny_holding (wpAny_mono (ho.run pins s σ H (fun w H1 => ∃ d1 aZ h1, Le H al H1 aZ ∧ HR X.K H1 aZ h1 ∧ Rp X.K H1 aZ d1 w ∧ bL X.K (fun H al e st => fW X.K H al e st) H1 aZ (fun c d H' => W c d σ H') Q (RL cs f en d d1 h1)) I ⟨en, al, h, r, re, bL.bind p⟩) (fun ov s1 z => ?_) fun _ _ z => z))
  obtain ⟨w, H1, I1, rw', d1, aZ, h1, l1, r1, q1, p1⟩ := z
  unfold RL at p1
  split at p1
  · rename_i n
    split at p1
    · rename_i c fs hx
      split at p1
      · rename_i hc
        cases q1 with
        | ref ea =>
          rename_i a
          obtain ⟨dx, gs, e1, qf⟩ := r1.at_ n _ _ hx ea
          obtain ⟨r3, l3⟩ := r1.put (o := .ins (He.ga X.K c) dx (putF f v gs)) (c := .ins c (putD f d fs)) ea (fun H' aQ l' e' => ⟨dx, _, e', (qf.mono r1 l').put ((q.mono r l1).mono r1 l')⟩) (fun kv w => by rw [hx] at w; cases w)
          obtain rfl : ov = Value.ref a := rw'
          refine wpAny_bind (wpAny_standAt (wpAny_bind (wpAny_holding ?_)))
          exact setattr_ok I1 e1 (hC c hc.1).1 (hC c hc.1).2 (by rw [← qf.length]; exact hc.2) rv fun s2 I2 => wpAny_release ⟨σ, _, I2, p1 _ _ _ l3 r3 ((re.mono r l1).mono r1 l3)⟩
      · exact p1.elim
    · exact p1.elim
  · exact p1.elim
def ad6 (fa : ME) (g1 g2 : MG) : MS := fun e h => (fa e h).st e fun d h1 => (g1 d e h1).st e fun e1 h2 => (g2 d e1 h2).st e1 fun e2 h3 => .nx e2 h3
theorem akg {t1 t2 : Expr} (he : PE X e (rd X.K W fa)) (h1 : PG X t1 (CQ X.K W g1)) (h2 : PG X t2 (CQ X.K W g2)) (ha : (assignEach [t1, t2] X.env).map (·.2) = [assign t1 X.env, assign t2 X.env] := by rfl) (hw : swappedStores [t1, t2] e X.env = pure none := by rfl) :
    PS X (.Assign [t1, t2] e pos) (lu X.K W (ad6 fa g1 g2)) := (ps_asg2 he h1 h2 ha hw).weak fun N σ H ⟨en, al, h, r, re, p⟩ => by
  refine ⟨en, al, h, r, re, (jB r re p).mono ?_⟩
  rintro v H1 ⟨d, aZ, h1, l, r1, q, p1⟩
  refine ⟨d, en, aZ, h1, r1, re.mono r l, q, (jB r1 (re.mono r l) p1).mono ?_⟩
  rintro st H2 ⟨e2, cZ, h2, l2, r2, wQ, p2⟩
  refine ⟨d, e2, cZ, h2, r2, wQ, q.mono r1 l2, (jB r2 wQ p2).mono ?_⟩
  rintro st3 H3 ⟨e3, UL, h3, l3, r3, Rk, p3⟩
  exact p3 st3 H3 UL .refl r3 Rk
def sO : ON
  | [.ref n], h => match h[n]? with
    | some (.dict kvs) => some (.ref h.length, h ++ [.dict kvs])
    | _ => none
  | _, _ => none
theorem ac1 : CallR X (.type "dict") (rN X.K sO) := by
  rintro pins s σ H xs us Q I rv ⟨ds, al, h, r, p, po⟩
  unfold sO at po
  split at po
  · rename_i n
    cases p with
    | cons p p2 =>
      cases p2
      cases p with
      | ref z =>
        split at po
        · rename_i kvs hn
          obtain ⟨ws, eH, k, qs⟩ := r.at_ n _ _ hn z
          refine call_dictD pins s σ H _ us Q I rv ⟨_, ws, rfl, .inl eH, fun a hp => ?_⟩
          obtain ⟨r', l⟩ := r.push (o := .dK ws) (c := .dict kvs) hp fun H' aQ l e => ⟨ws, e, k, qs.mono r l⟩
          exact po _ _ _ l r' (.ref (by rw [← r.len]; simp))
        · exact po.elim
  · exact po.elim
end
def noX : RS → RS
  | .exc _ _ _ _ => .stuck
  | r => r
def T9 (b f : MS) : MS := fun e h => match b e h with
  | .nx e1 h1 => noX (f e1 h1)
  | .exc c fs e1 h1 => match f e1 h1 with
    | .nx e2 h2 => .exc c fs e2 h2
    | _ => .stuck
  | _ => .stuck
def al5 (tb : WX → TS) (tf tfs : TS) (Wo : WX) : TS := fun D σ H => tb (wFin tfs Wo) { nx := fun σ1 H1 => tf D σ1 H1, rt := fun _ _ => False } σ H
section
variable {X : Cx} {W : WX} {body : List Stmt} {f0 : Stmt} {fs : List Stmt} {pos : Pos}
theorem aip {tb : WX → TS} {tf tfs : TS} {Wo : WX} (hs : X.stack = X.env :: X.outer) (hf : X.env.frame = some X.env.locals) (hx : X.ex = []) (tk : Takes X Wo)
    (hb : ∀ (W : WX) (pn : List (Addr × Obj)) (xe : Value → Shared → Prop), Takes (X.tr pn xe) W → PassesOwn (model X.prog X.w) X.A X.env xe → PSs (X.tr pn xe) body (tb W))
    (h1 : PSs X.nox (f0 :: fs) tf) (h2 : ∀ (a : Addr) (pn : List (Addr × Obj)), PSs (X.suite a pn) (f0 :: fs) tfs) : PS X (.Try body [] [] (f0 :: fs) pos) (al5 tb tf tfs Wo) := by
  refine ⟨fun pins s σ H D I z => wpAny_Try_finally ?_⟩
  have ok := I.ok
  have run := (hb (wFin tfs Wo) (X.pn ++ pins) (fun x s₁ => wpAny (model X.prog X.w) X.A (noteFrame x X.env) (fun _ s₂ => FinallyRaised X.prog X.w X.A X.xe X.env (f0 :: fs) (SP X pins D) x s₂)
    (FinallyRaised X.prog X.w X.A X.xe X.env (f0 :: fs) (SP X pins D)) s₁) (fun u s' xx => fin_exc hs hf hx ok tk h2 xx) PassesOwn.looking).run [] s σ H { nx := fun σ1 H1 => tf D σ1 H1, rt := fun _ _ => False } (I.toTry _) z
  refine wpAny_mono run (fun g s1 y => ?_) fun _ _ y => y
  cases g with
  | ret u => exact False.elim y.choose_spec.choose_spec.choose_spec.2.2
  | brk => exact False.elim y.choose_spec.choose_spec.2
  | cont => exact False.elim y.choose_spec.choose_spec.2
  | next =>
    obtain ⟨σ1, H1, J1, q1⟩ := y
    refine wpAny_execs_nil (wpAny_mono (h1.run pins s1 σ1 H1 D ((J1.ofTry ok).wish _) q1) (fun g2 s2 q2 => ?_) fun _ _ y => False.elim y)
    have q3 : SP X pins D g2 s2 := q2.unwish
    cases g2 <;> exact q3
theorem agB {K : PySem.W.Frag} {H : Hp} {al : Al} {N : Ends} {r : RS} (p : kZ K W H al N (noX r)) : kZ K WF H al N r := by
  cases r <;> first | exact p | exact p.elim
theorem al6 {b f : MS} (ct : cA X W) (hs : X.stack = X.env :: X.outer) (hf : X.env.frame = some X.env.locals) (hx : X.ex = [])
    (hb : ∀ (W : WX) (pn : List (Addr × Obj)) (xe : Value → Shared → Prop), cA (X.tr pn xe) W → PSs (X.tr pn xe) body (lu X.K W b))
    (h1 : PSs X.nox (f0 :: fs) (lu X.K WF f)) (h2 : ∀ (a : Addr) (pn : List (Addr × Obj)), PSs (X.suite a pn) (f0 :: fs) (lu X.K WF f)) : PS X (.Try body [] [] (f0 :: fs) pos) (lu X.K W (T9 b f)) :=
  (aip (tb := fun W => lu X.K W b) hs hf hx ct.tk (fun W pn xe tk po => hb W pn xe ⟨tk, po, ct.gd⟩) h1 h2).weak fun N σ H ⟨e, al, h, r, re, po⟩ => by
    refine ⟨e, al, h, r, re, ?_⟩
    unfold T9 at po
    cases y : b e h with
    | nx e1 h1 =>
      rw [y] at po
      intro st H' aQ l r' u9
      exact ⟨e1, aQ, h1, r', u9, agB (kZ.le po l)⟩
    | exc c fs e1 h1 =>
      rw [y] at po
      dsimp only at po
      intro a st H' aQ gs l r' u9 e3 qf
      refine ⟨e1, aQ, h1, r', u9, ?_⟩
      cases w : f e1 h1 with
      | nx e2 h2 =>
        rw [w] at po
        intro st2 H2 cZ l2 r2 wQ
        exact po a st2 H2 cZ gs (l.trans l2) r2 wQ (l2.keep a _ e3 (r'.ae8 e3)) (qf.mono r' l2)
      | _ => rw [w] at po; exact po.elim
    | _ => rw [y] at po; exact po.elim
end
end PD
namespace GB
open PySem PySem.Spec PyProof.Rows
section
variable {prog : Program} {w : World} {A : Around} {E : Value → Shared → Prop} {s : Shared}
end
end GB
namespace PD
open PySem PySem.Spec PyProof.Rows L2
def ahG : List D → Option (List Int)
  | [] => some []
  | .int i :: ds => (ahG ds).map (i :: ·)
  | _ => none
def akh (x d : D) (h : AH) : Res D := match x, d with
  | .int k, .ref n => match h[n]? with
    | some (.gU kvs) => match ahG (kvs.map (·.2)) with
      | some js => .ok (.bl (js.any fun j => PyData.eqv (.int j) (.int k))) h
      | none => .stuck
    | _ => .stuck
  | _, _ => .stuck
def anA (fa fd : ME) : ME := fun e h => (fa e h).bind fun x h1 => (fd e h1).bind fun d h2 => akh x d h2
section
variable {X : Cx} {W : WX} {fa fd : ME} {a de : Expr} {apos cpos pos : Pos}
end
end PD
namespace GB
open PySem PySem.SeqAt
open AutoSeq1 (wpAny_loadPart')
open MeetsSeq MeetsSeq2 MeetsSeq3 SeqRoads2
section
variable {prog : Program} {w : World} {A : Around} {E : Value → Shared → Prop} {s : Shared}
theorem afl {R : Result → Shared → Prop} {l b : Addr} {items items2 : Array Value} {n n2 : Nat} {sl sl2 : Array (Option Value)} (hl1 : s.heap.get? l = some { cls := .type "list", data := .seq items n, slots := sl }) (hb1 : s.heap.get? b = some { cls := .type "list", data := .seq items2 n2, slots := sl2 }) (hne : items.size ≠ items2.size)
    (last : R (.ok (.ret (.bool true))) s) : wpAny (model prog w) A.in1 (Builtin.«list.__ne__» ⟨[.ref l, .ref b], []⟩) (GQ.FinOf prog w A R) (fun e s' => R (.error e) s') s := by
  obtain ⟨hp, g, d, tk, os⟩ := s
  have f3 := AutoSeq1.sub_list_list
  have hne : (items.size != items2.size) = true := by simpa using hne
  wp_walk using wpAny_loadPart' hl1, wpAny_loadPart' hb1
  exact last
theorem aiq {l b : Addr} {items items2 : Array Value} {n n2 : Nat} {sl sl2 : Array (Option Value)} {Q : Value → Shared → Prop} (hu : A.units < cLine) (hl1 : s.heap.get? l = some { cls := .type "list", data := .seq items n, slots := sl }) (hb1 : s.heap.get? b = some { cls := .type "list", data := .seq items2 n2, slots := sl2 }) (hne : items.size ≠ items2.size)
    (hq : Q (.bool true) s) : wpAny (model prog w) A (richCompare .NotEq (.ref l) (.ref b)) Q E s :=
  wpAny_richCompare_same_room (op := .NotEq) ⟨_, hl1, rfl⟩ ⟨_, hb1, rfl⟩ F.slot_list_ne (GQ.call_here F.slot_list_ne ⟨_, hl1, rfl⟩ F.entry_list_ne (F.args_list_ne_2 _ _)
    (afl (R := wants (fun v s' => v ≠ .notImplemented ∧ Q v s') E) hl1 hb1 hne ⟨(fun z => nomatch z), hq⟩)) hu
end
end GB
namespace PD
open PySem PySem.Spec PyProof.Rows L2
section
variable {X : Cx} {W : WX}
def neL (o : O2) : O2 := fun d e h => match Dj h d, Dj h e with
  | some xs, some ys => if xs.length ≠ ys.length then some (.bl true, h) else o d e h
  | _, _ => o d e h
theorem uN {o : O2} (hu : X.A.units + 64 < cLine) (ho : OpR X (compareOp .NotEq) (r2 X.K o)) : OpR X (compareOp .NotEq) (r2 X.K (neL o)) := by
  rintro pins s σ H x y v u Q I rx ry ⟨d, e, al, h, r, p, q, po⟩
  unfold neL at po
  split at po
  · rename_i xs ys hx hy
    split at po
    · rename_i hn
      obtain ⟨a, vs, rfl, sq, ql⟩ := wV r p hx
      obtain ⟨b, ws, rfl, sq2, ql2⟩ := wV r q hy
      obtain ⟨its, rl, pl, hz⟩ := I.list sq
      obtain ⟨its2, rl2, pl2, hz2⟩ := I.list sq2
      obtain rfl : v = Value.ref a := rx
      obtain rfl : u = Value.ref b := ry
      obtain ⟨⟨c1, dd1, dt1, sl1⟩, n1, g1, e1, e2, e3⟩ := pl
      obtain ⟨⟨c2, dd2, dt2, sl2⟩, n2, g2, f1, f2, f3⟩ := pl2
      simp only at e1 e2 e3 f1 f2 f3
      subst e1 e2 e3 f1 f2 f3
      refine GB.aiq (by omega) g1 g2 ?_ ⟨.bl true, H, I, rfl, po _ _ _ .refl r (.bl _)⟩
      rw [List.size_toArray, List.size_toArray, ← rl.length, ← rl2.length, ← ql.length, ← ql2.length]
      exact hn
    · exact ho pins s σ H x y v u Q I rx ry ⟨d, e, al, h, r, p, q, po⟩
  · exact ho pins s σ H x y v u Q I rx ry ⟨d, e, al, h, r, p, q, po⟩
end
end PD
namespace PD
open PySem PySem.Spec PyProof.Rows L2
section
variable {X : Cx} {W : WX}
def uw (cs : List Str) (f : Str) (fo fv : ME) : MS := fun e h => (fo e h).st e fun a h1 => match a with
  | .ref n => match h1[n]? with
    | some (.ins c fs) => if c ∈ cs then match fs.lookup f with
        | some (.int i) => (fv e h1).st e fun y h2 => match y with
          | .int j => (match h2[n]? with
            | some (.ins c' fs') => if c' = c ∧ fs'.length < 1000 then .nx e (h2.set n (.ins c' (putD f (.int (i + j)) fs'))) else .stuck
            | _ => .stuck)
          | _ => .stuck
        | _ => .stuck
      else .stuck
    | _ => .stuck
  | _ => .stuck
theorem pre_at {H H' : Hp} {al aQ : Al} {n : Nat} {a : Addr} (l : Le H al H' aQ) (e : al.c[n]? = some a) : aQ.c[n]? = some a := by
  obtain ⟨t, ht⟩ := l.pre
  rw [ht, List.getElem?_append_left (List.getElem?_eq_some_iff.mp e).1, e]
theorem abz {cs : List Str} {f : Str} {o v : Expr} {fo fv : ME} {pos tpos : Pos} (hC : ∀ c ∈ cs, Cls X.K (He.ga X.K c) ∧ NoAttr X.K (He.ga X.K c) f) (ho : PE X o (rd X.K W fo)) (hv : PE X v (rd X.K W fv)) :
    PS X (.AugAssign (.Attribute o f tpos) .Add v pos) (lu X.K W (uw cs f fo fv)) :=
  (ps_fldaug ho hv in_add).weak fun N σ H ⟨e, al, h, r, re, po⟩ => by
    refine ⟨e, al, h, r, re, (jB r re po).mono ?_⟩
    rintro x H1 ⟨d, aZ, h1, l, r1, q, p1⟩
    split at p1
    · rename_i n
      split at p1
      · rename_i c fs hx
        split at p1
        · rename_i hc
          split at p1
          · rename_i i hi
            cases q with
            | ref ea =>
              obtain ⟨dx, gs, e1, qf⟩ := r1.at_ n _ _ hx ea
              obtain ⟨w, e2, q2⟩ := qf.lookup hi
              refine ⟨_, _, dx, gs, w, rfl, e1, (hC c hc).1, (hC c hc).2, e2, e, aZ, h1, r1, re.mono r l, (jB r1 (re.mono r l) p1).mono ?_⟩
              rintro y H2 ⟨d2, cZ, h2, l2, r2, q3, p2⟩
              split at p2
              · rename_i j
                cases q2
                cases q3
                refine ⟨i, j, rfl, rfl, ?_⟩
                split at p2
                · rename_i c' fs' hx'
                  split at p2
                  · rename_i hc'
                    obtain ⟨hc', hl'⟩ := hc'
                    subst hc'
                    have ea2 := pre_at l2 ea
                    obtain ⟨dx', gs', e1', qf'⟩ := r2.at_ n _ _ hx' ea2
                    obtain ⟨r3, l3⟩ := r2.put (o := .ins (He.ga X.K c') dx' (putF f (.int (i + j)) gs')) (c := .ins c' (putD f (.int (i + j)) fs')) ea2 fun H' aQ l' e' => ⟨dx', _, e', (qf'.mono r2 l').put (.int _)⟩
                    exact ⟨dx', gs', e1', by rw [← qf'.length]; exact hl', p2 _ _ _ l3 r3 (((re.mono r l).mono r1 l2).mono r2 l3)⟩
                  · exact p2.elim
                · exact p2.elim
              · exact p2.elim
          · exact p1.elim
        · exact p1.elim
      · exact p1.elim
    · exact p1.elim
mutual
def tvD : Tv → D
  | .int i => .int i
  | .str x => .str x
  | .tup l => .tup (tvL l)
def tvL : List Tv → List D
  | [] => []
  | t :: ts => tvD t :: tvL ts
end
mutual
theorem ac3 {K : PySem.W.Frag} : ∀ {t : Tv} {u : Value}, SJ K u t = true → ∃ v, RelV v u ∧ ∀ H al, Rp K H al (tvD t) v
  | .int i, u, h => by
    simp only [SJ] at h
    split at h
    · rename_i j t
      cases of_decide_eq_true h
      exact ⟨.int i, ⟨t, rfl⟩, fun H al => by simp only [tvD]; exact .int i⟩
    · cases h
  | .str x, u, h => by
    simp only [SJ] at h
    split at h
    · rename_i j t
      cases of_decide_eq_true h
      exact ⟨.str x, ⟨t, rfl⟩, fun H al => by simp only [tvD]; exact .str x⟩
    · cases h
  | .tup l, u, h => by
    simp only [SJ] at h
    split at h
    · rename_i b
      split at h
      · rename_i od its n sl ho
        obtain ⟨h1, h2⟩ := Bool.and_eq_true_iff.mp h
        obtain ⟨vs, rv, q⟩ := ac4 h2
        refine ⟨.ref b, rfl, fun H al => ?_⟩
        simp only [tvD]
        exact .tup (.inr ⟨_, its, n, ho, rfl, rfl, Nat.le_trans (of_decide_eq_true h1) (by decide), rv⟩) (q H al)
      · cases h
    · cases h
theorem ac4 {K : PySem.W.Frag} : ∀ {ts : List Tv} {us : List Value}, Xd K us ts = true → ∃ vs, Vals vs us ∧ ∀ H al, bD K H al (tvL ts) vs
  | [], us, h => by
    simp only [Xd] at h
    cases us with
    | nil => exact ⟨[], .nil, fun H al => by simp only [tvL]; exact .nil⟩
    | cons _ _ => cases h
  | t :: ts, us, h => by
    simp only [Xd] at h
    cases us with
    | nil => cases h
    | cons u us =>
      obtain ⟨h1, h2⟩ := Bool.and_eq_true_iff.mp h
      obtain ⟨v, a, b⟩ := ac3 h1
      obtain ⟨vs, c, d⟩ := ac4 h2
      exact ⟨v :: vs, .cons a c, fun H al => by simp only [tvL]; exact .cons (b H al) (d H al)⟩
end
def ad7 (kvs : List (Str × Tv)) (k : Str) : Option (Option D) := match kvs.find? fun q => decide (q.1 = k) with
  | some q => some (some (tvD q.2))
  | none => some none
theorem KTab.ofT {K : PySem.W.Frag} {w : World} {x : Str} {kvs : List (Str × Tv)} (kd : ∃ es n, KDict K w (He.ga K x) es n) (h : af4 K (He.ga K x) kvs = true) (hk : keyB K (He.ga K x) (kvs.map (·.1)) = true) : KTab K w x (ad7 kvs) := by
  refine ⟨kd, fun k d e => ?_, fun k e => ?_⟩
  · unfold ad7 at e
    split at e
    · rename_i q hq
      have e := Option.some.inj (Option.some.inj e)
      have hk : q.1 = k := of_decide_eq_true (List.find?_some (p := fun q : Str × Tv => decide (q.1 = k)) hq)
      have h2 := List.all_eq_true.mp h q (List.mem_of_find?_eq_some hq)
      subst hk e
      split at h2
      · rename_i u hu
        obtain ⟨v, a, b⟩ := ac3 h2
        exact ⟨u, v, hu, a, b⟩
      · cases h2
    · cases e
  · unfold ad7 at e
    split at e
    · cases e
    · rename_i hn
      refine U7 hk fun m => ?_
      obtain ⟨p, hp, rfl⟩ := List.mem_map.mp m
      have := List.find?_eq_none.mp hn p hp
      exact this (decide_eq_true rfl)
end
end PD
namespace PD
open PySem PySem.Spec PyProof.Rows L2
def RM : O2 := fun d e h => match eU h 80 d, eU h 80 e with
  | some p, some (.list ds) => if SeqAt.shaped p = true ∧ SeqAt.shaped (.list ds) = true then some (.bl (ds.any fun z => PyData.eqv z p), h) else none
  | _, _ => none
theorem ahH {X : Cx} (hu : X.A.units + 65 < cLine) : OpR X (compareOp .In) (r2 X.K RM) := by
  rintro pins s σ H x y v u Q I rx ry ⟨d, e, al, h, r, p, q, po⟩
  unfold RM at po
  split at po
  · rename_i a ds ha hb
    split at po
    · rename_i hs
      exact op_inD hu pins s σ H x y v u Q I rx ry ⟨a, ds, Rp.Hl r 80 d x a p ha, Rp.Hl r 80 e y _ q hb, hs.1, hs.2, po _ _ _ .refl r (.bl _)⟩
    · exact po.elim
  · exact po.elim
theorem abA {k : Nat} {A : Around} (r : Room k A) : A.units + 65 < cLine := by
  have := r.un
  omega
def WT (fd : ME) (f : MS) : MS := fun e h => match fd e h with
  | .ok (.ref n) _ => match h[n]? with
    | some (.dict kvs) => match f e (h.set n (.gU kvs)) with
      | .nx e1 h2 => match h2[n]? with
        | some (.gU abx) => .nx e1 (h2.set n (.dict abx))
        | _ => .stuck
      | _ => .stuck
    | _ => .stuck
  | _ => .stuck
theorem aki {X : Cx} {W : WX} {fd : ME} {f : MS} {st : Stmt} (he : PS X st (lu X.K W f)) : PS X st (lu X.K W (WT fd f)) := (ps_lock he).weak fun N σ H ⟨e, al, h, r, re, p⟩ => by
  unfold WT at p
  split at p
  · rename_i n h0 hf
    split at p
    · rename_i kvs hn
      obtain ⟨a, z, ok⟩ := r.addr hn
      obtain ⟨ws, eH, k, qs⟩ := ok
      refine ⟨a, .dK ws, eH, trivial, fun od => ?_⟩
      obtain ⟨r2, l2⟩ := r.put (o := .frz od (.dK ws)) (c := .gU kvs) z (fun H' aQ l' e' => ⟨od, ws, e', k, qs.mono r l'⟩) (fun kv w => by rw [hn] at w; cases w)
      refine ⟨e, al, _, r2, re.mono r l2, ?_⟩
      cases y : f e (h.set n (.gU kvs)) with
      | nx e1 h2 =>
        rw [y] at p
        dsimp only at p
        split at p
        · rename_i abx hn2
          intro st H' aQ l' r' u9
          obtain ⟨r3, l3, u3⟩ := HR.unlock r z eH l' r' hn2
          exact ⟨l'.lk a _ _ upd_same, p st _ aQ l3 r3 ⟨u9.1, fun i d q => by
            obtain ⟨v, e2, q2⟩ := u9.2 i d q
            exact ⟨v, e2, Rp.fG r' u3 q2⟩⟩⟩
        · exact p.elim
      | _ => rw [y] at p; exact p.elim
    · exact p.elim
  · exact p.elim
end PD
namespace PD
open PySem PySem.Spec PyProof.Rows L2
def yw : List D → Option (List Str)
  | [] => some []
  | .str x :: ds => (yw ds).map (x :: ·)
  | _ => none
theorem Dk : ∀ {ds : List D} {xs : List Str}, yw ds = some xs → ds = xs.map D.str
  | [], _, h => by cases h; rfl
  | .str x :: ds, xs, h => by
    simp only [yw] at h
    cases e : yw ds with
    | none => rw [e] at h; cases h
    | some ys =>
      rw [e] at h
      cases h
      rw [Dk e]
      rfl
theorem Dm (xs : List Str) : yw (xs.map D.str) = some xs := by
  induction xs with
  | nil => rfl
  | cons x xs ih => simp [yw, ih]
def Dq : OM
  | .ref n, [], h => match h[n]? with
    | some (.lst xs) => some (.non, h.set n (.lst xs.reverse))
    | _ => none
  | _, _, _ => none
theorem bD.rev {K : PySem.W.Frag} {H : Hp} {al : Al} {ds : List D} {vs : List V} (q : bD K H al ds vs) : bD K H al ds.reverse vs.reverse := by
  induction ds generalizing vs with
  | nil => cases q; exact .nil
  | cons d ds ih =>
    cases q with
    | cons q qs =>
      rw [List.reverse_cons, List.reverse_cons]
      exact (ih qs).append (.cons q .nil)
section
variable {X : Cx}
theorem ahI : MtR X "list.reverse" (rM X.K Dq) := by
  rintro pins s σ H x xs v us Q I rx rv ⟨d, ds, al, h, r, p, q, po⟩
  unfold Dq at po
  split at po
  · cases p with
    | ref z =>
      match q with
      | .nil =>
        split at po
        · rename_i ys hy
          obtain ⟨vs, e1, qs⟩ := r.lst z hy
          obtain ⟨r3, l3⟩ := r.put (o := .lst vs.reverse) (c := .lst ys.reverse) z fun H' aQ l' e' => ⟨_, e', (qs.mono r l').rev⟩
          exact mt_reverse pins s σ H _ _ v us Q I rx rv ⟨_, vs, rfl, rfl, e1, po _ _ _ l3 r3 .non⟩
        · exact po.elim
  · exact po.elim
def eqs (k : Str) (v : Value) : Bool := match v with
  | .str n _ => n.cps.toList == k.cps.toList
  | _ => false
theorem Ua : ∀ {xs : List Str} {us : List Value}, Vals (xs.map V.str) us → us.length = xs.length ∧ ∀ (i : Nat) (x : Str), xs[i]? = some x → ∃ t, us[i]? = some (.str x t)
  | [], us, r => by
    cases r
    exact ⟨rfl, fun i x h => by simp at h⟩
  | y :: xs, us, r => by
    cases r with
    | cons ry rt =>
      obtain ⟨t, rfl⟩ := ry
      obtain ⟨l, g⟩ := Ua rt
      refine ⟨by simp [l], fun i x h => ?_⟩
      cases i with
      | zero =>
        simp at h
        subst h
        exact ⟨t, rfl⟩
      | succ i => simpa using g i x (by simpa using h)
theorem Vb {k : Str} {t : Tok} {xs : List Str} {us : List Value} (r : Vals (xs.map V.str) us) : ∀ y ∈ us, MeetsSeq.EqGives y (.str k t) (eqs k y) := fun y hy => by
  obtain ⟨l, g⟩ := Ua r
  obtain ⟨i, hi⟩ := List.mem_iff_getElem?.mp hy
  have h1 : i < xs.length := by rw [← l]; exact (List.getElem?_eq_some_iff.mp hi).1
  obtain ⟨u, hu⟩ := g i _ (List.getElem?_eq_getElem h1)
  rw [hi] at hu
  cases hu
  exact SeqRoads2.EqGives.str _ k u t
def qm (k x : Str) : Bool := x.cps.toList == k.cps.toList
def abB : OM
  | .ref n, [.str k], h => match h[n]? with
    | some (.lst ds) => match yw ds with
      | some xs => match xs.findIdx? (qm k) with
        | some j => some (.non, h.set n (.lst (ds.eraseIdx j)))
        | none => none
      | none => none
    | _ => none
  | _, _, _ => none
theorem bD.erase {K : PySem.W.Frag} {H : Hp} {al : Al} {ds : List D} {vs : List V} (q : bD K H al ds vs) (j : Nat) : bD K H al (ds.eraseIdx j) (vs.eraseIdx j) := by
  induction ds generalizing vs j with
  | nil => cases q; exact .nil
  | cons d ds ih =>
    cases q with
    | cons q qs =>
      cases j with
      | zero => exact qs
      | succ j => exact .cons q (ih qs j)
theorem Dr {K : PySem.W.Frag} {H : Hp} {al : Al} : ∀ {xs : List Str} {vs : List V}, bD K H al (xs.map D.str) vs → vs = xs.map V.str
  | [], _, q => by cases q; rfl
  | x :: xs, _, q => by
    cases q with
    | cons q qs =>
      cases q
      rw [Dr qs]
      rfl
theorem al7 : MtR X "list.remove" (rM X.K abB) := by
  rintro pins s σ H x xs v us Q I rx rv ⟨d, ds, al, h, r, p, q, po⟩
  unfold abB at po
  split at po
  · rename_i n k
    cases p with
    | ref z =>
      rename_i a
      match q with
      | .cons q .nil =>
        cases q
        split at po
        · rename_i ys hy
          split at po
          · rename_i ws hw
            split at po
            · rename_i jj hj
              obtain ⟨vs, e1, qs⟩ := r.lst z hy
              obtain ⟨r3, l3⟩ := r.put (o := .lst (vs.eraseIdx jj)) (c := .lst (ys.eraseIdx jj)) z fun H' aQ l' e' => ⟨_, e', (qs.mono r l').erase jj⟩
              have po := po _ _ _ l3 r3 .non
              obtain rfl : v = Value.ref a := rx
              obtain ⟨u, rfl, ru⟩ := rv.one
              obtain ⟨t, rfl⟩ := ru
              have ey := Dk hw
              have ev : vs = ws.map V.str := Dr (by rw [← ey]; exact qs)
              obtain ⟨zz, its, nn, rr, hl, e⟩ := I.lstM e1
              have rr0 := rr
              rw [ev] at rr0
              obtain ⟨ll, g⟩ := Ua rr0
              obtain ⟨hjl, hjt, hjn⟩ := List.findIdx?_eq_some_iff_getElem.mp hj
              have hjs : jj < its.toArray.size := by rw [List.size_toArray]; omega
              refine call_meets PySem.F.slot_list_remove ⟨_, e, rfl⟩ PySem.F.entry_list_remove (PySem.F.args_list_remove_2 _ _)
                (MeetsSeq.list_remove a its.toArray nn (.str k t) (eqs k) (fun y hy => Vb rr0 y (by simpa using hy)) jj hjs ?_ ?_ (by rw [List.size_toArray]; omega)) ⟨e, ?_⟩
              · obtain ⟨tj, ht⟩ := g jj _ (List.getElem?_eq_getElem hjl)
                obtain ⟨h1, h2⟩ := List.getElem?_eq_some_iff.mp ht
                have e2 : its.toArray[jj] = .str ws[jj] tj := by simpa using h2
                rw [e2]
                exact hjt
              · intro m hm hmj
                have hml : m < ws.length := by omega
                obtain ⟨tm, ht⟩ := g m _ (List.getElem?_eq_getElem hml)
                obtain ⟨h1, h2⟩ := List.getElem?_eq_some_iff.mp ht
                have e2 : its.toArray[m] = .str ws[m] tm := by simpa using h2
                rw [e2]
                have := hjn m hmj
                simpa [eqs, qm] using this
              · refine ⟨.non, _, I.lset (its' := its.eraseIdx jj) (t' := s.toks) e1 e ?_ (rr.eraseIdx jj) ?_, rfl, po⟩
                · show its.toArray.eraseIdxIfInBounds jj = (its.eraseIdx jj).toArray
                  rw [List.eraseIdxIfInBounds_toArray]
                · have := len_erase vs jj
                  omega
            · exact po.elim
          · exact po.elim
        · exact po.elim
  · exact po.elim
def Ds : OM
  | .ref n, [.str k], h => match h[n]? with
    | some (.lst ds) => match yw ds with
      | some xs => some (.int (xs.countP (qm k) : Nat), h)
      | none => none
    | _ => none
  | _, _, _ => none
theorem Vc {k : Str} : ∀ {xs : List Str} {us : List Value}, Vals (xs.map V.str) us → us.countP (eqs k) = xs.countP (qm k)
  | [], us, r => by cases r; rfl
  | y :: xs, us, r => by
    cases r with
    | cons ry rt =>
      obtain ⟨t, rfl⟩ := ry
      rw [List.countP_cons, List.countP_cons, Vc rt]
      rfl
theorem ahJ : MtR X "list.count" (rM X.K Ds) := by
  rintro pins s σ H x xs v us Q I rx rv ⟨d, ds, al, h, r, p, q, po⟩
  unfold Ds at po
  split at po
  · rename_i n k
    cases p with
    | ref z =>
      rename_i a
      match q with
      | .cons q .nil =>
        cases q
        split at po
        · rename_i ys hy
          split at po
          · rename_i ws hw
            obtain ⟨vs, e1, qs⟩ := r.lst z hy
            obtain rfl : v = Value.ref a := rx
            obtain ⟨u, rfl, ru⟩ := rv.one
            obtain ⟨t, rfl⟩ := ru
            have ev : vs = ws.map V.str := Dr (by rw [← Dk hw]; exact qs)
            obtain ⟨zz, its, nn, rr, hl, e⟩ := I.lstM e1
            rw [ev] at rr
            refine call_meets PySem.F.slot_list_count ⟨_, e, rfl⟩ PySem.F.entry_list_count (PySem.F.args_list_count_2 _ _)
              (SeqAt.list_countAt a its.toArray nn none #[] (.str k t) (eqs k)) ⟨e, fun y hy => (Vb rr y (by simpa using hy)).at _ _, ?_⟩
            have ec : its.toArray.toList.countP (eqs k) = ws.countP (qm k) := Vc rr
            refine ⟨.int (ws.countP (qm k) : Nat), H, I.tok _, ⟨s.toks, ?_⟩, po _ _ _ .refl r (.int _)⟩
            show Value.int ((its.toArray.toList.countP (eqs k) : Nat) : Int) s.toks = _
            rw [ec]
          · exact po.elim
        · exact po.elim
  · exact po.elim
end
end PD
namespace PD
open PySem PySem.Spec PyProof.Rows L2
def Gj (lo c : Int) (n : Nat) : List D := (List.range n).map fun k => .int (lo + (k : Nat) * c)
def Ub : List D → AH → Res (List D)
  | [.int i, .int j, .int c], h => if c = -1 ∧ -(2 ^ 62) ≤ i ∧ i < 2 ^ 62 ∧ -(2 ^ 62) ≤ j ∧ j < 2 ^ 62 then .ok (Gj i (-1) (i - j).toNat) h else .stuck
  | _, _ => .stuck
theorem abC {K : PySem.W.Frag} {H : Hp} {al : Al} {lo c : Int} {n : Nat} : oE K (L2.Itc lo c n) (Gj lo c n) H al := by
  intro H' aQ h' l r'
  have hl : (Gj lo c n).length = n := by simp [Gj]
  rw [hl]
  refine ⟨fun i hi => hi, Nat.le_refl _, fun i x H2 hi y => ?_⟩
  obtain ⟨rfl, rfl⟩ := y
  exact ⟨.refl, r', .int (lo + (i : Nat) * c), by simp [Gj, hi], .int _⟩
section
variable {X : Cx} {W : WX}
theorem akk {a b c : Expr} {fr : MA} {p1 pos : Pos} {tg : Expr} (hg : Gl X "range") (hm : X.mg "range" = none) (ha : PA X [a, b, c] (kW X.K W fr)) (hs : starEach [a, b, c] X.env = (false, eval a X.env) :: starEach [b, c] X.env := by rfl) (hpl : (backTo pos (starEach [b, c] X.env)).any (·.1) = false := by rfl) : PI X tg (.Call (.Name "range" p1) [a, b, c] [] pos) (BP X.K W (mW Ub fr)) :=
  (pi_range3 hg hm (GB.PA.cl ha) hs hpl).weak fun σ H R h => by
    refine Il (CZ h) ?_
    rintro vs H1 ⟨ds, aZ, h1, r1, q, p1⟩
    unfold Ub at p1
    split at p1
    · cases q with
      | cons q qs =>
        cases q
        cases qs with
        | cons q qs =>
          cases q
          cases qs with
          | cons q qs =>
            cases q
            cases qs
            split at p1
            · rename_i hb
              obtain ⟨rfl, b1, b2, b3, b4⟩ := hb
              exact ⟨_, _, _, _, rfl, RgC.neg b1 b2 b3 b4, p1 _ _ _ .refl r1 abC⟩
            · exact p1.elim
    · exact p1.elim
def Uc : OM
  | .ref n, [], h => match h[n]? with
    | some (.dict _) => some (.non, h.set n (.dict []))
    | _ => none
  | _, _, _ => none
theorem akl : MtR X "dict.clear" (rM X.K Uc) := by
  rintro pins s σ H x xs v us Q I rx rv ⟨d, ds, al, h, r, p, q, po⟩
  unfold Uc at po
  split at po
  · cases p with
    | ref z =>
      match q with
      | .nil =>
        split at po
        · rename_i ys hy
          obtain ⟨vs, e1, qs⟩ := r.dct z hy
          obtain ⟨r3, l3⟩ := r.abq z (ws := []) (kvs := []) .nil
          exact mtd_clear pins s σ H _ _ v us Q I rx rv ⟨_, vs, rfl, rfl, e1, po _ _ _ l3 r3 .non⟩
        · exact po.elim
  · exact po.elim
def RN : O2
  | .lst a, .lst b, h => if a.length + b.length ≤ 16777216 then some (.ref h.length, h ++ [.lst (a ++ b)]) else none
  | _, _, _ => none
theorem ais : OpR X (binaryOp .Add) (r2 X.K RN) := by
  have hs : sizeLine = 16777216 := sizeLine_eq
  rintro pins s σ H x y v u Q I rx ry ⟨d, e, al, h, r, p, q, po⟩
  unfold RN at po
  split at po
  · rename_i a b h'
    cases p with
    | lst sa qa =>
    cases q with
    | lst sb qb =>
    split at po
    · rename_i hl
      exact op_cat pins s σ H _ _ v u Q I rx ry ⟨_, _, _, _, rfl, rfl, sa.1, sb.1, by rw [hs, ← qa.length, ← qb.length]; exact hl, fun p n => cV.Tq r (qa.append qb) po n⟩
    · exact False.elim po
  · exact False.elim po
def abD : O2 := fun d e h => match eU h 80 d, eU h 80 e with
  | some p, some (.list ds) => if SeqAt.shaped p = true ∧ SeqAt.shaped (.list ds) = true then some (.bl (!ds.any fun z => PyData.eqv z p), h) else none
  | _, _ => none
theorem akm {X : Cx} (hu : X.A.units + 65 < cLine) : OpR X (compareOp .NotIn) (r2 X.K abD) := by
  rintro pins s σ H x y v u Q I rx ry ⟨d, e, al, h, r, p, q, po⟩
  unfold abD at po
  split at po
  · rename_i a ds ha hb
    split at po
    · rename_i hs
      exact op_notInD hu pins s σ H x y v u Q I rx ry ⟨a, ds, Rp.Hl r 80 d x a p ha, Rp.Hl r 80 e y _ q hb, hs.1, hs.2, po _ _ _ .refl r (.bl _)⟩
    · exact po.elim
  · exact po.elim
end
end PD
local macro_rules | `(tactic| walk_at "hp") => `(tactic| first | assumption | exact GB.Wd.at (by assumption) 0 rfl | exact GB.Wd.at (by assumption) 1 rfl | exact GB.Wd.at (by assumption) 2 rfl | exact GB.Wd.at (by assumption) 3 rfl | exact GB.Wd.at (by assumption) 4 rfl | exact GB.Wd.at (by assumption) 5 rfl | exact GB.Wd.at (by assumption) 6 rfl | exact GB.Wd.at (by assumption) 7 rfl | exact GB.Wd.at (by assumption) 8 rfl)
local macro_rules | `(tactic| walk_at "side") => `(tactic| first | decide | omega | exact ⟨by decide, by decide⟩ | exact ⟨by omega, by omega⟩ | exact GB.afZ (by decide) | exact .inl ⟨by omega, by omega⟩ | exact .inr ⟨by omega, by omega⟩)
local macro_rules | `(tactic| walk_at "len") => `(tactic| first | assumption | decide | omega | (simp only [List.length_cons, List.length_nil, List.length_append, List.length_map]; first | done | omega))
local macro_rules | `(tactic| walk_at "s") => `(tactic| first
  | with_reducible refine GB.ak1 ?_
  | with_reducible refine GB.ai0 ?_
  | with_reducible refine GB.ak2 ?_
  | with_reducible refine GB.ai1 ?_
  | with_reducible refine GB.ai2 ?_
  | with_reducible refine GB.ak3 ?_
  | with_reducible refine GB.ak4 ?_
  | ((with_reducible refine' GB.ak5 ?a ?_); (case a => exact rfl))
  | with_reducible refine GB.r_c ?_
  | with_reducible refine GB.amT ?_
  | with_reducible refine GB.amU ?_
  | with_reducible refine GB.ak6 ?_
  | with_reducible refine GB.ai3 ?_
  | with_reducible refine GB.amV ?_
  | with_reducible refine GB.ai4 ?_
  | with_reducible refine GB.ai5 ?_
  | with_reducible refine GB.ai6 ?_
  | with_reducible refine GB.amW ?_
  | with_reducible refine GB.amX ?_
  | with_reducible refine GB.ak7 ?_
  | with_reducible refine GB.amY ?_
  | with_reducible refine GB.ak8 ?_
  | with_reducible refine GB.ai7 ?_
  | with_reducible refine GB.ak9 ?_
  | with_reducible refine GB.ai8 ?_
  | with_reducible refine GB.ala ?_
  | with_reducible refine GB.ahX ?_
  | with_reducible refine GB.alb ?_
  | with_reducible refine GB.alc ?_
  | with_reducible refine GB.afY ?_
  | with_reducible refine GB.ajb ?_
  | with_reducible refine GB.ald ?_
  | with_reducible refine GB.amZ ?_
  | with_reducible refine GB.am0 ?_
  | with_reducible refine GB.am1 ?_
  | with_reducible refine GB.ale ?_
  | with_reducible refine GB.am2 ?_
  | with_reducible refine GB.v_U ?_
  | with_reducible refine GB.alf ?_
  | with_reducible refine GB.alg ?_
  | with_reducible refine GB.alh ?_
  | with_reducible refine GB.ali ?_
  | with_reducible refine GB.aln ?_
  | with_reducible refine GB.alo ?_
  | with_reducible refine GB.ajg ?_
  | with_reducible refine GB.ajh ?_
  | with_reducible refine GB.alp ?_
  | with_reducible refine GB.am5 ?_
  | with_reducible refine GB.am6 ?_
  | with_reducible refine GB.alr ?_
  | with_reducible refine GB.als ?_
  | with_reducible refine GB.am8 ?_
  | with_reducible refine GB.alw ?_
  | with_reducible refine GB.ajj ?_
  | with_reducible refine GB.alv ?_
  | with_reducible refine GB.anb ?_
  | with_reducible refine GB.alC ?_
  | with_reducible refine GB.anc ?_
  | with_reducible refine GB.alD ?_
  | with_reducible refine GB.ah1 ?_
  | with_reducible refine GB.alE ?_
  | with_reducible refine GB.alF ?_
  | with_reducible refine GB.ajp ?_
  | with_reducible refine GB.ah2 ?_
  | with_reducible refine GB.ajq ?_
  | ((with_reducible refine' GB.alB ?a ?_); (case a => first | assumption | exact GB.sqT (by walk_at "hp")))
  | ((with_reducible refine' GB.aji ?a ?b ?_); (case a => walk_at "hp"); (case b => exact rfl))
  | ((with_reducible refine' GB.am7 ?a ?_); (case a => walk_at "hp"))
  | ((with_reducible refine' GB.alu ?a ?b ?_); (case a => walk_at "hp"); (case b => walk_at "len"))
  | ((with_reducible refine' GB.v_I ?a ?_); (case a => walk_at "side"))
  | ((with_reducible refine' GB.alj ?a ?b ?_); (case a => exact GB.sqL (by walk_at "hp")); (case b => exact rfl))
  | ((with_reducible refine' GB.alk ?a ?b ?_); (case a => first | assumption | exact GB.sqT (by walk_at "hp")); (case b => first | exact rfl | exact GB.alG))
  | ((with_reducible refine' GB.ajd ?a ?_); (case a => exact GB.sqL (by walk_at "hp")))
  | ((with_reducible refine' GB.aje ?a ?_); (case a => exact GB.sqT (by walk_at "hp")))
  | ((with_reducible refine' GB.alq ?a ?_); (case a => exact GB.sqL (by walk_at "hp")))
  | ((with_reducible refine' GB.ajf ?a ?_); (case a => walk_at "len"))
  | ((with_reducible refine' GB.ajc ?a ?_); (case a => walk_at "len"))
  | ((with_reducible refine' GB.alm ?a ?_); (case a => walk_at "len")))
local macro_rules | `(tactic| walk_at "r") => `(tactic| repeat walk_at "s")
local macro_rules | `(tactic| walk_at "st") => `(tactic| try dsimp only [L2.cxOf, L2.Cx.nox, L2.Cx.wish])
namespace dJ
open PySem PySem.Spec PyProof.Rows L2
section
variable {P : Program} {w : World} {K : PySem.W.Frag} {mg : Str → Option Value} {base : Heap}
def WW : List V → Option (List (Str × V))
  | [y] => some [("why", y)]
  | _ => none
theorem vM (T : Top w K mg) : GB.FO P w K mg base CX0 1 (He.ma K (He.ga K "WorkError") "__init__") ["self", "why"] (GB.spInit K ["why"] WW) := by
  refine T.HS.am9 GJ (by decide) (fun _ _ _ _ _ _ _ us its hl hi => match us, its, hl, hi with | [_, _], [_], _, _ => ⟨_, rfl, rfl⟩) (fun vs H Q E h => ?_) (fun cdv A outer s H vs Q E hr h => ?_)
  · obtain ⟨a, C, args, fs, rfl, hm, _⟩ := h
    match args, hm with
    | [y], _ => rfl
  · obtain ⟨a, C, args, fs, rfl, hm, hC, hn, ha, q⟩ := h
    match args, hm with
    | [y], hm =>
    cases hm
    refine ⟨_, (pss_cons (ps_expr (pe_veinit (by rfl) T.Xy (GB.ajm T.ve) (pa_cons (pv 0) (pa_cons (pv 1) pa_nil))))
      (pss_one (ps_ost (pv 0) (pv 1)))), ?_⟩
    show (_ : TS) _ [some (.ref a), some (y)] _; walk_at "st"
    walk_at "r"
    refine GB.aly ?_
    walk_at "r"
    refine ⟨a, C, [y], rfl, by simp, hC, ha, ?_⟩
    dsimp only
    refine GB.ahg ?_
    walk_at "r"
    exact ⟨a, C, rfl, hC, hn _ (by simp), .inl ⟨ha, fun dx h1 h2 => q dx _ h1 h2 rfl⟩⟩
theorem HX (T : Top w K mg) : GB.GZ P w K mg base 1 "BadRun" ["self", "why"] ["why"] WW := by
  obtain ⟨h1, h2, h3, h4⟩ := T.HX
  refine ⟨GB.acH h1, T.aga, (GB.z8 h2).1, (GB.z8 h2).2, GB.W9 h3, ?_⟩
  rw [T.Vu]
  exact vM T
def Bh : List V → Option (List (Str × V))
  | [IW, uO] => some [("at", IW), ("why", uO)]
  | _ => none
theorem Ud (T : Top w K mg) : GB.FO P w K mg base CX0 2 (He.ma K (He.ga K "Broken") "__init__") ["self", "at", "why"] (GB.spInit K ["at", "why"] Bh) := by
  have Ja := vM (P := P) (w := w) (base := base) T
  refine T.Vs.fo0 SN (fun _ _ _ _ _ _ us hl => match us, hl with | [_, _, _], _ => rfl) (fun vs H Q E h => ?_) (fun cdv A outer s H vs Q E hr h => ?_)
  · obtain ⟨a, C, args, fs, rfl, hm, _⟩ := h
    match args, hm with
    | [IW, uO], _ => rfl
  · obtain ⟨a, C, args, fs, rfl, hm, hC, hn, ha, q⟩ := h
    match args, hm with
    | [IW, uO], hm =>
    cases hm
    refine ⟨_, (pss_cons (ps_expr (GB.af2 Ja hr (by rfl) T.acs (GB.W7 T.wN).1 (GB.W7 T.wN).2 pass0 (pa_cons (pv 0) (pa_cons (pv 2) pa_nil))))
      (pss_one (ps_ost (pv 0) (pv 1)))), ?_⟩
    show (_ : TS) _ [some (.ref a), some (IW), some (uO)] _; walk_at "st"
    walk_at "r"
    refine ⟨a, C, [uO], [("why", uO)], rfl, rfl, hC, fun n hn' => hn n (by simp at hn'; subst hn'; simp), ha, fun dx H1 e1 e2 e3 => ?_⟩
    subst e3
    dsimp only
    walk_at "r"
    refine GB.ahg ?_
    walk_at "r"
    refine ⟨a, C, rfl, hC, hn _ (by simp), .inr ⟨dx, [("why", uO)], upd_same, (upd_ne e2).trans upd_same, by simp, ?_⟩⟩
    dsimp only
    refine q dx _ e1 e2 ?_
    funext z
    unfold upd
    by_cases z1 : z = dx
    · subst z1
      simp [e2]
    · by_cases z2 : z = a
      · subst z2
        simp [z1]
      · simp [z1, z2]
theorem Ad (T : Top w K mg) : GB.GZ P w K mg base 2 "Broken" ["self", "at", "why"] ["at", "why"] Bh := by
  obtain ⟨h1, h2, h3, h4⟩ := T.Ad
  exact ⟨GB.acH h1, T.Xr, (GB.z8 h2).1, (GB.z8 h2).2, GB.W9 h3, Ud T⟩
end
end dJ
local macro_rules | `(tactic| walk_at "v") => `(tactic| first | exact .inl rfl | exact .inr (.inl rfl) | exact .inr (.inr rfl))
local macro_rules | `(tactic| walk_at "w") => `(tactic| first | exact Or.inl rfl | exact Or.inr rfl)
noncomputable section
namespace dJ
open PySem PySem.Spec PyProof.Rows L2 PD
section
variable {P : Program} {w : World} {K : PySem.W.Frag} {mg : Str → Option Value} {base : Heap}
def wZ : Isa := ⟨fun _ _ => none, fun _ _ => none, fun _ _ => none⟩
theorem zN (T : Top w K mg) : wZ.Ok K where
  oo c g b h := by cases h
  to t g b h := by cases h
  ot c n b h := by cases h
abbrev fX : List Str := ["Seen"]
theorem xg (T : Top w K mg) : ∀ c ∈ fX, Cls K (He.ga K c) ∧ NoAttr K (He.ga K c) "beginner" := fun c hc => by
  obtain rfl := List.mem_singleton.mp hc
  exact ⟨T.u6, T.Jt⟩
abbrev Dt : List Str := ["Seen"]
theorem ad8 (T : Top w K mg) : ∀ c ∈ Dt, Cls K (He.ga K c) ∧ NoAttr K (He.ga K c) "called" := fun c hc => by
  obtain rfl := List.mem_singleton.mp hc
  exact ⟨T.u6, T.Vv⟩
abbrev fB : List Str := ["Seen"]
theorem sS (T : Top w K mg) : ∀ c ∈ fB, Cls K (He.ga K c) ∧ NoAttr K (He.ga K c) "ending" := fun c hc => by
  obtain rfl := List.mem_singleton.mp hc
  exact ⟨T.u6, T.Vw⟩
abbrev oN : List Str := ["Seen"]
theorem Bj (T : Top w K mg) : ∀ c ∈ oN, Cls K (He.ga K c) ∧ NoAttr K (He.ga K c) "owed" := fun c hc => by
  obtain rfl := List.mem_singleton.mp hc
  exact ⟨T.u6, T.acu⟩
abbrev jk : List Str := ["Seen"]
theorem ux (T : Top w K mg) : ∀ c ∈ jk, Cls K (He.ga K c) ∧ NoAttr K (He.ga K c) "shut" := fun c hc => by
  obtain rfl := List.mem_singleton.mp hc
  exact ⟨T.u6, T.acv⟩
abbrev dG : List Str := ["Seen"]
theorem jK (T : Top w K mg) : ∀ c ∈ dG, Cls K (He.ga K c) ∧ NoAttr K (He.ga K c) "state" := fun c hc => by
  obtain rfl := List.mem_singleton.mp hc
  exact ⟨T.u6, T.Xu⟩
abbrev jZ : List Str := ["Seen"]
theorem wF (T : Top w K mg) : ∀ c ∈ jZ, Cls K (He.ga K c) ∧ NoAttr K (He.ga K c) "had" := fun c hc => by
  obtain rfl := List.mem_singleton.mp hc
  exact ⟨T.u6, T.adI⟩
abbrev pG : List Str := ["Seen"]
theorem Du (T : Top w K mg) : ∀ c ∈ pG, Cls K (He.ga K c) ∧ NoAttr K (He.ga K c) "lasts" := fun c hc => by
  obtain rfl := List.mem_singleton.mp hc
  exact ⟨T.u6, T.Xv⟩
abbrev uz : List Str := ["Watch"]
theorem Vd (T : Top w K mg) : ∀ c ∈ uz, Cls K (He.ga K c) ∧ NoAttr K (He.ga K c) "sizes" := fun c hc => by
  obtain rfl := List.mem_singleton.mp hc
  exact ⟨T.gQ, T.Vx⟩
abbrev qK : List Str := ["Watch"]
theorem Gk (T : Top w K mg) : ∀ c ∈ qK, Cls K (He.ga K c) ∧ NoAttr K (He.ga K c) "raw" := fun c hc => by
  obtain rfl := List.mem_singleton.mp hc
  exact ⟨T.gQ, T.acw⟩
abbrev bY : List Str := ["Watch"]
theorem fO (T : Top w K mg) : ∀ c ∈ bY, Cls K (He.ga K c) ∧ NoAttr K (He.ga K c) "tasks" := fun c hc => by
  obtain rfl := List.mem_singleton.mp hc
  exact ⟨T.gQ, T.Vy⟩
abbrev nJ : List Str := ["Watch"]
theorem RP (T : Top w K mg) : ∀ c ∈ nJ, Cls K (He.ga K c) ∧ NoAttr K (He.ga K c) "latest" := fun c hc => by
  obtain rfl := List.mem_singleton.mp hc
  exact ⟨T.gQ, T.Td⟩
abbrev pH : List Str := ["Watch"]
theorem Dy (T : Top w K mg) : ∀ c ∈ pH, Cls K (He.ga K c) ∧ NoAttr K (He.ga K c) "homes" := fun c hc => by
  obtain rfl := List.mem_singleton.mp hc
  exact ⟨T.gQ, T.Vz⟩
abbrev oO : List Str := ["Watch"]
theorem Bl (T : Top w K mg) : ∀ c ∈ oO, Cls K (He.ga K c) ∧ NoAttr K (He.ga K c) "must" := fun c hc => by
  obtain rfl := List.mem_singleton.mp hc
  exact ⟨T.gQ, T.Xw⟩
abbrev iG : List Str := ["Watch"]
theorem xq (T : Top w K mg) : ∀ c ∈ iG, Cls K (He.ga K c) ∧ NoAttr K (He.ga K c) "many" := fun c hc => by
  obtain rfl := List.mem_singleton.mp hc
  exact ⟨T.gQ, T.Xx⟩
abbrev vh : List Str := ["Watch"]
theorem ait (T : Top w K mg) : ∀ c ∈ vh, Cls K (He.ga K c) ∧ Meth K (He.ga K c) "see" (He.ma K (He.ga K "Watch") "see") := fun c hc => by
  obtain rfl := List.mem_singleton.mp hc
  exact ⟨T.gQ, T.dY⟩
abbrev Gm : List Str := ["Watch"]
theorem agC (T : Top w K mg) : ∀ c ∈ Gm, Cls K (He.ga K c) ∧ Meth K (He.ga K c) "seen" (He.ma K (He.ga K "Watch") "seen") := fun c hc => by
  obtain rfl := List.mem_singleton.mp hc
  exact ⟨T.gQ, T.jX⟩
abbrev rC : List Str := ["Watch"]
theorem ad9 (T : Top w K mg) : ∀ c ∈ rC, Cls K (He.ga K c) ∧ Meth K (He.ga K c) "reason" (He.ma K (He.ga K "Watch") "reason") := fun c hc => by
  obtain rfl := List.mem_singleton.mp hc
  exact ⟨T.gQ, T.dH⟩
abbrev vW : List Str := ["Watch"]
theorem acC (T : Top w K mg) : ∀ c ∈ vW, Cls K (He.ga K c) ∧ Meth K (He.ga K c) "is_full" (He.ma K (He.ga K "Watch") "is_full") := fun c hc => by
  obtain rfl := List.mem_singleton.mp hc
  exact ⟨T.gQ, T.gG⟩
abbrev lZ : List Str := ["Watch"]
theorem Dz (T : Top w K mg) : ∀ c ∈ lZ, Cls K (He.ga K c) ∧ Meth K (He.ga K c) "may_fail" (He.ma K (He.ga K "Watch") "may_fail") := fun c hc => by
  obtain rfl := List.mem_singleton.mp hc
  exact ⟨T.gQ, T.dN⟩
abbrev zP : List Str := ["Watch"]
theorem agD (T : Top w K mg) : ∀ c ∈ zP, Cls K (He.ga K c) ∧ Meth K (He.ga K c) "take" (He.ma K (He.ga K "Watch") "take") := fun c hc => by
  obtain rfl := List.mem_singleton.mp hc
  exact ⟨T.gQ, T.fQ⟩
abbrev Gn : List Str := ["Watch"]
theorem agE (T : Top w K mg) : ∀ c ∈ Gn, Cls K (He.ga K c) ∧ Meth K (He.ga K c) "hold" (He.ma K (He.ga K "Watch") "hold") := fun c hc => by
  obtain rfl := List.mem_singleton.mp hc
  exact ⟨T.gQ, T.fU⟩
abbrev Ue : List Str := ["Watch"]
theorem agF (T : Top w K mg) : ∀ c ∈ Ue, Cls K (He.ga K c) ∧ Meth K (He.ga K c) "turn" (He.ma K (He.ga K "Watch") "turn") := fun c hc => by
  obtain rfl := List.mem_singleton.mp hc
  exact ⟨T.gQ, T.rQ⟩
abbrev Bm : List Str := ["Watch"]
theorem afn (T : Top w K mg) : ∀ c ∈ Bm, Cls K (He.ga K c) ∧ Meth K (He.ga K c) "go_on" (He.ma K (He.ga K "Watch") "go_on") := fun c hc => by
  obtain rfl := List.mem_singleton.mp hc
  exact ⟨T.gQ, T.fY⟩
def afo : List (Str × He.Dv) := [("tell", .glo "ask_doing"), ("add", .glo "ask_doing"), ("failed", .glo "ask_doing"), ("rescued", .glo "ask_rescued"), ("got", .glo "ask_got"), ("given", .glo "ask_given"), ("masked", .glo "ask_masked"), ("opened", .glo "ask_opened"), ("last", .glo "ask_last"), ("lasted", .glo "ask_lasted"), ("begun", .glo "ask_begun"), ("kill", .glo "ask_kill"), ("late", .glo "ask_late"), ("nobody", .glo "ask_nobody"), ("landed", .glo "ask_landed"), ("ended", .glo "ask_ended")]
abbrev iQ : Str → Option (Option D) := ad3 afo
theorem VB (T : Top w K mg) : KTab K w "ASKING" iQ := KTab.ofG T.agf T.agg T.agh
def agG : List (Str × Tv) := [("tell", .tup [.str "task", .str "number"]), ("add", .tup [.str "task", .str "name", .str "number"]), ("failed", .tup [.str "task", .str "name"]), ("rescued", .tup [.str "task", .str "name"]), ("got", .tup [.str "task", .str "name"]), ("given", .tup [.str "task", .str "name"]), ("masked", .tup [.str "task"]), ("opened", .tup [.str "task"]), ("last", .tup [.str "task"]), ("lasted", .tup [.str "task"]), ("begun", .tup [.str "task", .str "task", .str "name", .str "task"]), ("kill", .tup [.str "doer", .str "task"]), ("late", .tup [.str "doer", .str "task"]), ("nobody", .tup [.str "task", .str "name"]), ("landed", .tup [.str "task"]), ("ended", .tup [.str "task", .str "outcome"])]
abbrev jL : Str → Option (Option D) := ad7 agG
theorem abE (T : Top w K mg) : KTab K w "FORMS" jL := KTab.ofT T.ah5 T.ah6 T.ah7
theorem zQ (T : Top w K mg) : ∀ H al, Rp K H al (.tup [.str "on"]) (.ref (He.ga K "ON")) :=
  fun H al => .tup (GB.tupB_ok T.ane H) (.cons (.str _) .nil)
theorem vX (T : Top w K mg) : ∀ H al, Rp K H al (.tup [.str "killed"]) (.ref (He.ga K "KILLED")) :=
  fun H al => .tup (GB.tupB_ok T.agc H) (.cons (.str _) .nil)
def Bo : List D → Option (List (Str × D))
  | [y] => some [("why", y)]
  | _ => none
theorem Ve : ∀ H al ds vs fs, bD K H al ds vs → Bo ds = some fs → ∃ gs, WW vs = some gs ∧ dM K H al fs gs := by
  intro H al ds vs fs r e
  match ds, r, e with
  | [y], .cons q .nil, e =>
    cases e
    exact ⟨_, rfl, .cons q .nil⟩
theorem Bp (T : Top w K mg) : GB.GZ P w K mg base 1 "BadRun" ["self", "why"] ["why"] WW := HX T
def Bq : List D → Option (List (Str × D))
  | [IW, uO] => some [("at", IW), ("why", uO)]
  | _ => none
theorem afp : ∀ H al ds vs fs, bD K H al ds vs → Bq ds = some fs → ∃ gs, Bh vs = some gs ∧ dM K H al fs gs := by
  intro H al ds vs fs r e
  match ds, r, e with
  | [IW, uO], .cons akn (.cons aiu .nil), e =>
    cases e
    exact ⟨_, rfl, .cons akn (.cons aiu .nil)⟩
theorem Jb (T : Top w K mg) : GB.GZ P w K mg base 2 "Broken" ["self", "at", "why"] ["at", "why"] Bh := Ad T
def iT (c : Str) : Option Bool := if c = "Broken" then some true else none
theorem VD (T : Top w K mg) : ∀ c b, iT c = some b → PySem.W.exmOne K (.ref (He.ga K c)) (.ref (He.ga K "Broken")) = some b := by
  intro c b h
  unfold iT at h
  by_cases z0 : c = "Broken"
  · subst z0
    rw [if_pos rfl] at h
    cases h
    exact T.HY
  rw [if_neg z0] at h
  cases h
theorem VF {c : Str} (h : iT c = some true) : c = "Broken" := by
  unfold iT at h
  by_cases z0 : c = "Broken"
  · exact z0
  rw [if_neg z0] at h
  cases h
theorem yx (T : Top w K mg) : ∀ c, iT c = some true → ExcC K (He.ga K c) ∧ XfC K (He.ga K c) ∧ ∀ n ∈ (["at", "why"] : List Str), PySem.W.findIn K (.ref (He.ga K c)) n = some none := by
  intro c h
  cases VF h
  obtain ⟨h1, h2, h3, h4⟩ := T.Ad
  exact ⟨(GB.Xa h4).1, (GB.Xa h4).2, GB.W9 h3⟩
theorem abF (T : Top w K mg) : ∀ c, iT c = some true → XfC K (He.ga K c) ∧ PySem.W.findIn K (.ref (He.ga K c)) "at" = some none := fun c h => ⟨(yx T c h).2.1, (yx T c h).2.2 _ (by simp)⟩
theorem VG (T : Top w K mg) : ∀ c, iT c = some true → XfC K (He.ga K c) ∧ PySem.W.findIn K (.ref (He.ga K c)) "why" = some none := fun c h => ⟨(yx T c h).2.1, (yx T c h).2.2 _ (by simp)⟩
def nO : Mn := body 1 2
    (bV (ju (bB (qj wZ) (ak (aj 0) (ak (eC (.ty "str")) aA))) (ju (qF Dd Dd (eC (.int (1))) (bB jc (ak (aj 0) aA)) (eC (.int (8)))) (bB allM (ak (kJ (jY (aj 0)) (gName 1) g8 (aG Dg (aj 1) (eC (.str "abcdefghijklmnopqrstuvwxyz"))) [1]) aA)))))
theorem jM (T : Top w K mg) : Fd P w K mg base (0 + 1) (He.ga K "is_name") "is_name" "is_name" nj [] [] ["thing"] nO := by
  refine Fd.of T.kY.dn Aa (fun cdv A outer s H E hr hG => ?_)
  have ct : cA (cxOf (L2.CX P w) P w K mg base ["thing", "sign"] "is_name" (defScope nj) (He.ga K "is_name") cdv A outer s H E) (fun c d _ H' => E c d H') := cA.def_ hG
  obtain ⟨_, aea⟩ := T.aeL
  obtain ⟨_, aeb⟩ := T.aeM
  exact (aX (s_ret (oA (iZ (id := "isinstance") (FW (zN T)) (by rfl) T.mU (by decide +kernel) (aq (ao (i := 0) rfl (by walk_at "v")) (aq (Tg (by rfl) T.aho (by decide +kernel)) aH))) (oA (acW adQ adQ aR (iZ (id := "len") qQ (by rfl) T.qO (by decide +kernel) (aq (ao (i := 0) rfl (by walk_at "v")) aH)) (aa9 (by rfl) aeb)) (lA (iZ (id := "all") (Rq rfl) (by rfl) T.Ju (by decide +kernel) (aq (yN (own := [("sign", 1)]) rfl Aa.nd (FJ (ao (i := 0) rfl (by walk_at "v"))) (blkOk_by (N := ["thing", "sign"]) (sc := defScope nj) (by decide +kernel)) (fun _ _ _ _ _ => (iw (i := 1) (by decide) Aa.nd rfl (by walk_at "w"))) (fun _ _ _ _ _ => rZ) (fun _ _ _ _ _ => (dB agr (ao (i := 1) rfl (by walk_at "v")) (ajO (by rfl) aea) (by rfl)))) aH)))))))
def pQ : Mn := body 3 3
    (bV (ju (bB (qj wZ) (ak (aj 0) (ak (eC (.ty "int")) aA))) (ju (rR (bB (qj wZ) (ak (aj 0) (ak (eC (.ty "bool")) aA)))) (qF Dd Dd (aj 1) (aj 0) (aj 2)))))
theorem pU (T : Top w K mg) : Fd P w K mg base (0 + 1) (He.ga K "is_whole") "is_whole" "is_whole" nU [] [] ["thing", "least", "most"] pQ := by
  refine Fd.of T.rP.dn aco (fun cdv A outer s H E hr hG => ?_)
  have ct : cA (cxOf (L2.CX P w) P w K mg base ["thing", "least", "most"] "is_whole" (defScope nU) (He.ga K "is_whole") cdv A outer s H E) (fun c d _ H' => E c d H') := cA.def_ hG
  exact (aX (s_ret (oA (iZ (id := "isinstance") (FW (zN T)) (by rfl) T.mU (by decide +kernel) (aq (ao (i := 0) rfl (by walk_at "v")) (aq (Tg (by rfl) T.uI (by decide +kernel)) aH))) (oA (Am (iZ (id := "isinstance") (FW (zN T)) (by rfl) T.mU (by decide +kernel) (aq (ao (i := 0) rfl (by walk_at "v")) (aq (Tg (by rfl) T.ajw (by decide +kernel)) aH)))) (lA (acW adQ adQ (ao (i := 1) rfl (by walk_at "v")) (ao (i := 0) rfl (by walk_at "v")) (ao (i := 2) rfl (by walk_at "v"))))))))
def oR : Mn := body 1 1
    (bV (bx 1 2 (fun ds => pQ (GB.picked (ds ++ []) [0, 1, 2])) (ak (aj 0) aA) (ak (aG ug (eC (.int (1))) (aG vC (eC (.int (10))) (eC (.int (40))))) (ak (aG ug (aG vC (eC (.int (10))) (eC (.int (40)))) (eC (.int (1)))) aA))))
theorem iU (T : Top w K mg) : Fd P w K mg base (1 + 1) (He.ga K "is_number") "is_number" "is_number" lK [] [] ["thing"] oR := by
  refine Fd.of T.lY.dn Xh (fun cdv A outer s H E hr hG => ?_)
  have ct : cA (cxOf (L2.CX P w) P w K mg base ["thing"] "is_number" (defScope lK) (He.ga K "is_number") cdv A outer s H E) (fun c d _ H' => E c d H') := cA.def_ hG
  have pU := pU (P := P) (base := base) T
  have yS : Room 1 _ := hr.mono (by first | decide | omega)
  exact (aX (s_ret (acM (pU.calls yS ct (Bd.all (n := 1) (ks := ["least", "most"]) (is := [0, 1, 2]) (fun _ _ _ _ _ _ us ws h1 h2 => match us, ws, h1, h2 with | [_], [_, _], _, _ => rfl)) (fun _ _ => .nil)) (by rfl) T.rP.gl T.rP.kp (aq (ao (i := 0) rfl (by walk_at "v")) aH) (zE (dW Wz aR (dW WD aR aR)) (zE (dW Wz (dW WD aR aR) aR) adK)))))
def mZ : Mn := body 1 1
    (aY (cD (BL (bZ (aG cM (aj 0) (bB bQ (ak (eC (.str "done")) aA)))) (bZ (aG cM (aj 0) (bB bQ (ak (eC (.str "killed")) aA))))) (bV (eC (.bl true))) cG)
    (bV (ju (bB (qj wZ) (ak (aj 0) (ak (eC (.ty "tuple")) aA))) (ju (aG cM (bB jc (ak (aj 0) aA)) (eC (.int (2)))) (ju (aG cM (aG bf (aj 0) (eC (.int (0)))) (eC (.str "failed"))) (bx 1 0 nO (ak (aG bf (aj 0) (eC (.int (1)))) aA) aA))))))
theorem xG (T : Top w K mg) : Fd P w K mg base (1 + 1) (He.ga K "is_outcome") "is_outcome" "is_outcome" jN [] [] ["thing"] mZ := by
  refine Fd.of T.wI.dn Vm (fun cdv A outer s H E hr hG => ?_)
  have ct : cA (cxOf (L2.CX P w) P w K mg base ["thing"] "is_outcome" (defScope jN) (He.ga K "is_outcome") cdv A outer s H E) (fun c d _ H' => E c d H') := cA.def_ hG
  have jM := jM (P := P) (base := base) T
  have pW : Room 1 _ := hr.mono (by first | decide | omega)
  exact (aV (s_if (PW.pt (abd (bW (cR hr.units) (ao (i := 0) rfl (by walk_at "v")) (cQ (aq aU aH)) (nomark _)) (Wx (bW (cR hr.units) (ao (i := 0) rfl (by walk_at "v")) (cQ (aq aU aH)) (nomark _))))) (aX (s_ret qY)) cU)
    (aX (s_ret (oA (iZ (id := "isinstance") (FW (zN T)) (by rfl) T.mU (by decide +kernel) (aq (ao (i := 0) rfl (by walk_at "v")) (aq (Tg (by rfl) T.acK (by decide +kernel)) aH))) (oA (dB (cR hr.units) (iZ (id := "len") qQ (by rfl) T.qO (by decide +kernel) (aq (ao (i := 0) rfl (by walk_at "v")) aH)) aR (nomark _)) (oA (dB (cR hr.units) (aW hr.units (ao (i := 0) rfl (by walk_at "v")) aR (fun _ _ => rfl)) aU (nomark _)) (lA (bU (jM.bK pW ct (Bd.all (n := 1) (ks := []) (is := List.range 1) (fun _ _ _ _ _ _ us ws h1 h2 => match us, ws, h1, h2 with | [_], [], _, _ => rfl))) (by rfl) T.kY.gl T.kY.kp (aq (aW hr.units (ao (i := 0) rfl (by walk_at "v")) aR (fun _ _ => rfl)) aH)))))))))
def vY : Mn := body 1 1
    (bV (ju (bx 1 0 oR (ak (aj 0) aA) aA) (aG BR (aj 0) (eC (.int (0))))))
theorem Br (T : Top w K mg) : Fd P w K mg base (2 + 1) (He.ga K "is_count") "is_count" "is_count" nW [] [] ["thing"] vY := by
  refine Fd.of T.Ac.dn acp (fun cdv A outer s H E hr hG => ?_)
  have ct : cA (cxOf (L2.CX P w) P w K mg base ["thing"] "is_count" (defScope nW) (He.ga K "is_count") cdv A outer s H E) (fun c d _ H' => E c d H') := cA.def_ hG
  have iU := iU (P := P) (base := base) T
  have pJ : Room 2 _ := hr.mono (by first | decide | omega)
  exact (aX (s_ret (oA (bU (iU.bK pJ ct (Bd.all (n := 1) (ks := []) (is := List.range 1) (fun _ _ _ _ _ _ us ws h1 h2 => match us, ws, h1, h2 with | [_], [], _, _ => rfl))) (by rfl) T.lY.gl T.lY.kp (aq (ao (i := 0) rfl (by walk_at "v")) aH)) (lA (dB abm (ao (i := 0) rfl (by walk_at "v")) aR (nomark _))))))
def nQ : Mn := body 2 2
    (aY (cD (bZ (aG cM (aj 0) (eC (.str "name")))) (bV (bx 1 0 nO (ak (aj 1) aA) aA)) cG)
    (aY (cD (bZ (aG cM (aj 0) (eC (.str "number")))) (bV (bx 1 0 oR (ak (aj 1) aA) aA)) cG)
    (aY (cD (bZ (aG cM (aj 0) (eC (.str "outcome")))) (bV (bx 1 0 mZ (ak (aj 1) aA) aA)) cG)
    (aY (cD (jD (bZ (aG cM (aj 0) (eC (.str "doer")))) (bZ (aG zG (aj 1) (eC .non)))) (bV (eC (.bl true))) cG)
    (bV (bx 1 0 vY (ak (aj 1) aA) aA))))))
theorem DG (T : Top w K mg) : Fd P w K mg base (3 + 1) (He.ga K "is_part") "is_part" "is_part" oZ [] [] ["kind", "thing"] nQ := by
  refine Fd.of T.Cj.dn adF (fun cdv A outer s H E hr hG => ?_)
  have ct : cA (cxOf (L2.CX P w) P w K mg base ["kind", "thing"] "is_part" (defScope oZ) (He.ga K "is_part") cdv A outer s H E) (fun c d _ H' => E c d H') := cA.def_ hG
  have Br := Br (P := P) (base := base) T
  have acD : Room 3 _ := hr.mono (by first | decide | omega)
  have xG := xG (P := P) (base := base) T
  have VH : Room 2 _ := hr.mono (by first | decide | omega)
  have iU := iU (P := P) (base := base) T
  have pJ : Room 2 _ := hr.mono (by first | decide | omega)
  have jM := jM (P := P) (base := base) T
  have pW : Room 1 _ := hr.mono (by first | decide | omega)
  exact (aV (s_if (bW (cR hr.units) (ao (i := 0) rfl (by walk_at "v")) aU (nomark _)) (aX (s_ret (bU (jM.bK pW ct (Bd.all (n := 1) (ks := []) (is := List.range 1) (fun _ _ _ _ _ _ us ws h1 h2 => match us, ws, h1, h2 with | [_], [], _, _ => rfl))) (by rfl) T.kY.gl T.kY.kp (aq (ao (i := 1) rfl (by walk_at "v")) aH)))) cU)
    (aV (s_if (bW (cR hr.units) (ao (i := 0) rfl (by walk_at "v")) aU (nomark _)) (aX (s_ret (bU (iU.bK pJ ct (Bd.all (n := 1) (ks := []) (is := List.range 1) (fun _ _ _ _ _ _ us ws h1 h2 => match us, ws, h1, h2 with | [_], [], _, _ => rfl))) (by rfl) T.lY.gl T.lY.kp (aq (ao (i := 1) rfl (by walk_at "v")) aH)))) cU)
    (aV (s_if (bW (cR hr.units) (ao (i := 0) rfl (by walk_at "v")) aU (nomark _)) (aX (s_ret (bU (xG.bK VH ct (Bd.all (n := 1) (ks := []) (is := List.range 1) (fun _ _ _ _ _ _ us ws h1 h2 => match us, ws, h1, h2 with | [_], [], _, _ => rfl))) (by rfl) T.wI.gl T.wI.kp (aq (ao (i := 1) rfl (by walk_at "v")) aH)))) cU)
    (aV (s_if (PW.pt (Ao (bW (cR hr.units) (ao (i := 0) rfl (by walk_at "v")) aU (nomark _)) (zB (bW adR (ao (i := 1) rfl (by walk_at "v")) iJ (nomark _))))) (aX (s_ret qY)) cU)
    (aX (s_ret (bU (Br.bK acD ct (Bd.all (n := 1) (ks := []) (is := List.range 1) (fun _ _ _ _ _ _ us ws h1 h2 => match us, ws, h1, h2 with | [_], [], _, _ => rfl))) (by rfl) T.Ac.gl T.Ac.kp (aq (ao (i := 1) rfl (by walk_at "v")) aH))))))))
def jd : Mn := body 1 4
    (aY (cD (BL (ou (eE (bB (qj wZ) (ak (aj 0) (ak (eC (.ty "tuple")) aA))))) (BL (bZ (aG cM (bB jc (ak (aj 0) aA)) (eC (.int (0))))) (ou (eE (bB (qj wZ) (ak (aG bf (aj 0) (eC (.int (0)))) (ak (eC (.ty "str")) aA))))))) (bV (eC (.bl false))) cG)
    (aY (bJ (uL jL (aG bf (aj 0) (eC (.int (0)))) (bB bQ aA)) (gName 1))
    (aY (cD (BL (bZ (aG cM (aj 1) (bB bQ aA))) (bZ (aG cY (bB jc (ak (aj 0) aA)) (aG eO (bB jc (ak (aj 1) aA)) (eC (.int (1))))))) (bV (eC (.bl false))) cG)
    (bV (bB allM (ak (kJ (mW T8 (ak (aj 1) (ak (qI (aj 0) (gY (eC (.int (1)))) rB) aA))) (lB 2 (gCons (gName 2) (gCons (gName 3) gNil))) g8 (bx 2 0 nQ (ak (aj 2) (ak (aj 3) aA)) aA) [2, 3]) aA))))))
theorem xH (T : Top w K mg) : Fd P w K mg base (4 + 1) (He.ga K "is_log_row") "is_log_row" "is_log_row" iY [] [] ["thing"] jd := by
  refine Fd.of T.wJ.dn oM (fun cdv A outer s H E hr hG => ?_)
  have ct : cA (cxOf (L2.CX P w) P w K mg base ["thing", "kinds", "kind", "part"] "is_log_row" (defScope iY) (He.ga K "is_log_row") cdv A outer s H E) (fun c d _ H' => E c d H') := cA.def_ hG
  have DG := DG (P := P) (base := base) T
  have aec : Room 4 _ := hr.mono (by first | decide | omega)
  exact (aV (s_if (PW.pt (abd (Aq (oX (iZ (id := "isinstance") (FW (zN T)) (by rfl) T.mU (by decide +kernel) (aq (ao (i := 0) rfl (by walk_at "v")) (aq (Tg (by rfl) T.acK (by decide +kernel)) aH))) (by intro _; rfl))) (abd (bW (cR hr.units) (iZ (id := "len") qQ (by rfl) T.qO (by decide +kernel) (aq (ao (i := 0) rfl (by walk_at "v")) aH)) aR (nomark _)) (Wx (Aq (oX (iZ (id := "isinstance") (FW (zN T)) (by rfl) T.mU (by decide +kernel) (aq (aW hr.units (ao (i := 0) rfl (by walk_at "v")) aR (fun _ _ => rfl)) (aq (Tg (by rfl) T.aho (by decide +kernel)) aH))) (by intro _; rfl))))))) (aX (s_ret qY)) cU)
    (aV (s_asg (ajY (abE T) (by rfl) T.ah4 (aW hr.units (ao (i := 0) rfl (by walk_at "v")) aR (fun _ _ => rfl)) (cQ aH) ⟨rfl, rfl, rfl, rfl⟩) (bO (i := 1) oM.nd rfl (by walk_at "w")))
    (aV (s_if (PW.pt (abd (bW (cR hr.units) (ao (i := 1) rfl (by walk_at "v")) (cQ aH) (nomark _)) (Wx (bW (ji hr.units) (iZ (id := "len") qQ (by rfl) T.qO (by decide +kernel) (aq (ao (i := 0) rfl (by walk_at "v")) aH)) (dW lD (iZ (id := "len") qQ (by rfl) T.qO (by decide +kernel) (aq (ao (i := 1) rfl (by walk_at "v")) aH)) aR) (nomark _))))) (aX (s_ret qY)) cU)
    (aX (s_ret (iZ (id := "all") (Rq rfl) (by rfl) T.Ju (by decide +kernel) (aq (yN (own := [("kind", 2), ("part", 3)]) rfl oM.nd (akf (by rfl) T.alL (aq (ao (i := 1) rfl (by walk_at "v")) (aq (Ay (ao (i := 0) rfl (by walk_at "v")) (qH aR) Dh) aH))) (blkOk_by (N := ["thing", "kinds", "kind", "part"]) (sc := defScope iY) (by decide +kernel)) (fun _ _ _ _ _ => (abg rfl (tY (iw (i := 2) (by decide) oM.nd rfl (by walk_at "w")) (tY (iw (i := 3) (by decide) oM.nd rfl (by walk_at "w")) Tr)))) (fun _ _ _ _ _ => rZ) (fun _ _ _ _ _ => (bU (DG.bK aec ct.blk (Bd.all (n := 2) (ks := []) (is := List.range 2) (fun _ _ _ _ _ _ us ws h1 h2 => match us, ws, h1, h2 with | [_, _], [], _, _ => rfl))) (by rfl) T.Cj.gl T.Cj.kp (aq (ao (i := 2) rfl (by walk_at "v")) (aq (ao (i := 3) rfl (by walk_at "v")) aH))))) aH)))))))
def je : Mn := body 1 1
    (aY (cD (bZ (aG cM (aG bf (aj 0) (eC (.int (0)))) (eC (.str "begun")))) (bV (aG bf (aj 0) (eC (.int (2))))) cG)
    (bV (aG bf (aj 0) (eC (.int (1))))))
theorem rD (T : Top w K mg) : Fd P w K mg base (0 + 1) (He.ga K "doer_of") "doer_of" "doer_of" o7 [] [] ["row"] je := by
  refine Fd.of T.u5.dn adG (fun cdv A outer s H E hr hG => ?_)
  have ct : cA (cxOf (L2.CX P w) P w K mg base ["row"] "doer_of" (defScope o7) (He.ga K "doer_of") cdv A outer s H E) (fun c d _ H' => E c d H') := cA.def_ hG
  exact (aV (s_if (bW (cR hr.units) (aW hr.units (ao (i := 0) rfl (by walk_at "v")) aR (fun _ _ => rfl)) aU (nomark _)) (aX (s_ret (aW hr.units (ao (i := 0) rfl (by walk_at "v")) aR (fun _ _ => rfl)))) cU)
    (aX (s_ret (aW hr.units (ao (i := 0) rfl (by walk_at "v")) aR (fun _ _ => rfl)))))
def jf : Mn := body 2 5
    (aY (cD (ou (eE (bB allM (ak (pP (aj 0) (kJ (itI (aj 0)) (lB 2 (gCons (gName 2) (gCons (gName 3) gNil))) g8 (ju (bx 1 0 nO (ak (aj 2) aA) aA) (bx 1 2 (fun ds => pQ (GB.picked (ds ++ []) [0, 1, 2])) (ak (aj 3) aA) (ak (eC (.int (1))) (ak (eC (.int (5))) aA)))) [2, 3])) aA)))) (Dc "BadRun" Bo (ak (eC (.str "things")) aA)) cG)
    (cD (ou (eE (bB allM (ak (pP (aj 1) (kJ (itI (aj 1)) (lB 2 (gCons (gName 2) (gCons (gName 4) gNil))) g8 (ju (bx 1 0 nO (ak (aj 2) aA) aA) (bx 1 0 oR (ak (aj 4) aA) aA)) [2, 4])) aA)))) (Dc "BadRun" Bo (ak (eC (.str "cells")) aA)) cG))
theorem xJ (T : Top w K mg) : Fd P w K mg base (2 + 1) (He.ga K "check_told") "check_told" "check_told" gA [] [] ["things", "cells"] jf := by
  refine Fd.of T.wL.dn jt (fun cdv A outer s H E hr hG => ?_)
  have ct : cA (cxOf (L2.CX P w) P w K mg base ["things", "cells", "name", "many", "worth"] "check_told" (defScope gA) (He.ga K "check_told") cdv A outer s H E) (fun c d _ H' => E c d H') := cA.def_ hG
  have iU := iU (P := P) (base := base) T
  have pJ : Room 2 _ := hr.mono (by first | decide | omega)
  have jM := jM (P := P) (base := base) T
  have pW : Room 1 _ := hr.mono (by first | decide | omega)
  have Bp := Bp (P := P) (base := base) T
  have RQ : Room 2 _ := hr.mono (by first | decide | omega)
  have pU := pU (P := P) (base := base) T
  have yS : Room 1 _ := hr.mono (by first | decide | omega)
  exact (aV (s_if (Aq (oX (iZ (id := "all") (Rq rfl) (by rfl) T.Ju (by decide +kernel) (aq (RJ (fd := (aj 0)) (yN (own := [("name", 2), ("many", 3)]) rfl jt.nd (ac0 (ao (i := 0) rfl (by walk_at "v"))) (blkOk_by (N := ["things", "cells", "name", "many", "worth"]) (sc := defScope gA) (by decide +kernel)) (fun _ _ _ _ _ => (abg rfl (tY (iw (i := 2) (by decide) jt.nd rfl (by walk_at "w")) (tY (iw (i := 3) (by decide) jt.nd rfl (by walk_at "w")) Tr)))) (fun _ _ _ _ _ => rZ) (fun _ _ _ _ _ => (oA (bU (jM.bK pW ct.blk (Bd.all (n := 1) (ks := []) (is := List.range 1) (fun _ _ _ _ _ _ us ws h1 h2 => match us, ws, h1, h2 with | [_], [], _, _ => rfl))) (by rfl) T.kY.gl T.kY.kp (aq (ao (i := 2) rfl (by walk_at "v")) aH)) (lA (acM (pU.calls yS ct.blk (Bd.all (n := 1) (ks := ["least", "most"]) (is := [0, 1, 2]) (fun _ _ _ _ _ _ us ws h1 h2 => match us, ws, h1, h2 with | [_], [_, _], _, _ => rfl)) (fun _ _ => .nil)) (by rfl) T.rP.gl T.rP.kp (aq (ao (i := 3) rfl (by walk_at "v")) aH) (zE aR (zE aR adK)))))))) aH)) (by intro _; rfl))) (aX (Tw Bp RQ rfl ct (by rfl) (aq aU aH) Ve)) cU)
    (aX (s_if (Aq (oX (iZ (id := "all") (Rq rfl) (by rfl) T.Ju (by decide +kernel) (aq (RJ (fd := (aj 1)) (yN (own := [("name", 2), ("worth", 4)]) rfl jt.nd (ac0 (ao (i := 1) rfl (by walk_at "v"))) (blkOk_by (N := ["things", "cells", "name", "many", "worth"]) (sc := defScope gA) (by decide +kernel)) (fun _ _ _ _ _ => (abg rfl (tY (iw (i := 2) (by decide) jt.nd rfl (by walk_at "w")) (tY (iw (i := 4) (by decide) jt.nd rfl (by walk_at "w")) Tr)))) (fun _ _ _ _ _ => rZ) (fun _ _ _ _ _ => (oA (bU (jM.bK pW ct.blk (Bd.all (n := 1) (ks := []) (is := List.range 1) (fun _ _ _ _ _ _ us ws h1 h2 => match us, ws, h1, h2 with | [_], [], _, _ => rfl))) (by rfl) T.kY.gl T.kY.kp (aq (ao (i := 2) rfl (by walk_at "v")) aH)) (lA (bU (iU.bK pJ ct.blk (Bd.all (n := 1) (ks := []) (is := List.range 1) (fun _ _ _ _ _ _ us ws h1 h2 => match us, ws, h1, h2 with | [_], [], _, _ => rfl))) (by rfl) T.lY.gl T.lY.kp (aq (ao (i := 4) rfl (by walk_at "v")) aH))))))) aH)) (by intro _; rfl))) (aX (Tw Bp RQ rfl ct (by rfl) (aq aU aH) Ve)) cU)))
def dR : Mn := body 1 3
    (aY (vB (jY (aj 0)) (uJ (lB 2 (gCons (gName 1) (gCons (gName 2) gNil)))) (cD (eE (aj 2)) (bV (aj 1)) cG))
    (bV (eC .non)))
theorem cI (T : Top w K mg) : Fd P w K mg base (0 + 1) (He.ga K "first_so") "first_so" "first_so" nY [] [] ["rows"] dR := by
  refine Fd.of T.cX.dn yL (fun cdv A outer s H E hr hG => ?_)
  have ct : cA (cxOf (L2.CX P w) P w K mg base ["rows", "word", "is_so"] "first_so" (defScope nY) (He.ga K "first_so") cdv A outer s H E) (fun c d _ H' => E c d H') := cA.def_ hG
  exact (aV (Rj ct.po rfl (FJ (ao (i := 0) rfl (by walk_at "v"))) (alQ (alP rfl (acL (bO (i := 1) yL.nd rfl (by walk_at "w")) (acL (bO (i := 2) yL.nd rfl (by walk_at "w")) ajP)))) (aX (s_if (oX (ao (i := 2) rfl (by walk_at "v")) (by intro _; rfl)) (aX (s_ret (ao (i := 1) rfl (by walk_at "v")))) cU)))
    (aX (s_ret iJ)))
def iV : Mn := body 3 3
    (aY (cJ fX "beginner" (aj 0) (aj 1))
    (aY (cJ Dt "called" (aj 0) (aj 2))
    (aY (cJ fB "ending" (aj 0) (eC .non))
    (aY (ad6 (eC (.bl false)) (ad5 oN "owed" (aj 0)) (ad5 jk "shut" (aj 0)))
    (aY (cJ dG "state" (aj 0) (eC (.tup [.str "on"])))
    (aY (cJ jZ "had" (aj 0) (bB fH aA))
    (cJ pG "lasts" (aj 0) (bB fH aA))))))))
theorem oU (T : Top w K mg) : Fd P w K mg base (0 + 1) (He.ma K (He.ga K "Seen") "__init__") "__init__" "Seen.__init__" lW [] [] ["self", "beginner", "called"] iV := by
  refine Fd.of T.acq Xl (fun cdv A outer s H E hr hG => ?_)
  have ct : cA (cxOf (L2.CX P w) P w K mg base ["self", "beginner", "called"] "Seen.__init__" (defScope lW) (He.ma K (He.ga K "Seen") "__init__") cdv A outer s H E) (fun c d _ H' => E c d H') := cA.def_ hG
  exact (aV (iK (cs := fX) (xg T) (ao (i := 0) rfl (by walk_at "v")) (ao (i := 1) rfl (by walk_at "v")))
    (aV (iK (cs := Dt) (ad8 T) (ao (i := 0) rfl (by walk_at "v")) (ao (i := 2) rfl (by walk_at "v")))
    (aV (iK (cs := fB) (sS T) (ao (i := 0) rfl (by walk_at "v")) iJ)
    (aV (akg qY (ahE (cs := oN) (Bj T) (ao (i := 0) rfl (by walk_at "v"))) (ahE (cs := jk) (ux T) (ao (i := 0) rfl (by walk_at "v"))))
    (aV (iK (cs := dG) (jK T) (ao (i := 0) rfl (by walk_at "v")) (qG (by rfl) T.Tf (zQ T)))
    (aV (iK (cs := jZ) (wF T) (ao (i := 0) rfl (by walk_at "v")) (zF aH))
    (aX (iK (cs := pG) (Du T) (ao (i := 0) rfl (by walk_at "v")) (zF aH)))))))))
def jg : Mn := body 3 3
    (aY (gq (bx 2 0 jf (ak (CN (aj 1) pO) (ak pO aA)) aA))
    (aY (cJ uz "sizes" (aj 0) (bB sO (ak (CN (aj 1) pO) aA)))
    (aY (cJ qK "raw" (aj 0) (aj 2))
    (aY (cJ bY "tasks" (aj 0) (oG [((eC (.int (0))), (bx 2 0 (lC "Seen" fun ds => iV (GB.picked (ds ++ []) [0, 1, 2])) (ak (eC .non) (ak (eC .non) aA)) aA))]))
    (aY (cJ nJ "latest" (aj 0) pO)
    (aY (cJ pH "homes" (aj 0) pO)
    (aY (cJ oO "must" (aj 0) (eC .non))
    (cJ iG "many" (aj 0) (eC (.int (0)))))))))))
theorem xK (T : Top w K mg) : Fd P w K mg base (3 + 1) (He.ma K (He.ga K "Watch") "__init__") "__init__" "Watch.__init__" jR [] [("things", .non), ("raw", .bl false)] ["self", "things", "raw"] jg := by
  refine Fd.of T.Xm Vp (fun cdv A outer s H E hr hG => ?_)
  have ct : cA (cxOf (L2.CX P w) P w K mg base ["self", "things", "raw"] "Watch.__init__" (defScope jR) (He.ma K (He.ga K "Watch") "__init__") cdv A outer s H E) (fun c d _ H' => E c d H') := cA.def_ hG
  have oU := oU (P := P) (base := base) T
  have abG : Room 1 _ := hr.mono (by first | decide | omega)
  have vD : Room (1 + 1) _ := hr.mono (by first | decide | omega)
  have xJ := xJ (P := P) (base := base) T
  have VJ : Room 3 _ := hr.mono (by first | decide | omega)
  exact (aV (mV (bU (xJ.bK VJ ct (Bd.all (n := 2) (ks := []) (is := List.range 2) (fun _ _ _ _ _ _ us ws h1 h2 => match us, ws, h1, h2 with | [_, _], [], _, _ => rfl))) (by rfl) T.wL.gl T.wL.kp (aq (adJ (ao (i := 1) rfl (by walk_at "v")) (lA zH)) (aq zH aH))))
    (aV (iK (cs := uz) (Vd T) (ao (i := 0) rfl (by walk_at "v")) (rY ac1 (by rfl) T.aeK (by decide +kernel) (aq (adJ (ao (i := 1) rfl (by walk_at "v")) (lA zH)) aH)))
    (aV (iK (cs := qK) (Gk T) (ao (i := 0) rfl (by walk_at "v")) (ao (i := 2) rfl (by walk_at "v")))
    (aV (iK (cs := bY) (fO T) (ao (i := 0) rfl (by walk_at "v")) (Rx (ps := [((eC (.int (0))), (bx 2 0 (lC "Seen" fun ds => iV (GB.picked (ds ++ []) [0, 1, 2])) (ak (eC .non) (ak (eC .non) aA)) aA))]) (pps_cons aR (bU (oU.makes T.Jr vD ct (Bd.all (n := 3) (ks := []) (is := [0, 1, 2]) (fun _ _ _ _ _ _ us ws h1 h2 => match us, ws, h1, h2 with | [_, _, _], [], _, _ => rfl)) (fun _ _ => .nil)) (by rfl) T.aeJ T.Jr.kp (aq iJ (aq iJ aH))) pps_nil)))
    (aV (iK (cs := nJ) (RP T) (ao (i := 0) rfl (by walk_at "v")) zH)
    (aV (iK (cs := pH) (Dy T) (ao (i := 0) rfl (by walk_at "v")) zH)
    (aV (iK (cs := oO) (Bl T) (ao (i := 0) rfl (by walk_at "v")) iJ)
    (aX (iK (cs := iG) (xq T) (ao (i := 0) rfl (by walk_at "v")) aR)))))))))
def jX : Mn := body 1 1
    (bV (bM iG "many" (aj 0)))
theorem xM (T : Top w K mg) : Fd P w K mg base (0 + 1) (He.ma K (He.ga K "Watch") "seen") "seen" "Watch.seen" jT [] [] ["self"] jX := by
  refine Fd.of T.Xn Vq (fun cdv A outer s H E hr hG => ?_)
  have ct : cA (cxOf (L2.CX P w) P w K mg base ["self"] "Watch.seen" (defScope jT) (He.ma K (He.ga K "Watch") "seen") cdv A outer s H E) (fun c d _ H' => E c d H') := cA.def_ hG
  exact (aX (s_ret (cO (cs := iG) (xq T) (ao (i := 0) rfl (by walk_at "v")))))
def GX : Mn := body 2 2
    (bV (pP (bM nJ "latest" (aj 0)) (anA (aj 1) (bM nJ "latest" (aj 0)))))
def gG : Mn := body 2 4
    (aY (bJ (bB abo (ak (pP (bM bY "tasks" (aj 0)) (kJ (RK (bM bY "tasks" (aj 0))) (gName 3) g8 (jJ "list" Ds (bM jZ "had" (aj 3)) (ak (aj 1) aA)) [3])) aA)) (gName 2))
    (bV (aG BR (aj 2) (jJ "dict" getM (bM uz "sizes" (aj 0)) (ak (aj 1) (ak (eC (.int (1))) aA))))))
theorem sU (T : Top w K mg) : Fd P w K mg base (0 + 1) (He.ma K (He.ga K "Watch") "is_full") "is_full" "Watch.is_full" fK [] [] ["self", "thing"] gG := by
  refine Fd.of T.Jq nZ (fun cdv A outer s H E hr hG => ?_)
  have ct : cA (cxOf (L2.CX P w) P w K mg base ["self", "thing", "many", "one"] "Watch.is_full" (defScope fK) (He.ma K (He.ga K "Watch") "is_full") cdv A outer s H E) (fun c d _ H' => E c d H') := cA.def_ hG
  obtain ⟨_, VL⟩ := T.XC
  exact (aV (s_asg (iZ (id := "sum") (ahy rfl) (by rfl) T.ahp (by decide +kernel) (aq (RJ (fd := (bM bY "tasks" (aj 0))) (yN (own := [("one", 3)]) rfl nZ.nd (aby (cO (cs := bY) (fO T) (ao (i := 0) rfl (by walk_at "v")))) (blkOk_by (N := ["self", "thing", "many", "one"]) (sc := defScope fK) (by decide +kernel)) (fun _ _ _ _ _ => (iw (i := 3) (by decide) nZ.nd rfl (by walk_at "w"))) (fun _ _ _ _ _ => rZ) (fun _ _ _ _ _ => (Di PySem.F.plainAttrs_list PySem.F.slot_list_count PySem.F.type_list_count ahJ (cO (cs := jZ) (wF T) (ao (i := 3) rfl (by walk_at "v"))) (aq (ao (i := 1) rfl (by walk_at "v")) aH))))) aH)) (bO (i := 2) nZ.nd rfl (by walk_at "w")))
    (aX (s_ret (dB abm (ao (i := 2) rfl (by walk_at "v")) (Di PySem.F.plainAttrs_dict PySem.F.slot_dict_get PySem.F.type_dict_get (adX hr.units) (cO (cs := uz) (Vd T) (ao (i := 0) rfl (by walk_at "v"))) (aq (ao (i := 1) rfl (by walk_at "v")) (aq (aa9 (by rfl) VL) aH))) (nomark _)))))
def dN : Mn := body 3 6
    (aY (bJ (bM dG "state" (aG bf (bM bY "tasks" (aj 0)) (aj 1))) (gName 3))
    (aY (cD (bZ (aG cM (aj 3) (eC (.tup [.str "killed"])))) (bV (eC (.bl false))) cG)
    (aY (WT (bM bY "tasks" (aj 0)) (bJ (kJ (RK (bM bY "tasks" (aj 0))) (gName 5) (bZ (aG cM (bM fX "beginner" (aj 5)) (aj 1))) (bM fB "ending" (aj 5)) [5]) (gName 4)))
    (bV (aG RM (bB bQ (ak (eC (.str "failed")) (ak (aj 2) aA))) (aG eO (aj 4) (bB cC (ak (aj 3) aA))))))))
theorem iI (T : Top w K mg) : Fd P w K mg base (0 + 1) (He.ma K (He.ga K "Watch") "may_fail") "may_fail" "Watch.may_fail" fj [] [] ["self", "number", "mark"] dN := by
  refine Fd.of T.HW mJ (fun cdv A outer s H E hr hG => ?_)
  have ct : cA (cxOf (L2.CX P w) P w K mg base ["self", "number", "mark", "state", "handed", "one"] "Watch.may_fail" (defScope fj) (He.ma K (He.ga K "Watch") "may_fail") cdv A outer s H E) (fun c d _ H' => E c d H') := cA.def_ hG
  exact (aV (s_asg (cO (cs := dG) (jK T) (aW hr.units (cO (cs := bY) (fO T) (ao (i := 0) rfl (by walk_at "v"))) (ao (i := 1) rfl (by walk_at "v")) (fun _ _ => rfl))) (bO (i := 3) mJ.nd rfl (by walk_at "w")))
    (aV (s_if (bW (cR hr.units) (ao (i := 3) rfl (by walk_at "v")) (qG (by rfl) T.Ae (vX T)) (nomark _)) (aX (s_ret qY)) cU)
    (aV (aki (fd := (bM bY "tasks" (aj 0))) (aib (i := 4) (own := [("one", 5)]) rfl mJ.nd rfl rfl (sw_true rfl rfl rfl (by decide +kernel)) (aby (cO (cs := bY) (fO T) (ao (i := 0) rfl (by walk_at "v")))) (blkOk_by (N := ["self", "number", "mark", "state", "handed", "one"]) (sc := defScope fj) (by decide +kernel)) (fun _ _ _ _ _ => (iw (i := 5) (by decide) mJ.nd rfl (by walk_at "w"))) (fun _ _ _ _ _ => (abh (bW (cR hr.units) (cO (cs := fX) (xg T) (ao (i := 5) rfl (by walk_at "v"))) (ao (i := 1) rfl (by walk_at "v")) (nomark _)))) (fun _ _ _ _ _ => (cO (cs := fB) (sS T) (ao (i := 5) rfl (by walk_at "v"))))))
    (aX (s_ret (dB (ahH (abA hr)) (cQ (aq aU (aq (ao (i := 2) rfl (by walk_at "v")) aH))) (dW lD (ao (i := 4) rfl (by walk_at "v")) (d7 (aq (ao (i := 3) rfl (by walk_at "v")) aH))) (by rfl)))))))
def uP : Mn := body 3 3
    (bV (bx 1 0 dR (ak (bB cC (ak (bB bQ (ak (eC (.str "unwinds")) (ak (aG cY (bM dG "state" (aj 1)) (eC (.tup [.str "on"]))) aA))) aA)) aA) aA))
theorem yU (T : Top w K mg) : Fd P w K mg base (1 + 1) (He.ga K "ask_doing") "ask_doing" "ask_doing" lN [] [] ["watch", "task", "row"] uP := by
  refine Fd.of T.G6.dn Xi (fun cdv A outer s H E hr hG => ?_)
  have ct : cA (cxOf (L2.CX P w) P w K mg base ["watch", "task", "row"] "ask_doing" (defScope lN) (He.ga K "ask_doing") cdv A outer s H E) (fun c d _ H' => E c d H') := cA.def_ hG
  have cI := cI (P := P) (base := base) T
  have dF : Room 1 _ := hr.mono (by first | decide | omega)
  exact (aX (s_ret (bU (cI.bK dF ct (Bd.all (n := 1) (ks := []) (is := List.range 1) (fun _ _ _ _ _ _ us ws h1 h2 => match us, ws, h1, h2 with | [_], [], _, _ => rfl))) (by rfl) T.cX.gl T.cX.kp (aq (d7 (aq (cQ (aq aU (aq (dB (ji hr.units) (cO (cs := dG) (jK T) (ao (i := 1) rfl (by walk_at "v"))) (qG (by rfl) T.Tf (zQ T)) (nomark _)) aH))) aH)) aH))))
def uQ : Mn := body 3 5
    (aY (bJ (CN (aG cY (aG bf (aj 2) (eC (.int (1)))) (bB jc (ak (bM bY "tasks" (aj 0)) aA))) (aG BR (aG bf (aj 2) (eC (.int (1)))) (eC (.int (12))))) (gName 3))
    (aY (bJ (aG cY (jJ "dict" getM (bM pH "homes" (aj 0)) (ak (aG bf (aj 2) (eC (.int (4)))) (ak (aG bf (aj 2) (eC (.int (2)))) aA))) (aG bf (aj 2) (eC (.int (2))))) (gName 4))
    (bV (bx 1 0 dR (ak (bB cC (ak (bB bQ (ak (eC (.str "unwinds")) (ak (aG cY (bM dG "state" (aj 1)) (eC (.tup [.str "on"]))) aA))) (ak (bB bQ (ak (eC (.str "number")) (ak (aj 3) aA))) (ak (bB bQ (ak (eC (.str "home")) (ak (aj 4) aA))) aA)))) aA) aA))))
theorem yV (T : Top w K mg) : Fd P w K mg base (1 + 1) (He.ga K "ask_begun") "ask_begun" "ask_begun" lQ [] [] ["watch", "task", "row"] uQ := by
  refine Fd.of T.G9.dn wH (fun cdv A outer s H E hr hG => ?_)
  have ct : cA (cxOf (L2.CX P w) P w K mg base ["watch", "task", "row", "wrong", "home"] "ask_begun" (defScope lQ) (He.ga K "ask_begun") cdv A outer s H E) (fun c d _ H' => E c d H') := cA.def_ hG
  have cI := cI (P := P) (base := base) T
  have dF : Room 1 _ := hr.mono (by first | decide | omega)
  obtain ⟨_, VN⟩ := T.Xz
  exact (aV (s_asg (adJ (dB (ji hr.units) (aW hr.units (ao (i := 2) rfl (by walk_at "v")) aR (fun _ _ => rfl)) (iZ (id := "len") qQ (by rfl) T.qO (by decide +kernel) (aq (cO (cs := bY) (fO T) (ao (i := 0) rfl (by walk_at "v"))) aH)) (nomark _)) (lA (dB abm (aW hr.units (ao (i := 2) rfl (by walk_at "v")) aR (fun _ _ => rfl)) (aa9 (by rfl) VN) (nomark _)))) (bO (i := 3) wH.nd rfl (by walk_at "w")))
    (aV (s_asg (dB (ji hr.units) (Di PySem.F.plainAttrs_dict PySem.F.slot_dict_get PySem.F.type_dict_get (adX hr.units) (cO (cs := pH) (Dy T) (ao (i := 0) rfl (by walk_at "v"))) (aq (aW hr.units (ao (i := 2) rfl (by walk_at "v")) aR (fun _ _ => rfl)) (aq (aW hr.units (ao (i := 2) rfl (by walk_at "v")) aR (fun _ _ => rfl)) aH))) (aW hr.units (ao (i := 2) rfl (by walk_at "v")) aR (fun _ _ => rfl)) (nomark _)) (bO (i := 4) wH.nd rfl (by walk_at "w")))
    (aX (s_ret (bU (cI.bK dF ct (Bd.all (n := 1) (ks := []) (is := List.range 1) (fun _ _ _ _ _ _ us ws h1 h2 => match us, ws, h1, h2 with | [_], [], _, _ => rfl))) (by rfl) T.cX.gl T.cX.kp (aq (d7 (aq (cQ (aq aU (aq (dB (ji hr.units) (cO (cs := dG) (jK T) (ao (i := 1) rfl (by walk_at "v"))) (qG (by rfl) T.Tf (zQ T)) (nomark _)) aH))) (aq (cQ (aq aU (aq (ao (i := 3) rfl (by walk_at "v")) aH))) (aq (cQ (aq aU (aq (ao (i := 4) rfl (by walk_at "v")) aH))) aH)))) aH))))))
def yC : Mn := body 3 4
    (aY (bJ (ju (bM jk "shut" (aj 1)) (rR (bM qK "raw" (aj 0)))) (gName 3))
    (bV (bx 1 0 dR (ak (bB cC (ak (bB bQ (ak (eC (.str "unwinds")) (ak (aG cY (bM dG "state" (aj 1)) (eC (.tup [.str "on"]))) aA))) (ak (bB bQ (ak (eC (.str "full")) (ak (fM vW "is_full" 1 gG (aj 0) (ak (aG bf (aj 2) (eC (.int (2)))) aA)) aA))) (ak (bB bQ (ak (eC (.str "held")) (ak (aj 3) aA))) aA)))) aA) aA)))
theorem DK (T : Top w K mg) : Fd P w K mg base (1 + 1) (He.ga K "ask_got") "ask_got" "ask_got" o8 [] [] ["watch", "task", "row"] yC := by
  refine Fd.of T.Uz.dn Jp (fun cdv A outer s H E hr hG => ?_)
  have ct : cA (cxOf (L2.CX P w) P w K mg base ["watch", "task", "row", "held"] "ask_got" (defScope o8) (He.ga K "ask_got") cdv A outer s H E) (fun c d _ H' => E c d H') := cA.def_ hG
  have cI := cI (P := P) (base := base) T
  have dF : Room 1 _ := hr.mono (by first | decide | omega)
  have sU := sU (P := P) (base := base) T
  have Jc : Room 1 _ := hr.mono (by first | decide | omega)
  exact (aV (s_asg (oA (cO (cs := jk) (ux T) (ao (i := 1) rfl (by walk_at "v"))) (lA (Am (cO (cs := qK) (Gk T) (ao (i := 0) rfl (by walk_at "v")))))) (bO (i := 3) Jp.nd rfl (by walk_at "w")))
    (aX (s_ret (bU (cI.bK dF ct (Bd.all (n := 1) (ks := []) (is := List.range 1) (fun _ _ _ _ _ _ us ws h1 h2 => match us, ws, h1, h2 with | [_], [], _, _ => rfl))) (by rfl) T.cX.gl T.cX.kp (aq (d7 (aq (cQ (aq aU (aq (dB (ji hr.units) (cO (cs := dG) (jK T) (ao (i := 1) rfl (by walk_at "v"))) (qG (by rfl) T.Tf (zQ T)) (nomark _)) aH))) (aq (cQ (aq aU (aq (sE (cs := vW) (acC T) (sU.bK Jc ct (Bd.all (n := 2) (ks := []) (is := List.range 2) (fun _ _ _ _ _ _ us ws h1 h2 => match us, ws, h1, h2 with | [_, _], [], _, _ => rfl))) (ao (i := 0) rfl (by walk_at "v")) (aq (aW hr.units (ao (i := 2) rfl (by walk_at "v")) aR (fun _ _ => rfl)) aH)) aH))) (aq (cQ (aq aU (aq (ao (i := 3) rfl (by walk_at "v")) aH))) aH)))) aH)))))
def uR : Mn := body 3 3
    (aY (cD (eE (bM qK "raw" (aj 0))) (bV (bx 1 0 dR (ak (bB cC (ak (bB bQ (ak (eC (.str "had")) (ak (aG abD (aG bf (aj 2) (eC (.int (2)))) (bM jZ "had" (aj 1))) aA))) aA)) aA) aA)) cG)
    (bV (bx 1 0 dR (ak (bB cC (ak (bB bQ (ak (eC (.str "had")) (ak (aG (neL cY) (qI (bM jZ "had" (aj 1)) (gY (wO sG (eC (.int (1))))) rB) (bB cC (ak (aG bf (aj 2) (eC (.int (2)))) aA))) aA))) aA)) aA) aA)))
theorem yW (T : Top w K mg) : Fd P w K mg base (1 + 1) (He.ga K "ask_given") "ask_given" "ask_given" lU [] [] ["watch", "task", "row"] uR := by
  refine Fd.of T.Hf.dn Xj (fun cdv A outer s H E hr hG => ?_)
  have ct : cA (cxOf (L2.CX P w) P w K mg base ["watch", "task", "row"] "ask_given" (defScope lU) (He.ga K "ask_given") cdv A outer s H E) (fun c d _ H' => E c d H') := cA.def_ hG
  have cI := cI (P := P) (base := base) T
  have dF : Room 1 _ := hr.mono (by first | decide | omega)
  exact (aV (s_if (oX (cO (cs := qK) (Gk T) (ao (i := 0) rfl (by walk_at "v"))) (by intro _; rfl)) (aX (s_ret (bU (cI.bK dF ct (Bd.all (n := 1) (ks := []) (is := List.range 1) (fun _ _ _ _ _ _ us ws h1 h2 => match us, ws, h1, h2 with | [_], [], _, _ => rfl))) (by rfl) T.cX.gl T.cX.kp (aq (d7 (aq (cQ (aq aU (aq (dB (akm (abA hr)) (aW hr.units (ao (i := 2) rfl (by walk_at "v")) aR (fun _ _ => rfl)) (cO (cs := jZ) (wF T) (ao (i := 1) rfl (by walk_at "v"))) (by rfl)) aH))) aH)) aH)))) cU)
    (aX (s_ret (bU (cI.bK dF ct (Bd.all (n := 1) (ks := []) (is := List.range 1) (fun _ _ _ _ _ _ us ws h1 h2 => match us, ws, h1, h2 with | [_], [], _, _ => rfl))) (by rfl) T.cX.gl T.cX.kp (aq (d7 (aq (cQ (aq aU (aq (dB (uN hr.units (ji hr.units)) (Ay (cO (cs := jZ) (wF T) (ao (i := 1) rfl (by walk_at "v"))) (qH (Tj FQ aR)) Dh) (d7 (aq (aW hr.units (ao (i := 2) rfl (by walk_at "v")) aR (fun _ _ => rfl)) aH)) (nomark _)) aH))) aH)) aH)))))
def sV : Mn := body 3 3
    (bV (bx 1 0 dR (ak (bB cC (ak (bB bQ (ak (eC (.str "held")) (ak (bM jk "shut" (aj 1)) aA))) aA)) aA) aA))
theorem xO (T : Top w K mg) : Fd P w K mg base (1 + 1) (He.ga K "ask_masked") "ask_masked" "ask_masked" jO [] [] ["watch", "task", "row"] sV := by
  refine Fd.of T.Ck.dn Vn (fun cdv A outer s H E hr hG => ?_)
  have ct : cA (cxOf (L2.CX P w) P w K mg base ["watch", "task", "row"] "ask_masked" (defScope jO) (He.ga K "ask_masked") cdv A outer s H E) (fun c d _ H' => E c d H') := cA.def_ hG
  have cI := cI (P := P) (base := base) T
  have dF : Room 1 _ := hr.mono (by first | decide | omega)
  exact (aX (s_ret (bU (cI.bK dF ct (Bd.all (n := 1) (ks := []) (is := List.range 1) (fun _ _ _ _ _ _ us ws h1 h2 => match us, ws, h1, h2 with | [_], [], _, _ => rfl))) (by rfl) T.cX.gl T.cX.kp (aq (d7 (aq (cQ (aq aU (aq (cO (cs := jk) (ux T) (ao (i := 1) rfl (by walk_at "v"))) aH))) aH)) aH))))
def sW : Mn := body 3 3
    (bV (bx 1 0 dR (ak (bB cC (ak (bB bQ (ak (eC (.str "open")) (ak (rR (bM jk "shut" (aj 1))) aA))) (ak (bB bQ (ak (eC (.str "last")) (ak (aG (neL cY) (bM pG "lasts" (aj 1)) (bB cC aA)) aA))) aA))) aA) aA))
theorem xP (T : Top w K mg) : Fd P w K mg base (1 + 1) (He.ga K "ask_opened") "ask_opened" "ask_opened" jP [] [] ["watch", "task", "row"] sW := by
  refine Fd.of T.Cm.dn Vo (fun cdv A outer s H E hr hG => ?_)
  have ct : cA (cxOf (L2.CX P w) P w K mg base ["watch", "task", "row"] "ask_opened" (defScope jP) (He.ga K "ask_opened") cdv A outer s H E) (fun c d _ H' => E c d H') := cA.def_ hG
  have cI := cI (P := P) (base := base) T
  have dF : Room 1 _ := hr.mono (by first | decide | omega)
  exact (aX (s_ret (bU (cI.bK dF ct (Bd.all (n := 1) (ks := []) (is := List.range 1) (fun _ _ _ _ _ _ us ws h1 h2 => match us, ws, h1, h2 with | [_], [], _, _ => rfl))) (by rfl) T.cX.gl T.cX.kp (aq (d7 (aq (cQ (aq aU (aq (Am (cO (cs := jk) (ux T) (ao (i := 1) rfl (by walk_at "v")))) aH))) (aq (cQ (aq aU (aq (dB (uN hr.units (ji hr.units)) (cO (cs := pG) (Du T) (ao (i := 1) rfl (by walk_at "v"))) (d7 aH) (nomark _)) aH))) aH))) aH))))
def qR : Mn := body 3 3
    (bV (bx 1 0 dR (ak (bB cC (ak (bB bQ (ak (eC (.str "mark")) (ak (rR (fM lZ "may_fail" 2 dN (aj 0) (ak (aG bf (aj 2) (eC (.int (1)))) (ak (aG bf (aj 2) (eC (.int (2)))) aA)))) aA))) aA)) aA) aA))
theorem vG (T : Top w K mg) : Fd P w K mg base (1 + 1) (He.ga K "ask_rescued") "ask_rescued" "ask_rescued" jo [] [] ["watch", "task", "row"] qR := by
  refine Fd.of T.BK.dn SM (fun cdv A outer s H E hr hG => ?_)
  have ct : cA (cxOf (L2.CX P w) P w K mg base ["watch", "task", "row"] "ask_rescued" (defScope jo) (He.ga K "ask_rescued") cdv A outer s H E) (fun c d _ H' => E c d H') := cA.def_ hG
  have cI := cI (P := P) (base := base) T
  have dF : Room 1 _ := hr.mono (by first | decide | omega)
  have iI := iI (P := P) (base := base) T
  have qp : Room 1 _ := hr.mono (by first | decide | omega)
  exact (aX (s_ret (bU (cI.bK dF ct (Bd.all (n := 1) (ks := []) (is := List.range 1) (fun _ _ _ _ _ _ us ws h1 h2 => match us, ws, h1, h2 with | [_], [], _, _ => rfl))) (by rfl) T.cX.gl T.cX.kp (aq (d7 (aq (cQ (aq aU (aq (Am (sE (cs := lZ) (Dz T) (iI.bK qp ct (Bd.all (n := 3) (ks := []) (is := List.range 3) (fun _ _ _ _ _ _ us ws h1 h2 => match us, ws, h1, h2 with | [_, _, _], [], _, _ => rfl))) (ao (i := 0) rfl (by walk_at "v")) (aq (aW hr.units (ao (i := 2) rfl (by walk_at "v")) aR (fun _ _ => rfl)) (aq (aW hr.units (ao (i := 2) rfl (by walk_at "v")) aR (fun _ _ => rfl)) aH)))) aH))) aH)) aH))))
def uU : Mn := body 3 8
    (aY (bJ (bB anyM (ak (pP (bM bY "tasks" (aj 0)) (kJ (RK (bM bY "tasks" (aj 0))) (gName 7) g8 (ju (aG cM (bM fX "beginner" (aj 7)) (aG bf (aj 2) (eC (.int (1))))) (aG zG (bM fB "ending" (aj 7)) (eC .non))) [7])) aA)) (gName 3))
    (aY (cD (bZ (aG cM (aG bf (aG bf (aj 2) (eC (.int (2)))) (eC (.int (0)))) (eC (.str "failed")))) (bJ (fM lZ "may_fail" 2 dN (aj 0) (ak (aG bf (aj 2) (eC (.int (1)))) (ak (aG bf (aG bf (aj 2) (eC (.int (2)))) (eC (.int (1)))) aA))) (gName 6)) (cD (bZ (aG cM (aG bf (aj 2) (eC (.int (2)))) (eC (.tup [.str "killed"])))) (bJ (aG cM (bM dG "state" (aj 1)) (eC (.tup [.str "killed"]))) (gName 6)) (bJ (aG cM (bM dG "state" (aj 1)) (eC (.tup [.str "on"]))) (gName 6))))
    (aY (bJ (ju (aG (neL cY) (bM jZ "had" (aj 1)) (bB cC aA)) (rR (bM qK "raw" (aj 0)))) (gName 4))
    (aY (bJ (bB cC (ak (bB bQ (ak (eC (.str "held")) (ak (bM jk "shut" (aj 1)) aA))) (ak (bB bQ (ak (eC (.str "last")) (ak (aG (neL cY) (bM pG "lasts" (aj 1)) (bB cC aA)) aA))) (ak (bB bQ (ak (eC (.str "outlives")) (ak (aj 3) aA))) (ak (bB bQ (ak (eC (.str "owed")) (ak (bM oN "owed" (aj 1)) aA))) aA))))) (gName 5))
    (bV (bx 1 0 dR (ak (aG eO (aj 5) (bB cC (ak (bB bQ (ak (eC (.str "keeps")) (ak (aj 4) aA))) (ak (bB bQ (ak (eC (.str "outcome")) (ak (rR (aj 6)) aA))) aA)))) aA) aA))))))
theorem yX (T : Top w K mg) : Fd P w K mg base (1 + 1) (He.ga K "ask_ended") "ask_ended" "ask_ended" jH [] [] ["watch", "task", "row"] uU := by
  refine Fd.of T.Hg.dn gD (fun cdv A outer s H E hr hG => ?_)
  have ct : cA (cxOf (L2.CX P w) P w K mg base ["watch", "task", "row", "outlives", "keeps", "rows", "right", "one"] "ask_ended" (defScope jH) (He.ga K "ask_ended") cdv A outer s H E) (fun c d _ H' => E c d H') := cA.def_ hG
  have cI := cI (P := P) (base := base) T
  have dF : Room 1 _ := hr.mono (by first | decide | omega)
  have iI := iI (P := P) (base := base) T
  have qp : Room 1 _ := hr.mono (by first | decide | omega)
  exact (aV (s_asg (iZ (id := "any") (alR rfl) (by rfl) T.alK (by decide +kernel) (aq (RJ (fd := (bM bY "tasks" (aj 0))) (yN (own := [("one", 7)]) rfl gD.nd (aby (cO (cs := bY) (fO T) (ao (i := 0) rfl (by walk_at "v")))) (blkOk_by (N := ["watch", "task", "row", "outlives", "keeps", "rows", "right", "one"]) (sc := defScope jH) (by decide +kernel)) (fun _ _ _ _ _ => (iw (i := 7) (by decide) gD.nd rfl (by walk_at "w"))) (fun _ _ _ _ _ => rZ) (fun _ _ _ _ _ => (oA (dB (cR hr.units) (cO (cs := fX) (xg T) (ao (i := 7) rfl (by walk_at "v"))) (aW hr.units (ao (i := 2) rfl (by walk_at "v")) aR (fun _ _ => rfl)) (nomark _)) (lA (dB adR (cO (cs := fB) (sS T) (ao (i := 7) rfl (by walk_at "v"))) iJ (nomark _))))))) aH)) (bO (i := 3) gD.nd rfl (by walk_at "w")))
    (aV (s_if (bW (cR hr.units) (aW hr.units (aW hr.units (ao (i := 2) rfl (by walk_at "v")) aR (fun _ _ => rfl)) aR (fun _ _ => rfl)) aU (nomark _)) (aX (s_asg (sE (cs := lZ) (Dz T) (iI.bK qp ct (Bd.all (n := 3) (ks := []) (is := List.range 3) (fun _ _ _ _ _ _ us ws h1 h2 => match us, ws, h1, h2 with | [_, _, _], [], _, _ => rfl))) (ao (i := 0) rfl (by walk_at "v")) (aq (aW hr.units (ao (i := 2) rfl (by walk_at "v")) aR (fun _ _ => rfl)) (aq (aW hr.units (aW hr.units (ao (i := 2) rfl (by walk_at "v")) aR (fun _ _ => rfl)) aR (fun _ _ => rfl)) aH))) (bO (i := 6) gD.nd rfl (by walk_at "w")))) (aX (s_if (bW (cR hr.units) (aW hr.units (ao (i := 2) rfl (by walk_at "v")) aR (fun _ _ => rfl)) (qG (by rfl) T.Ae (vX T)) (nomark _)) (aX (s_asg (dB (cR hr.units) (cO (cs := dG) (jK T) (ao (i := 1) rfl (by walk_at "v"))) (qG (by rfl) T.Ae (vX T)) (nomark _)) (bO (i := 6) gD.nd rfl (by walk_at "w")))) (aX (s_asg (dB (cR hr.units) (cO (cs := dG) (jK T) (ao (i := 1) rfl (by walk_at "v"))) (qG (by rfl) T.Tf (zQ T)) (nomark _)) (bO (i := 6) gD.nd rfl (by walk_at "w")))))))
    (aV (s_asg (oA (dB (uN hr.units (ji hr.units)) (cO (cs := jZ) (wF T) (ao (i := 1) rfl (by walk_at "v"))) (d7 aH) (nomark _)) (lA (Am (cO (cs := qK) (Gk T) (ao (i := 0) rfl (by walk_at "v")))))) (bO (i := 4) gD.nd rfl (by walk_at "w")))
    (aV (s_asg (d7 (aq (cQ (aq aU (aq (cO (cs := jk) (ux T) (ao (i := 1) rfl (by walk_at "v"))) aH))) (aq (cQ (aq aU (aq (dB (uN hr.units (ji hr.units)) (cO (cs := pG) (Du T) (ao (i := 1) rfl (by walk_at "v"))) (d7 aH) (nomark _)) aH))) (aq (cQ (aq aU (aq (ao (i := 3) rfl (by walk_at "v")) aH))) (aq (cQ (aq aU (aq (cO (cs := oN) (Bj T) (ao (i := 1) rfl (by walk_at "v"))) aH))) aH))))) (bO (i := 5) gD.nd rfl (by walk_at "w")))
    (aX (s_ret (bU (cI.bK dF ct (Bd.all (n := 1) (ks := []) (is := List.range 1) (fun _ _ _ _ _ _ us ws h1 h2 => match us, ws, h1, h2 with | [_], [], _, _ => rfl))) (by rfl) T.cX.gl T.cX.kp (aq (dW lD (ao (i := 5) rfl (by walk_at "v")) (d7 (aq (cQ (aq aU (aq (ao (i := 4) rfl (by walk_at "v")) aH))) (aq (cQ (aq aU (aq (Am (ao (i := 6) rfl (by walk_at "v"))) aH))) aH)))) aH))))))))
def dH : Mn := body 2 7
    (aY (cD (ou (eE (bx 1 0 jd (ak (aj 1) aA) aA))) (bV (eC (.str "row"))) cG)
    (aY (cD (jD (bZ (aG qd (bM oO "must" (aj 0)) (eC .non))) (bZ (aG cY (aj 1) (bM oO "must" (aj 0))))) (bV (eC (.str "turn"))) cG)
    (aY (bJ (bx 1 0 je (ak (aj 1) aA) aA) (gName 2))
    (aY (bJ (UG (bZ (aG inX (aG bf (aj 1) (eC (.int (0)))) (bB bQ (ak (eC (.str "kill")) (ak (eC (.str "late")) aA))))) (qI (aj 1) (gY (eC (.int (2)))) rB) (bB bQ aA)) (gName 3))
    (aY (cD (ou (eE (bB allM (ak (kJ (jY (aG eO (bB bQ (ak (aj 2) aA)) (aj 3))) (gName 6) g8 (CN (aG zG (aj 6) (eC .non)) (aG inX (aj 6) (bM bY "tasks" (aj 0)))) [6]) aA)))) (bV (eC (.str "task"))) cG)
    (aY (bJ (eC .non) (gName 4))
    (aY (cD (bZ (aG qd (aj 2) (eC .non))) (aY (bJ (aG bf (bM bY "tasks" (aj 0)) (aj 2)) (gName 4))
    (cD (bZ (aG qd (bM fB "ending" (aj 4)) (eC .non))) (bV (eC (.str "ended"))) cG)) cG)
    (aY (bJ (yQ iQ (aG bf (aj 1) (eC (.int (0))))) (gName 5))
    (bV (pD 5 3 (wW [("ask_doing", uP), ("ask_rescued", qR), ("ask_got", yC), ("ask_given", uR), ("ask_masked", sV), ("ask_opened", sW), ("ask_begun", uQ), ("ask_ended", uU)]) (ak (aj 0) (ak (aj 4) (ak (aj 1) aA)))))))))))))
theorem uD (T : Top w K mg) : Fd P w K mg base (5 + 1) (He.ma K (He.ga K "Watch") "reason") "reason" "Watch.reason" fZ [] [] ["self", "row"] dH := by
  refine Fd.of T.Tc fL (fun cdv A outer s H E hr hG => ?_)
  have ct : cA (cxOf (L2.CX P w) P w K mg base ["self", "row", "doer", "others", "task", "asking", "number"] "Watch.reason" (defScope fZ) (He.ma K (He.ga K "Watch") "reason") cdv A outer s H E) (fun c d _ H' => E c d H') := cA.def_ hG
  have yX := yX (P := P) (base := base) T
  have abH : Room 2 _ := hr.mono (by first | decide | omega)
  have yV := yV (P := P) (base := base) T
  have abI : Room 2 _ := hr.mono (by first | decide | omega)
  have xP := xP (P := P) (base := base) T
  have VP : Room 2 _ := hr.mono (by first | decide | omega)
  have xO := xO (P := P) (base := base) T
  have VR : Room 2 _ := hr.mono (by first | decide | omega)
  have yW := yW (P := P) (base := base) T
  have abJ : Room 2 _ := hr.mono (by first | decide | omega)
  have DK := DK (P := P) (base := base) T
  have aed : Room 2 _ := hr.mono (by first | decide | omega)
  have vG := vG (P := P) (base := base) T
  have Ug : Room 2 _ := hr.mono (by first | decide | omega)
  have yU := yU (P := P) (base := base) T
  have abK : Room 2 _ := hr.mono (by first | decide | omega)
  have rD := rD (P := P) (base := base) T
  have Bs : Room 1 _ := hr.mono (by first | decide | omega)
  have xH := xH (P := P) (base := base) T
  have V1 : Room 5 _ := hr.mono (by first | decide | omega)
  exact (aV (s_if (Aq (oX (bU (xH.bK V1 ct (Bd.all (n := 1) (ks := []) (is := List.range 1) (fun _ _ _ _ _ _ us ws h1 h2 => match us, ws, h1, h2 with | [_], [], _, _ => rfl))) (by rfl) T.wJ.gl T.wJ.kp (aq (ao (i := 1) rfl (by walk_at "v")) aH)) (by intro _; rfl))) (aX (s_ret aU)) cU)
    (aV (s_if (PW.pt (Ao (bW Ax (cO (cs := oO) (Bl T) (ao (i := 0) rfl (by walk_at "v"))) iJ (nomark _)) (zB (bW (ji hr.units) (ao (i := 1) rfl (by walk_at "v")) (cO (cs := oO) (Bl T) (ao (i := 0) rfl (by walk_at "v"))) (nomark _))))) (aX (s_ret aU)) cU)
    (aV (s_asg (bU (rD.bK Bs ct (Bd.all (n := 1) (ks := []) (is := List.range 1) (fun _ _ _ _ _ _ us ws h1 h2 => match us, ws, h1, h2 with | [_], [], _, _ => rfl))) (by rfl) T.u5.gl T.u5.kp (aq (ao (i := 1) rfl (by walk_at "v")) aH)) (bO (i := 2) fL.nd rfl (by walk_at "w")))
    (aV (s_asg (anr (bW (vR hr.units) (aW hr.units (ao (i := 1) rfl (by walk_at "v")) aR (fun _ _ => rfl)) (cQ (aq aU (aq aU aH))) (by rfl)) (Ay (ao (i := 1) rfl (by walk_at "v")) (qH aR) Dh) (cQ aH)) (bO (i := 3) fL.nd rfl (by walk_at "w")))
    (aV (s_if (Aq (oX (iZ (id := "all") (Rq rfl) (by rfl) T.Ju (by decide +kernel) (aq (yN (own := [("number", 6)]) rfl fL.nd (FJ (dW lD (cQ (aq (ao (i := 2) rfl (by walk_at "v")) aH)) (ao (i := 3) rfl (by walk_at "v")))) (blkOk_by (N := ["self", "row", "doer", "others", "task", "asking", "number"]) (sc := defScope fZ) (by decide +kernel)) (fun _ _ _ _ _ => (iw (i := 6) (by decide) fL.nd rfl (by walk_at "w"))) (fun _ _ _ _ _ => rZ) (fun _ _ _ _ _ => (adJ (dB adR (ao (i := 6) rfl (by walk_at "v")) iJ (nomark _)) (lA (dB (vR hr.units) (ao (i := 6) rfl (by walk_at "v")) (cO (cs := bY) (fO T) (ao (i := 0) rfl (by walk_at "v"))) (by rfl)))))) aH)) (by intro _; rfl))) (aX (s_ret aU)) cU)
    (aV (s_asg iJ (bO (i := 4) fL.nd rfl (by walk_at "w")))
    (aV (s_if (bW Ax (ao (i := 2) rfl (by walk_at "v")) iJ (nomark _)) (aV (s_asg (aW hr.units (cO (cs := bY) (fO T) (ao (i := 0) rfl (by walk_at "v"))) (ao (i := 2) rfl (by walk_at "v")) (fun _ _ => rfl)) (bO (i := 4) fL.nd rfl (by walk_at "w")))
    (aX (s_if (bW Ax (cO (cs := fB) (sS T) (ao (i := 4) rfl (by walk_at "v"))) iJ (nomark _)) (aX (s_ret aU)) cU))) cU)
    (aV (s_asg (alS (VB T) (by rfl) T.agd (aW hr.units (ao (i := 1) rfl (by walk_at "v")) aR (fun _ _ => rfl)) (fun _ _ => rfl)) (bO (i := 5) fL.nd rfl (by walk_at "w")))
    (aX (s_ret (aii (i := 5) (lE.get (lE.cons ⟨yU.bK abK ct (Bd.all (n := 3) (ks := []) (is := List.range 3) (fun _ _ _ _ _ _ us ws h1 h2 => match us, ws, h1, h2 with | [_, _, _], [], _, _ => rfl)), T.G6.kp⟩ (lE.cons ⟨vG.bK Ug ct (Bd.all (n := 3) (ks := []) (is := List.range 3) (fun _ _ _ _ _ _ us ws h1 h2 => match us, ws, h1, h2 with | [_, _, _], [], _, _ => rfl)), T.BK.kp⟩ (lE.cons ⟨DK.bK aed ct (Bd.all (n := 3) (ks := []) (is := List.range 3) (fun _ _ _ _ _ _ us ws h1 h2 => match us, ws, h1, h2 with | [_, _, _], [], _, _ => rfl)), T.Uz.kp⟩ (lE.cons ⟨yW.bK abJ ct (Bd.all (n := 3) (ks := []) (is := List.range 3) (fun _ _ _ _ _ _ us ws h1 h2 => match us, ws, h1, h2 with | [_, _, _], [], _, _ => rfl)), T.Hf.kp⟩ (lE.cons ⟨xO.bK VR ct (Bd.all (n := 3) (ks := []) (is := List.range 3) (fun _ _ _ _ _ _ us ws h1 h2 => match us, ws, h1, h2 with | [_, _, _], [], _, _ => rfl)), T.Ck.kp⟩ (lE.cons ⟨xP.bK VP ct (Bd.all (n := 3) (ks := []) (is := List.range 3) (fun _ _ _ _ _ _ us ws h1 h2 => match us, ws, h1, h2 with | [_, _, _], [], _, _ => rfl)), T.Cm.kp⟩ (lE.cons ⟨yV.bK abI ct (Bd.all (n := 3) (ks := []) (is := List.range 3) (fun _ _ _ _ _ _ us ws h1 h2 => match us, ws, h1, h2 with | [_, _, _], [], _, _ => rfl)), T.G9.kp⟩ (lE.cons ⟨yX.bK abH ct (Bd.all (n := 3) (ks := []) (is := List.range 3) (fun _ _ _ _ _ _ us ws h1 h2 => match us, ws, h1, h2 with | [_, _, _], [], _, _ => rfl)), T.Hg.kp⟩ lE.nil))))))))) rfl (by walk_at "v") (aq (ao (i := 0) rfl (by walk_at "v")) (aq (ao (i := 4) rfl (by walk_at "v")) (aq (ao (i := 1) rfl (by walk_at "v")) aH))))))))))))))
def fU : Mn := body 3 3
    (cD (bZ (aG cM (aG bf (aj 2) (eC (.int (0)))) (eC (.str "got")))) (gq (jJ "list" sJ (aj 1) (ak (aG bf (aj 2) (eC (.int (2)))) aA))) (aY (gq (TQ "list" Dq (aj 1)))
    (aY (gq (jJ "list" abB (aj 1) (ak (aG bf (aj 2) (eC (.int (2)))) aA)))
    (gq (TQ "list" Dq (aj 1))))))
theorem xQ (T : Top w K mg) : Fd P w K mg base (0 + 1) (He.ma K (He.ga K "Watch") "hold") "hold" "Watch.hold" jV [] [] ["self", "had", "row"] fU := by
  refine Fd.of T.Xp Vr (fun cdv A outer s H E hr hG => ?_)
  have ct : cA (cxOf (L2.CX P w) P w K mg base ["self", "had", "row"] "Watch.hold" (defScope jV) (He.ma K (He.ga K "Watch") "hold") cdv A outer s H E) (fun c d _ H' => E c d H') := cA.def_ hG
  exact (aX (s_if (bW (cR hr.units) (aW hr.units (ao (i := 2) rfl (by walk_at "v")) aR (fun _ _ => rfl)) aU (nomark _)) (aX (mV (Iw (ao (i := 1) rfl (by walk_at "v")) (aq (aW hr.units (ao (i := 2) rfl (by walk_at "v")) aR (fun _ _ => rfl)) aH)))) (aV (mV (adV PySem.F.plainAttrs_list PySem.F.slot_list_reverse PySem.F.type_list_reverse ahI (ao (i := 1) rfl (by walk_at "v"))))
    (aV (mV (Di PySem.F.plainAttrs_list PySem.F.slot_list_remove PySem.F.type_list_remove al7 (ao (i := 1) rfl (by walk_at "v")) (aq (aW hr.units (ao (i := 2) rfl (by walk_at "v")) aR (fun _ _ => rfl)) aH)))
    (aX (mV (adV PySem.F.plainAttrs_list PySem.F.slot_list_reverse PySem.F.type_list_reverse ahI (ao (i := 1) rfl (by walk_at "v")))))))))
def rQ : Mn := fun _ _ => .stuck
theorem xR (T : Top w K mg) : Fd P w K mg base 1 (He.ma K (He.ga K "Watch") "turn") "turn" "Watch.turn" pC [] [] ["self", "task", "row"] rQ := Fd.stuck T.Xq
def fY : Mn := body 3 3
    (cD (bZ (aG cM (aG bf (aj 2) (eC (.int (0)))) (eC (.str "failed")))) (cJ dG "state" (aj 1) (bB bQ (ak (eC (.str "failed")) (ak (aG bf (aj 2) (eC (.int (2)))) aA)))) (cD (bZ (aG cM (aG bf (aj 2) (eC (.int (0)))) (eC (.str "rescued")))) (cJ dG "state" (aj 1) (eC (.tup [.str "on"]))) (cD (bZ (aG cM (aG bf (aj 2) (eC (.int (0)))) (eC (.str "landed")))) (aY (cJ oN "owed" (aj 1) (eC (.bl false)))
    (cJ dG "state" (aj 1) (eC (.tup [.str "killed"])))) (cD (bZ (aG cM (aG bf (aj 2) (eC (.int (0)))) (eC (.str "ended")))) (cJ fB "ending" (aj 1) (aG bf (aj 2) (eC (.int (2))))) cG))))
theorem vH (T : Top w K mg) : Fd P w K mg base (0 + 1) (He.ma K (He.ga K "Watch") "go_on") "go_on" "Watch.go_on" jr [] [] ["self", "task", "row"] fY := by
  refine Fd.of T.Vt SQ (fun cdv A outer s H E hr hG => ?_)
  have ct : cA (cxOf (L2.CX P w) P w K mg base ["self", "task", "row"] "Watch.go_on" (defScope jr) (He.ma K (He.ga K "Watch") "go_on") cdv A outer s H E) (fun c d _ H' => E c d H') := cA.def_ hG
  exact (aX (s_if (bW (cR hr.units) (aW hr.units (ao (i := 2) rfl (by walk_at "v")) aR (fun _ _ => rfl)) aU (nomark _)) (aX (iK (cs := dG) (jK T) (ao (i := 1) rfl (by walk_at "v")) (cQ (aq aU (aq (aW hr.units (ao (i := 2) rfl (by walk_at "v")) aR (fun _ _ => rfl)) aH))))) (aX (s_if (bW (cR hr.units) (aW hr.units (ao (i := 2) rfl (by walk_at "v")) aR (fun _ _ => rfl)) aU (nomark _)) (aX (iK (cs := dG) (jK T) (ao (i := 1) rfl (by walk_at "v")) (qG (by rfl) T.Tf (zQ T)))) (aX (s_if (bW (cR hr.units) (aW hr.units (ao (i := 2) rfl (by walk_at "v")) aR (fun _ _ => rfl)) aU (nomark _)) (aV (iK (cs := oN) (Bj T) (ao (i := 1) rfl (by walk_at "v")) qY)
    (aX (iK (cs := dG) (jK T) (ao (i := 1) rfl (by walk_at "v")) (qG (by rfl) T.Ae (vX T))))) (aX (s_if (bW (cR hr.units) (aW hr.units (ao (i := 2) rfl (by walk_at "v")) aR (fun _ _ => rfl)) aU (nomark _)) (aX (iK (cs := fB) (sS T) (ao (i := 1) rfl (by walk_at "v")) (aW hr.units (ao (i := 2) rfl (by walk_at "v")) aR (fun _ _ => rfl)))) cU))))))))
def fQ : Mn := body 2 3
    (aY (cJ oO "must" (aj 0) (eC .non))
    (aY (bJ (bx 1 0 je (ak (aj 1) aA) aA) (gName 2))
    (cD (bZ (aG cM (aG bf (aj 1) (eC (.int (0)))) (eC (.str "begun")))) (aY (bJ (bx 2 0 (lC "Seen" fun ds => iV (GB.picked (ds ++ []) [0, 1, 2])) (ak (aj 2) (ak (aG bf (aj 1) (eC (.int (3)))) aA)) aA) (jE (bM bY "tasks" (aj 0)) (aG bf (aj 1) (eC (.int (1))))))
    (aY (bJ (aG bf (aj 1) (eC (.int (1)))) (jE (bM nJ "latest" (aj 0)) (aG bf (aj 1) (eC (.int (3))))))
    (bJ (aj 2) (jE (bM pH "homes" (aj 0)) (aG bf (aj 1) (eC (.int (4)))))))) (cD (bZ (aG cM (aG bf (aj 1) (eC (.int (0)))) (eC (.str "kill")))) (cJ oN "owed" (aG bf (bM bY "tasks" (aj 0)) (aG bf (aj 1) (eC (.int (2))))) (eC (.bl true))) (cD (bZ (aG inX (aG bf (aj 1) (eC (.int (0)))) (bB bQ (ak (eC (.str "got")) (ak (eC (.str "given")) aA))))) (gq (fM Gn "hold" 2 fU (aj 0) (ak (bM jZ "had" (aG bf (bM bY "tasks" (aj 0)) (aj 2))) (ak (aj 1) aA)))) (cD (bZ (aG inX (aG bf (aj 1) (eC (.int (0)))) (bB bQ (ak (eC (.str "last")) (ak (eC (.str "lasted")) aA))))) (gq (fM Ue "turn" 2 rQ (aj 0) (ak (aG bf (bM bY "tasks" (aj 0)) (aj 2)) (ak (aj 1) aA)))) (cD (bZ (aG inX (aG bf (aj 1) (eC (.int (0)))) (bB bQ (ak (eC (.str "masked")) (ak (eC (.str "opened")) aA))))) (cJ jk "shut" (aG bf (bM bY "tasks" (aj 0)) (aj 2)) (aG cM (aG bf (aj 1) (eC (.int (0)))) (eC (.str "masked")))) (cD (bZ (aG qd (aj 2) (eC .non))) (gq (fM Bm "go_on" 2 fY (aj 0) (ak (aG bf (bM bY "tasks" (aj 0)) (aj 2)) (ak (aj 1) aA)))) cG))))))))
theorem xT (T : Top w K mg) : Fd P w K mg base (2 + 1) (He.ma K (He.ga K "Watch") "take") "take" "Watch.take" jU [] [] ["self", "row"] fQ := by
  refine Fd.of T.Xo BJ (fun cdv A outer s H E hr hG => ?_)
  have ct : cA (cxOf (L2.CX P w) P w K mg base ["self", "row", "doer"] "Watch.take" (defScope jU) (He.ma K (He.ga K "Watch") "take") cdv A outer s H E) (fun c d _ H' => E c d H') := cA.def_ hG
  have oU := oU (P := P) (base := base) T
  have abG : Room 1 _ := hr.mono (by first | decide | omega)
  have vD : Room (1 + 1) _ := hr.mono (by first | decide | omega)
  have xQ := xQ (P := P) (base := base) T
  have V2 : Room 1 _ := hr.mono (by first | decide | omega)
  have xR := xR (P := P) (base := base) T
  have V3 : Room 1 _ := hr.mono (by first | decide | omega)
  have vH := vH (P := P) (base := base) T
  have Uh : Room 1 _ := hr.mono (by first | decide | omega)
  have rD := rD (P := P) (base := base) T
  have Bs : Room 1 _ := hr.mono (by first | decide | omega)
  exact (aV (iK (cs := oO) (Bl T) (ao (i := 0) rfl (by walk_at "v")) iJ)
    (aV (s_asg (bU (rD.bK Bs ct (Bd.all (n := 1) (ks := []) (is := List.range 1) (fun _ _ _ _ _ _ us ws h1 h2 => match us, ws, h1, h2 with | [_], [], _, _ => rfl))) (by rfl) T.u5.gl T.u5.kp (aq (ao (i := 1) rfl (by walk_at "v")) aH)) (bO (i := 2) BJ.nd rfl (by walk_at "w")))
    (aX (s_if (bW (cR hr.units) (aW hr.units (ao (i := 1) rfl (by walk_at "v")) aR (fun _ _ => rfl)) aU (nomark _)) (aV (s_asg (bU (oU.makes T.Jr vD ct (Bd.all (n := 3) (ks := []) (is := [0, 1, 2]) (fun _ _ _ _ _ _ us ws h1 h2 => match us, ws, h1, h2 with | [_, _, _], [], _, _ => rfl)) (fun _ _ => .nil)) (by rfl) T.aeJ T.Jr.kp (aq (ao (i := 2) rfl (by walk_at "v")) (aq (aW hr.units (ao (i := 1) rfl (by walk_at "v")) aR (fun _ _ => rfl)) aH))) (qJ hr.units (cO (cs := bY) (fO T) (ao (i := 0) rfl (by walk_at "v"))) (aW hr.units (ao (i := 1) rfl (by walk_at "v")) aR (fun _ _ => rfl))))
    (aV (s_asg (aW hr.units (ao (i := 1) rfl (by walk_at "v")) aR (fun _ _ => rfl)) (qJ hr.units (cO (cs := nJ) (RP T) (ao (i := 0) rfl (by walk_at "v"))) (aW hr.units (ao (i := 1) rfl (by walk_at "v")) aR (fun _ _ => rfl))))
    (aX (s_asg (ao (i := 2) rfl (by walk_at "v")) (qJ hr.units (cO (cs := pH) (Dy T) (ao (i := 0) rfl (by walk_at "v"))) (aW hr.units (ao (i := 1) rfl (by walk_at "v")) aR (fun _ _ => rfl))))))) (aX (s_if (bW (cR hr.units) (aW hr.units (ao (i := 1) rfl (by walk_at "v")) aR (fun _ _ => rfl)) aU (nomark _)) (aX (iK (cs := oN) (Bj T) (aW hr.units (cO (cs := bY) (fO T) (ao (i := 0) rfl (by walk_at "v"))) (aW hr.units (ao (i := 1) rfl (by walk_at "v")) aR (fun _ _ => rfl)) (fun _ _ => rfl)) qY)) (aX (s_if (bW (vR hr.units) (aW hr.units (ao (i := 1) rfl (by walk_at "v")) aR (fun _ _ => rfl)) (cQ (aq aU (aq aU aH))) (by rfl)) (aX (mV (sE (cs := Gn) (agE T) (xQ.bK V2 ct (Bd.all (n := 3) (ks := []) (is := List.range 3) (fun _ _ _ _ _ _ us ws h1 h2 => match us, ws, h1, h2 with | [_, _, _], [], _, _ => rfl))) (ao (i := 0) rfl (by walk_at "v")) (aq (cO (cs := jZ) (wF T) (aW hr.units (cO (cs := bY) (fO T) (ao (i := 0) rfl (by walk_at "v"))) (ao (i := 2) rfl (by walk_at "v")) (fun _ _ => rfl))) (aq (ao (i := 1) rfl (by walk_at "v")) aH))))) (aX (s_if (bW (vR hr.units) (aW hr.units (ao (i := 1) rfl (by walk_at "v")) aR (fun _ _ => rfl)) (cQ (aq aU (aq aU aH))) (by rfl)) (aX (mV (sE (cs := Ue) (agF T) (xR.bK V3 ct (Bd.all (n := 3) (ks := []) (is := List.range 3) (fun _ _ _ _ _ _ us ws h1 h2 => match us, ws, h1, h2 with | [_, _, _], [], _, _ => rfl))) (ao (i := 0) rfl (by walk_at "v")) (aq (aW hr.units (cO (cs := bY) (fO T) (ao (i := 0) rfl (by walk_at "v"))) (ao (i := 2) rfl (by walk_at "v")) (fun _ _ => rfl)) (aq (ao (i := 1) rfl (by walk_at "v")) aH))))) (aX (s_if (bW (vR hr.units) (aW hr.units (ao (i := 1) rfl (by walk_at "v")) aR (fun _ _ => rfl)) (cQ (aq aU (aq aU aH))) (by rfl)) (aX (iK (cs := jk) (ux T) (aW hr.units (cO (cs := bY) (fO T) (ao (i := 0) rfl (by walk_at "v"))) (ao (i := 2) rfl (by walk_at "v")) (fun _ _ => rfl)) (dB (cR hr.units) (aW hr.units (ao (i := 1) rfl (by walk_at "v")) aR (fun _ _ => rfl)) aU (nomark _)))) (aX (s_if (bW Ax (ao (i := 2) rfl (by walk_at "v")) iJ (nomark _)) (aX (mV (sE (cs := Bm) (afn T) (vH.bK Uh ct (Bd.all (n := 3) (ks := []) (is := List.range 3) (fun _ _ _ _ _ _ us ws h1 h2 => match us, ws, h1, h2 with | [_, _, _], [], _, _ => rfl))) (ao (i := 0) rfl (by walk_at "v")) (aq (aW hr.units (cO (cs := bY) (fO T) (ao (i := 0) rfl (by walk_at "v"))) (ao (i := 2) rfl (by walk_at "v")) (fun _ _ => rfl)) (aq (ao (i := 1) rfl (by walk_at "v")) aH))))) cU))))))))))))))
def dY : Mn := body 2 3
    (T9 (aY (bJ (fM rC "reason" 1 dH (aj 0) (ak (aj 1) aA)) (gName 2))
    (aY (cD (bZ (aG qd (aj 2) (eC .non))) (Dc "Broken" Bq (ak (bM iG "many" (aj 0)) (ak (aj 2) aA))) cG)
    (gq (fM zP "take" 1 fQ (aj 0) (ak (aj 1) aA))))) (uw iG "many" (aj 0) (eC (.int (1)))))
theorem yZ (T : Top w K mg) : Fd P w K mg base (6 + 1) (He.ma K (He.ga K "Watch") "see") "see" "Watch.see" lX [] [] ["self", "row"] dY := by
  refine Fd.of T.acr Ci (fun cdv A outer s H E hr hG => ?_)
  have ct : cA (cxOf (L2.CX P w) P w K mg base ["self", "row", "why"] "Watch.see" (defScope lX) (He.ma K (He.ga K "Watch") "see") cdv A outer s H E) (fun c d _ H' => E c d H') := cA.def_ hG
  have xT := xT (P := P) (base := base) T
  have V4 : Room 3 _ := hr.mono (by first | decide | omega)
  have Jb := Jb (P := P) (base := base) T
  have aee : Room 3 _ := hr.mono (by first | decide | omega)
  have uD := uD (P := P) (base := base) T
  have RW : Room 6 _ := hr.mono (by first | decide | omega)
  exact (aX (al6 ct rfl rfl rfl (fun W pn xe ct2 => (aV (s_asg (sE (cs := rC) (ad9 T) (uD.bK RW ct2 (Bd.all (n := 2) (ks := []) (is := List.range 2) (fun _ _ _ _ _ _ us ws h1 h2 => match us, ws, h1, h2 with | [_, _], [], _, _ => rfl))) (ao (i := 0) rfl (by walk_at "v")) (aq (ao (i := 1) rfl (by walk_at "v")) aH)) (bO (i := 2) Ci.nd rfl (by walk_at "w")))
    (aV (s_if (bW Ax (ao (i := 2) rfl (by walk_at "v")) iJ (nomark _)) (aX (Tw Jb aee rfl ct2 (by rfl) (aq (cO (cs := iG) (xq T) (ao (i := 0) rfl (by walk_at "v"))) (aq (ao (i := 2) rfl (by walk_at "v")) aH)) afp)) cU)
    (aX (mV (sE (cs := zP) (agD T) (xT.bK V4 ct2 (Bd.all (n := 2) (ks := []) (is := List.range 2) (fun _ _ _ _ _ _ us ws h1 h2 => match us, ws, h1, h2 with | [_, _], [], _, _ => rfl))) (ao (i := 0) rfl (by walk_at "v")) (aq (ao (i := 1) rfl (by walk_at "v")) aH))))))) (aX (abz (cs := iG) (xq T) (ao (i := 0) rfl (by walk_at "v")) aR)) (fun a pn => (aX (abz (cs := iG) (xq T) (ao (i := 0) rfl (by walk_at "v")) aR)))))
end
end dJ
end
noncomputable section
namespace dJ
open PySem PySem.Spec PyProof.Rows L2 PD
section
variable {P : Program} {w : World} {K : PySem.W.Frag} {mg : Str → Option Value} {base : Heap}
def oV : Mn := body 2 2
    (aY (cD (bZ (aG U3 (aj 1) (bB jc (ak (aj 0) aA)))) (bV (aG bf (aj 0) (aj 1))) cG)
    (bV (eC (.int (0)))))
theorem za (T : Top w K mg) : Fd P w K mg base (0 + 1) (He.ga K "_law_cell_at") "_law_cell_at" "_law_cell_at" lV [] [] ["_law_script", "_law_k"] oV := by
  refine Fd.of T.yM.dn Xk (fun cdv A outer s H E hr hG => ?_)
  have ct : cA (cxOf (L2.CX P w) P w K mg base ["_law_script", "_law_k"] "_law_cell_at" (defScope lV) (He.ga K "_law_cell_at") cdv A outer s H E) (fun c d _ H' => E c d H') := cA.def_ hG
  exact (aV (s_if (bW anu (ao (i := 1) rfl (by walk_at "v")) (iZ (id := "len") qQ (by rfl) T.qO (by decide +kernel) (aq (ao (i := 0) rfl (by walk_at "v")) aH)) (nomark _)) (aX (s_ret (aW hr.units (ao (i := 0) rfl (by walk_at "v")) (ao (i := 1) rfl (by walk_at "v")) (fun _ _ => rfl)))) cU)
    (aX (s_ret aR)))
def j5 : Mn := body 1 1
    (bV (bB fH (ak (aG yR (aj 0) (bB iy (ak (aG BR (aj 0) (aG vC (eC (.int (10))) (eC (.int (18))))) aA))) (ak (aG oW (aj 0) (eC (.int (2147483647)))) (ak (eC (.int (0))) aA)))))
theorem Bt (T : Top w K mg) : Fd P w K mg base (0 + 1) (He.ga K "_law_well") "_law_well" "_law_well" qT [] [] ["_law_cell"] j5 := by
  refine Fd.of T.wM.dn aeI (fun cdv A outer s H E hr hG => ?_)
  have ct : cA (cxOf (L2.CX P w) P w K mg base ["_law_cell"] "_law_well" (defScope qT) (He.ga K "_law_well") cdv A outer s H E) (fun c d _ H' => E c d H') := cA.def_ hG
  exact (aX (s_ret (zF (aq (dW Rz (ao (i := 0) rfl (by walk_at "v")) (rY vQ (by rfl) T.uI (by decide +kernel) (aq (dB abm (ao (i := 0) rfl (by walk_at "v")) (dW WD aR aR) (nomark _)) aH))) (aq (dW Av (ao (i := 0) rfl (by walk_at "v")) aR) (aq aR aH))))))
def dX : Mn := body 2 4
    (aY (cD (bZ (aG U4 (aG bf (aj 0) (eC (.int (0)))) (eC (.int (0))))) (aY (bJ (aG oW (aG bf (aj 0) (eC (.int (0)))) (aj 1)) (gName 3))
    (aY (bJ (aG qP (aG bf (aj 0) (eC (.int (0)))) (aj 1)) (jE (aj 0) (eC (.int (0)))))
    (bV (aj 3)))) cG)
    (aY (bJ (aG eO (aG bf (aj 0) (eC (.int (2)))) (eC (.int (1)))) (jE (aj 0) (eC (.int (2)))))
    (aY (bJ (aG oW (aG vC (aG eO (aG eO (aG bf (aj 0) (eC (.int (1)))) (aG yR (eC (.int (7919))) (aG bf (aj 0) (eC (.int (2)))))) (eC (.int (1)))) (eC (.int (5)))) (eC (.int (2147483629)))) (gName 2))
    (aY (bJ (aG oW (aG yR (aj 2) (aG eO (aG eO (aG qP (aj 2) (eC (.int (1009)))) (eC (.int (69621)))) (aG bf (aj 0) (eC (.int (2)))))) (eC (.int (2147483587)))) (gName 2))
    (bV (aG oW (aG qP (aG oW (aG yR (aj 2) (aG eO (aG qP (aj 2) (eC (.int (2003)))) (eC (.int (40692))))) (eC (.int (2147483579)))) (eC (.int (7)))) (aj 1)))))))
theorem fD (T : Top w K mg) : Fd P w K mg base (0 + 1) (He.ga K "_law_draw") "_law_draw" "_law_draw" qU [] [] ["_law_well_here", "_law_many"] dX := by
  refine Fd.of T.dZ.dn yg (fun cdv A outer s H E hr hG => ?_)
  have ct : cA (cxOf (L2.CX P w) P w K mg base ["_law_well_here", "_law_many", "_law_number", "_law_digit"] "_law_draw" (defScope qU) (He.ga K "_law_draw") cdv A outer s H E) (fun c d _ H' => E c d H') := cA.def_ hG
  exact (aV (s_if (bW anv (aW hr.units (ao (i := 0) rfl (by walk_at "v")) aR (fun _ _ => rfl)) aR (nomark _)) (aV (s_asg (dW Av (aW hr.units (ao (i := 0) rfl (by walk_at "v")) aR (fun _ _ => rfl)) (ao (i := 1) rfl (by walk_at "v"))) (bO (i := 3) yg.nd rfl (by walk_at "w")))
    (aV (s_asg (dW Ro (aW hr.units (ao (i := 0) rfl (by walk_at "v")) aR (fun _ _ => rfl)) (ao (i := 1) rfl (by walk_at "v"))) (qJ hr.units (ao (i := 0) rfl (by walk_at "v")) aR))
    (aX (s_ret (ao (i := 3) rfl (by walk_at "v")))))) cU)
    (aV (s_asg (dW lD (aW hr.units (ao (i := 0) rfl (by walk_at "v")) aR (fun _ _ => rfl)) aR) (qJ hr.units (ao (i := 0) rfl (by walk_at "v")) aR))
    (aV (s_asg (dW Av (dW WD (dW lD (dW lD (aW hr.units (ao (i := 0) rfl (by walk_at "v")) aR (fun _ _ => rfl)) (dW Rz aR (aW hr.units (ao (i := 0) rfl (by walk_at "v")) aR (fun _ _ => rfl)))) aR) aR) aR) (bO (i := 2) yg.nd rfl (by walk_at "w")))
    (aV (s_asg (dW Av (dW Rz (ao (i := 2) rfl (by walk_at "v")) (dW lD (dW lD (dW Ro (ao (i := 2) rfl (by walk_at "v")) aR) aR) (aW hr.units (ao (i := 0) rfl (by walk_at "v")) aR (fun _ _ => rfl)))) aR) (bO (i := 2) yg.nd rfl (by walk_at "w")))
    (aX (s_ret (dW Av (dW Ro (dW Av (dW Rz (ao (i := 2) rfl (by walk_at "v")) (dW lD (dW Ro (ao (i := 2) rfl (by walk_at "v")) aR) aR)) aR) aR) (ao (i := 1) rfl (by walk_at "v")))))))))
def uE : Mn := body 2 2
    (bV (aG bf (aj 1) (bx 2 0 dX (ak (aj 0) (ak (bB jc (ak (aj 1) aA)) aA)) aA)))
theorem zR (T : Top w K mg) : Fd P w K mg base (1 + 1) (He.ga K "_law_one") "_law_one" "_law_one" tM [] [] ["_law_well_here", "_law_some"] uE := by
  refine Fd.of T.tU.dn af9 (fun cdv A outer s H E hr hG => ?_)
  have ct : cA (cxOf (L2.CX P w) P w K mg base ["_law_well_here", "_law_some"] "_law_one" (defScope tM) (He.ga K "_law_one") cdv A outer s H E) (fun c d _ H' => E c d H') := cA.def_ hG
  have fD := fD (P := P) (base := base) T
  have gW : Room 1 _ := hr.mono (by first | decide | omega)
  exact (aX (s_ret (aW hr.units (ao (i := 1) rfl (by walk_at "v")) (bU (fD.bK gW ct (Bd.all (n := 2) (ks := []) (is := List.range 2) (fun _ _ _ _ _ _ us ws h1 h2 => match us, ws, h1, h2 with | [_, _], [], _, _ => rfl))) (by rfl) T.dZ.gl T.dZ.kp (aq (ao (i := 0) rfl (by walk_at "v")) (aq (iZ (id := "len") qQ (by rfl) T.qO (by decide +kernel) (aq (ao (i := 1) rfl (by walk_at "v")) aH)) aH))) (fun _ _ => rfl))))
def oJ : Mn := body 1 3
    (aY (bJ (eC (.str "abcdefghijklmnopqrstuvwxyz")) (gName 1))
    (bV (jJ "str" joinM (eC (.str "")) (ak (kJ (mW pZ (ak (aG eO (eC (.int (1))) (bx 2 0 dX (ak (aj 0) (ak (eC (.int (8))) aA)) aA)) aA)) (gName 2) g8 (aG bf (aj 1) (bx 2 0 dX (ak (aj 0) (ak (eC (.int (26))) aA)) aA)) [2]) aA))))
theorem qZ (T : Top w K mg) : Fd P w K mg base (1 + 1) (He.ga K "_law_word") "_law_word" "_law_word" o9 [] [] ["_law_well_here"] oJ := by
  refine Fd.of T.jW.dn yh (fun cdv A outer s H E hr hG => ?_)
  have ct : cA (cxOf (L2.CX P w) P w K mg base ["_law_well_here", "_law_letters", "_law_k"] "_law_word" (defScope o9) (He.ga K "_law_word") cdv A outer s H E) (fun c d _ H' => E c d H') := cA.def_ hG
  have fD := fD (P := P) (base := base) T
  have gW : Room 1 _ := hr.mono (by first | decide | omega)
  exact (aV (s_asg aU (bO (i := 1) yh.nd rfl (by walk_at "w")))
    (aX (s_ret (ajX aU (aq (yN (own := [("_law_k", 2)]) rfl yh.nd (abk (by rfl) T.Ed (aq (dW lD aR (bU (fD.bK gW ct (Bd.all (n := 2) (ks := []) (is := List.range 2) (fun _ _ _ _ _ _ us ws h1 h2 => match us, ws, h1, h2 with | [_, _], [], _, _ => rfl))) (by rfl) T.dZ.gl T.dZ.kp (aq (ao (i := 0) rfl (by walk_at "v")) (aq aR aH)))) aH)) (blkOk_by (N := ["_law_well_here", "_law_letters", "_law_k"]) (sc := defScope o9) (by decide +kernel)) (fun _ _ _ _ _ => (iw (i := 2) (by decide) yh.nd rfl (by walk_at "w"))) (fun _ _ _ _ _ => rZ) (fun _ _ _ _ _ => (aW hr.units (ao (i := 1) rfl (by walk_at "v")) (bU (fD.bK gW ct.blk (Bd.all (n := 2) (ks := []) (is := List.range 2) (fun _ _ _ _ _ _ us ws h1 h2 => match us, ws, h1, h2 with | [_, _], [], _, _ => rfl))) (by rfl) T.dZ.gl T.dZ.kp (aq (ao (i := 0) rfl (by walk_at "v")) (aq aR aH))) (fun _ _ => rfl)))) aH)))))
def xU : Mn := body 3 4
    (bV (aG BR (bB abo (ak (ad0 (WM (aj 0)) (gName 3) g8 (jJ "list" Ds (aG bf (aj 3) (eC (.str "had"))) (ak (aj 2) aA)) [3]) aA)) (jJ "dict" getM (aj 1) (ak (aj 2) (ak (eC (.int (1))) aA)))))
theorem Jd (T : Top w K mg) : Fd P w K mg base (0 + 1) (He.ga K "_law_full") "_law_full" "_law_full" pq [] [] ["_law_tasks", "_law_sizes", "_law_thing"] xU := by
  refine Fd.of T.Hz.dn Cg (fun cdv A outer s H E hr hG => ?_)
  have ct : cA (cxOf (L2.CX P w) P w K mg base ["_law_tasks", "_law_sizes", "_law_thing", "_law_task"] "_law_full" (defScope pq) (He.ga K "_law_full") cdv A outer s H E) (fun c d _ H' => E c d H') := cA.def_ hG
  exact (aX (s_ret (dB abm (iZ (id := "sum") (ahy rfl) (by rfl) T.ahp (by decide +kernel) (aq (alY (own := [("_law_task", 3)]) rfl Cg.nd (akb (ao (i := 0) rfl (by walk_at "v"))) (blkOk_by (N := ["_law_tasks", "_law_sizes", "_law_thing", "_law_task"]) (sc := defScope pq) (by decide +kernel)) (fun _ _ _ _ _ => (iw (i := 3) (by decide) Cg.nd rfl (by walk_at "w"))) (fun _ _ _ _ _ => rZ) (fun _ _ _ _ _ => (Di PySem.F.plainAttrs_list PySem.F.slot_list_count PySem.F.type_list_count ahJ (aW hr.units (ao (i := 3) rfl (by walk_at "v")) aU (fun _ _ => rfl)) (aq (ao (i := 2) rfl (by walk_at "v")) aH)))) aH)) (Di PySem.F.plainAttrs_dict PySem.F.slot_dict_get PySem.F.type_dict_get (adX hr.units) (ao (i := 1) rfl (by walk_at "v")) (aq (ao (i := 2) rfl (by walk_at "v")) (aq aR aH))) (nomark _))))
def rE : Mn := body 4 6
    (aY (bJ (aG bf (aj 0) (aG bf (aj 3) (eC (.int (1))))) (gName 4))
    (aY (bJ (aG qd (aG bf (aj 4) (eC (.str "mark"))) (eC .non)) (gName 5))
    (aY (cD (BL (bZ (aG (yu cM) (aG bf (aj 3) (eC (.int (0)))) (eC (.str "got")))) (bZ (aG (yu cM) (aG bf (aj 3) (eC (.int (0)))) (eC (.str "failed"))))) (aY (cD (eE (aj 5)) (bV (eC (.str "unwinds"))) cG)
    (aY (cD (jD (bZ (aG (yu cM) (aG bf (aj 3) (eC (.int (0)))) (eC (.str "got")))) (eE (bx 3 0 xU (ak (aj 0) (ak (aj 1) (ak (aG bf (aj 3) (eC (.int (2)))) aA))) aA))) (bV (eC (.str "full"))) cG)
    (bV (aG bf (bB cC (ak (eC (.str "")) (ak (eC (.str "held")) aA))) (bB iy (ak (ju (aG (yu cM) (aG bf (aj 3) (eC (.int (0)))) (eC (.str "got"))) (ju (aG bf (aj 4) (eC (.str "shut"))) (rR (aj 2)))) aA)))))) cG)
    (aY (cD (bZ (aG (yu cM) (aG bf (aj 3) (eC (.int (0)))) (eC (.str "given")))) (aY (cD (eE (aj 2)) (bV (aG bf (bB cC (ak (eC (.str "had")) (ak (eC (.str "")) aA))) (bB iy (ak (aG RM (aG bf (aj 3) (eC (.int (2)))) (aG bf (aj 4) (eC (.str "had")))) aA)))) cG)
    (bV (aG bf (bB cC (ak (eC (.str "had")) (ak (eC (.str "")) aA))) (bB iy (ak (aG (yu cM) (qI (aG bf (aj 4) (eC (.str "had"))) (gY (wO sG (eC (.int (1))))) rB) (bB cC (ak (aG bf (aj 3) (eC (.int (2)))) aA))) aA))))) cG)
    (aY (cD (bZ (aG (yu cM) (aG bf (aj 3) (eC (.int (0)))) (eC (.str "rescued")))) (bV (aG bf (bB cC (ak (eC (.str "mark")) (ak (eC (.str "")) aA))) (bB iy (ak (aG (yu cM) (aG bf (aj 4) (eC (.str "mark"))) (aG bf (aj 3) (eC (.int (2))))) aA)))) cG)
    (aY (cD (bZ (aG (yu cM) (aG bf (aj 3) (eC (.int (0)))) (eC (.str "masked")))) (bV (aG bf (bB cC (ak (eC (.str "")) (ak (eC (.str "held")) aA))) (bB iy (ak (aG bf (aj 4) (eC (.str "shut"))) aA)))) cG)
    (bV (aG bf (bB cC (ak (eC (.str "open")) (ak (eC (.str "")) aA))) (bB iy (ak (aG bf (aj 4) (eC (.str "shut"))) aA))))))))))
theorem Ui (T : Top w K mg) : Fd P w K mg base (1 + 1) (He.ga K "_law_due") "_law_due" "_law_due" tO [] [] ["_law_tasks", "_law_sizes", "_law_bare", "_law_row_here"] rE := by
  refine Fd.of T.S8.dn Hw (fun cdv A outer s H E hr hG => ?_)
  have ct : cA (cxOf (L2.CX P w) P w K mg base ["_law_tasks", "_law_sizes", "_law_bare", "_law_row_here", "_law_task", "_law_fails"] "_law_due" (defScope tO) (He.ga K "_law_due") cdv A outer s H E) (fun c d _ H' => E c d H') := cA.def_ hG
  have Jd := Jd (P := P) (base := base) T
  have afq : Room 1 _ := hr.mono (by first | decide | omega)
  exact (aV (s_asg (aW hr.units (ao (i := 0) rfl (by walk_at "v")) (aW hr.units (ao (i := 3) rfl (by walk_at "v")) aR (fun _ _ => rfl)) (fun _ _ => rfl)) (bO (i := 4) Hw.nd rfl (by walk_at "w")))
    (aV (s_asg (dB Ax (aW hr.units (ao (i := 4) rfl (by walk_at "v")) aU (fun _ _ => rfl)) iJ (nomark _)) (bO (i := 5) Hw.nd rfl (by walk_at "w")))
    (aV (s_if (PW.pt (abd (bW (vU hr.units (cR hr.units)) (aW hr.units (ao (i := 3) rfl (by walk_at "v")) aR (fun _ _ => rfl)) aU (nomark _)) (Wx (bW (vU hr.units (cR hr.units)) (aW hr.units (ao (i := 3) rfl (by walk_at "v")) aR (fun _ _ => rfl)) aU (nomark _))))) (aV (s_if (oX (ao (i := 5) rfl (by walk_at "v")) (by intro _; rfl)) (aX (s_ret aU)) cU)
    (aV (s_if (PW.pt (Ao (bW (vU hr.units (cR hr.units)) (aW hr.units (ao (i := 3) rfl (by walk_at "v")) aR (fun _ _ => rfl)) aU (nomark _)) (zB (oX (bU (Jd.bK afq ct (Bd.all (n := 3) (ks := []) (is := List.range 3) (fun _ _ _ _ _ _ us ws h1 h2 => match us, ws, h1, h2 with | [_, _, _], [], _, _ => rfl))) (by rfl) T.Hz.gl T.Hz.kp (aq (ao (i := 0) rfl (by walk_at "v")) (aq (ao (i := 1) rfl (by walk_at "v")) (aq (aW hr.units (ao (i := 3) rfl (by walk_at "v")) aR (fun _ _ => rfl)) aH)))) (by intro _; rfl))))) (aX (s_ret aU)) cU)
    (aX (s_ret (aW hr.units (d7 (aq aU (aq aU aH))) (rY vQ (by rfl) T.uI (by decide +kernel) (aq (oA (dB (vU hr.units (cR hr.units)) (aW hr.units (ao (i := 3) rfl (by walk_at "v")) aR (fun _ _ => rfl)) aU (nomark _)) (oA (aW hr.units (ao (i := 4) rfl (by walk_at "v")) aU (fun _ _ => rfl)) (lA (Am (ao (i := 2) rfl (by walk_at "v")))))) aH)) (fun _ _ => rfl)))))) cU)
    (aV (s_if (bW (vU hr.units (cR hr.units)) (aW hr.units (ao (i := 3) rfl (by walk_at "v")) aR (fun _ _ => rfl)) aU (nomark _)) (aV (s_if (oX (ao (i := 2) rfl (by walk_at "v")) (by intro _; rfl)) (aX (s_ret (aW hr.units (d7 (aq aU (aq aU aH))) (rY vQ (by rfl) T.uI (by decide +kernel) (aq (dB (ahH (abA hr)) (aW hr.units (ao (i := 3) rfl (by walk_at "v")) aR (fun _ _ => rfl)) (aW hr.units (ao (i := 4) rfl (by walk_at "v")) aU (fun _ _ => rfl)) (by rfl)) aH)) (fun _ _ => rfl)))) cU)
    (aX (s_ret (aW hr.units (d7 (aq aU (aq aU aH))) (rY vQ (by rfl) T.uI (by decide +kernel) (aq (dB (vU hr.units (cR hr.units)) (Ay (aW hr.units (ao (i := 4) rfl (by walk_at "v")) aU (fun _ _ => rfl)) (qH (Tj FQ aR)) Dh) (d7 (aq (aW hr.units (ao (i := 3) rfl (by walk_at "v")) aR (fun _ _ => rfl)) aH)) (nomark _)) aH)) (fun _ _ => rfl))))) cU)
    (aV (s_if (bW (vU hr.units (cR hr.units)) (aW hr.units (ao (i := 3) rfl (by walk_at "v")) aR (fun _ _ => rfl)) aU (nomark _)) (aX (s_ret (aW hr.units (d7 (aq aU (aq aU aH))) (rY vQ (by rfl) T.uI (by decide +kernel) (aq (dB (vU hr.units (cR hr.units)) (aW hr.units (ao (i := 4) rfl (by walk_at "v")) aU (fun _ _ => rfl)) (aW hr.units (ao (i := 3) rfl (by walk_at "v")) aR (fun _ _ => rfl)) (nomark _)) aH)) (fun _ _ => rfl)))) cU)
    (aV (s_if (bW (vU hr.units (cR hr.units)) (aW hr.units (ao (i := 3) rfl (by walk_at "v")) aR (fun _ _ => rfl)) aU (nomark _)) (aX (s_ret (aW hr.units (d7 (aq aU (aq aU aH))) (rY vQ (by rfl) T.uI (by decide +kernel) (aq (aW hr.units (ao (i := 4) rfl (by walk_at "v")) aU (fun _ _ => rfl)) aH)) (fun _ _ => rfl)))) cU)
    (aX (s_ret (aW hr.units (d7 (aq aU (aq aU aH))) (rY vQ (by rfl) T.uI (by decide +kernel) (aq (aW hr.units (ao (i := 4) rfl (by walk_at "v")) aU (fun _ _ => rfl)) aH)) (fun _ _ => rfl))))))))))
def d8 : Mn := body 2 5
    (aY (bJ (aG bf (aj 0) (aG bf (aj 1) (eC (.int (1))))) (gName 2))
    (aY (cD (bZ (aG cM (aG bf (aj 1) (eC (.int (0)))) (eC (.str "got")))) (gq (jJ "list" sJ (aG bf (aj 2) (eC (.str "had"))) (ak (aG bf (aj 1) (eC (.int (2)))) aA))) cG)
    (aY (cD (bZ (aG cM (aG bf (aj 1) (eC (.int (0)))) (eC (.str "given")))) (aY (bJ (aG bf (kJ (mW pZ (ak (bB jc (ak (aG bf (aj 2) (eC (.str "had"))) aA)) aA)) (gName 4) (bZ (aG cM (aG bf (aG bf (aj 2) (eC (.str "had"))) (aj 4)) (aG bf (aj 1) (eC (.int (2)))))) (aj 4) [4]) (wO sG (eC (.int (1))))) (gName 3))
    (bJ (aG RN (qI (aG bf (aj 2) (eC (.str "had"))) rB (gY (aj 3))) (qI (aG bf (aj 2) (eC (.str "had"))) (gY (aG eO (aj 3) (eC (.int (1))))) rB)) (jE (aj 2) (eC (.str "had"))))) cG)
    (aY (cD (bZ (aG inX (aG bf (aj 1) (eC (.int (0)))) (bB bQ (ak (eC (.str "failed")) (ak (eC (.str "rescued")) aA))))) (bJ (aG bf (oG [((eC (.str "failed")), (aG bf (aj 1) (eC (.int (2))))), ((eC (.str "rescued")), (eC .non))]) (aG bf (aj 1) (eC (.int (0))))) (jE (aj 2) (eC (.str "mark")))) cG)
    (cD (bZ (aG inX (aG bf (aj 1) (eC (.int (0)))) (bB bQ (ak (eC (.str "masked")) (ak (eC (.str "opened")) aA))))) (bJ (aG cM (aG bf (aj 1) (eC (.int (0)))) (eC (.str "masked"))) (jE (aj 2) (eC (.str "shut")))) cG)))))
theorem Je (T : Top w K mg) : Fd P w K mg base (0 + 1) (He.ga K "_law_done") "_law_done" "_law_done" pA [] [] ["_law_tasks", "_law_row_here"] d8 := by
  refine Fd.of T.HF.dn uZ (fun cdv A outer s H E hr hG => ?_)
  have ct : cA (cxOf (L2.CX P w) P w K mg base ["_law_tasks", "_law_row_here", "_law_task", "_law_at", "_law_k"] "_law_done" (defScope pA) (He.ga K "_law_done") cdv A outer s H E) (fun c d _ H' => E c d H') := cA.def_ hG
  exact (aV (s_asg (aW hr.units (ao (i := 0) rfl (by walk_at "v")) (aW hr.units (ao (i := 1) rfl (by walk_at "v")) aR (fun _ _ => rfl)) (fun _ _ => rfl)) (bO (i := 2) uZ.nd rfl (by walk_at "w")))
    (aV (s_if (bW (cR hr.units) (aW hr.units (ao (i := 1) rfl (by walk_at "v")) aR (fun _ _ => rfl)) aU (nomark _)) (aX (mV (Iw (aW hr.units (ao (i := 2) rfl (by walk_at "v")) aU (fun _ _ => rfl)) (aq (aW hr.units (ao (i := 1) rfl (by walk_at "v")) aR (fun _ _ => rfl)) aH)))) cU)
    (aV (s_if (bW (cR hr.units) (aW hr.units (ao (i := 1) rfl (by walk_at "v")) aR (fun _ _ => rfl)) aU (nomark _)) (aV (s_asg (aW hr.units (yN (own := [("_law_k", 4)]) rfl uZ.nd (abk (by rfl) T.Ed (aq (iZ (id := "len") qQ (by rfl) T.qO (by decide +kernel) (aq (aW hr.units (ao (i := 2) rfl (by walk_at "v")) aU (fun _ _ => rfl)) aH)) aH)) (blkOk_by (N := ["_law_tasks", "_law_row_here", "_law_task", "_law_at", "_law_k"]) (sc := defScope pA) (by decide +kernel)) (fun _ _ _ _ _ => (iw (i := 4) (by decide) uZ.nd rfl (by walk_at "w"))) (fun _ _ _ _ _ => (abh (bW (cR hr.units) (aW hr.units (aW hr.units (ao (i := 2) rfl (by walk_at "v")) aU (fun _ _ => rfl)) (ao (i := 4) rfl (by walk_at "v")) (fun _ _ => rfl)) (aW hr.units (ao (i := 1) rfl (by walk_at "v")) aR (fun _ _ => rfl)) (nomark _)))) (fun _ _ _ _ _ => (ao (i := 4) rfl (by walk_at "v")))) (Tj FQ aR) (fun _ _ => rfl)) (bO (i := 3) uZ.nd rfl (by walk_at "w")))
    (aX (s_asg (dW ais (Ay (aW hr.units (ao (i := 2) rfl (by walk_at "v")) aU (fun _ _ => rfl)) Dh (qH (ao (i := 3) rfl (by walk_at "v")))) (Ay (aW hr.units (ao (i := 2) rfl (by walk_at "v")) aU (fun _ _ => rfl)) (qH (dW lD (ao (i := 3) rfl (by walk_at "v")) aR)) Dh)) (qJ hr.units (ao (i := 2) rfl (by walk_at "v")) aU)))) cU)
    (aV (s_if (bW (vR hr.units) (aW hr.units (ao (i := 1) rfl (by walk_at "v")) aR (fun _ _ => rfl)) (cQ (aq aU (aq aU aH))) (by rfl)) (aX (s_asg (aW hr.units (Rx (ps := [((eC (.str "failed")), (aG bf (aj 1) (eC (.int (2))))), ((eC (.str "rescued")), (eC .non))]) (pps_cons aU (aW hr.units (ao (i := 1) rfl (by walk_at "v")) aR (fun _ _ => rfl)) (pps_cons aU iJ pps_nil))) (aW hr.units (ao (i := 1) rfl (by walk_at "v")) aR (fun _ _ => rfl)) (fun _ _ => rfl)) (qJ hr.units (ao (i := 2) rfl (by walk_at "v")) aU))) cU)
    (aX (s_if (bW (vR hr.units) (aW hr.units (ao (i := 1) rfl (by walk_at "v")) aR (fun _ _ => rfl)) (cQ (aq aU (aq aU aH))) (by rfl)) (aX (s_asg (dB (cR hr.units) (aW hr.units (ao (i := 1) rfl (by walk_at "v")) aR (fun _ _ => rfl)) aU (nomark _)) (qJ hr.units (ao (i := 2) rfl (by walk_at "v")) aU))) cU))))))
def rF : Mn := body 4 7
    (aY (bJ (bx 2 0 uE (ak (aj 0) (ak (bB cC (ak (eC (.str "got")) (ak (eC (.str "got")) (ak (eC (.str "got")) (ak (eC (.str "given")) (ak (eC (.str "given")) (ak (eC (.str "given")) (ak (eC (.str "failed")) (ak (eC (.str "rescued")) (ak (eC (.str "masked")) (ak (eC (.str "opened")) aA))))))))))) aA)) aA) (gName 4))
    (aY (bJ (bx 2 0 dX (ak (aj 0) (ak (bB jc (ak (aj 1) aA)) aA)) aA) (gName 5))
    (aY (bJ (aG bf (aG bf (aj 1) (aj 5)) (eC (.str "had"))) (gName 6))
    (aY (cD (jD (bZ (aG cM (aj 4) (eC (.str "given")))) (jD (bZ (aG (neL cY) (aj 6) (bB cC aA))) (bZ (aG cM (bx 2 0 dX (ak (aj 0) (ak (eC (.int (2))) aA)) aA) (eC (.int (0))))))) (bV (bB bQ (ak (aj 4) (ak (aj 5) (ak (aG bf (aj 6) (wO sG (eC (.int (1))))) aA))))) cG)
    (aY (cD (bZ (aG inX (aj 4) (bB bQ (ak (eC (.str "got")) (ak (eC (.str "given")) aA))))) (bV (bB bQ (ak (aj 4) (ak (aj 5) (ak (bx 2 0 uE (ak (aj 0) (ak (aj 2) aA)) aA) aA))))) cG)
    (aY (cD (bZ (aG inX (aj 4) (bB bQ (ak (eC (.str "failed")) (ak (eC (.str "rescued")) aA))))) (bV (bB bQ (ak (aj 4) (ak (aj 5) (ak (bx 2 0 uE (ak (aj 0) (ak (aj 3) aA)) aA) aA))))) cG)
    (bV (bB bQ (ak (aj 4) (ak (aj 5) aA))))))))))
theorem Uj (T : Top w K mg) : Fd P w K mg base (2 + 1) (He.ga K "_law_row") "_law_row" "_law_row" tQ [] [] ["_law_well_here", "_law_tasks", "_law_goods", "_law_marks"] rF := by
  refine Fd.of T.S9.dn Ab (fun cdv A outer s H E hr hG => ?_)
  have ct : cA (cxOf (L2.CX P w) P w K mg base ["_law_well_here", "_law_tasks", "_law_goods", "_law_marks", "_law_word_here", "_law_number", "_law_had"] "_law_row" (defScope tQ) (He.ga K "_law_row") cdv A outer s H E) (fun c d _ H' => E c d H') := cA.def_ hG
  have zR := zR (P := P) (base := base) T
  have Jf : Room 2 _ := hr.mono (by first | decide | omega)
  have fD := fD (P := P) (base := base) T
  have gW : Room 1 _ := hr.mono (by first | decide | omega)
  exact (aV (s_asg (bU (zR.bK Jf ct (Bd.all (n := 2) (ks := []) (is := List.range 2) (fun _ _ _ _ _ _ us ws h1 h2 => match us, ws, h1, h2 with | [_, _], [], _, _ => rfl))) (by rfl) T.tU.gl T.tU.kp (aq (ao (i := 0) rfl (by walk_at "v")) (aq (d7 (aq aU (aq aU (aq aU (aq aU (aq aU (aq aU (aq aU (aq aU (aq aU (aq aU aH))))))))))) aH))) (bO (i := 4) Ab.nd rfl (by walk_at "w")))
    (aV (s_asg (bU (fD.bK gW ct (Bd.all (n := 2) (ks := []) (is := List.range 2) (fun _ _ _ _ _ _ us ws h1 h2 => match us, ws, h1, h2 with | [_, _], [], _, _ => rfl))) (by rfl) T.dZ.gl T.dZ.kp (aq (ao (i := 0) rfl (by walk_at "v")) (aq (iZ (id := "len") qQ (by rfl) T.qO (by decide +kernel) (aq (ao (i := 1) rfl (by walk_at "v")) aH)) aH))) (bO (i := 5) Ab.nd rfl (by walk_at "w")))
    (aV (s_asg (aW hr.units (aW hr.units (ao (i := 1) rfl (by walk_at "v")) (ao (i := 5) rfl (by walk_at "v")) (fun _ _ => rfl)) aU (fun _ _ => rfl)) (bO (i := 6) Ab.nd rfl (by walk_at "w")))
    (aV (s_if (PW.pt (Ao (bW (cR hr.units) (ao (i := 4) rfl (by walk_at "v")) aU (nomark _)) (Ao (bW (uN hr.units (ji hr.units)) (ao (i := 6) rfl (by walk_at "v")) (d7 aH) (nomark _)) (zB (bW (cR hr.units) (bU (fD.bK gW ct (Bd.all (n := 2) (ks := []) (is := List.range 2) (fun _ _ _ _ _ _ us ws h1 h2 => match us, ws, h1, h2 with | [_, _], [], _, _ => rfl))) (by rfl) T.dZ.gl T.dZ.kp (aq (ao (i := 0) rfl (by walk_at "v")) (aq aR aH))) aR (nomark _)))))) (aX (s_ret (cQ (aq (ao (i := 4) rfl (by walk_at "v")) (aq (ao (i := 5) rfl (by walk_at "v")) (aq (aW hr.units (ao (i := 6) rfl (by walk_at "v")) (Tj FQ aR) (fun _ _ => rfl)) aH)))))) cU)
    (aV (s_if (bW (vR hr.units) (ao (i := 4) rfl (by walk_at "v")) (cQ (aq aU (aq aU aH))) (by rfl)) (aX (s_ret (cQ (aq (ao (i := 4) rfl (by walk_at "v")) (aq (ao (i := 5) rfl (by walk_at "v")) (aq (bU (zR.bK Jf ct (Bd.all (n := 2) (ks := []) (is := List.range 2) (fun _ _ _ _ _ _ us ws h1 h2 => match us, ws, h1, h2 with | [_, _], [], _, _ => rfl))) (by rfl) T.tU.gl T.tU.kp (aq (ao (i := 0) rfl (by walk_at "v")) (aq (ao (i := 2) rfl (by walk_at "v")) aH))) aH)))))) cU)
    (aV (s_if (bW (vR hr.units) (ao (i := 4) rfl (by walk_at "v")) (cQ (aq aU (aq aU aH))) (by rfl)) (aX (s_ret (cQ (aq (ao (i := 4) rfl (by walk_at "v")) (aq (ao (i := 5) rfl (by walk_at "v")) (aq (bU (zR.bK Jf ct (Bd.all (n := 2) (ks := []) (is := List.range 2) (fun _ _ _ _ _ _ us ws h1 h2 => match us, ws, h1, h2 with | [_, _], [], _, _ => rfl))) (by rfl) T.tU.gl T.tU.kp (aq (ao (i := 0) rfl (by walk_at "v")) (aq (ao (i := 3) rfl (by walk_at "v")) aH))) aH)))))) cU)
    (aX (s_ret (cQ (aq (ao (i := 4) rfl (by walk_at "v")) (aq (ao (i := 5) rfl (by walk_at "v")) aH)))))))))))
def d9 : Mn := body 2 3
    (Rr 2 iT (aY (cD (bZ (aG zG (fM vh "see" 1 dY (aj 0) (ak (aj 1) aA)) (eC .non))) (bV (eC (.str ""))) cG)
    (bV (eC (.str "other")))) (adS [(xF "at"), (xF "why")]))
theorem rA (T : Top w K mg) : Fd P w K mg base (7 + 1) (He.ga K "_law_seen") "_law_seen" "_law_seen" qW [] [] ["_law_watch", "_law_row_here"] d9 := by
  refine Fd.of T.qX.dn Uy (fun cdv A outer s H E hr hG => ?_)
  have ct : cA (cxOf (L2.CX P w) P w K mg base ["_law_watch", "_law_row_here", "e"] "_law_seen" (defScope qW) (He.ga K "_law_seen") cdv A outer s H E) (fun c d _ H' => E c d H') := cA.def_ hG
  have yZ := yZ (P := P) (base := base) T
  have abL : Room 7 _ := hr.mono (by first | decide | omega)
  exact (aX (aj0 (i := 2) (exm := iT) ct rfl rfl Uy.nd rfl rfl ⟨by rfl, by decide, .inl T.Xr⟩ (VD T) (fun W pn xe ct2 => (aV (s_if (bW adR (sE (cs := vh) (ait T) (yZ.bK abL ct2 (Bd.all (n := 2) (ks := []) (is := List.range 2) (fun _ _ _ _ _ _ us ws h1 h2 => match us, ws, h1, h2 with | [_, _], [], _, _ => rfl))) (ao (i := 0) rfl (by walk_at "v")) (aq (ao (i := 1) rfl (by walk_at "v")) aH)) iJ (nomark _)) (aX (s_ret aU)) cU)
    (aX (s_ret aU)))) (fun a oe cls d pn hz hf => (alT (acV (ahz (i := 2) (abF T) hz hf rfl (by walk_at "v")) (acV (ahz (i := 2) (VG T) hz hf rfl (by walk_at "v")) ajZ)) (by decide)))))
def uF : Mn := body 4 9
    (aY (vB (mW Ub (ak (aG ug (bB jc (ak (aj 1) aA)) (eC (.int (1)))) (ak (wO sG (eC (.int (1)))) (ak (wO sG (eC (.int (1)))) aA)))) (gName 4) (aY (bJ (aG bf (aj 1) (aj 4)) (gName 5))
    (aY (bJ (bB bQ (ak (eC (.str "done")) aA)) (gName 6))
    (aY (cD (bZ (aG qd (aG bf (aj 5) (eC (.str "mark"))) (eC .non))) (bJ (bB bQ (ak (eC (.str "failed")) (ak (aG bf (aj 5) (eC (.str "mark"))) aA))) (gName 6)) cG)
    (aY (bJ (eC (.str "")) (gName 7))
    (aY (cD (eE (aG bf (aj 5) (eC (.str "shut")))) (bJ (eC (.str "held")) (gName 7)) (cD (jD (bZ (aG (neL cY) (kJ (jY (qI (aj 1) (gY (eC (.int (1)))) rB)) (gName 8) (eE (aG bf (aj 8) (eC (.str "lives")))) (aj 8) [8]) (bB cC aA))) (bZ (aG cM (aj 4) (eC (.int (0)))))) (bJ (eC (.str "outlives")) (gName 7)) (cD (jD (bZ (aG (neL cY) (aG bf (aj 5) (eC (.str "had"))) (bB cC aA))) (ou (eE (aj 2)))) (bJ (eC (.str "keeps")) (gName 7)) cG)))
    (aY (cD (bZ (aG (neL cY) (bx 2 0 d9 (ak (aj 0) (ak (bB bQ (ak (eC (.str "ended")) (ak (aj 4) (ak (aj 6) aA)))) aA)) aA) (aG bf (bB cC (ak (eC (.str "")) (ak (bB bQ (ak (aj 3) (ak (aj 7) aA))) aA))) (bB iy (ak (aG (neL cY) (aj 7) (eC (.str ""))) aA))))) (bV (eC (.bl false))) cG)
    (aY (bJ (aG (neL cY) (aj 7) (eC (.str ""))) (jE (aj 5) (eC (.str "lives"))))
    (bJ (aG eO (aj 3) (eC (.int (1)))) (gName 3))))))))))
    (bV (aG cM (fM Gm "seen" 0 jX (aj 0) aA) (aj 3))))
theorem Jg (T : Top w K mg) : Fd P w K mg base (8 + 1) (He.ga K "_law_ends") "_law_ends" "_law_ends" pB [] [] ["_law_watch", "_law_tasks", "_law_bare", "_law_ahead"] uF := by
  refine Fd.of T.HJ.dn gR (fun cdv A outer s H E hr hG => ?_)
  have ct : cA (cxOf (L2.CX P w) P w K mg base ["_law_watch", "_law_tasks", "_law_bare", "_law_ahead", "_law_number", "_law_task", "_law_outcome", "_law_why", "_law_one_here"] "_law_ends" (defScope pB) (He.ga K "_law_ends") cdv A outer s H E) (fun c d _ H' => E c d H') := cA.def_ hG
  have xM := xM (P := P) (base := base) T
  have V5 : Room 1 _ := hr.mono (by first | decide | omega)
  have rA := rA (P := P) (base := base) T
  have yD : Room 8 _ := hr.mono (by first | decide | omega)
  exact (aV (Rj ct.po rfl (akk (by rfl) T.Ed (aq (dW Wz (iZ (id := "len") qQ (by rfl) T.qO (by decide +kernel) (aq (ao (i := 1) rfl (by walk_at "v")) aH)) aR) (aq (Tj FQ aR) (aq (Tj FQ aR) aH)))) (bO (i := 4) gR.nd rfl (by walk_at "w")) (aV (s_asg (aW hr.units (ao (i := 1) rfl (by walk_at "v")) (ao (i := 4) rfl (by walk_at "v")) (fun _ _ => rfl)) (bO (i := 5) gR.nd rfl (by walk_at "w")))
    (aV (s_asg (cQ (aq aU aH)) (bO (i := 6) gR.nd rfl (by walk_at "w")))
    (aV (s_if (bW Ax (aW hr.units (ao (i := 5) rfl (by walk_at "v")) aU (fun _ _ => rfl)) iJ (nomark _)) (aX (s_asg (cQ (aq aU (aq (aW hr.units (ao (i := 5) rfl (by walk_at "v")) aU (fun _ _ => rfl)) aH))) (bO (i := 6) gR.nd rfl (by walk_at "w")))) cU)
    (aV (s_asg aU (bO (i := 7) gR.nd rfl (by walk_at "w")))
    (aV (s_if (oX (aW hr.units (ao (i := 5) rfl (by walk_at "v")) aU (fun _ _ => rfl)) (by intro _; rfl)) (aX (s_asg aU (bO (i := 7) gR.nd rfl (by walk_at "w")))) (aX (s_if (PW.pt (Ao (bW (uN hr.units (ji hr.units)) (yN (own := [("_law_one_here", 8)]) rfl gR.nd (FJ (Ay (ao (i := 1) rfl (by walk_at "v")) (qH aR) Dh)) (blkOk_by (N := ["_law_watch", "_law_tasks", "_law_bare", "_law_ahead", "_law_number", "_law_task", "_law_outcome", "_law_why", "_law_one_here"]) (sc := defScope pB) (by decide +kernel)) (fun _ _ _ _ _ => (iw (i := 8) (by decide) gR.nd rfl (by walk_at "w"))) (fun _ _ _ _ _ => (abh (oX (aW hr.units (ao (i := 8) rfl (by walk_at "v")) aU (fun _ _ => rfl)) (by intro _; rfl)))) (fun _ _ _ _ _ => (ao (i := 8) rfl (by walk_at "v")))) (d7 aH) (nomark _)) (zB (bW (cR hr.units) (ao (i := 4) rfl (by walk_at "v")) aR (nomark _))))) (aX (s_asg aU (bO (i := 7) gR.nd rfl (by walk_at "w")))) (aX (s_if (PW.pt (Ao (bW (uN hr.units (ji hr.units)) (aW hr.units (ao (i := 5) rfl (by walk_at "v")) aU (fun _ _ => rfl)) (d7 aH) (nomark _)) (zB (Aq (oX (ao (i := 2) rfl (by walk_at "v")) (by intro _; rfl)))))) (aX (s_asg aU (bO (i := 7) gR.nd rfl (by walk_at "w")))) cU)))))
    (aV (s_if (bW (uN hr.units (ji hr.units)) (bU (rA.bK yD ct (Bd.all (n := 2) (ks := []) (is := List.range 2) (fun _ _ _ _ _ _ us ws h1 h2 => match us, ws, h1, h2 with | [_, _], [], _, _ => rfl))) (by rfl) T.qX.gl T.qX.kp (aq (ao (i := 0) rfl (by walk_at "v")) (aq (cQ (aq aU (aq (ao (i := 4) rfl (by walk_at "v")) (aq (ao (i := 6) rfl (by walk_at "v")) aH)))) aH))) (aW hr.units (d7 (aq aU (aq (cQ (aq (ao (i := 3) rfl (by walk_at "v")) (aq (ao (i := 7) rfl (by walk_at "v")) aH))) aH))) (rY vQ (by rfl) T.uI (by decide +kernel) (aq (dB (uN hr.units (ji hr.units)) (ao (i := 7) rfl (by walk_at "v")) aU (nomark _)) aH)) (fun _ _ => rfl)) (nomark _)) (aX (s_ret qY)) cU)
    (aV (s_asg (dB (uN hr.units (ji hr.units)) (ao (i := 7) rfl (by walk_at "v")) aU (nomark _)) (qJ hr.units (ao (i := 5) rfl (by walk_at "v")) aU))
    (aX (s_asg (dW lD (ao (i := 3) rfl (by walk_at "v")) aR) (bO (i := 3) gR.nd rfl (by walk_at "w"))))))))))))
    (aX (s_ret (dB (cR hr.units) (aie (cs := Gm) (agC T) (xM.bK V5 ct (Bd.all (n := 1) (ks := []) (is := List.range 1) (fun _ _ _ _ _ _ us ws h1 h2 => match us, ws, h1, h2 with | [_], [], _, _ => rfl))) (ao (i := 0) rfl (by walk_at "v"))) (ao (i := 3) rfl (by walk_at "v")) (nomark _)))))
def Bu : Mn := body 1 15
    (aY (bJ (bx 1 0 j5 (ak (bx 2 0 oV (ak (aj 0) (ak (eC (.int (0))) aA)) aA) aA) aA) (gName 1))
    (aY (bJ (bB cC (ak (bx 1 0 oJ (ak (aj 1) aA) aA) (ak (bx 1 0 oJ (ak (aj 1) aA) aA) (ak (bx 1 0 oJ (ak (aj 1) aA) aA) aA)))) (gName 2))
    (aY (bJ (bB cC (ak (bx 1 0 oJ (ak (aj 1) aA) aA) (ak (bx 1 0 oJ (ak (aj 1) aA) aA) aA))) (gName 3))
    (aY (bJ pO (gName 4))
    (aY (vB (jY (qI (aj 2) rB (gY (bx 2 0 dX (ak (aj 1) (ak (eC (.int (4))) aA)) aA)))) (gName 5) (bJ (aG eO (eC (.int (1))) (bx 2 0 dX (ak (aj 1) (ak (eC (.int (5))) aA)) aA)) (jE (aj 4) (aj 5))))
    (aY (bJ (aG cM (bx 2 0 dX (ak (aj 1) (ak (eC (.int (2))) aA)) aA) (eC (.int (0)))) (gName 6))
    (aY (bJ (bB sO (ak (aj 4) aA)) (gName 7))
    (aY (bJ (bx 0 2 (lC "Watch" fun ds => jg (GB.picked (ds ++ []) [0, 2, 1])) aA (ak (aj 6) (ak (aj 7) aA))) (gName 8))
    (aY (gq (TQ "dict" Uc (aj 7)))
    (aY (bJ (bB fH (ak (oG [((eC (.str "had")), (bB fH aA)), ((eC (.str "mark")), (eC .non)), ((eC (.str "shut")), (eC (.bl false))), ((eC (.str "lives")), (eC (.bl true)))]) aA)) (gName 9))
    (aY (vB (mW pZ (ak (bx 2 0 dX (ak (aj 1) (ak (eC (.int (4))) aA)) aA) aA)) (gName 10) (aY (gq (jJ "list" sJ (aj 9) (ak (oG [((eC (.str "had")), (bB fH aA)), ((eC (.str "mark")), (eC .non)), ((eC (.str "shut")), (eC (.bl false))), ((eC (.str "lives")), (eC (.bl true)))]) aA)))
    (cD (bZ (aG cY (bx 2 0 d9 (ak (aj 8) (ak (bB bQ (ak (eC (.str "begun")) (ak (aG eO (aj 10) (eC (.int (1)))) (ak (eC (.int (0))) (ak (aG bf (aj 2) (aG oW (aj 10) (eC (.int (3))))) (ak (eC (.int (0))) aA)))))) aA)) aA) (eC (.str "")))) (bV (eC (.bl false))) cG)))
    (aY (bJ (aG ug (bB jc (ak (aj 9) aA)) (eC (.int (1)))) (gName 11))
    (aY (vB (jY (aG eO (qI (aj 0) (gY (eC (.int (1)))) (gY (eC (.int (41))))) (bB cC (ak (eC (.int (0))) (ak (eC (.int (1))) (ak (eC (.int (2))) aA)))))) (gName 12) (aY (bJ (bx 4 0 rF (ak (bx 1 0 j5 (ak (aj 12) aA) aA) (ak (aj 9) (ak (aj 2) (ak (aj 3) aA)))) aA) (gName 13))
    (aY (bJ (bx 4 0 rE (ak (aj 9) (ak (aj 4) (ak (aj 6) (ak (aj 13) aA)))) aA) (gName 14))
    (aY (cD (bZ (aG cY (bx 2 0 d9 (ak (aj 8) (ak (aj 13) aA)) aA) (aG bf (bB cC (ak (eC (.str "")) (ak (bB bQ (ak (aj 11) (ak (aj 14) aA))) aA))) (bB iy (ak (aG cY (aj 14) (eC (.str ""))) aA))))) (bV (eC (.bl false))) cG)
    (aY (cD (bZ (aG cM (aj 14) (eC (.str "")))) (gq (bx 2 0 d8 (ak (aj 9) (ak (aj 13) aA)) aA)) cG)
    (bJ (aG eO (aj 11) (eC (.int (1)))) (gName 11)))))))
    (bV (bx 4 0 uF (ak (aj 8) (ak (aj 9) (ak (aj 6) (ak (aj 11) aA)))) aA)))))))))))))))
theorem al8 (T : Top w K mg) : Fd P w K mg base (9 + 1) (He.ga K "law") "law" "law" pN [] [] ["_law_script"] Bu := by
  refine Fd.of T.adH.dn jA (fun cdv A outer s H E hr hG => ?_)
  have ct : cA (cxOf (L2.CX P w) P w K mg base ["_law_script", "_law_well_here", "_law_goods", "_law_marks", "_law_sizes", "_law_thing", "_law_bare", "_law_handed", "_law_watch", "_law_tasks", "_law_k", "_law_ahead", "_law_cell", "_law_row_here", "_law_why"] "law" (defScope pN) (He.ga K "law") cdv A outer s H E) (fun c d _ H' => E c d H') := cA.def_ hG
  have Jg := Jg (P := P) (base := base) T
  have afr : Room 9 _ := hr.mono (by first | decide | omega)
  have Je := Je (P := P) (base := base) T
  have afs : Room 1 _ := hr.mono (by first | decide | omega)
  have rA := rA (P := P) (base := base) T
  have yD : Room 8 _ := hr.mono (by first | decide | omega)
  have Ui := Ui (P := P) (base := base) T
  have agH : Room 2 _ := hr.mono (by first | decide | omega)
  have Uj := Uj (P := P) (base := base) T
  have agI : Room 3 _ := hr.mono (by first | decide | omega)
  have Bt := Bt (P := P) (base := base) T
  have Vf : Room 1 _ := hr.mono (by first | decide | omega)
  have fD := fD (P := P) (base := base) T
  have gW : Room 1 _ := hr.mono (by first | decide | omega)
  have xK := xK (P := P) (base := base) T
  have aiX : Room 4 _ := hr.mono (by first | decide | omega)
  have Uk : Room (4 + 1) _ := hr.mono (by first | decide | omega)
  have qZ := qZ (P := P) (base := base) T
  have vm : Room 2 _ := hr.mono (by first | decide | omega)
  have za := za (P := P) (base := base) T
  have abM : Room 1 _ := hr.mono (by first | decide | omega)
  exact (aV (s_asg (bU (Bt.bK Vf ct (Bd.all (n := 1) (ks := []) (is := List.range 1) (fun _ _ _ _ _ _ us ws h1 h2 => match us, ws, h1, h2 with | [_], [], _, _ => rfl))) (by rfl) T.wM.gl T.wM.kp (aq (bU (za.bK abM ct (Bd.all (n := 2) (ks := []) (is := List.range 2) (fun _ _ _ _ _ _ us ws h1 h2 => match us, ws, h1, h2 with | [_, _], [], _, _ => rfl))) (by rfl) T.yM.gl T.yM.kp (aq (ao (i := 0) rfl (by walk_at "v")) (aq aR aH))) aH)) (bO (i := 1) jA.nd rfl (by walk_at "w")))
    (aV (s_asg (d7 (aq (bU (qZ.bK vm ct (Bd.all (n := 1) (ks := []) (is := List.range 1) (fun _ _ _ _ _ _ us ws h1 h2 => match us, ws, h1, h2 with | [_], [], _, _ => rfl))) (by rfl) T.jW.gl T.jW.kp (aq (ao (i := 1) rfl (by walk_at "v")) aH)) (aq (bU (qZ.bK vm ct (Bd.all (n := 1) (ks := []) (is := List.range 1) (fun _ _ _ _ _ _ us ws h1 h2 => match us, ws, h1, h2 with | [_], [], _, _ => rfl))) (by rfl) T.jW.gl T.jW.kp (aq (ao (i := 1) rfl (by walk_at "v")) aH)) (aq (bU (qZ.bK vm ct (Bd.all (n := 1) (ks := []) (is := List.range 1) (fun _ _ _ _ _ _ us ws h1 h2 => match us, ws, h1, h2 with | [_], [], _, _ => rfl))) (by rfl) T.jW.gl T.jW.kp (aq (ao (i := 1) rfl (by walk_at "v")) aH)) aH)))) (bO (i := 2) jA.nd rfl (by walk_at "w")))
    (aV (s_asg (d7 (aq (bU (qZ.bK vm ct (Bd.all (n := 1) (ks := []) (is := List.range 1) (fun _ _ _ _ _ _ us ws h1 h2 => match us, ws, h1, h2 with | [_], [], _, _ => rfl))) (by rfl) T.jW.gl T.jW.kp (aq (ao (i := 1) rfl (by walk_at "v")) aH)) (aq (bU (qZ.bK vm ct (Bd.all (n := 1) (ks := []) (is := List.range 1) (fun _ _ _ _ _ _ us ws h1 h2 => match us, ws, h1, h2 with | [_], [], _, _ => rfl))) (by rfl) T.jW.gl T.jW.kp (aq (ao (i := 1) rfl (by walk_at "v")) aH)) aH))) (bO (i := 3) jA.nd rfl (by walk_at "w")))
    (aV (s_asg zH (bO (i := 4) jA.nd rfl (by walk_at "w")))
    (aV (Rj ct.po rfl (FJ (Ay (ao (i := 2) rfl (by walk_at "v")) Dh (qH (bU (fD.bK gW ct (Bd.all (n := 2) (ks := []) (is := List.range 2) (fun _ _ _ _ _ _ us ws h1 h2 => match us, ws, h1, h2 with | [_, _], [], _, _ => rfl))) (by rfl) T.dZ.gl T.dZ.kp (aq (ao (i := 1) rfl (by walk_at "v")) (aq aR aH)))))) (bO (i := 5) jA.nd rfl (by walk_at "w")) (aX (s_asg (dW lD aR (bU (fD.bK gW ct (Bd.all (n := 2) (ks := []) (is := List.range 2) (fun _ _ _ _ _ _ us ws h1 h2 => match us, ws, h1, h2 with | [_, _], [], _, _ => rfl))) (by rfl) T.dZ.gl T.dZ.kp (aq (ao (i := 1) rfl (by walk_at "v")) (aq aR aH)))) (qJ hr.units (ao (i := 4) rfl (by walk_at "v")) (ao (i := 5) rfl (by walk_at "v"))))))
    (aV (s_asg (dB (cR hr.units) (bU (fD.bK gW ct (Bd.all (n := 2) (ks := []) (is := List.range 2) (fun _ _ _ _ _ _ us ws h1 h2 => match us, ws, h1, h2 with | [_, _], [], _, _ => rfl))) (by rfl) T.dZ.gl T.dZ.kp (aq (ao (i := 1) rfl (by walk_at "v")) (aq aR aH))) aR (nomark _)) (bO (i := 6) jA.nd rfl (by walk_at "w")))
    (aV (s_asg (rY ac1 (by rfl) T.aeK (by decide +kernel) (aq (ao (i := 4) rfl (by walk_at "v")) aH)) (bO (i := 7) jA.nd rfl (by walk_at "w")))
    (aV (s_asg (agm (xK.makes T.acJ Uk ct (Bd.all (n := 1) (ks := ["raw", "things"]) (is := [0, 2, 1]) (fun _ _ _ _ _ _ us ws h1 h2 => match us, ws, h1, h2 with | [_], [_, _], _, _ => rfl)) (fun _ _ => .nil)) (by rfl) T.ah3 T.acJ.kp (zE (ao (i := 6) rfl (by walk_at "v")) (zE (ao (i := 7) rfl (by walk_at "v")) adK))) (bO (i := 8) jA.nd rfl (by walk_at "w")))
    (aV (mV (adV PySem.F.plainAttrs_dict PySem.F.slot_dict_clear PySem.F.type_dict_clear akl (ao (i := 7) rfl (by walk_at "v"))))
    (aV (s_asg (zF (aq (Rx (ps := [((eC (.str "had")), (bB fH aA)), ((eC (.str "mark")), (eC .non)), ((eC (.str "shut")), (eC (.bl false))), ((eC (.str "lives")), (eC (.bl true)))]) (pps_cons aU (zF aH) (pps_cons aU iJ (pps_cons aU qY (pps_cons aU qY pps_nil))))) aH)) (bO (i := 9) jA.nd rfl (by walk_at "w")))
    (aV (Rj ct.po rfl (abk (by rfl) T.Ed (aq (bU (fD.bK gW ct (Bd.all (n := 2) (ks := []) (is := List.range 2) (fun _ _ _ _ _ _ us ws h1 h2 => match us, ws, h1, h2 with | [_, _], [], _, _ => rfl))) (by rfl) T.dZ.gl T.dZ.kp (aq (ao (i := 1) rfl (by walk_at "v")) (aq aR aH))) aH)) (bO (i := 10) jA.nd rfl (by walk_at "w")) (aV (mV (Iw (ao (i := 9) rfl (by walk_at "v")) (aq (Rx (ps := [((eC (.str "had")), (bB fH aA)), ((eC (.str "mark")), (eC .non)), ((eC (.str "shut")), (eC (.bl false))), ((eC (.str "lives")), (eC (.bl true)))]) (pps_cons aU (zF aH) (pps_cons aU iJ (pps_cons aU qY (pps_cons aU qY pps_nil))))) aH)))
    (aX (s_if (bW (ji hr.units) (bU (rA.bK yD ct (Bd.all (n := 2) (ks := []) (is := List.range 2) (fun _ _ _ _ _ _ us ws h1 h2 => match us, ws, h1, h2 with | [_, _], [], _, _ => rfl))) (by rfl) T.qX.gl T.qX.kp (aq (ao (i := 8) rfl (by walk_at "v")) (aq (cQ (aq aU (aq (dW lD (ao (i := 10) rfl (by walk_at "v")) aR) (aq aR (aq (aW hr.units (ao (i := 2) rfl (by walk_at "v")) (dW Av (ao (i := 10) rfl (by walk_at "v")) aR) (fun _ _ => rfl)) (aq aR aH)))))) aH))) aU (nomark _)) (aX (s_ret qY)) cU))))
    (aV (s_asg (dW Wz (iZ (id := "len") qQ (by rfl) T.qO (by decide +kernel) (aq (ao (i := 9) rfl (by walk_at "v")) aH)) aR) (bO (i := 11) jA.nd rfl (by walk_at "w")))
    (aV (Rj ct.po rfl (FJ (dW lD (Ay (ao (i := 0) rfl (by walk_at "v")) (qH aR) (qH aR)) (d7 (aq aR (aq aR (aq aR aH)))))) (bO (i := 12) jA.nd rfl (by walk_at "w")) (aV (s_asg (bU (Uj.bK agI ct (Bd.all (n := 4) (ks := []) (is := List.range 4) (fun _ _ _ _ _ _ us ws h1 h2 => match us, ws, h1, h2 with | [_, _, _, _], [], _, _ => rfl))) (by rfl) T.S9.gl T.S9.kp (aq (bU (Bt.bK Vf ct (Bd.all (n := 1) (ks := []) (is := List.range 1) (fun _ _ _ _ _ _ us ws h1 h2 => match us, ws, h1, h2 with | [_], [], _, _ => rfl))) (by rfl) T.wM.gl T.wM.kp (aq (ao (i := 12) rfl (by walk_at "v")) aH)) (aq (ao (i := 9) rfl (by walk_at "v")) (aq (ao (i := 2) rfl (by walk_at "v")) (aq (ao (i := 3) rfl (by walk_at "v")) aH))))) (bO (i := 13) jA.nd rfl (by walk_at "w")))
    (aV (s_asg (bU (Ui.bK agH ct (Bd.all (n := 4) (ks := []) (is := List.range 4) (fun _ _ _ _ _ _ us ws h1 h2 => match us, ws, h1, h2 with | [_, _, _, _], [], _, _ => rfl))) (by rfl) T.S8.gl T.S8.kp (aq (ao (i := 9) rfl (by walk_at "v")) (aq (ao (i := 4) rfl (by walk_at "v")) (aq (ao (i := 6) rfl (by walk_at "v")) (aq (ao (i := 13) rfl (by walk_at "v")) aH))))) (bO (i := 14) jA.nd rfl (by walk_at "w")))
    (aV (s_if (bW (ji hr.units) (bU (rA.bK yD ct (Bd.all (n := 2) (ks := []) (is := List.range 2) (fun _ _ _ _ _ _ us ws h1 h2 => match us, ws, h1, h2 with | [_, _], [], _, _ => rfl))) (by rfl) T.qX.gl T.qX.kp (aq (ao (i := 8) rfl (by walk_at "v")) (aq (ao (i := 13) rfl (by walk_at "v")) aH))) (aW hr.units (d7 (aq aU (aq (cQ (aq (ao (i := 11) rfl (by walk_at "v")) (aq (ao (i := 14) rfl (by walk_at "v")) aH))) aH))) (rY vQ (by rfl) T.uI (by decide +kernel) (aq (dB (ji hr.units) (ao (i := 14) rfl (by walk_at "v")) aU (nomark _)) aH)) (fun _ _ => rfl)) (nomark _)) (aX (s_ret qY)) cU)
    (aV (s_if (bW (cR hr.units) (ao (i := 14) rfl (by walk_at "v")) aU (nomark _)) (aX (mV (bU (Je.bK afs ct (Bd.all (n := 2) (ks := []) (is := List.range 2) (fun _ _ _ _ _ _ us ws h1 h2 => match us, ws, h1, h2 with | [_, _], [], _, _ => rfl))) (by rfl) T.HF.gl T.HF.kp (aq (ao (i := 9) rfl (by walk_at "v")) (aq (ao (i := 13) rfl (by walk_at "v")) aH))))) cU)
    (aX (s_asg (dW lD (ao (i := 11) rfl (by walk_at "v")) aR) (bO (i := 11) jA.nd rfl (by walk_at "w")))))))))
    (aX (s_ret (bU (Jg.bK afr ct (Bd.all (n := 4) (ks := []) (is := List.range 4) (fun _ _ _ _ _ _ us ws h1 h2 => match us, ws, h1, h2 with | [_, _, _, _], [], _, _ => rfl))) (by rfl) T.HJ.gl T.HJ.kp (aq (ao (i := 8) rfl (by walk_at "v")) (aq (ao (i := 9) rfl (by walk_at "v")) (aq (ao (i := 6) rfl (by walk_at "v")) (aq (ao (i := 11) rfl (by walk_at "v")) aH))))))))))))))))))))
end
end dJ
end
local macro_rules | `(tactic| wp_walk using "ev") => `(tactic| simp only [PD.body, PD.aY, PD.cD, PD.bV, PD.Fy, PD.cG, PD.gq, PD.bJ, PD.vB, PD.aG, PD.wO, PD.eC, PD.aj, PD.bB, PD.aA, PD.ak, PD.ju, PD.CN, PD.rR, PD.UG, PD.qF, PD.eE, PD.bZ, PD.jD, PD.BL, PD.ou, PD.g8, PD.zu, PD.bx, PD.gName, PD.gNil, PD.gCons, PD.lB, PD.uJ, PD.FZ, PD.Az, PD.jJ, PD.qI, PD.rB, PD.gY, PD.jY, PD.items, PD.mW, PD.kJ, PD.gJ, PD.v9, PD.Res.tV, PD.Res.tW, PD.Res.Ak, PD.Res.zm, PD.RS.zp, PD.RS.zq, PD.RS.v8, PD.tX, Option.map_some, PD.eO, PD.ug, PD.mulM, PD.qP, PD.oW, PD.vC, PD.U3, PD.Dd, PD.U4, PD.BR, PD.yr, PD.jc, PD.bQ, PD.cC, PD.fH, PD.zG, PD.qd, PD.isNon, List.length_cons, List.length_nil, Nat.zero_add, Nat.reduceAdd, Nat.reduceSub, Nat.reduceLeDiff, List.map_cons, List.map_nil, List.append_nil, List.nil_append, List.cons_append, List.replicate_succ, List.replicate_zero, List.getElem?_cons_zero, List.getElem?_cons_succ, List.set_set, List.set_cons_zero, List.set_cons_succ, ↓reduceIte, and_self, if_true, decide_true, decide_false, PD.at0, PD.at1, PD.at2, PD.TV, PD.TX, Bool.false_eq_true, if_false, and_true, true_and, beq_self_eq_true, Bool.not_true, Bool.not_false, PD.wg, PD.wA, PD.wB, String.reduceEq])
local macro_rules | `(tactic| wp_walk using "ev", $rs,*) => `(tactic| simp only [PD.body, PD.aY, PD.cD, PD.bV, PD.Fy, PD.cG, PD.gq, PD.bJ, PD.vB, PD.aG, PD.wO, PD.eC, PD.aj, PD.bB, PD.aA, PD.ak, PD.ju, PD.CN, PD.rR, PD.UG, PD.qF, PD.eE, PD.bZ, PD.jD, PD.BL, PD.ou, PD.g8, PD.zu, PD.bx, PD.gName, PD.gNil, PD.gCons, PD.lB, PD.uJ, PD.FZ, PD.Az, PD.jJ, PD.qI, PD.rB, PD.gY, PD.jY, PD.items, PD.mW, PD.kJ, PD.gJ, PD.v9, PD.Res.tV, PD.Res.tW, PD.Res.Ak, PD.Res.zm, PD.RS.zp, PD.RS.zq, PD.RS.v8, PD.tX, Option.map_some, PD.eO, PD.ug, PD.mulM, PD.qP, PD.oW, PD.vC, PD.U3, PD.Dd, PD.U4, PD.BR, PD.yr, PD.jc, PD.bQ, PD.cC, PD.fH, PD.zG, PD.qd, PD.isNon, List.length_cons, List.length_nil, Nat.zero_add, Nat.reduceAdd, Nat.reduceSub, Nat.reduceLeDiff, List.map_cons, List.map_nil, List.append_nil, List.nil_append, List.cons_append, List.replicate_succ, List.replicate_zero, List.getElem?_cons_zero, List.getElem?_cons_succ, List.set_set, List.set_cons_zero, List.set_cons_succ, ↓reduceIte, and_self, if_true, decide_true, decide_false, PD.at0, PD.at1, PD.at2, PD.TV, PD.TX, Bool.false_eq_true, if_false, and_true, true_and, beq_self_eq_true, Bool.not_true, Bool.not_false, PD.wg, PD.wA, PD.wB, String.reduceEq, $[$rs:term],*])
local macro_rules | `(tactic| wp_walk using "ex") => `(tactic| simp only [PD.body, PD.aY, PD.cD, PD.bV, PD.Fy, PD.cG, PD.gq, PD.bJ, PD.vB, PD.aG, PD.wO, PD.eC, PD.aj, PD.bB, PD.aA, PD.ak, PD.ju, PD.CN, PD.rR, PD.UG, PD.qF, PD.eE, PD.bZ, PD.jD, PD.BL, PD.ou, PD.g8, PD.zu, PD.bx, PD.gName, PD.gNil, PD.gCons, PD.lB, PD.uJ, PD.FZ, PD.Az, PD.jJ, PD.qI, PD.rB, PD.gY, PD.jY, PD.items, PD.mW, PD.kJ, PD.gJ, PD.v9, PD.Res.tV, PD.Res.tW, PD.Res.Ak, PD.Res.zm, PD.RS.zp, PD.RS.zq, PD.RS.v8, PD.tX, Option.map_some, PD.eO, PD.ug, PD.mulM, PD.qP, PD.oW, PD.vC, PD.U3, PD.Dd, PD.U4, PD.BR, PD.yr, PD.jc, PD.bQ, PD.cC, PD.fH, PD.zG, PD.qd, PD.isNon, List.length_cons, List.length_nil, Nat.zero_add, Nat.reduceAdd, Nat.reduceSub, Nat.reduceLeDiff, List.map_cons, List.map_nil, List.append_nil, List.nil_append, List.cons_append, List.replicate_succ, List.replicate_zero, List.getElem?_cons_zero, List.getElem?_cons_succ, List.set_set, List.set_cons_zero, List.set_cons_succ, ↓reduceIte, and_self, if_true, decide_true, decide_false, PD.at0, PD.at1, PD.at2, PD.TV, PD.TX, Bool.false_eq_true, if_false, and_true, true_and, beq_self_eq_true, Bool.not_true, Bool.not_false, PD.wg, PD.wA, PD.wB, String.reduceEq, PD.bf, PD.inX, PD.adW, PD.Dg, PD.Tz, PD.inB, PD.toV, PD.yO, PD.Gh, PD.Gi, PD.RG, PD.Gf, PD.Gg, PD.wD, PD.uo, PD.jE, PD.IK, PD.keyOf, PD.Bb, PD.Ba, Option.bind_some, Option.map_none, Option.bind_none, PD.pO, PD.at3, PD.at4, Option.isSome_some, Option.isSome_none, Bool.or_false, Bool.false_or, Bool.true_or, Bool.or_true, Option.getD_some, Option.getD_none, PD.yR, PD.zK, Bool.or_self])
local macro_rules | `(tactic| wp_walk using "ew") => `(tactic| simp only [PD.body, PD.aY, PD.cD, PD.bV, PD.Fy, PD.cG, PD.gq, PD.bJ, PD.vB, PD.aG, PD.wO, PD.eC, PD.aj, PD.bB, PD.aA, PD.ak, PD.ju, PD.CN, PD.rR, PD.UG, PD.qF, PD.eE, PD.bZ, PD.jD, PD.BL, PD.ou, PD.g8, PD.zu, PD.bx, PD.gName, PD.gNil, PD.gCons, PD.lB, PD.uJ, PD.FZ, PD.Az, PD.jJ, PD.qI, PD.rB, PD.gY, PD.jY, PD.items, PD.mW, PD.kJ, PD.gJ, PD.v9, PD.Res.tV, PD.Res.tW, PD.Res.Ak, PD.Res.zm, PD.RS.zp, PD.RS.zq, PD.RS.v8, PD.tX, Option.map_some, PD.eO, PD.ug, PD.mulM, PD.qP, PD.oW, PD.vC, PD.U3, PD.Dd, PD.U4, PD.BR, PD.yr, PD.jc, PD.bQ, PD.cC, PD.fH, PD.zG, PD.qd, List.length_cons, List.length_nil, Nat.zero_add, Nat.reduceAdd, Nat.reduceSub, Nat.reduceLeDiff, List.map_cons, List.map_nil, List.append_nil, List.nil_append, List.cons_append, List.replicate_succ, List.replicate_zero, List.getElem?_cons_zero, List.getElem?_cons_succ, List.set_set, List.set_cons_zero, List.set_cons_succ, ↓reduceIte, and_self, if_true, decide_true, decide_false, PD.at0, PD.at1, PD.at2, PD.TV, PD.TX, Bool.false_eq_true, if_false, and_true, true_and, beq_self_eq_true, Bool.not_true, Bool.not_false, PD.wg, PD.wA, PD.wB, String.reduceEq, PD.bf, PD.inX, PD.adW, PD.Dg, PD.Tz, PD.inB, PD.toV, PD.yO, PD.Gh, PD.Gi, PD.RG, PD.Gf, PD.Gg, PD.wD, PD.uo, PD.jE, PD.IK, PD.keyOf, PD.Bb, PD.Ba, Option.bind_some, Option.map_none, Option.bind_none, PD.pO, PD.at3, PD.at4, Option.isSome_some, Option.isSome_none, Bool.or_false, Bool.false_or, Bool.true_or, Bool.or_true, Option.getD_some, Option.getD_none, PD.yR, PD.zK, Bool.or_self])
local macro_rules | `(tactic| wp_walk using "ex", $rs,*) => `(tactic| simp only [PD.body, PD.aY, PD.cD, PD.bV, PD.Fy, PD.cG, PD.gq, PD.bJ, PD.vB, PD.aG, PD.wO, PD.eC, PD.aj, PD.bB, PD.aA, PD.ak, PD.ju, PD.CN, PD.rR, PD.UG, PD.qF, PD.eE, PD.bZ, PD.jD, PD.BL, PD.ou, PD.g8, PD.zu, PD.bx, PD.gName, PD.gNil, PD.gCons, PD.lB, PD.uJ, PD.FZ, PD.Az, PD.jJ, PD.qI, PD.rB, PD.gY, PD.jY, PD.items, PD.mW, PD.kJ, PD.gJ, PD.v9, PD.Res.tV, PD.Res.tW, PD.Res.Ak, PD.Res.zm, PD.RS.zp, PD.RS.zq, PD.RS.v8, PD.tX, Option.map_some, PD.eO, PD.ug, PD.mulM, PD.qP, PD.oW, PD.vC, PD.U3, PD.Dd, PD.U4, PD.BR, PD.yr, PD.jc, PD.bQ, PD.cC, PD.fH, PD.zG, PD.qd, PD.isNon, List.length_cons, List.length_nil, Nat.zero_add, Nat.reduceAdd, Nat.reduceSub, Nat.reduceLeDiff, List.map_cons, List.map_nil, List.append_nil, List.nil_append, List.cons_append, List.replicate_succ, List.replicate_zero, List.getElem?_cons_zero, List.getElem?_cons_succ, List.set_set, List.set_cons_zero, List.set_cons_succ, ↓reduceIte, and_self, if_true, decide_true, decide_false, PD.at0, PD.at1, PD.at2, PD.TV, PD.TX, Bool.false_eq_true, if_false, and_true, true_and, beq_self_eq_true, Bool.not_true, Bool.not_false, PD.wg, PD.wA, PD.wB, String.reduceEq, PD.bf, PD.inX, PD.adW, PD.Dg, PD.Tz, PD.inB, PD.toV, PD.yO, PD.Gh, PD.Gi, PD.RG, PD.Gf, PD.Gg, PD.wD, PD.uo, PD.jE, PD.IK, PD.keyOf, PD.Bb, PD.Ba, Option.bind_some, Option.map_none, Option.bind_none, PD.pO, PD.at3, PD.at4, Option.isSome_some, Option.isSome_none, Bool.or_false, Bool.false_or, Bool.true_or, Bool.or_true, Option.getD_some, Option.getD_none, PD.yR, PD.zK, Bool.or_self, $[$rs:term],*])
local macro_rules | `(tactic| wp_walk using "ew", $rs,*) => `(tactic| simp only [PD.body, PD.aY, PD.cD, PD.bV, PD.Fy, PD.cG, PD.gq, PD.bJ, PD.vB, PD.aG, PD.wO, PD.eC, PD.aj, PD.bB, PD.aA, PD.ak, PD.ju, PD.CN, PD.rR, PD.UG, PD.qF, PD.eE, PD.bZ, PD.jD, PD.BL, PD.ou, PD.g8, PD.zu, PD.bx, PD.gName, PD.gNil, PD.gCons, PD.lB, PD.uJ, PD.FZ, PD.Az, PD.jJ, PD.qI, PD.rB, PD.gY, PD.jY, PD.items, PD.mW, PD.kJ, PD.gJ, PD.v9, PD.Res.tV, PD.Res.tW, PD.Res.Ak, PD.Res.zm, PD.RS.zp, PD.RS.zq, PD.RS.v8, PD.tX, Option.map_some, PD.eO, PD.ug, PD.mulM, PD.qP, PD.oW, PD.vC, PD.U3, PD.Dd, PD.U4, PD.BR, PD.yr, PD.jc, PD.bQ, PD.cC, PD.fH, PD.zG, PD.qd, List.length_cons, List.length_nil, Nat.zero_add, Nat.reduceAdd, Nat.reduceSub, Nat.reduceLeDiff, List.map_cons, List.map_nil, List.append_nil, List.nil_append, List.cons_append, List.replicate_succ, List.replicate_zero, List.getElem?_cons_zero, List.getElem?_cons_succ, List.set_set, List.set_cons_zero, List.set_cons_succ, ↓reduceIte, and_self, if_true, decide_true, decide_false, PD.at0, PD.at1, PD.at2, PD.TV, PD.TX, Bool.false_eq_true, if_false, and_true, true_and, beq_self_eq_true, Bool.not_true, Bool.not_false, PD.wg, PD.wA, PD.wB, String.reduceEq, PD.bf, PD.inX, PD.adW, PD.Dg, PD.Tz, PD.inB, PD.toV, PD.yO, PD.Gh, PD.Gi, PD.RG, PD.Gf, PD.Gg, PD.wD, PD.uo, PD.jE, PD.IK, PD.keyOf, PD.Bb, PD.Ba, Option.bind_some, Option.map_none, Option.bind_none, PD.pO, PD.at3, PD.at4, Option.isSome_some, Option.isSome_none, Bool.or_false, Bool.false_or, Bool.true_or, Bool.or_true, Option.getD_some, Option.getD_none, PD.yR, PD.zK, Bool.or_self, $[$rs:term],*])
noncomputable section
namespace dJ
open PySem PySem.Spec PyProof.Rows L2 PD
def Well (n : Nat) (h : AH) (k : Nat) : Prop := ∃ a b c : Int, h[n]? = some (.lst [.int a, .int b, .int c]) ∧ 0 ≤ b ∧ b < 2147483647 ∧ 0 ≤ c ∧ c ≤ k
def Fr (n : Nat) (h h' : AH) : Prop := ∃ x, h' = h.set n x
theorem Fr.trans {n : Nat} {h h1 h2 : AH} (a : Fr n h h1) (b : Fr n h1 h2) : Fr n h h2 := by
  obtain ⟨x, rfl⟩ := a
  obtain ⟨y, rfl⟩ := b
  exact ⟨y, by rw [List.set_set]⟩
theorem lg {i : Int} {k : Nat} (h0 : 0 ≤ i) (h : i < 2 ^ k) : i.natAbs.log2 ≤ k := by
  by_cases z : i.natAbs = 0
  · rw [z]
    exact Nat.zero_le _
  · apply Nat.le_of_lt
    rw [Nat.log2_lt z]
    have e : (i.natAbs : Int) = i := Int.natAbs_of_nonneg h0
    have : (i.natAbs : Int) < ((2 ^ k : Nat) : Int) := by
      rw [e]
      push_cast
      exact h
    exact Int.ofNat_lt.mp this
theorem Well.lt {n k : Nat} {h : AH} (w : Well n h k) : n < h.length := by
  obtain ⟨a, b, c, e, _⟩ := w
  exact (List.getElem?_eq_some_iff.mp e).1
theorem Well.mono {n j k : Nat} {h : AH} (w : Well n h j) (l : j ≤ k) : Well n h k := by
  obtain ⟨a, b, c, e1, b0, b1, c0, c1⟩ := w
  exact ⟨a, b, c, e1, b0, b1, c0, by omega⟩
theorem ac5 (c : Int) (h : AH) : ∃ h', j5 [.int c] h = .ok (.ref h.length) h' ∧ Well h.length h' 0 ∧ ∃ x, h' = h ++ [x] := by
  have p : (0 : Int) < 2147483647 := by decide
  have b0 := Int.emod_nonneg c (show (2147483647 : Int) ≠ 0 by decide)
  have b1 := Int.emod_lt_of_pos c p
  have pw : (0 : Int) ≤ 18 ∧ (18 : Int) ≤ 1000000 ∧ (10 : Int).natAbs < 2 ^ 64 := by decide
  have s0 : (decide (-(2 ^ 64) < (0 : Int) ∧ (0 : Int) < 2 ^ 64)) = true := by decide
  have s1 : (decide (-(2 ^ 64) < (1 : Int) ∧ (1 : Int) < 2 ^ 64)) = true := by decide
  have wf : ∀ a : Int, Well h.length (h ++ [.lst [.int a, .int (c % 2147483647), .int 0]]) 0 := fun a => ⟨a, c % 2147483647, 0, by simp, b0, b1, by decide, by decide⟩
  by_cases hc : (10 : Int) ^ (18 : Int).toNat ≤ c
  · refine ⟨_, ?_, wf (c * 1), _, rfl⟩
    unfold j5
    (wp_walk using "ex", aP, pw, hc, iy, s1, p)
  · refine ⟨_, ?_, wf (c * 0), _, rfl⟩
    unfold j5
    (wp_walk using "ex", aP, pw, hc, iy, s0, p)
theorem pX {n k : Nat} {h : AH} {m : Int} (w : Well n h k) (hk : k < 2 ^ 40) (hm : 0 < m) (hm2 : m < 2 ^ 200) : ∃ r h', dX [.ref n, .int m] h = .ok (.int r) h' ∧ 0 ≤ r ∧ r < m ∧ Well n h' (k + 1) ∧ Fr n h h' := by
  have hn := w.lt
  obtain ⟨a, b, c, e, b0, b1, c0, c1⟩ := w
  have es : ∀ x, (h.set n x)[n]? = some x := fun x => by rw [List.getElem?_set_self hn]
  by_cases ha : 0 < a
  · have lm : m.natAbs.log2 < 9000 := by have := lg (by omega) hm2; omega
    refine ⟨a % m, h.set n (.lst [.int (a / m), .int b, .int c]), ?_, Int.emod_nonneg _ (by omega), Int.emod_lt_of_pos _ hm, ⟨a / m, b, c, es _, b0, b1, c0, by omega⟩, ⟨_, rfl⟩⟩
    unfold dX
    (wp_walk using "ex", aP, e, ha, hm, lm)
  · have q2 : (1009 : Int).natAbs.log2 < 9000 := by decide +kernel
    have q3 : (2003 : Int).natAbs.log2 < 9000 := by decide +kernel
    have q4 : (7 : Int).natAbs.log2 < 9000 := by decide +kernel
    have p1 : (0 : Int) < 2147483629 := by decide
    have p2 : (0 : Int) < 2147483587 := by decide
    have p3 : (0 : Int) < 2147483579 := by decide
    have p4 : (0 : Int) < 1009 := by decide
    have p5 : (0 : Int) < 2003 := by decide
    have p6 : (0 : Int) < 7 := by decide
    have m1 : (decide (-(2 ^ 64) < (7919 : Int) ∧ (7919 : Int) < 2 ^ 64)) = true := by decide
    have pw : (0 : Int) ≤ 5 ∧ (5 : Int) ≤ 1000000 ∧ (b + 7919 * (c + 1) + 1).natAbs < 2 ^ 64 := ⟨by decide, by decide, by omega⟩
    have x0 := Int.emod_nonneg ((b + 7919 * (c + 1) + 1) ^ (5 : Int).toNat) (show (2147483629 : Int) ≠ 0 by decide)
    have x1 := Int.emod_lt_of_pos ((b + 7919 * (c + 1) + 1) ^ (5 : Int).toNat) p1
    generalize hx : (b + 7919 * (c + 1) + 1) ^ (5 : Int).toNat % 2147483629 = x at x0 x1
    have m2 : (decide (-(2 ^ 64) < x ∧ x < 2 ^ 64)) = true := decide_eq_true ⟨by omega, by omega⟩
    have y0 := Int.emod_nonneg (x * (x / 1009 + 69621 + (c + 1))) (show (2147483587 : Int) ≠ 0 by decide)
    have y1 := Int.emod_lt_of_pos (x * (x / 1009 + 69621 + (c + 1))) p2
    generalize hy : x * (x / 1009 + 69621 + (c + 1)) % 2147483587 = y at y0 y1
    have m3 : (decide (-(2 ^ 64) < y ∧ y < 2 ^ 64)) = true := decide_eq_true ⟨by omega, by omega⟩
    refine ⟨y * (y / 2003 + 40692) % 2147483579 / 7 % m, h.set n (.lst [.int a, .int b, .int (c + 1)]), ?_, Int.emod_nonneg _ (by omega), Int.emod_lt_of_pos _ hm, ⟨a, b, c + 1, es _, b0, b1, by omega, by omega⟩, ⟨_, rfl⟩⟩
    unfold dX
    (wp_walk using "ex", aP, e, ha, es, hm, q2, q3, q4, p1, p2, p3, p4, p5, p6, m1, pw, hx, m2, hy, m3)
theorem Ul {α : Type} {ds : List α} {r : Int} (h0 : 0 ≤ r) (h1 : r < ds.length) : ∃ d ∈ ds, atI ds r = some d := by
  have hr : r.toNat < ds.length := by omega
  refine ⟨ds[r.toNat], List.getElem_mem hr, ?_⟩
  unfold atI ixN
  rw [if_pos h0, if_pos h1]
  show ds[r.toNat]? = _
  exact List.getElem?_eq_getElem hr
theorem Gp {n k : Nat} {h : AH} {ds : List D} (w : Well n h k) (hk : k < 2 ^ 40) (hne : 0 < ds.length) (hl : ds.length < 1000) : ∃ d h', uE [.ref n, .lst ds] h = .ok d h' ∧ d ∈ ds ∧ Well n h' (k + 1) ∧ Fr n h h' := by
  obtain ⟨r, h', e, r0, r1, w', f⟩ := pX (m := (ds.length : Nat)) w hk (by omega) (by omega)
  obtain ⟨d, hd, ea⟩ := Ul r0 r1
  refine ⟨d, h', ?_, hd, w', f⟩
  unfold uE
  (wp_walk using "ex", aP, e, ea)
def lets : List Nat := ("abcdefghijklmnopqrstuvwxyz" : Str).cps.toList
def Lw (z : Str) : Prop := ∀ c ∈ z.cps.toList, c ∈ lets
def Nm (z : Str) : Prop := Lw z ∧ 1 ≤ z.length ∧ z.length ≤ 8
theorem abN : ("abcdefghijklmnopqrstuvwxyz" : Str).length = 26 := by decide +kernel
theorem ako {c : Nat} (h : c ∈ lets) : Lw ⟨#[c]⟩ := fun d hd => by
  have e : d = c := List.mem_singleton.mp hd
  exact e ▸ h
def wlc : ME := (aG bf (aj 1) (bx 2 0 dX (ak (aj 0) (ak (eC (.int (26))) aA)) aA))
theorem RX {n : Nat} : ∀ (ds acc : List D) (h : AH) (k : Nat), Well n h k → k + ds.length < 2 ^ 40 → acc.length + ds.length < 1000 →
    ∃ (ys : List Str) (h' : AH), eY (PD.gName 2) g8 wlc [2] [some (.ref n), some (.str "abcdefghijklmnopqrstuvwxyz"), none] acc ds h = .ok (acc ++ ys.map D.str) h' ∧
      (∀ y ∈ ys, Lw y ∧ y.length = 1) ∧ ys.length = ds.length ∧ Well n h' (k + ds.length) ∧ Fr n h h'
  | [], acc, h, k, w, _, _ => ⟨[], h, by simp only [eY, List.map_nil, List.append_nil], by simp, rfl, w, ⟨_, (List.set_getElem_self w.lt).symm⟩⟩
  | d :: ds, acc, h, k, w, hk, hl => by
    simp only [List.length_cons] at hk hl
    obtain ⟨r, h1, e, r0, r1, w1, f1⟩ := pX (m := 26) w (by omega) (by decide) (by decide)
    obtain ⟨c, hc, ea⟩ := Ul (ds := ("abcdefghijklmnopqrstuvwxyz" : Str).cps.toList) r0 (by rw [← GB.str_len, abN]; exact r1)
    obtain ⟨ys, h2, e2, o2, l2, w2, f2⟩ := RX ds (acc ++ [.str ⟨#[c]⟩]) h1 (k + 1) w1 (by omega) (by simp only [List.length_append, List.length_cons, List.length_nil]; omega)
    have la : acc.length < 16777216 := by omega
    have l26 : ("abcdefghijklmnopqrstuvwxyz" : Str).length ≤ 16777216 := by rw [abN]; decide
    refine ⟨⟨#[c]⟩ :: ys, h2, ?_, ?_, by simp [l2], by rw [List.length_cons, show k + (ds.length + 1) = k + 1 + ds.length by omega]; exact w2, f1.trans f2⟩
    · unfold eY wlc
      (wp_walk using "ex", aP, e, ea, la, l26)
      rw [show (aG bf (aj 1) (bx 2 0 dX (ak (aj 0) (ak (eC (.int (26))) aA)) aA)) = wlc from rfl, e2, List.append_assoc]
      rfl
    · intro y hy
      rcases List.mem_cons.mp hy with rfl | hy
      · exact ⟨ako hc, rfl⟩
      · exact o2 y hy
theorem strs_map : ∀ ys : List Str, strsOf (ys.map D.str) = some ys
  | [] => rfl
  | y :: ys => by
    show (strsOf (ys.map D.str)).map (y :: ·) = _
    rw [strs_map ys]
    rfl
theorem DN (lo : Int) (n : Nat) : (oF lo n).length = n := by simp [oF]
theorem aiv {ys : List Str} (h : ∀ y ∈ ys, Lw y) : Lw (Txt.join "" ys) := fun c hc => by
  rw [GB.acG] at hc
  obtain ⟨l, hl, hc⟩ := List.mem_flatten.mp hc
  obtain ⟨y, hy, rfl⟩ := List.mem_map.mp hl
  exact h y hy c hc
theorem zU {n k : Nat} {h : AH} (w : Well n h k) (hk : k + 10 < 2 ^ 40) : ∃ z h', oJ [.ref n] h = .ok (.str z) h' ∧ Nm z ∧ Well n h' (k + 9) ∧ Fr n h h' := by
  obtain ⟨r, h1, e1, r0, r1, w1, f1⟩ := pX (m := 8) w (by omega) (by decide) (by decide)
  obtain ⟨ys, h', e, o, l, w', f⟩ := RX (n := n) (oF 0 (1 + r).toNat) [] h1 (k + 1) w1 (by rw [DN]; omega) (by rw [DN, List.length_nil]; omega)
  rw [DN] at l w'
  rw [List.nil_append] at e
  have hr : -(2 ^ 62) ≤ 1 + r ∧ 1 + r < 2 ^ 62 := ⟨by omega, by omega⟩
  have hs : (ys.map (·.length)).sum = ys.length := GB.W6 fun y hy => (o y hy).2
  have hj : (ys.map (·.length)).sum + ys.length * ("" : Str).length ≤ 16777216 := by
    rw [hs, show ("" : Str).length = 0 from rfl]
    omega
  have jl : (Txt.join "" ys).length = ys.length := by rw [GB.af0, hs]
  refine ⟨Txt.join "" ys, h', ?_, ⟨aiv fun y hy => (o y hy).1, by omega, by omega⟩, w'.mono (by omega), f1.trans f⟩
  unfold oJ
  unfold wlc at e
  (wp_walk using "ex", aP, e1, pZ, hr, e, isT, joinM, strs_map, hj)
theorem Fr.app {n : Nat} {g t h' : AH} (f : Fr n (g ++ t) h') (hn : n < g.length) : ∃ g', h' = g' ++ t ∧ Fr n g g' ∧ ∀ k, Well n h' k → Well n g' k := by
  obtain ⟨x, rfl⟩ := f
  refine ⟨g.set n x, List.set_append_left _ _ hn, ⟨x, rfl⟩, ?_⟩
  rintro k ⟨a, b, c, e, q⟩
  rw [List.set_append_left _ _ hn, List.getElem?_append_left (by rw [List.length_set]; exact hn)] at e
  exact ⟨a, b, c, e, q⟩
theorem Well.app {n k : Nat} {g : AH} (w : Well n g k) (t : AH) : Well n (g ++ t) k := by
  obtain ⟨a, b, c, e, q⟩ := w
  exact ⟨a, b, c, by rw [List.getElem?_append_left (List.getElem?_eq_some_iff.mp e).1, e], q⟩
theorem Fr.len {n : Nat} {g g' : AH} (f : Fr n g g') : g'.length = g.length := by
  obtain ⟨x, rfl⟩ := f
  rw [List.length_set]
end dJ
noncomputable section
namespace dJ
open PySem PySem.Spec PyProof.Rows L2 PD
theorem ga {h l : AH} {k : Nat} : (h ++ l)[h.length + k]? = l[k]? := by
  rw [List.getElem?_append_right (Nat.le_add_right _ _), Nat.add_sub_cancel_left]
theorem R4 {h l : AH} : (h ++ l)[h.length]? = l[0]? := ga (k := 0)
theorem sa {h l : AH} {k : Nat} {c : Cell} : (h ++ l).set (h.length + k) c = h ++ l.set k c := by
  rw [List.set_append_right _ _ (Nat.le_add_right _ _), Nat.add_sub_cancel_left]
theorem Hq {h l : AH} {c : Cell} : (h ++ l).set h.length c = h ++ l.set 0 c := sa (k := 0)
theorem mO {x : Str} {v : D} {r : List (Str × D)} : List.lookup x ((x, v) :: r) = some v := by
  simp [List.lookup]
theorem lF {s t : String} {v : D} {r : List (Str × D)} : List.lookup (PySem.Str.ofString s) ((PySem.Str.ofString t, v) :: r) = if s = t then some v else List.lookup (PySem.Str.ofString s) r := by
  by_cases e : s = t
  · subst e
    simp [List.lookup]
  · rw [if_neg e]
    have n : ¬ PySem.Str.ofString s = PySem.Str.ofString t := fun z => e (wj z)
    have n2 : (PySem.Str.ofString s == PySem.Str.ofString t) = false := by simpa using n
    simp [List.lookup, n2]
theorem j6 {s t : String} {v w : D} {r : List (Str × D)} : putD (PySem.Str.ofString s) v ((PySem.Str.ofString t, w) :: r) = if t = s then (PySem.Str.ofString t, v) :: r else (PySem.Str.ofString t, w) :: putD (PySem.Str.ofString s) v r := by
  by_cases e : t = s
  · subst e
    simp [putD]
  · rw [if_neg e]
    have n : ¬ PySem.Str.ofString t = PySem.Str.ofString s := fun z => e (wj z)
    simp [putD, n]
theorem j7 {f : Str} {v : D} : putD f v [] = [(f, v)] := rfl
theorem iW {s t : String} : (PySem.Str.ofString s = PySem.Str.ofString t) = (s = t) := by
  apply propext
  exact ⟨wj, fun z => by rw [z]⟩
theorem pk3 {a b c : D} : GB.picked [a, b, c] [0, 1, 2] = [a, b, c] := rfl
def lG (bg cl en : D) (ow sh : Bool) (sta ha la : D) : List (Str × D) := [("beginner", bg), ("called", cl), ("ending", en), ("owed", .bl ow), ("shut", .bl sh), ("state", sta), ("had", ha), ("lasts", la)]
theorem DP (h : AH) (bg cl : D) : lC "Seen" (fun ds => iV (GB.picked (ds ++ []) [0, 1, 2])) [bg, cl] h = .ok (.ref h.length) (h ++ [.ins "Seen" (lG bg cl .non false false (.tup [.str "on"]) (.ref (h.length + 1)) (.ref (h.length + 2))), .lst [], .lst []]) := by
  unfold lC iV lG
  (wp_walk using "ex", aP, pk3, cJ, jC, ad6, ad5, RL, ga, R4, sa, Hq, j7, j6, iW, List.append_assoc, List.length_append, List.mem_singleton, Nat.reduceLT)
theorem m7 {h : AH} {n : Nat} {c : Cell} (e : h[n]? = some c) : h.set n c = h := by
  obtain ⟨hn, rfl⟩ := List.getElem?_eq_some_iff.mp e
  exact List.set_getElem_self hn
def zf (kvs : List (Key × D)) : Prop := ∀ p ∈ kvs, ∃ (s : Str) (i : Int), p = (.inr s, .int i) ∧ Nm s ∧ 1 ≤ i ∧ i ≤ 5
theorem agJ {h : AH} {a b : Nat} (ha : h[a]? = some (.dict [])) (hb : h[b]? = some (.dict [])) : jf [.ref a, .ref b] h = .ok .non h := by
  have la := (List.getElem?_eq_some_iff.mp ha).1
  have lb := (List.getElem?_eq_some_iff.mp hb).1
  have sa1 : ∀ c, (h.set a c)[a]? = some c := fun c => by rw [List.getElem?_set_self la]
  have sb1 : ∀ c, (h.set b c)[b]? = some c := fun c => by rw [List.getElem?_set_self lb]
  unfold jf
  (wp_walk using "ex", aP, pP, ha, hb, itI, sa1, sb1, eY, allM, mD, items, dI, m7 ha, m7 hb, List.all_nil)
def gK (S T L O : Nat) (raw : Bool) (must : D) (many : Int) : List (Str × D) := [("sizes", .ref S), ("raw", .bl raw), ("tasks", .ref T), ("latest", .ref L), ("homes", .ref O), ("must", must), ("many", .int many)]
theorem ahL {a b c : D} : GB.picked [a, b, c] [0, 2, 1] = [a, c, b] := rfl
theorem abO {h : AH} {n : Nat} {kvs : List (Key × D)} (e : h[n]? = some (.dict kvs)) : tTru (.ref n) h = .ok (!kvs.isEmpty) h := by
  cases kvs <;> simp [tTru, truth, e]
end dJ
noncomputable section
namespace dJ
open PySem PySem.Spec PyProof.Rows L2 PD
theorem kt4 : kitB "tuple" "tuple" = some true := by decide +kernel
theorem kt5 : kitB "str" "str" = some true := by decide +kernel
theorem kt6 : kitB "int" "int" = some true := by decide +kernel
theorem kt7 : kitB "int" "bool" = some false := by decide +kernel
theorem vZ {ds : List D} {h : AH} : qj wZ [.tup ds, .ty "tuple"] h = some (.bl true, h) := by
  simp only [qj, TJ, BW, kt4, Option.map_some]
theorem sX {s : Str} {h : AH} : qj wZ [.str s, .ty "str"] h = some (.bl true, h) := by
  simp only [qj, TJ, BW, kt5, Option.map_some]
theorem akr {i : Int} {h : AH} : qj wZ [.int i, .ty "int"] h = some (.bl true, h) := by
  simp only [qj, TJ, BW, kt6, Option.map_some]
theorem aks {i : Int} {h : AH} : qj wZ [.int i, .ty "bool"] h = some (.bl false, h) := by
  simp only [qj, TJ, BW, kt7, Option.map_some]
theorem ac6 {g : MG} {f : ME} {own : List Nat} {e : En} {h : AH} {F : D → D} : ∀ (ds acc : List D), (∀ d ∈ ds, ∃ e1, g d (gJ e own) h = .ok e1 h ∧ f e1 h = .ok (F d) h) → acc.length + ds.length ≤ 16777216 → eY g g8 f own e acc ds h = .ok (acc ++ ds.map F) h
  | [], acc, _, _ => by simp only [eY, List.map_nil, List.append_nil]
  | d :: ds, acc, q, l => by
    obtain ⟨e1, a, b⟩ := q d List.mem_cons_self
    rw [List.length_cons] at l
    unfold eY
    rw [a]
    show (match f e1 h with | .ok x h3 => if acc.length < 16777216 then eY g g8 f own e (acc ++ [x]) ds h3 else .stuck | _ => .stuck) = _
    rw [b]
    show (if acc.length < 16777216 then eY g g8 f own e (acc ++ [F d]) ds h else .stuck) = _
    rw [if_pos (by omega), ac6 ds (acc ++ [F d]) (fun d hd => q d (List.mem_cons_of_mem _ hd)) (by simp only [List.length_append, List.length_cons, List.length_nil]; omega), List.map_cons, List.append_assoc]
    rfl
theorem yE {α : Type} (F : α → Bool) : ∀ l : List α, dI (l.map fun a => D.bl (F a)) = some (l.map F)
  | [] => rfl
  | a :: l => by
    show (dI (l.map fun a => D.bl (F a))).map (F a :: ·) = _
    rw [yE F l]
    rfl
def Num (i : Int) : Prop := 1 - 10 ^ 40 ≤ i ∧ i ≤ 10 ^ 40 - 1
theorem aiw {e0 : Option D} {h : AH} (cs : List Nat) (hc : ∀ c ∈ cs, c ∈ lets) (hl : cs.length ≤ 1000) :
    eY (PD.gName 1) g8 (aG Dg (aj 1) (eC (.str "abcdefghijklmnopqrstuvwxyz"))) [1] [e0, none] [] (cs.map fun c => .str ⟨#[c]⟩) h = .ok (cs.map fun _ => .bl true) h := by
  have := ac6 (g := PD.gName 1) (f := aG Dg (aj 1) (eC (.str "abcdefghijklmnopqrstuvwxyz"))) (own := [1]) (e := [e0, none]) (h := h) (F := fun _ => .bl true) (cs.map fun c => .str ⟨#[c]⟩) [] (by
    intro d hd
    obtain ⟨c, hcs, rfl⟩ := List.mem_map.mp hd
    refine ⟨[e0, some (.str ⟨#[c]⟩)], rfl, ?_⟩
    have q : decide (c ∈ ("abcdefghijklmnopqrstuvwxyz" : Str).cps.toList) = true := decide_eq_true (hc c hcs)
    (wp_walk using "ex", aP, q)) (by simp; omega)
  rw [this, List.nil_append, List.map_map]
  rfl
theorem Bv {s : Str} (n : Nm s) (h : AH) : nO [.str s] h = .ok (.bl true) h := by
  obtain ⟨lw, l1, l2⟩ := n
  have s16 : s.length ≤ 16777216 := by omega
  have i1 : (1 : Int) ≤ (s.length : Nat) := by omega
  have i2 : ((s.length : Nat) : Int) ≤ 8 := by omega
  have hl := aiw (e0 := some (.str s)) (h := h) s.cps.toList lw (by rw [← GB.str_len]; omega)
  have hb := yE (fun _ : Nat => true) s.cps.toList
  have ha : (s.cps.toList.map fun _ => true).all id = true := by simp
  unfold nO
  (wp_walk using "ex", aP, sX, s16, i1, i2, hl, allM, mD, hb, ha)
theorem Hr {i a b : Int} (h1 : a ≤ i) (h2 : i ≤ b) (h : AH) : pQ [.int i, .int a, .int b] h = .ok (.bl true) h := by
  unfold pQ
  (wp_walk using "ex", aP, akr, aks, h1, h2)
theorem abP {i : Int} (n : Num i) (h : AH) : oR [.int i] h = .ok (.bl true) h := by
  have p : (0 : Int) ≤ 40 ∧ (40 : Int) ≤ 1000000 ∧ (10 : Int).natAbs < 2 ^ 64 := by decide
  have q : (10 : Int) ^ (40 : Int).toNat = 10 ^ 40 := rfl
  unfold oR
  (wp_walk using "ex", aP, p, q, pk3, Hr n.1 n.2)
def Sm (i : Int) : Prop := 0 ≤ i ∧ i < 1000
theorem Sm.num {i : Int} (h : Sm i) : Num i := by
  obtain ⟨a, b⟩ := h
  have p : (1000 : Int) ≤ 10 ^ 40 := by decide
  exact ⟨by omega, by omega⟩
theorem acE {i : Int} (n : Sm i) (h : AH) : vY [.int i] h = .ok (.bl true) h := by
  unfold vY
  (wp_walk using "ex", aP, abP n.num, ge_iff_le, n.1)
theorem DQ {i : Int} (n : Sm i) (h : AH) : nQ [.str "task", .int i] h = .ok (.bl true) h := by
  unfold nQ
  (wp_walk using "ex", aP, acE n)
theorem vp {s : Str} (n : Nm s) (h : AH) : nQ [.str "name", .str s] h = .ok (.bl true) h := by
  unfold nQ
  (wp_walk using "ex", aP, Bv n)
theorem vq {s t : String} {h : AH} : cM (.tup [.str (PySem.Str.ofString s)]) (.tup [.str (PySem.Str.ofString t)]) h = some (.bl (decide (s = t)), h) := by
  show (iD h _ _).map _ = _
  have e : iD h (.tup [.str (PySem.Str.ofString s)]) (.tup [.str (PySem.Str.ofString t)]) = some (decide (s = t)) := by
    have sh : ∀ s : String, SeqAt.shaped (.tuple [.str (PySem.Str.ofString s)]) = true := fun s => by
      unfold SeqAt.shaped PyData.canLay0 PyData.depth PyData.canLayAll0 PyData.canLay0 PyData.canLayAll0
      rw [GB.jy (GB.dU s)]
      rfl
    show (if SeqAt.shaped (.tuple [.str (PySem.Str.ofString s)]) = true ∧ SeqAt.shaped (.tuple [.str (PySem.Str.ofString t)]) = true then some (PyData.eqv (.tuple [.str (PySem.Str.ofString s)]) (.tuple [.str (PySem.Str.ofString t)])) else none) = _
    rw [if_pos ⟨sh s, sh t⟩]
    have e2 : PyData.eqv (.tuple [.str (PySem.Str.ofString s)]) (.tuple [.str (PySem.Str.ofString t)]) = ((PySem.Str.ofString s == PySem.Str.ofString t) && true) := rfl
    rw [e2, wu, Bool.and_true]
  rw [e]
  rfl
theorem aft {s t : String} {h : AH} : cY (.tup [.str (PySem.Str.ofString s)]) (.tup [.str (PySem.Str.ofString t)]) h = some (.bl (!decide (s = t)), h) := by
  have e := vq (s := s) (t := t) (h := h)
  unfold cM at e
  unfold cY
  cases z : iD h (.tup [.str (PySem.Str.ofString s)]) (.tup [.str (PySem.Str.ofString t)]) with
  | none => rw [z] at e; cases e
  | some b =>
    rw [z] at e
    simp only [Option.map_some, Option.some.injEq, Prod.mk.injEq, D.bl.injEq, and_true] at e ⊢
    rw [e]
theorem R5 {k : Bool} (h : AH) : mZ [.tup [.str (if k then "killed" else "done")]] h = .ok (.bl true) h := by
  unfold mZ
  cases k <;> (wp_walk using "ex", aP, vq)
end dJ
noncomputable section
namespace dJ
open PySem PySem.Spec PyProof.Rows L2 PD
inductive Ot where
  | done | killed | failed (s : Str)
def Ot.enc : Ot → D
  | .done => .tup [.str "done"]
  | .killed => .tup [.str "killed"]
  | .failed s => .tup [.str "failed", .str s]
inductive Rw where
  | got (n : Nat) (s : Str) | given (n : Nat) (s : Str) | failed (n : Nat) (s : Str) | rescued (n : Nat) (s : Str) | masked (n : Nat) | opened (n : Nat) | ended (n : Nat) (o : Ot)
def Rw.enc : Rw → D
  | .got n s => .tup [.str "got", .int (n : Int), .str s]
  | .given n s => .tup [.str "given", .int (n : Int), .str s]
  | .failed n s => .tup [.str "failed", .int (n : Int), .str s]
  | .rescued n s => .tup [.str "rescued", .int (n : Int), .str s]
  | .masked n => .tup [.str "masked", .int (n : Int)]
  | .opened n => .tup [.str "opened", .int (n : Int)]
  | .ended n o => .tup [.str "ended", .int (n : Int), o.enc]
def Rw.num : Rw → Nat
  | .got n _ | .given n _ | .failed n _ | .rescued n _ | .masked n | .opened n | .ended n _ => n
def Ot.ok : Ot → Prop
  | .failed s => Nm s
  | _ => True
def Rw.ok : Rw → Prop
  | .got _ s | .given _ s | .failed _ s | .rescued _ s => Nm s
  | .ended _ o => o.ok
  | _ => True
theorem ahM {n : Nat} (h : n < 1000) : Sm (n : Int) := ⟨by omega, by omega⟩
theorem aef : ∀ c ∈ lets, c < 0x110000 := by decide +kernel
theorem lH {s : Str} (n : Nm s) : GB.vK s := fun c hc => aef c (n.1 c hc)
theorem rG {p : PyData} (c : p.canLay0 = true) (l : p.depth ≤ 64) : SeqAt.shaped p = true := by
  unfold SeqAt.shaped
  rw [c, Bool.true_and]
  exact decide_eq_true l
theorem qL {d e : D} {h : AH} {p q : PyData} (hd : eU h 80 d = some p) (he : eU h 80 e = some q) (c1 : p.canLay0 = true) (c2 : q.canLay0 = true) (l1 : p.depth ≤ 64) (l2 : q.depth ≤ 64) : cM d e h = some (.bl (PyData.eqv p q), h) ∧ cY d e h = some (.bl (!PyData.eqv p q), h) := by
  have e1 : iD h d e = some (PyData.eqv p q) := by
    unfold iD
    rw [hd, he]
    show (if SeqAt.shaped p = true ∧ SeqAt.shaped q = true then some (PyData.eqv p q) else none) = _
    rw [if_pos ⟨rG c1 l1, rG c2 l2⟩]
  constructor
  · show (iD h d e).map _ = _
    rw [e1]
    rfl
  · show (iD h d e).map _ = _
    rw [e1]
    rfl
theorem sOk {s : Str} (n : GB.vK s) : (PyData.str s).canLay0 = true := by
  simp only [PyData.canLay0, GB.jy n]
theorem aeg {s t : Str} (n : GB.vK s) (m : GB.vK t) : (PyData.tuple [.str s, .str t]).canLay0 = true := by
  simp only [PyData.canLay0, PyData.canLayAll0, GB.jy n, GB.jy m, Bool.and_self]
theorem Um {s : Str} (n : GB.vK s) : (PyData.tuple [.str s]).canLay0 = true := by
  simp only [PyData.canLay0, PyData.canLayAll0, GB.jy n, Bool.and_self]
theorem abR {a b : String} {s : Str} (n : GB.vK s) {h : AH} : cM (.tup [.str (PySem.Str.ofString a), .str s]) (.tup [.str (PySem.Str.ofString b)]) h = some (.bl false, h) := by
  have e := (qL (h := h) (d := .tup [.str (PySem.Str.ofString a), .str s]) (e := .tup [.str (PySem.Str.ofString b)]) rfl rfl (aeg (GB.dU a) n) (Um (GB.dU b)) (by simp [PyData.depth, PyData.depthAll]) (by simp [PyData.depth, PyData.depthAll])).1
  rw [e]
  have : PyData.eqv (.tuple [.str (PySem.Str.ofString a), .str s]) (.tuple [.str (PySem.Str.ofString b)]) = ((PySem.Str.ofString a == PySem.Str.ofString b) && false) := rfl
  rw [this, Bool.and_false]
theorem akt {a b : String} {s : Str} (n : GB.vK s) {h : AH} : cY (.tup [.str (PySem.Str.ofString a), .str s]) (.tup [.str (PySem.Str.ofString b)]) h = some (.bl true, h) := by
  have e := (qL (h := h) (d := .tup [.str (PySem.Str.ofString a), .str s]) (e := .tup [.str (PySem.Str.ofString b)]) rfl rfl (aeg (GB.dU a) n) (Um (GB.dU b)) (by simp [PyData.depth, PyData.depthAll]) (by simp [PyData.depth, PyData.depthAll])).2
  rw [e]
  have : PyData.eqv (.tuple [.str (PySem.Str.ofString a), .str s]) (.tuple [.str (PySem.Str.ofString b)]) = ((PySem.Str.ofString a == PySem.Str.ofString b) && false) := rfl
  rw [this, Bool.and_false]
  rfl
theorem al9 : jL "got" = some (some (.tup [.str "task", .str "name"])) := rfl
theorem aix : jL "given" = some (some (.tup [.str "task", .str "name"])) := rfl
theorem agK : jL "failed" = some (some (.tup [.str "task", .str "name"])) := rfl
theorem afu : jL "rescued" = some (some (.tup [.str "task", .str "name"])) := rfl
theorem agL : jL "masked" = some (some (.tup [.str "task"])) := rfl
theorem agM : jL "opened" = some (some (.tup [.str "task"])) := rfl
theorem aiy : jL "begun" = some (some (.tup [.str "task", .str "task", .str "name", .str "task"])) := rfl
theorem aiz : jL "ended" = some (some (.tup [.str "task", .str "outcome"])) := rfl
theorem afv {a : String} {h : AH} : cM (.tup [.str (PySem.Str.ofString a)]) (.tup []) h = some (.bl false, h) := by
  show (iD h _ _).map _ = _
  have e : iD h (.tup [.str (PySem.Str.ofString a)]) (.tup []) = some false := by
    have s1 : SeqAt.shaped (.tuple [.str (PySem.Str.ofString a)]) = true := by
      unfold SeqAt.shaped
      simp only [PyData.canLay0, PyData.canLayAll0, PyData.depth, PyData.depthAll, GB.jy (GB.dU a), Bool.and_true, Bool.true_and]
      rfl
    have s0 : SeqAt.shaped (.tuple []) = true := rfl
    show (if SeqAt.shaped (.tuple [.str (PySem.Str.ofString a)]) = true ∧ SeqAt.shaped (.tuple []) = true then some (PyData.eqv (.tuple [.str (PySem.Str.ofString a)]) (.tuple [])) else none) = _
    rw [if_pos ⟨s1, s0⟩]
    rfl
  rw [e]
  rfl
theorem DR {a b : String} {h : AH} : cM (.tup [.str (PySem.Str.ofString a), .str (PySem.Str.ofString b)]) (.tup []) h = some (.bl false, h) := by
  show (iD h _ _).map _ = _
  have e : iD h (.tup [.str (PySem.Str.ofString a), .str (PySem.Str.ofString b)]) (.tup []) = some false := by
    have s1 : SeqAt.shaped (.tuple [.str (PySem.Str.ofString a), .str (PySem.Str.ofString b)]) = true := by
      unfold SeqAt.shaped
      simp only [PyData.canLay0, PyData.canLayAll0, PyData.depth, PyData.depthAll, GB.jy (GB.dU a), GB.jy (GB.dU b), Bool.and_true, Bool.true_and]
      rfl
    have s0 : SeqAt.shaped (.tuple []) = true := rfl
    show (if SeqAt.shaped (.tuple [.str (PySem.Str.ofString a), .str (PySem.Str.ofString b)]) = true ∧ SeqAt.shaped (.tuple []) = true then some (PyData.eqv (.tuple [.str (PySem.Str.ofString a), .str (PySem.Str.ofString b)]) (.tuple [])) else none) = _
    rw [if_pos ⟨s1, s0⟩]
    rfl
  rw [e]
  rfl
theorem aku {a b c d : String} {h : AH} : cM (.tup [.str (PySem.Str.ofString a), .str (PySem.Str.ofString b), .str (PySem.Str.ofString c), .str (PySem.Str.ofString d)]) (.tup []) h = some (.bl false, h) := by
  show (iD h _ _).map _ = _
  have e : iD h (.tup [.str (PySem.Str.ofString a), .str (PySem.Str.ofString b), .str (PySem.Str.ofString c), .str (PySem.Str.ofString d)]) (.tup []) = some false := by
    have s1 : SeqAt.shaped (.tuple [.str (PySem.Str.ofString a), .str (PySem.Str.ofString b), .str (PySem.Str.ofString c), .str (PySem.Str.ofString d)]) = true := by
      unfold SeqAt.shaped
      simp only [PyData.canLay0, PyData.canLayAll0, PyData.depth, PyData.depthAll, GB.jy (GB.dU a), GB.jy (GB.dU b), GB.jy (GB.dU c), GB.jy (GB.dU d), Bool.and_true, Bool.true_and]
      rfl
    have s0 : SeqAt.shaped (.tuple []) = true := rfl
    show (if SeqAt.shaped (.tuple [.str (PySem.Str.ofString a), .str (PySem.Str.ofString b), .str (PySem.Str.ofString c), .str (PySem.Str.ofString d)]) = true ∧ SeqAt.shaped (.tuple []) = true then some (PyData.eqv (.tuple [.str (PySem.Str.ofString a), .str (PySem.Str.ofString b), .str (PySem.Str.ofString c), .str (PySem.Str.ofString d)]) (.tuple [])) else none) = _
    rw [if_pos ⟨s1, s0⟩]
    rfl
  rw [e]
  rfl
theorem c0 : ((0 : Nat) : Int) = 0 := rfl
theorem c1 : ((1 : Nat) : Int) = 1 := rfl
theorem c2 : ((2 : Nat) : Int) = 2 := rfl
theorem c3 : ((3 : Nat) : Int) = 3 := rfl
theorem c4 : ((4 : Nat) : Int) = 4 := rfl
theorem c5 : ((5 : Nat) : Int) = 5 := rfl
theorem zip2 {a b c d : D} {h : AH} : T8 [.tup [a, b], .tup [c, d]] h = .ok [.tup [a, c], .tup [b, d]] h := rfl
theorem akv {a c : D} {h : AH} : T8 [.tup [a], .tup [c]] h = .ok [.tup [a, c]] h := rfl
theorem R6 {a b c : D} {h : AH} : tH (.tup [a, b, c]) (some 1) none h = some (.tup [b, c], h) := rfl
theorem ahN {a b : D} {h : AH} : tH (.tup [a, b]) (some 1) none h = some (.tup [b], h) := rfl
theorem sm0 : Sm 0 := ⟨by decide, by decide⟩
theorem acF {o : Ot} (ok : o.ok) (h : AH) : mZ [o.enc] h = .ok (.bl true) h := by
  cases o with
  | done => exact R5 (k := false) h
  | killed => exact R5 (k := true) h
  | failed s =>
    have e1 := Bv ok h
    have e2 := fun b => abR (a := "failed") (b := b) (lH ok) (h := h)
    unfold mZ
    (wp_walk using "ex", aP, Ot.enc, e1, e2, vZ, c2)
theorem afw {o : Ot} (ok : o.ok) (h : AH) : nQ [.str "outcome", o.enc] h = .ok (.bl true) h := by
  unfold nQ
  (wp_walk using "ex", aP, acF ok)
theorem aiA (r : Rw) (ok : r.ok) (hn : r.num < 1000) (h : AH) : jd [r.enc] h = .ok (.bl true) h := by
  have p0 := DQ (ahM hn) h
  unfold jd
  cases r with
  | got n s =>
    have pb := vp ok h
    simp only [Rw.num] at p0
    (wp_walk using "ex", aP, Rw.enc, vZ, sX, uL, uK, eY, allM, mD, dI, List.all_cons, List.all_nil, id, Nat.reduceLT, c0, c1, c2, c3, Int.reduceEq, Int.reduceAdd, al9, p0, pb, DR, zip2, R6)
    rfl
  | given n s =>
    have pb := vp ok h
    simp only [Rw.num] at p0
    (wp_walk using "ex", aP, Rw.enc, vZ, sX, uL, uK, eY, allM, mD, dI, List.all_cons, List.all_nil, id, Nat.reduceLT, c0, c1, c2, c3, Int.reduceEq, Int.reduceAdd, aix, p0, pb, DR, zip2, R6)
    rfl
  | failed n s =>
    have pb := vp ok h
    simp only [Rw.num] at p0
    (wp_walk using "ex", aP, Rw.enc, vZ, sX, uL, uK, eY, allM, mD, dI, List.all_cons, List.all_nil, id, Nat.reduceLT, c0, c1, c2, c3, Int.reduceEq, Int.reduceAdd, agK, p0, pb, DR, zip2, R6)
    rfl
  | rescued n s =>
    have pb := vp ok h
    simp only [Rw.num] at p0
    (wp_walk using "ex", aP, Rw.enc, vZ, sX, uL, uK, eY, allM, mD, dI, List.all_cons, List.all_nil, id, Nat.reduceLT, c0, c1, c2, c3, Int.reduceEq, Int.reduceAdd, afu, p0, pb, DR, zip2, R6)
    rfl
  | masked n =>
    simp only [Rw.num] at p0
    (wp_walk using "ex", aP, Rw.enc, vZ, sX, uL, uK, eY, allM, mD, dI, List.all_cons, List.all_nil, id, Nat.reduceLT, c0, c1, c2, c3, Int.reduceEq, Int.reduceAdd, agL, p0, afv, akv, ahN)
    rfl
  | opened n =>
    simp only [Rw.num] at p0
    (wp_walk using "ex", aP, Rw.enc, vZ, sX, uL, uK, eY, allM, mD, dI, List.all_cons, List.all_nil, id, Nat.reduceLT, c0, c1, c2, c3, Int.reduceEq, Int.reduceAdd, agM, p0, afv, akv, ahN)
    rfl
  | ended n o =>
    have pb := afw ok h
    simp only [Rw.num] at p0
    (wp_walk using "ex", aP, Rw.enc, vZ, sX, uL, uK, eY, allM, mD, dI, List.all_cons, List.all_nil, id, Nat.reduceLT, c0, c1, c2, c3, Int.reduceEq, Int.reduceAdd, aiz, p0, pb, DR, zip2, R6)
    rfl
theorem ac7 (r : Rw) (h : AH) : je [r.enc] h = .ok (.int (r.num : Int)) h := by
  unfold je
  cases r <;> (wp_walk using "ex", aP, Rw.enc, Rw.num)
end dJ
noncomputable section
namespace dJ
open PySem PySem.Spec PyProof.Rows L2 PD
theorem aJ : PD.isNon .non = true := rfl
theorem aK {i : Int} : PD.isNon (.int i) = false := rfl
theorem aM {s : Str} : PD.isNon (.str s) = false := rfl
theorem aN {n : Nat} : PD.isNon (.ref n) = false := rfl
theorem aO {l : List D} : PD.isNon (.tup l) = false := rfl
inductive Go where
  | on | killed | failed (s : Str)
def BZ : Go → D
  | .on => .tup [.str "on"]
  | .killed => .tup [.str "killed"]
  | .failed s => .tup [.str "failed", .str s]
def Go.ok : Go → Prop
  | .failed s => Nm s
  | _ => True
structure Tk where
  a : Nat
  b : Nat
  c : Nat
  d : Nat
  e : Nat
  bg : Option Nat
  nm : Option Str
  fin : Option Ot
  due : Bool
  shut : Bool
  goes : Go
  had : List Str
  lasts : List (Go × Bool)
def vI : Option Ot → D
  | none => .non
  | some o => o.enc
def opS : Option Str → D
  | none => .non
  | some s => .str s
def opN : Option Nat → D
  | none => .non
  | some b => .int (b : Int)
def ama (q : Go × Bool) : D := .tup [BZ q.1, .bl q.2]
def eV (t : Tk) : Cell := .ins "Seen" (lG (opN t.bg) (opS t.nm) (vI t.fin) t.due t.shut (BZ t.goes) (.ref t.b) (.ref t.c))
def mj : Nat → List Tk → List (Key × D)
  | _, [] => []
  | i, t :: ts => (.inl (i : Int), .ref t.a) :: mj (i + 1) ts
def sY (ts : List Tk) : List (Key × D) := mj 0 ts
structure WA where
  B : Nat
  S : Nat
  T : Nat
  L : Nat
  O : Nat
structure Wm where
  raw : Bool
  sz : List (Key × D)
  ts : List Tk
  lt : List (Key × D)
  hm : List (Key × D)
  must : D
  many : Int
def wC (A : WA) (m : Wm) : Cell := .ins "Watch" (gK A.S A.T A.L A.O m.raw m.must m.many)
structure WS (A : WA) (ow : Nat → Nat × Nat) (h : AH) (m : Wm) : Prop where
  w : h[A.B]? = some (wC A m)
  z : h[A.S]? = some (.dict m.sz)
  t : h[A.T]? = some (.dict (sY m.ts))
  l : h[A.L]? = some (.dict m.lt)
  o : h[A.O]? = some (.dict m.hm)
  s : ∀ (k : Nat) (t : Tk), m.ts[k]? = some t → h[t.a]? = some (eV t)
  b : ∀ (k : Nat) (t : Tk), m.ts[k]? = some t → h[t.b]? = some (.lst (t.had.map D.str))
  c : ∀ (k : Nat) (t : Tk), m.ts[k]? = some t → h[t.c]? = some (.lst (t.lasts.map ama))
  oa : ow A.B = (0, 0) ∧ ow A.S = (1, 0) ∧ ow A.T = (2, 0) ∧ ow A.L = (3, 0) ∧ ow A.O = (4, 0)
  os : ∀ (k : Nat) (t : Tk), m.ts[k]? = some t → ow t.a = (5, k) ∧ ow t.b = (6, k) ∧ ow t.c = (7, k)
theorem bH {ow : Nat → Nat × Nat} {x y : Nat} {p q : Nat × Nat} (h1 : ow x = p) (h2 : ow y = q) (n : p ≠ q) : x ≠ y := fun e => n (by rw [← h1, ← h2, e])
theorem afx {k x : Key} {v : D} {r : List (Key × D)} : valD ((x, v) :: r) k = if x = k then some v else valD r k := by
  unfold valD
  rw [List.find?_cons]
  by_cases e : x = k <;> simp [e]
theorem Vg : ∀ (ts : List Tk) (i j : Nat), valD (mj i ts) (.inl (j : Int)) = if i ≤ j then (ts[j - i]?).map (fun t => D.ref t.a) else none
  | [], i, j => by simp [mj, valD]
  | t :: ts, i, j => by
    rw [mj, afx, Vg ts (i + 1) j]
    by_cases e : i = j
    · subst e
      rw [if_pos rfl, if_pos (Nat.le_refl _), Nat.sub_self]
      rfl
    · have n : ¬ (Sum.inl (i : Int) : Key) = Sum.inl (j : Int) := fun z => e (by have := Sum.inl.inj z; omega)
      rw [if_neg n]
      by_cases l : i ≤ j
      · rw [if_pos l, if_pos (by omega), show j - i = (j - (i + 1)) + 1 by omega]
        rfl
      · rw [if_neg l, if_neg (by omega)]
theorem R7 {ts : List Tk} {n : Nat} {t : Tk} (e : ts[n]? = some t) : valD (sY ts) (.inl (n : Int)) = some (.ref t.a) := by
  unfold sY
  rw [Vg, if_pos (Nat.zero_le _), Nat.sub_zero, e]
  rfl
theorem Vh : ∀ (ts : List Tk) (i : Nat), (mj i ts).map (·.2) = ts.map fun t => D.ref t.a
  | [], _ => rfl
  | t :: ts, i => by rw [mj, List.map_cons, List.map_cons, Vh ts (i + 1)]
theorem xV {ts : List Tk} : (sY ts).map (·.2) = ts.map fun t => D.ref t.a := Vh ts 0
theorem abS : ∀ (ts : List Tk) (i : Nat), (mj i ts).length = ts.length
  | [], _ => rfl
  | t :: ts, i => by rw [mj, List.length_cons, List.length_cons, abS ts (i + 1)]
theorem ac9 {ts : List Tk} : (sY ts).length = ts.length := abS ts 0
theorem abT : ∀ (ts : List Tk) (i n : Nat) (t u : Tk), ts[n]? = some t → u.a = t.a → mj i (ts.set n u) = mj i ts
  | [], _, _, _, _, e, _ => by simp at e
  | x :: ts, i, 0, t, u, e, z => by
    simp only [List.getElem?_cons_zero, Option.some.injEq] at e
    subst e
    rw [List.set_cons_zero, mj, mj, z]
  | x :: ts, i, n + 1, t, u, e, z => by
    simp only [List.getElem?_cons_succ] at e
    rw [List.set_cons_succ, mj, mj, abT ts (i + 1) n t u e z]
theorem aiB {ts : List Tk} {n : Nat} {t u : Tk} (e : ts[n]? = some t) (z : u.a = t.a) : sY (ts.set n u) = sY ts := abT ts 0 n t u e z
theorem abU : ∀ (ts : List Tk) (i : Nat) (t : Tk), mj i (ts ++ [t]) = mj i ts ++ [(.inl ((i + ts.length : Nat) : Int), .ref t.a)]
  | [], i, t => rfl
  | x :: ts, i, t => by
    rw [List.cons_append, mj, mj, abU ts (i + 1) t, List.cons_append, List.length_cons, show i + 1 + ts.length = i + (ts.length + 1) by omega]
theorem abV : ∀ (ts : List Tk) (i : Nat) (q : Key × D), q ∈ mj i ts → ∃ k : Nat, k < i + ts.length ∧ q.1 = .inl (k : Int)
  | [], _, q, h => by cases h
  | t :: ts, i, q, h => by
    rw [mj] at h
    rcases List.mem_cons.mp h with rfl | h
    · exact ⟨i, by simp, rfl⟩
    · obtain ⟨k, a, b⟩ := abV ts (i + 1) q h
      exact ⟨k, by rw [List.length_cons]; omega, b⟩
theorem aiC {ts : List Tk} {t : Tk} : dO (sY ts) (.inl (ts.length : Int)) (.ref t.a) = sY (ts ++ [t]) := by
  have : ((sY ts).any fun kv => decide (kv.1 = Sum.inl (ts.length : Int))) = false := by
    rw [List.any_eq_false]
    intro q hq
    obtain ⟨k, hk, e⟩ := abV ts 0 q hq
    rw [e]
    simp only [decide_eq_true_eq]
    intro z
    have : (k : Int) = (ts.length : Int) := Sum.inl.inj z
    omega
  unfold dO
  rw [this]
  simp only [Bool.false_eq_true, if_false]
  unfold sY
  rw [abU, Nat.zero_add]
theorem eX {h : AH} {n : Nat} {c : Cell} (e : h[n]? = some c) : n < h.length := (List.getElem?_eq_some_iff.mp e).1
theorem keepI {h : AH} {i j : Nat} {c : Cell} (hij : j ≠ i) : (h.set j c)[i]? = h[i]? := List.getElem?_set_ne hij
theorem v7 {h : AH} {n : Nat} {c d : Cell} (e : h[n]? = some c) : (h.set n d)[n]? = some d := List.getElem?_set_self (eX e)
theorem cW {h l : AH} {n : Nat} {c : Cell} (e : h[n]? = some c) : (h ++ l)[n]? = some c := by
  rw [List.getElem?_append_left (eX e)]; exact e
end dJ
noncomputable section
namespace dJ
open PySem PySem.Spec PyProof.Rows L2 PD
theorem lJ {cs : List Str} {f c : Str} {fs : List (Str × D)} {v : D} {n : Nat} {h : AH} (e : h[n]? = some (.ins c fs)) (hc : c ∈ cs) (hl : fs.lookup f = some v) : kh cs f (.ref n) h = .ok v h := by
  unfold kh clsOf
  simp only [e, hc, hl, if_true]
section
variable {A : WA} {m : Wm} {h : AH}
theorem agN (e : h[A.B]? = some (wC A m)) : kh uz "sizes" (.ref A.B) h = .ok (.ref A.S) h := lJ e (by simp) (by unfold gK; simp only [lF, mO, String.reduceEq, if_false])
theorem j8 (e : h[A.B]? = some (wC A m)) : kh bY "tasks" (.ref A.B) h = .ok (.ref A.T) h := lJ e (by simp) (by unfold gK; simp only [lF, mO, String.reduceEq, if_false])
theorem afy (e : h[A.B]? = some (wC A m)) : kh nJ "latest" (.ref A.B) h = .ok (.ref A.L) h := lJ e (by simp) (by unfold gK; simp only [lF, mO, String.reduceEq, if_false])
theorem abW (e : h[A.B]? = some (wC A m)) : kh pH "homes" (.ref A.B) h = .ok (.ref A.O) h := lJ e (by simp) (by unfold gK; simp only [lF, mO, String.reduceEq, if_false])
theorem abX (e : h[A.B]? = some (wC A m)) : kh qK "raw" (.ref A.B) h = .ok (.bl m.raw) h := lJ e (by simp) (by unfold gK; simp only [lF, mO, String.reduceEq, if_false])
theorem ada (e : h[A.B]? = some (wC A m)) : kh oO "must" (.ref A.B) h = .ok (m.must) h := lJ e (by simp) (by unfold gK; simp only [lF, mO, String.reduceEq, if_false])
theorem adb (e : h[A.B]? = some (wC A m)) : kh iG "many" (.ref A.B) h = .ok (.int m.many) h := lJ e (by simp) (by unfold gK; simp only [lF, mO, String.reduceEq, if_false])
variable {t : Tk} {n : Nat}
theorem Ht (e : h[n]? = some (eV t)) : kh fX "beginner" (.ref n) h = .ok (opN t.bg) h := lJ e (by simp) (by unfold lG; simp only [lF, mO, String.reduceEq, if_false])
theorem yF (e : h[n]? = some (eV t)) : kh fB "ending" (.ref n) h = .ok (vI t.fin) h := lJ e (by simp) (by unfold lG; simp only [lF, mO, String.reduceEq, if_false])
theorem aiD (e : h[n]? = some (eV t)) : kh oN "owed" (.ref n) h = .ok (.bl t.due) h := lJ e (by simp) (by unfold lG; simp only [lF, mO, String.reduceEq, if_false])
theorem Gq (e : h[n]? = some (eV t)) : kh jk "shut" (.ref n) h = .ok (.bl t.shut) h := lJ e (by simp) (by unfold lG; simp only [lF, mO, String.reduceEq, if_false])
theorem xW (e : h[n]? = some (eV t)) : kh dG "state" (.ref n) h = .ok (BZ t.goes) h := lJ e (by simp) (by unfold lG; simp only [lF, mO, String.reduceEq, if_false])
theorem R8 (e : h[n]? = some (eV t)) : kh jZ "had" (.ref n) h = .ok (.ref t.b) h := lJ e (by simp) (by unfold lG; simp only [lF, mO, String.reduceEq, if_false])
theorem abY (e : h[n]? = some (eV t)) : kh pG "lasts" (.ref n) h = .ok (.ref t.c) h := lJ e (by simp) (by unfold lG; simp only [lF, mO, String.reduceEq, if_false])
theorem tD {mn : Str} {cs : List Str} (e : h[A.B]? = some (wC A m)) (hc : ("Watch" : Str) ∈ cs) (hl : (gK A.S A.T A.L A.O m.raw m.must m.many).lookup mn = none) : Wy cs mn (.ref A.B) h := ⟨_, _, by simp only [clsOf, e, wC], hc, hl⟩
theorem gM {S T L O : Nat} {raw : Bool} {must : D} {many : Int} {mn : Str} (h1 : (["is_latest", "is_full", "reason", "take", "hold", "go_on", "see", "seen", "may_fail", "turn"] : List Str).contains mn = true) : (gK S T L O raw must many).lookup mn = none := by
  simp only [List.contains_cons, List.contains_nil, Bool.or_false, Bool.or_eq_true, beq_iff_eq] at h1
  rcases h1 with rfl | rfl | rfl | rfl | rfl | rfl | rfl | rfl | rfl | rfl <;> (unfold gK; simp only [lF, String.reduceEq, if_false]; rfl)
end
def jG : List (String × Bool) → D
  | [] => .non
  | (w, b) :: r => if b then .str w else jG r
def fsB : MS := (cD (eE (aj 2)) (bV (aj 1)) cG)
theorem ade {e0 : Option D} : ∀ (rows : List (String × Bool)) (x1 x2 : Option D) (h : AH), ∃ y1 y2 : Option D,
    forL (uJ (lB 2 (PD.gCons (PD.gName 1) (PD.gCons (PD.gName 2) PD.gNil)))) fsB (rows.map fun q => .tup [.str (PySem.Str.ofString q.1), .bl q.2]) [e0, x1, x2] h =
      (if rows.any (·.2) then .rt (jG rows) h else .nx [e0, y1, y2] h) ∧ (rows.any (·.2) = false → jG rows = .non)
  | [], x1, x2, h => ⟨x1, x2, rfl, fun _ => rfl⟩
  | (w, b) :: r, x1, x2, h => by
    obtain ⟨y1, y2, ih, ih2⟩ := ade (e0 := e0) r (some (.str w)) (some (.bl b)) h
    refine ⟨y1, y2, ?_, ?_⟩
    · rw [List.map_cons]
      unfold forL
      unfold fsB at ih ⊢
      cases b with
      | true => (wp_walk using "ew", aP, aJ, aK, aM, aN, aO, List.any_cons, jG)
      | false =>
        (wp_walk using "ew", aP, aJ, aK, aM, aN, aO, List.any_cons, jG)
        exact ih
    · cases b with
      | true => intro z; simp at z
      | false =>
        intro z
        rw [List.any_cons, Bool.false_or] at z
        exact ih2 z
theorem uV (rows : List (String × Bool)) (h : AH) : dR [.lst (rows.map fun q => .tup [.str (PySem.Str.ofString q.1), .bl q.2])] h = .ok (jG rows) h := by
  obtain ⟨y1, y2, e, e2⟩ := ade (e0 := some (.lst (rows.map fun q => .tup [.str (PySem.Str.ofString q.1), .bl q.2]))) rows none none h
  unfold fsB at e
  unfold dR
  cases z : rows.any (·.2) with
  | true =>
    rw [z] at e
    (wp_walk using "ew", aP, aJ, aK, aM, aN, aO, e)
  | false =>
    rw [z] at e
    (wp_walk using "ew", aP, aJ, aK, aM, aN, aO, e, e2 z)
theorem fs1 {a : String} {x : Bool} {h : AH} : dR [.lst [.tup [.str (PySem.Str.ofString a), .bl x]]] h = .ok (jG [(a, x)]) h := uV [(a, x)] h
theorem fs2 {a b : String} {x y : Bool} {h : AH} : dR [.lst [.tup [.str (PySem.Str.ofString a), .bl x], .tup [.str (PySem.Str.ofString b), .bl y]]] h = .ok (jG [(a, x), (b, y)]) h := uV [(a, x), (b, y)] h
theorem fs3 {a b c : String} {x y z : Bool} {h : AH} : dR [.lst [.tup [.str (PySem.Str.ofString a), .bl x], .tup [.str (PySem.Str.ofString b), .bl y], .tup [.str (PySem.Str.ofString c), .bl z]]] h = .ok (jG [(a, x), (b, y), (c, z)]) h := uV [(a, x), (b, y), (c, z)] h
theorem fs6 {a b c d e f : String} {x y z u v w : Bool} {h : AH} : dR [.lst [.tup [.str (PySem.Str.ofString a), .bl x], .tup [.str (PySem.Str.ofString b), .bl y], .tup [.str (PySem.Str.ofString c), .bl z], .tup [.str (PySem.Str.ofString d), .bl u], .tup [.str (PySem.Str.ofString e), .bl v], .tup [.str (PySem.Str.ofString f), .bl w]]] h =
    .ok (jG [(a, x), (b, y), (c, z), (d, u), (e, v), (f, w)]) h := uV [(a, x), (b, y), (c, z), (d, u), (e, v), (f, w)] h
def xX : Go → Str → Bool
  | .failed t, s => t == s
  | _, _ => false
theorem anB {s t : Str} : (PyData.tuple [.str s, .str t]).depth ≤ 64 := by simp [PyData.depth, PyData.depthAll]
theorem deps {s : Str} : (PyData.str s).depth ≤ 64 := by simp [PyData.depth]
def offB : Go → Bool
  | .on => false
  | _ => true
def Uo : Go → Bool
  | .killed => true
  | _ => false
theorem aeh {g : Go} (ok : g.ok) {h : AH} : cY (BZ g) (.tup [.str "on"]) h = some (.bl (offB g), h) := by
  cases g with
  | on => exact aft
  | killed => exact aft
  | failed s => exact akt (lH ok)
theorem akz {g : Go} (ok : g.ok) {h : AH} : cM (BZ g) (.tup [.str "on"]) h = some (.bl (!offB g), h) := by
  cases g with
  | on => exact vq
  | killed => exact vq
  | failed s => exact abR (lH ok)
theorem afz {g : Go} (ok : g.ok) {h : AH} : cM (BZ g) (.tup [.str "killed"]) h = some (.bl (Uo g), h) := by
  cases g with
  | on => exact vq
  | killed => exact vq
  | failed s => exact abR (lH ok)
theorem afA {g : Go} (ok : g.ok) (h : AH) : ∃ p, eU h 79 (BZ g) = some p ∧ p.canLay0 = true ∧ p.depth ≤ 60 ∧ ∀ s, PyData.eqv p (.tuple [.str "failed", .str s]) = xX g s := by
  cases g with
  | on => exact ⟨.tuple [.str "on"], rfl, Um (GB.dU "on"), by simp [PyData.depth, PyData.depthAll], fun s => by
      have : PyData.eqv (.tuple [.str (PySem.Str.ofString "on")]) (.tuple [.str (PySem.Str.ofString "failed"), .str s]) = ((PySem.Str.ofString "on" == PySem.Str.ofString "failed") && false) := rfl
      rw [this, Bool.and_false]
      rfl⟩
  | killed => exact ⟨.tuple [.str "killed"], rfl, Um (GB.dU "killed"), by simp [PyData.depth, PyData.depthAll], fun s => by
      have : PyData.eqv (.tuple [.str (PySem.Str.ofString "killed")]) (.tuple [.str (PySem.Str.ofString "failed"), .str s]) = ((PySem.Str.ofString "killed" == PySem.Str.ofString "failed") && false) := rfl
      rw [this, Bool.and_false]
      rfl⟩
  | failed t => exact ⟨.tuple [.str "failed", .str t], rfl, aeg (GB.dU "failed") (lH ok), by simp [PyData.depth, PyData.depthAll], fun s => by
      have : PyData.eqv (.tuple [.str (PySem.Str.ofString "failed"), .str t]) (.tuple [.str (PySem.Str.ofString "failed"), .str s]) = ((PySem.Str.ofString "failed" == PySem.Str.ofString "failed") && ((t == s) && true)) := rfl
      rw [this, Bool.and_true]
      simp [xX]⟩
theorem akA {d e : D} {h : AH} {p : PyData} {ds : List PyData} (hd : eU h 80 d = some p) (he : eU h 80 e = some (.list ds)) (s1 : SeqAt.shaped p = true) (s2 : SeqAt.shaped (.list ds) = true) : RM d e h = some (.bl (ds.any fun z => PyData.eqv z p), h) := by
  unfold RM
  rw [hd, he]
  show (if SeqAt.shaped p = true ∧ SeqAt.shaped (.list ds) = true then some (D.bl (ds.any fun z => PyData.eqv z p), h) else none) = _
  rw [if_pos ⟨s1, s2⟩]
theorem rH {f : Option Ot} : PD.isNon (vI f) = f.isNone := by
  cases f with
  | none => rfl
  | some o => cases o <;> rfl
theorem adf {b : Option Nat} {n : Nat} {h : AH} : cM (opN b) (.int (n : Int)) h = some (.bl (decide (b = some n)), h) := by
  cases b with
  | none =>
    rw [show opN none = .non from rfl, (qL (h := h) (d := .non) (e := .int n) rfl rfl rfl rfl (by simp [PyData.depth]) (by simp [PyData.depth])).1]
    rfl
  | some b =>
    rw [show opN (some b) = .int b from rfl, (qL (h := h) (d := .int b) (e := .int n) rfl rfl rfl rfl (by simp [PyData.depth]) (by simp [PyData.depth])).1]
    have : PyData.eqv (.int (b : Int)) (.int (n : Int)) = decide ((b : Int) = (n : Int)) := rfl
    rw [this]
    have e : decide ((b : Int) = (n : Int)) = decide (some b = some n) := by
      by_cases z : b = n
      · subst z; simp
      · have y : ¬ (b : Int) = (n : Int) := by omega
        simp [z, y]
    rw [e]
theorem tL {α : Type} {g : MG} {t : MT} {f : ME} {own : List Nat} {e : En} {h : AH} {G F : α → D} {T : α → Bool} : ∀ (l : List α) (acc : List D), (∀ a ∈ l, ∃ e1, g (G a) (gJ e own) h = .ok e1 h ∧ t e1 h = .ok (T a) h ∧ (T a = true → f e1 h = .ok (F a) h)) → acc.length + l.length ≤ 16777216 → eY g t f own e acc (l.map G) h = .ok (acc ++ (l.filter T).map F) h
  | [], acc, _, _ => by simp only [eY, List.map_nil, List.append_nil, List.filter_nil]
  | d :: ds, acc, q, l => by
    obtain ⟨e1, a, b, c⟩ := q d List.mem_cons_self
    rw [List.length_cons] at l
    rw [List.map_cons]
    unfold eY
    rw [a]
    cases z : T d with
    | false =>
      rw [z] at b
      show (match t e1 h with | .ok true h2 => (match f e1 h2 with | .ok x h3 => if acc.length < 16777216 then eY g t f own e (acc ++ [x]) (ds.map G) h3 else .stuck | _ => .stuck) | .ok false h2 => eY g t f own e acc (ds.map G) h2 | _ => .stuck) = _
      rw [b]
      show eY g t f own e acc (ds.map G) h = _
      rw [tL ds acc (fun d hd => q d (List.mem_cons_of_mem _ hd)) (by omega), List.filter_cons_of_neg (by rw [z]; exact Bool.false_ne_true)]
    | true =>
      rw [z] at b
      show (match t e1 h with | .ok true h2 => (match f e1 h2 with | .ok x h3 => if acc.length < 16777216 then eY g t f own e (acc ++ [x]) (ds.map G) h3 else .stuck | _ => .stuck) | .ok false h2 => eY g t f own e acc (ds.map G) h2 | _ => .stuck) = _
      rw [b]
      show (match f e1 h with | .ok x h3 => if acc.length < 16777216 then eY g t f own e (acc ++ [x]) (ds.map G) h3 else .stuck | _ => .stuck) = _
      rw [c z]
      show (if acc.length < 16777216 then eY g t f own e (acc ++ [F d]) (ds.map G) h else .stuck) = _
      rw [if_pos (by omega), tL ds (acc ++ [F d]) (fun d hd => q d (List.mem_cons_of_mem _ hd)) (by simp only [List.length_append, List.length_cons, List.length_nil]; omega), List.filter_cons_of_pos z, List.map_cons, List.append_assoc]
      rfl
theorem Jo {α : Type} {g : MG} {f : ME} {own : List Nat} {e : En} {h : AH} {G F : α → D} : ∀ (l : List α) (acc : List D), (∀ a ∈ l, ∃ e1, g (G a) (gJ e own) h = .ok e1 h ∧ f e1 h = .ok (F a) h) → acc.length + l.length ≤ 16777216 → eY g g8 f own e acc (l.map G) h = .ok (acc ++ l.map F) h := fun l acc q n => by
  have := tL (g := g) (t := g8) (f := f) (own := own) (e := e) (h := h) (G := G) (F := F) (T := fun _ => true) l acc (fun a ha => by
    obtain ⟨e1, x, y⟩ := q a ha
    exact ⟨e1, x, rfl, fun _ => y⟩) n
  rw [this, List.filter_eq_self.mpr (fun _ _ => rfl)]
end dJ
noncomputable section
namespace dJ
open PySem PySem.Spec PyProof.Rows L2 PD
theorem aiE {x y : Str} (h : x.cps.toList = y.cps.toList) : x = y := by
  cases x; cases y
  simp only [Str.mk.injEq]
  exact Array.toList_inj.mp h
theorem adg {k x : Str} : qm k x = decide (x = k) := by
  unfold qm
  by_cases e : x = k
  · subst e; simp
  · have : ¬ x.cps.toList = k.cps.toList := fun z => e (aiE z)
    rw [decide_eq_false e]
    simpa using fun z => this (by rw [z])
theorem adh {h : AH} {n : Nat} : ∀ xs : List Str, oH (eU h (n + 1)) (xs.map D.str) = some (xs.map PyData.str)
  | [] => rfl
  | x :: xs => by
    rw [List.map_cons, oH, adh xs]
    rfl
theorem wG : ∀ xs : List Str, (∀ x ∈ xs, Nm x) → PyData.canLayAll0 (xs.map PyData.str) = true
  | [], _ => by simp only [List.map_nil, PyData.canLayAll0]
  | x :: xs, h => by
    rw [List.map_cons]
    simp only [PyData.canLayAll0, sOk (lH (h x List.mem_cons_self)), wG xs (fun y hy => h y (List.mem_cons_of_mem _ hy)), Bool.and_self]
theorem abZ : ∀ xs : List Str, PyData.depthAll (xs.map PyData.str) ≤ 3
  | [] => by simp [PyData.depthAll]
  | x :: xs => by
    have := abZ xs
    rw [List.map_cons]
    simp only [PyData.depthAll, PyData.depth]
    omega
theorem yJ {xs : List Str} (hx : ∀ x ∈ xs, Nm x) : (PyData.list (xs.map PyData.str)).canLay0 = true ∧ (PyData.list (xs.map PyData.str)).depth ≤ 64 := by
  have := abZ xs
  refine ⟨by simp only [PyData.canLay0]; exact wG xs hx, by simp only [PyData.depth]; omega⟩
theorem Jh {s : Str} : ∀ xs : List Str, (xs.map PyData.str).any (fun z => PyData.eqv z (.str s)) = decide (s ∈ xs)
  | [] => by simp
  | x :: xs => by
    rw [List.map_cons, List.any_cons, Jh xs]
    have : PyData.eqv (.str x) (.str s) = (x == s) := rfl
    rw [this]
    by_cases e : x = s
    · subst e; simp
    · have e2 : ¬ s = x := fun z => e z.symm
      simp [e, e2]
section
variable {h : AH} {n : Nat} {xs : List Str} {s : Str}
theorem akB (e : h[n]? = some (.lst (xs.map D.str))) : eU h 80 (.ref n) = some (.list (xs.map PyData.str)) := by
  simp only [eU, e, adh, Option.map_some]
theorem adi (e : h[n]? = some (.lst (xs.map D.str))) (hx : ∀ x ∈ xs, Nm x) (hs : Nm s) : RM (.str s) (.ref n) h = some (.bl (decide (s ∈ xs)), h) ∧ abD (.str s) (.ref n) h = some (.bl (!decide (s ∈ xs)), h) := by
  have s1 : SeqAt.shaped (.str s) = true := rG (sOk (lH hs)) deps
  have s2 : SeqAt.shaped (.list (xs.map PyData.str)) = true := rG (yJ hx).1 (yJ hx).2
  have t : eU h 80 (.str s) = some (.str s) := rfl
  unfold RM abD
  rw [t, akB e]
  refine ⟨?_, ?_⟩
  · show (if SeqAt.shaped (.str s) = true ∧ SeqAt.shaped (.list (xs.map PyData.str)) = true then some (D.bl ((xs.map PyData.str).any fun z => PyData.eqv z (.str s)), h) else none) = _
    rw [if_pos ⟨s1, s2⟩, Jh]
  · show (if SeqAt.shaped (.str s) = true ∧ SeqAt.shaped (.list (xs.map PyData.str)) = true then some (D.bl (!(xs.map PyData.str).any fun z => PyData.eqv z (.str s)), h) else none) = _
    rw [if_pos ⟨s1, s2⟩, Jh]
end
def xY (xs : List Str) (s : Str) : Bool := decide (xs.getLast? = some s)
theorem agO {xs : List D} : PD.cutD xs (some (-1)) none = xs.drop (xs.length - 1) := by
  unfold PD.cutD HT.sIx
  have e1 : ((-1 : Int) + (xs.length : Int)).toNat = xs.length - 1 := by omega
  simp only [show ((-1 : Int) < 0) = True from by simp, if_true, e1]
  exact List.take_of_length_le (by rw [List.length_drop]; omega)
theorem afB {x s : Str} (hx : Nm x) (hs : Nm s) {h : AH} : cM (.lst [.str x]) (.lst [.str s]) h = some (.bl (x == s), h) ∧ cY (.lst [.str x]) (.lst [.str s]) h = some (.bl (!(x == s)), h) := by
  have c : ∀ y, Nm y → (PyData.list [.str y]).canLay0 = true := fun y hy => by simp only [PyData.canLay0, PyData.canLayAll0, GB.jy (lH hy), Bool.and_self]
  have d : ∀ y, (PyData.list [.str y]).depth ≤ 64 := fun y => by simp [PyData.depth, PyData.depthAll]
  have e := qL (h := h) (d := .lst [.str x]) (e := .lst [.str s]) rfl rfl (c x hx) (c s hs) (d x) (d s)
  have : PyData.eqv (.list [.str x]) (.list [.str s]) = ((x == s) && true) := rfl
  rw [this, Bool.and_true] at e
  exact e
theorem ab0 {xs : List Str} {s : Str} (hx : ∀ x ∈ xs, Nm x) (hs : Nm s) {h : AH} : neL cY (.lst (PD.cutD (xs.map D.str) (some (-1)) none)) (.lst [.str s]) h = some (.bl (!xY xs s), h) ∧ yu cM (.lst (PD.cutD (xs.map D.str) (some (-1)) none)) (.lst [.str s]) h = some (.bl (xY xs s), h) := by
  rw [agO]
  rcases List.eq_nil_or_concat xs with rfl | ⟨l, x, e⟩
  · exact ⟨rfl, rfl⟩
  · rw [List.concat_eq_append] at e
    subst e
    have ed : ((l ++ [x]).map D.str).drop (((l ++ [x]).map D.str).length - 1) = [.str x] := by
      rw [List.map_append, List.map_singleton, List.length_append, List.length_singleton, Nat.add_sub_cancel, List.drop_left]
    rw [ed]
    have nx : Nm x := hx x (by simp)
    have e := afB nx hs (h := h)
    have el : xY (l ++ [x]) s = (x == s) := by
      unfold xY
      rw [List.getLast?_concat]
      by_cases z : x = s
      · subst z; simp
      · simp [z]
    rw [el]
    exact ⟨e.2, e.1⟩
def qu : List Str → Str → List Str
  | [], _ => []
  | x :: xs, s => if s ∈ xs then x :: qu xs s else if x = s then xs else x :: xs
theorem Bw {s : Str} {post : List Str} (n : s ∉ post) : ∀ pre : List Str, qu (pre ++ s :: post) s = pre ++ post
  | [] => by
    rw [List.nil_append, qu, if_neg n, if_pos rfl, List.nil_append]
  | x :: pre => by
    rw [List.cons_append, qu, if_pos (by simp), Bw n pre, List.cons_append]
theorem Bx {s : Str} : ∀ {l : List Str}, s ∈ l → ∃ pre post, l = pre ++ s :: post ∧ s ∉ post
  | [], h => by cases h
  | x :: xs, h => by
    by_cases e : s ∈ xs
    · obtain ⟨pre, post, rfl, n⟩ := Bx e
      exact ⟨x :: pre, post, rfl, n⟩
    · rcases List.mem_cons.mp h with rfl | h
      · exact ⟨[], xs, rfl, e⟩
      · exact absurd h e
theorem ab1 {s y : Str} : ∀ {l : List Str}, y ∈ qu l s → y ∈ l
  | [], h => by cases h
  | x :: xs, h => by
    rw [qu] at h
    split at h
    · rcases List.mem_cons.mp h with rfl | h
      · exact List.mem_cons_self
      · exact List.mem_cons_of_mem _ (ab1 h)
    · split at h
      · exact List.mem_cons_of_mem _ h
      · exact h
theorem Ji {s : Str} : ∀ l : List Str, (qu l s).length ≤ l.length
  | [] => Nat.le_refl _
  | x :: xs => by
    have := Ji (s := s) xs
    rw [qu]
    split
    · rw [List.length_cons, List.length_cons]; omega
    · split
      · rw [List.length_cons]; omega
      · exact Nat.le_refl _
theorem agP {s : Str} {post pre : List Str} (n : s ∉ post) : (post.reverse ++ s :: pre).findIdx? (qm s) = some post.length := by
  rw [List.findIdx?_append]
  have e1 : List.findIdx? (qm s) post.reverse = none := by
    rw [List.findIdx?_eq_none_iff]
    intro x hx
    rw [adg]
    exact decide_eq_false fun z => n (by subst z; exact List.mem_reverse.mp hx)
  have e2 : qm s s = true := by rw [adg]; simp
  rw [e1, List.findIdx?_cons, e2]
  simp
section
variable {h : AH} {b : Nat} {xs : List Str} {s : Str}
theorem afC (e : h[b]? = some (.lst (xs.map D.str))) (hs : s ∈ xs) : Dq (.ref b) [] h = some (.non, h.set b (.lst (xs.map D.str).reverse)) ∧
    abB (.ref b) [.str s] (h.set b (.lst (xs.map D.str).reverse)) = some (.non, h.set b (.lst ((qu xs s).map D.str).reverse)) ∧
    Dq (.ref b) [] (h.set b (.lst ((qu xs s).map D.str).reverse)) = some (.non, h.set b (.lst ((qu xs s).map D.str))) := by
  obtain ⟨pre, post, rfl, n⟩ := Bx hs
  rw [Bw n]
  refine ⟨by simp only [Dq, e], ?_, by simp only [Dq, v7 e, List.set_set, List.reverse_reverse]⟩
  have er : ((pre ++ s :: post).map D.str).reverse = (post.reverse ++ s :: pre.reverse).map D.str := by simp
  have ee : ((post.reverse ++ s :: pre.reverse).map D.str).eraseIdx post.length = ((pre ++ post).map D.str).reverse := by
    rw [List.map_append, List.map_cons, List.eraseIdx_append_of_length_le (by simp)]
    simp
  rw [er]
  simp only [abB, v7 e, Dm, agP n, List.set_set, ee]
end
theorem afD {s : Str} {pre post : List Str} (n : s ∉ post) : ∃ l, (List.range (pre ++ s :: post).length).filter (fun k => decide ((pre ++ s :: post)[k]? = some s)) = l ++ [pre.length] := by
  have e : (pre ++ s :: post).length = pre.length + 1 + post.length := by simp; omega
  rw [e, List.range_add, List.filter_append, List.range_succ, List.filter_append]
  have e2 : List.filter (fun k => decide ((pre ++ s :: post)[k]? = some s)) ((List.range post.length).map (pre.length + 1 + ·)) = [] := by
    rw [List.filter_eq_nil_iff]
    intro a ha
    obtain ⟨i, hi, rfl⟩ := List.mem_map.mp ha
    have hi := List.mem_range.mp hi
    have : (pre ++ s :: post)[pre.length + 1 + i]? = post[i]? := by
      rw [List.getElem?_append_right (by omega), show pre.length + 1 + i - pre.length = i + 1 by omega, List.getElem?_cons_succ]
    rw [this]
    simp only [decide_eq_true_eq]
    intro z
    exact n (List.mem_of_getElem? z)
  rw [e2, List.append_nil]
  have e3 : (pre ++ s :: post)[pre.length]? = some s := by simp
  have e4 : List.filter (fun k => decide ((pre ++ s :: post)[k]? = some s)) [pre.length] = [pre.length] := by
    rw [List.filter_cons_of_pos (by rw [e3]; simp)]
    rfl
  rw [e4]
  exact ⟨_, rfl⟩
end dJ
noncomputable section
namespace dJ
open PySem PySem.Spec PyProof.Rows L2 PD
def Gu : Option Ot → Str → Bool
  | some (.failed t), s => t == s
  | _, _ => false
structure Tk.ok (t : Tk) : Prop where
  g : t.goes.ok
  f : ∀ o, t.fin = some o → o.ok
  h : ∀ x ∈ t.had, Nm x
  n : t.had.length ≤ 1000
structure Wm.ok (m : Wm) : Prop where
  t : ∀ t ∈ m.ts, t.ok
  n : m.ts.length ≤ 12
  z : zf m.sz
theorem zV {ts : List Tk} {t : Tk} (ht : t ∈ ts) : ∃ k : Nat, ts[k]? = some t := List.mem_iff_getElem?.mp ht
theorem fJ {ts : List Tk} {k : Nat} {t : Tk} (e : ts[k]? = some t) : t ∈ ts := List.mem_of_getElem? e
theorem akC {f : Option Ot} (ok : ∀ o, f = some o → o.ok) (h : AH) : ∃ p, eU h 79 (vI f) = some p ∧ p.canLay0 = true ∧ p.depth ≤ 60 ∧ ∀ s, PyData.eqv p (.tuple [.str "failed", .str s]) = Gu f s := by
  cases f with
  | none => exact ⟨.none, rfl, rfl, by simp [PyData.depth], fun s => rfl⟩
  | some o =>
    cases o with
    | done => exact ⟨.tuple [.str "done"], rfl, Um (GB.dU "done"), by simp [PyData.depth, PyData.depthAll], fun s => by
        have : PyData.eqv (.tuple [.str (PySem.Str.ofString "done")]) (.tuple [.str (PySem.Str.ofString "failed"), .str s]) = ((PySem.Str.ofString "done" == PySem.Str.ofString "failed") && false) := rfl
        rw [this, Bool.and_false]
        rfl⟩
    | killed => exact ⟨.tuple [.str "killed"], rfl, Um (GB.dU "killed"), by simp [PyData.depth, PyData.depthAll], fun s => by
        have : PyData.eqv (.tuple [.str (PySem.Str.ofString "killed")]) (.tuple [.str (PySem.Str.ofString "failed"), .str s]) = ((PySem.Str.ofString "killed" == PySem.Str.ofString "failed") && false) := rfl
        rw [this, Bool.and_false]
        rfl⟩
    | failed t =>
      obtain ⟨p, a, b, c, d⟩ := afA (g := .failed t) (ok _ rfl) h
      exact ⟨p, a, b, c, d⟩
theorem adk {g : Go} (ok : g.ok) (s : Str) (h : AH) : ∀ l : List Tk, (∀ u ∈ l, u.ok) → ∃ ps, oH (eU h 79) (l.map (fun u => vI u.fin) ++ [BZ g]) = some ps ∧ PyData.canLayAll0 ps = true ∧ PyData.depthAll ps ≤ 62 ∧ ps.any (fun z => PyData.eqv z (.tuple [.str "failed", .str s])) = (l.any (fun u => Gu u.fin s) || xX g s)
  | [], _ => by
    obtain ⟨p, e1, e2, e3, e4⟩ := afA ok h
    refine ⟨[p], ?_, ?_, ?_, ?_⟩
    · simp only [List.map_nil, List.nil_append, oH, e1, Option.bind_some, Option.map_some]
    · simp only [PyData.canLayAll0, e2, Bool.and_self]
    · simp only [PyData.depthAll]; omega
    · simp only [List.any_cons, List.any_nil, Bool.or_false, Bool.false_or, e4]
  | u :: l, hu => by
    obtain ⟨ps, e1, e2, e3, e4⟩ := adk ok s h l (fun x hx => hu x (List.mem_cons_of_mem _ hx))
    obtain ⟨p, f1, f2, f3, f4⟩ := akC (hu u List.mem_cons_self).f h
    refine ⟨p :: ps, ?_, ?_, ?_, ?_⟩
    · simp only [List.map_cons, List.cons_append, oH, e1, f1, Option.bind_some, Option.map_some]
    · simp only [PyData.canLayAll0, e2, f2, Bool.and_self]
    · simp only [PyData.depthAll]; omega
    · simp only [List.any_cons, e4, f4, Bool.or_assoc]
theorem aiF {g : Go} (ok : g.ok) {s : Str} (n : Nm s) {h : AH} (l : List Tk) (hl : ∀ u ∈ l, u.ok) : RM (.tup [.str "failed", .str s]) (.lst (l.map (fun u => vI u.fin) ++ [BZ g])) h = some (.bl (l.any (fun u => Gu u.fin s) || xX g s), h) := by
  obtain ⟨ps, e1, e2, e3, e4⟩ := adk ok s h l hl
  have el : eU h 80 (.lst (l.map (fun u => vI u.fin) ++ [BZ g])) = some (.list ps) := by
    show (oH (eU h 79) (l.map (fun u => vI u.fin) ++ [BZ g])).map PyData.list = _
    rw [e1]
    rfl
  have sl : SeqAt.shaped (.list ps) = true := rG (by simp only [PyData.canLay0]; exact e2) (by simp only [PyData.depth]; omega)
  rw [akA (h := h) (p := .tuple [.str "failed", .str s]) rfl el (rG (aeg (GB.dU "failed") (lH n)) anB) sl, e4]
def agQ (ts : List Tk) (s : Str) : Int := (ts.map fun t => ((t.had.countP (qm s) : Nat) : Int)).sum
def szN (kvs : List (Key × D)) (s : Str) : Int := match valD kvs (.inr s) with
  | some (.int i) => i
  | _ => 1
theorem afE {kvs : List (Key × D)} (q : zf kvs) (s : Str) : (valD kvs (.inr s)).getD (.int 1) = .int (szN kvs s) := by
  unfold szN
  cases e : valD kvs (.inr s) with
  | none => rfl
  | some v =>
    unfold valD at e
    obtain ⟨p, hp, rfl⟩ := Option.map_eq_some_iff.mp e
    obtain ⟨t, i, z, _⟩ := q p (List.mem_of_find?_eq_some hp)
    rw [z]
    rfl
theorem ints_map {α : Type} (F : α → Int) : ∀ l : List α, intsOf (l.map fun a => D.int (F a)) = some (l.map F)
  | [] => rfl
  | a :: l => by
    show (intsOf (l.map fun a => D.int (F a))).map (F a :: ·) = _
    rw [ints_map F l]
    rfl
section
variable {A : WA} {ow : Nat → Nat × Nat} {h : AH} {m : Wm}
def tE (A : WA) (m : Wm) (h : AH) : AH := h.set A.T (.gU (sY m.ts))
theorem WS.agR (w : WS A ow h m) : (tE A m h)[A.B]? = some (wC A m) := by
  unfold tE
  rw [keepI (bH w.oa.2.2.1 w.oa.1 (by simp))]
  exact w.w
theorem WS.agS (w : WS A ow h m) : (tE A m h)[A.T]? = some (.gU (sY m.ts)) := v7 w.t
theorem WS.agT (w : WS A ow h m) {k : Nat} {t : Tk} (e : m.ts[k]? = some t) : (tE A m h)[t.a]? = some (eV t) ∧ (tE A m h)[t.b]? = some (.lst (t.had.map D.str)) := by
  unfold tE
  rw [keepI (bH w.oa.2.2.1 (w.os k t e).1 (by simp)), keepI (bH w.oa.2.2.1 (w.os k t e).2.1 (by simp))]
  exact ⟨w.s k t e, w.b k t e⟩
theorem map_len {α : Type} {F : α → D} {l : List α} {n : Nat} (h : l.length ≤ n) : (l.map F).length ≤ n := by rw [List.length_map]; exact h
def uW (m : Wm) (s : Str) : Bool := decide (szN m.sz s ≤ agQ m.ts s)
theorem aei (w : WS A ow h m) (ok : m.ok) (s : Str) : gG [.ref A.B, .str s] h = .ok (.bl (uW m s)) h := by
  have e1 := j8 w.w
  have e2 := j8 w.agR
  have e3 := w.agS
  have e4 := m7 w.t
  have e5 := agN w.w
  have lc := Jo (g := PD.gName 3) (f := (jJ "list" Ds (bM jZ "had" (aj 3)) (ak (aj 1) aA))) (own := [3]) (e := [some (.ref A.B), some (.str s), none, none]) (h := tE A m h) (G := fun t : Tk => D.ref t.a) (F := fun t => .int ((t.had.countP (qm s) : Nat) : Int)) m.ts [] (fun t ht => by
    obtain ⟨k, e⟩ := zV ht
    have q := w.agT e
    have f1 := R8 q.1
    have it := pF q.2
    have qb := q.2
    refine ⟨[some (.ref A.B), some (.str s), none, some (.ref t.a)], ?_, ?_⟩
    · (wp_walk using "ew", aP, aJ, aK, aM, aN, aO)
    · (wp_walk using "ew", aP, aJ, aK, aM, aN, aO, bM, f1, jJ, it, Ds, qb, Dm)) (by have := ok.n; simp only [List.length_nil]; omega)
  have si := ints_map (fun t : Tk => ((t.had.countP (qm s) : Nat) : Int)) m.ts
  have gz := afE ok.z s
  have kk : keyOf (.str s) = some (.inr s) := rfl
  have iz := Bc w.z
  have wz := w.z
  unfold tE at *
  unfold gG uW agQ
  generalize (gName 3 : MG) = G3 at lc ⊢
  (wp_walk using "ew", aP, aJ, aK, aM, aN, aO, pP, bM, e1, w.t, RK, e2, e3, xV, lc, List.nil_append, e4, abo, mD, si, e5, jJ, iz, getM, wz, kk, gz, ge_iff_le)
def xZ (m : Wm) (n : Nat) (t : Tk) (s : Str) : Bool := !Uo t.goes && ((m.ts.filter fun u => decide (u.bg = some n)).any (fun u => Gu u.fin s) || xX t.goes s)
theorem Hu (w : WS A ow h m) (ok : m.ok) {n : Nat} {t : Tk} (hn : m.ts[n]? = some t) {s : Str} (ns : Nm s) : dN [.ref A.B, .int (n : Int), .str s] h = .ok (.bl (xZ m n t s)) h := by
  have tok := ok.t t (fJ hn)
  have e1 := j8 w.w
  have e2 := xW (w.s n t hn)
  have e3 := afz tok.g (h := h)
  have v0 := R7 hn
  have f1 := j8 w.agR
  have f2 := w.agS
  have e4 := m7 w.t
  have lc := fun st => tL (g := PD.gName 5) (t := (bZ (aG cM (bM fX "beginner" (aj 5)) (aj 1)))) (f := (bM fB "ending" (aj 5))) (own := [5]) (e := [some (.ref A.B), some (.int (n : Int)), some (.str s), some st, none, none]) (h := tE A m h) (G := fun t : Tk => D.ref t.a) (F := fun t => vI t.fin) (T := fun u => decide (u.bg = some n)) m.ts [] (fun t ht => by
    obtain ⟨k, e⟩ := zV ht
    have q := (w.agT e).1
    have f1 := Ht q
    have f2 := yF q
    have f3 := fun h => adf (b := t.bg) (n := n) (h := h)
    refine ⟨[some (.ref A.B), some (.int (n : Int)), some (.str s), some st, none, some (.ref t.a)], ?_, ?_, fun _ => ?_⟩
    · (wp_walk using "ew", aP, aJ, aK, aM, aN, aO)
    · (wp_walk using "ew", aP, aJ, aK, aM, aN, aO, bM, f1, f3)
    · (wp_walk using "ew", aP, aJ, aK, aM, aN, aO, bM, f2)) (by have := ok.n; simp only [List.length_nil]; omega)
  have lf := List.length_filter_le (fun u : Tk => decide (u.bg = some n)) m.ts
  have ad : ((m.ts.filter fun u => decide (u.bg = some n)).map fun t => vI t.fin).length ≤ 16777215 := map_len (by have := ok.n; omega)
  have ih := aiF tok.g ns (h := h) (m.ts.filter fun u => decide (u.bg = some n)) (fun u hu => ok.t u (List.mem_filter.mp hu).1)
  unfold tE at *
  unfold dN xZ
  generalize (gName 5 : MG) = G5 at lc ⊢
  cases hk : Uo t.goes <;> rw [hk] at e3 <;> (wp_walk using "ew", aP, aJ, aK, aM, aN, aO, bM, e1, w.t, v0, e2, e3, WT, RK, f1, f2, xV, lc, List.nil_append, e4, ad, ih, Bool.true_and, Bool.false_and)
end
end dJ
noncomputable section
namespace dJ
open PySem PySem.Spec PyProof.Rows L2 PD
theorem DW {n : Nat} {ds : List D} {h : AH} (e : h[n]? = some (.lst ds)) : neL cY (.ref n) (.lst []) h = some (.bl (!ds.isEmpty), h) := by
  have a : Dj h (.ref n) = some ds := by simp only [Dj, e]
  cases ds with
  | nil =>
    have t : eU h 80 (.ref n) = some (.list []) := by simp only [eU, e, oH, Option.map_some]
    have e2 := (qL (h := h) (d := .ref n) (e := .lst []) t rfl rfl rfl (by simp [PyData.depth, PyData.depthAll]) (by simp [PyData.depth, PyData.depthAll])).2
    unfold neL
    rw [a]
    show (if ([] : List D).length ≠ ([] : List D).length then _ else cY (.ref n) (.lst []) h) = _
    rw [if_neg (by simp), e2]
    rfl
  | cons d ds =>
    unfold neL
    rw [a]
    rfl
theorem Gv {α β : Type} {l : List α} {f : α → β} : (l.map f).isEmpty = l.isEmpty := List.isEmpty_map
def DY (m : Wm) (n : Nat) : Bool := m.ts.any fun u => decide (u.bg = some n) && u.fin.isNone
def qM (m : Wm) (n : Nat) (t : Tk) : Ot → Bool
  | .done => !offB t.goes
  | .killed => Uo t.goes
  | .failed s => xZ m n t s
section
variable {A : WA} {ow : Nat → Nat × Nat} {h : AH} {m : Wm} {n : Nat} {t : Tk}
theorem ab2 (w : WS A ow h m) (ok : m.ok) (hn : m.ts[n]? = some t) (d : D) : uP [.ref A.B, .ref t.a, d] h = .ok (jG [("unwinds", offB t.goes)]) h := by
  have e3 := xW (w.s n t hn)
  have e4 := aeh (ok.t t (fJ hn)).g (h := h)
  unfold uP
  (wp_walk using "ew", aP, aJ, aK, aM, aN, aO, bM, e3, e4, fs1)
theorem V6 (w : WS A ow h m) (hn : m.ts[n]? = some t) (d : D) : sV [.ref A.B, .ref t.a, d] h = .ok (jG [("held", t.shut)]) h := by
  have e4 := Gq (w.s n t hn)
  unfold sV
  (wp_walk using "ew", aP, aJ, aK, aM, aN, aO, bM, e4, fs1)
theorem V7 (w : WS A ow h m) (hn : m.ts[n]? = some t) (d : D) : sW [.ref A.B, .ref t.a, d] h = .ok (jG [("open", !t.shut), ("last", !t.lasts.isEmpty)]) h := by
  have e4 := Gq (w.s n t hn)
  have e5 := abY (w.s n t hn)
  have e6 := DW (w.c n t hn)
  rw [Gv] at e6
  unfold sW
  (wp_walk using "ew", aP, aJ, aK, aM, aN, aO, bM, e4, e5, e6, fs2)
theorem aej (w : WS A ow h m) (ok : m.ok) (hn : m.ts[n]? = some t) (s : Str) : yC [.ref A.B, .ref t.a, (Rw.got n s).enc] h = .ok (jG [("unwinds", offB t.goes), ("full", uW m s), ("held", t.shut && !m.raw)]) h := by
  have e1 := Gq (w.s n t hn)
  have e2 := abX w.w
  have e3 := xW (w.s n t hn)
  have e4 := aeh (ok.t t (fJ hn)).g (h := h)
  have e5 := aei w ok s
  have i1 := tD (cs := vW) (mn := "is_full") w.w (by simp) (gM (by decide +kernel))
  unfold yC
  generalize gG = P at e5 ⊢
  cases hs : t.shut <;> rw [hs] at e1 <;> (wp_walk using "ew", aP, aJ, aK, aM, aN, aO, Rw.enc, bM, e1, e2, e3, e4, fM, i1, e5, fs3, Bool.true_and, Bool.false_and)
def uG (m : Wm) (t : Tk) (s : Str) : Bool := if m.raw then decide (s ∈ t.had) else xY t.had s
theorem ab3 (w : WS A ow h m) (ok : m.ok) (hn : m.ts[n]? = some t) {s : Str} (ns : Nm s) : uR [.ref A.B, .ref t.a, (Rw.given n s).enc] h = .ok (jG [("had", !uG m t s)]) h := by
  have e2 := abX w.w
  have e3 := R8 (w.s n t hn)
  have hb := w.b n t hn
  have hx := (ok.t t (fJ hn)).h
  have e4 := (adi hb hx ns).2
  have e5 := (ab0 hx ns (h := h)).1
  have sl : tH (.ref t.b) (some (-1)) none h = some (.lst (PD.cutD (t.had.map D.str) (some (-1)) none), h) := by
    simp only [tH, hb]
  unfold uR uG
  cases hr : m.raw <;> rw [hr] at e2 <;> (wp_walk using "ew", aP, aJ, aK, aM, aN, aO, Rw.enc, bM, e2, e3, e4, sG, sl, e5, fs1)
theorem Uq (w : WS A ow h m) (ok : m.ok) (hn : m.ts[n]? = some t) {s : Str} (ns : Nm s) : qR [.ref A.B, .ref t.a, (Rw.rescued n s).enc] h = .ok (jG [("mark", !xZ m n t s)]) h := by
  have e5 := Hu w ok hn ns
  have i1 := tD (cs := lZ) (mn := "may_fail") w.w (by simp) (gM (by decide +kernel))
  unfold qR
  generalize dN = P at e5 ⊢
  (wp_walk using "ew", aP, aJ, aK, aM, aN, aO, Rw.enc, fM, i1, e5, fs1)
theorem agU (w : WS A ow h m) (ok : m.ok) {o : Ot} {x0 x1 x3 x4 x5 x6 : Option D} :
    eY (PD.gName 7) g8 (ju (aG cM (bM fX "beginner" (aj 7)) (aG bf (aj 2) (eC (.int (1))))) (aG zG (bM fB "ending" (aj 7)) (eC .non))) [7] [x0, x1, some (Rw.ended n o).enc, x3, x4, x5, x6, none] [] (m.ts.map fun t => D.ref t.a) (tE A m h) =
      .ok (m.ts.map fun u => .bl (decide (u.bg = some n) && u.fin.isNone)) (tE A m h) := by
  have e := Jo (g := PD.gName 7) (f := (ju (aG cM (bM fX "beginner" (aj 7)) (aG bf (aj 2) (eC (.int (1))))) (aG zG (bM fB "ending" (aj 7)) (eC .non)))) (own := [7]) (e := [x0, x1, some (Rw.ended n o).enc, x3, x4, x5, x6, none]) (h := tE A m h) (G := fun t : Tk => D.ref t.a) (F := fun u => .bl (decide (u.bg = some n) && u.fin.isNone)) m.ts [] (fun u hu => by
    obtain ⟨k, e⟩ := zV hu
    have q := (w.agT e).1
    have f1 := Ht q
    have f2 := yF q
    have f3 := fun h => adf (b := u.bg) (n := n) (h := h)
    refine ⟨[x0, x1, some (Rw.ended n o).enc, x3, x4, x5, x6, some (.ref u.a)], ?_, ?_⟩
    · (wp_walk using "ew", aP, aJ, aK, aM, aN, aO)
    · cases hb : decide (u.bg = some n) <;> simp only [hb] at f3 <;> (wp_walk using "ew", aP, aJ, aK, aM, aN, aO, Rw.enc, bM, f1, f2, f3, rH, Bool.false_and, Bool.true_and)) (by have := ok.n; simp only [List.length_nil]; omega)
  rw [e, List.nil_append]
theorem ab4 (w : WS A ow h m) (ok : m.ok) (hn : m.ts[n]? = some t) {o : Ot} (oo : o.ok) : uU [.ref A.B, .ref t.a, (Rw.ended n o).enc] h =
    .ok (jG [("held", t.shut), ("last", !t.lasts.isEmpty), ("outlives", DY m n), ("owed", t.due), ("keeps", !t.had.isEmpty && !m.raw), ("outcome", !qM m n t o)]) h := by
  have tok := ok.t t (fJ hn)
  have e1 := j8 w.w
  have e2 := j8 w.agR
  have e3 := w.agS
  have e4 := m7 w.t
  have lc := agU w ok (n := n) (o := o) (x0 := some (.ref A.B)) (x1 := some (.ref t.a)) (x3 := none) (x4 := none) (x5 := none) (x6 := none)
  have sn := w.s n t hn
  have f1 := Gq sn
  have f2 := abY sn
  have f3 := aiD sn
  have f4 := R8 sn
  have f5 := xW sn
  have r1 := DW (w.b n t hn)
  have r2 := DW (w.c n t hn)
  rw [Gv] at r1 r2
  have f6 := abX w.w
  have g1 := akz tok.g (h := h)
  have g2 := afz tok.g (h := h)
  have i1 := tD (cs := lZ) (mn := "may_fail") w.w (by simp) (gM (by decide +kernel))
  have bo : ∀ l : List Tk, dI (l.map fun u => D.bl (decide (u.bg = some n) && u.fin.isNone)) = some (l.map fun u => (decide (u.bg = some n) && u.fin.isNone)) := fun l => yE _ l
  have eo : (m.ts.map fun u => (decide (u.bg = some n) && u.fin.isNone)).any id = DY m n := by unfold DY; rw [List.any_map]; rfl
  have mf : ∀ s, Nm s → dN [.ref A.B, .int (n : Int), .str s] h = .ok (.bl (xZ m n t s)) h := fun s z => Hu w ok hn z
  unfold tE at *
  unfold uU
  generalize (gName 7 : MG) = G7 at lc ⊢
  generalize dN = P at mf ⊢
  cases o with
  | done =>
    simp only [Rw.enc, Ot.enc] at lc ⊢
    cases hh : t.had.isEmpty <;> rw [hh] at r1 <;> (wp_walk using "ew", aP, aJ, aK, aM, aN, aO, pP, bM, e1, w.t, RK, e2, e3, xV, lc, e4, anyM, mD, bo, eo, vq, f1, f2, f3, f4, f5, f6, r1, r2, g1, fs6, qM, Bool.true_and, Bool.false_and)
  | killed =>
    simp only [Rw.enc, Ot.enc] at lc ⊢
    cases hh : t.had.isEmpty <;> rw [hh] at r1 <;> (wp_walk using "ew", aP, aJ, aK, aM, aN, aO, pP, bM, e1, w.t, RK, e2, e3, xV, lc, e4, anyM, mD, bo, eo, vq, f1, f2, f3, f4, f5, f6, r1, r2, g2, fs6, qM, Bool.true_and, Bool.false_and)
  | failed s =>
    have mfs := mf s oo
    simp only [Rw.enc, Ot.enc] at lc ⊢
    cases hh : t.had.isEmpty <;> rw [hh] at r1 <;> (wp_walk using "ew", aP, aJ, aK, aM, aN, aO, pP, bM, e1, w.t, RK, e2, e3, xV, lc, e4, anyM, mD, bo, eo, fM, i1, mfs, f1, f2, f3, f4, f5, f6, r1, r2, fs6, qM, Bool.true_and, Bool.false_and)
end
end dJ
noncomputable section
namespace dJ
open PySem PySem.Spec PyProof.Rows L2 PD
theorem amb : iQ "got" = some (some (.glo "ask_got")) := rfl
theorem aiG : iQ "given" = some (some (.glo "ask_given")) := rfl
theorem agV : iQ "failed" = some (some (.glo "ask_doing")) := rfl
theorem afF : iQ "rescued" = some (some (.glo "ask_rescued")) := rfl
theorem agW : iQ "masked" = some (some (.glo "ask_masked")) := rfl
theorem agX : iQ "opened" = some (some (.glo "ask_opened")) := rfl
theorem aiH : iQ "begun" = some (some (.glo "ask_begun")) := rfl
theorem aiI : iQ "ended" = some (some (.glo "ask_ended")) := rfl
theorem amc {x : String} {m : List D → AH → Res D} {l : List (Str × (List D → AH → Res D))} : wW ((PySem.Str.ofString x, m) :: l) (PySem.Str.ofString x) = some m := by
  unfold wW
  simp
theorem yG {x y : String} {m : List D → AH → Res D} {l : List (Str × (List D → AH → Res D))} : wW ((PySem.Str.ofString y, m) :: l) (PySem.Str.ofString x) = if y = x then some m else wW l (PySem.Str.ofString x) := by
  by_cases e : y = x
  · subst e
    rw [if_pos rfl]
    exact amc
  · rw [if_neg e]
    have n : ¬ PySem.Str.ofString y = PySem.Str.ofString x := fun z => e (wj z)
    unfold wW
    simp [n]
def qC (m : Wm) (t : Tk) : Rw → D
  | .got n s => jG [("unwinds", offB t.goes), ("full", uW m s), ("held", t.shut && !m.raw)]
  | .given n s => jG [("had", !uG m t s)]
  | .failed n s => jG [("unwinds", offB t.goes)]
  | .rescued n s => jG [("mark", !xZ m n t s)]
  | .masked n => jG [("held", t.shut)]
  | .opened n => jG [("open", !t.shut), ("last", !t.lasts.isEmpty)]
  | .ended n o => jG [("held", t.shut), ("last", !t.lasts.isEmpty), ("outlives", DY m n), ("owed", t.due), ("keeps", !t.had.isEmpty && !m.raw), ("outcome", !qM m n t o)]
def aek (m : Wm) (t : Tk) (r : Rw) : D := if t.fin.isNone then qC m t r else .str "ended"
section
variable {A : WA} {ow : Nat → Nat × Nat} {h : AH} {m : Wm} {t : Tk}
theorem Vi (w : WS A ow h m) (ok : m.ok) (hm : m.must = .non) (r : Rw) (ro : r.ok) (hn : m.ts[r.num]? = some t) : dH [.ref A.B, r.enc] h = .ok (aek m t r) h := by
  have ln : r.num < m.ts.length := (List.getElem?_eq_some_iff.mp hn).1
  have lr := aiA r ro (by have := ok.n; omega) h
  have e0 := ada w.w
  rw [hm] at e0
  have dr := ac7 r h
  have e1 := j8 w.w
  have v0 := R7 hn
  have e6 := yF (w.s _ t hn)
  unfold dH
  generalize jd = P1 at lr ⊢
  generalize je = P2 at dr ⊢
  unfold aek
  cases r with
  | got n s =>
    simp only [Rw.num] at hn dr v0
    have ea := aej w ok hn s
    simp only [Rw.enc, qC] at lr dr ea ⊢
    cases hf : t.fin.isNone <;> (wp_walk using "ew", aP, aJ, aK, aM, aN, aO, lr, bM, e0, dr, eY, e1, w.t, v0, allM, mD, dI, List.all_cons, List.all_nil, id, Nat.reduceLT, Bool.and_self, e6, rH, hf, yQ, yP, amb, pD, yG, ea)
  | given n s =>
    simp only [Rw.num] at hn dr v0
    have ea := ab3 w ok hn ro
    simp only [Rw.enc, qC] at lr dr ea ⊢
    cases hf : t.fin.isNone <;> (wp_walk using "ew", aP, aJ, aK, aM, aN, aO, lr, bM, e0, dr, eY, e1, w.t, v0, allM, mD, dI, List.all_cons, List.all_nil, id, Nat.reduceLT, Bool.and_self, e6, rH, hf, yQ, yP, aiG, pD, yG, ea)
  | failed n s =>
    simp only [Rw.num] at hn dr v0
    have ea := ab2 w ok hn (Rw.failed n s).enc
    simp only [Rw.enc, qC] at lr dr ea ⊢
    cases hf : t.fin.isNone <;> (wp_walk using "ew", aP, aJ, aK, aM, aN, aO, lr, bM, e0, dr, eY, e1, w.t, v0, allM, mD, dI, List.all_cons, List.all_nil, id, Nat.reduceLT, Bool.and_self, e6, rH, hf, yQ, yP, agV, pD, yG, ea)
  | rescued n s =>
    simp only [Rw.num] at hn dr v0
    have ea := Uq w ok hn ro
    simp only [Rw.enc, qC] at lr dr ea ⊢
    cases hf : t.fin.isNone <;> (wp_walk using "ew", aP, aJ, aK, aM, aN, aO, lr, bM, e0, dr, eY, e1, w.t, v0, allM, mD, dI, List.all_cons, List.all_nil, id, Nat.reduceLT, Bool.and_self, e6, rH, hf, yQ, yP, afF, pD, yG, ea)
  | masked n =>
    simp only [Rw.num] at hn dr v0
    have ea := V6 w hn (Rw.masked n).enc
    simp only [Rw.enc, qC] at lr dr ea ⊢
    cases hf : t.fin.isNone <;> (wp_walk using "ew", aP, aJ, aK, aM, aN, aO, lr, bM, e0, dr, eY, e1, w.t, v0, allM, mD, dI, List.all_cons, List.all_nil, id, Nat.reduceLT, Bool.and_self, e6, rH, hf, yQ, yP, agW, pD, yG, ea)
  | opened n =>
    simp only [Rw.num] at hn dr v0
    have ea := V7 w hn (Rw.opened n).enc
    simp only [Rw.enc, qC] at lr dr ea ⊢
    cases hf : t.fin.isNone <;> (wp_walk using "ew", aP, aJ, aK, aM, aN, aO, lr, bM, e0, dr, eY, e1, w.t, v0, allM, mD, dI, List.all_cons, List.all_nil, id, Nat.reduceLT, Bool.and_self, e6, rH, hf, yQ, yP, agX, pD, yG, ea)
  | ended n o =>
    simp only [Rw.num] at hn dr v0
    have ea := ab4 w ok hn ro
    simp only [Rw.enc, qC] at lr dr ea ⊢
    cases hf : t.fin.isNone <;> (wp_walk using "ew", aP, aJ, aK, aM, aN, aO, lr, bM, e0, dr, eY, e1, w.t, v0, allM, mD, dI, List.all_cons, List.all_nil, id, Nat.reduceLT, Bool.and_self, e6, rH, hf, yQ, yP, aiI, pD, yG, ea)
end
def yH (n : Nat) (s : Str) : D := .tup [.str "begun", .int (n : Int), .int 0, .str s, .int 0]
theorem WY {a b c d e : D} : atI [a, b, c, d, e] 0 = some a := rfl
theorem ahO {a b c d e : D} : atI [a, b, c, d, e] 1 = some b := rfl
theorem ael {a b c d e : D} : atI [a, b, c, d, e] 2 = some c := rfl
theorem amd {a b c d e : D} : atI [a, b, c, d, e] 3 = some d := rfl
theorem ahP {a b c d e : D} : atI [a, b, c, d, e] 4 = some e := rfl
theorem anC {a b c d a' b' c' d' : D} {h : AH} : T8 [.tup [a, b, c, d], .tup [a', b', c', d']] h = .ok [.tup [a, a'], .tup [b, b'], .tup [c, c'], .tup [d, d']] h := rfl
theorem ame {a b c d e : D} {h : AH} : tH (.tup [a, b, c, d, e]) (some 1) none h = some (.tup [b, c, d, e], h) := rfl
theorem afG {n : Nat} {s : Str} (hn : n < 1000) (hs : Nm s) (h : AH) : jd [yH n s] h = .ok (.bl true) h := by
  have p1 := DQ (ahM hn) h
  have p2 := DQ sm0 h
  have p3 := vp hs h
  unfold jd yH
  (wp_walk using "ew", aP, aJ, aK, aM, aN, aO, vZ, sX, uL, uK, eY, allM, mD, dI, List.all_cons, List.all_nil, id, Nat.reduceLT, c0, c1, c2, c3, c4, c5, Int.reduceEq, Int.reduceAdd, WY, aiy, p1, p2, p3, aku, anC, ame)
  rfl
theorem R9 {n : Nat} {s : Str} (h : AH) : je [yH n s] h = .ok (.int 0) h := by
  unfold je yH
  (wp_walk using "ew", aP, aJ, aK, aM, aN, aO, WY, ael)
section
variable {A : WA} {ow : Nat → Nat × Nat} {h : AH} {m : Wm} {t : Tk}
def ab5 (m : Wm) : Prop := m.hm = [] ∨ m.hm = [(.inl 0, .int 0)]
theorem ab6 (w : WS A ow h m) (ok : m.ok) (h0 : m.ts[0]? = some t) (h12 : m.ts.length < 12) (hh : ab5 m) (hg : t.goes = .on) {s : Str} : uQ [.ref A.B, .ref t.a, yH m.ts.length s] h = .ok .non h := by
  have e1 := j8 w.w
  have e2 := abW w.w
  have e3 := xW (w.s 0 t h0)
  have e4 := aeh (ok.t t (fJ h0)).g (h := h)
  rw [hg] at e3 e4
  have d1 : decide ((12 : Int) ≤ (m.ts.length : Int)) = false := decide_eq_false (by omega)
  have v1 : valD ([] : List (Key × D)) (.inl 0) = none := rfl
  have v2 : valD [(.inl 0, .int 0)] (.inl 0) = some (.int 0) := rfl
  have wo := w.o
  have io := Bc wo
  unfold uQ yH
  rcases hh with hh | hh <;> rw [hh] at wo <;> (wp_walk using "ew", aP, aJ, aK, aM, aN, aO, bM, e1, e2, e3, e4, offB, w.t, ac9, ahO, ael, ahP, jJ, getM, wo, v1, v2, ge_iff_le, d1, fs3, io, Int.reduceEq)
  all_goals rfl
theorem ab7 (w : WS A ow h m) (ok : m.ok) (hm : m.must = .non) (h0 : m.ts[0]? = some t) (h12 : m.ts.length < 12) (hh : ab5 m) (hg : t.goes = .on) (hf : t.fin = none) {s : Str} (hs : Nm s) : dH [.ref A.B, yH m.ts.length s] h = .ok .non h := by
  have lr := afG (n := m.ts.length) (by omega) hs h
  have dr := R9 (n := m.ts.length) (s := s) h
  have ea := ab6 w ok h0 h12 hh hg (s := s)
  have e0 := ada w.w
  rw [hm] at e0
  have e1 := j8 w.w
  have e6 := yF (w.s 0 t h0)
  rw [hf] at e6
  have v0 : valD (sY m.ts) (.inl 0) = some (.ref t.a) := R7 h0
  have fn : vI none = .non := rfl
  unfold dH
  generalize jd = P1 at lr ⊢
  generalize je = P2 at dr ⊢
  unfold yH at lr dr ea ⊢
  (wp_walk using "ew", aP, aJ, aK, aM, aN, aO, lr, bM, e0, dr, eY, e1, w.t, v0, allM, mD, dI, List.all_cons, List.all_nil, id, Nat.reduceLT, Bool.and_self, WY, e6, fn, yQ, yP, aiH, pD, yG, ea)
end
end dJ
noncomputable section
namespace dJ
open PySem PySem.Spec PyProof.Rows L2 PD
def cH (t : Tk) : Rw → Tk
  | .got _ s => { t with had := t.had ++ [s] }
  | .given _ s => { t with had := qu t.had s }
  | .failed _ s => { t with goes := .failed s }
  | .rescued _ _ => { t with goes := .on }
  | .masked _ => { t with shut := true }
  | .opened _ => { t with shut := false }
  | .ended _ o => { t with fin := some o }
def setT (m : Wm) (n : Nat) (u : Tk) : Wm := { m with ts := m.ts.set n u }
def vJ (h : AH) (t u : Tk) : AH := (h.set t.a (eV u)).set t.b (.lst (u.had.map D.str))
section
variable {A : WA} {ow : Nat → Nat × Nat} {h : AH} {m : Wm} {n : Nat} {t u : Tk}
theorem WS.put (w : WS A ow h m) (hn : m.ts[n]? = some t) (ea : u.a = t.a) (eb : u.b = t.b) (ec : u.c = t.c) (el : u.lasts = t.lasts) : WS A ow (vJ h t u) (setT m n u) := by
  obtain ⟨oa, ob, oc⟩ := w.os n t hn
  obtain ⟨o0, o1, o2, o3, o4⟩ := w.oa
  have sl : n < m.ts.length := (List.getElem?_eq_some_iff.mp hn).1
  have la := eX (w.s n t hn)
  have lb := eX (w.b n t hn)
  unfold vJ setT
  refine ⟨?_, ?_, ?_, ?_, ?_, fun k v e => ?_, fun k v e => ?_, fun k v e => ?_, ⟨o0, o1, o2, o3, o4⟩, fun k v e => ?_⟩
  · rw [keepI (bH ob o0 (by simp)), keepI (bH oa o0 (by simp))]; exact w.w
  · rw [keepI (bH ob o1 (by simp)), keepI (bH oa o1 (by simp))]; exact w.z
  · rw [keepI (bH ob o2 (by simp)), keepI (bH oa o2 (by simp))]
    show _ = some (Cell.dict (sY (m.ts.set n u)))
    rw [aiB hn ea]; exact w.t
  · rw [keepI (bH ob o3 (by simp)), keepI (bH oa o3 (by simp))]; exact w.l
  · rw [keepI (bH ob o4 (by simp)), keepI (bH oa o4 (by simp))]; exact w.o
  · by_cases z : n = k
    · subst z
      rw [List.getElem?_set_self sl] at e
      cases e
      rw [ea, keepI (bH ob oa (by simp)), List.getElem?_set_self la]
    · rw [List.getElem?_set_ne z] at e
      rw [keepI (bH ob (w.os k v e).1 (by simp)), keepI (bH oa (w.os k v e).1 (by simp [z]))]
      exact w.s k v e
  · by_cases z : n = k
    · subst z
      rw [List.getElem?_set_self sl] at e
      cases e
      rw [eb, List.getElem?_set_self (by rw [List.length_set]; exact lb)]
    · rw [List.getElem?_set_ne z] at e
      rw [keepI (bH ob (w.os k v e).2.1 (by simp [z])), keepI (bH oa (w.os k v e).2.1 (by simp))]
      exact w.b k v e
  · by_cases z : n = k
    · subst z
      rw [List.getElem?_set_self sl] at e
      cases e
      rw [ec, el, keepI (bH ob oc (by simp)), keepI (bH oa oc (by simp))]
      exact w.c n t hn
    · rw [List.getElem?_set_ne z] at e
      rw [keepI (bH ob (w.os k v e).2.2 (by simp)), keepI (bH oa (w.os k v e).2.2 (by simp))]
      exact w.c k v e
  · by_cases z : n = k
    · subst z
      rw [List.getElem?_set_self sl] at e
      cases e
      rw [ea, eb, ec]
      exact ⟨oa, ob, oc⟩
    · rw [List.getElem?_set_ne z] at e
      exact w.os k v e
theorem WS.cnt (w : WS A ow h m) (k : Int) : WS A ow (h.set A.B (wC A { m with many := k })) { m with many := k } := by
  obtain ⟨o0, o1, o2, o3, o4⟩ := w.oa
  refine ⟨v7 w.w, ?_, ?_, ?_, ?_, fun k v e => ?_, fun k v e => ?_, fun k v e => ?_, ⟨o0, o1, o2, o3, o4⟩, w.os⟩
  · rw [keepI (bH o0 o1 (by simp))]; exact w.z
  · rw [keepI (bH o0 o2 (by simp))]; exact w.t
  · rw [keepI (bH o0 o3 (by simp))]; exact w.l
  · rw [keepI (bH o0 o4 (by simp))]; exact w.o
  · rw [keepI (bH o0 (w.os k v e).1 (by simp))]; exact w.s k v e
  · rw [keepI (bH o0 (w.os k v e).2.1 (by simp))]; exact w.b k v e
  · rw [keepI (bH o0 (w.os k v e).2.2 (by simp))]; exact w.c k v e
theorem vA {x y : Nat} {p : Nat × Nat} (hx : 8 ≤ (ow x).1) (h : ow y = p) (hp : p.1 < 8) : x ≠ y := fun e => by
  subst e
  rw [h] at hx
  omega
theorem WS.away (w : WS A ow h m) {x : Nat} {c : Cell} (hx : 8 ≤ (ow x).1) : WS A ow (h.set x c) m := by
  obtain ⟨o0, o1, o2, o3, o4⟩ := w.oa
  refine ⟨?_, ?_, ?_, ?_, ?_, fun k v e => ?_, fun k v e => ?_, fun k v e => ?_, ⟨o0, o1, o2, o3, o4⟩, w.os⟩
  · rw [keepI (vA hx o0 (by decide))]; exact w.w
  · rw [keepI (vA hx o1 (by decide))]; exact w.z
  · rw [keepI (vA hx o2 (by decide))]; exact w.t
  · rw [keepI (vA hx o3 (by decide))]; exact w.l
  · rw [keepI (vA hx o4 (by decide))]; exact w.o
  · rw [keepI (vA hx (w.os k v e).1 (by decide : 5 < 8))]; exact w.s k v e
  · rw [keepI (vA hx (w.os k v e).2.1 (by decide : 6 < 8))]; exact w.b k v e
  · rw [keepI (vA hx (w.os k v e).2.2 (by decide : 7 < 8))]; exact w.c k v e
theorem WS.app (w : WS A ow h m) (l : AH) : WS A ow (h ++ l) m :=
  ⟨cW w.w, cW w.z, cW w.t, cW w.l, cW w.o, fun k v e => cW (w.s k v e), fun k v e => cW (w.b k v e), fun k v e => cW (w.c k v e), w.oa, w.os⟩
theorem WS.own (w : WS A ow h m) {eZ : Nat → Nat × Nat} (e : ∀ x, x < h.length → eZ x = ow x) : WS A eZ h m := by
  obtain ⟨o0, o1, o2, o3, o4⟩ := w.oa
  refine ⟨w.w, w.z, w.t, w.l, w.o, w.s, w.b, w.c, ⟨?_, ?_, ?_, ?_, ?_⟩, fun k v q => ?_⟩
  · rw [e _ (eX w.w)]; exact o0
  · rw [e _ (eX w.z)]; exact o1
  · rw [e _ (eX w.t)]; exact o2
  · rw [e _ (eX w.l)]; exact o3
  · rw [e _ (eX w.o)]; exact o4
  · rw [e _ (eX (w.s k v q)), e _ (eX (w.b k v q)), e _ (eX (w.c k v q))]
    exact w.os k v q
def Ur (ow : Nat → Nat × Nat) (n : Nat) (p : Nat × Nat) : Nat → Nat × Nat := fun x => if x = n then p else ow x
theorem afH {p : Nat × Nat} : Ur ow n p n = p := if_pos rfl
theorem adl {x : Nat} {p : Nat × Nat} (e : x ≠ n) : Ur ow n p x = ow x := if_neg e
theorem akE (w : WS A ow h m) : h.set A.B (wC A m) = h := m7 w.w
theorem w_lit (w : WS A ow h m) : h[A.B]? = some (.ins "Watch" [("sizes", .ref A.S), ("raw", .bl m.raw), ("tasks", .ref A.T), ("latest", .ref A.L), ("homes", .ref A.O), ("must", m.must), ("many", .int m.many)]) := w.w
theorem ahQ (w : WS A ow h m) (hn : m.ts[n]? = some t) : h[t.a]? = some (.ins "Seen" [("beginner", opN t.bg), ("called", opS t.nm), ("ending", vI t.fin), ("owed", .bl t.due), ("shut", .bl t.shut), ("state", BZ t.goes), ("had", .ref t.b), ("lasts", .ref t.c)]) := w.s n t hn
theorem agY {x : D} {b : Nat} {xs : List Str} {s : Str} (e : h[b]? = some (.lst (xs.map D.str))) (l : xs.length ≤ 1000) : fU [x, .ref b, (Rw.got n s).enc] h = .ok .non (h.set b (.lst ((xs ++ [s]).map D.str))) := by
  have it := pF e
  have l2 : (xs.map D.str).length < 16777216 := by rw [List.length_map]; omega
  have ap : sJ (.ref b) [.str s] h = some (.non, h.set b (.lst ((xs ++ [s]).map D.str))) := by
    simp only [sJ, e, l2, if_true, List.map_append, List.map_cons, List.map_nil]
  unfold fU
  (wp_walk using "ew", aP, aJ, aK, aM, aN, aO, Rw.enc, jJ, it, ap)
theorem aem {x : D} {b : Nat} {xs : List Str} {s : Str} (e : h[b]? = some (.lst (xs.map D.str))) (hs : s ∈ xs) : fU [x, .ref b, (Rw.given n s).enc] h = .ok .non (h.set b (.lst ((qu xs s).map D.str))) := by
  obtain ⟨q1, q2, q3⟩ := afC e hs
  have i1 := pF e
  have i2 := pF (v7 (d := .lst (xs.map D.str).reverse) e)
  have i3 := pF (v7 (d := .lst ((qu xs s).map D.str).reverse) e)
  unfold fU
  (wp_walk using "ew", aP, aJ, aK, aM, aN, aO, Rw.enc, jJ, TQ, i1, i2, i3, q1, q2, q3)
def goR : Rw → Prop
  | .failed _ _ | .rescued _ _ | .ended _ _ => True
  | _ => False
theorem go_eq (w : WS A ow h m) (r : Rw) (hr : goR r) (hn : m.ts[n]? = some t) : fY [.ref A.B, .ref t.a, r.enc] h = .ok .non (h.set t.a (eV (cH t r))) := by
  have sl := ahQ w hn
  have ss : ∀ c, (h.set t.a c)[t.a]? = some c := fun c => v7 sl
  unfold fY eV
  cases r with
  | failed n s =>
    (wp_walk using "ew", aP, aJ, aK, aM, aN, aO, Rw.enc, cH, cJ, jC, sl, j7, j6, iW, List.mem_singleton, Nat.reduceLT, ss, lG)
    rfl
  | rescued n s =>
    (wp_walk using "ew", aP, aJ, aK, aM, aN, aO, Rw.enc, cH, cJ, jC, sl, j7, j6, iW, List.mem_singleton, Nat.reduceLT, ss, lG)
    rfl
  | ended n o =>
    (wp_walk using "ew", aP, aJ, aK, aM, aN, aO, Rw.enc, cH, cJ, jC, sl, j7, j6, iW, List.mem_singleton, Nat.reduceLT, ss, lG)
    rfl
  | _ => exact hr.elim
theorem akF (w : WS A ow h m) (hn : m.ts[n]? = some t) (e : u.had = t.had) : vJ h t u = h.set t.a (eV u) := by
  unfold vJ
  rw [e]
  refine m7 ?_
  rw [keepI (bH (w.os n t hn).1 (w.os n t hn).2.1 (by simp))]
  exact w.b n t hn
theorem akG (w : WS A ow h m) (hn : m.ts[n]? = some t) (e : eV u = eV t) : vJ h t u = h.set t.b (.lst (u.had.map D.str)) := by
  unfold vJ
  rw [e, m7 (w.s n t hn)]
theorem take_eq (w : WS A ow h m) (ok : m.ok) (hm : m.must = .non) (r : Rw) (hn : m.ts[r.num]? = some t) (hg : ∀ n s, r = .given n s → s ∈ t.had) : fQ [.ref A.B, r.enc] h = .ok .non (vJ h t (cH t r)) := by
  have dr := ac7 r h
  have e1 := j8 w.w
  have wi := akE w
  have ig := tD (cs := Bm) (mn := "go_on") w.w (by simp) (gM (by decide +kernel))
  have ih := tD (cs := Gn) (mn := "hold") w.w (by simp) (gM (by decide +kernel))
  have wl := w_lit w
  have sl := ahQ w hn
  have v0 := R7 hn
  have tok := ok.t t (fJ hn)
  have fh := R8 (w.s _ t hn)
  have ps := akF (u := cH t r) w hn
  have ph := akG (u := cH t r) w hn
  have hb := w.b _ t hn
  unfold wC gK at wi
  rw [hm] at wl wi
  unfold fQ
  generalize je = P1 at dr ⊢
  cases r with
  | got n s =>
    have gg := agY (n := n) (x := .ref A.B) (s := s) hb tok.n
    rw [ph rfl]
    simp only [Rw.num] at hn v0 dr
    simp only [Rw.enc, cH] at dr gg ⊢
    generalize fU = P2 at gg ⊢
    (wp_walk using "ew", aP, aJ, aK, aM, aN, aO, cJ, jC, wl, wi, dr, e1, w.t, v0, j7, j6, iW, List.mem_singleton, Nat.reduceLT, bM, fh, fM, ih, gg)
  | given n s =>
    have gg := aem (n := n) (x := .ref A.B) (s := s) hb (hg n s rfl)
    rw [ph rfl]
    simp only [Rw.num] at hn v0 dr
    simp only [Rw.enc, cH] at dr gg ⊢
    generalize fU = P2 at gg ⊢
    (wp_walk using "ew", aP, aJ, aK, aM, aN, aO, cJ, jC, wl, wi, dr, e1, w.t, v0, j7, j6, iW, List.mem_singleton, Nat.reduceLT, bM, fh, fM, ih, gg)
  | failed n s =>
    have gg := go_eq w (.failed n s) trivial hn
    rw [ps rfl]
    simp only [Rw.num] at hn v0 dr
    simp only [Rw.enc, cH] at dr gg ⊢
    generalize fY = P2 at gg ⊢
    (wp_walk using "ew", aP, aJ, aK, aM, aN, aO, cJ, jC, wl, wi, dr, e1, w.t, v0, j7, j6, iW, List.mem_singleton, Nat.reduceLT, bM, fM, ig, gg)
  | rescued n s =>
    have gg := go_eq w (.rescued n s) trivial hn
    rw [ps rfl]
    simp only [Rw.num] at hn v0 dr
    simp only [Rw.enc, cH] at dr gg ⊢
    generalize fY = P2 at gg ⊢
    (wp_walk using "ew", aP, aJ, aK, aM, aN, aO, cJ, jC, wl, wi, dr, e1, w.t, v0, j7, j6, iW, List.mem_singleton, Nat.reduceLT, bM, fM, ig, gg)
  | ended n o =>
    have gg := go_eq w (.ended n o) trivial hn
    rw [ps rfl]
    simp only [Rw.num] at hn v0 dr
    simp only [Rw.enc, cH] at dr gg ⊢
    generalize fY = P2 at gg ⊢
    (wp_walk using "ew", aP, aJ, aK, aM, aN, aO, cJ, jC, wl, wi, dr, e1, w.t, v0, j7, j6, iW, List.mem_singleton, Nat.reduceLT, bM, fM, ig, gg)
  | masked n =>
    rw [ps rfl]
    unfold eV
    simp only [Rw.num] at hn v0 dr
    simp only [Rw.enc, cH] at dr ⊢
    (wp_walk using "ew", aP, aJ, aK, aM, aN, aO, cJ, jC, wl, wi, dr, e1, w.t, v0, sl, j7, j6, iW, List.mem_singleton, Nat.reduceLT, bM, lG)
  | opened n =>
    rw [ps rfl]
    unfold eV
    simp only [Rw.num] at hn v0 dr
    simp only [Rw.enc, cH] at dr ⊢
    (wp_walk using "ew", aP, aJ, aK, aM, aN, aO, cJ, jC, wl, wi, dr, e1, w.t, v0, sl, j7, j6, iW, List.mem_singleton, Nat.reduceLT, bM, lG)
end
end dJ
noncomputable section
namespace dJ
open PySem PySem.Spec PyProof.Rows L2 PD
def jw (m : Wm) (t : Tk) : Rw → String
  | .got _ s => if offB t.goes then "unwinds" else if uW m s then "full" else if t.shut && !m.raw then "held" else ""
  | .given _ s => if !uG m t s then "had" else ""
  | .failed _ _ => if offB t.goes then "unwinds" else ""
  | .rescued n s => if !xZ m n t s then "mark" else ""
  | .masked _ => if t.shut then "held" else ""
  | .opened _ => if !t.shut then "open" else if !t.lasts.isEmpty then "last" else ""
  | .ended n o => if t.shut then "held" else if !t.lasts.isEmpty then "last" else if DY m n then "outlives" else if t.due then "owed" else if !t.had.isEmpty && !m.raw then "keeps" else if !qM m n t o then "outcome" else ""
def ahR (w : String) : D := if w = "" then .non else .str w
theorem agZ {w : String} (h : ¬ w = "") : ahR w = .str w := if_neg h
theorem adn {m : Wm} {t : Tk} (hf : t.fin = none) (r : Rw) : aek m t r = ahR (jw m t r) := by
  unfold aek
  rw [hf]
  show qC m t r = _
  cases r with
  | got n s => simp only [qC, jw]; cases offB t.goes <;> cases uW m s <;> cases (t.shut && !m.raw) <;> rfl
  | given n s => simp only [qC, jw]; cases uG m t s <;> rfl
  | failed n s => simp only [qC, jw]; cases offB t.goes <;> rfl
  | rescued n s => simp only [qC, jw]; cases xZ m n t s <;> rfl
  | masked n => simp only [qC, jw]; cases t.shut <;> rfl
  | opened n => simp only [qC, jw]; cases t.shut <;> cases t.lasts.isEmpty <;> rfl
  | ended n o => simp only [qC, jw]; cases t.shut <;> cases t.lasts.isEmpty <;> cases DY m n <;> cases t.due <;> cases (!t.had.isEmpty && !m.raw) <;> cases qM m n t o <;> rfl
def tk1 (m : Wm) : Wm := { m with many := m.many + 1 }
def tick (A : WA) (m : Wm) (h : AH) : AH := h.set A.B (wC A (tk1 m))
section
variable {A : WA} {ow : Nat → Nat × Nat} {h : AH} {m : Wm} {n : Nat} {t u : Tk}
theorem zW (w : WS A ow h m) : WS A ow (tick A m h) (tk1 m) := w.cnt (m.many + 1)
theorem Us (w : WS A ow h m) (e : En) (e0 : e[0]? = some (some (.ref A.B))) : uw iG "many" (aj 0) (eC (.int 1)) e h = .nx e (tick A m h) := by
  have wl := w_lit w
  unfold tick wC gK tk1 uw
  simp only [aj, e0, Res.Ak, wl, List.mem_singleton, if_true, lF, mO, String.reduceEq, if_false, eC, List.length_cons, List.length_nil, Nat.reduceAdd, Nat.reduceLT, and_self, j6, j7, iW]
theorem afI {r : Rw} (hd : jw m t r = "") : ∀ n s, r = .given n s → s ∈ t.had := fun n s e => by
  subst e
  simp only [jw] at hd
  cases hg : uG m t s with
  | false => rw [hg] at hd; exact absurd hd (by decide)
  | true =>
    unfold uG at hg
    split at hg
    · exact of_decide_eq_true hg
    · exact List.mem_of_getLast? (of_decide_eq_true hg)
theorem afJ (w : WS A ow h m) (ok : m.ok) (hm : m.must = .non) (r : Rw) (ro : r.ok) (hn : m.ts[r.num]? = some t) (hf : t.fin = none) (hd : jw m t r = "") :
    dY [.ref A.B, r.enc] h = .ok .non (tick A (setT m r.num (cH t r)) (vJ h t (cH t r))) := by
  have er := Vi w ok hm r ro hn
  rw [adn hf r, hd] at er
  have er : dH [.ref A.B, r.enc] h = .ok .non h := er
  have et := take_eq w ok hm r hn (afI hd)
  have i1 := tD (cs := rC) (mn := "reason") w.w (by simp) (gM (by decide +kernel))
  have i2 := tD (cs := zP) (mn := "take") w.w (by simp) (gM (by decide +kernel))
  have fa := Us (w.put (u := cH t r) hn (by cases r <;> rfl) (by cases r <;> rfl) (by cases r <;> rfl) (by cases r <;> rfl)) [some (.ref A.B), some r.enc, some .non] rfl
  unfold dY
  generalize dH = P1 at er ⊢
  generalize fQ = P2 at et ⊢
  generalize uw iG "many" (aj 0) (eC (.int 1)) = S1 at fa ⊢
  (wp_walk using "ew", aP, aJ, aK, aM, aN, aO, T9, fM, i1, i2, er, et, fa, noX)
theorem ado (w : WS A ow h m) (ok : m.ok) (hm : m.must = .non) (r : Rw) (ro : r.ok) (hn : m.ts[r.num]? = some t) (hf : t.fin = none) (hd : ¬ jw m t r = "") :
    dY [.ref A.B, r.enc] h = .exc "Broken" [("at", .int m.many), ("why", .str (jw m t r))] (tick A m h) := by
  have er := Vi w ok hm r ro hn
  rw [adn hf r, agZ hd] at er
  have e1 := adb w.w
  have i1 := tD (cs := rC) (mn := "reason") w.w (by simp) (gM (by decide +kernel))
  have fa := Us w [some (.ref A.B), some r.enc, some (.str (jw m t r))] rfl
  unfold dY
  generalize dH = P1 at er ⊢
  generalize uw iG "many" (aj 0) (eC (.int 1)) = S1 at fa ⊢
  (wp_walk using "ew", aP, aJ, aK, aM, aN, aO, T9, fM, i1, er, fa, Dc, Bq, bM, e1)
theorem Ea {B : Nat} {d : D} {h h' : AH} (e : dY [.ref B, d] h = .ok .non h') (i1 : Wy vh "see" (.ref B) h) : d9 [.ref B, d] h = .ok (.str "") h' := by
  unfold d9
  generalize dY = P1 at e ⊢
  (wp_walk using "ew", aP, aJ, aK, aM, aN, aO, Rr, fM, i1, e)
theorem Sd {B : Nat} {d : D} {k : Int} {h h' : AH} {w : Str} (e : dY [.ref B, d] h = .exc "Broken" [("at", .int k), ("why", .str w)] h') (i1 : Wy vh "see" (.ref B) h) : d9 [.ref B, d] h = .ok (.tup [.int k, .str w]) h' := by
  have ex : iT "Broken" = some true := rfl
  have xt : adS [xF "at", xF "why"] [("at", .int k), ("why", .str w)] h' = some (.tup [.int k, .str w]) := by
    simp [adS, xF, List.mapM_cons, mO, lF]
  unfold d9
  generalize dY = P1 at e ⊢
  (wp_walk using "ew", aP, aJ, aK, aM, aN, aO, Rr, fM, i1, e, ex, xt, Nat.reduceLT)
theorem aiJ (w : WS A ow h m) : jX [.ref A.B] h = .ok (.int m.many) h := by
  have e := adb w.w
  unfold jX
  (wp_walk using "ew", aP, aJ, aK, aM, aN, aO, bM, e)
def newT (l d e : Nat) (s : Str) : Tk := ⟨l, l + 1, l + 2, d, e, some 0, some s, none, false, false, .on, [], []⟩
def uX (m : Wm) (u : Tk) (s : Str) : Wm := { m with ts := m.ts ++ [u], lt := dO m.lt (.inr s) (.int (m.ts.length : Int)), hm := [(.inl 0, .int 0)] }
def mQ (A : WA) (m : Wm) (h : AH) (u : Tk) (s : Str) : AH := (((h ++ [eV u, .lst [], .lst []]).set A.T (.dict (sY (m.ts ++ [u])))).set A.L (.dict (dO m.lt (.inr s) (.int (m.ts.length : Int))))).set A.O (.dict [(.inl 0, .int 0)])
theorem aen (w : WS A ow h m) (ok : m.ok) (hm : m.must = .non) (hlt : m.lt.length < 1000) (hh : ab5 m) {d e : Nat} {s : Str} :
    fQ [.ref A.B, yH m.ts.length s] h = .ok .non (mQ A m h (newT h.length d e s) s) := by
  obtain ⟨o0, o1, o2, o3, o4⟩ := w.oa
  have dr := R9 (n := m.ts.length) (s := s) h
  have wi := akE w
  have wl := w_lit w
  rw [hm] at wl
  unfold wC gK at wi
  rw [hm] at wi
  have si := DP h (.int 0) (.str s)
  have sc : (.ins "Seen" (lG (.int 0) (.str s) .non false false (.tup [.str "on"]) (.ref (h.length + 1)) (.ref (h.length + 2))) : Cell) = eV (newT h.length d e s) := rfl
  rw [sc] at si
  unfold fQ mQ
  generalize je = P1 at dr ⊢
  generalize (lC "Seen" fun ds => iV (GB.picked (ds ++ []) [0, 1, 2])) = P2 at si ⊢
  unfold yH at dr ⊢
  have pt := aiC (ts := m.ts) (t := newT h.length d e s)
  have pt : dO (sY m.ts) (.inl (m.ts.length : Int)) (.ref h.length) = sY (m.ts ++ [newT h.length d e s]) := pt
  have g1w : (h ++ [eV (newT h.length d e s), .lst [], .lst []])[A.B]? = some (wC A m) := cW w.w
  have g1t : (h ++ [eV (newT h.length d e s), .lst [], .lst []])[A.T]? = some (.dict (sY m.ts)) := cW w.t
  have g1l : (h ++ [eV (newT h.length d e s), .lst [], .lst []])[A.L]? = some (.dict m.lt) := cW w.l
  have g1o : (h ++ [eV (newT h.length d e s), .lst [], .lst []])[A.O]? = some (.dict m.hm) := cW w.o
  have f1 := j8 g1w
  have w2 : ∀ c, ((h ++ [eV (newT h.length d e s), .lst [], .lst []]).set A.T c)[A.B]? = some (wC A m) := fun c => by rw [keepI (bH o2 o0 (by simp))]; exact g1w
  have w3 : ∀ c d2, (((h ++ [eV (newT h.length d e s), .lst [], .lst []]).set A.T c).set A.L d2)[A.B]? = some (wC A m) := fun c d2 => by rw [keepI (bH o3 o0 (by simp))]; exact w2 _
  have l2 : ∀ c, ((h ++ [eV (newT h.length d e s), .lst [], .lst []]).set A.T c)[A.L]? = some (.dict m.lt) := fun c => by rw [keepI (bH o2 o3 (by simp))]; exact g1l
  have o3 : ∀ c d2, (((h ++ [eV (newT h.length d e s), .lst [], .lst []]).set A.T c).set A.L d2)[A.O]? = some (.dict m.hm) := fun c d2 => by rw [keepI (bH o3 o4 (by simp)), keepI (bH o2 o4 (by simp))]; exact g1o
  have f2 := fun c => afy (w2 c)
  have f3 := fun c d2 => abW (w3 c d2)
  have n1 : m.ts.length < 16777216 := by have := ok.n; omega
  have n2 : m.lt.length < 16777216 := by omega
  have hp : dO m.hm (.inl 0) (.int 0) = [(.inl 0, .int 0)] := by rcases hh with z | z <;> rw [z] <;> rfl
  have n3 : m.hm.length < 16777216 := by rcases hh with z | z <;> rw [z] <;> decide
  (wp_walk using "ew", aP, aJ, aK, aM, aN, aO, cJ, jC, wl, wi, dr, j7, j6, iW, List.mem_singleton, Nat.reduceLT, bM, si, WY, ahO, ael, amd, ahP, f1, g1t, ac9, n1, pt, f2, l2, n2, f3, o3, hp, n3)
theorem zX {x : Nat} {c : Cell} {s : Str} (e : h[x]? = some c) (h1 : A.T ≠ x) (h2 : A.L ≠ x) (h3 : A.O ≠ x) : (mQ A m h u s)[x]? = some c := by
  unfold mQ
  rw [keepI h3, keepI h2, keepI h1]
  exact cW e
theorem pY {ts : List Tk} {t u : Tk} {k : Nat} (e : (ts ++ [t])[k]? = some u) : ts[k]? = some u ∨ (k = ts.length ∧ u = t) := by
  by_cases hk : k < ts.length
  · rw [List.getElem?_append_left hk] at e
    exact .inl e
  · rw [List.getElem?_append_right (by omega)] at e
    have h1 := (List.getElem?_eq_some_iff.mp e).1
    refine .inr ?_
    have : k - ts.length = 0 := by simpa using h1
    have hk2 : k = ts.length := by omega
    subst hk2
    rw [Nat.sub_self] at e
    cases e
    exact ⟨rfl, rfl⟩
theorem WS.grow (w : WS A ow h m) {d e : Nat} {s : Str} {eZ : Nat → Nat × Nat} (eo : ∀ x, x < h.length → eZ x = ow x) (e1 : eZ h.length = (5, m.ts.length)) (e2 : eZ (h.length + 1) = (6, m.ts.length)) (e3 : eZ (h.length + 2) = (7, m.ts.length)) :
    WS A eZ (mQ A m h (newT h.length d e s) s) (uX m (newT h.length d e s) s) := by
  obtain ⟨o0, o1, o2, o3, o4⟩ := w.oa
  have lT := eX w.t
  have lL := eX w.l
  have lO := eX w.o
  have en : ∀ i : Nat, i < 3 → (mQ A m h (newT h.length d e s) s)[h.length + i]? = [eV (newT h.length d e s), Cell.lst [], .lst []][i]? := fun i hi => by
    unfold mQ
    rw [keepI (by omega), keepI (by omega), keepI (by omega), ga]
  have w' := w.own eo
  obtain ⟨p0, p1, p2, p3, p4⟩ := w'.oa
  refine ⟨?_, ?_, ?_, ?_, ?_, fun k v q => ?_, fun k v q => ?_, fun k v q => ?_, ⟨p0, p1, p2, p3, p4⟩, fun k v q => ?_⟩
  · exact zX w.w (bH o2 o0 (by simp)) (bH o3 o0 (by simp)) (bH o4 o0 (by simp))
  · exact zX w.z (bH o2 o1 (by simp)) (bH o3 o1 (by simp)) (bH o4 o1 (by simp))
  · unfold mQ
    rw [keepI (bH o4 o2 (by simp)), keepI (bH o3 o2 (by simp)), List.getElem?_set_self (by rw [List.length_append]; omega)]
    rfl
  · unfold mQ
    rw [keepI (bH o4 o3 (by simp)), List.getElem?_set_self (by rw [List.length_set, List.length_append]; omega)]
    rfl
  · unfold mQ
    rw [List.getElem?_set_self (by rw [List.length_set, List.length_set, List.length_append]; omega)]
    rfl
  · rcases pY q with q | ⟨rfl, rfl⟩
    · exact zX (w.s k v q) (bH o2 (w.os k v q).1 (by simp)) (bH o3 (w.os k v q).1 (by simp)) (bH o4 (w.os k v q).1 (by simp))
    · exact en 0 (by decide)
  · rcases pY q with q | ⟨rfl, rfl⟩
    · exact zX (w.b k v q) (bH o2 (w.os k v q).2.1 (by simp)) (bH o3 (w.os k v q).2.1 (by simp)) (bH o4 (w.os k v q).2.1 (by simp))
    · exact en 1 (by decide)
  · rcases pY q with q | ⟨rfl, rfl⟩
    · exact zX (w.c k v q) (bH o2 (w.os k v q).2.2 (by simp)) (bH o3 (w.os k v q).2.2 (by simp)) (bH o4 (w.os k v q).2.2 (by simp))
    · exact en 2 (by decide)
  · rcases pY q with q | ⟨rfl, rfl⟩
    · exact w'.os k v q
    · exact ⟨e1, e2, e3⟩
theorem afK (w : WS A ow h m) (ok : m.ok) (hm : m.must = .non) (hlt : m.lt.length < 1000) (h0 : m.ts[0]? = some t) (h12 : m.ts.length < 12) (hh : ab5 m) (hg : t.goes = .on) (hf : t.fin = none) {d e : Nat} {s : Str} (hs : Nm s) {eZ : Nat → Nat × Nat} (w2 : WS A eZ (mQ A m h (newT h.length d e s) s) (uX m (newT h.length d e s) s)) :
    dY [.ref A.B, yH m.ts.length s] h = .ok .non (tick A (uX m (newT h.length d e s) s) (mQ A m h (newT h.length d e s) s)) := by
  have er := ab7 w ok hm h0 h12 hh hg hf hs
  have et := aen w ok hm hlt hh (d := d) (e := e) (s := s)
  have i1 := tD (cs := rC) (mn := "reason") w.w (by simp) (gM (by decide +kernel))
  have i2 := tD (cs := zP) (mn := "take") w.w (by simp) (gM (by decide +kernel))
  have fa := Us w2 [some (.ref A.B), some (yH m.ts.length s), some .non] rfl
  unfold dY
  generalize dH = P1 at er ⊢
  generalize fQ = P2 at et ⊢
  generalize uw iG "many" (aj 0) (eC (.int 1)) = S1 at fa ⊢
  generalize yH m.ts.length s = R1 at er et fa ⊢
  generalize mQ A m h (newT h.length d e s) s = H1 at et fa ⊢
  (wp_walk using "ew", aP, aJ, aK, aM, aN, aO, T9, fM, i1, i2, er, et, fa, noX)
end
end dJ
noncomputable section
namespace dJ
open PySem PySem.Spec PyProof.Rows L2 PD
def markD : Go → D
  | .failed s => .str s
  | _ => .non
def qD (t : Tk) : Cell := .dict [(.inr "had", .ref t.e), (.inr "mark", markD t.goes), (.inr "shut", .bl t.shut), (.inr "lives", .bl t.fin.isNone)]
structure LS (Z M : Nat) (ow : Nat → Nat × Nat) (h : AH) (m : Wm) : Prop where
  z : h[Z]? = some (.dict m.sz)
  l : h[M]? = some (.lst (m.ts.map fun t => .ref t.d))
  d : ∀ (k : Nat) (t : Tk), m.ts[k]? = some t → h[t.d]? = some (qD t)
  b : ∀ (k : Nat) (t : Tk), m.ts[k]? = some t → h[t.e]? = some (.lst (t.had.map D.str))
  oa : ow Z = (9, 0) ∧ ow M = (9, 1)
  os : ∀ (k : Nat) (t : Tk), m.ts[k]? = some t → ow t.d = (10, k) ∧ ow t.e = (11, k)
structure Plain (m : Wm) : Prop where
  g : ∀ t ∈ m.ts, t.goes ≠ .killed
  l : ∀ t ∈ m.ts, t.lasts = []
  d : ∀ t ∈ m.ts, t.due = false
theorem qN {α : Type} {F : α → D} {l : List α} {n : Nat} {x : α} (e : l[n]? = some x) : atI (l.map F) (n : Int) = some (F x) := by
  have hn := (List.getElem?_eq_some_iff.mp e).1
  unfold atI ixN
  rw [if_pos (by omega), if_pos (by simp; omega)]
  simp [e]
theorem adp {α : Type} {A Bf : α → D} {P : AH → Prop} {g : MG} {f : ME} {own : List Nat} {e : En} {h : AH} (hP : P h) : ∀ (l : List α) (acc : List D), (∀ x ∈ l, ∃ e1, g (A x) (gJ e own) h = .ok e1 h ∧ f e1 h = .ok (Bf x) h) → acc.length + l.length ≤ 16777216 → wX P g g8 f own e acc (l.map A) h = .ok (acc ++ l.map Bf) h
  | [], acc, _, _ => by rw [List.map_nil, List.map_nil, List.append_nil, wX, if_pos hP]
  | x :: l, acc, q, hl => by
    obtain ⟨e1, a, b⟩ := q x List.mem_cons_self
    rw [List.length_cons] at hl
    rw [List.map_cons, wX, if_pos hP, a]
    show (match f e1 h with | .ok x h3 => if acc.length < 16777216 then wX P g g8 f own e (acc ++ [x]) (l.map A) h3 else .stuck | _ => .stuck) = _
    rw [b]
    show (if acc.length < 16777216 then wX P g g8 f own e (acc ++ [Bf x]) (l.map A) h else .stuck) = _
    rw [if_pos (by omega), adp hP l (acc ++ [Bf x]) (fun d hd => q d (List.mem_cons_of_mem _ hd)) (by simp only [List.length_append, List.length_cons, List.length_nil]; omega), List.map_cons, List.append_assoc]
    rfl
section
variable {Z M : Nat} {ow : Nat → Nat × Nat} {h : AH} {m : Wm} {n : Nat} {t u : Tk}
theorem oY (l : LS Z M ow h m) (hn : m.ts[n]? = some t) : h[t.d]? = some (.dict [(.inr "had", .ref t.e), (.inr "mark", markD t.goes), (.inr "shut", .bl t.shut), (.inr "lives", .bl t.fin.isNone)]) := l.d n t hn
theorem afL (l : LS Z M ow h m) (ok : m.ok) (s : Str) : xU [.ref M, .ref Z, .str s] h = .ok (.bl (uW m s)) h := by
  have lc := adp (P := fun h' => h'[M]? = some (.lst (m.ts.map fun t => D.ref t.d))) (g := PD.gName 3) (f := (jJ "list" Ds (aG bf (aj 3) (eC (.str "had"))) (ak (aj 2) aA))) (own := [3]) (e := [some (.ref M), some (.ref Z), some (.str s), none]) (h := h) (A := fun t : Tk => D.ref t.d) (Bf := fun t => .int ((t.had.countP (qm s) : Nat) : Int)) l.l m.ts [] (fun t ht => by
    obtain ⟨k, e⟩ := zV ht
    have q := oY l e
    have qb := l.b k t e
    have it := pF qb
    refine ⟨[some (.ref M), some (.ref Z), some (.str s), some (.ref t.d)], ?_, ?_⟩
    · (wp_walk using "ew", aP, aJ, aK, aM, aN, aO)
    · (wp_walk using "ew", aP, aJ, aK, aM, aN, aO, jJ, q, it, Ds, qb, Dm)) (by have := ok.n; simp only [List.length_nil]; omega)
  have si := ints_map (fun t : Tk => ((t.had.countP (qm s) : Nat) : Int)) m.ts
  have gz := afE ok.z s
  have kk : keyOf (.str s) = some (.inr s) := rfl
  have iz := Bc l.z
  have lz := l.z
  have ll := l.l
  unfold xU uW agQ
  generalize (gName 3 : MG) = G3 at lc ⊢
  (wp_walk using "ew", aP, aJ, aK, aM, aN, aO, WM, WL, ll, lc, ad0, List.nil_append, abo, mD, si, jJ, iz, getM, lz, kk, gz, ge_iff_le)
def yc (m : Wm) (t : Tk) : Rw → String
  | .got _ s => if offB t.goes then "unwinds" else if uW m s then "full" else if t.shut && !m.raw then "held" else ""
  | .given _ s => if uG m t s then "" else "had"
  | .failed _ _ => if offB t.goes then "unwinds" else ""
  | .rescued _ s => if xX t.goes s then "" else "mark"
  | .masked _ => if t.shut then "held" else ""
  | .opened _ => if t.shut then "" else "open"
  | .ended _ _ => ""
def W0 : Rw → Prop
  | .ended _ _ => False
  | _ => True
theorem ab8 {g : Go} (nk : g ≠ .killed) : PD.isNon (markD g) = !offB g := by
  cases g with
  | on => rfl
  | killed => exact absurd rfl nk
  | failed s => rfl
theorem aiK {g : Go} (ok : g.ok) (nk : g ≠ .killed) {s : Str} (ns : Nm s) {h : AH} : yu cM (markD g) (.str s) h = some (.bl (xX g s), h) := by
  cases g with
  | on =>
    show cM .non (.str s) h = _
    rw [(qL (h := h) (d := .non) (e := .str s) rfl rfl rfl (sOk (lH ns)) (by simp [PyData.depth]) deps).1]
    rfl
  | killed => exact absurd rfl nk
  | failed t =>
    show cM (.str t) (.str s) h = _
    rw [(qL (h := h) (d := .str t) (e := .str s) rfl rfl (sOk (lH ok)) (sOk (lH ns)) deps deps).1]
    rfl
theorem uH {s t : String} {h : AH} : yu cM (.str (PySem.Str.ofString s)) (.str (PySem.Str.ofString t)) h = some (.bl (decide (s = t)), h) := wD
theorem ag0 (l : LS Z M ow h m) (ok : m.ok) (pl : Plain m) (r : Rw) (ro : r.ok) (hc : W0 r) (hn : m.ts[r.num]? = some t) : rE [.ref M, .ref Z, .bl m.raw, r.enc] h = .ok (.str (yc m t r)) h := by
  have ld := oY l hn
  have ll := l.l
  have lb := l.b _ t hn
  have a1 := qN (F := fun t : Tk => D.ref t.d) hn
  have nk := pl.g t (fJ hn)
  have tok := ok.t t (fJ hn)
  have mn := ab8 nk
  have e1 := fun s => afL l ok s
  unfold rE
  generalize xU = P1 at e1 ⊢
  cases r with
  | got n s =>
    simp only [Rw.enc, Rw.num, yc] at a1 ⊢
    cases h1 : offB t.goes <;> rw [h1] at mn <;> cases h2 : uW m s <;> cases h3 : t.shut <;> rw [h3] at ld <;> cases h4 : m.raw <;> (wp_walk using "ew", aP, aJ, aK, aM, aN, aO, ll, a1, ld, mn, uH, e1, h2, iy, Bool.true_and, Bool.false_and)
  | given n s =>
    have i1 := (adi lb tok.h ro).1
    have i2 := (ab0 tok.h ro (h := h)).2
    have sl : tH (.ref t.e) (some (-1)) none h = some (.lst (PD.cutD (t.had.map D.str) (some (-1)) none), h) := by
      simp only [tH, lb]
    simp only [Rw.enc, Rw.num, yc] at a1 ⊢
    rcases Bool.eq_false_or_eq_true m.raw with h4 | h4
    · have gb : uG m t s = decide (s ∈ t.had) := by unfold uG; rw [h4]; rfl
      rw [gb, h4]
      by_cases h5 : s ∈ t.had <;> simp only [h5, decide_true, decide_false] at i1 <;> (wp_walk using "ew", aP, aJ, aK, aM, aN, aO, ll, a1, ld, mn, uH, i1, h5, iy, decide_true, decide_false)
    · have gb : uG m t s = xY t.had s := by unfold uG; rw [h4]; rfl
      rw [gb, h4]
      cases h5 : xY t.had s <;> rw [h5] at i2 <;> (wp_walk using "ew", aP, aJ, aK, aM, aN, aO, ll, a1, ld, mn, uH, sG, sl, i2, iy)
  | failed n s =>
    simp only [Rw.enc, Rw.num, yc] at a1 ⊢
    cases h1 : offB t.goes <;> rw [h1] at mn <;> (wp_walk using "ew", aP, aJ, aK, aM, aN, aO, ll, a1, ld, mn, uH, iy)
  | rescued n s =>
    have mi := aiK tok.g nk ro (h := h)
    simp only [Rw.enc, Rw.num, yc] at a1 ⊢
    cases h1 : xX t.goes s <;> rw [h1] at mi <;> (wp_walk using "ew", aP, aJ, aK, aM, aN, aO, ll, a1, ld, mn, uH, mi, iy)
  | masked n =>
    simp only [Rw.enc, Rw.num, yc] at a1 ⊢
    cases h1 : t.shut <;> rw [h1] at ld <;> (wp_walk using "ew", aP, aJ, aK, aM, aN, aO, ll, a1, ld, mn, uH, iy)
  | opened n =>
    simp only [Rw.enc, Rw.num, yc] at a1 ⊢
    cases h1 : t.shut <;> rw [h1] at ld <;> (wp_walk using "ew", aP, aJ, aK, aM, aN, aO, ll, a1, ld, mn, uH, iy)
  | ended n o => exact hc.elim
theorem akH {g : Go} (h : g ≠ .killed) : Uo g = false := by
  cases g with
  | killed => exact absurd rfl h
  | _ => rfl
theorem afM (pl : Plain m) (lv : ∀ t ∈ m.ts, t.fin = none) (ht : t ∈ m.ts) {k : Nat} {s : Str} : xZ m k t s = xX t.goes s := by
  unfold xZ
  rw [akH (pl.g t ht)]
  have : ((m.ts.filter fun u => decide (u.bg = some k)).any fun u => Gu u.fin s) = false := by
    rw [List.any_eq_false]
    intro u hu
    rw [lv u (List.mem_filter.mp hu).1]
    simp [Gu]
  rw [this]
  simp
theorem aiL (pl : Plain m) (lv : ∀ t ∈ m.ts, t.fin = none) (r : Rw) (hc : W0 r) (hn : m.ts[r.num]? = some t) : jw m t r = yc m t r := by
  have ht := fJ hn
  cases r with
  | got n s => rfl
  | given n s => simp only [jw, yc]; cases uG m t s <;> rfl
  | failed n s => rfl
  | rescued n s =>
    simp only [jw, yc]
    rw [afM pl lv ht]
    cases xX t.goes s <;> rfl
  | masked n => rfl
  | opened n =>
    simp only [jw, yc]
    rw [pl.l t ht]
    cases t.shut <;> rfl
  | ended n o => exact hc.elim
end
end dJ
noncomputable section
namespace dJ
open PySem PySem.Spec PyProof.Rows L2 PD
theorem at_last {l : List D} {x : D} : atI (l ++ [x]) (-1) = some x := by
  unfold atI ixN
  have e : ((-1 : Int) + ((l ++ [x]).length : Int)).toNat = l.length := by
    rw [List.length_append, List.length_singleton]
    omega
  rw [if_neg (by decide), if_pos (by rw [List.length_append, List.length_singleton]; omega), e]
  simp
theorem ag1 {x s : Str} (hx : Nm x) (hs : Nm s) {h : AH} : cM (.str x) (.str s) h = some (.bl (decide (x = s)), h) := by
  rw [(qL (h := h) (d := .str x) (e := .str s) rfl rfl (sOk (lH hx)) (sOk (lH hs)) deps deps).1]
  have : PyData.eqv (.str x) (.str s) = (x == s) := rfl
  rw [this]
  by_cases z : x = s
  · subst z; simp
  · simp [z]
theorem aiM {pre post : List Str} {s : Str} : PD.cutD ((pre ++ s :: post).map D.str) none (some (0 + (pre.length : Int))) = pre.map D.str := by
  unfold PD.cutD
  rw [Int.zero_add, HT.sIx_none, HT.sIx_nat, List.drop_zero, Nat.sub_zero, List.map_append]
  have e : min pre.length (pre.map D.str ++ (s :: post).map D.str).length = pre.length := by simp
  rw [e]
  exact List.take_left' (by simp)
theorem ag3 {pre post : List Str} {s : Str} : PD.cutD ((pre ++ s :: post).map D.str) (some (0 + (pre.length : Int) + 1)) none = post.map D.str := by
  unfold PD.cutD
  rw [Int.zero_add, show ((pre.length : Int) + 1) = ((pre.length + 1 : Nat) : Int) by omega, HT.sIx_none, HT.sIx_nat]
  have e : min (pre.length + 1) ((pre ++ s :: post).map D.str).length = pre.length + 1 := by simp
  rw [e]
  have e2 : ((pre ++ s :: post).map D.str).drop (pre.length + 1) = post.map D.str := by
    rw [List.map_append, List.map_cons, ← List.drop_drop, List.drop_left' (by simp)]
    rfl
  rw [e2]
  exact List.take_of_length_le (by simp; omega)
theorem ahS {a b : D} : dO (dO [] (.inr "failed") a) (.inr "rescued") b = [(.inr "failed", a), (.inr "rescued", b)] := by simp [dO, iW]
theorem ag4 {n : Nat} {h : AH} (l : n ≤ 1000) : pZ [.int (n : Int)] h = .ok ((List.range n).map fun k : Nat => D.int (0 + (k : Int))) h := by
  have hr : -(2 ^ 62) ≤ (n : Int) ∧ (n : Int) < 2 ^ 62 := ⟨by omega, by omega⟩
  simp only [pZ, hr, and_self, if_true, Int.toNat_natCast, oF]
theorem akI {a b : List D} {h : AH} (l : a.length + b.length ≤ 16777216) : RN (.lst a) (.lst b) h = some (.ref h.length, h ++ [.lst (a ++ b)]) := by
  show (if a.length + b.length ≤ 16777216 then some (D.ref h.length, h ++ [Cell.lst (a ++ b)]) else none) = _
  rw [if_pos l]
theorem akJ {a b c d v : D} : dO [(.inr "had", a), (.inr "mark", b), (.inr "shut", c), (.inr "lives", d)] (.inr "had") v = [(.inr "had", v), (.inr "mark", b), (.inr "shut", c), (.inr "lives", d)] := by simp [dO, iW]
theorem adq {a b c d v : D} : dO [(.inr "had", a), (.inr "mark", b), (.inr "shut", c), (.inr "lives", d)] (.inr "mark") v = [(.inr "had", a), (.inr "mark", v), (.inr "shut", c), (.inr "lives", d)] := by simp [dO, iW]
theorem adt {a b c d v : D} : dO [(.inr "had", a), (.inr "mark", b), (.inr "shut", c), (.inr "lives", d)] (.inr "shut") v = [(.inr "had", a), (.inr "mark", b), (.inr "shut", v), (.inr "lives", d)] := by simp [dO, iW]
theorem ab9 {a b c d v : D} : dO [(.inr "had", a), (.inr "mark", b), (.inr "shut", c), (.inr "lives", d)] (.inr "lives") v = [(.inr "had", a), (.inr "mark", b), (.inr "shut", c), (.inr "lives", v)] := by simp [dO, iW]
theorem anD {h : AH} {M d e : Nat} {n : Int} {c1 c2 c3 : D} {xs : List Str} {s : Str} (ld : h[d]? = some (.dict [(.inr "had", .ref e), (.inr "mark", c1), (.inr "shut", c2), (.inr "lives", c3)])) (lb : h[e]? = some (.lst (xs.map D.str))) {L : List D} {R : List D → AH → Res (List D)} (rg : R [.int ((xs.map D.str).length : Int)] h = .ok L h) :
    (mW R (ak (bB jc (ak (aG bf (aj 2) (eC (.str "had"))) aA)) aA)) [some (.ref M), some (.tup [.str "given", .int n, .str s]), some (.ref d), none, none] h = .ok L h := by
  (wp_walk using "ew", aP, aJ, aK, aM, aN, aO, ld, lb, rg)
theorem anE {h : AH} {e : En} {L K : List D} {I : En → AH → Res (List D)} {G : MG} {T : MT} {F : ME} {own : List Nat} (ei : I e h = .ok L h) (lc : eY G T F own e [] L h = .ok K h) : (kJ I G T F own) e h = .ok (.lst K) h := by
  (wp_walk using "ew", aP, aJ, aK, aM, aN, aO, ei, lc)
theorem aiN {h : AH} {M d e : Nat} {n : Int} {c1 c2 c3 : D} {xs pre post : List Str} {s : Str} (hx : ∀ x ∈ xs, Nm x) (hl : xs.length ≤ 1000) (ns : Nm s) (hh : xs = pre ++ s :: post) (np : s ∉ post)
    (ld : h[d]? = some (.dict [(.inr "had", .ref e), (.inr "mark", c1), (.inr "shut", c2), (.inr "lives", c3)])) (lb : h[e]? = some (.lst (xs.map D.str))) :
    ∃ fl : List Nat, (kJ (mW pZ (ak (bB jc (ak (aG bf (aj 2) (eC (.str "had"))) aA)) aA)) (PD.gName 4) (bZ (aG cM (aG bf (aG bf (aj 2) (eC (.str "had"))) (aj 4)) (aG bf (aj 1) (eC (.int (2)))))) (aj 4) [4]) [some (.ref M), some (.tup [.str "given", .int n, .str s]), some (.ref d), none, none] h = .ok (.lst (List.map (fun k : Nat => D.int (0 + (k : Int))) (fl ++ [pre.length]))) h := by
  obtain ⟨fl, hf⟩ := afD (pre := pre) np
  rw [← hh] at hf
  have lc := tL (g := PD.gName 4) (t := (bZ (aG cM (aG bf (aG bf (aj 2) (eC (.str "had"))) (aj 4)) (aG bf (aj 1) (eC (.int (2))))))) (f := (aj 4)) (own := [4]) (e := [some (.ref M), some (.tup [.str "given", .int n, .str s]), some (.ref d), none, none]) (h := h) (G := fun k : Nat => D.int (0 + (k : Int))) (F := fun k : Nat => D.int (0 + (k : Int))) (T := fun k => decide (xs[k]? = some s)) (List.range xs.length) [] (fun k hk => by
    have hk := List.mem_range.mp hk
    have e := List.getElem?_eq_getElem hk
    have ax : atI (xs.map D.str) (0 + (k : Int)) = some (.str xs[k]) := by
      rw [Int.zero_add]
      exact qN (F := D.str) e
    have nx : Nm xs[k] := hx _ (List.getElem_mem hk)
    have q := fun h => ag1 nx ns (h := h)
    have de : decide (xs[k]? = some s) = decide (xs[k] = s) := by rw [e]; simp
    refine ⟨[some (.ref M), some (.tup [.str "given", .int n, .str s]), some (.ref d), none, some (.int (0 + (k : Int)))], ?_, ?_, fun _ => ?_⟩
    · (wp_walk using "ew", aP, aJ, aK, aM, aN, aO)
    · rw [de]
      (wp_walk using "ew", aP, aJ, aK, aM, aN, aO, ld, lb, ax, q)
    · (wp_walk using "ew", aP, aJ, aK, aM, aN, aO)) (by simp only [List.length_nil, List.length_range]; omega)
  rw [hf] at lc
  have rg : pZ [.int ((xs.map D.str).length : Int)] h = .ok ((List.range xs.length).map fun k : Nat => D.int (0 + (k : Int))) h := by
    rw [List.length_map]
    exact ag4 hl
  exact ⟨fl, anE (anD ld lb rg) lc⟩
theorem aiO {h : AH} {M d e : Nat} {n : Int} {c1 c2 c3 : D} {xs pre post : List Str} {s : Str} (hx : ∀ x ∈ xs, Nm x) (hl : xs.length ≤ 1000) (ns : Nm s) (hh : xs = pre ++ s :: post) (np : s ∉ post)
    (ld : h[d]? = some (.dict [(.inr "had", .ref e), (.inr "mark", c1), (.inr "shut", c2), (.inr "lives", c3)])) (lb : h[e]? = some (.lst (xs.map D.str))) :
    (aG bf (kJ (mW pZ (ak (bB jc (ak (aG bf (aj 2) (eC (.str "had"))) aA)) aA)) (PD.gName 4) (bZ (aG cM (aG bf (aG bf (aj 2) (eC (.str "had"))) (aj 4)) (aG bf (aj 1) (eC (.int (2)))))) (aj 4) [4]) (wO sG (eC (.int (1))))) [some (.ref M), some (.tup [.str "given", .int n, .str s]), some (.ref d), none, none] h = .ok (.int (0 + (pre.length : Int))) h := by
  obtain ⟨fl, e0⟩ := aiN (n := n) (M := M) hx hl ns hh np ld lb
  have al : atI (List.map (fun k : Nat => D.int (0 + (k : Int))) (fl ++ [pre.length])) (-1) = some (.int (0 + (pre.length : Int))) := by
    rw [List.map_append]
    exact at_last
  generalize (kJ (mW pZ (ak (bB jc (ak (aG bf (aj 2) (eC (.str "had"))) aA)) aA)) (PD.gName 4) (bZ (aG cM (aG bf (aG bf (aj 2) (eC (.str "had"))) (aj 4)) (aG bf (aj 1) (eC (.int (2)))))) (aj 4) [4]) = E at e0 ⊢
  generalize List.map (fun k : Nat => D.int (0 + (k : Int))) (fl ++ [pre.length]) = L at e0 al
  (wp_walk using "ew", aP, aJ, aK, aM, aN, aO, e0, sG, al)
section
variable {Z M : Nat} {ow : Nat → Nat × Nat} {h : AH} {m : Wm} {n : Nat} {t u : Tk}
theorem LS.app (l : LS Z M ow h m) (c : AH) : LS Z M ow (h ++ c) m := ⟨cW l.z, cW l.l, fun k v e => cW (l.d k v e), fun k v e => cW (l.b k v e), l.oa, l.os⟩
theorem Sh {x y : Nat} {p : Nat × Nat} (hx : (ow x).1 < 9) (h : ow y = p) (hp : 9 ≤ p.1) : x ≠ y := fun e => by
  subst e
  rw [h] at hx
  omega
theorem LS.away (l : LS Z M ow h m) {x : Nat} {c : Cell} (hx : (ow x).1 < 9) : LS Z M ow (h.set x c) m := by
  refine ⟨?_, ?_, fun k v e => ?_, fun k v e => ?_, l.oa, l.os⟩
  · rw [keepI (Sh hx l.oa.1 (by decide))]; exact l.z
  · rw [keepI (Sh hx l.oa.2 (by decide))]; exact l.l
  · rw [keepI (Sh hx (l.os k v e).1 (by decide : 9 ≤ 10))]; exact l.d k v e
  · rw [keepI (Sh hx (l.os k v e).2 (by decide : 9 ≤ 11))]; exact l.b k v e
theorem LS.own (l : LS Z M ow h m) {eZ : Nat → Nat × Nat} (e : ∀ x, x < h.length → eZ x = ow x) : LS Z M eZ h m := by
  refine ⟨l.z, l.l, l.d, l.b, ⟨?_, ?_⟩, fun k v q => ?_⟩
  · rw [e _ (eX l.z)]; exact l.oa.1
  · rw [e _ (eX l.l)]; exact l.oa.2
  · rw [e _ (eX (l.d k v q)), e _ (eX (l.b k v q))]; exact l.os k v q
theorem Vj {ts : List Tk} (hn : ts[n]? = some t) (e : u.d = t.d) : ((ts.set n u).map fun t => D.ref t.d) = ts.map fun t => D.ref t.d := by
  rw [List.map_set, e]
  have q : (ts.map fun t => D.ref t.d)[n]? = some (.ref t.d) := by
    rw [List.getElem?_map, hn]
    rfl
  obtain ⟨l, z⟩ := List.getElem?_eq_some_iff.mp q
  rw [← z]
  exact List.set_getElem_self l
theorem LS.put (l : LS Z M ow h m) (hn : m.ts[n]? = some t) (ed : u.d = t.d) (ee : u.e = t.e) : LS Z M ow ((h.set t.d (qD u)).set t.e (.lst (u.had.map D.str))) (setT m n u) := by
  obtain ⟨od, oe⟩ := l.os n t hn
  obtain ⟨o0, o1⟩ := l.oa
  have sl : n < m.ts.length := (List.getElem?_eq_some_iff.mp hn).1
  have la := eX (l.d n t hn)
  have lb := eX (l.b n t hn)
  unfold setT
  refine ⟨?_, ?_, fun k v e => ?_, fun k v e => ?_, ⟨o0, o1⟩, fun k v e => ?_⟩
  · rw [keepI (bH oe o0 (by simp)), keepI (bH od o0 (by simp))]; exact l.z
  · rw [keepI (bH oe o1 (by simp)), keepI (bH od o1 (by simp))]
    show _ = some (Cell.lst ((m.ts.set n u).map fun t => D.ref t.d))
    rw [Vj hn ed]; exact l.l
  · by_cases z : n = k
    · subst z
      rw [List.getElem?_set_self sl] at e
      cases e
      rw [ed, keepI (bH oe od (by simp)), List.getElem?_set_self la]
    · rw [List.getElem?_set_ne z] at e
      rw [keepI (bH oe (l.os k v e).1 (by simp)), keepI (bH od (l.os k v e).1 (by simp [z]))]
      exact l.d k v e
  · by_cases z : n = k
    · subst z
      rw [List.getElem?_set_self sl] at e
      cases e
      rw [ee, List.getElem?_set_self (by rw [List.length_set]; exact lb)]
    · rw [List.getElem?_set_ne z] at e
      rw [keepI (bH oe (l.os k v e).2 (by simp [z])), keepI (bH od (l.os k v e).2 (by simp))]
      exact l.b k v e
  · by_cases z : n = k
    · subst z
      rw [List.getElem?_set_self sl] at e
      cases e
      rw [ed, ee]
      exact ⟨od, oe⟩
    · rw [List.getElem?_set_ne z] at e
      exact l.os k v e
theorem LS.acd (l : LS Z M ow h m) (hn : m.ts[n]? = some t) (ed : u.d = t.d) (ee : u.e = t.e) (eh : u.had = t.had) : LS Z M ow (h.set t.d (qD u)) (setT m n u) := by
  have q := l.put hn ed ee
  rw [eh, m7 (by rw [keepI (bH (l.os n t hn).1 (l.os n t hn).2 (by simp))]; exact l.b n t hn)] at q
  exact q
theorem LS.anF (l : LS Z M ow h m) (hn : m.ts[n]? = some t) (ed : u.d = t.d) (ee : u.e = t.e) (ec : qD u = qD t) : LS Z M ow (h.set t.e (.lst (u.had.map D.str))) (setT m n u) := by
  have q := l.put hn ed ee
  rw [ec, m7 (l.d n t hn)] at q
  exact q
theorem LS.renew (l : LS Z M ow h m) (hn : m.ts[n]? = some t) (ed : u.d = t.d) (ee : u.e = h.length) : LS Z M (Ur ow h.length (11, n)) ((h ++ [Cell.lst (u.had.map D.str)]).set t.d (qD u)) (setT m n u) := by
  have eo : ∀ x, x < h.length → Ur ow h.length (11, n) x = ow x := fun x hx => adl (by omega)
  have l' := l.own eo
  obtain ⟨od, oe⟩ := l'.os n t hn
  obtain ⟨o0, o1⟩ := l'.oa
  have sl : n < m.ts.length := (List.getElem?_eq_some_iff.mp hn).1
  have la := eX (l.d n t hn)
  unfold setT
  refine ⟨?_, ?_, fun k v e => ?_, fun k v e => ?_, ⟨o0, o1⟩, fun k v e => ?_⟩
  · rw [keepI (bH od o0 (by simp))]; exact cW l.z
  · rw [keepI (bH od o1 (by simp))]
    show _ = some (Cell.lst ((m.ts.set n u).map fun t => D.ref t.d))
    rw [Vj hn ed]; exact cW l.l
  · by_cases z : n = k
    · subst z
      rw [List.getElem?_set_self sl] at e
      cases e
      rw [ed, List.getElem?_set_self (by rw [List.length_append]; omega)]
    · rw [List.getElem?_set_ne z] at e
      rw [keepI (bH od (l'.os k v e).1 (by simp [z]))]
      exact cW (l.d k v e)
  · by_cases z : n = k
    · subst z
      rw [List.getElem?_set_self sl] at e
      cases e
      rw [ee, keepI (by omega)]
      exact R4
    · rw [List.getElem?_set_ne z] at e
      rw [keepI (bH od (l'.os k v e).2 (by simp))]
      exact cW (l.b k v e)
  · by_cases z : n = k
    · subst z
      rw [List.getElem?_set_self sl] at e
      cases e
      rw [ed, ee]
      exact ⟨od, afH⟩
    · rw [List.getElem?_set_ne z] at e
      exact l'.os k v e
theorem aeo (l : LS Z M ow h m) (ok : m.ok) (n : Nat) (s : Str) (ro : (Rw.got n s).ok) (hn : m.ts[n]? = some t) (hg : ∀ n2 s2, (Rw.got n s) = .given n2 s2 → s2 ∈ t.had) :
    ∃ (e' : Nat) (eZ : Nat → Nat × Nat) (h' : AH), d8 [.ref M, (Rw.got n s).enc] h = .ok .non h' ∧ LS Z M eZ h' (setT m n { cH t (.got n s) with e := e' }) ∧ ∀ A m', WS A ow h m' → WS A eZ h' m' := by
  have ld := oY l hn
  have ll := l.l
  have lb := l.b _ t hn
  have a1 := qN (F := fun t : Tk => D.ref t.d) hn
  have tok := ok.t t (fJ hn)
  obtain ⟨od, oe⟩ := l.os _ t hn
  have Hv : 8 ≤ (ow t.d).1 := by rw [od]; exact (by decide : 8 ≤ 10)
  have o8e : 8 ≤ (ow t.e).1 := by rw [oe]; exact (by decide : 8 ≤ 11)
  have it := pF lb
  have l2 : (t.had.map D.str).length < 16777216 := by rw [List.length_map]; have := tok.n; omega
  have ap : sJ (.ref t.e) [.str s] h = some (.non, h.set t.e (.lst ((t.had ++ [s]).map D.str))) := by
    simp only [sJ, lb, l2, if_true, List.map_append, List.map_cons, List.map_nil]
  refine ⟨t.e, ow, _, ?_, l.anF (u := { cH t (.got n s) with e := t.e }) hn rfl rfl rfl, fun A m' w => w.away o8e⟩
  unfold d8
  simp only [Rw.enc, Rw.num] at a1 ⊢
  (wp_walk using "ew", aP, aJ, aK, aM, aN, aO, ll, a1, ld, jJ, it, ap)
  rfl
theorem ace (l : LS Z M ow h m) (ok : m.ok) (n : Nat) (s : Str) (ro : (Rw.given n s).ok) (hn : m.ts[n]? = some t) (hg : ∀ n2 s2, (Rw.given n s) = .given n2 s2 → s2 ∈ t.had) :
    ∃ (e' : Nat) (eZ : Nat → Nat × Nat) (h' : AH), d8 [.ref M, (Rw.given n s).enc] h = .ok .non h' ∧ LS Z M eZ h' (setT m n { cH t (.given n s) with e := e' }) ∧ ∀ A m', WS A ow h m' → WS A eZ h' m' := by
  have ld := oY l hn
  have ll := l.l
  have lb := l.b _ t hn
  have a1 := qN (F := fun t : Tk => D.ref t.d) hn
  have tok := ok.t t (fJ hn)
  obtain ⟨od, oe⟩ := l.os _ t hn
  have Hv : 8 ≤ (ow t.d).1 := by rw [od]; exact (by decide : 8 ≤ 10)
  have o8e : 8 ≤ (ow t.e).1 := by rw [oe]; exact (by decide : 8 ≤ 11)
  obtain ⟨pre, post, hh, np⟩ := Bx (hg n s rfl)
  have cp : PD.cutD (t.had.map D.str) none (some (0 + (pre.length : Int))) = pre.map D.str := by rw [hh]; exact aiM
  have cq : PD.cutD (t.had.map D.str) (some (0 + (pre.length : Int) + 1)) none = post.map D.str := by rw [hh]; exact ag3
  have rl : qu t.had s = pre ++ post := by rw [hh]; exact Bw np pre
  have l3 : (pre.map D.str).length + (post.map D.str).length ≤ 16777216 := by
    have := tok.n
    rw [hh] at this
    simp at this ⊢
    omega
  have lq := l.renew (u := { cH t (.given n s) with e := h.length }) hn rfl rfl
  refine ⟨h.length, Ur ow h.length (11, n), _, ?_, lq, fun A m' w => ?_⟩
  · have xa := aiO (n := (n : Int)) (M := M) tok.h tok.n ro hh np ld lb
    have ac := akI (h := h) l3
    have sl1 : tH (.ref t.e) none (some (0 + (pre.length : Int))) h = some (.lst (pre.map D.str), h) := by simp only [tH, lb, cp]
    have sl2 : tH (.ref t.e) (some (0 + (pre.length : Int) + 1)) none h = some (.lst (post.map D.str), h) := by simp only [tH, lb, cq]
    have ldA : ∀ c, (h ++ c)[t.d]? = some (.dict [(.inr "had", .ref t.e), (.inr "mark", markD t.goes), (.inr "shut", .bl t.shut), (.inr "lives", .bl t.fin.isNone)]) := fun c => cW ld
    have fin : ((qu t.had s).map D.str) = pre.map D.str ++ post.map D.str := by rw [rl, List.map_append]
    unfold d8
    simp only [Rw.enc, Rw.num, cH, qD] at a1 ⊢
    rw [fin]
    generalize (aG bf (kJ (mW pZ (ak (bB jc (ak (aG bf (aj 2) (eC (.str "had"))) aA)) aA)) (PD.gName 4) (bZ (aG cM (aG bf (aG bf (aj 2) (eC (.str "had"))) (aj 4)) (aG bf (aj 1) (eC (.int (2)))))) (aj 4) [4]) (wO sG (eC (.int (1))))) = X1 at xa ⊢
    generalize (RN : O2) = AC at ac ⊢
    (wp_walk using "ew", aP, aJ, aK, aM, aN, aO, ll, a1, ld, lb, xa, sl1, sl2, ac, ldA, akJ, Nat.reduceLT)
  · have eo : ∀ x, x < h.length → Ur ow h.length (11, n) x = ow x := fun x hx => adl (by omega)
    refine ((w.own eo).app [.lst (List.map D.str (cH t (.given n s)).had)]).away (x := t.d) (c := qD { cH t (.given n s) with e := h.length }) ?_
    rw [eo _ (eX (l.d n t hn))]
    exact Hv
theorem V8 (l : LS Z M ow h m) (ok : m.ok) (n : Nat) (s : Str) (ro : (Rw.failed n s).ok) (hn : m.ts[n]? = some t) (hg : ∀ n2 s2, (Rw.failed n s) = .given n2 s2 → s2 ∈ t.had) :
    ∃ (e' : Nat) (eZ : Nat → Nat × Nat) (h' : AH), d8 [.ref M, (Rw.failed n s).enc] h = .ok .non h' ∧ LS Z M eZ h' (setT m n { cH t (.failed n s) with e := e' }) ∧ ∀ A m', WS A ow h m' → WS A eZ h' m' := by
  have ld := oY l hn
  have ll := l.l
  have lb := l.b _ t hn
  have a1 := qN (F := fun t : Tk => D.ref t.d) hn
  have tok := ok.t t (fJ hn)
  obtain ⟨od, oe⟩ := l.os _ t hn
  have Hv : 8 ≤ (ow t.d).1 := by rw [od]; exact (by decide : 8 ≤ 10)
  have o8e : 8 ≤ (ow t.e).1 := by rw [oe]; exact (by decide : 8 ≤ 11)
  have la : ∀ c, (h ++ [c])[h.length]? = some c := fun c => R4
  have sd : ∀ c d : Cell, (h ++ [c]).set h.length d = h ++ [d] := fun c d => Hq
  have ldA : ∀ c, (h ++ c)[t.d]? = some (.dict [(.inr "had", .ref t.e), (.inr "mark", markD t.goes), (.inr "shut", .bl t.shut), (.inr "lives", .bl t.fin.isNone)]) := fun c => cW ld
  refine ⟨t.e, ow, _, ?_, (l.app [.dict [(.inr "failed", .str s), (.inr "rescued", .non)]]).acd (u := { cH t (.failed n s) with e := t.e }) hn rfl rfl rfl, fun A m' w => (w.app _).away Hv⟩
  unfold d8
  simp only [Rw.enc, Rw.num, cH, qD, markD] at a1 ⊢
  (wp_walk using "ew", aP, aJ, aK, aM, aN, aO, ll, a1, ld, ldA, oG, vg, keysOf, vf, List.foldl_cons, List.foldl_nil, la, sd, ahS, adq, Nat.reduceLT)
theorem Ut (l : LS Z M ow h m) (ok : m.ok) (n : Nat) (s : Str) (ro : (Rw.rescued n s).ok) (hn : m.ts[n]? = some t) (hg : ∀ n2 s2, (Rw.rescued n s) = .given n2 s2 → s2 ∈ t.had) :
    ∃ (e' : Nat) (eZ : Nat → Nat × Nat) (h' : AH), d8 [.ref M, (Rw.rescued n s).enc] h = .ok .non h' ∧ LS Z M eZ h' (setT m n { cH t (.rescued n s) with e := e' }) ∧ ∀ A m', WS A ow h m' → WS A eZ h' m' := by
  have ld := oY l hn
  have ll := l.l
  have lb := l.b _ t hn
  have a1 := qN (F := fun t : Tk => D.ref t.d) hn
  have tok := ok.t t (fJ hn)
  obtain ⟨od, oe⟩ := l.os _ t hn
  have Hv : 8 ≤ (ow t.d).1 := by rw [od]; exact (by decide : 8 ≤ 10)
  have o8e : 8 ≤ (ow t.e).1 := by rw [oe]; exact (by decide : 8 ≤ 11)
  have la : ∀ c, (h ++ [c])[h.length]? = some c := fun c => R4
  have sd : ∀ c d : Cell, (h ++ [c]).set h.length d = h ++ [d] := fun c d => Hq
  have ldA : ∀ c, (h ++ c)[t.d]? = some (.dict [(.inr "had", .ref t.e), (.inr "mark", markD t.goes), (.inr "shut", .bl t.shut), (.inr "lives", .bl t.fin.isNone)]) := fun c => cW ld
  refine ⟨t.e, ow, _, ?_, (l.app [.dict [(.inr "failed", .str s), (.inr "rescued", .non)]]).acd (u := { cH t (.rescued n s) with e := t.e }) hn rfl rfl rfl, fun A m' w => (w.app _).away Hv⟩
  unfold d8
  simp only [Rw.enc, Rw.num, cH, qD, markD] at a1 ⊢
  (wp_walk using "ew", aP, aJ, aK, aM, aN, aO, ll, a1, ld, ldA, oG, vg, keysOf, vf, List.foldl_cons, List.foldl_nil, la, sd, ahS, adq, Nat.reduceLT)
theorem V9 (l : LS Z M ow h m) (ok : m.ok) (n : Nat) (ro : (Rw.masked n).ok) (hn : m.ts[n]? = some t) (hg : ∀ n2 s2, (Rw.masked n) = .given n2 s2 → s2 ∈ t.had) :
    ∃ (e' : Nat) (eZ : Nat → Nat × Nat) (h' : AH), d8 [.ref M, (Rw.masked n).enc] h = .ok .non h' ∧ LS Z M eZ h' (setT m n { cH t (.masked n) with e := e' }) ∧ ∀ A m', WS A ow h m' → WS A eZ h' m' := by
  have ld := oY l hn
  have ll := l.l
  have lb := l.b _ t hn
  have a1 := qN (F := fun t : Tk => D.ref t.d) hn
  have tok := ok.t t (fJ hn)
  obtain ⟨od, oe⟩ := l.os _ t hn
  have Hv : 8 ≤ (ow t.d).1 := by rw [od]; exact (by decide : 8 ≤ 10)
  have o8e : 8 ≤ (ow t.e).1 := by rw [oe]; exact (by decide : 8 ≤ 11)
  refine ⟨t.e, ow, _, ?_, l.acd (u := { cH t (.masked n) with e := t.e }) hn rfl rfl rfl, fun A m' w => w.away Hv⟩
  unfold d8
  simp only [Rw.enc, Rw.num, cH, qD] at a1 ⊢
  (wp_walk using "ew", aP, aJ, aK, aM, aN, aO, ll, a1, ld, adt, Nat.reduceLT)
theorem Wb (l : LS Z M ow h m) (ok : m.ok) (n : Nat) (ro : (Rw.opened n).ok) (hn : m.ts[n]? = some t) (hg : ∀ n2 s2, (Rw.opened n) = .given n2 s2 → s2 ∈ t.had) :
    ∃ (e' : Nat) (eZ : Nat → Nat × Nat) (h' : AH), d8 [.ref M, (Rw.opened n).enc] h = .ok .non h' ∧ LS Z M eZ h' (setT m n { cH t (.opened n) with e := e' }) ∧ ∀ A m', WS A ow h m' → WS A eZ h' m' := by
  have ld := oY l hn
  have ll := l.l
  have lb := l.b _ t hn
  have a1 := qN (F := fun t : Tk => D.ref t.d) hn
  have tok := ok.t t (fJ hn)
  obtain ⟨od, oe⟩ := l.os _ t hn
  have Hv : 8 ≤ (ow t.d).1 := by rw [od]; exact (by decide : 8 ≤ 10)
  have o8e : 8 ≤ (ow t.e).1 := by rw [oe]; exact (by decide : 8 ≤ 11)
  refine ⟨t.e, ow, _, ?_, l.acd (u := { cH t (.opened n) with e := t.e }) hn rfl rfl rfl, fun A m' w => w.away Hv⟩
  unfold d8
  simp only [Rw.enc, Rw.num, cH, qD] at a1 ⊢
  (wp_walk using "ew", aP, aJ, aK, aM, aN, aO, ll, a1, ld, adt, Nat.reduceLT)
theorem afO (l : LS Z M ow h m) (ok : m.ok) (r : Rw) (ro : r.ok) (hc : W0 r) (hn : m.ts[r.num]? = some t) (hg : ∀ n s, r = .given n s → s ∈ t.had) :
    ∃ (e' : Nat) (eZ : Nat → Nat × Nat) (h' : AH), d8 [.ref M, r.enc] h = .ok .non h' ∧ LS Z M eZ h' (setT m r.num { cH t r with e := e' }) ∧ ∀ A m', WS A ow h m' → WS A eZ h' m' := by
  cases r with
  | got n s => exact aeo l ok n s ro hn hg
  | given n s => exact ace l ok n s ro hn hg
  | failed n s => exact V8 l ok n s ro hn hg
  | rescued n s => exact Ut l ok n s ro hn hg
  | masked n => exact V9 l ok n ro hn hg
  | opened n => exact Wb l ok n ro hn hg
  | ended n o => exact hc.elim
end
end dJ
noncomputable section
namespace dJ
open PySem PySem.Spec PyProof.Rows L2 PD
theorem pK {g : AH} {x : Cell} {h' : AH} (f : Fr g.length (g ++ [x]) h') : ∃ y, h' = g ++ [y] := by
  obtain ⟨y, rfl⟩ := f
  exact ⟨y, Hq⟩
theorem afP {i : Int} (h : 0 ≤ i) : ∃ n : Nat, i = (n : Int) := ⟨i.toNat, by omega⟩
def Gx : List D := [.str "got", .str "got", .str "got", .str "given", .str "given", .str "given", .str "failed", .str "rescued", .str "masked", .str "opened"]
theorem amf {d : D} (h : d ∈ Gx) : d = .str "got" ∨ d = .str "given" ∨ d = .str "failed" ∨ d = .str "rescued" ∨ d = .str "masked" ∨ d = .str "opened" := by
  simp only [Gx, List.mem_cons, List.not_mem_nil, or_false] at h
  rcases h with h | h | h | h | h | h | h | h | h | h <;> simp [h]
theorem yI {ns : List Str} {d : D} (hn : ∀ x ∈ ns, Nm x) (h : d ∈ ns.map D.str) : ∃ s, d = .str s ∧ Nm s := by
  obtain ⟨s, hs, rfl⟩ := List.mem_map.mp h
  exact ⟨s, rfl, hn s hs⟩
section
variable {Z M k : Nat} {ow : Nat → Nat × Nat} {g : AH} {x : Cell} {m : Wm}
theorem akK (w : Well g.length (g ++ [x]) k) (hk : k < 1000) (l : LS Z M ow g m) (ok : m.ok) (h0 : 0 < m.ts.length) {gs ms : List Str} (hg : ∀ x ∈ gs, Nm x) (hm : ∀ x ∈ ms, Nm x) (g0 : 0 < gs.length) (m0 : 0 < ms.length) (g1 : gs.length < 900) (m1 : ms.length < 900) :
    ∃ (r : Rw) (y : Cell), rF [.ref g.length, .ref M, .lst (gs.map D.str), .lst (ms.map D.str)] (g ++ [x]) = .ok r.enc (g ++ [y]) ∧ r.ok ∧ W0 r ∧ r.num < m.ts.length := by
  obtain ⟨d, h1, e1, q1, w1, f1⟩ := Gp (ds := Gx) w (by omega) (by decide) (by decide)
  obtain ⟨y1, rfl⟩ := pK f1
  obtain ⟨i, h2, e2, i0, i1, w2, f2⟩ := pX (m := (m.ts.length : Int)) w1 (by omega) (by omega) (by have := ok.n; omega)
  obtain ⟨y2, rfl⟩ := pK f2
  obtain ⟨n, rfl⟩ := afP i0
  have hn : n < m.ts.length := by omega
  have L2 := l.app [y2]
  have ht : m.ts[n]? = some m.ts[n] := List.getElem?_eq_getElem hn
  generalize m.ts[n] = t at ht
  have ll := L2.l
  have l1 := (l.app [y1]).l
  have ld := oY L2 ht
  have lb := L2.b n t ht
  have a1 := qN (F := fun t : Tk => D.ref t.d) ht
  have nn := DW lb
  rw [Gv] at nn
  have tok := ok.t t (fJ ht)
  obtain ⟨dg, h3, e3, q3, w3, f3⟩ := Gp (ds := gs.map D.str) w2 (by omega) (by simpa using g0) (by simp; omega)
  obtain ⟨y3, rfl⟩ := pK f3
  obtain ⟨sg, rfl, ng⟩ := yI hg q3
  obtain ⟨dm, h4, e4, q4, w4, f4⟩ := Gp (ds := ms.map D.str) w2 (by omega) (by simpa using m0) (by simp; omega)
  obtain ⟨y4, rfl⟩ := pK f4
  obtain ⟨sm, rfl, nm⟩ := yI hm q4
  obtain ⟨i5, h5, e5, j0, j1, w5, f5⟩ := pX (m := 2) w2 (by omega) (by decide) (by decide)
  obtain ⟨y5, rfl⟩ := pK f5
  obtain ⟨dh, h6, e6, q6, w6, f6⟩ := Gp (ds := gs.map D.str) w5 (by omega) (by simpa using g0) (by simp; omega)
  obtain ⟨y6, rfl⟩ := pK f6
  obtain ⟨sh, rfl, nh⟩ := yI hg q6
  have lb5 := (l.app [y5]).b n t ht
  have lm : (List.map (fun t : Tk => D.ref t.d) m.ts).length = m.ts.length := List.length_map _
  unfold Gx at e1
  unfold rF
  generalize uE = P1 at e1 e3 e4 e6 ⊢
  generalize dX = P2 at e2 e5 ⊢
  rcases amf q1 with rfl | rfl | rfl | rfl | rfl | rfl
  · refine ⟨.got n sg, y3, ?_, ng, trivial, hn⟩
    (wp_walk using "ew", aP, aJ, aK, aM, aN, aO, Rw.enc, l1, lm, ll, e1, e2, a1, ld, e3)
  · cases hh : t.had.isEmpty with
    | true =>
      rw [hh] at nn
      refine ⟨.given n sg, y3, ?_, ng, trivial, hn⟩
      (wp_walk using "ew", aP, aJ, aK, aM, aN, aO, Rw.enc, l1, lm, ll, e1, e2, a1, ld, nn, e3)
    | false =>
      rw [hh] at nn
      by_cases z : i5 = 0
      · subst z
        rcases List.eq_nil_or_concat t.had with e | ⟨l0, s0, e⟩
        · rw [e] at hh; cases hh
        · rw [List.concat_eq_append] at e
          have al : atI (t.had.map D.str) (-1) = some (.str s0) := by
            rw [e, List.map_append]
            exact at_last
          have ns0 : Nm s0 := tok.h s0 (by rw [e]; simp)
          refine ⟨.given n s0, y5, ?_, ns0, trivial, hn⟩
          (wp_walk using "ew", aP, aJ, aK, aM, aN, aO, Rw.enc, l1, lm, ll, e1, e2, a1, ld, nn, e5, sG, lb5, al)
      · have dz : decide (i5 = 0) = false := decide_eq_false z
        refine ⟨.given n sh, y6, ?_, nh, trivial, hn⟩
        (wp_walk using "ew", aP, aJ, aK, aM, aN, aO, Rw.enc, l1, lm, ll, e1, e2, a1, ld, nn, e5, dz, e6)
  · refine ⟨.failed n sm, y4, ?_, nm, trivial, hn⟩
    (wp_walk using "ew", aP, aJ, aK, aM, aN, aO, Rw.enc, l1, lm, ll, e1, e2, a1, ld, e4)
  · refine ⟨.rescued n sm, y4, ?_, nm, trivial, hn⟩
    (wp_walk using "ew", aP, aJ, aK, aM, aN, aO, Rw.enc, l1, lm, ll, e1, e2, a1, ld, e4)
  · refine ⟨.masked n, y2, ?_, trivial, trivial, hn⟩
    (wp_walk using "ew", aP, aJ, aK, aM, aN, aO, Rw.enc, l1, lm, ll, e1, e2, a1, ld)
  · refine ⟨.opened n, y2, ?_, trivial, trivial, hn⟩
    (wp_walk using "ew", aP, aJ, aK, aM, aN, aO, Rw.enc, l1, lm, ll, e1, e2, a1, ld)
end
end dJ
noncomputable section
namespace dJ
open PySem PySem.Spec PyProof.Rows L2 PD
def CB : MS := (aY (bJ (bx 4 0 rF (ak (bx 1 0 j5 (ak (aj 12) aA) aA) (ak (aj 9) (ak (aj 2) (ak (aj 3) aA)))) aA) (PD.gName 13))
    (aY (bJ (bx 4 0 rE (ak (aj 9) (ak (aj 4) (ak (aj 6) (ak (aj 13) aA)))) aA) (PD.gName 14))
    (aY (cD (bZ (aG cY (bx 2 0 d9 (ak (aj 8) (ak (aj 13) aA)) aA) (aG bf (bB cC (ak (eC (.str "")) (ak (bB bQ (ak (aj 11) (ak (aj 14) aA))) aA))) (bB iy (ak (aG cY (aj 14) (eC (.str ""))) aA))))) (bV (eC (.bl false))) cG)
    (aY (cD (bZ (aG cM (aj 14) (eC (.str "")))) (gq (bx 2 0 d8 (ak (aj 9) (ak (aj 13) aA)) aA)) cG)
    (bJ (aG eO (aj 11) (eC (.int (1)))) (PD.gName 11))))))
theorem akL {w : String} {h : AH} : cY (.str (PySem.Str.ofString w)) (.str (PySem.Str.ofString w)) h = some (.bl false, h) := by
  rw [uo]
  simp
theorem acf {i : Int} {w : String} {h : AH} : cY (.tup [.int i, .str (PySem.Str.ofString w)]) (.tup [.int i, .str (PySem.Str.ofString w)]) h = some (.bl false, h) := by
  show (iD h _ _).map _ = _
  have e : iD h (.tup [.int i, .str (PySem.Str.ofString w)]) (.tup [.int i, .str (PySem.Str.ofString w)]) = some true := by
    have s1 : SeqAt.shaped (.tuple [.int i, .str (PySem.Str.ofString w)]) = true := by
      unfold SeqAt.shaped
      simp only [PyData.canLay0, PyData.canLayAll0, PyData.depth, PyData.depthAll, GB.jy (GB.dU w), Bool.and_true, Bool.true_and]
      rfl
    show (if SeqAt.shaped (.tuple [.int i, .str (PySem.Str.ofString w)]) = true ∧ SeqAt.shaped (.tuple [.int i, .str (PySem.Str.ofString w)]) = true then some (PyData.eqv (.tuple [.int i, .str (PySem.Str.ofString w)]) (.tuple [.int i, .str (PySem.Str.ofString w)])) else none) = _
    rw [if_pos ⟨s1, s1⟩]
    have e2 : PyData.eqv (.tuple [.int i, .str (PySem.Str.ofString w)]) (.tuple [.int i, .str (PySem.Str.ofString w)]) = (decide (i = i) && ((PySem.Str.ofString w == PySem.Str.ofString w) && true)) := rfl
    rw [e2]
    simp
  rw [e]
  rfl
theorem ahT {w : String} {h : AH} (e : ¬ w = "") : cY (.str (PySem.Str.ofString w)) (.str (PySem.Str.ofString "")) h = some (.bl true, h) := by
  rw [uo, decide_eq_false e]
  rfl
theorem amg {w : String} {h : AH} (e : ¬ w = "") : cM (.str (PySem.Str.ofString w)) (.str (PySem.Str.ofString "")) h = some (.bl false, h) := by
  rw [wD, decide_eq_false e]
theorem mem_set {ts : List Tk} {n : Nat} {u v : Tk} (h : v ∈ ts.set n u) : v ∈ ts ∨ v = u := List.mem_or_eq_of_mem_set h
theorem akM {t : Tk} (ok : t.ok) {r : Rw} (ro : r.ok) (n : t.had.length < 1000) : (cH t r).ok := by
  cases r with
  | got n s => exact ⟨ok.g, ok.f, fun x hx => by
      rcases List.mem_append.mp hx with h | h
      · exact ok.h x h
      · rw [List.mem_singleton.mp h]; exact ro, by simp [cH]; omega⟩
  | given n s => exact ⟨ok.g, ok.f, fun x hx => ok.h x (ab1 hx), Nat.le_trans (Ji _) ok.n⟩
  | failed n s => exact ⟨ro, ok.f, ok.h, ok.n⟩
  | rescued n s => exact ⟨trivial, ok.f, ok.h, ok.n⟩
  | masked n => exact ⟨ok.g, ok.f, ok.h, ok.n⟩
  | opened n => exact ⟨ok.g, ok.f, ok.h, ok.n⟩
  | ended n o => exact ⟨ok.g, fun o2 e => by cases e; exact ro, ok.h, ok.n⟩
theorem amh {t : Tk} (ok : t.ok) (e : Nat) : ({ t with e := e } : Tk).ok := ⟨ok.g, ok.f, ok.h, ok.n⟩
theorem adw {m : Wm} (ok : m.ok) {n : Nat} {u : Tk} (hu : u.ok) : (setT m n u).ok := ⟨fun t ht => by
    rcases mem_set ht with h | rfl
    · exact ok.t t h
    · exact hu, by show (m.ts.set n u).length ≤ 12; rw [List.length_set]; exact ok.n, ok.z⟩
theorem aiP {t : Tk} (r : Rw) : (cH t r).had.length ≤ t.had.length + 1 := by
  cases r with
  | got n s => simp [cH]
  | given n s => exact Nat.le_succ_of_le (Ji _)
  | _ => simp [cH]
structure St (A : WA) (Z M : Nat) (ow : Nat → Nat × Nat) (h : AH) (m : Wm) (N : Nat) : Prop where
  w : WS A ow h m
  l : LS Z M ow h m
  ok : m.ok
  pl : Plain m
  mu : m.must = .non
  n0 : 0 < m.ts.length
  lv : ∀ t ∈ m.ts, t.fin = none
  bg : ∀ (k : Nat) (t : Tk), m.ts[k]? = some t → t.bg = if k = 0 then none else some 0
  b : ∀ t ∈ m.ts, t.had.length ≤ N
theorem Sq {m : Wm} (ok : m.ok) : (tk1 m).ok := ⟨ok.t, ok.n, ok.z⟩
section
variable {A : WA} {Z M : Nat} {ow : Nat → Nat × Nat} {h : AH} {m : Wm} {n N : Nat} {t u : Tk}
theorem LS.tk1 (l : LS Z M ow h m) : LS Z M ow h (tk1 m) := ⟨l.z, l.l, l.d, l.b, l.oa, l.os⟩
theorem LS.seen (l : LS Z M ow h m) (w : WS A ow h m) (hn : m.ts[n]? = some t) (m2 : Wm) : LS Z M ow (tick A m2 (vJ h t u)) m := by
  obtain ⟨oa, ob, oc⟩ := w.os n t hn
  unfold tick vJ
  exact ((l.away (by rw [oa]; exact (by decide : 5 < 9))).away (by rw [ob]; exact (by decide : 6 < 9))).away (by rw [w.oa.1]; decide)
theorem cell_step {x0 x1 x5 x7 x10 m9 ni : Option D} {gs ms : List Str} (hg : ∀ x ∈ gs, Nm x) (hm : ∀ x ∈ ms, Nm x) (g0 : 0 < gs.length) (m0 : 0 < ms.length) (g1 : gs.length < 900) (m1 : ms.length < 900) (i : Int) (S : St A Z M ow h m N) (hN : N < 900) :
    ∃ (eZ : Nat → Nat × Nat) (m' : Wm) (y13 y14 : Option D) (h' : AH), St A Z M eZ h' m' (N + 1) ∧ m'.many = m.many + 1 ∧ m'.raw = m.raw ∧
      CB [x0, x1, some (.lst (gs.map D.str)), some (.lst (ms.map D.str)), some (.ref Z), x5, some (.bl m.raw), x7, some (.ref A.B), some (.ref M), x10, some (.int m.many), some (.int i), m9, ni] h =
        .nx [x0, x1, some (.lst (gs.map D.str)), some (.lst (ms.map D.str)), some (.ref Z), x5, some (.bl m.raw), x7, some (.ref A.B), some (.ref M), x10, some (.int (m.many + 1)), some (.int i), y13, y14] h' := by
  obtain ⟨h1, e1, w1, x, rfl⟩ := ac5 i h
  obtain ⟨r, y, e2, ro, rc, rn⟩ := akK w1 (by decide) S.l S.ok S.n0 hg hm g0 m0 g1 m1
  have W := S.w.app [y]
  have L := S.l.app [y]
  have ht : m.ts[r.num]? = some m.ts[r.num] := List.getElem?_eq_getElem rn
  generalize m.ts[r.num] = t at ht
  have tm := fJ ht
  have e3 := ag0 L S.ok S.pl r ro rc ht
  have al := aiL S.pl S.lv r rc ht
  rw [← al] at e3
  have hf := S.lv t tm
  have i1 := tD (cs := vh) (mn := "see") W.w (by simp) (gM (by decide +kernel))
  by_cases hd : jw m t r = ""
  · have es := afJ W S.ok S.mu r ro ht hf hd
    have e4 := Ea es i1
    rw [hd] at e3
    have L4 := L.seen W ht (u := cH t r) (setT m r.num (cH t r))
    obtain ⟨e', eZ, h', e5, L5, tr⟩ := afO L4 S.ok r ro rc ht (afI hd)
    have W4 : WS A ow (tick A (setT m r.num (cH t r)) (vJ (h ++ [y]) t (cH t r))) (tk1 (setT m r.num { cH t r with e := e' })) :=
      zW (W.put (u := { cH t r with e := e' }) ht (by cases r <;> rfl) (by cases r <;> rfl) (by cases r <;> rfl) (by cases r <;> rfl))
    have W5 := tr A _ W4
    have tb := S.b t tm
    have mem2 : ∀ v ∈ (setT m r.num { cH t r with e := e' }).ts, v ∈ m.ts ∨ v = { cH t r with e := e' } := fun v hv => mem_set hv
    refine ⟨eZ, tk1 (setT m r.num { cH t r with e := e' }), some r.enc, some (.str ""), h', ⟨W5, L5.tk1, Sq (adw S.ok (amh (akM (S.ok.t t tm) ro (by omega)) e')), ⟨fun v hv => ?_, fun v hv => ?_, fun v hv => ?_⟩, S.mu, ?_, fun v hv => ?_, fun k v q => ?_, fun v hv => ?_⟩, rfl, rfl, ?_⟩
    · rcases mem2 v hv with h | rfl
      · exact S.pl.g v h
      · have := S.pl.g t tm
        cases r <;> first | exact this | exact fun z => by cases z
    · rcases mem2 v hv with h | rfl
      · exact S.pl.l v h
      · have := S.pl.l t tm
        cases r <;> exact this
    · rcases mem2 v hv with h | rfl
      · exact S.pl.d v h
      · have := S.pl.d t tm
        cases r <;> exact this
    · show 0 < (m.ts.set _ _).length
      rw [List.length_set]; exact S.n0
    · rcases mem2 v hv with h | rfl
      · exact S.lv v h
      · cases r <;> first | exact hf | exact rc.elim
    · have q : (m.ts.set r.num { cH t r with e := e' })[k]? = some v := q
      by_cases z : r.num = k
      · rw [z, List.getElem?_set_self (by rw [← z]; exact rn)] at q
        cases q
        have := S.bg _ t ht
        rw [z] at this
        cases r <;> exact this
      · rw [List.getElem?_set_ne z] at q
        exact S.bg k v q
    · rcases mem2 v hv with h | rfl
      · exact Nat.le_succ_of_le (S.b v h)
      · exact Nat.le_trans (aiP r) (by omega)
    · unfold CB
      generalize j5 = P1 at e1 ⊢
      generalize rF = P2 at e2 ⊢
      generalize rE = P3 at e3 ⊢
      generalize d9 = P4 at e4 ⊢
      generalize d8 = P5 at e5 ⊢
      (wp_walk using "ew", aP, aJ, aK, aM, aN, aO, e1, e2, e3, e4, e5, iy)
  · have e4 := Sd (ado W S.ok S.mu r ro ht hf hd) i1
    have L4 : LS Z M ow (tick A m (h ++ [y])) m := L.away (by rw [W.oa.1]; decide)
    refine ⟨ow, tk1 m, some r.enc, some (.str (jw m t r)), _, ⟨zW W, L4.tk1, Sq S.ok, ⟨S.pl.g, S.pl.l, S.pl.d⟩, S.mu, S.n0, S.lv, S.bg, fun v hv => Nat.le_succ_of_le (S.b v hv)⟩, rfl, rfl, ?_⟩
    unfold CB
    have n1 := fun h => ahT hd (h := h)
    have n2 := fun h => amg hd (h := h)
    have n3 := fun h => acf (i := m.many) (w := jw m t r) (h := h)
    generalize j5 = P1 at e1 ⊢
    generalize rF = P2 at e2 ⊢
    generalize rE = P3 at e3 ⊢
    generalize d9 = P4 at e4 ⊢
    generalize d8 = P5
    generalize jw m t r = dw at *
    (wp_walk using "ew", aP, aJ, aK, aM, aN, aO, e1, e2, e3, e4, iy, n1, n2, n3)
theorem Ss {x0 x1 x5 x7 x10 : Option D} {gs ms : List Str} (hg : ∀ x ∈ gs, Nm x) (hm : ∀ x ∈ ms, Nm x) (g0 : 0 < gs.length) (m0 : 0 < ms.length) (g1 : gs.length < 900) (m1 : ms.length < 900) : ∀ (ds : List D) (x12 m9 ni : Option D) (ow : Nat → Nat × Nat) (m : Wm) (N : Nat) (h : AH), (∀ d ∈ ds, ∃ c : Int, d = .int c) → St A Z M ow h m N → N + ds.length < 900 →
    ∃ (eZ : Nat → Nat × Nat) (m' : Wm) (N' : Nat) (y12 y13 y14 : Option D) (h' : AH), St A Z M eZ h' m' N' ∧ m'.raw = m.raw ∧
      forL (PD.gName 12) CB ds [x0, x1, some (.lst (gs.map D.str)), some (.lst (ms.map D.str)), some (.ref Z), x5, some (.bl m.raw), x7, some (.ref A.B), some (.ref M), x10, some (.int m.many), x12, m9, ni] h =
        .nx [x0, x1, some (.lst (gs.map D.str)), some (.lst (ms.map D.str)), some (.ref Z), x5, some (.bl m.raw), x7, some (.ref A.B), some (.ref M), x10, some (.int m'.many), y12, y13, y14] h'
  | [], x12, m9, ni, ow, m, N, h, _, S, _ => ⟨ow, m, N, x12, m9, ni, h, S, rfl, rfl⟩
  | d :: ds, x12, m9, ni, ow, m, N, h, hd, S, hN => by
    rw [List.length_cons] at hN
    obtain ⟨i, rfl⟩ := hd d List.mem_cons_self
    obtain ⟨Vk, m1', y13, y14, h1, S1, many1, aep, e1⟩ := cell_step (x0 := x0) (x1 := x1) (x5 := x5) (x7 := x7) (x10 := x10) (m9 := m9) (ni := ni) hg hm g0 m0 g1 m1 i S (by omega)
    obtain ⟨tK, m2, N2, z12, z13, z14, h2, S2, anG, e2⟩ := Ss (x0 := x0) (x1 := x1) (x5 := x5) (x7 := x7) (x10 := x10) hg hm g0 m0 g1 m1 ds (some (.int i)) y13 y14 Vk m1' (N + 1) h1 (fun d h => hd d (List.mem_cons_of_mem _ h)) S1 (by omega)
    refine ⟨tK, m2, N2, z12, z13, z14, h2, S2, anG.trans aep, ?_⟩
    rw [many1, aep] at e2
    unfold forL
    generalize CB = C at e1 e2 ⊢
    (wp_walk using "ew", aP, aJ, aK, aM, aN, aO, e1)
    exact e2
end
end dJ
noncomputable section
namespace dJ
open PySem PySem.Spec PyProof.Rows L2 PD
def jx : Go → Ot
  | .on => .done
  | .killed => .killed
  | .failed s => .failed s
theorem aiQ {g : Go} (ok : g.ok) : (jx g).ok := by
  cases g with
  | failed s => exact ok
  | _ => trivial
theorem ag5 {m : Wm} {n : Nat} {t : Tk} (nk : t.goes ≠ .killed) : qM m n t (jx t.goes) = true := by
  cases h : t.goes with
  | on => simp [jx, qM, h, offB]
  | killed => exact absurd h nk
  | failed s => simp [jx, qM, xZ, h, Uo, xX]
def Jj (m : Wm) : Bool := (m.ts.drop 1).any fun u => u.fin.isNone
def zj (m : Wm) (n : Nat) (t : Tk) : String := if t.shut then "held" else if Jj m && decide (n = 0) then "outlives" else if !t.had.isEmpty && !m.raw then "keeps" else ""
def BgI (m : Wm) : Prop := ∀ (k : Nat) (t : Tk), m.ts[k]? = some t → t.bg = if k = 0 then none else some 0
theorem ag6 {m : Wm} (n0 : 0 < m.ts.length) (bg : BgI m) (n : Nat) : DY m n = (Jj m && decide (n = 0)) := by
  unfold DY Jj
  unfold BgI at bg
  cases h : m.ts with
  | nil => rw [h] at n0; cases n0
  | cons t0 rest =>
    rw [h] at bg
    have b0 : t0.bg = none := bg 0 t0 rfl
    have br : ∀ u ∈ rest, u.bg = some 0 := fun u hu => by
      obtain ⟨k, hk⟩ := zV hu
      have := bg (k + 1) u (by rw [List.getElem?_cons_succ]; exact hk)
      rw [if_neg (by omega)] at this
      exact this
    rw [List.any_cons, b0]
    show (false && _ || _) = _
    rw [Bool.false_and, Bool.false_or, List.drop_one, List.tail_cons]
    by_cases z : n = 0
    · subst z
      rw [decide_eq_true rfl, Bool.and_true]
      have e : ∀ u ∈ rest, (decide (u.bg = some 0) && u.fin.isNone) = u.fin.isNone := fun u hu => by rw [br u hu]; simp
      rw [Bool.eq_iff_iff, List.any_eq_true, List.any_eq_true]
      exact ⟨fun ⟨u, hu, q⟩ => ⟨u, hu, by rw [← e u hu]; exact q⟩, fun ⟨u, hu, q⟩ => ⟨u, hu, by rw [e u hu]; exact q⟩⟩
    · rw [decide_eq_false z, Bool.and_false, List.any_eq_false]
      intro u hu
      rw [br u hu]
      have : ¬ (0 : Nat) = n := fun y => z y.symm
      simp [this]
theorem aiR {m : Wm} {n : Nat} {t : Tk} (n0 : 0 < m.ts.length) (bg : BgI m) (pl : Plain m) (hn : m.ts[n]? = some t) : jw m t (.ended n (jx t.goes)) = zj m n t := by
  have tm := fJ hn
  simp only [jw, zj]
  rw [pl.l t tm, pl.d t tm, ag5 (pl.g t tm), ag6 n0 bg]
  cases t.shut <;> cases (Jj m && decide (n = 0)) <;> cases (!t.had.isEmpty && !m.raw) <;> rfl
theorem aer {ds : List D} {h : AH} : neL cY (.lst ds) (.lst []) h = some (.bl (!ds.isEmpty), h) := by
  cases ds with
  | nil =>
    have e2 := (qL (h := h) (d := .lst []) (e := .lst []) rfl rfl rfl rfl (by simp [PyData.depth, PyData.depthAll]) (by simp [PyData.depth, PyData.depthAll])).2
    unfold neL
    show (if ([] : List D).length ≠ ([] : List D).length then _ else cY (.lst []) (.lst []) h) = _
    rw [if_neg (by simp), e2]
    rfl
  | cons d ds => rfl
theorem aiS {xs : List D} : PD.cutD xs (some 1) none = xs.drop 1 := by
  unfold PD.cutD
  rw [show (some (1 : Int)) = some ((1 : Nat) : Int) from rfl, HT.sIx_none, HT.sIx_nat]
  cases xs with
  | nil => rfl
  | cons x xs =>
    have e : min 1 (x :: xs).length = 1 := by simp
    rw [e]
    exact List.take_of_length_le (by simp)
def EB : MS := (aY (bJ (aG bf (aj 1) (aj 4)) (PD.gName 5))
    (aY (bJ (bB bQ (ak (eC (.str "done")) aA)) (PD.gName 6))
    (aY (cD (bZ (aG qd (aG bf (aj 5) (eC (.str "mark"))) (eC .non))) (bJ (bB bQ (ak (eC (.str "failed")) (ak (aG bf (aj 5) (eC (.str "mark"))) aA))) (PD.gName 6)) cG)
    (aY (bJ (eC (.str "")) (PD.gName 7))
    (aY (cD (eE (aG bf (aj 5) (eC (.str "shut")))) (bJ (eC (.str "held")) (PD.gName 7)) (cD (jD (bZ (aG (neL cY) (kJ (jY (qI (aj 1) (gY (eC (.int (1)))) rB)) (PD.gName 8) (eE (aG bf (aj 8) (eC (.str "lives")))) (aj 8) [8]) (bB cC aA))) (bZ (aG cM (aj 4) (eC (.int (0)))))) (bJ (eC (.str "outlives")) (PD.gName 7)) (cD (jD (bZ (aG (neL cY) (aG bf (aj 5) (eC (.str "had"))) (bB cC aA))) (ou (eE (aj 2)))) (bJ (eC (.str "keeps")) (PD.gName 7)) cG)))
    (aY (cD (bZ (aG (neL cY) (bx 2 0 d9 (ak (aj 0) (ak (bB bQ (ak (eC (.str "ended")) (ak (aj 4) (ak (aj 6) aA)))) aA)) aA) (aG bf (bB cC (ak (eC (.str "")) (ak (bB bQ (ak (aj 3) (ak (aj 7) aA))) aA))) (bB iy (ak (aG (neL cY) (aj 7) (eC (.str ""))) aA))))) (bV (eC (.bl false))) cG)
    (aY (bJ (aG (neL cY) (aj 7) (eC (.str ""))) (jE (aj 5) (eC (.str "lives"))))
    (bJ (aG eO (aj 3) (eC (.int (1)))) (PD.gName 3)))))))))
def WI : MS := (cD (eE (aG bf (aj 5) (eC (.str "shut")))) (bJ (eC (.str "held")) (PD.gName 7)) (cD (jD (bZ (aG (neL cY) (kJ (jY (qI (aj 1) (gY (eC (.int (1)))) rB)) (PD.gName 8) (eE (aG bf (aj 8) (eC (.str "lives")))) (aj 8) [8]) (bB cC aA))) (bZ (aG cM (aj 4) (eC (.int (0)))))) (bJ (eC (.str "outlives")) (PD.gName 7)) (cD (jD (bZ (aG (neL cY) (aG bf (aj 5) (eC (.str "had"))) (bB cC aA))) (ou (eE (aj 2)))) (bJ (eC (.str "keeps")) (PD.gName 7)) cG)))
section
variable {A : WA} {Z M : Nat} {ow : Nat → Nat × Nat} {h : AH} {m : Wm} {n N : Nat} {t u : Tk}
theorem akQ (l : LS Z M ow h m) (ok : m.ok) (hn : m.ts[n]? = some t) {x0 x3 x6 x8 : Option D} :
    WI [x0, some (.ref M), some (.bl m.raw), x3, some (.int (n : Int)), some (.ref t.d), x6, some (.str ""), x8] h = .nx [x0, some (.ref M), some (.bl m.raw), x3, some (.int (n : Int)), some (.ref t.d), x6, some (.str (zj m n t)), x8] h := by
  have ld := oY l hn
  have ll := l.l
  have lb := l.b n t hn
  have nn := DW lb
  rw [Gv] at nn
  have sl : tH (.ref M) (some 1) none h = some (.lst ((m.ts.drop 1).map fun t => D.ref t.d), h) := by
    simp only [tH, ll, aiS, List.map_drop]
  have lc := tL (g := PD.gName 8) (t := (eE (aG bf (aj 8) (eC (.str "lives"))))) (f := aj 8) (own := [8]) (e := [x0, some (.ref M), some (.bl m.raw), x3, some (.int (n : Int)), some (.ref t.d), x6, some (.str ""), x8]) (h := h) (G := fun t : Tk => D.ref t.d) (F := fun t => D.ref t.d) (T := fun u => u.fin.isNone) (m.ts.drop 1) [] (fun v hv => by
    obtain ⟨k, e⟩ := zV (List.mem_of_mem_drop hv)
    have q := oY l e
    refine ⟨[x0, some (.ref M), some (.bl m.raw), x3, some (.int (n : Int)), some (.ref t.d), x6, some (.str ""), some (.ref v.d)], ?_, ?_, fun _ => ?_⟩
    · (wp_walk using "ew", aP, aJ, aK, aM, aN, aO)
    · (wp_walk using "ew", aP, aJ, aK, aM, aN, aO, q)
    · (wp_walk using "ew", aP, aJ, aK, aM, aN, aO)) (by have := ok.n; simp only [List.length_nil, List.length_drop]; omega)
  rw [List.nil_append] at lc
  have en : ∀ h, neL cY (.lst (((m.ts.drop 1).filter fun u => u.fin.isNone).map fun t => D.ref t.d)) (.lst []) h = some (.bl (Jj m), h) := fun h => by
    rw [aer]
    congr 3
    unfold Jj
    generalize m.ts.drop 1 = xs
    induction xs with
    | nil => rfl
    | cons x xs ih =>
      rw [List.filter_cons, List.any_cons]
      cases x.fin.isNone with
      | true => rfl
      | false => simpa using ih
  have dn : decide ((n : Int) = 0) = decide (n = 0) := by
    by_cases z : n = 0
    · subst z; rfl
    · rw [decide_eq_false z, decide_eq_false (by omega)]
  unfold WI zj
  generalize (gName 8 : MG) = G8 at lc ⊢
  cases h1 : t.shut <;> rw [h1] at ld
  · cases h2 : Jj m <;> simp only [h2] at en <;> cases h3 : decide (n = 0) <;> rw [h3] at dn <;> cases h4 : t.had.isEmpty <;> rw [h4] at nn <;> cases h5 : m.raw <;> rw [h5] at lc <;> (wp_walk using "ew", aP, aJ, aK, aM, aN, aO, ld, sl, lc, en, dn, nn, Bool.true_and, Bool.false_and, Bool.and_true, Bool.and_false)
  · (wp_walk using "ew", aP, aJ, aK, aM, aN, aO, ld)
structure En (A : WA) (Z M : Nat) (ow : Nat → Nat × Nat) (h : AH) (m : Wm) (i : Nat) : Prop where
  w : WS A ow h m
  l : LS Z M ow h m
  ok : m.ok
  pl : Plain m
  mu : m.must = .non
  bg : BgI m
  lv : ∀ (k : Nat) (t : Tk), m.ts[k]? = some t → k < i → t.fin = none
theorem afQ {g : Go} (nk : g ≠ .killed) : (jx g).enc = if offB g then .tup [.str "failed", markD g] else .tup [.str "done"] := by
  cases g with
  | on => rfl
  | killed => exact absurd rfl nk
  | failed s => rfl
theorem ag7 (S : En A Z M ow h m (n + 1)) (hn : m.ts[n]? = some t) {x5 x6 x7 x8 : Option D} : ∃ (m' : Wm) (y5 y6 y7 : Option D) (h' : AH), En A Z M ow h' m' n ∧ m'.many = m.many + 1 ∧ m'.raw = m.raw ∧ m'.ts.length = m.ts.length ∧
    EB [some (.ref A.B), some (.ref M), some (.bl m.raw), some (.int m.many), some (.int (n : Int)), x5, x6, x7, x8] h = .nx [some (.ref A.B), some (.ref M), some (.bl m.raw), some (.int (m.many + 1)), some (.int (n : Int)), y5, y6, y7, x8] h' := by
  have tm := fJ hn
  have ln := (List.getElem?_eq_some_iff.mp hn).1
  have n0 : 0 < m.ts.length := by omega
  have hf := S.lv n t hn (by omega)
  have nk := S.pl.g t tm
  have oo := aiQ (S.ok.t t tm).g
  have ae := aiR n0 S.bg S.pl hn
  have i1 := tD (cs := vh) (mn := "see") S.w.w (by simp) (gM (by decide +kernel))
  have ld := oY S.l hn
  have ll := S.l.l
  have a1 := qN (F := fun t : Tk => D.ref t.d) hn
  have mn := ab8 nk
  have gm := afQ nk
  have we := fun x6 => akQ S.l S.ok hn (x0 := some (.ref A.B)) (x3 := some (.int m.many)) (x6 := x6) (x8 := x8)
  by_cases hd : zj m n t = ""
  · have hd2 := ae.trans hd
    have e4 := Ea (afJ S.w S.ok S.mu (.ended n (jx t.goes)) oo hn hf hd2) i1
    have W4 := zW (S.w.put (u := cH t (.ended n (jx t.goes))) hn rfl rfl rfl rfl)
    have L4 := S.l.seen S.w hn (u := cH t (.ended n (jx t.goes))) (setT m n (cH t (.ended n (jx t.goes))))
    obtain ⟨od, oe⟩ := S.l.os n t hn
    have L5 := (L4.acd (u := cH t (.ended n (jx t.goes))) hn rfl rfl rfl).tk1
    have W5 := W4.away (x := t.d) (c := qD (cH t (.ended n (jx t.goes)))) (by rw [od]; exact (by decide : 8 ≤ 10))
    have ld4 := oY L4 hn
    have mem2 : ∀ v ∈ (setT m n (cH t (.ended n (jx t.goes)))).ts, v ∈ m.ts ∨ v = cH t (.ended n (jx t.goes)) := fun v hv => mem_set hv
    have te : (cH t (.ended n (jx t.goes))).ok := ⟨(S.ok.t t tm).g, fun o2 e => by cases e; exact oo, (S.ok.t t tm).h, (S.ok.t t tm).n⟩
    refine ⟨tk1 (setT m n (cH t (.ended n (jx t.goes)))), some (.ref t.d), some (jx t.goes).enc, some (.str ""), _, ⟨W5, L5, Sq (adw S.ok te), ⟨fun v hv => ?_, fun v hv => ?_, fun v hv => ?_⟩, S.mu, fun k v q => ?_, fun k v q hk => ?_⟩, rfl, rfl, ?_, ?_⟩
    · rcases mem2 v hv with h | rfl
      · exact S.pl.g v h
      · exact nk
    · rcases mem2 v hv with h | rfl
      · exact S.pl.l v h
      · exact S.pl.l t tm
    · rcases mem2 v hv with h | rfl
      · exact S.pl.d v h
      · exact S.pl.d t tm
    · have q : (m.ts.set n (cH t (.ended n (jx t.goes))))[k]? = some v := q
      by_cases z : n = k
      · subst z
        rw [List.getElem?_set_self ln] at q
        cases q
        exact S.bg n t hn
      · rw [List.getElem?_set_ne z] at q
        exact S.bg k v q
    · have q : (m.ts.set n (cH t (.ended n (jx t.goes))))[k]? = some v := q
      rw [List.getElem?_set_ne (by omega)] at q
      exact S.lv k v q (by omega)
    · show (m.ts.set n _).length = _
      rw [List.length_set]
    · rw [hd] at we
      have nl : ∀ h, neL cY (.str "") (.str "") h = some (.bl false, h) := fun h => uo
      have ffin : (cH t (.ended n (jx t.goes))).fin.isNone = false := rfl
      unfold EB
      unfold WI at we
      simp only [Rw.enc, Rw.num] at e4
      rw [gm] at e4 ⊢
      generalize hW : (cD (eE (aG bf (aj 5) (eC (.str "shut")))) (bJ (eC (.str "held")) (PD.gName 7)) (cD (jD (bZ (aG (neL cY) (kJ (jY (qI (aj 1) (gY (eC (.int (1)))) rB)) (PD.gName 8) (eE (aG bf (aj 8) (eC (.str "lives")))) (aj 8) [8]) (bB cC aA))) (bZ (aG cM (aj 4) (eC (.int (0)))))) (bJ (eC (.str "outlives")) (PD.gName 7)) (cD (jD (bZ (aG (neL cY) (aG bf (aj 5) (eC (.str "had"))) (bB cC aA))) (ou (eE (aj 2)))) (bJ (eC (.str "keeps")) (PD.gName 7)) cG))) = W1 at we ⊢
      clear hW
      generalize d9 = P4 at e4 ⊢
      unfold qD
      rw [ffin]
      generalize hH : tick A (setT m n (cH t (.ended n (jx t.goes)))) (vJ h t (cH t (.ended n (jx t.goes)))) = H4 at *
      cases hb : offB t.goes <;> rw [hb] at mn e4 <;> simp only [Bool.false_eq_true, if_true, if_false] at e4 ⊢ <;> (wp_walk using "ew", aP, aJ, aK, aM, aN, aO, ll, a1, ld, mn, we, e4, nl, iy, ld4, ab9, Nat.reduceLT)
      all_goals rfl
  · have hd2 : ¬ jw m t (.ended n (jx t.goes)) = "" := by rw [ae]; exact hd
    have e4 := Sd (ado S.w S.ok S.mu (.ended n (jx t.goes)) oo hn hf hd2) i1
    rw [ae] at e4
    have W4 := zW S.w
    have L4 : LS Z M ow (tick A m h) m := S.l.away (by rw [S.w.oa.1]; decide)
    have ld4 := oY L4 hn
    rw [hf] at ld4
    simp only [Option.isNone_none] at ld4
    have sid := m7 ld4
    refine ⟨tk1 m, some (.ref t.d), some (jx t.goes).enc, some (.str (zj m n t)), _, ⟨W4, L4.tk1, Sq S.ok, ⟨S.pl.g, S.pl.l, S.pl.d⟩, S.mu, S.bg, fun k v q hk => S.lv k v q (by omega)⟩, rfl, rfl, rfl, ?_⟩
    have n1 : ∀ h, neL cY (.str (zj m n t)) (.str "") h = some (.bl true, h) := fun h => ahT hd
    have n3 : ∀ h, neL cY (.tup [.int m.many, .str (zj m n t)]) (.tup [.int m.many, .str (zj m n t)]) h = some (.bl false, h) := fun h => acf
    unfold EB
    unfold WI at we
    simp only [Rw.enc] at e4
    rw [gm] at e4 ⊢
    generalize hW : (cD (eE (aG bf (aj 5) (eC (.str "shut")))) (bJ (eC (.str "held")) (PD.gName 7)) (cD (jD (bZ (aG (neL cY) (kJ (jY (qI (aj 1) (gY (eC (.int (1)))) rB)) (PD.gName 8) (eE (aG bf (aj 8) (eC (.str "lives")))) (aj 8) [8]) (bB cC aA))) (bZ (aG cM (aj 4) (eC (.int (0)))))) (bJ (eC (.str "outlives")) (PD.gName 7)) (cD (jD (bZ (aG (neL cY) (aG bf (aj 5) (eC (.str "had"))) (bB cC aA))) (ou (eE (aj 2)))) (bJ (eC (.str "keeps")) (PD.gName 7)) cG))) = W1 at we ⊢
    clear hW
    generalize d9 = P4 at e4 ⊢
    generalize tick A m h = H4 at *
    generalize zj m n t = dw at *
    cases hb : offB t.goes <;> rw [hb] at mn e4 <;> simp only [Bool.false_eq_true, if_true, if_false] at e4 ⊢ <;> (wp_walk using "ew", aP, aJ, aK, aM, aN, aO, ll, a1, ld, mn, we, e4, n1, n3, iy, ld4, ab9, sid, Nat.reduceLT)
def Gy (i : Nat) : List D := (List.range i).map fun k => D.int ((i : Int) - 1 + (k : Nat) * (-1))
theorem aes (i : Nat) : Gy (i + 1) = .int (i : Int) :: Gy i := by
  unfold Gy
  rw [List.range_succ_eq_map, List.map_cons, List.map_map]
  congr 1
  · congr 1; omega
  · refine List.map_congr_left fun k _ => ?_
    show D.int _ = D.int _
    congr 1
    omega
theorem Vl : ∀ (i : Nat) (m : Wm) (x4 x5 x6 x7 x8 : Option D) (h : AH), En A Z M ow h m i → i ≤ m.ts.length →
    ∃ (m' : Wm) (y4 y5 y6 y7 : Option D) (h' : AH), WS A ow h' m' ∧
      forL (PD.gName 4) EB (Gy i) [some (.ref A.B), some (.ref M), some (.bl m.raw), some (.int m.many), x4, x5, x6, x7, x8] h = .nx [some (.ref A.B), some (.ref M), some (.bl m.raw), some (.int m'.many), y4, y5, y6, y7, x8] h'
  | 0, m, x4, x5, x6, x7, x8, h, S, _ => ⟨m, x4, x5, x6, x7, h, S.w, rfl⟩
  | i + 1, m, x4, x5, x6, x7, x8, h, S, hi => by
    have hn : m.ts[i]? = some m.ts[i] := List.getElem?_eq_getElem (by omega)
    obtain ⟨m1, y5, y6, y7, h1, S1, many1, aep, len1, e1⟩ := ag7 S hn (x5 := x5) (x6 := x6) (x7 := x7) (x8 := x8)
    obtain ⟨m2, z4, z5, z6, z7, h2, W2, e2⟩ := Vl i m1 (some (.int (i : Int))) y5 y6 y7 x8 h1 S1 (by omega)
    refine ⟨m2, z4, z5, z6, z7, h2, W2, ?_⟩
    rw [many1, aep] at e2
    rw [aes]
    unfold forL
    generalize EB = C at e1 e2 ⊢
    (wp_walk using "ew", aP, aJ, aK, aM, aN, aO, e1)
    exact e2
theorem afR (S : En A Z M ow h m m.ts.length) : ∃ h', uF [.ref A.B, .ref M, .bl m.raw, .int m.many] h = .ok (.bl true) h' := by
  obtain ⟨m', y4, y5, y6, y7, h', W, e⟩ := Vl m.ts.length m none none none none none h S (Nat.le_refl _)
  have se := aiJ W
  have i1 := tD (cs := Gm) (mn := "seen") W.w (by simp) (gM (by decide +kernel))
  have ll := S.l.l
  have n12 := S.ok.n
  have rg : Ub [.int (((m.ts.map fun t => D.ref t.d).length : Int) - 1), .int (-1), .int (-1)] h = .ok (Gy m.ts.length) h := by
    rw [List.length_map]
    unfold Ub Gy Gj
    have p : (-1 : Int) = -1 ∧ -(2 ^ 62) ≤ ((m.ts.length : Int) - 1) ∧ ((m.ts.length : Int) - 1) < 2 ^ 62 ∧ -(2 ^ 62) ≤ (-1 : Int) ∧ (-1 : Int) < 2 ^ 62 := ⟨rfl, by omega, by omega, by decide, by decide⟩
    have q : ((m.ts.length : Int) - 1 - (-1)).toNat = m.ts.length := by omega
    simp only [p, and_self, if_true, q]
  have d3 : decide (m'.many = m'.many) = true := decide_eq_true rfl
  refine ⟨h', ?_⟩
  unfold uF
  unfold EB at e
  generalize (aY (bJ (aG bf (aj 1) (aj 4)) (PD.gName 5))
    (aY (bJ (bB bQ (ak (eC (.str "done")) aA)) (PD.gName 6))
    (aY (cD (bZ (aG qd (aG bf (aj 5) (eC (.str "mark"))) (eC .non))) (bJ (bB bQ (ak (eC (.str "failed")) (ak (aG bf (aj 5) (eC (.str "mark"))) aA))) (PD.gName 6)) cG)
    (aY (bJ (eC (.str "")) (PD.gName 7))
    (aY (cD (eE (aG bf (aj 5) (eC (.str "shut")))) (bJ (eC (.str "held")) (PD.gName 7)) (cD (jD (bZ (aG (neL cY) (kJ (jY (qI (aj 1) (gY (eC (.int (1)))) rB)) (PD.gName 8) (eE (aG bf (aj 8) (eC (.str "lives")))) (aj 8) [8]) (bB cC aA))) (bZ (aG cM (aj 4) (eC (.int (0)))))) (bJ (eC (.str "outlives")) (PD.gName 7)) (cD (jD (bZ (aG (neL cY) (aG bf (aj 5) (eC (.str "had"))) (bB cC aA))) (ou (eE (aj 2)))) (bJ (eC (.str "keeps")) (PD.gName 7)) cG)))
    (aY (cD (bZ (aG (neL cY) (bx 2 0 d9 (ak (aj 0) (ak (bB bQ (ak (eC (.str "ended")) (ak (aj 4) (ak (aj 6) aA)))) aA)) aA) (aG bf (bB cC (ak (eC (.str "")) (ak (bB bQ (ak (aj 3) (ak (aj 7) aA))) aA))) (bB iy (ak (aG (neL cY) (aj 7) (eC (.str ""))) aA))))) (bV (eC (.bl false))) cG)
    (aY (bJ (aG (neL cY) (aj 7) (eC (.str ""))) (jE (aj 5) (eC (.str "lives"))))
    (bJ (aG eO (aj 3) (eC (.int (1)))) (PD.gName 3))))))))) = C8 at e ⊢
  generalize (gName 4 : MG) = G4 at e ⊢
  generalize (Ub : List D → AH → Res (List D)) = R3 at rg ⊢
  generalize jX = P6 at se ⊢
  (wp_walk using "ew", aP, aJ, aK, aM, aN, aO, ll, sG, ug, rg, e, fM, i1, se, d3)
end
end dJ
noncomputable section
namespace dJ
open PySem PySem.Spec PyProof.Rows L2 PD
theorem aiT {h : AH} {a b : Nat} {kvs : List (Key × D)} (q : zf kvs) (hl : kvs.length ≤ 1000) (ha : h[a]? = some (.dict kvs)) (hb : h[b]? = some (.dict [])) : jf [.ref a, .ref b] h = .ok .non h := by
  have sa1 : ∀ c, (h.set a c)[a]? = some c := fun c => v7 ha
  have sb1 : ∀ c, (h.set b c)[b]? = some c := fun c => v7 hb
  have lc := Jo (g := ((lB 2 (PD.gCons (PD.gName 2) (PD.gCons (PD.gName 3) PD.gNil))))) (f := (ju (bx 1 0 nO (ak (aj 2) aA) aA) (bx 1 2 (fun ds => pQ (GB.picked (ds ++ []) [0, 1, 2])) (ak (aj 3) aA) (ak (eC (.int (1))) (ak (eC (.int (5))) aA))))) (own := [2, 3]) (e := [some (.ref a), some (.ref b), none, none, none]) (h := h.set a (.gU kvs)) (G := fun p : Key × D => D.tup [keyD p.1, p.2]) (F := fun _ => .bl true) kvs [] (fun p hp => by
    obtain ⟨s, i, rfl, ns, i1, i2⟩ := q p hp
    have e1 := Bv ns (h.set a (.gU kvs))
    have e2 := Hr i1 i2 (h.set a (.gU kvs))
    refine ⟨[some (.ref a), some (.ref b), some (.str s), some (.int i), none], ?_, ?_⟩
    · (wp_walk using "ew", aP, aJ, aK, aM, aN, aO, keyD)
    · (wp_walk using "ew", aP, aJ, aK, aM, aN, aO, e1, e2, pk3)) (by simp only [List.length_nil]; omega)
  have bo : dI (kvs.map fun _ : Key × D => D.bl true) = some (kvs.map fun _ => true) := yE (fun _ : Key × D => true) kvs
  have ba : (kvs.map fun _ : Key × D => true).all id = true := by simp
  unfold jf
  simp only [List.append_nil, List.nil_append] at lc
  generalize (lB 2 (PD.gCons (PD.gName 2) (PD.gCons (PD.gName 3) PD.gNil))) = G at lc ⊢
  (wp_walk using "ew", aP, aJ, aK, aM, aN, aO, pP, ha, hb, itI, sa1, sb1, lc, List.nil_append, eY, allM, mD, items, bo, ba, dI, m7 ha, m7 hb, List.all_nil)
def jm (B S : Nat) (raw : Bool) (kvs : List (Key × D)) (pad : AH) : AH := .ins "Watch" (gK S (S + 1) (S + 5) (S + 6) raw .non 0) :: (pad ++ [.dict kvs, .dict [(.inl 0, .ref (S + 2))], .ins "Seen" (lG .non .non .non false false (.tup [.str "on"]) (.ref (S + 3)) (.ref (S + 4))), .lst [], .lst [], .dict [], .dict []])
theorem aeu {h : AH} {n : Nat} {raw : Bool} {p : Key × D} {ps : List (Key × D)} (q : zf (p :: ps)) (hl : (p :: ps).length ≤ 1000) (hn : h[n]? = some (.dict (p :: ps))) :
    lC "Watch" (fun ds => jg (GB.picked (ds ++ []) [0, 2, 1])) [.bl raw, .ref n] h = .ok (.ref h.length) (h ++ jm h.length (h.length + 2) raw (p :: ps) [.dict []]) := by
  have hn2 : ∀ l, (h ++ l)[n]? = some (.dict (p :: ps)) := fun l => cW hn
  have tn : ∀ l, tTru (.ref n) (h ++ l) = .ok true (h ++ l) := fun l => abO (hn2 l)
  have t1 := aiT (h := h ++ [.ins "Watch" [], .dict []]) (a := n) (b := h.length + 1) q hl (hn2 _) (by rw [ga]; rfl)
  have s1 := DP (h ++ [.ins "Watch" [("sizes", .ref (h.length + 2)), ("raw", .bl raw)], .dict [], .dict (p :: ps), .dict []]) .non .non
  simp only [List.append_assoc, List.length_append, List.length_cons, List.length_nil, Nat.zero_add, Nat.reduceAdd, Nat.add_assoc, List.cons_append, List.nil_append] at s1
  unfold lC jg jm gK
  generalize (lC "Seen" fun ds => iV (GB.picked (ds ++ []) [0, 1, 2])) = S1 at s1 ⊢
  generalize jf = P1 at t1 ⊢
  generalize p :: ps = kvs at *
  (wp_walk using "ew", aP, aJ, aK, aM, aN, aO, ahL, tn, pO, t1, s1, hn2, cJ, jC, ga, R4, sa, Hq, j7, j6, iW, List.append_assoc, List.length_append, List.mem_singleton, Nat.reduceLT, sO, oG, vg, keysOf, vf, List.foldl_cons, List.foldl_nil, Nat.add_assoc, dO, List.any_nil)
theorem aev {h : AH} {n : Nat} {raw : Bool} (hn : h[n]? = some (.dict [])) :
    lC "Watch" (fun ds => jg (GB.picked (ds ++ []) [0, 2, 1])) [.bl raw, .ref n] h = .ok (.ref h.length) (h ++ jm h.length (h.length + 4) raw [] [.dict [], .dict [], .dict []]) := by
  have hn2 : ∀ l, (h ++ l)[n]? = some (.dict []) := fun l => cW hn
  have tn : ∀ l, tTru (.ref n) (h ++ l) = .ok false (h ++ l) := fun l => abO (hn2 l)
  have t1 := agJ (h := h ++ [.ins "Watch" [], .dict [], .dict []]) (a := h.length + 1) (b := h.length + 2) (by rw [ga]; rfl) (by rw [ga]; rfl)
  have s1 := DP (h ++ [.ins "Watch" [("sizes", .ref (h.length + 4)), ("raw", .bl raw)], .dict [], .dict [], .dict [], .dict [], .dict []]) .non .non
  simp only [List.append_assoc, List.length_append, List.length_cons, List.length_nil, Nat.zero_add, Nat.reduceAdd, Nat.add_assoc, List.cons_append, List.nil_append] at s1
  unfold lC jg jm gK
  generalize (lC "Seen" fun ds => iV (GB.picked (ds ++ []) [0, 1, 2])) = S1 at s1 ⊢
  generalize jf = P1 at t1 ⊢
  (wp_walk using "ew", aP, aJ, aK, aM, aN, aO, ahL, tn, pO, t1, s1, cJ, jC, ga, R4, sa, Hq, j7, j6, iW, List.append_assoc, List.length_append, List.mem_singleton, Nat.reduceLT, sO, oG, vg, keysOf, vf, List.foldl_cons, List.foldl_nil, Nat.add_assoc, dO, List.any_nil)
theorem aew {h : AH} {n : Nat} {raw : Bool} {kvs : List (Key × D)} (q : zf kvs) (hl : kvs.length ≤ 1000) (hn : h[n]? = some (.dict kvs)) : ∃ (S : Nat) (pad : AH), S = h.length + 1 + pad.length ∧ 0 < pad.length ∧
    lC "Watch" (fun ds => jg (GB.picked (ds ++ []) [0, 2, 1])) [.bl raw, .ref n] h = .ok (.ref h.length) (h ++ jm h.length S raw kvs pad) := by
  cases kvs with
  | nil => exact ⟨_, _, by simp, by simp, aev hn⟩
  | cons p ps => exact ⟨_, _, by simp, by simp, aeu q hl hn⟩
end dJ
noncomputable section
namespace dJ
open PySem PySem.Spec PyProof.Rows L2 PD
def IB : MS := (aY (gq (jJ "list" sJ (aj 9) (ak (oG [((eC (.str "had")), (bB fH aA)), ((eC (.str "mark")), (eC .non)), ((eC (.str "shut")), (eC (.bl false))), ((eC (.str "lives")), (eC (.bl true)))]) aA)))
    (cD (bZ (aG cY (bx 2 0 d9 (ak (aj 8) (ak (bB bQ (ak (eC (.str "begun")) (ak (aG eO (aj 10) (eC (.int (1)))) (ak (eC (.int (0))) (ak (aG bf (aj 2) (aG oW (aj 10) (eC (.int (3))))) (ak (eC (.int (0))) aA)))))) aA)) aA) (eC (.str "")))) (bV (eC (.bl false))) cG))
def DI : ME := (oG [((eC (.str "had")), (bB fH aA)), ((eC (.str "mark")), (eC .non)), ((eC (.str "shut")), (eC (.bl false))), ((eC (.str "lives")), (eC (.bl true)))])
def newC (L : Nat) : Cell := .dict [(.inr "had", .ref (L + 1)), (.inr "mark", .non), (.inr "shut", .bl false), (.inr "lives", .bl true)]
theorem ady (e : PD.En) (h : AH) : DI e h = .ok (.ref h.length) (h ++ [newC h.length, .lst []]) := by
  unfold DI newC
  (wp_walk using "ew", aP, aJ, aK, aM, aN, aO, oG, vg, keysOf, vf, List.foldl_cons, List.foldl_nil, List.append_assoc, List.length_append, ga, R4, sa, Hq)
  simp [dO, iW]
def tK (ow : Nat → Nat × Nat) (L n : Nat) : Nat → Nat × Nat := fun x => if x < L then ow x else match x - L with
  | 0 => (10, n)
  | 1 => (11, n)
  | 2 => (5, n)
  | 3 => (6, n)
  | _ => (7, n)
section
variable {A : WA} {Z M j k : Nat} {ow : Nat → Nat × Nat} {h : AH} {m : Wm} {n N : Nat} {t u : Tk} {s : Str}
theorem Sv {L x : Nat} (h : x < L) : tK ow L n x = ow x := if_pos h
theorem Eb {L i : Nat} : tK ow L n (L + i) = (match i with | 0 => (10, n) | 1 => (11, n) | 2 => (5, n) | 3 => (6, n) | _ => (7, n)) := by
  unfold tK
  rw [if_neg (by omega), Nat.add_sub_cancel_left]
def jh (M : Nat) (m : Wm) (h : AH) : AH := (h ++ [newC h.length, .lst []]).set M (.lst ((m.ts.map fun t => D.ref t.d) ++ [.ref h.length]))
theorem Uu : (jh M m h).length = h.length + 2 := by simp [jh]
theorem LS.begin (l : LS Z M ow h m) (ed : u.d = h.length) (ee : u.e = h.length + 1) (ec : qD u = newC h.length) (eh : u.had = []) : LS Z M (tK ow h.length m.ts.length) (jh M m h) (uX m u s) := by
  have l' := l.own (eZ := tK ow h.length m.ts.length) fun x hx => Sv hx
  obtain ⟨o0, o1⟩ := l'.oa
  have lM := eX l.l
  have nM : ∀ i, i < 2 → (jh M m h)[h.length + i]? = [newC h.length, Cell.lst []][i]? := fun i hi => by
    unfold jh
    rw [keepI (by omega), ga]
  unfold uX
  refine ⟨?_, ?_, fun k v e => ?_, fun k v e => ?_, ⟨o0, o1⟩, fun k v e => ?_⟩
  · unfold jh
    rw [keepI (bH o1 o0 (by simp))]
    exact cW l.z
  · unfold jh
    rw [List.getElem?_set_self (by rw [List.length_append]; omega)]
    show _ = some (Cell.lst ((m.ts ++ [u]).map fun t => D.ref t.d))
    rw [List.map_append, List.map_singleton, ed]
  · rcases pY e with e | ⟨rfl, rfl⟩
    · unfold jh
      rw [keepI (bH o1 (l'.os k v e).1 (by simp))]
      exact cW (l.d k v e)
    · rw [ed, ec]
      exact nM 0 (by decide)
  · rcases pY e with e | ⟨rfl, rfl⟩
    · unfold jh
      rw [keepI (bH o1 (l'.os k v e).2 (by simp))]
      exact cW (l.b k v e)
    · rw [ee, eh]
      exact nM 1 (by decide)
  · rcases pY e with e | ⟨rfl, rfl⟩
    · exact l'.os k v e
    · rw [ed, ee]
      exact ⟨Eb (i := 0), Eb (i := 1)⟩
structure Bg (j : Nat) (A : WA) (Z M : Nat) (ow : Nat → Nat × Nat) (h : AH) (m : Wm) (k : Nat) : Prop where
  s : St A Z M ow h m 0
  wl : Well j h k
  hj : ow j = (8, 0)
  hh : ab5 m
  hg : ∀ t, m.ts[0]? = some t → t.goes = .on
  nl : m.lt.length ≤ m.ts.length
theorem Bg.draw {h' : AH} (G : Bg j A Z M ow h m k) (w : Well j h' (k + 1)) (f : Fr j h h') : Bg j A Z M ow h' m (k + 1) := by
  obtain ⟨S, wl, hj, hh, hg, nl⟩ := G
  obtain ⟨x, rfl⟩ := f
  exact ⟨⟨S.w.away (by rw [hj]; decide), S.l.away (by rw [hj]; decide), S.ok, S.pl, S.mu, S.n0, S.lv, S.bg, S.b⟩, w, hj, hh, hg, nl⟩
theorem adz {lt : List (Key × D)} {k : Key} {v : D} : (dO lt k v).length ≤ lt.length + 1 := by
  unfold dO
  split
  · simp
  · simp
theorem Well.keep {h h' : AH} (w : Well j h k) (e : ∀ c, h[j]? = some c → h'[j]? = some c) : Well j h' k := by
  obtain ⟨a, b, c, e1, q⟩ := w
  exact ⟨a, b, c, e _ e1, q⟩
theorem ag8 {x0 x3 x5 x7 x11 x12 m9 ni : Option D} {gs : List Str} (hg : ∀ x ∈ gs, Nm x) (g3 : gs.length = 3) (i : Nat) (G : Bg j A Z M ow h m k) (hi : m.ts.length = i + 1) (h11 : i < 9) :
    ∃ (eZ : Nat → Nat × Nat) (m' : Wm) (h' : AH), Bg j A Z M eZ h' m' k ∧ m'.ts.length = m.ts.length + 1 ∧ m'.many = m.many + 1 ∧ m'.raw = m.raw ∧
      IB [x0, some (.ref j), some (.lst (gs.map D.str)), x3, some (.ref Z), x5, some (.bl m.raw), x7, some (.ref A.B), some (.ref M), some (.int (i : Int)), x11, x12, m9, ni] h =
        .nx [x0, some (.ref j), some (.lst (gs.map D.str)), x3, some (.ref Z), x5, some (.bl m.raw), x7, some (.ref A.B), some (.ref M), some (.int (i : Int)), x11, x12, m9, ni] h' := by
  obtain ⟨S, wl, hj, hh, hg0, nl⟩ := G
  obtain ⟨d, md, ax⟩ := Ul (ds := gs.map D.str) (r := (i : Int) % 3) (Int.emod_nonneg _ (by decide)) (by rw [List.length_map, g3]; exact Int.emod_lt_of_pos _ (by decide))
  obtain ⟨s, rfl, ns⟩ := yI hg md
  have h0 : m.ts[0]? = some m.ts[0] := List.getElem?_eq_getElem S.n0
  generalize m.ts[0] = t0 at h0
  have w0 := S.w.own (eZ := tK ow h.length m.ts.length) fun x hx => Sv hx
  have l0 := S.l.own (eZ := tK ow h.length m.ts.length) fun x hx => Sv hx
  have lj := wl.lt
  have hj' : tK ow h.length m.ts.length j = (8, 0) := by rw [Sv lj]; exact hj
  have W2 : WS A (tK ow h.length m.ts.length) (jh M m h) m := (w0.app [newC h.length, .lst []]).away (by rw [l0.oa.2]; decide)
  have L2 : LS Z M (tK ow h.length m.ts.length) (jh M m h) (uX m (newT (jh M m h).length h.length (h.length + 1) s) s) := S.l.begin rfl rfl rfl rfl
  have hlt : m.lt.length < 1000 := by have := S.ok.n; omega
  have W3 := W2.grow (d := h.length) (e := h.length + 1) (s := s) (eZ := tK ow h.length m.ts.length) (fun _ _ => rfl) (by rw [Uu]; exact Eb (i := 2)) (by rw [Uu]; exact Eb (i := 3)) (by rw [Uu]; exact Eb (i := 4))
  have sb := afK W2 S.ok S.mu hlt h0 (by omega) hh (hg0 t0 h0) (S.lv t0 (fJ h0)) (d := h.length) (e := h.length + 1) ns W3
  have i1 := tD (cs := vh) (mn := "see") W2.w (by simp) (gM (by decide +kernel))
  have e4 := Ea sb i1
  obtain ⟨o0, o1, o2, o3, o4⟩ := W2.oa
  have L3 : LS Z M (tK ow h.length m.ts.length) (tick A (uX m (newT (jh M m h).length h.length (h.length + 1) s) s) (mQ A m (jh M m h) (newT (jh M m h).length h.length (h.length + 1) s) s)) (uX m (newT (jh M m h).length h.length (h.length + 1) s) s) := by
    unfold tick mQ
    exact ((((L2.app _).away (by rw [o2]; decide)).away (by rw [o3]; decide)).away (by rw [o4]; decide)).away (by rw [o0]; decide)
  have W4 := zW W3
  have memT : ∀ v ∈ (uX m (newT (jh M m h).length h.length (h.length + 1) s) s).ts, v ∈ m.ts ∨ v = newT (jh M m h).length h.length (h.length + 1) s := fun v hv => by
    rcases List.mem_append.mp hv with h | h
    · exact .inl h
    · exact .inr (List.mem_singleton.mp h)
  have okT : (newT (jh M m h).length h.length (h.length + 1) s).ok := ⟨trivial, fun o e => (by cases e), fun x hx => (by cases hx), by simp [newT]⟩
  refine ⟨tK ow h.length m.ts.length, tk1 (uX m (newT (jh M m h).length h.length (h.length + 1) s) s), _, ⟨⟨W4, L3.tk1, ⟨fun v hv => ?_, ?_, S.ok.z⟩, ⟨fun v hv => ?_, fun v hv => ?_, fun v hv => ?_⟩, S.mu, ?_, fun v hv => ?_, fun q v e => ?_, fun v hv => ?_⟩, ?_, hj', .inr rfl, fun v e => ?_, ?_⟩, ?_, rfl, rfl, ?_⟩
  · rcases memT v hv with h | rfl
    · exact S.ok.t v h
    · exact okT
  · show (m.ts ++ [_]).length ≤ 12
    rw [List.length_append, List.length_singleton]
    omega
  · rcases memT v hv with h | rfl
    · exact S.pl.g v h
    · exact fun z => by cases z
  · rcases memT v hv with h | rfl
    · exact S.pl.l v h
    · rfl
  · rcases memT v hv with h | rfl
    · exact S.pl.d v h
    · rfl
  · show 0 < (m.ts ++ [_]).length
    simp
  · rcases memT v hv with h | rfl
    · exact S.lv v h
    · rfl
  · have e : (m.ts ++ [newT (jh M m h).length h.length (h.length + 1) s])[q]? = some v := e
    rcases pY e with e | ⟨rfl, rfl⟩
    · exact S.bg q v e
    · rw [if_neg (by omega)]
      rfl
  · rcases memT v hv with h | rfl
    · exact S.b v h
    · exact Nat.le_refl _
  · refine wl.keep fun c ec => ?_
    unfold tick mQ jh
    rw [keepI (bH o0 hj' (by simp)), keepI (bH o4 hj' (by simp)), keepI (bH o3 hj' (by simp)), keepI (bH o2 hj' (by simp))]
    refine cW ?_
    rw [keepI (bH l0.oa.2 hj' (by simp))]
    exact cW ec
  · have e : (m.ts ++ [newT (jh M m h).length h.length (h.length + 1) s])[0]? = some v := e
    rcases pY e with e | ⟨z, _⟩
    · exact hg0 v e
    · omega
  · show (dO m.lt _ _).length ≤ (m.ts ++ [_]).length
    have := @adz m.lt (.inr s) (.int (m.ts.length : Int))
    rw [List.length_append, List.length_singleton]
    omega
  · show (m.ts ++ [_]).length = _
    rw [List.length_append, List.length_singleton]
  · have ed := fun e => ady e h
    have lM2 : (h ++ [newC h.length, .lst []])[M]? = some (.lst (m.ts.map fun t => D.ref t.d)) := cW S.l.l
    have it := pF S.l.l
    have l16 : (m.ts.map fun t => D.ref t.d).length < 16777216 := by rw [List.length_map]; have := S.ok.n; omega
    have ap : sJ (.ref M) [.ref h.length] (h ++ [newC h.length, .lst []]) = some (.non, jh M m h) := by
      simp only [sJ, lM2, l16, if_true, jh]
    have cs : ((i : Int) + 1) = (m.ts.length : Int) := by rw [hi]; omega
    unfold yH at e4
    rw [← cs] at e4
    have p3 : (0 : Int) < 3 := by decide
    unfold IB
    unfold DI at ed
    generalize (oG [((eC (.str "had")), (bB fH aA)), ((eC (.str "mark")), (eC .non)), ((eC (.str "shut")), (eC (.bl false))), ((eC (.str "lives")), (eC (.bl true)))]) = X1 at ed ⊢
    generalize d9 = P4 at e4 ⊢
    generalize jh M m h = H2 at *
    (wp_walk using "ew", aP, aJ, aK, aM, aN, aO, jJ, it, ed, ap, oW, p3, ax, e4, akL)
theorem aex (lo : Int) (n : Nat) : oF lo (n + 1) = .int lo :: oF (lo + 1) n := by
  unfold oF
  rw [List.range_succ_eq_map, List.map_cons, List.map_map]
  congr 1
  · congr 1; omega
  · refine List.map_congr_left fun k _ => ?_
    show D.int _ = D.int _
    congr 1
    omega
theorem acg {x0 x3 x5 x7 x11 x12 m9 ni : Option D} {gs : List Str} (hg : ∀ x ∈ gs, Nm x) (g3 : gs.length = 3) : ∀ (n i : Nat) (x10 : Option D) (ow : Nat → Nat × Nat) (m : Wm) (h : AH), Bg j A Z M ow h m k → m.ts.length = i + 1 → i + n < 9 →
    ∃ (eZ : Nat → Nat × Nat) (m' : Wm) (y10 : Option D) (h' : AH), St A Z M eZ h' m' 0 ∧ m'.ts.length = m.ts.length + n ∧ m'.many = m.many + n ∧ m'.raw = m.raw ∧
      forL (PD.gName 10) IB (oF (i : Int) n) [x0, some (.ref j), some (.lst (gs.map D.str)), x3, some (.ref Z), x5, some (.bl m.raw), x7, some (.ref A.B), some (.ref M), x10, x11, x12, m9, ni] h =
        .nx [x0, some (.ref j), some (.lst (gs.map D.str)), x3, some (.ref Z), x5, some (.bl m.raw), x7, some (.ref A.B), some (.ref M), y10, x11, x12, m9, ni] h'
  | 0, i, x10, ow, m, h, G, _, _ => ⟨ow, m, x10, h, G.s, rfl, by simp, rfl, rfl⟩
  | n + 1, i, x10, ow, m, h, G, hi, hn => by
    obtain ⟨Vk, m1, h1, G1, l1, k1, r1, e1⟩ := ag8 (x0 := x0) (x3 := x3) (x5 := x5) (x7 := x7) (x11 := x11) (x12 := x12) (m9 := m9) (ni := ni) hg g3 i G hi (by omega)
    obtain ⟨tK, m2, y10, h2, S2, l2, k2, r2, e2⟩ := acg (x0 := x0) (x3 := x3) (x5 := x5) (x7 := x7) (x11 := x11) (x12 := x12) (m9 := m9) (ni := ni) hg g3 n (i + 1) (some (.int (i : Int))) Vk m1 h1 G1 (by omega) (by omega)
    refine ⟨tK, m2, y10, h2, S2, by omega, by rw [k2, k1]; omega, r2.trans r1, ?_⟩
    rw [r1] at e2
    rw [aex]
    have ei : ((i + 1 : Nat) : Int) = (i : Int) + 1 := by omega
    rw [ei] at e2
    unfold forL
    generalize IB = I at e1 e2 ⊢
    (wp_walk using "ew", aP, aJ, aK, aM, aN, aO, e1)
    exact e2
end
end dJ
noncomputable section
namespace dJ
open PySem PySem.Spec PyProof.Rows L2 PD
theorem ami {P : Program} {w : World} {outer : List Env} {H : Hp} {s : Shared} {e : Value} {s' : Shared} (h : L2.CX P w outer H s (fun _ _ _ => False) e s') : False := by
  obtain ⟨_, _, _, _, _, _, _, _, _, _, _, _, z⟩ := h
  exact z
theorem aiU {P : Program} {w : World} {K : PySem.W.Frag} {mg : Str → Option Value} {base : Heap} {k : Nat} {f : Addr} {fd : FuncData} {ps : List Str} {m : Mn} (F : GB.Fn P w K mg base (L2.CX P w) k f fd ps (CT K m)) :
    GB.Fn P w K mg base L2.CX0 k f fd ps (fun vs H Q _ => CT K m vs H Q fun _ _ _ => False) := by
  refine ⟨fun vs H Q E h => F.len vs H Q _ h, fun A outer s H args us vs Q E hr hg env b v h => codeAny_mono (F.go A outer s H args us vs Q _ hr hg env b v h) ?_⟩
  rintro (err | fl) s' z
  · exact (ami z).elim
  · cases fl <;> exact z
theorem Gz {K : PySem.W.Frag} {H : Hp} {al : Al} : ∀ ns : List Int, bD K H al (ns.map D.int) (ns.map V.int)
  | [] => .nil
  | n :: ns => .cons (.int n) (Gz ns)
theorem aiV {K : PySem.W.Frag} {x q : Str} {st : Stmt} {dvs : List V} {kws : List (Str × V)} {f : Addr} {fd fd' : FuncData} (a : FunD K x q (defArgs st) (defBody st) (defScope st) dvs kws f fd) (b : FunD K x q (defArgs st) (defBody st) (defScope st) dvs kws f fd') : fd = fd' := by
  obtain ⟨oc, od, dV, kV, doc, pm, an, cdv, ct, osl, rfl, lk, _⟩ := a.ex
  obtain ⟨oc2, od2, dV2, kV2, aoH, pm2, an2, aoI, ct2, osl2, rfl, lk2, _⟩ := b.ex
  have e := lk.symm.trans lk2
  cases e
  rfl
theorem aey {S : List D → D} (hS : S = D.dD ∨ S = D.lst) (ns : List Int) (h : AH) : ∃ c, oV [S (ns.map D.int), .int 0] h = .ok (.int c) h := by
  cases ns with
  | nil => exact ⟨0, by unfold oV; rcases hS with rfl | rfl <;> (wp_walk using "ew", aP, aJ, aK, aM, aN, aO, Int.lt_irrefl) <;> rfl⟩
  | cons n ns =>
    have p : (0 : Int) < ((((ns.map D.int).length + 1 : Nat)) : Int) := by omega
    exact ⟨n, by unfold oV; rcases hS with rfl | rfl <;> (wp_walk using "ew", aP, aJ, aK, aM, aN, aO, p)⟩
theorem afS (ns : List Int) (lo hi : Option Int) : ∀ d ∈ PD.cutD (ns.map D.int) lo hi, ∃ c : Int, d = .int c := fun d hd => by
  unfold PD.cutD at hd
  obtain ⟨i, _, rfl⟩ := List.mem_map.mp (List.mem_of_mem_drop (List.mem_of_mem_take hd))
  exact ⟨i, rfl⟩
theorem ag9 (ns : List Int) (hn : ns.length ≤ 63) (lo hi : Option Int) : (PD.cutD (ns.map D.int) lo hi).length ≤ 63 := by
  unfold PD.cutD
  rw [List.length_take, List.length_drop, List.length_map]
  omega
def SB : MS := (bJ (aG eO (eC (.int (1))) (bx 2 0 dX (ak (aj 1) (ak (eC (.int (5))) aA)) aA)) (jE (aj 4) (aj 5)))
theorem afT {kvs : List (Key × D)} {k : Key} {v : D} {p : Key × D} (h : p ∈ dO kvs k v) : p ∈ kvs ∨ p = (k, v) := by
  unfold dO at h
  split at h
  · obtain ⟨q, hq, e⟩ := List.mem_map.mp h
    by_cases z : q.1 = k
    · rw [if_pos z] at e
      exact .inr (by rw [← e, z])
    · rw [if_neg z] at e
      exact .inl (by rw [← e]; exact hq)
  · rcases List.mem_append.mp h with h | h
    · exact .inl h
    · exact .inr (List.mem_singleton.mp h)
theorem akR {kvs : List (Key × D)} (q : zf kvs) {s : Str} (ns : Nm s) {i : Int} (h1 : 1 ≤ i) (h2 : i ≤ 5) : zf (dO kvs (.inr s) (.int i)) := fun p hp => by
  rcases afT hp with h | rfl
  · exact q p h
  · exact ⟨s, i, rfl, ns, h1, h2⟩
theorem adA {g : AH} {x0 x2 x3 x6 x7 x8 x9 x10 x11 x12 m9 ni : Option D} : ∀ (ds : List Str) (x5 : Option D) (y : Cell) (kvs : List (Key × D)) (k : Nat), (∀ s ∈ ds, Nm s) → Well g.length (g ++ [y, .dict kvs]) k → zf kvs → k + ds.length < 1000 → kvs.length + ds.length < 100 →
    ∃ (y' : Cell) (kvs' : List (Key × D)) (y5 : Option D), Well g.length (g ++ [y', .dict kvs']) (k + ds.length) ∧ zf kvs' ∧ kvs'.length < 100 ∧
      forL (PD.gName 5) SB (ds.map D.str) [x0, some (.ref g.length), x2, x3, some (.ref (g.length + 1)), x5, x6, x7, x8, x9, x10, x11, x12, m9, ni] (g ++ [y, .dict kvs]) =
        .nx [x0, some (.ref g.length), x2, x3, some (.ref (g.length + 1)), y5, x6, x7, x8, x9, x10, x11, x12, m9, ni] (g ++ [y', .dict kvs'])
  | [], x5, y, kvs, k, _, w, q, _, hl => ⟨y, kvs, x5, w, q, by simpa using hl, rfl⟩
  | s :: ds, x5, y, kvs, k, hs, w, q, hk, hl => by
    rw [List.length_cons] at hk hl
    obtain ⟨r, h1, e1, r0, r1, w1, f1⟩ := pX (m := 5) w (by omega) (by decide) (by decide)
    obtain ⟨z, rfl⟩ := f1
    rw [Hq] at e1 w1
    simp only [List.set_cons_zero] at e1 w1
    have w2 : Well g.length (g ++ [z, .dict (dO kvs (.inr s) (.int (1 + r)))]) (k + 1) := by
      refine w1.keep fun c ec => ?_
      rw [R4] at ec ⊢
      exact ec
    have pl := @adz kvs (.inr s) (.int (1 + r))
    obtain ⟨y', kvs', y5, W, Q, L, e2⟩ := adA (x0 := x0) (x2 := x2) (x3 := x3) (x6 := x6) (x7 := x7) (x8 := x8) (x9 := x9) (x10 := x10) (x11 := x11) (x12 := x12) (m9 := m9) (ni := ni) ds (some (.str s)) z (dO kvs (.inr s) (.int (1 + r))) (k + 1) (fun t ht => hs t (List.mem_cons_of_mem _ ht)) w2 (akR q (hs s List.mem_cons_self) (by omega) (by omega)) (by omega) (by omega)
    refine ⟨y', kvs', y5, by rw [List.length_cons, show k + (ds.length + 1) = k + 1 + ds.length by omega]; exact W, Q, L, ?_⟩
    have g1 : (g ++ [z, Cell.dict kvs])[g.length + 1]? = some (.dict kvs) := ga
    have s1 : ∀ c, (g ++ [z, Cell.dict kvs]).set (g.length + 1) c = g ++ [z, c] := fun c => sa
    have n1 : kvs.length < 16777216 := by omega
    rw [List.map_cons]
    unfold forL
    have step : SB [x0, some (.ref g.length), x2, x3, some (.ref (g.length + 1)), some (.str s), x6, x7, x8, x9, x10, x11, x12, m9, ni] (g ++ [y, .dict kvs]) = .nx [x0, some (.ref g.length), x2, x3, some (.ref (g.length + 1)), some (.str s), x6, x7, x8, x9, x10, x11, x12, m9, ni] (g ++ [z, .dict (dO kvs (.inr s) (.int (1 + r)))]) := by
      unfold SB
      generalize dX = P at e1 ⊢
      (wp_walk using "ew", aP, aJ, aK, aM, aN, aO, e1, g1, s1, n1)
    generalize SB = S5 at step e2 ⊢
    (wp_walk using "ew", aP, aJ, aK, aM, aN, aO, step)
    exact e2
def Vk : Nat → Nat × Nat
  | 0 => (1, 0)
  | 1 => (2, 0)
  | 2 => (5, 0)
  | 3 => (6, 0)
  | 4 => (7, 0)
  | 5 => (3, 0)
  | 6 => (4, 0)
  | 7 => (10, 0)
  | 8 => (11, 0)
  | _ => (9, 1)
def ow0 (j S : Nat) : Nat → Nat × Nat := fun x => if x = j then (8, 0) else if x = j + 1 then (9, 0) else if x = j + 3 then (0, 0) else Vk (x - S)
theorem uY {j S i : Nat} (h : j + 3 < S) : ow0 j S (S + i) = Vk i := by
  unfold ow0
  rw [if_neg (by omega), if_neg (by omega), if_neg (by omega), Nat.add_sub_cancel_left]
def tk0 (S : Nat) : Tk := ⟨S + 2, S + 3, S + 4, S + 7, S + 8, none, none, none, false, false, .on, [], []⟩
def wm0 (S : Nat) (raw : Bool) (kvs : List (Key × D)) : Wm := ⟨raw, kvs, [tk0 S], [], [], .non, 0⟩
def wa0 (j S : Nat) : WA := ⟨j + 3, S, S + 1, S + 5, S + 6⟩
def GD (g : AH) (y : Cell) (S : Nat) (raw : Bool) (kvs : List (Key × D)) (pad : AH) : AH := g ++ [y, .dict kvs, .dict []] ++ jm (g.length + 3) S raw kvs pad ++ [newC (S + 7), .lst []] ++ [.lst [.ref (S + 7)]]
theorem aiW {g : AH} {y : Cell} {S k : Nat} {raw : Bool} {kvs : List (Key × D)} {pad : AH} (hS : S = g.length + 3 + 1 + pad.length) (q : zf kvs) (wl : Well g.length (g ++ [y, .dict kvs]) k) :
    Bg g.length (wa0 g.length S) (g.length + 1) (S + 9) (ow0 g.length S) (GD g y S raw kvs pad) (wm0 S raw kvs) k := by
  have ef : ∃ (fr tl : AH), GD g y S raw kvs pad = fr ++ tl ∧ fr = g ++ ([y, .dict kvs, .dict [], .ins "Watch" (gK S (S + 1) (S + 5) (S + 6) raw .non 0)] ++ pad) ∧ fr.length = S ∧
      tl = [.dict kvs, .dict [(.inl 0, .ref (S + 2))], eV (tk0 S), .lst [], .lst [], .dict [], .dict [], qD (tk0 S), .lst [], .lst [.ref (S + 7)]] := by
    refine ⟨_, _, ?_, rfl, ?_, rfl⟩
    · unfold GD jm
      simp only [List.append_assoc, List.cons_append, List.nil_append]
      rfl
    · rw [hS]
      simp only [List.length_append, List.length_cons, List.length_nil]
      omega
  obtain ⟨fr, tl, eb, ef, lf, et⟩ := ef
  have hi : ∀ i, (GD g y S raw kvs pad)[S + i]? = tl[i]? := fun i => by rw [eb, ← lf, ga]
  have lo : ∀ (i : Nat) (c : Cell), ([y, .dict kvs, .dict [], .ins "Watch" (gK S (S + 1) (S + 5) (S + 6) raw .non 0)] ++ pad)[i]? = some c → (GD g y S raw kvs pad)[g.length + i]? = some c := fun i c e => by
    rw [eb, ef]
    refine cW ?_
    rw [ga]
    exact e
  have hs : g.length + 3 < S := by omega
  have one : ∀ (k : Nat) (t : Tk), (wm0 S raw kvs).ts[k]? = some t → k = 0 ∧ t = tk0 S := fun k t e => by
    cases k with
    | zero => cases e; exact ⟨rfl, rfl⟩
    | succ k => simp [wm0] at e
  have Uv : ∀ t ∈ (wm0 S raw kvs).ts, t = tk0 S := fun t ht => List.mem_singleton.mp ht
  refine ⟨⟨⟨?_, ?_, ?_, ?_, ?_, fun k t e => ?_, fun k t e => ?_, fun k t e => ?_, ⟨?_, ?_, ?_, ?_, ?_⟩, fun k t e => ?_⟩, ⟨?_, ?_, fun k t e => ?_, fun k t e => ?_, ⟨?_, ?_⟩, fun k t e => ?_⟩, ⟨fun t ht => ?_, by simp [wm0], q⟩, ⟨fun t ht => ?_, fun t ht => ?_, fun t ht => ?_⟩, rfl, by simp [wm0], fun t ht => ?_, fun k t e => ?_, fun t ht => ?_⟩, ?_, ?_, .inl rfl, fun t e => ?_, by simp [wm0]⟩
  · exact lo 3 _ rfl
  · rw [show (wa0 g.length S).S = S + 0 from rfl, hi, et]; rfl
  · rw [show (wa0 g.length S).T = S + 1 from rfl, hi, et]; rfl
  · rw [show (wa0 g.length S).L = S + 5 from rfl, hi, et]; rfl
  · rw [show (wa0 g.length S).O = S + 6 from rfl, hi, et]; rfl
  · obtain ⟨rfl, rfl⟩ := one k t e
    rw [show (tk0 S).a = S + 2 from rfl, hi, et]; rfl
  · obtain ⟨rfl, rfl⟩ := one k t e
    rw [show (tk0 S).b = S + 3 from rfl, hi, et]; rfl
  · obtain ⟨rfl, rfl⟩ := one k t e
    rw [show (tk0 S).c = S + 4 from rfl, hi, et]; rfl
  · show ow0 g.length S (g.length + 3) = _
    unfold ow0
    rw [if_neg (by omega), if_neg (by omega), if_pos rfl]
  · exact uY (i := 0) hs
  · exact uY (i := 1) hs
  · exact uY (i := 5) hs
  · exact uY (i := 6) hs
  · obtain ⟨rfl, rfl⟩ := one k t e
    exact ⟨uY (i := 2) hs, uY (i := 3) hs, uY (i := 4) hs⟩
  · exact lo 1 _ rfl
  · rw [hi, et]; rfl
  · obtain ⟨rfl, rfl⟩ := one k t e
    rw [show (tk0 S).d = S + 7 from rfl, hi, et]; rfl
  · obtain ⟨rfl, rfl⟩ := one k t e
    rw [show (tk0 S).e = S + 8 from rfl, hi, et]; rfl
  · unfold ow0
    rw [if_neg (by omega), if_pos rfl]
  · exact uY (i := 9) hs
  · obtain ⟨rfl, rfl⟩ := one k t e
    exact ⟨uY (i := 7) hs, uY (i := 8) hs⟩
  · rw [Uv t ht]
    exact ⟨trivial, fun o e => (by cases e), fun x hx => (by cases hx), by simp [tk0]⟩
  · rw [Uv t ht]; exact fun z => by cases z
  · rw [Uv t ht]; rfl
  · rw [Uv t ht]; rfl
  · rw [Uv t ht]; rfl
  · obtain ⟨rfl, rfl⟩ := one k t e
    rfl
  · rw [Uv t ht]; exact Nat.le_refl _
  · refine wl.keep fun c ec => ?_
    rw [R4] at ec
    exact lo 0 c ec
  · unfold ow0
    rw [if_pos rfl]
  · obtain ⟨_, rfl⟩ := one 0 t e
    rfl
end dJ
noncomputable section
namespace dJ
open PySem PySem.Spec PyProof.Rows L2 PD
theorem akS {xs : List Str} {r : Int} (h0 : 0 ≤ r) : ∃ ds : List Str, PD.cutD (xs.map D.str) none (some r) = ds.map D.str ∧ (∀ d ∈ ds, d ∈ xs) ∧ ds.length ≤ xs.length := by
  obtain ⟨n, rfl⟩ := afP h0
  refine ⟨xs.take n, ?_, fun d hd => List.mem_of_mem_take hd, by rw [List.length_take]; omega⟩
  unfold PD.cutD
  rw [HT.sIx_none, HT.sIx_nat, List.drop_zero, Nat.sub_zero, List.map_take, List.length_map]
  by_cases z : n ≤ xs.length
  · rw [Nat.min_eq_left z]
  · rw [Nat.min_eq_right (by omega), List.take_of_length_le (by simp), List.take_of_length_le (by simp; omega)]
theorem aha {r : Int} {h : AH} (h0 : 0 ≤ r) (h1 : r < 4) : pZ [.int r] h = .ok (oF 0 r.toNat) h := by
  have hr : -(2 ^ 62) ≤ r ∧ r < 2 ^ 62 := ⟨by omega, by omega⟩
  simp only [pZ, hr, and_self, if_true]
theorem akT {S : List D → D} (hS : S = D.dD ∨ S = D.lst) (ns : List Int) (hn : ns.length ≤ 63) (h : AH) : ∃ h', Bu [S (ns.map D.int)] h = .ok (.bl true) h' := by
  obtain ⟨c, ec⟩ := aey hS ns h
  obtain ⟨h1, e1, w1, x, rfl⟩ := ac5 c h
  obtain ⟨a, h2, e2, na, w2, f2⟩ := zU w1 (by decide)
  obtain ⟨y2, rfl⟩ := pK f2
  obtain ⟨b, h3, e3, nb, w3, f3⟩ := zU w2 (by decide)
  obtain ⟨y3, rfl⟩ := pK f3
  obtain ⟨d, h4, e4, nd, w4, f4⟩ := zU w3 (by decide)
  obtain ⟨y4, rfl⟩ := pK f4
  obtain ⟨p, h5, e5, np, w5, f5⟩ := zU w4 (by decide)
  obtain ⟨y5, rfl⟩ := pK f5
  obtain ⟨q, h6, e6, nq, w6, f6⟩ := zU w5 (by decide)
  obtain ⟨y6, rfl⟩ := pK f6
  have hg : ∀ x ∈ [a, b, d], Nm x := fun x hx => by
    simp only [List.mem_cons, List.not_mem_nil, or_false] at hx
    rcases hx with rfl | rfl | rfl <;> assumption
  have hm : ∀ x ∈ [p, q], Nm x := fun x hx => by
    simp only [List.mem_cons, List.not_mem_nil, or_false] at hx
    rcases hx with rfl | rfl <;> assumption
  have w7 : Well h.length (h ++ [y6, .dict []]) (0 + 9 + 9 + 9 + 9 + 9) := by
    have := w6.app [.dict []]
    rw [List.append_assoc] at this
    exact this
  obtain ⟨r1, h8, e8, r10, r11, w8, f8⟩ := pX (m := 4) w7 (by decide) (by decide) (by decide)
  obtain ⟨y8, rfl⟩ := f8
  rw [Hq] at e8 w8
  simp only [List.set_cons_zero] at e8 w8
  obtain ⟨ds, anH, dsm, dsl⟩ := akS (xs := [a, b, d]) r10
  have hl3 : ds.length ≤ 3 := dsl
  obtain ⟨y9, kvs, z5, w9, sz, kl, e9⟩ := adA (x0 := some (S (ns.map D.int))) (x2 := some (.lst [.str a, .str b, .str d])) (x3 := some (.lst [.str p, .str q])) (x6 := none) (x7 := none) (x8 := none) (x9 := none) (x10 := none) (x11 := none) (x12 := none) (m9 := none) (ni := none) ds none y8 [] _ (fun s hs => hg s (dsm s hs)) w8 (fun p hp => (by cases hp)) (by omega) (by simp only [List.length_nil]; omega)
  obtain ⟨r2, h10, e10, r20, r21, w10, f10⟩ := pX (m := 2) w9 (by omega) (by decide) (by decide)
  obtain ⟨y10, rfl⟩ := f10
  rw [Hq] at e10 w10
  simp only [List.set_cons_zero] at e10 w10
  have dm : sO [.ref (h.length + 1)] (h ++ [y10, .dict kvs]) = some (.ref (h.length + 2), h ++ [y10, .dict kvs, .dict kvs]) := by
    have g1 : (h ++ [y10, Cell.dict kvs])[h.length + 1]? = some (.dict kvs) := ga
    simp only [sO, g1, List.length_append, List.length_cons, List.length_nil, List.append_assoc, List.cons_append, List.nil_append, Nat.zero_add, Nat.reduceAdd]
  obtain ⟨raw, anI⟩ : ∃ raw, raw = decide (r2 = 0) := ⟨_, rfl⟩
  have lg : (h ++ [y10, Cell.dict kvs, .dict kvs]).length = h.length + 3 := by simp
  obtain ⟨SZ, pad, hSZ, aoJ, e11⟩ := aew (h := h ++ [y10, .dict kvs, .dict kvs]) (n := h.length + 2) (raw := raw) sz (by omega) ga
  rw [lg] at e11 hSZ
  have gH : (h ++ [y10, Cell.dict kvs, .dict kvs] ++ jm (h.length + 3) SZ raw kvs pad)[h.length + 2]? = some (.dict kvs) := cW ga
  have sH : (h ++ [y10, Cell.dict kvs, .dict kvs] ++ jm (h.length + 3) SZ raw kvs pad).set (h.length + 2) (.dict []) = h ++ [y10, .dict kvs, .dict []] ++ jm (h.length + 3) SZ raw kvs pad := by
    rw [List.append_assoc, sa, List.append_assoc]
    rfl
  have iH := Bc gH
  have cl : Uc (.ref (h.length + 2)) [] (h ++ [y10, Cell.dict kvs, .dict kvs] ++ jm (h.length + 3) SZ raw kvs pad) = some (.non, h ++ [y10, .dict kvs, .dict []] ++ jm (h.length + 3) SZ raw kvs pad) := by
    simp only [Uc, gH, sH]
  have l7 : (h ++ [y10, Cell.dict kvs, .dict []] ++ jm (h.length + 3) SZ raw kvs pad).length = SZ + 7 := by
    rw [hSZ]
    simp only [jm, List.length_append, List.length_cons, List.length_nil]
    omega
  have ed : ∀ e, DI e (h ++ [y10, Cell.dict kvs, .dict []] ++ jm (h.length + 3) SZ raw kvs pad) = .ok (.ref (SZ + 7)) (h ++ [y10, Cell.dict kvs, .dict []] ++ jm (h.length + 3) SZ raw kvs pad ++ [newC (SZ + 7), .lst []]) := fun e => by
    have := ady e (h ++ [y10, Cell.dict kvs, .dict []] ++ jm (h.length + 3) SZ raw kvs pad)
    rw [l7] at this
    exact this
  have l9 : (h ++ [y10, Cell.dict kvs, .dict []] ++ jm (h.length + 3) SZ raw kvs pad ++ [newC (SZ + 7), .lst []]).length = SZ + 9 := by
    rw [List.length_append, l7]
    rfl
  have G := aiW (g := h) (y := y10) (S := SZ) (raw := raw) (kvs := kvs) (pad := pad) hSZ sz w10
  unfold GD at G
  obtain ⟨r3, h12, e12, r30, r31, w12, f12⟩ := pX (m := 4) G.wl (by omega) (by decide) (by decide)
  have G2 := G.draw w12 f12
  have er3 := aha (h := h12) r30 r31
  obtain ⟨Vk, m1, z10, h13, S13, ln1, mn1, rw1, e13⟩ := acg (x0 := some (S (ns.map D.int))) (x3 := some (.lst [.str p, .str q])) (x5 := z5) (x7 := some (.ref (h.length + 2))) (x11 := none) (x12 := none) (m9 := none) (ni := none) (gs := [a, b, d]) hg rfl r3.toNat 0 none _ _ _ G2 rfl (by omega)
  have cut : ∀ d ∈ PD.cutD (ns.map D.int) (some 1) (some 41) ++ [.int 0, .int 1, .int 2], ∃ c : Int, d = .int c := fun d hd => by
    rcases List.mem_append.mp hd with hd | hd
    · exact afS ns _ _ d hd
    · simp only [List.mem_cons, List.not_mem_nil, or_false] at hd
      rcases hd with rfl | rfl | rfl <;> exact ⟨_, rfl⟩
  have aoK := ag9 ns hn (some 1) (some 41)
  obtain ⟨tK, m2, N2, z12, z13, z14, h14, S14, rw2, e14⟩ := Ss (x0 := some (S (ns.map D.int))) (x1 := some (.ref h.length)) (x5 := z5) (x7 := some (.ref (h.length + 2))) (x10 := z10) (gs := [a, b, d]) (ms := [p, q]) hg hm (by simp) (by simp) (by simp) (by simp) (PD.cutD (ns.map D.int) (some 1) (some 41) ++ [.int 0, .int 1, .int 2]) none none none Vk m1 0 h13 cut S13 (by rw [List.length_append]; simp only [List.length_cons, List.length_nil]; omega)
  obtain ⟨h15, e15⟩ := afR (A := wa0 h.length SZ) (Z := h.length + 1) (M := SZ + 9) ⟨S14.w, S14.l, S14.ok, S14.pl, S14.mu, S14.bg, fun k t e _ => S14.lv t (fJ e)⟩
  have ra1 : m1.raw = raw := rw1
  have ra2 : m2.raw = raw := rw2.trans ra1
  have lm1 : m1.many = (m1.ts.length : Int) - 1 := by
    rw [mn1, ln1]
    show (0 : Int) + _ = ((1 + r3.toNat : Nat) : Int) - 1
    omega
  rw [ra1, lm1] at e14
  rw [ra2] at e15
  have e13 : forL (PD.gName 10) IB (oF 0 r3.toNat) [some (S (ns.map D.int)), some (.ref h.length), some (.lst [.str a, .str b, .str d]), some (.lst [.str p, .str q]), some (.ref (h.length + 1)), z5, some (.bl raw), some (.ref (h.length + 2)), some (.ref (h.length + 3)), some (.ref (SZ + 9)), none, none, none, none, none] h12 = .nx [some (S (ns.map D.int)), some (.ref h.length), some (.lst [.str a, .str b, .str d]), some (.lst [.str p, .str q]), some (.ref (h.length + 1)), z5, some (.bl raw), some (.ref (h.length + 2)), some (.ref (h.length + 3)), some (.ref (SZ + 9)), z10, none, none, none, none] h13 := e13
  have ll := S13.l.l
  have lml : (List.map (fun t : Tk => D.ref t.d) m1.ts).length = m1.ts.length := List.length_map _
  have hlen : (PD.cutD (ns.map D.int) (some 1) (some 41)).length + 3 ≤ 16777216 := by omega
  have e14 : forL (PD.gName 12) CB (PD.cutD (ns.map D.int) (some 1) (some 41) ++ [.int 0, .int 1, .int 2]) [some (S (ns.map D.int)), some (.ref h.length), some (.lst [.str a, .str b, .str d]), some (.lst [.str p, .str q]), some (.ref (h.length + 1)), z5, some (.bl raw), some (.ref (h.length + 2)), some (.ref (h.length + 3)), some (.ref (SZ + 9)), z10, some (.int ((m1.ts.length : Int) - 1)), none, none, none] h13 = .nx [some (S (ns.map D.int)), some (.ref h.length), some (.lst [.str a, .str b, .str d]), some (.lst [.str p, .str q]), some (.ref (h.length + 1)), z5, some (.bl raw), some (.ref (h.length + 2)), some (.ref (h.length + 3)), some (.ref (SZ + 9)), z10, some (.int m2.many), z12, z13, z14] h14 := e14
  have e15 : uF [.ref (h.length + 3), .ref (SZ + 9), .bl raw, .int m2.many] h14 = .ok (.bl true) h15 := e15
  refine ⟨h15, ?_⟩
  have amj : PD.cutD [D.str a, .str b, .str d] none (some r1) = ds.map D.str := anH
  unfold Bu
  unfold SB at e9
  unfold IB at e13
  unfold CB at e14
  unfold DI at ed
  generalize (bJ (aG eO (eC (.int (1))) (bx 2 0 dX (ak (aj 1) (ak (eC (.int (5))) aA)) aA)) (jE (aj 4) (aj 5))) = S0 at e9 ⊢
  generalize (aY (gq (jJ "list" sJ (aj 9) (ak (oG [((eC (.str "had")), (bB fH aA)), ((eC (.str "mark")), (eC .non)), ((eC (.str "shut")), (eC (.bl false))), ((eC (.str "lives")), (eC (.bl true)))]) aA)))
    (cD (bZ (aG cY (bx 2 0 d9 (ak (aj 8) (ak (bB bQ (ak (eC (.str "begun")) (ak (aG eO (aj 10) (eC (.int (1)))) (ak (eC (.int (0))) (ak (aG bf (aj 2) (aG oW (aj 10) (eC (.int (3))))) (ak (eC (.int (0))) aA)))))) aA)) aA) (eC (.str "")))) (bV (eC (.bl false))) cG)) = S1 at e13 ⊢
  generalize (aY (bJ (bx 4 0 rF (ak (bx 1 0 j5 (ak (aj 12) aA) aA) (ak (aj 9) (ak (aj 2) (ak (aj 3) aA)))) aA) (PD.gName 13))
    (aY (bJ (bx 4 0 rE (ak (aj 9) (ak (aj 4) (ak (aj 6) (ak (aj 13) aA)))) aA) (PD.gName 14))
    (aY (cD (bZ (aG cY (bx 2 0 d9 (ak (aj 8) (ak (aj 13) aA)) aA) (aG bf (bB cC (ak (eC (.str "")) (ak (bB bQ (ak (aj 11) (ak (aj 14) aA))) aA))) (bB iy (ak (aG cY (aj 14) (eC (.str ""))) aA))))) (bV (eC (.bl false))) cG)
    (aY (cD (bZ (aG cM (aj 14) (eC (.str "")))) (gq (bx 2 0 d8 (ak (aj 9) (ak (aj 13) aA)) aA)) cG)
    (bJ (aG eO (aj 11) (eC (.int (1)))) (PD.gName 11)))))) = S2 at e14 ⊢
  generalize (oG [((eC (.str "had")), (bB fH aA)), ((eC (.str "mark")), (eC .non)), ((eC (.str "shut")), (eC (.bl false))), ((eC (.str "lives")), (eC (.bl true)))]) = D0 at ed ⊢
  generalize oV = P1 at ec ⊢
  generalize j5 = P2 at e1 ⊢
  generalize oJ = P3 at e2 e3 e4 e5 e6 ⊢
  generalize dX = P4 at e8 e10 e12 ⊢
  generalize uF = P5 at e15 ⊢
  generalize (lC "Watch" fun ds => jg (GB.picked (ds ++ []) [0, 2, 1])) = P6 at e11 ⊢
  generalize (gName 5 : MG) = G5 at e9 ⊢
  generalize (gName 10 : MG) = G10 at e13 ⊢
  generalize (gName 12 : MG) = G12 at e14 ⊢
  generalize (pZ : List D → AH → Res (List D)) = R1 at er3 ⊢
  generalize (sO : ON) = DM at dm ⊢
  generalize (Uc : OM) = CL at cl ⊢
  have lg6 : (h ++ [y6]).length = h.length + 1 := by simp
  have ap6 : h ++ [y6] ++ [Cell.dict []] = h ++ [y6, .dict []] := by rw [List.append_assoc]; rfl
  generalize hA : h ++ [y10, Cell.dict kvs, .dict kvs] ++ jm (h.length + 3) SZ raw kvs pad = HA at *
  generalize hC : h ++ [y10, Cell.dict kvs, .dict []] ++ jm (h.length + 3) SZ raw kvs pad = HC at *
  generalize hD : HC ++ [newC (SZ + 7), Cell.lst []] = HD at *
  have amk : decide (r2 = 0) = raw := anI.symm
  rcases hS with rfl | rfl <;>
    (wp_walk using "ew", aP, aJ, aK, aM, aN, aO, ec, e1, e2, e3, e4, e5, e6, lg6, ap6, e8, tH, amj, e9, e10, amk, dm, e11, TQ, iH, cl, ed, l9, e12, er3, e13, ll, lml, ug, hlen, e14, e15)
end dJ
noncomputable section
namespace dJ
open PySem PySem.Spec PyProof.Rows L2 PD
theorem akW {K : PySem.W.Frag} {H : Hp} {a : Addr} {ns : List Int} (hl : ns.length ≤ 63) (hS : SqL K H a (ns.map V.int)) : CT K Bu [.ref a] H (fun v _ => v = .bl true) fun _ _ _ => False := by
  have hr : HR K H ⟨[], []⟩ [] := ⟨List.nodup_nil, rfl, fun a h => (by cases h), fun a h => (by cases h), fun n c a h => (by simp at h)⟩
  have no : ¬ Al.has ⟨[], []⟩ a := fun z => z.elim (fun w => (by cases w)) (fun w => (by cases w))
  have go : ∀ S : List D → D, (S = D.dD ∨ S = D.lst) → Rp K H ⟨[], []⟩ (S (ns.map D.int)) (.ref a) → CT K Bu [.ref a] H (fun v _ => v = .bl true) fun _ _ _ => False := fun S hS rp => by
    obtain ⟨h', e⟩ := akT hS ns hl []
    refine ⟨[S (ns.map D.int)], ⟨[], []⟩, [], hr, .cons rp .nil, ?_⟩
    rw [e]
    intro v H' aQ _ _ q
    cases q
    rfl
  rcases hS with (hS | ⟨o, hS⟩) | hS
  · exact go _ (.inr rfl) (.lst ⟨hS, no⟩ (Gz ns))
  · exact go _ (.inl rfl) (.dD (.inl ⟨o, hS, no⟩) (Gz ns))
  · exact go _ (.inl rfl) (.dD (.inr hS) (Gz ns))
theorem afV {K : PySem.W.Frag} {fd : FuncData} (F : FunD K "law" "law" (defArgs pN) (defBody pN) (defScope pN) [] [] (He.ga K "law") fd) (s : Shared) (v : Value) : BindsTo s fd ⟨[v], []⟩ [("_law_script", v)] :=
  FunD.bindsA (ps := ["_law_script"]) F (fun _ _ _ _ _ _ us hl => match us, hl with | [_], _ => rfl) s [v] rfl
theorem akX {P : Program} {w : World} {K : PySem.W.Frag} {mg : Str → Option Value} {base : Heap} (T : Top w K mg) {fd : FuncData} (F : FunD K "law" "law" (defArgs pN) (defBody pN) (defScope pN) [] [] (He.ga K "law") fd) :
    GB.Fn P w K mg base L2.CX0 10 (He.ga K "law") fd ["_law_script"] (fun vs H Q _ => CT K Bu vs H Q fun _ _ _ => False) := by
  obtain ⟨fd', D1, F1⟩ := (al8 (P := P) (base := base) T).ex
  rw [aiV F D1]
  exact aiU F1
end dJ
open PySem PySem.W PySem.Calls PyProof.Rows
set_option maxHeartbeats 0 in
theorem PySem.Challenge.cw_givenback_k23_things_got_and_given_holds : PySem.Challenge.rw_givenback_k23_things_got_and_given.Holds := by
  refine hold0 ?hc
  case hc =>
    refine GB.ak0 (l := PySem.Challenge.rw_givenback_k23_things_got_and_given) (n := 63) (k := 10) (x := "_law_script") (CX := L2.CX0) rfl (by decide) (by kernel_rfl) ⟨rfl, by decide, by decide⟩ ?F (fun _ _ _ _ z => z)
    intro w mg fa h Y G hmg0
    obtain ⟨K, KX, c⟩ := Y
    have hmg : mg ("law" : PySem.Str) = some (.ref fa) := by
      have e : (HandSHeadRun.topDef (OpenLaw.row PySem.Challenge.rw_givenback_k23_things_got_and_given).prog 54).name = ("law" : PySem.Str) := by kernel_rfl
      rw [← e]
      exact hmg0
    have T := dJ.ajK KX G c
    have e := hmg.symm.trans T.adH.gl
    cases e
    obtain ⟨fd, F⟩ := T.adH.ex
    exact ⟨K, fd, fun vs H Q _ => PD.CT K dJ.Bu vs H Q fun _ _ _ => False, KX, fun s v => dJ.afV F s v, fun H a ns hl hS => dJ.akW hl hS, fun base _ _ => dJ.akX T F⟩
