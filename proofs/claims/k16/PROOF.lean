import PyProof.Rows.All
import Wide.All
import OpenK.AllK
import Wide.FinOn
import HandS.ForMost
import HandS.Wide
import HandS.IsInst
import PySem.Challenge.RW_asiffresh_k16_lines_by_turns
set_option Elab.async false
set_option linter.all false
set_option maxRecDepth 100000
/-! defs that are called where no repr runs (FnG), the law's head over them, repr of data, keywords alone -/
namespace T3
open PySem PySem.Spec PyProof.Rows L2

/-- as FnOk, told where no repr is under way -/
structure FnG (P : Program) (w : World) (K : PySem.W.Frag) (mg : Str → Option Value) (base : Heap) (CX : CXT)
    (k : Nat) (f : Addr) (fd : FuncData) (ps : List Str) (sp : Sp) : Prop where
  len : ∀ vs H Q E, sp vs H Q E → vs.length = ps.length
  run : ∀ (A : Around) (outer : List Env) (s : Shared) (H : Hp) (args : Args) (us : List Value) (vs : List V) (Q : VK) (E : XK),
    A.guards = some [] → Room k A → Env0 P w K mg base A outer s H → BindsTo s fd args (ps.zip us) → Vals vs us →
    sp vs H Q E → codeAny (model P w) A (.call (.ref f) args) (CR CX outer P w H s Q E) s

section
variable {P : Program} {w : World} {K : PySem.W.Frag} {mg : Str → Option Value} {base : Heap} {CX : CXT}

theorem FnG.of {k : Nat} {f : Addr} {fd : FuncData} {ps : List Str} {sp : Sp} (F : FnOk P w K mg base CX k f fd ps sp) :
    FnG P w K mg base CX k f fd ps sp :=
  ⟨F.len, fun A o s H a us vs Q E _ => F.run A o s H a us vs Q E⟩

/-- a def by its body, where no repr is under way -/
theorem fnG_of {k : Nat} {f : Addr} {name qual : Str} {params : Arguments} {body : List Stmt} {scope : Scope}
    {dV kV doc pm cdv ct oc : Value} {an od : Option Addr} {osl : Array (Option Value)} {N ps : List Str} {sp : Sp}
    (lk : K.lookup f = some ⟨oc, od, .func (PySem.W.fnOf name qual params body scope dV kV doc pm an cdv ct), osl⟩)
    (hcd : PySem.W.codeIn K cdv qual = true) (S : FnScope N ps scope)
    (len : ∀ vs H Q E, sp vs H Q E → vs.length = ps.length)
    (hbody : ∀ (A : Around) (outer : List Env) (s : Shared) (H : Hp) (vs : List V) (Q : VK) (E : XK),
      A.guards = some [] → Room k (A.deeper (envOfC qual scope s.heap.objs.size f cdv)) → sp vs H Q E →
      ∃ t, PSs (cxOf CX P w K mg base N qual scope f cdv A outer s H E) body t ∧
        t { nx := fun _ H' => Q .non H', rt := Q } (start N vs) H) :
    FnG P w K mg base CX (k + 1) f (PySem.W.fnOf name qual params body scope dV kV doc pm an cdv ct) ps sp := by
  constructor
  · exact len
  intro A outer s H args us vs Q E hG room ev bd rel want
  have n1 := len vs H Q E want
  have here : ∀ b o, base.get? b = some o → s.heap.get? b = some o := fun b o e => (ev.bs b o e).1
  have KX : K.In s.heap := ev.mod.kin.keeps here
  have lim : s.heap.NoLimit := ev.mod.nolimit.keeps here
  have kinds : ∀ y ∈ ps.zip us, scope.names.lookup y.1 = some .local ∨
      (scope.names.lookup y.1 = some .cell ∧ ((cellsFrom (s.heap.objs.size + 1) scope.names []).lookup y.1).isSome = true) := by
    rintro ⟨x, v⟩ hy
    cases S.par x (List.of_mem_zip hy).1 with
    | inl q => exact .inl q
    | inr q => exact .inr ⟨q, PySem.W.cellsFrom_some _ _ _ (.inl q)⟩
  refine codeAny_call_function room.depth (KX _ _ lk) rfl S.co S.gen rfl (PySem.W.codeRec_of KX hcd) (bd _ _ _ _ ?_)
  refine wpAny_newFunctionEnv_cells S.kind kinds fun env he s1 x => ?_
  subst he
  refine ⟨lim.keeps x.toInCall.keep, codeAny_func ?_⟩
  obtain ⟨t, ht, hq⟩ := hbody A outer s H vs Q E hG (room.deeper _) want
  have I0 := inv_start (CX := CX) (E := E) S room.hd ev n1 rel x
  refine wpAny_mono (ht.run [] s1 (start N vs) H _ I0 hq) (fun fl s' hs => ?_) fun e s' hs => hs
  cases fl with
  | ret u =>
    obtain ⟨v, σ', H', J, rv, q⟩ := hs
    exact ⟨v, H', J.os, J.bare, J.base, J.hok, rv, q⟩
  | next =>
    obtain ⟨σ', H', J, q⟩ := hs
    exact ⟨V.non, H', J.os, J.bare, J.base, J.hok, rfl, q⟩
  | brk => exact False.elim (let ⟨_, _, _, q⟩ := hs; q)
  | cont => exact False.elim (let ⟨_, _, _, q⟩ := hs; q)

theorem FunG.ok {x qual : Str} {st : Stmt} {f : Addr} {fd : FuncData} {N ps : List Str} {k : Nat} {sp : Sp}
    (F : Fun K x qual st f fd) (S : FnScope N ps (defScope st)) (len : ∀ vs H Q E, sp vs H Q E → vs.length = ps.length)
    (hbody : ∀ (cdv : Value) (A : Around) (outer : List Env) (s : Shared) (H : Hp) (vs : List V) (Q : VK) (E : XK),
      A.guards = some [] → Room k (A.deeper (envOfC qual (defScope st) s.heap.objs.size f cdv)) → sp vs H Q E →
      ∃ t, PSs (cxOf CX0 P w K mg base N qual (defScope st) f cdv A outer s H E).nox (defBody st) t ∧
        t { nx := fun _ H' => Q .non H', rt := Q } (start N vs) H) :
    FnG P w K mg base CX0 (k + 1) f fd ps sp := by
  obtain ⟨oc, od, kV, doc, pm, an, cdv, ct, osl, rfl, lk, hcd⟩ := F.ex
  refine fnG_of lk hcd S len fun A outer s H vs Q E hG hr hsp => ?_
  obtain ⟨t, h, q⟩ := hbody cdv A outer s H vs Q E hG hr hsp
  exact ⟨t, h.nox, q⟩
end

section
variable {X : Cx} {CX : CXT} {k : Nat} {f : Addr} {fd : FuncData} {ps : List Str} {sp : Sp} {dvs : List V} {ds : List Value}
  {E : XK} {x : Str} {p pos : Pos} {e : Expr} {es : List Expr} {t : TA}

theorem runG {pins : List (Addr × Obj)} {σ : L2.St} {H : Hp} {s : Shared} {Q : VK} {us : List Value} {vs : List V}
    (F : FnG X.prog X.w X.K X.mg X.base CX k f fd ps sp) (hG : X.A.guards = some []) (hr : Room k X.A)
    (hb : Binds X.K fd ps ds) (hd : Vals dvs ds) (hx : Passes CX X E) (I : Inv X pins σ H s) (r : Vals vs us)
    (h : sp (vs ++ dvs) H Q E) : wpAny (model X.prog X.w) X.A (call (.ref f) us) (EP X pins σ Q) X.xe s := by
  have both : Vals (vs ++ dvs) (us ++ ds) := r.append hd
  have n1 : (us ++ ds).length = ps.length := by
    rw [← both.length]
    exact F.len _ _ _ _ h
  have go := F.run X.A X.stack s H ⟨us, []⟩ (us ++ ds) (vs ++ dvs) Q E hG hr I.env0 (hb s us I.kIn n1) both h
  refine wpAny_call (codeAny_mono go fun r s' hq => ?_)
  cases r with
  | error e => exact hx pins σ H s e s' I hq
  | ok fl =>
    cases fl with
    | ret u => exact I.after hq
    | next => exact False.elim hq
    | brk => exact False.elim hq
    | cont => exact False.elim hq

/-- f(e, ..) of a def that may show data -/
theorem pe_callG (F : FnG X.prog X.w X.K X.mg X.base CX k f fd ps sp) (hG : X.A.guards = some []) (hr : Room k X.A)
    (hg : Gl X x) (hm : X.mg x = some (.ref f)) (hk : PySem.W.keepIn X.K (.ref f) = true) (hb : Binds X.K fd ps ds)
    (hd : Vals dvs ds) (hx : Passes CX X E) (ha : PA X (e :: es) t) (hdb : (x == ("__debug__" : Str)) = false := by decide)
    (he : starEach (e :: es) X.env = (false, eval e X.env) :: starEach es X.env := by rfl)
    (hpl : (backTo pos (starEach es X.env)).any (·.1) = false := by rfl) :
    PE X (.Call (.Name x p) (e :: es) [] pos) (tCall sp dvs E t) := by
  constructor
  intro pins s σ H Q I h
  refine wpAny_Call_Name_kw (ld_glob I hg hm ?_ hdb)
  have go := ha.run pos pins s σ H _ I h
  refine PySem.W.callWith_K (h₀ := X.base) I.ok.mod.kin hk (thn go fun us s1 ⟨vs, H1, I1, r, q⟩ => ⟨I1.kIn, ?_⟩) he hpl
  exact runG F hG hr hb hd hx I1 r q

/-- f(k = v, ..), keywords alone -/
theorem pe_callK0 {ks : List Str} {g : List Value → List Value → List Value} {gV : List V → List V → List V} {kws : List Keyword} {tk : TA}
    (F : FnOk X.prog X.w X.K X.mg X.base CX k f fd ps sp) (hr : Room k X.A) (hg : Gl X x) (hm : X.mg x = some (.ref f))
    (hk : PySem.W.keepIn X.K (.ref f) = true) (hb : KBinds X.K fd ps ks g gV) (hx : Passes CX X E) (hkw : PK X kws tk)
    (hall : (backToKw pos (keywordEach kws X.env)).all (·.1.isSome) = true := by rfl)
    (hks : (backToKw pos (keywordEach kws X.env)).filterMap (·.1) = ks := by rfl)
    (hdb : (x == ("__debug__" : Str)) = false := by decide)
    (hpl : ((backTo pos (starEach [] X.env)).any (·.1) || (backToKw pos (keywordEach kws X.env)).any (·.1.isNone)) = false := by rfl) :
    PE X (.Call (.Name x p) [] kws pos) (tCallK sp gV E tNil tk) := by
  constructor
  intro pins s σ H Q I h
  refine wpAny_Call_Name_kw (ld_glob I hg hm ?_ hdb)
  refine PySem.W.callWith_KW0 (h₀ := X.base) I.ok.mod.kin hk hall ?_ hpl
  refine thn (hkw.run pos pins s σ H _ I h) fun ws s2 ⟨zs, H2, I2, rz, q2⟩ => ⟨I2.kIn, ?_⟩
  rw [hks]
  exact run_fnk F hr hb hx I2 (us := []) .nil rz q2

/-- repr of lists and tuples that hold data -/
def rRepr (K : PySem.W.Frag) : List V → Hp → VK → Prop := fun xs H Q => ∃ (a : Addr) (d : PyData), xs = [.ref a] ∧ Dp K H (.ref a) d ∧
  d.showable = true ∧ d.hasDict = false ∧ d.depth ≤ 100 ∧ d.shown.length ≤ sizeLine ∧ Q (.str d.shown) H
theorem call_reprD (hG : X.A.guards = some []) (hr : Room k X.A) : CallR X (.builtin "repr") (rRepr X.K) := by
  intro pins s σ H xs us Q I r h
  obtain ⟨a, d, rfl, dp, hs, hn, hd, hz, q⟩ := h
  obtain ⟨u, rfl, ru⟩ := vals1 r
  obtain ⟨as, rd⟩ := Dp.reads I d _ u dp ru
  cases (show u = Value.ref a from ru)
  have hu : X.A.units + 16 * k + 200 < cLine := hr.un
  refine repr_of_reads' rd hs (PyData.noDict_hsm hn) hG (by omega) (fun _ _ e => e) (fun h' u tk hk => ?_) hz
  exact ⟨.str _, H, I.kept hk, ⟨_, rfl⟩, q⟩
end
end T3
namespace T3
open PySem PySem.Spec PyProof.Rows L2
/-- the law's call at its head, over a promise that holds where no repr is under way -/
theorem lawG {P : Program} {w : World} {K : PySem.W.Frag} {mg mb : Str → Option Value} {CX : CXT} {k : Nat} {fa a : Addr} {fd : FuncData}
    {x : Str} {sp : Sp} {s₁ : Shared} {vs : List Value} {ns : List Int} (KX : K.In s₁.heap) (hns : s₁.heap.Ns mainGlobals mg)
    (hb : s₁.heap.Ns builtinsNs mb) (hbb : ∀ x : Str, x ≠ "__name__" → mb x = bootBuiltins x) (hlim : s₁.heap.NoLimit) (hg : s₁.gens = #[])
    (ha : s₁.heap.get? a = some { cls := .type "list", data := .seq vs.toArray }) (hi : IntsAre vs ns) (hl : ns.length ≤ sizeLine)
    (hr : Room k callerA) (F : ∀ base : Heap, K.In base → base.Ns mainGlobals mg → FnG P w K mg base CX k fa fd [x] sp)
    (hbind : ∀ (s : Shared) (u : Value), BindsTo s fd ⟨[u], []⟩ [(x, u)])
    (hsp : ∀ H : Hp, Only H → SqL K H a (ns.map V.int) → sp [.ref a] H (fun v _ => v = .bl true) fun _ _ _ => False)
    (hCX : ∀ H e s', CX [] H s₁ (fun _ _ _ => False) e s' → False) :
    codeAny (model P w) callerA (.call (.ref fa) ⟨[.ref a], []⟩)
      (fun r s' => r = .ok (.ret (.bool true)) ∧ OldK s₁.heap s'.heap ∧ s'.os = s₁.os ∧ AllBare s'.gens) s₁ := by
  have vv := vals_ints hi
  have n1 := hi.length
  -- from any abstract heap that tracks the script alone
  have main : ∀ H : Hp, Only H → SqL K H a (ns.map V.int) → HOk P w H s₁.heap → (∀ b, H b ≠ none → b = a) → (H a ≠ none → K.lookup a = none) →
      codeAny (model P w) callerA (.call (.ref fa) ⟨[.ref a], []⟩)
        (fun r s' => r = .ok (.ret (.bool true)) ∧ OldK s₁.heap s'.heap ∧ s'.os = s₁.os ∧ AllBare s'.gens) s₁ := by
    intro H only seq hok one own
    -- what is no list is not tracked
    have bare : ∀ {b : Addr} {o : Obj} {es : Array DictEntry} {ep : Nat}, s₁.heap.get? b = some o → o.data = .dict es ep → H b = none := by
      intro b o es ep e d
      cases q : H b with
      | none => rfl
      | some u =>
        have z : b = a := one b (by rw [q]; exact fun y => nomatch y)
        rw [z, ha] at e
        cases e
        exact absurd (show Data.seq vs.toArray _ = Data.dict es ep from d) (fun y => nomatch y)
    have space : ∀ {b : Addr} {m : Str → Option Value}, s₁.heap.Ns b m → (hidT s₁.heap H).Ns b m := by
      rintro b m ⟨o, es, ep, e, d, r⟩
      exact ⟨o, es, ep, hidT_get e (bare e d), d, r⟩
    have kin : K.In (hidT s₁.heap H) := by
      intro b o e
      refine hidT_get (KX b o e) ?_
      cases q : H b with
      | none => rfl
      | some u =>
        have z : b = a := one b (by rw [q]; exact fun y => nomatch y)
        subst z
        rw [own (by rw [q]; exact fun y => nomatch y)] at e
        cases e
    have md : Mod K mg (hidT s₁.heap H) := by
      obtain ⟨mc, l1, l2⟩ := hlim
      exact ⟨kin, space hns, ⟨mb, space hb, hbb⟩, ⟨mc, space l1, l2⟩⟩
    have ev : Env0 P w K mg (hidT s₁.heap H) callerA [] s₁ H := by
      refine ⟨rfl, md, fun b o e => of_hidT e, Nat.le_of_eq (hidT_size _ _), trivial, ?_, hok, .of_eq hg⟩
      intro b hb'
      exact absurd (show b ∈ ([] : List Addr) from hb') (by simp)
    have go := (F _ kin (space hns)).run callerA [] s₁ H ⟨[.ref a], []⟩ [.ref a] [.ref a] (fun v _ => v = .bl true) (fun _ _ _ => False)
      rfl hr ev (hbind s₁ (.ref a)) (.cons rfl .nil) (hsp H only seq)
    refine codeAny_mono go fun r s' h => ?_
    match r, h with
    | .error e, h => exact (hCX H e s' h).elim
    | .ok .next, h => exact False.elim h
    | .ok .brk, h => exact False.elim h
    | .ok .cont, h => exact False.elim h
    | .ok (.ret u), ⟨v, H', os, br, un, hok', r', q⟩ =>
      have qv : v = .bl true := q
      subst qv
      obtain rfl : u = Value.bool true := r'
      refine ⟨rfl, OldK.of_keep fun b o e => ?_, os, br⟩
      cases q : H b with
      | none =>
        refine un.keep b o e q ?_ (by simp)
        intro z
        exact absurd (show b ∈ ([] : List Addr) from z) (by simp)
      | some u =>
        cases only b with
        | inl z =>
          rw [q] at z
          cases z
        | inr z =>
          obtain ⟨ob, xs, z⟩ := z
          have z2 := un.frzs b ob _ z
          obtain ⟨e1, _⟩ := hok b _ z
          obtain ⟨e2, _⟩ := hok' b _ z2
          rw [e] at e1
          cases e1
          exact e2
  cases hk : K.lookup a with
  | some o =>
    have e := KX a o hk
    rw [ha] at e
    cases e
    refine main (fun _ => none) (fun _ => .inl rfl) (.inr ⟨_, vs.toArray, _, hk, rfl, rfl, rfl, ?_, by simpa using vv⟩) ?_ (fun b z => absurd rfl z) fun z => absurd rfl z
    · rw [List.size_toArray, n1]
      exact hl
    · intro b u z
      exact absurd (show (none : Option HO) = some u from z) (fun y => nomatch y)
  | none =>
    refine main (fun b => if b = a then some (.frz { cls := .type "list", data := .seq vs.toArray } (.lst (ns.map V.int))) else none) ?_
      (.inl (.inr ⟨{ cls := .type "list", data := .seq vs.toArray }, if_pos rfl⟩)) ?_ ?_ fun _ => hk
    · intro b
      by_cases hb' : b = a
      · exact .inr ⟨_, _, if_pos hb'⟩
      · exact .inl (if_neg hb')
    · intro b u z
      by_cases hb' : b = a
      · have z' := (if_pos hb').symm.trans z
        cases z'
        subst hb'
        refine ⟨ha, ?_, vs, _, vv, ha⟩
        rw [List.length_map]
        exact hl
      · have z' := (if_neg hb').symm.trans z
        cases z'
    · intro b z
      by_cases hb' : b = a
      · exact hb'
      · exact absurd (if_neg hb') z

/-- what k_head leaves, from such a promise of the law -/
theorem walkG {l : PySem.W.OpenLaw} {n k : Nat} {q : Program} {loose : List Str} {XP : (Str → Option Value) → Heap → Prop} {YP : World → Heap → Prop}
    {d : DefRec} {K : Params → PySem.W.Frag} {CX : World → CXT} {sp : World → Sp} {x : Str} (hn : l.most = some n) (hn2 : n ≤ sizeLine)
    (hdf : d.params.defaults = []) (hr : Room k callerA) (hY : ∀ (w : World) (h : Heap), YP w h → (K w.params).In h)
    (F : ∀ (w : World) (mg : Str → Option Value) (fa : Addr) (h : Heap), (K w.params).In h → h.Ns mainGlobals mg → XP mg h → mg d.name = some (.ref fa) →
      ∃ fd : FuncData, (∀ (s : Shared) (u : Value), BindsTo s fd ⟨[u], []⟩ [(x, u)]) ∧
        ∀ base : Heap, (K w.params).In base → base.Ns mainGlobals mg → FnG l.prog w (K w.params) mg base (CX w) k fa fd [x] (sp w))
    (hsp : ∀ (w : World) (H : Hp) (a : Addr) (ns : List Int), ns.length ≤ n → Only H → SqL (K w.params) H a (ns.map V.int) →
      sp w [.ref a] H (fun v _ => v = .bl true) fun _ _ _ => False)
    (hCX : ∀ (w : World) (H : Hp) (s : Shared) (e : Value) (s' : Shared), CX w [] H s (fun _ _ _ => False) e s' → False) :
    PySem.W.WalkO q loose XP YP l.row.toRowW d [] (fun f vs => PySem.call f vs) := by
  refine Att.attach_call hn hdf ?_
  intro w s₀ s₁ mg mb fa o pm cd doc a vs ns G Y ho hd hcd hmg hobj hints hlen hg
  have KX := hY w _ Y
  obtain ⟨fd, hb, hF⟩ := F w mg fa _ KX G.T.g G.X hmg
  refine lawG KX G.T.g G.T.b G.T.builtins G.T.nolimit hg hobj hints (Nat.le_trans hlen hn2) hr hF hb ?_ ?_
  · intro H hO hS
    exact hsp w H a ns hlen hO hS
  · intro H e s'
    exact hCX w H s₁ e s'
end T3
/-! readings that reckon by themselves: rules whose readings are told by cases of the values -/
namespace T3
open PySem PySem.Spec PyProof.Rows L2

section
variable {X : Cx}
/-! ### weaker readings -/
theorem PE.imp {e : Expr} {t t' : TE} (i : ∀ σ H Q, t' σ H Q → t σ H Q) (h : PE X e t) : PE X e t' :=
  ⟨fun pins s σ H Q I q => h.run pins s σ H Q I (i σ H Q q)⟩
theorem PT.imp {e : Expr} {t t' : TT} (i : ∀ σ H Q, t' σ H Q → t σ H Q) (h : PT X e t) : PT X e t' :=
  ⟨fun pins s σ H Q I q => h.run pins s σ H Q I (i σ H Q q)⟩
theorem PS.imp {e : Stmt} {t t' : TS} (i : ∀ D σ H, t' D σ H → t D σ H) (h : PS X e t) : PS X e t' :=
  ⟨fun pins s σ H D I q => h.run pins s σ H D I (i D σ H q)⟩
theorem PT.close {e : Expr} {t : TT} (h : PT X e t) : PT X e (fun σ H Q => ∃ Q0, t σ H Q0 ∧ ∀ b H', Q0 b H' → Q b H') := by
  constructor
  rintro pins s σ H Q I ⟨Q0, q, i⟩
  refine thn (h.run pins s σ H Q0 I q) ?_
  rintro b s' ⟨H', I', q'⟩
  exact ⟨H', I', i b H' q'⟩
theorem OpR.imp {f : Value → Value → Sem Value} {r r' : R2} (h : OpR X f r) (i : ∀ x y H Q, r' x y H Q → r x y H Q) : OpR X f r' :=
  fun pins s σ H x y v u Q I rx ry q => h pins s σ H x y v u Q I rx ry (i x y H Q q)
theorem CallR.imp {f : Value} {r r' : List V → Hp → VK → Prop} (h : CallR X f r) (i : ∀ x H Q, r' x H Q → r x H Q) : CallR X f r' :=
  fun pins s σ H xs us Q I rx q => h pins s σ H xs us Q I rx (i xs H Q q)
theorem OpR.or {f : Value → Value → Sem Value} {r r' : R2} (h : OpR X f r) (h' : OpR X f r') : OpR X f (fun x y H Q => r x y H Q ∨ r' x y H Q) := by
  intro pins s σ H x y v u Q I rx ry q
  cases q with
  | inl q => exact h pins s σ H x y v u Q I rx ry q
  | inr q => exact h' pins s σ H x y v u Q I rx ry q
theorem CallR.or {f : Value} {r r' : List V → Hp → VK → Prop} (h : CallR X f r) (h' : CallR X f r') : CallR X f (fun x H Q => r x H Q ∨ r' x H Q) := by
  intro pins s σ H xs us Q I rx q
  cases q with
  | inl q => exact h pins s σ H xs us Q I rx q
  | inr q => exact h' pins s σ H xs us Q I rx q

/-! ### names -/
def mVar (i : Nat) : TE := fun σ H Q => match σ[i]? with
  | some (some v) => Q v H
  | _ => False
theorem mv (i : Nat) {x : Str} {pos : Pos} (hN : X.N[i]? = some x := by rfl)
    (hv : Vis X.env.scope x := by first | exact Or.inl rfl | exact Or.inr (Or.inl rfl) | exact Or.inr (Or.inr rfl))
    (hd : (x == ("__debug__" : Str)) = false := by decide) (hcd : (x == ("__classdict__" : Str)) = false := by decide) :
    PE X (.Name x pos) (mVar i) := by
  refine PE.imp ?_ (pe_var hN hv hd hcd)
  intro σ H Q h
  unfold mVar at h
  split at h
  · rename_i v e
    exact ⟨v, e, h⟩
  · exact h.elim

/-! ### two-place operations -/
def mAdd : R2 := fun x y H Q => match x, y with
  | .int i, .int j => Q (.int (i + j)) H
  | .str a, .str b => a.length + b.length ≤ sizeLine ∧ Q (.str (a ++ b)) H
  | .ref a, .ref b => ∃ xs ys, H a = some (.lst xs) ∧ H b = some (.lst ys) ∧ xs.length + ys.length ≤ sizeLine ∧
      ∀ p, H p = none → Q (.ref p) (upd H p (.lst (xs ++ ys)))
  | _, _ => False
theorem opAdd : OpR X (binaryOp .Add) mAdd := by
  refine OpR.imp (OpR.or op_add (OpR.or op_add_str op_cat)) ?_
  intro x y H Q h
  cases x <;> cases y <;> first
    | exact h.elim
    | exact .inl ⟨_, _, rfl, rfl, h⟩
    | exact .inr (.inl ⟨_, _, rfl, rfl, h⟩)
    | (obtain ⟨xs, ys, h1, h2, h3, h4⟩ := h; exact .inr (.inr ⟨_, _, xs, ys, rfl, rfl, h1, h2, h3, h4⟩))
def mSub : R2 := fun x y H Q => match x, y with
  | .int i, .int j => Q (.int (i - j)) H
  | _, _ => False
theorem opSub : OpR X (binaryOp .Sub) mSub := by
  refine OpR.imp op_sub ?_
  intro x y H Q h
  cases x <;> cases y <;> first
    | exact h.elim
    | exact ⟨_, _, rfl, rfl, h⟩
/-- n times a text -/
theorem op_rep_str : OpR X (binaryOp .Mult) (fun x y H Q => ∃ a n, x = .str a ∧ y = .int n ∧ MulOk a n ∧ Q (.str (Txt.mul a n)) H) := by
  intro pins s σ H x y v u Q I rx ry h
  obtain ⟨a, n, rfl, rfl, hk, q⟩ := h
  obtain ⟨t, rfl⟩ := rx
  obtain ⟨t', rfl⟩ := ry
  refine SB.mul hk fun t2 k => ?_
  exact ⟨.str _, H, I.tok _, ⟨_, rfl⟩, q⟩
def mMul : R2 := fun x y H Q => match x, y with
  | .int i, .int j => ((-(2 ^ 64) < i ∧ i < 2 ^ 64) ∨ (-(2 ^ 64) < j ∧ j < 2 ^ 64)) ∧ Q (.int (i * j)) H
  | .str a, .int n => MulOk a n ∧ Q (.str (Txt.mul a n)) H
  | _, _ => False
theorem opMul : OpR X (binaryOp .Mult) mMul := by
  refine OpR.imp (OpR.or op_mul op_rep_str) ?_
  intro x y H Q h
  cases x <;> cases y <;> first
    | exact h.elim
    | exact .inl ⟨_, _, rfl, rfl, h.1, h.2⟩
    | exact .inr ⟨_, _, rfl, rfl, h.1, h.2⟩
def mDiv : R2 := fun x y H Q => match x, y with
  | .int i, .int j => (0 < j ∧ j < 2 ^ 62) ∧ Q (.int (i / j)) H
  | _, _ => False
theorem log_small {j : Int} (h0 : 0 < j) (h1 : j < 2 ^ 62) : j.natAbs.log2 < 9000 := by
  have h2 : j.natAbs < 2 ^ 62 := by omega
  have h3 : j.natAbs ≠ 0 := by omega
  have h4 : j.natAbs.log2 < 62 := (Nat.log2_lt h3).mpr h2
  omega
theorem opDiv : OpR X (binaryOp .FloorDiv) mDiv := by
  refine OpR.imp op_fdivW ?_
  intro x y H Q h
  cases x <;> cases y <;> first
    | exact h.elim
    | exact ⟨_, _, rfl, rfl, ⟨h.1.1, log_small h.1.1 h.1.2⟩, h.2⟩
def mMod : R2 := fun x y H Q => match x, y with
  | .int i, .int j => 0 < j ∧ Q (.int (i % j)) H
  | _, _ => False
theorem opMod : OpR X (binaryOp .Mod) mMod := by
  refine OpR.imp op_mod ?_
  intro x y H Q h
  cases x <;> cases y <;> first
    | exact h.elim
    | exact ⟨_, _, rfl, rfl, h⟩
def mPow : R2 := fun x y H Q => match x, y with
  | .int i, .int j => CPow i j ∧ Q (.int (i ^ j.toNat)) H
  | _, _ => False
theorem opPow : OpR X (binaryOp .Pow) mPow := by
  refine OpR.imp op_pow ?_
  intro x y H Q h
  cases x <;> cases y <;> first
    | exact h.elim
    | exact ⟨_, _, rfl, rfl, h⟩

/-! ### comparisons -/
def mEq : R2 := fun x y H Q => match x, y with
  | .int i, .int j => Q (.bl (decide (i = j))) H
  | .str a, .str b => Q (.bl (decide (a = b))) H
  | .bl a, .bl b => Q (.bl (decide (a = b))) H
  | _, _ => False
theorem opEq : OpR X (compareOp .Eq) mEq := by
  refine OpR.imp op_eq ?_
  intro x y H Q h
  cases x <;> cases y <;> first
    | exact h.elim
    | exact ⟨rfl, by simpa [mEq] using h⟩
def mNe : R2 := fun x y H Q => match x, y with
  | .int i, .int j => Q (.bl (!decide (i = j))) H
  | .str a, .str b => Q (.bl (!decide (a = b))) H
  | .bl a, .bl b => Q (.bl (!decide (a = b))) H
  | _, _ => False
theorem opNe : OpR X (compareOp .NotEq) mNe := by
  refine OpR.imp op_ne ?_
  intro x y H Q h
  cases x <;> cases y <;> first
    | exact h.elim
    | exact ⟨rfl, by simpa [mNe] using h⟩
def mCmp (p : Int → Int → Bool) : R2 := fun x y H Q => match x, y with
  | .int i, .int j => Q (.bl (p i j)) H
  | _, _ => False
theorem mCmp_of {f : Value → Value → Sem Value} {p : Int → Int → Bool} (h : OpR X f (rI0 fun i j => .bl (p i j))) : OpR X f (mCmp p) := by
  refine OpR.imp h ?_
  intro x y H Q h
  cases x <;> cases y <;> first
    | exact h.elim
    | exact ⟨_, _, rfl, rfl, h⟩
theorem opLt : OpR X (compareOp .Lt) (mCmp fun i j => decide (i < j)) := mCmp_of op_lt
theorem opLe : OpR X (compareOp .LtE) (mCmp fun i j => decide (i ≤ j)) := mCmp_of op_le
theorem opGt : OpR X (compareOp .Gt) (mCmp fun i j => decide (j < i)) := mCmp_of op_gt
theorem opGe : OpR X (compareOp .GtE) (mCmp fun i j => decide (j ≤ i)) := mCmp_of op_ge
/-- one sign in a text; a flat value in a list or tuple -/
def mIn (K : PySem.W.Frag) : R2 := fun x y H Q => match y with
  | .str z => ∃ c, x = .str ⟨#[c]⟩ ∧ Q (.bl (decide (c ∈ z.cps.toList))) H
  | .ref p => ∃ xs, (SqL K H p xs ∨ SqT K H p xs) ∧ flatV x = true ∧ xs.all flatV = true ∧ Q (.bl (inV x xs)) H
  | _ => False
theorem opIn : OpR X (compareOp .In) (mIn X.K) := by
  refine OpR.imp (OpR.or op_in_sign op_in_seq) ?_
  intro x y H Q h
  cases y with
  | str z =>
    obtain ⟨c, e, q⟩ := h
    exact .inl ⟨c, z, e, rfl, q⟩
  | ref p =>
    obtain ⟨xs, h1, h2, h3, q⟩ := h
    exact .inr ⟨p, xs, rfl, h1, h2, h3, q⟩
  | _ => exact h.elim

/-! ### subscripts, slices -/
def mIx (K : PySem.W.Frag) : R2 := fun x y H Q => match x, y with
  | .str z, .int i => z.length ≤ sizeLine ∧ ∃ c, atI z.cps.toList i = some c ∧ Q (.str ⟨#[c]⟩) H
  | .ref p, .int i => ∃ xs, (SqL K H p xs ∨ SqT K H p xs) ∧ ∃ v, atI xs i = some v ∧ Q v H
  | _, _ => False
theorem IxR.imp {r r' : R2} (h : IxR X r) (i : ∀ x y H Q, r' x y H Q → r x y H Q) : IxR X r' :=
  fun value slice pins s σ H x y v u Q I rx ry q => h value slice pins s σ H x y v u Q I rx ry (i x y H Q q)
theorem ixM : IxR X (mIx X.K) := by
  refine IxR.imp ix_seq ?_
  intro x y H Q h
  cases x <;> cases y <;> first
    | exact h.elim
    | (obtain ⟨h1, c, h2, q⟩ := h; exact .inr (.inr ⟨_, _, c, rfl, rfl, h1, h2, q⟩))
    | (obtain ⟨xs, h1, v, h2, q⟩ := h
       cases h1 with
       | inl h1 => exact .inl ⟨_, xs, _, v, rfl, rfl, h1, h2, q⟩
       | inr h1 => exact .inr (.inl ⟨_, xs, _, v, rfl, rfl, h1, h2, q⟩))
def mPart (t : TE) : TO := fun σ H Q => t σ H fun x H1 => match x with
  | .int i => Q (some i) H1
  | _ => False
theorem mono_pe {e : Expr} {t : TE} (h : PE X e t) : PE X e (fun σ H Q => ∃ Q0 : VK, t σ H Q0 ∧ ∀ v H', Q0 v H' → Q v H') := by
  constructor
  rintro pins s σ H Q I ⟨Q0, q, i⟩
  refine thn (h.run pins s σ H Q0 I q) ?_
  rintro b s' ⟨v, H', I', r, q'⟩
  exact ⟨v, H', I', r, i v H' q'⟩
theorem pom {e : Expr} {t : TE} (h : PE X e t) : PO X (some e) (mPart t) := by
  constructor
  intro pins s σ H Q I q
  refine (po_some (mono_pe h)).run pins s σ H Q I ⟨_, q, ?_⟩
  intro v H' q'
  cases v <;> first
    | exact q'.elim
    | exact ⟨_, rfl, q'⟩
def mSl (K : PySem.W.Frag) : V → Option Int → Option Int → Hp → VK → Prop := fun x lo hi H Q => match x with
  | .str z => z.length ≤ sizeLine ∧ Q (.str (cutS z lo hi)) H
  | .ref a => ∃ xs, SqL K H a xs ∧ ∀ p, H p = none → Q (.ref p) (upd H p (.lst (cutV xs lo hi)))
  | _ => False
theorem slM : SlR X (mSl X.K) := by
  intro pins s σ H x v vl vu lo hi sl Q I rx hs pl pu q
  refine (SlR.or sl_str sl_list) pins s σ H x v vl vu lo hi sl Q I rx hs pl pu ?_
  cases x with
  | str z => exact .inl ⟨z, rfl, q⟩
  | ref a =>
    obtain ⟨xs, h1, h2⟩ := q
    exact .inr ⟨a, xs, rfl, h1, h2⟩
  | _ => exact q.elim

/-! ### built-ins -/
def mLen (K : PySem.W.Frag) : List V → Hp → VK → Prop := fun xs H Q => match xs with
  | [.str z] => z.length ≤ sizeLine ∧ Q (.int z.length) H
  | [.ref p] => ∃ ys, (SqL K H p ys ∨ SqT K H p ys) ∧ Q (.int ys.length) H
  | _ => False
theorem callLen : CallR X (.builtin "len") (mLen X.K) := by
  refine CallR.imp (CallR.or call_len_str call_len_seq) ?_
  intro xs H Q h
  match xs, h with
  | [.str z], h => exact .inl ⟨z, rfl, h⟩
  | [.ref p], ⟨ys, h1, q⟩ => exact .inr ⟨p, ys, rfl, h1, q⟩
def mInt : List V → Hp → VK → Prop := fun xs H Q => match xs with
  | [.int i] => Q (.int i) H
  | [.bl k] => Q (.int (if k then 1 else 0)) H
  | _ => False
theorem callInt : CallR X (.type "int") mInt := by
  refine CallR.imp call_int1 ?_
  intro xs H Q h
  match xs, h with
  | [.int i], h => exact .inl ⟨i, rfl, h⟩
  | [.bl k], h => exact .inr ⟨k, rfl, h⟩
def mTwo (g : Int → Int → Int) : List V → Hp → VK → Prop := fun xs H Q => match xs with
  | [.int i, .int j] => Q (.int (g i j)) H
  | _ => False
theorem callMin (hc : X.calm = true) : CallR X (.builtin "min") (mTwo fun i j => if j < i then j else i) := by
  refine CallR.imp (call_min2 hc) ?_
  intro xs H Q h
  match xs, h with
  | [.int i, .int j], h => exact ⟨i, j, rfl, h⟩
theorem callMax (hc : X.calm = true) : CallR X (.builtin "max") (mTwo fun i j => if j > i then j else i) := by
  refine CallR.imp (call_max2 hc) ?_
  intro xs H Q h
  match xs, h with
  | [.int i, .int j], h => exact ⟨i, j, rfl, h⟩
/-- tuple(a list that stands) -/
def mTuple (K : PySem.W.Frag) : List V → Hp → VK → Prop := fun xs H Q => match xs with
  | [.ref p] => ∃ ys, SqL K H p ys ∧ ∀ l, H l = none → Q (.ref l) (upd H l (.tup ys))
  | _ => False
theorem callTuple : CallR X (.type "tuple") (mTuple X.K) := by
  refine CallR.imp call_tuple_of ?_
  intro xs H Q h
  match xs, h with
  | [.ref p], ⟨ys, h1, h2⟩ => exact ⟨p, ys, rfl, .inl ⟨h1, h2⟩⟩
/-- isinstance(x, a built-in class) -/
def mIsi (K : PySem.W.Frag) : List V → Hp → VK → Prop := fun xs H Q => match xs with
  | [.str _, .ty n] => ∃ b, kitB "str" n = some b ∧ Q (.bl b) H
  | [.int _, .ty n] => ∃ b, kitB "int" n = some b ∧ Q (.bl b) H
  | [.bl _, .ty n] => ∃ b, kitB "bool" n = some b ∧ Q (.bl b) H
  | [.ref a, .ty n] => ((∃ ys, H a = some (.tup ys)) ∧ ∃ b, kitB "tuple" n = some b ∧ Q (.bl b) H) ∨
      ((∃ ys, H a = some (.lst ys)) ∧ ∃ b, kitB "list" n = some b ∧ Q (.bl b) H)
  | _ => False
theorem callIsi : CallR X (.builtin "isinstance") (mIsi X.K) := by
  refine CallR.imp call_isi ?_
  intro xs H Q h
  match xs, h with
  | [.str z, .ty n], ⟨b, e, q⟩ => exact ⟨_, _, _, _, b, rfl, .ty n, .base (.str z), kit_ty e, q⟩
  | [.int z, .ty n], ⟨b, e, q⟩ => exact ⟨_, _, _, _, b, rfl, .ty n, .base (.int z), kit_ty e, q⟩
  | [.bl z, .ty n], ⟨b, e, q⟩ => exact ⟨_, _, _, _, b, rfl, .ty n, .base (.bl z), kit_ty e, q⟩
  | [.ref a, .ty n], .inl ⟨⟨ys, ha⟩, b, e, q⟩ => exact ⟨_, _, _, _, b, rfl, .ty n, .base (.tup ha), kit_ty e, q⟩
  | [.ref a, .ty n], .inr ⟨⟨ys, ha⟩, b, e, q⟩ => exact ⟨_, _, _, _, b, rfl, .ty n, .base (.lst ha), kit_ty e, q⟩

/-! ### tests -/
def mTest (t : TE) : TT := fun σ H Q => t σ H fun x H1 => match x with
  | .bl k => Q k H1
  | _ => False
theorem mcmp {op : CmpOp} {r : R2} {a b : Expr} {ta tb : TE} {pos : Pos} (ho : OpR X (compareOp op) r) (ha : PE X a ta) (hb : PE X b tb)
    (hm : behindInMarks op b = false := by first | rfl | exact nomark _) : PT X (.Compare a [op] [b] pos) (mTest (tOp r ta tb)) := by
  have ho' : OpR X (compareOp op) (fun x y H Q => ∃ Q0 : VK, r x y H Q0 ∧ ∀ v H', Q0 v H' → Q v H') := by
    rintro pins s σ H x y v u Q I rx ry ⟨Q0, q, i⟩
    refine thn (ho pins s σ H x y v u Q0 I rx ry q) ?_
    rintro b s' ⟨v, H', I', r, q'⟩
    exact ⟨v, H', I', r, i v H' q'⟩
  refine PT.imp ?_ (pt_cmpR ho' (mono_pe ha) (mono_pe hb) hm)
  intro σ H Q h
  refine ⟨_, h, fun x H1 h1 => ⟨_, h1, fun y H2 h2 => ⟨_, h2, fun z H3 h3 => ?_⟩⟩⟩
  cases z <;> first
    | exact h3.elim
    | exact ⟨_, rfl, h3⟩
/-- a value that is True or False, as a test -/
theorem mval {e : Expr} {t : TE} (h : PE X e t)
    (he : ∀ whole, isTrue e X.env whole = (do let v ← whole; standAt e.pos; holding [v] (truthy v)) := by intro _; rfl) : PT X e (mTest t) := by
  refine PT.imp ?_ (pt_val (mono_pe h) he)
  intro σ H Q h
  refine ⟨_, h, fun x H1 h1 => ?_⟩
  cases x <;> first
    | exact h1.elim
    | exact ⟨_, rfl, h1⟩
theorem mcmpE {op : CmpOp} {r : R2} {a b : Expr} {ta tb : TE} {pos : Pos} (ho : OpR X (compareOp op) r) (ha : PE X a ta) (hb : PE X b tb)
    (hm : behindInMarks op b = false := by first | rfl | exact nomark _) : PE X (.Compare a [op] [b] pos) (tOp r ta tb) := pe_cmpR ho ha hb hm

/-! ### statements -/
def mIf (c : TT) (t u : TS) : TS := fun D σ H => c σ H fun b H1 => (b = true → t D σ H1) ∧ (b = false → u D σ H1)
theorem mif {c : Expr} {a b : List Stmt} {tc : TT} {t u : TS} {pos : Pos} (hc : PT X c tc) (ha : PSs X a t) (hb : PSs X b u) : PS X (.If c a b pos) (mIf tc t u) := by
  refine PS.imp ?_ (ps_if (PT.close hc) ha hb)
  intro D σ H h
  refine ⟨_, h, ?_⟩
  intro b H' q
  cases b with
  | true => exact iteT (q.1 rfl)
  | false => exact iteF (q.2 rfl)
/-- the invariant and what falls -/
def mWhile (c : TT) (tb : TS) : TS := fun D σ H => ∃ (Pv : L2.St → Hp → Prop) (μ : L2.St → Hp → Nat), Pv σ H ∧ ∀ σ H, Pv σ H →
  c σ H fun b H1 => (b = true → tb { D with nx := fun σ' H' => Pv σ' H' ∧ μ σ' H' < μ σ H, ct := fun σ' H' => Pv σ' H' ∧ μ σ' H' < μ σ H, bk := D.nx } σ H1) ∧ (b = false → D.nx σ H1)
theorem mwhile {c : Expr} {body : List Stmt} {tc : TT} {tb : TS} {pos : Pos} (hp : PassesOwn (model X.prog X.w) X.A X.env X.xe) (hc : PT X c tc) (hb : PSs X body tb) :
    PS X (.While c body [] pos) (mWhile tc tb) := by
  refine PS.imp ?_ (ps_while hp (PT.close hc) hb)
  rintro D σ H ⟨Pv, μ, h0, hs⟩
  refine ⟨fun m σ H => m = μ σ H ∧ Pv σ H, ⟨_, rfl, h0⟩, ?_⟩
  rintro m σ H ⟨rfl, p⟩
  refine ⟨_, hs σ H p, ?_⟩
  intro b H1 q
  cases b with
  | true =>
    refine iteT ⟨_, ?_, q.1 rfl⟩
    rintro σ' H' ⟨p', l⟩
    exact ⟨_, l, rfl, p'⟩
  | false => exact iteF (q.2 rfl)
/-- for .. in range(n) -/
def mForR (ta : TE) (g : TG) (tb : TS) : TS := fun D σ H => ta σ H fun v H1 => match v with
  | .int j => (-(2 ^ 62) ≤ j ∧ j < 2 ^ 62) ∧ ∃ Pv : Nat → L2.St → Hp → Prop, Pv 0 σ H1 ∧
      (∀ (i : Nat) σ H, i < j.toNat → Pv i σ H → g (.int i) σ H fun σ2 H2 => tb { D with nx := Pv (i + 1), ct := Pv (i + 1), bk := D.nx } σ2 H2) ∧
      ∀ σ H, Pv j.toNat σ H → D.nx σ H
  | _ => False
theorem mforR {a : Expr} {ta : TE} {p pos pos' : Pos} {body : List Stmt} {tg : Expr} {g : TG} {tb : TS} (hp : PassesOwn (model X.prog X.w) X.A X.env X.xe) (hc : X.calm = true)
    (hg : Gl X "range") (hm : X.mg "range" = none) (ha : PE X a ta) (hG : PG X tg g) (hb : PSs X body tb)
    (hs : starEach [a] X.env = (false, eval a X.env) :: starEach [] X.env := by rfl)
    (hf : ∀ x, foldedSetIterable (.Call (.Name "range" p) [a] [] pos) X.env x = pure x := by intro _; rfl) :
    PS X (.For tg (.Call (.Name "range" p) [a] [] pos) body [] pos') (mForR ta g tb) := by
  have q := ps_for (pos := pos') hp hc (pi_range1 (tg := tg) (p := p) (pos := pos) hg hm (pa_cons (mono_pe ha) pa_nil hs) hs) hG hb hf
  refine PS.imp ?_ q
  intro D σ H h
  refine ⟨_, h, ?_⟩
  intro v H1 h1
  cases v with
  | int j =>
    obtain ⟨h2, Pv, p0, ps, pd⟩ := h1
    refine ⟨j, rfl, h2.1, h2.2, for_range (lo := 0) (n := j.toNat) Pv p0 ?_ pd⟩
    intro i σ H hi hP
    have z := ps i σ H hi hP
    rw [Int.zero_add]
    exact z
  | _ => exact h1.elim
/-- for .. in a list that stays -/
def mForL (K : PySem.W.Frag) (ta : TE) (g : TG) (tb : TS) : TS := fun D σ H => ta σ H fun v H1 => match v with
  | .ref a => ∃ xs, SqL K H1 a xs ∧ ∃ Pv : Nat → L2.St → Hp → Prop, Pv 0 σ H1 ∧ (∀ i σ H, i ≤ xs.length → Pv i σ H → SqL K H a xs) ∧
      (∀ (i : Nat) x σ H, xs[i]? = some x → Pv i σ H → g x σ H fun σ2 H2 => tb { D with nx := Pv (i + 1), ct := Pv (i + 1), bk := D.nx } σ2 H2) ∧
      ∀ σ H, Pv xs.length σ H → D.nx σ H
  | _ => False
theorem mforL {a : Expr} {ta : TE} {pos' : Pos} {body : List Stmt} {tg : Expr} {g : TG} {tb : TS} (hp : PassesOwn (model X.prog X.w) X.A X.env X.xe) (hc : X.calm = true)
    (ha : PE X a ta) (hG : PG X tg g) (hb : PSs X body tb) (hf : ∀ x, foldedSetIterable a X.env x = pure x := by intro _; rfl) :
    PS X (.For tg a body [] pos') (mForL X.K ta g tb) := by
  have q := ps_for (pos := pos') hp hc (pi_list (tg := tg) (mono_pe ha)) hG hb hf
  refine PS.imp ?_ q
  intro D σ H h
  refine ⟨_, h, ?_⟩
  intro v H1 h1
  cases v with
  | ref a =>
    obtain ⟨xs, h2, Pv, p0, pl, ps, pd⟩ := h1
    exact ⟨a, rfl, ⟨xs, h2⟩, for_list (xs := xs) Pv p0 pl ps pd⟩
  | _ => exact h1.elim
/-- for .. in a tuple -/
def mForT (K : PySem.W.Frag) (ta : TE) (g : TG) (tb : TS) : TS := fun D σ H => ta σ H fun v H1 => match v with
  | .ref a => ∃ xs, SqT K H1 a xs ∧ ∃ Pv : Nat → L2.St → Hp → Prop, Pv 0 σ H1 ∧ (∀ i σ H, i ≤ xs.length → Pv i σ H → SqT K H a xs) ∧
      (∀ (i : Nat) x σ H, xs[i]? = some x → Pv i σ H → g x σ H fun σ2 H2 => tb { D with nx := Pv (i + 1), ct := Pv (i + 1), bk := D.nx } σ2 H2) ∧
      ∀ σ H, Pv xs.length σ H → D.nx σ H
  | _ => False
theorem mforT {a : Expr} {ta : TE} {pos' : Pos} {body : List Stmt} {tg : Expr} {g : TG} {tb : TS} (hp : PassesOwn (model X.prog X.w) X.A X.env X.xe) (hc : X.calm = true)
    (ha : PE X a ta) (hG : PG X tg g) (hb : PSs X body tb) (hf : ∀ x, foldedSetIterable a X.env x = pure x := by intro _; rfl) :
    PS X (.For tg a body [] pos') (mForT X.K ta g tb) := by
  have q := ps_for (pos := pos') hp hc (pi_tup (tg := tg) (mono_pe ha)) hG hb hf
  refine PS.imp ?_ q
  intro D σ H h
  refine ⟨_, h, ?_⟩
  intro v H1 h1
  cases v with
  | ref a =>
    obtain ⟨xs, h2, Pv, p0, pl, ps, pd⟩ := h1
    exact ⟨a, rfl, ⟨xs, h2⟩, for_tup (xs := xs) Pv p0 pl ps pd⟩
  | _ => exact h1.elim
/-- o[i] = e, o a list -/
def mSetI : V → V → V → Hp → (Hp → Prop) → Prop := fun o i v H Q => match o, i with
  | .ref p, .int k => ∃ xs j, H p = some (.lst xs) ∧ ixN xs.length k = some j ∧ Q (upd H p (.lst (xs.set j v)))
  | _, _ => False
theorem setM : PSet X mSetI := by
  intro pins s σ H o i v o' i' v' Q I ro ri rv q
  refine set_list pins s σ H o i v o' i' v' Q I ro ri rv ?_
  cases o <;> cases i <;> first
    | exact q.elim
    | (obtain ⟨xs, j, h1, h2, h3⟩ := q; exact ⟨_, xs, _, j, rfl, rfl, h1, h2, h3⟩)
/-- x += e at a name -/
def mIp : TIp := fun x y H Q => match x, y with
  | .int i, .int j => Q (.int (i + j)) H
  | _, _ => False
theorem ipAdd : PIp X .Add mIp := by
  intro pins s σ H x y v u Q I rx ry q
  refine ip_add pins s σ H x y v u Q I rx ry ?_
  cases x <;> cases y <;> first
    | exact q.elim
    | exact ⟨_, _, rfl, rfl, q⟩
def mAug (i : Nat) (te : TE) (ti : TIp) : TS := fun D σ H => match σ[i]? with
  | some (some x) => te σ H fun y H1 => ti x y H1 fun z H2 => D.nx (σ.set i (some z)) H2
  | _ => False
theorem maug {i : Nat} {x : Str} {e : Expr} {te : TE} {op : Operator} {ti : TIp} {pos pos' : Pos} (hN : X.N.Nodup) (hi : X.N[i]? = some x) (hx : Loc X.env.scope x) (he : PE X e te) (ho : PIp X op ti)
    (hf : X.fn x = true ∨ X.env.scope.names.lookup x = some .local := by first | exact .inl rfl | exact .inr rfl | assumption) : PS X (.AugAssign (.Name x pos') op e pos) (mAug i te ti) := by
  refine PS.imp ?_ (ps_aug hN hi hx he ho hf)
  intro D σ H h
  unfold mAug at h
  split at h
  · rename_i v e
    exact ⟨v, e, h⟩
  · exact h.elim
/-- xs.append(e) -/
def mApp (to ta : TE) : TS := fun D σ H => to σ H fun x H1 => match x with
  | .ref l => (∃ xs, H1 l = some (.lst xs)) ∧ ta σ H1 fun y H2 => ∃ xs, H2 l = some (.lst xs) ∧ xs.length < sizeLine ∧ D.nx σ (upd H2 l (.lst (xs ++ [y])))
  | _ => False
end
end T3
namespace T3
open PySem PySem.Spec PyProof.Rows L2
section
variable {X : Cx}
/-! ### the module's constants -/
def GS (mg : Str → Option Value) (x z : Str) : Prop := ∃ t, mg x = some (.str z t)
def GT (K : PySem.W.Frag) (mg : Str → Option Value) (x : Str) (xs : List V) : Prop := ∃ p, mg x = some (.ref p) ∧ ∀ H, SqT K H p xs
theorem pe_gs {x z : Str} {pos : Pos} (hg : Gl X x) (h : GS X.mg x z) (hd : (x == ("__debug__" : Str)) = false := by decide) : PE X (.Name x pos) (tC (.str z)) := by
  obtain ⟨t, h⟩ := h
  exact pe_glob hg h ⟨t, rfl⟩ hd
def mGT (K : PySem.W.Frag) (xs : List V) : TE := fun _ H Q => ∀ p, (∀ H, SqT K H p xs) → Q (.ref p) H
theorem pe_gt {x : Str} {xs : List V} {pos : Pos} (hg : Gl X x) (h : GT X.K X.mg x xs) (hd : (x == ("__debug__" : Str)) = false := by decide) : PE X (.Name x pos) (mGT X.K xs) := by
  obtain ⟨p, h, hp⟩ := h
  exact PE.imp (fun σ H Q q => q p hp) (pe_glob hg h rfl hd)

/-! ### defs that are called -/
/-- the def of this name keeps this promise -/
def Cal (P : Program) (w : World) (K : PySem.W.Frag) (mg : Str → Option Value) (base : Heap) (x : Str) (k : Nat) (ps : List Str) (sp : Sp) : Prop :=
  ∃ (f : Addr) (fd : FuncData), FnOk P w K mg base CX0 k f fd ps sp ∧ mg x = some (.ref f) ∧ PySem.W.keepIn K (.ref f) = true ∧ Binds K fd ps []
def CalG (P : Program) (w : World) (K : PySem.W.Frag) (mg : Str → Option Value) (base : Heap) (x : Str) (k : Nat) (ps : List Str) (sp : Sp) : Prop :=
  ∃ (f : Addr) (fd : FuncData), FnG P w K mg base CX0 k f fd ps sp ∧ mg x = some (.ref f) ∧ PySem.W.keepIn K (.ref f) = true ∧ Binds K fd ps []
def CalK (P : Program) (w : World) (K : PySem.W.Frag) (mg : Str → Option Value) (base : Heap) (x : Str) (k : Nat) (ps : List Str) (sp : Sp) : Prop :=
  ∃ (f : Addr) (fd : FuncData), FnOk P w K mg base CX0 k f fd ps sp ∧ mg x = some (.ref f) ∧ PySem.W.keepIn K (.ref f) = true ∧
    KBinds K fd ps ps (fun us ws => us ++ ws) (fun us ws => us ++ ws)
def mCall (sp : Sp) (t : TA) : TE := fun σ H Q => t σ H fun vs H1 => sp vs H1 Q E0
theorem mono_pa {es : List Expr} {t : TA} (h : PA X es t) : PA X es (fun σ H Q => ∃ Q0 : List V → Hp → Prop, t σ H Q0 ∧ ∀ v H', Q0 v H' → Q v H') := by
  constructor
  rintro pos pins s σ H Q I ⟨Q0, q, i⟩
  refine thn (h.run pos pins s σ H Q0 I q) ?_
  rintro b s' ⟨v, H', I', r, q'⟩
  exact ⟨v, H', I', r, i v H' q'⟩
theorem pe_cal {x : Str} {k : Nat} {ps : List Str} {sp : Sp} {p pos : Pos} {e : Expr} {es : List Expr} {t : TA} (C : Cal X.prog X.w X.K X.mg X.base x k ps sp) (hr : Room k X.A) (hg : Gl X x) (ha : PA X (e :: es) t)
    (hdb : (x == ("__debug__" : Str)) = false := by decide) (he : starEach (e :: es) X.env = (false, eval e X.env) :: starEach es X.env := by rfl) (hpl : (backTo pos (starEach es X.env)).any (·.1) = false := by rfl) :
    PE X (.Call (.Name x p) (e :: es) [] pos) (mCall sp t) := by
  obtain ⟨f, fd, F, g, kp, b⟩ := C
  refine PE.imp ?_ (pe_call F hr hg g kp b .nil pass0 (mono_pa ha) hdb he hpl)
  intro σ H Q h
  refine ⟨_, h, fun v H' q => ?_⟩
  show sp (v ++ []) H' Q E0
  rw [List.append_nil]
  exact q
theorem pe_calG {x : Str} {k : Nat} {ps : List Str} {sp : Sp} {p pos : Pos} {e : Expr} {es : List Expr} {t : TA} (C : CalG X.prog X.w X.K X.mg X.base x k ps sp) (hG : X.A.guards = some []) (hr : Room k X.A) (hg : Gl X x) (ha : PA X (e :: es) t)
    (hdb : (x == ("__debug__" : Str)) = false := by decide) (he : starEach (e :: es) X.env = (false, eval e X.env) :: starEach es X.env := by rfl) (hpl : (backTo pos (starEach es X.env)).any (·.1) = false := by rfl) :
    PE X (.Call (.Name x p) (e :: es) [] pos) (mCall sp t) := by
  obtain ⟨f, fd, F, g, kp, b⟩ := C
  refine PE.imp ?_ (pe_callG F hG hr hg g kp b .nil pass0 (mono_pa ha) hdb he hpl)
  intro σ H Q h
  refine ⟨_, h, fun v H' q => ?_⟩
  show sp (v ++ []) H' Q E0
  rw [List.append_nil]
  exact q
theorem mono_pk {es : List Keyword} {t : TA} (h : PK X es t) : PK X es (fun σ H Q => ∃ Q0 : List V → Hp → Prop, t σ H Q0 ∧ ∀ v H', Q0 v H' → Q v H') := by
  constructor
  rintro pos pins s σ H Q I ⟨Q0, q, i⟩
  refine thn (h.run pos pins s σ H Q0 I q) ?_
  rintro b s' ⟨v, H', I', r, q'⟩
  exact ⟨v, H', I', r, i v H' q'⟩
theorem pe_calK {x : Str} {k : Nat} {ps : List Str} {sp : Sp} {p pos : Pos} {kws : List Keyword} {t : TA} (C : CalK X.prog X.w X.K X.mg X.base x k ps sp) (hr : Room k X.A) (hg : Gl X x) (ha : PK X kws t)
    (hall : (backToKw pos (keywordEach kws X.env)).all (·.1.isSome) = true := by rfl)
    (hks : (backToKw pos (keywordEach kws X.env)).filterMap (·.1) = ps := by rfl)
    (hdb : (x == ("__debug__" : Str)) = false := by decide)
    (hpl : ((backTo pos (starEach [] X.env)).any (·.1) || (backToKw pos (keywordEach kws X.env)).any (·.1.isNone)) = false := by rfl) :
    PE X (.Call (.Name x p) [] kws pos) (mCall sp t) := by
  obtain ⟨f, fd, F, g, kp, b⟩ := C
  exact PE.imp (fun σ H Q h => ⟨_, h, fun v H' q => q⟩) (pe_callK0 F hr hg g kp b pass0 (mono_pk ha) hall hks hdb hpl)
theorem kbinds1 {K : PySem.W.Frag} {x qual y : Str} {st : Stmt} {f : Addr} {fd : FuncData} (F : Fun K x qual st f fd)
    (h1 : ∀ (kV doc pm : Value) (an : Option Addr) (cdv ct u : Value), bindArgs (PySem.W.fnOf x qual (defArgs st) (defBody st) (defScope st) .none kV doc pm an cdv ct) ⟨[u], []⟩ = pure [(y, u)])
    (h2 : ∀ (kV doc pm : Value) (an : Option Addr) (cdv ct u : Value), bindArgs (PySem.W.fnOf x qual (defArgs st) (defBody st) (defScope st) .none kV doc pm an cdv ct) ⟨[], [(y, u)]⟩ = pure [(y, u)]) :
    KBinds K fd [y] [y] (fun us ws => us ++ ws) (fun us ws => us ++ ws) := by
  obtain ⟨oc, od, kV, doc, pm, an, cdv, ct, osl, rfl, lk, hcd⟩ := F.ex
  constructor
  · intro s us ws hk hl
    match us, ws, hl with
    | [], [v], _ => exact .of_eq (h2 kV doc pm an cdv ct v)
    | [u], [], _ => exact .of_eq (h1 kV doc pm an cdv ct u)
    | [], [], hl => exact absurd hl (by simp)
    | _ :: _ :: _, _, hl => exact absurd hl (by simp)
    | [_], _ :: _, hl => exact absurd hl (by simp)
    | [], _ :: _ :: _, hl => exact absurd hl (by simp)
  · intro vs us zs ws r rz
    exact r.append rz

/-! ### and, or -/
theorem PW.imp {e : Expr} {t t' : TT} (i : ∀ σ H Q, t' σ H Q → t σ H Q) (h : PW X e t) : PW X e t' :=
  ⟨fun wh pins s σ H Q I q => h.run wh pins s σ H Q I (i σ H Q q)⟩
def mAnd (t u : TT) : TT := fun σ H Q => t σ H fun c H1 => (c = true → u σ H1 Q) ∧ (c = false → Q false H1)
theorem mand {a b : Expr} {rest : List Expr} {pos : Pos} {tA tB : TT} (ha : PT X a tA) (hb : PW X (.BoolOp .And (b :: rest) pos) tB) : PW X (.BoolOp .And (a :: b :: rest) pos) (mAnd tA tB) := by
  refine PW.imp ?_ (pw_and (PT.close ha) hb)
  intro σ H Q h
  refine ⟨_, h, ?_⟩
  intro b H' q
  cases b with
  | true => exact iteT (q.1 rfl)
  | false => exact iteF (q.2 rfl)
def mOr (t u : TT) : TT := fun σ H Q => t σ H fun c H1 => (c = true → Q true H1) ∧ (c = false → u σ H1 Q)
theorem mor {a b : Expr} {rest : List Expr} {pos : Pos} {tA tB : TT} (ha : PT X a tA) (hb : PW X (.BoolOp .Or (b :: rest) pos) tB) : PW X (.BoolOp .Or (a :: b :: rest) pos) (mOr tA tB) := by
  refine PW.imp ?_ (pw_or (PT.close ha) hb)
  intro σ H Q h
  refine ⟨_, h, ?_⟩
  intro b H' q
  cases b with
  | true => exact iteT (q.1 rfl)
  | false => exact iteF (q.2 rfl)
def mAndV (ta tb : TE) : TE := fun σ H Q => ta σ H fun x H1 => match x with
  | .bl c => (c = true → tb σ H1 Q) ∧ (c = false → Q (.bl false) H1)
  | _ => False
theorem mandV {a b : Expr} {rest : List Expr} {pos : Pos} {ta tb : TE} (ha : PE X a ta) (hb : PE X (.BoolOp .And (b :: rest) pos) tb) : PE X (.BoolOp .And (a :: b :: rest) pos) (mAndV ta tb) := by
  refine PE.imp ?_ (pe_and (mono_pe ha) hb)
  intro σ H Q h
  refine ⟨_, h, ?_⟩
  intro v H' q
  cases v with
  | bl c =>
    refine ⟨c, rfl, ?_⟩
    cases c with
    | true => exact iteT (q.1 rfl)
    | false => exact iteF (q.2 rfl)
  | _ => exact q.elim

/-! ### e if c else f -/
def mIfE (c : TT) (ta tb : TE) : TE := fun σ H Q => c σ H fun b H1 => (b = true → ta σ H1 Q) ∧ (b = false → tb σ H1 Q)
theorem mifE {c a b : Expr} {tc : TT} {ta tb : TE} {pos : Pos} (hc : PT X c tc) (ha : PE X a ta) (hb : PE X b tb) : PE X (.IfExp c a b pos) (mIfE tc ta tb) := by
  refine PE.imp ?_ (pe_ifExp (PT.close hc) ha hb)
  intro σ H Q h
  refine ⟨_, h, ?_⟩
  intro b H' q
  cases b with
  | true => exact iteT (q.1 rfl)
  | false => exact iteF (q.2 rfl)
theorem unNeg : UnR X (unaryOp .USub) (fun x H Q => match x with | .int i => Q (.int (-i)) H | _ => False) := by
  intro pins s σ H x v Q I rx h
  refine un_neg pins s σ H x v Q I rx ?_
  cases x <;> first
    | exact h.elim
    | exact ⟨_, rfl, h⟩
theorem mapp {o e : Expr} {to ta : TE} {apos cpos pos : Pos} (ho : PE X o to) (ha : PE X e ta)
    (hbase : attributeBase o "append" X.env (eval o X.env) = eval o X.env := by rfl)
    (hfew : ((backTo cpos (starEach [e] X.env)).all (fun x => !x.1) && (backToKw cpos (keywordEach [] X.env)).all (fun x => x.1.isSome)
      && decide (([e] : List Expr).length + ([] : List Keyword).length + (if ([] : List Keyword).isEmpty then 0 else 1) < 30)) = true := by rfl)
    (hline : (apos.endLine == cpos.line) = true := by rfl) (hs : starEach [e] X.env = (false, eval e X.env) :: starEach [] X.env := by rfl)
    (hplain : (backTo cpos (starEach [] X.env)).any (·.1) = false := by rfl)
    (hsw : swapsWith (.Call (.Attribute o "append" apos) [e] [] cpos) none pos.line X.env = pure false := by rfl) :
    PS X (.Expr (.Call (.Attribute o "append" apos) [e] [] cpos) pos) (mApp to ta) := by
  refine PS.imp ?_ (ps_expr (pos := pos) (pe_bm PySem.F.plainAttrs_list PySem.F.slot_list_append PySem.F.type_list_append mt_append (mono_pe ho) (pa_cons (mono_pe ha) pa_nil hs) hbase hfew hline hs hplain) hsw)
  intro D σ H h
  refine ⟨_, h, ?_⟩
  intro v H1 h1
  cases v with
  | ref l =>
    obtain ⟨⟨xs, hx⟩, h2⟩ := h1
    refine ⟨.inl ⟨rfl, xs, SqL.of hx⟩, _, h2, ?_⟩
    rintro y H2 ⟨ys, e1, e2, q⟩
    exact ⟨l, ys, y, rfl, rfl, e1, e2, q⟩
  | _ => exact h1.elim
end
end T3
/-! data that never changes (Tp), comprehensions over lists -/
namespace T3
open PySem PySem.Spec PyProof.Rows L2
mutual
/-- None, bools, ints, texts, tuples of these -/
inductive Tp (H : Hp) : V → PyData → Prop
  | non : Tp H .non .none
  | bl (b : Bool) : Tp H (.bl b) (.bool b)
  | int (i : Int) : Tp H (.int i) (.int i)
  | str (x : Str) : Tp H (.str x) (.str x)
  | tup {a : Addr} {xs : List V} {ds : List PyData} : H a = some (.tup xs) → TpAll H xs ds → Tp H (.ref a) (.tuple ds)
inductive TpAll (H : Hp) : List V → List PyData → Prop
  | nil : TpAll H [] []
  | cons {v : V} {vs : List V} {d : PyData} {ds : List PyData} : Tp H v d → TpAll H vs ds → TpAll H (v :: vs) (d :: ds)
end
/-- tuples stay -/
def Ktp (H H' : Hp) : Prop := ∀ a xs, H a = some (.tup xs) → H' a = some (.tup xs)
theorem Ktp.refl (H : Hp) : Ktp H H := fun _ _ e => e
theorem Ktp.trans {H H1 H2 : Hp} (a : Ktp H H1) (b : Ktp H1 H2) : Ktp H H2 := fun x xs e => b x xs (a x xs e)
theorem Ktp.new {H : Hp} {p : Addr} {o : HO} (h : H p = none) : Ktp H (upd H p o) := fun a xs e => by
  rw [upd_ne (ne_of_none e h)]
  exact e
theorem Ktp.lst {H : Hp} {p : Addr} {ys zs : List V} (h : H p = some (.lst ys)) : Ktp H (upd H p (.lst zs)) := fun a xs e => by
  rw [upd_ne (ne_of e h (fun z => nomatch z))]
  exact e
theorem Ktp.same {H H' : Hp} (h : Same H H') : Ktp H H' := fun a xs e => h a _ e
mutual
theorem Tp.keep {H H' : Hp} (k : Ktp H H') : ∀ {v : V} {d : PyData}, Tp H v d → Tp H' v d
  | _, _, .non => .non
  | _, _, .bl b => .bl b
  | _, _, .int i => .int i
  | _, _, .str x => .str x
  | _, _, .tup h t => .tup (k _ _ h) (TpAll.keep k t)
theorem TpAll.keep {H H' : Hp} (k : Ktp H H') : ∀ {v : List V} {d : List PyData}, TpAll H v d → TpAll H' v d
  | _, _, .nil => .nil
  | _, _, .cons h t => .cons (Tp.keep k h) (TpAll.keep k t)
end
mutual
theorem Tp.dp {K : PySem.W.Frag} {H : Hp} : ∀ {v : V} {d : PyData}, Tp H v d → Dp K H v d
  | _, _, .non => .non
  | _, _, .bl b => .bl b
  | _, _, .int i => .int i
  | _, _, .str x => .str x
  | _, _, .tup h t => .tup (SqT.of h) (TpAll.dp t)
theorem TpAll.dp {K : PySem.W.Frag} {H : Hp} : ∀ {v : List V} {d : List PyData}, TpAll H v d → DpAll K H v d
  | _, _, .nil => .nil
  | _, _, .cons h t => .cons (Tp.dp h) (TpAll.dp t)
end
theorem TpAll.length {H : Hp} : ∀ {v : List V} {d : List PyData}, TpAll H v d → v.length = d.length
  | _, _, .nil => rfl
  | _, _, .cons _ t => by
    rw [List.length_cons, List.length_cons, t.length]
theorem TpAll.snoc {H : Hp} : ∀ {v : List V} {d : List PyData} {x : V} {e : PyData}, TpAll H v d → Tp H x e → TpAll H (v ++ [x]) (d ++ [e])
  | _, _, _, _, .nil, h => .cons h .nil
  | _, _, _, _, .cons a t, h => .cons a (TpAll.snoc t h)
theorem TpAll.get {H : Hp} : ∀ {v : List V} {d : List PyData} {i : Nat} {x : V}, TpAll H v d → v[i]? = some x → ∃ e, d[i]? = some e ∧ Tp H x e
  | _, _, _, _, .nil, h => by simp at h
  | _, _, 0, _, .cons a t, h => by
    simp at h
    subst h
    exact ⟨_, rfl, a⟩
  | _, _, i + 1, _, .cons a t, h => by
    obtain ⟨e, h1, h2⟩ := TpAll.get (i := i) t (by simpa using h)
    exact ⟨e, by simpa using h1, h2⟩
theorem TpAll.getD {H : Hp} : ∀ {v : List V} {d : List PyData} {i : Nat} {e : PyData}, TpAll H v d → d[i]? = some e → ∃ x, v[i]? = some x ∧ Tp H x e
  | _, _, _, _, .nil, h => by simp at h
  | _, _, 0, _, .cons a t, h => by
    simp at h
    subst h
    exact ⟨_, rfl, a⟩
  | _, _, i + 1, _, .cons a t, h => by
    obtain ⟨e, h1, h2⟩ := TpAll.getD (i := i) t (by simpa using h)
    exact ⟨e, by simpa using h1, h2⟩
/-- a pair -/
theorem Tp.two {H : Hp} {v : V} {d e : PyData} (h : Tp H v (.tuple [d, e])) : ∃ a x y, v = .ref a ∧ H a = some (.tup [x, y]) ∧ Tp H x d ∧ Tp H y e := by
  cases h with
  | tup ha t =>
    cases t with
    | cons t1 t2 =>
      cases t2 with
      | cons t3 t4 =>
        cases t4
        exact ⟨_, _, _, rfl, ha, t1, t3⟩
theorem Tp.int_eq {H : Hp} {v : V} {i : Int} (h : Tp H v (.int i)) : v = .int i := by
  cases h
  rfl
theorem Tp.str_eq {H : Hp} {v : V} {i : Str} (h : Tp H v (.str i)) : v = .str i := by
  cases h
  rfl

section
variable {X : Cx}
/-- [e for .. in a list that stays] -/
def mLc (K : PySem.W.Frag) (te : TE) (g : TG) (el : TE) (vs : List Nat) : TE := fun σ H Q => te σ H fun x H1 => match x with
  | .ref a => ∃ xs, SqL K H1 a xs ∧ ∀ D, H1 D = none → ∃ Pv : Nat → Hp → Prop, Pv 0 (upd H1 D (.lst [])) ∧ (∀ i H, i ≤ xs.length → Pv i H → SqL K H a xs) ∧
      (∀ i x H, xs[i]? = some x → Pv i H → g x (wipe σ vs) H fun σ2 H2 => wipe σ2 vs = wipe σ vs ∧ el σ2 H2 fun y H3 =>
        ∃ acc, H3 D = some (.lst acc) ∧ acc.length < sizeLine ∧ Pv (i + 1) (upd H3 D (.lst (acc ++ [y])))) ∧ ∀ H, Pv xs.length H → Q (.ref D) H
  | _ => False
theorem mlc {elt tg iter : Expr} {scope : Scope} {own : List (Str × Nat)} {pos : Pos} {g : TG} {te el : TE} (hc : X.calm = true) (hN : X.N.Nodup) (hi : PE X iter te) (ok : BlkOk X.N X.env.scope scope own)
    (hg : ∀ (s : Shared) (H : Hp) (C : Addr) (cl : List (Str × Addr)) (fp : List Addr), PG (X.blk s H scope (compEnvC scope cl C X.env) fp) tg g)
    (he : ∀ (s : Shared) (H : Hp) (C : Addr) (cl : List (Str × Addr)) (fp : List Addr), PE (X.blk s H scope (compEnvC scope cl C X.env) fp) elt el)
    (hs : ∀ x, foldedSetIterable iter X.env x = pure x := by intro _; rfl) : PE X (.ListComp elt [⟨tg, iter, [], 0⟩] scope pos) (mLc X.K te g el (own.map (·.2))) := by
  refine PE.imp ?_ (pe_lc hc hN (pi_list (mono_pe hi)) ok hg (fun _ _ _ _ _ => pts_nil) he hs)
  intro σ H Q h
  refine ⟨_, h, ?_⟩
  intro v H1 h1
  cases v with
  | ref a =>
    obtain ⟨xs, h2, h3⟩ := h1
    refine ⟨a, rfl, ⟨xs, h2⟩, fun D hD => ?_⟩
    obtain ⟨Pv, p0, pl, ps, pd⟩ := h3 D hD
    exact lc_list (xs := xs) Pv p0 pl ps pd
  | _ => exact h1.elim
end
end T3
namespace T3
open PySem PySem.Spec PyProof.Rows L2
section
variable {X : Cx} {t u : TS} {st : Stmt} {rest : List Stmt}
/-- a statement and the rest, what stands between them told once -/
def mCut (t u : TS) : TS := fun D σ H => ∃ M : L2.St → Hp → Prop, t { D with nx := M } σ H ∧ ∀ σ' H', M σ' H' → u D σ' H'
theorem mcut (h1 : PS X st t) (h2 : PSs X rest u) : PSs X (st :: rest) (mCut t u) := by
  constructor
  rintro pins s σ H D I ⟨M, hm, hu⟩
  refine wpAny_execs_cons (thn (h1.run pins s σ H { D with nx := M } I hm) ?_)
  intro f s1 q
  cases f with
  | next =>
    obtain ⟨σ', H', I', q'⟩ := q
    exact h2.run pins s1 σ' H' D I' (hu σ' H' q')
  | ret v => exact q
  | brk => exact q
  | cont => exact q
end
end T3
/-! the mathematics of k16: a line's tokens -/
namespace T3
open PySem L2
/-! ### texts of few signs -/
def Tx (n : Nat) (z : Str) : Prop := z.length ≤ n ∧ ∀ c ∈ z.cps.toList, c < 128
theorem Tx.mono {n m : Nat} {z : Str} (h : Tx n z) (l : n ≤ m) : Tx m z := ⟨Nat.le_trans h.1 l, h.2⟩
theorem len_app (a b : Str) : (a ++ b).length = a.length + b.length := by
  show (a.cps ++ b.cps).size = a.cps.size + b.cps.size
  simp
theorem tl_app (a b : Str) : (a ++ b).cps.toList = a.cps.toList ++ b.cps.toList := by
  show (a.cps ++ b.cps).toList = _
  simp
theorem Tx.app {n m : Nat} {a b : Str} (h : Tx n a) (g : Tx m b) : Tx (n + m) (a ++ b) := by
  refine ⟨?_, ?_⟩
  · rw [len_app]
    exact Nat.add_le_add h.1 g.1
  · intro c hc
    rw [tl_app, List.mem_append] at hc
    exact hc.elim (h.2 c) (g.2 c)
theorem tl_cut (z : Str) (lo hi : Option Int) : (cutS z lo hi).cps.toList = (z.cps.toList.drop (HT.sIx z.length 0 lo)).take (HT.sIx z.length z.length hi - HT.sIx z.length 0 lo) := by
  unfold cutS
  simp
theorem Tx.cut {n : Nat} {z : Str} (h : Tx n z) (lo hi : Option Int) : Tx n (cutS z lo hi) := by
  refine ⟨Nat.le_trans (cutS_length z lo hi) h.1, ?_⟩
  intro c hc
  rw [tl_cut] at hc
  exact h.2 c (List.mem_of_mem_drop (List.mem_of_mem_take hc))
theorem Tx.head {n k : Nat} {z : Str} (h : Tx n z) : Tx k (cutS z none (some (k : Int))) := by
  refine ⟨?_, (h.cut none (some (k : Int))).2⟩
  show (cutS z none (some (k : Int))).cps.size ≤ k
  rw [← Array.length_toList, tl_cut, List.length_take, HT.sIx_none, HT.sIx_nat]
  omega
theorem Tx.one {n : Nat} {z : Str} (h : Tx n z) {i : Int} {c : Nat} (e : atI z.cps.toList i = some c) : Tx 1 (⟨#[c]⟩ : Str) := by
  refine ⟨Nat.le_refl _, ?_⟩
  obtain ⟨j, _, e2, _⟩ := atI_get e
  intro d hd
  have : d = c := by simpa using hd
  subst this
  exact h.2 d (List.mem_of_getElem? e2)
theorem len_tl (z : Str) : z.cps.toList.length = z.length := Array.length_toList
theorem Tx.big {n : Nat} {z : Str} (h : Tx n z) (l : n ≤ 100000) : z.length ≤ sizeLine := Nat.le_trans (Nat.le_trans h.1 l) (by decide)

/-! ### the constants -/
abbrev cSMALL : Str := "abcdefghijklmnopqrstuvwxyz"
abbrev cGREAT : Str := "ABCDEFGHIJKLMNOPQRSTUVWXYZ"
abbrev cROW : Str := "abcdefghijklmnopqrstuvwxyzABCDEFGHIJKLMNOPQRSTUVWXYZ0123456789_"
abbrev lWORDS : List Str := ["face", "use", "as", "open", "hiding", "kind", "def", "let", "in", "if", "then", "else", "case", "of", "end"]
abbrev lSIGNS : List Str := ["(", ")", ",", ";", ".", ":", "=", "|", "_", "..", "==", "->"]
abbrev lSIGN2 : List Str := ["(", ")", ",", ";", ".", ":", "=", "|", "..", "==", "->"]
abbrev lLONG : List Str := ["..", "==", "->"]
theorem inV_str (t : Str) : ∀ xs : List Str, inV (.str t) (xs.map V.str) = decide (t ∈ xs)
  | [] => by simp [inV]
  | x :: xs => by
    have ih := inV_str t xs
    unfold inV at ih ⊢
    rw [List.map_cons, List.any_cons, ih]
    show ((x == t) || decide (t ∈ xs)) = decide (t ∈ x :: xs)
    by_cases h : x = t
    · subst h
      simp
    · have h2 : ¬ t = x := fun e => h e.symm
      simp [h, h2]
theorem flat_str : ∀ xs : List Str, (xs.map V.str).all flatV = true
  | [] => rfl
  | x :: xs => by
    rw [List.map_cons, List.all_cons, flat_str xs]
    rfl

/-! ### a token's end -/
def inS (z : Str) (c : Nat) : Bool := decide (c ∈ z.cps.toList)
def runLen (l : List Nat) : Nat := (l.takeWhile (inS cROW)).length
def endOf (z : Str) (i c : Nat) : Nat :=
  if (⟨#[c]⟩ : Str) = "#" then z.length
  else if inS cROW c = true then i + 1 + runLen (z.cps.toList.drop (i + 1))
  else if cutS z (some (i : Int)) (some ((i : Int) + 2)) ∈ lLONG then i + 2
  else i + 1
theorem endOf_gt {z : Str} {i c : Nat} (h : i < z.length) : i < endOf z i c := by
  unfold endOf
  split
  · exact h
  · split
    · omega
    · split <;> omega
/-- the tokens' places from i on: (beginning, its sign, end) -/
def scan (z : Str) (i : Nat) : List (Nat × Nat × Nat) :=
  if h : i < z.length then
    (if (⟨#[z.cps[i]'h]⟩ : Str) = " " then scan z (i + 1) else (i, z.cps[i]'h, endOf z i (z.cps[i]'h)) :: scan z (endOf z i (z.cps[i]'h)))
  else []
termination_by z.length - i
decreasing_by
  · omega
  · have := endOf_gt (c := z.cps[i]'h) h
    omega
theorem get_lt {z : Str} {i c : Nat} (h : z.cps.toList[i]? = some c) : i < z.length := by
  have := (List.getElem?_eq_some_iff.mp h).1
  rw [len_tl] at this
  exact this
theorem get_of {z : Str} {i : Nat} (h : i < z.length) : z.cps.toList[i]? = some (z.cps[i]'h) := by
  have h' : i < z.cps.toList.length := by
    rw [len_tl]
    exact h
  rw [List.getElem?_eq_getElem h']
  simp only [Array.getElem_toList]
  rfl
theorem scan_end {z : Str} {i : Nat} (h : z.length ≤ i) : scan z i = [] := by
  rw [scan, dif_neg (by omega)]
theorem scan_blank {z : Str} {i c : Nat} (h : z.cps.toList[i]? = some c) (e : (⟨#[c]⟩ : Str) = " ") : scan z i = scan z (i + 1) := by
  have hl := get_lt h
  rw [get_of hl] at h
  cases h
  rw [scan, dif_pos hl, if_pos e]
theorem scan_token {z : Str} {i c : Nat} (h : z.cps.toList[i]? = some c) (e : ¬ (⟨#[c]⟩ : Str) = " ") : scan z i = (i, c, endOf z i c) :: scan z (endOf z i c) := by
  have hl := get_lt h
  rw [get_of hl] at h
  cases h
  rw [scan, dif_pos hl, if_neg e]
theorem scan_few (z : Str) : ∀ (n i : Nat), z.length - i ≤ n → (scan z i).length ≤ n
  | 0, i, h => by
    rw [scan_end (by omega)]
    exact Nat.le_refl _
  | n + 1, i, h => by
    by_cases hl : i < z.length
    · have hc := get_of hl
      by_cases e : (⟨#[z.cps[i]'hl]⟩ : Str) = " "
      · rw [scan_blank hc e]
        exact Nat.le_trans (scan_few z n (i + 1) (by omega)) (Nat.le_succ _)
      · rw [scan_token hc e, List.length_cons]
        have g := endOf_gt (c := z.cps[i]'hl) hl
        have := scan_few z n (endOf z i (z.cps[i]'hl)) (by omega)
        omega
    · rw [scan_end (by omega)]
      exact Nat.zero_le _
theorem scan_ok (z : Str) : ∀ (n i : Nat), z.length - i ≤ n → ∀ r ∈ scan z i, z.cps.toList[r.1]? = some r.2.1 ∧ r.2.2 = endOf z r.1 r.2.1
  | 0, i, h, r, hr => by
    rw [scan_end (by omega)] at hr
    cases hr
  | n + 1, i, h, r, hr => by
    by_cases hl : i < z.length
    · have hc := get_of hl
      by_cases e : (⟨#[z.cps[i]'hl]⟩ : Str) = " "
      · rw [scan_blank hc e] at hr
        exact scan_ok z n (i + 1) (by omega) r hr
      · rw [scan_token hc e] at hr
        have g := endOf_gt (c := z.cps[i]'hl) hl
        rcases List.mem_cons.mp hr with rfl | hr
        · exact ⟨hc, rfl⟩
        · exact scan_ok z n _ (by omega) r hr
    · rw [scan_end (by omega)] at hr
      cases hr

/-! ### a token's sort -/
def textAt (z : Str) (i e : Nat) : Str := cutS z (some (i : Int)) (some (e : Int))
def sortOf (t : Str) (c : Nat) : Str :=
  if (⟨#[c]⟩ : Str) = "#" then "remark"
  else if inS cSMALL c = true then (if t ∈ lWORDS then "word" else "name")
  else if inS cGREAT c = true then "Name"
  else if t ∈ lSIGNS then "sign" else "wrong"
def grpOf (t : Str) (c : Nat) : Str :=
  if (⟨#[c]⟩ : Str) = "#" then "remark"
  else if inS cROW c = true then
    (if t ∈ lWORDS then "word" else if inS cSMALL c = true then "name" else if inS cGREAT c = true then "Name" else if t = ("_" : Str) then "sign" else "wrong")
  else if t ∈ lSIGN2 then "sign" else "wrong"
theorem first_in {t : Str} {c : Nat} {xs : List Str} {p : Nat → Bool} (h : t ∈ xs) (hc : t.cps.toList[0]? = some c) (hx : (xs.all fun s => match s.cps.toList[0]? with | some d => p d | none => true) = true) : p c = true := by
  have := List.all_eq_true.mp hx t h
  rw [hc] at this
  exact this
theorem small_row {c : Nat} (h : inS cSMALL c = true) : inS cROW c = true := by
  have : ∀ d ∈ cSMALL.cps.toList, inS cROW d = true := by decide +kernel
  exact this c (of_decide_eq_true h)
theorem great_row {c : Nat} (h : inS cGREAT c = true) : inS cROW c = true := by
  have : ∀ d ∈ cGREAT.cps.toList, inS cROW d = true := by decide +kernel
  exact this c (of_decide_eq_true h)
theorem sort_grp {t : Str} {c : Nat} (hc : t.cps.toList[0]? = some c) : sortOf t c = grpOf t c := by
  unfold sortOf grpOf
  by_cases h0 : (⟨#[c]⟩ : Str) = "#"
  · rw [if_pos h0, if_pos h0]
  rw [if_neg h0, if_neg h0]
  have hw : t ∈ lWORDS → inS cSMALL c = true := fun h => first_in h hc (by decide +kernel)
  by_cases h1 : inS cSMALL c = true
  · rw [if_pos h1, if_pos (small_row h1), if_pos h1]
  · have nw : ¬ t ∈ lWORDS := fun h => h1 (hw h)
    rw [if_neg h1, if_neg nw, if_neg h1]
    by_cases h2 : inS cGREAT c = true
    · rw [if_pos h2, if_pos (great_row h2), if_pos h2]
    · rw [if_neg h2, if_neg h2]
      by_cases h3 : inS cROW c = true
      · rw [if_pos h3]
        by_cases h4 : t = ("_" : Str)
        · rw [if_pos h4, if_pos (by rw [h4]; decide +kernel)]
        · rw [if_neg h4, if_neg]
          intro h5
          have h6 : t ∈ lSIGN2 := by
            have h7 : ∀ s ∈ lSIGNS, s ∈ ("_" : Str) :: lSIGN2 := by decide +kernel
            rcases List.mem_cons.mp (h7 t h5) with h | h
            · exact absurd h h4
            · exact h
          have := first_in (p := fun d => !inS cROW d) h6 hc (by decide +kernel)
          rw [h3] at this
          cases this
      · rw [if_neg h3]
        have e : t ∈ lSIGNS ↔ t ∈ lSIGN2 := by
          constructor
          · intro h
            have h5 : t ∈ ("_" : Str) :: lSIGN2 := by
              have : ∀ s ∈ lSIGNS, s ∈ ("_" : Str) :: lSIGN2 := by decide +kernel
              exact this t h
            rcases List.mem_cons.mp h5 with h6 | h6
            · subst h6
              have e2 : (("_" : Str)).cps.toList[0]? = some 95 := by decide +kernel
              rw [hc] at e2
              cases e2
              exact absurd (by decide +kernel) h3
            · exact h6
          · intro h
            have : ∀ s ∈ lSIGN2, s ∈ lSIGNS := by decide +kernel
            exact this t h
        by_cases h4 : t ∈ lSIGN2
        · rw [if_pos h4, if_pos (e.mpr h4)]
        · rw [if_neg h4, if_neg (fun h => h4 (e.mp h))]
theorem text_first {z : Str} {i c e : Nat} (hc : z.cps.toList[i]? = some c) (h : i < e) : (textAt z i e).cps.toList[0]? = some c := by
  have hl := get_lt hc
  unfold textAt
  rw [tl_cut, HT.sIx_nat, HT.sIx_nat, List.getElem?_take, if_pos (by omega), List.getElem?_drop]
  rw [Nat.add_zero, show min i z.length = i by omega]
  exact hc
/-! ### the run of letters -/
theorem runLen_cons {c : Nat} {l : List Nat} : runLen (c :: l) = if inS cROW c = true then runLen l + 1 else 0 := by
  unfold runLen
  rw [List.takeWhile_cons]
  split <;> rfl
theorem run_stop {z : Str} {e : Nat} (h : z.length ≤ e) : runLen (z.cps.toList.drop e) = 0 := by
  rw [List.drop_eq_nil_of_le (by rw [len_tl]; exact h)]
  rfl
theorem run_step {z : Str} {e c : Nat} (hc : z.cps.toList[e]? = some c) : runLen (z.cps.toList.drop e) = if inS cROW c = true then runLen (z.cps.toList.drop (e + 1)) + 1 else 0 := by
  have hl : e < z.cps.toList.length := (List.getElem?_eq_some_iff.mp hc).1
  have e1 : z.cps.toList.drop e = c :: z.cps.toList.drop (e + 1) := by
    rw [List.drop_eq_getElem_cons hl]
    congr 1
    exact (List.getElem?_eq_some_iff.mp hc).2
  rw [e1, runLen_cons]
end T3
/-! the text by places, the program's defs -/
namespace T3
open PySem PySem.Spec PyProof.Rows L2
def topS (i : Nat) : Stmt := PySem.Challenge.pw_asiffresh_k16_lines_by_turns.main.body.getD i (.Pass ⟨0, 0, 0, 0⟩)
/-- what the top has left -/
structure Top (K : PySem.W.Frag) (mg : Str → Option Value) : Prop where
  len : mg "len" = none
  int : mg "int" = none
  min : mg "min" = none
  max : mg "max" = none
  str : mg "str" = none
  bool : mg "bool" = none
  repr : mg "repr" = none
  tuple : mg "tuple" = none
  range : mg "range" = none
  isinstance : mg "isinstance" = none
  SMALL : GS mg "SMALL" cSMALL
  GREAT : GS mg "GREAT" cGREAT
  ROW_SIGNS : GS mg "ROW_SIGNS" cROW
  WORDS : GT K mg "WORDS" (lWORDS.map V.str)
  SIGNS : GT K mg "SIGNS" (lSIGNS.map V.str)
  LONG_SIGNS : GT K mg "LONG_SIGNS" (lLONG.map V.str)
abbrev st_end_of : Stmt := topS 8
theorem sc_end_of : FnScope ["line", "at", "end"] ["line", "at"] (defScope st_end_of) := ⟨rfl, rfl, rfl, by decide +kernel, rfl, by decide +kernel, by decide +kernel⟩
abbrev st_sort_of : Stmt := topS 9
theorem sc_sort_of : FnScope ["text", "first"] ["text"] (defScope st_sort_of) := ⟨rfl, rfl, rfl, by decide +kernel, rfl, by decide +kernel, by decide +kernel⟩
abbrev st_scanned : Stmt := topS 10
theorem sc_scanned : FnScope ["line", "found", "at", "end"] ["line"] (defScope st_scanned) := ⟨rfl, rfl, rfl, by decide +kernel, rfl, by decide +kernel, by decide +kernel⟩
abbrev st_tokens : Stmt := topS 11
theorem sc_tokens : FnScope ["line", "_", "text"] ["line"] (defScope st_tokens) := ⟨rfl, rfl, rfl, by decide +kernel, rfl, by decide +kernel, by decide +kernel⟩
abbrev st_starts : Stmt := topS 12
theorem sc_starts : FnScope ["line", "at", "_"] ["line"] (defScope st_starts) := ⟨rfl, rfl, rfl, by decide +kernel, rfl, by decide +kernel, by decide +kernel⟩
section
variable {P : Program} {w : World} {K : PySem.W.Frag} {mg : Str → Option Value} {base : Heap}

def sp_end_of : Sp := fun vs H Q _ => match vs with
  | [.str z, .int a] => ∃ (i c n : Nat), a = (i : Int) ∧ z.cps.toList[i]? = some c ∧ Tx n z ∧ n ≤ 100000 ∧ Q (.int (endOf z i c : Nat)) H
  | _ => False
theorem ok_end_of {f : Addr} {fd : FuncData} (F : Fun K "end_of" "end_of" st_end_of f fd) (T : Top K mg) : FnOk P w K mg base CX0 1 f fd ["line", "at"] sp_end_of := by
  refine F.ok sc_end_of (fun vs H Q E h => ?_) (fun cdv A outer s H vs Q E hr h => ?_)
  · match vs, h with
    | [.str z, .int a], _ => rfl
  match vs, h with
  | [.str z, .int a], h =>
  obtain ⟨i, c, n, rfl, hc, hz, hn, q⟩ := h
  have hb := hz.big hn
  have hl := get_lt hc
  refine ⟨_, (pss_cons (mif (mcmp opEq (pe_ix ixM (mv 0) (mv 1) (fun _ _ => rfl)) pe_str)
(pss_one (ps_ret (pe_callB callLen (by rfl) T.len (by decide +kernel) (pa_cons (mv 0) pa_nil))))
pss_nil)
(pss_cons (mif (mcmp opIn (pe_ix ixM (mv 0) (mv 1) (fun _ _ => rfl)) (pe_gs (by rfl) T.ROW_SIGNS))
(pss_cons (ps_set (i := 2) sc_end_of.nd rfl (.inl rfl) (pe_op opAdd (mv 1) pe_int))
(pss_cons (mwhile PassesOwn.never (PW.pt (mand (mcmp opLt (mv 2) (pe_callB callLen (by rfl) T.len (by decide +kernel) (pa_cons (mv 0) pa_nil))) (pw_and1 (mcmp opIn (pe_ix ixM (mv 0) (mv 2) (fun _ _ => rfl)) (pe_gs (by rfl) T.ROW_SIGNS)))))
(pss_one (maug (i := 2) sc_end_of.nd rfl (.inl rfl) pe_int ipAdd)))
(pss_one (ps_ret (mv 2)))))
pss_nil)
(pss_cons (mif (mcmp opIn (pe_slice slM (mv 0) (pom (mv 1)) (pom (pe_op opAdd (mv 1) pe_int))) (pe_gt (by rfl) T.LONG_SIGNS))
(pss_one (ps_ret (pe_op opAdd (mv 1) pe_int)))
pss_nil)
(pss_one (ps_ret (pe_op opAdd (mv 1) pe_int))))))
  , ?_⟩
  -- line[at] == "#"
  refine ⟨hb, c, atI_nat hc, fun e => ?_, fun e => ?_⟩
  · have e' := of_decide_eq_true e
    refine ⟨hb, ?_⟩
    have z1 : endOf z i c = z.length := by
      unfold endOf
      rw [if_pos e']
    rw [z1] at q
    exact q
  · have e' := of_decide_eq_false e
    refine ⟨hb, c, atI_nat hc, c, rfl, fun e2 => ?_, fun e2 => ?_⟩
    · have e2 : inS cROW c = true := e2
      have z1 : endOf z i c = i + 1 + runLen (z.cps.toList.drop (i + 1)) := by
        unfold endOf
        rw [if_neg e', if_pos e2]
      rw [z1] at q
      -- end = at + 1, the loop
      refine ⟨fun σ H' => ∃ e : Nat, σ = [some (.str z), some (.int i), some (.int (e : Int))] ∧ H' = H ∧ e + runLen (z.cps.toList.drop e) = i + 1 + runLen (z.cps.toList.drop (i + 1)),
        fun σ _ => match σ with
          | [_, _, some (.int e)] => z.length - e.toNat
          | _ => 0, ⟨i + 1, rfl, rfl, rfl⟩, ?_⟩
      rintro σ H' ⟨e, rfl, rfl, hrun⟩
      have fin : runLen (z.cps.toList.drop e) = 0 → Q (.int (e : Int)) H' := fun h0 => by
        have : e = i + 1 + runLen (z.cps.toList.drop (i + 1)) := by omega
        rw [this]
        exact q
      refine ⟨hb, fun h1 => ?_, fun h1 => ⟨fun h => (nomatch h), fun _ => ?_⟩⟩
      · have hlt : e < z.length := by
          have := of_decide_eq_true h1
          omega
        have hce := get_of hlt
        refine ⟨hb, _, atI_nat hce, _, rfl, fun h2 => ?_, fun h2 => ?_⟩
        · have h2 : inS cROW _ = true := h2
          refine ⟨⟨e + 1, rfl, rfl, ?_⟩, ?_⟩
          · rw [run_step hce, if_pos h2] at hrun
            omega
          · show z.length - ((e : Int) + 1).toNat < z.length - (e : Int).toNat
            omega
        · have h2 : inS cROW _ = false := h2
          refine fin ?_
          rw [run_step hce, if_neg (by rw [h2]; exact Bool.false_ne_true)]
      · have hge : z.length ≤ e := by
          have := of_decide_eq_false h1
          omega
        exact fin (run_stop hge)
    · have e2 : inS cROW c = false := e2
      have z0 : ¬ inS cROW c = true := by
        rw [e2]
        exact Bool.false_ne_true
      refine ⟨hb, fun p hp => ⟨_, .inr (hp _), rfl, flat_str _, fun e3 => ?_, fun e3 => ?_⟩⟩
      · have e3 := of_decide_eq_true ((inV_str _ _).symm.trans e3)
        have z1 : endOf z i c = i + 2 := by
          unfold endOf
          rw [if_neg e', if_neg z0, if_pos e3]
        rw [z1] at q
        exact q
      · have e3 := of_decide_eq_false ((inV_str _ _).symm.trans e3)
        have z1 : endOf z i c = i + 1 := by
          unfold endOf
          rw [if_neg e', if_neg z0, if_neg e3]
        rw [z1] at q
        exact q

def sp_sort_of : Sp := fun vs H Q _ => match vs with
  | [.str t] => ∃ (c n : Nat), t.cps.toList[0]? = some c ∧ Tx n t ∧ n ≤ 100000 ∧ Q (.str (sortOf t c)) H
  | _ => False
theorem ok_sort_of {f : Addr} {fd : FuncData} (F : Fun K "sort_of" "sort_of" st_sort_of f fd) (T : Top K mg) : FnOk P w K mg base CX0 1 f fd ["text"] sp_sort_of := by
  refine F.ok sc_sort_of (fun vs H Q E h => ?_) (fun cdv A outer s H vs Q E hr h => ?_)
  · match vs, h with
    | [.str t], _ => rfl
  match vs, h with
  | [.str t], h =>
  obtain ⟨c, n, hc, hz, hn, q⟩ := h
  have hb := hz.big hn
  refine ⟨_, (pss_cons (ps_set (i := 1) sc_sort_of.nd rfl (.inl rfl) (pe_ix ixM (mv 0) pe_int (fun _ _ => rfl)))
(pss_cons (mif (mcmp opEq (mv 1) pe_str)
(pss_one (ps_ret pe_str))
pss_nil)
(pss_cons (mif (mcmp opIn (mv 1) (pe_gs (by rfl) T.SMALL))
(pss_one (ps_ret (mifE (mcmp opIn (mv 0) (pe_gt (by rfl) T.WORDS)) pe_str pe_str)))
pss_nil)
(pss_cons (mif (mcmp opIn (mv 1) (pe_gs (by rfl) T.GREAT))
(pss_one (ps_ret pe_str))
pss_nil)
(pss_one (ps_ret (mifE (mcmp opIn (mv 0) (pe_gt (by rfl) T.SIGNS)) pe_str pe_str)))))))
  , ?_⟩
  unfold sortOf at q
  refine ⟨hb, c, atI_nat (j := 0) hc, fun e => ?_, fun e => ?_⟩
  · rw [if_pos (of_decide_eq_true e)] at q
    exact q
  rw [if_neg (of_decide_eq_false e)] at q
  refine ⟨c, rfl, fun e => ?_, fun e => ?_⟩
  · rw [if_pos (show inS cSMALL c = true from e)] at q
    refine fun p hp => ⟨_, .inr (hp _), rfl, flat_str _, fun e => ?_, fun e => ?_⟩
    · rw [if_pos (of_decide_eq_true ((inV_str _ _).symm.trans e))] at q
      exact q
    · rw [if_neg (of_decide_eq_false ((inV_str _ _).symm.trans e))] at q
      exact q
  rw [if_neg (show ¬ inS cSMALL c = true from fun z => Bool.noConfusion (z.symm.trans e))] at q
  refine ⟨c, rfl, fun e => ?_, fun e => ?_⟩
  · rw [if_pos (show inS cGREAT c = true from e)] at q
    exact q
  rw [if_neg (show ¬ inS cGREAT c = true from fun z => Bool.noConfusion (z.symm.trans e))] at q
  refine fun p hp => ⟨_, .inr (hp _), rfl, flat_str _, fun e => ?_, fun e => ?_⟩
  · rw [if_pos (of_decide_eq_true ((inV_str _ _).symm.trans e))] at q
    exact q
  · rw [if_neg (of_decide_eq_false ((inV_str _ _).symm.trans e))] at q
    exact q
end
end T3
namespace T3
open PySem PySem.Spec PyProof.Rows L2
theorem sameApp {H H' : Hp} {p q : Addr} {o o' : HO} (s : Same H H') (hp0 : H p = none) (hq : H' q = none) : Same H (upd (upd H' q o) p o') := fun b u e => by
  rw [upd_ne (ne_of_none e hp0), upd_ne (ne_of_none (s _ _ e) hq)]
  exact s _ _ e
theorem sameNew {H H' : Hp} {q : Addr} {o : HO} (s : Same H H') (hq : H' q = none) : Same H (upd H' q o) := fun b u e => by
  rw [upd_ne (ne_of_none (s _ _ e) hq)]
  exact s _ _ e
/-- data appended to a list: the new tuple at q, the list at p -/
theorem app_tp {H : Hp} {p q : Addr} {xs ys : List V} {ds es : List PyData} (hp : H p = some (.lst xs)) (hq : H q = none) (t : TpAll H xs ds) (u : TpAll H ys es) :
    TpAll (upd (upd H q (.tup ys)) p (.lst (xs ++ [.ref q]))) (xs ++ [.ref q]) (ds ++ [.tuple es]) := by
  have npq : p ≠ q := ne_of_none hp hq
  have k1 : Ktp H (upd H q (.tup ys)) := Ktp.new hq
  have hp1 : (upd H q (.tup ys)) p = some (.lst xs) := by
    rw [upd_ne npq]
    exact hp
  have k2 : Ktp H (upd (upd H q (.tup ys)) p (.lst (xs ++ [.ref q]))) := k1.trans (Ktp.lst hp1)
  refine TpAll.snoc (t.keep k2) (.tup ?_ (u.keep k2))
  rw [upd_ne npq.symm, upd_same]
def rowD (z : Str) (r : Nat × Nat × Nat) : PyData := .tuple [.int (r.1 : Int), .str (textAt z r.1 r.2.2)]
def tokD (z : Str) (r : Nat × Nat × Nat) : PyData := .tuple [.str (sortOf (textAt z r.1 r.2.2) r.2.1), .str (textAt z r.1 r.2.2)]
def begD (r : Nat × Nat × Nat) : PyData := .int (r.1 : Int)
theorem small {n : Nat} (h : n ≤ 100000) : n < sizeLine := Nat.lt_of_le_of_lt h (by decide)
theorem take_next {α β : Type} {f : α → β} {l : List α} {i : Nat} {r : α} (h : l[i]? = some r) : (l.take (i + 1)).map f = (l.take i).map f ++ [f r] := by
  rw [List.take_add_one, h, List.map_append]
  rfl
section
variable {P : Program} {w : World} {K : PySem.W.Frag} {mg : Str → Option Value} {base : Heap}
def sp_scanned : Sp := fun vs H Q _ => match vs with
  | [.str z] => ∃ n, Tx n z ∧ n ≤ 100000 ∧ ∀ p H' xs, Same H H' → H' p = some (.lst xs) → TpAll H' xs ((scan z 0).map (rowD z)) → Q (.ref p) H'
  | _ => False
theorem ok_scanned {f : Addr} {fd : FuncData} (F : Fun K "scanned" "scanned" st_scanned f fd) (T : Top K mg) (Cend_of : Cal P w K mg base "end_of" 1 ["line", "at"] sp_end_of) : FnOk P w K mg base CX0 2 f fd ["line"] sp_scanned := by
  refine F.ok sc_scanned (fun vs H Q E h => ?_) (fun cdv A outer s H vs Q E hr h => ?_)
  · match vs, h with
    | [.str z], _ => rfl
  match vs, h with
  | [.str z], h =>
  obtain ⟨n, hz, hn, q⟩ := h
  have hb := hz.big hn
  refine ⟨_, (pss_cons (ps_set (i := 1) sc_scanned.nd rfl (.inl rfl) (pe_lst pa_nil))
(pss_cons (ps_set (i := 2) sc_scanned.nd rfl (.inl rfl) pe_int)
(pss_cons (mwhile PassesOwn.never (mcmp opLt (mv 2) (pe_callB callLen (by rfl) T.len (by decide +kernel) (pa_cons (mv 0) pa_nil)))
(pss_cons (mif (mcmp opEq (pe_ix ixM (mv 0) (mv 2) (fun _ _ => rfl)) pe_str)
(pss_cons (maug (i := 2) sc_scanned.nd rfl (.inl rfl) pe_int ipAdd)
(pss_one ps_continue))
pss_nil)
(pss_cons (ps_set (i := 3) sc_scanned.nd rfl (.inl rfl) (pe_cal Cend_of (hr.mono (by decide)) (by rfl) (pa_cons (mv 0) (pa_cons (mv 2) pa_nil))))
(pss_cons (mapp (mv 1) (pe_tup (pa_cons (mv 2) (pa_cons (pe_slice slM (mv 0) (pom (mv 2)) (pom (mv 3))) pa_nil))))
(pss_one (ps_set (i := 2) sc_scanned.nd rfl (.inl rfl) (mv 3)))))))
(pss_one (ps_ret (mv 1))))))
  , ?_⟩
  refine ⟨Nat.zero_le _, fun p hp => ?_⟩
  -- the loop
  refine ⟨fun σ H' => ∃ (i : Nat) (e : Option V) (xs : List V) (gone : List (Nat × Nat × Nat)), σ = [some (.str z), some (.ref p), some (.int (i : Int)), e] ∧ Same H H' ∧ H' p = some (.lst xs) ∧
      TpAll H' xs (gone.map (rowD z)) ∧ gone ++ scan z i = scan z 0,
    fun σ _ => match σ with
      | [_, _, some (.int i), _] => z.length - i.toNat
      | _ => 0, ⟨0, none, [], [], rfl, sameNew (Same.refl H) hp, upd_same, .nil, rfl⟩, ?_⟩
  rintro σ H' ⟨i, e, xs, gone, rfl, sm, hL, ht, hg⟩
  have few : xs.length ≤ z.length := by
    have h1 := ht.length
    have h2 := congrArg List.length hg
    have h3 := scan_few z z.length 0 (by omega)
    rw [List.length_append] at h2
    rw [List.length_map] at h1
    omega
  refine ⟨hb, fun h1 => ?_, fun h1 => ?_⟩
  · have hlt : i < z.length := by
      have := of_decide_eq_true h1
      omega
    have hc := get_of hlt
    generalize z.cps[i]'hlt = c at hc
    refine ⟨hb, c, atI_nat hc, fun h2 => ?_, fun h2 => ?_⟩
    · -- a blank
      refine ⟨⟨i + 1, e, xs, gone, rfl, sm, hL, ht, ?_⟩, ?_⟩
      · rw [← scan_blank hc (of_decide_eq_true h2)]
        exact hg
      · show z.length - ((i : Int) + 1).toNat < z.length - (i : Int).toNat
        omega
    · have gt := endOf_gt (c := c) hlt
      refine ⟨i, c, n, rfl, hc, hz, hn, ⟨xs, hL⟩, hb, by show 2 ≤ sizeLine; decide, fun t nt => ?_⟩
      refine ⟨xs, ?_, ?_, ?_⟩
      · rw [upd_ne (ne_of_none hL nt)]
        exact hL
      · exact small (by have := hz.1; omega)
      · refine ⟨⟨endOf z i c, some (.int (endOf z i c : Nat)), _, gone ++ [(i, c, endOf z i c)], rfl, sameApp sm hp nt, upd_same, ?_, ?_⟩, ?_⟩
        · rw [List.map_append]
          exact app_tp hL nt ht (.cons (.int _) (.cons (.str _) .nil))
        · rw [List.append_assoc]
          show gone ++ ((i, c, endOf z i c) :: scan z (endOf z i c)) = scan z 0
          rw [← scan_token hc (of_decide_eq_false h2)]
          exact hg
        · show z.length - ((endOf z i c : Nat) : Int).toNat < z.length - (i : Int).toNat
          omega
  · have hge : z.length ≤ i := by
      have := of_decide_eq_false h1
      omega
    rw [scan_end hge, List.append_nil] at hg
    rw [hg] at ht
    exact q p H' xs sm hL ht

def sp_tokens : Sp := fun vs H Q _ => match vs with
  | [.str z] => ∃ n, Tx n z ∧ n ≤ 100000 ∧ ∀ p H' xs, Same H H' → H' p = some (.tup xs) → TpAll H' xs ((scan z 0).map (tokD z)) → Q (.ref p) H'
  | _ => False
theorem ok_tokens {f : Addr} {fd : FuncData} (F : Fun K "tokens" "tokens" st_tokens f fd) (T : Top K mg) (Cscanned : Cal P w K mg base "scanned" 2 ["line"] sp_scanned)
    (Csort_of : Cal P w K mg base "sort_of" 1 ["text"] sp_sort_of) : FnOk P w K mg base CX0 3 f fd ["line"] sp_tokens := by
  refine F.ok sc_tokens (fun vs H Q E h => ?_) (fun cdv A outer s H vs Q E hr h => ?_)
  · match vs, h with
    | [.str z], _ => rfl
  match vs, h with
  | [.str z], h =>
  obtain ⟨n, hz, hn, q⟩ := h
  refine ⟨_, (pss_one (ps_ret (pe_callTy callTuple (by rfl) T.tuple (by decide +kernel) (pa_cons (mlc (own := [("_", 1), ("text", 2)]) (g := (gTup K 2 (gCons (gName 1) (gCons (gName 2) gNil)))) (el := (tTup (tCons (mCall sp_sort_of (tCons (mVar 2) tNil)) (tCons (mVar 2) tNil)))) (by rfl) sc_tokens.nd (pe_cal Cscanned (hr.mono (by decide)) (by rfl) (pa_cons (mv 0) pa_nil)) (blkOk_by (own := [("_", 1), ("text", 2)]) (N := ["line", "_", "text"]) (sc := defScope st_tokens) (by decide +kernel)) (fun _ _ _ _ _ => (pg_tup rfl (pgs_cons (pg_name (i := 1) sc_tokens.nd rfl (.inl rfl)) (pgs_cons (pg_name (i := 2) sc_tokens.nd rfl (.inl rfl)) pgs_nil)))) (fun _ _ _ _ _ => (pe_tup (pa_cons (pe_cal Csort_of (hr.mono (by decide)) (by rfl) (pa_cons (mv 2) pa_nil)) (pa_cons (mv 2) pa_nil))))) pa_nil))))
  , ?_⟩
  refine ⟨n, hz, hn, fun p H1 xs sm hL ht => ⟨xs, SqL.of hL, fun D hD => ?_⟩⟩
  have few : (scan z 0).length ≤ n := Nat.le_trans (scan_few z z.length 0 (by omega)) hz.1
  refine ⟨fun i H2 => Same H1 H2 ∧ ∃ acc, H2 D = some (.lst acc) ∧ TpAll H2 acc (((scan z 0).take i).map (tokD z)), ⟨sameNew (Same.refl _) hD, [], upd_same, .nil⟩, fun i H2 _ h => SqL.of (h.1 _ _ hL), ?_, ?_⟩
  · rintro i x H2 hx ⟨sm2, acc, hA, hT⟩
    obtain ⟨d, hd, tx⟩ := ht.get hx
    rw [List.getElem?_map] at hd
    cases hr' : (scan z 0)[i]? with
    | none =>
      rw [hr'] at hd
      cases hd
    | some r =>
      rw [hr'] at hd
      cases hd
      obtain ⟨a, y, t, rfl, ha, ty, tt⟩ := (Tp.keep (Ktp.same sm2) tx).two
      cases ty.int_eq
      cases tt.str_eq
      obtain ⟨hc, he⟩ := scan_ok z z.length 0 (by omega) r (List.mem_of_getElem? hr')
      have gt := endOf_gt (c := r.2.1) (get_lt hc)
      refine ⟨a, _, rfl, SqT.of ha, rfl, _, _, rfl, _, _, rfl, rfl, rfl, ?_⟩
      refine ⟨r.2.1, n, text_first hc (by rw [he]; exact gt), hz.cut _ _, hn, by show 2 ≤ sizeLine; decide, fun u nu => ?_⟩
      have nDu : D ≠ u := ne_of_none hA nu
      refine ⟨acc, ?_, ?_, ?_, _, upd_same, ?_⟩
      · rw [upd_ne nDu]
        exact hA
      · have h1 := hT.length
        rw [List.length_map, List.length_take] at h1
        exact small (by omega)
      · intro b o e
        rw [upd_ne (ne_of_none e hD), upd_ne (ne_of_none (sm2 _ _ e) nu)]
        exact sm2 _ _ e
      · rw [take_next hr']
        exact app_tp hA nu hT (.cons (.str _) (.cons (.str _) .nil))
  · rintro H2 ⟨sm2, acc, hA, hT⟩
    refine ⟨acc, SqL.of hA, fun l hl => ?_⟩
    have e : (scan z 0).take xs.length = scan z 0 := by
      have h1 := ht.length
      rw [List.length_map] at h1
      rw [h1, List.take_length]
    rw [e] at hT
    exact q l _ acc (sameNew (sm.trans sm2) hl) upd_same (hT.keep (Ktp.new hl))

def sp_starts : Sp := fun vs H Q _ => match vs with
  | [.str z] => ∃ n, Tx n z ∧ n ≤ 100000 ∧ ∀ p H' xs, Same H H' → H' p = some (.tup xs) → TpAll H' xs ((scan z 0).map begD) → Q (.ref p) H'
  | _ => False
theorem ok_starts {f : Addr} {fd : FuncData} (F : Fun K "starts" "starts" st_starts f fd) (T : Top K mg) (Cscanned : Cal P w K mg base "scanned" 2 ["line"] sp_scanned) : FnOk P w K mg base CX0 3 f fd ["line"] sp_starts := by
  refine F.ok sc_starts (fun vs H Q E h => ?_) (fun cdv A outer s H vs Q E hr h => ?_)
  · match vs, h with
    | [.str z], _ => rfl
  match vs, h with
  | [.str z], h =>
  obtain ⟨n, hz, hn, q⟩ := h
  refine ⟨_, (pss_one (ps_ret (pe_callTy callTuple (by rfl) T.tuple (by decide +kernel) (pa_cons (mlc (own := [("at", 1), ("_", 2)]) (g := (gTup K 2 (gCons (gName 1) (gCons (gName 2) gNil)))) (el := (mVar 1)) (by rfl) sc_starts.nd (pe_cal Cscanned (hr.mono (by decide)) (by rfl) (pa_cons (mv 0) pa_nil)) (blkOk_by (own := [("at", 1), ("_", 2)]) (N := ["line", "at", "_"]) (sc := defScope st_starts) (by decide +kernel)) (fun _ _ _ _ _ => (pg_tup rfl (pgs_cons (pg_name (i := 1) sc_starts.nd rfl (.inl rfl)) (pgs_cons (pg_name (i := 2) sc_starts.nd rfl (.inl rfl)) pgs_nil)))) (fun _ _ _ _ _ => (mv 1))) pa_nil))))
  , ?_⟩
  refine ⟨n, hz, hn, fun p H1 xs sm hL ht => ⟨xs, SqL.of hL, fun D hD => ?_⟩⟩
  have few : (scan z 0).length ≤ n := Nat.le_trans (scan_few z z.length 0 (by omega)) hz.1
  refine ⟨fun i H2 => Same H1 H2 ∧ ∃ acc, H2 D = some (.lst acc) ∧ TpAll H2 acc (((scan z 0).take i).map begD), ⟨sameNew (Same.refl _) hD, [], upd_same, .nil⟩, fun i H2 _ h => SqL.of (h.1 _ _ hL), ?_, ?_⟩
  · rintro i x H2 hx ⟨sm2, acc, hA, hT⟩
    obtain ⟨d, hd, tx⟩ := ht.get hx
    rw [List.getElem?_map] at hd
    cases hr' : (scan z 0)[i]? with
    | none =>
      rw [hr'] at hd
      cases hd
    | some r =>
      rw [hr'] at hd
      cases hd
      obtain ⟨a, y, t, rfl, ha, ty, tt⟩ := (Tp.keep (Ktp.same sm2) tx).two
      cases ty.int_eq
      refine ⟨a, _, rfl, SqT.of ha, rfl, _, _, rfl, _, _, rfl, rfl, rfl, ?_⟩
      refine ⟨acc, hA, ?_, ?_, _, upd_same, ?_⟩
      · have h1 := hT.length
        rw [List.length_map, List.length_take] at h1
        exact small (by omega)
      · intro b o e
        rw [upd_ne (ne_of_none e hD)]
        exact sm2 _ _ e
      · rw [take_next hr']
        exact TpAll.snoc (hT.keep (Ktp.lst hA)) (.int _)
  · rintro H2 ⟨sm2, acc, hA, hT⟩
    refine ⟨acc, SqL.of hA, fun l hl => ?_⟩
    have e : (scan z 0).take xs.length = scan z 0 := by
      have h1 := ht.length
      rw [List.length_map] at h1
      rw [h1, List.take_length]
    rw [e] at hT
    exact q l _ acc (sameNew (sm.trans sm2) hl) upd_same (hT.keep (Ktp.new hl))
end
end T3
/-! the law's defs that draw -/
namespace T3
open PySem PySem.Spec PyProof.Rows L2
abbrev st_law_deck : Stmt := topS 14
theorem sc_law_deck : FnScope ["script", "jar", "great", "k", "cell"] ["script"] (defScope st_law_deck) := ⟨rfl, rfl, rfl, by decide +kernel, rfl, by decide +kernel, by decide +kernel⟩
abbrev st_law_draw : Stmt := topS 15
theorem sc_law_draw : FnScope ["deck", "many", "digit"] ["deck", "many"] (defScope st_law_draw) := ⟨rfl, rfl, rfl, by decide +kernel, rfl, by decide +kernel, by decide +kernel⟩
abbrev st_law_sign : Stmt := topS 16
theorem sc_law_sign : FnScope ["deck", "signs"] ["deck"] (defScope st_law_sign) := ⟨rfl, rfl, rfl, by decide +kernel, rfl, by decide +kernel, by decide +kernel⟩
abbrev st_law_body : Stmt := topS 17
theorem sc_law_body : FnScope ["deck", "many", "body", "row", "k"] ["deck", "many"] (defScope st_law_body) := ⟨rfl, rfl, rfl, by decide +kernel, rfl, by decide +kernel, by decide +kernel⟩
abbrev st_law_piece : Stmt := topS 18
theorem sc_law_piece : FnScope ["deck", "words", "pairs", "pick"] ["deck"] (defScope st_law_piece) := ⟨rfl, rfl, rfl, by decide +kernel, rfl, by decide +kernel, by decide +kernel⟩
def Deck (H : Hp) (d : Addr) : Prop := ∃ j g c : Int, H d = some (.lst [.int j, .int g, .int c])
/-- all but the deck stands, and the deck is one -/
def Chg (d : Addr) (H H' : Hp) : Prop := (∀ b o, b ≠ d → H b = some o → H' b = some o) ∧ Deck H' d
theorem Chg.refl {d : Addr} {H : Hp} (h : Deck H d) : Chg d H H := ⟨fun _ _ _ e => e, h⟩
theorem Chg.trans {d : Addr} {H H1 H2 : Hp} (a : Chg d H H1) (b : Chg d H1 H2) : Chg d H H2 := ⟨fun x o n e => b.1 x o n (a.1 x o n e), b.2⟩
theorem Chg.put {d : Addr} {H H1 : Hp} (a : Chg d H H1) (j g c : Int) : Chg d H (upd H1 d (.lst [.int j, .int g, .int c])) :=
  ⟨fun x o n e => by
    rw [upd_ne n]
    exact a.1 x o n e, ⟨j, g, c, upd_same⟩⟩
theorem Chg.new {d p : Addr} {H H1 : Hp} {o : HO} (a : Chg d H H1) (hp : H1 p = none) : Chg d H (upd H1 p o) := by
  obtain ⟨j, g, c, hd⟩ := a.2
  refine ⟨fun x u n e => ?_, j, g, c, ?_⟩
  · rw [upd_ne (ne_of_none (a.1 x u n e) hp)]
    exact a.1 x u n e
  · rw [upd_ne (ne_of_none hd hp)]
    exact hd
theorem Chg.same {d : Addr} {H H1 H2 : Hp} (a : Chg d H H1) (s : Same H1 H2) : Chg d H H2 := by
  obtain ⟨j, g, c, hd⟩ := a.2
  exact ⟨fun x u n e => s _ _ (a.1 x u n e), j, g, c, s _ _ hd⟩
section
variable {P : Program} {w : World} {K : PySem.W.Frag} {mg : Str → Option Value} {base : Heap}

def sp_law_draw : Sp := fun vs H Q _ => match vs with
  | [.ref d, .int m] => Deck H d ∧ 0 < m ∧ m < 2 ^ 62 ∧ ∀ (r : Nat) H', (r : Int) < m → Chg d H H' → Q (.int (r : Int)) H'
  | _ => False
theorem mod_nat {a m : Int} (h : 0 < m) : ∃ r : Nat, a % m = (r : Int) ∧ (r : Int) < m := by
  refine ⟨(a % m).toNat, ?_, ?_⟩
  · have := Int.emod_nonneg a (by omega : m ≠ 0)
    omega
  · have := Int.emod_nonneg a (by omega : m ≠ 0)
    have := Int.emod_lt_of_pos a h
    omega
theorem ok_law_draw {f : Addr} {fd : FuncData} (F : Fun K "_law_draw" "_law_draw" st_law_draw f fd) (T : Top K mg) : FnOk P w K mg base CX0 1 f fd ["deck", "many"] sp_law_draw := by
  refine F.ok sc_law_draw (fun vs H Q E h => ?_) (fun cdv A outer s H vs Q E hr h => ?_)
  · match vs, h with
    | [.ref d, .int m], _ => rfl
  match vs, h with
  | [.ref d, .int m], h =>
  obtain ⟨hd, h0, h1, q⟩ := h
  have c0 := Chg.refl hd
  obtain ⟨j, g, c, hd⟩ := hd
  refine ⟨_, (pss_cons (ps_asg (pe_op opAdd (pe_ix ixM (mv 0) pe_int (fun _ _ => rfl)) pe_int) (pg_sub (mv 0) pe_int setM))
(pss_cons (mif (mcmp opGt (pe_ix ixM (mv 0) pe_int (fun _ _ => rfl)) pe_int)
(pss_cons (ps_set (i := 2) sc_law_draw.nd rfl (.inl rfl) (pe_op opMod (pe_callTy callInt (by rfl) T.int (by decide +kernel) (pa_cons (pe_ix ixM (mv 0) pe_int (fun _ _ => rfl)) pa_nil)) (mv 1)))
(pss_cons (ps_asg (pe_op opDiv (pe_ix ixM (mv 0) pe_int (fun _ _ => rfl)) (mv 1)) (pg_sub (mv 0) pe_int setM))
(pss_one (ps_ret (mv 2)))))
pss_nil)
(pss_cons (ps_asg (pe_op opMod (pe_callTy callInt (by rfl) T.int (by decide +kernel) (pa_cons (pe_op opAdd (pe_op opAdd (pe_op opMul (pe_ix ixM (mv 0) pe_int (fun _ _ => rfl)) pe_int) (pe_op opMul (pe_ix ixM (mv 0) pe_int (fun _ _ => rfl)) pe_int)) pe_int) pa_nil)) pe_int) (pg_sub (mv 0) pe_int setM))
(pss_one (ps_ret (pe_op opMod (pe_callTy callInt (by rfl) T.int (by decide +kernel) (pa_cons (pe_op opDiv (pe_ix ixM (mv 0) pe_int (fun _ _ => rfl)) pe_int) pa_nil)) (mv 1)))))))
  , ?_⟩
  refine ⟨_, .inl (SqL.of hd), _, rfl, _, 2, hd, rfl, ?_⟩
  have c1 : Chg d H (upd H d (.lst [.int j, .int g, .int (c + 1)])) := c0.put _ _ _
  have e1 : (upd H d (.lst [.int j, .int g, .int (c + 1)])) d = some (.lst [.int j, .int g, .int (c + 1)]) := upd_same
  show tSeq _ _ _ _ (upd H d (.lst [.int j, .int g, .int (c + 1)]))
  generalize upd H d (.lst [.int j, .int g, .int (c + 1)]) = H1 at c1 e1
  refine ⟨_, .inl (SqL.of e1), _, rfl, fun e => ?_, fun e => ?_⟩
  · refine ⟨_, .inl (SqL.of e1), _, rfl, h0, _, .inl (SqL.of e1), _, rfl, ⟨h0, h1⟩, _, 1, e1, rfl, ?_⟩
    obtain ⟨r, er, hr'⟩ := mod_nat (a := g) h0
    have z := q r _ hr' (c1.put j (g / m) (c + 1))
    rw [← er] at z
    exact z
  · refine ⟨_, .inl (SqL.of e1), _, rfl, .inr ⟨by decide, by decide⟩, _, .inl (SqL.of e1), _, rfl, .inr ⟨by decide, by decide⟩, by decide, _, 0, e1, rfl, ?_⟩
    refine ⟨_, .inl (SqL.of upd_same), _, rfl, ⟨by decide, by decide⟩, h0, ?_⟩
    obtain ⟨r, er, hr'⟩ := mod_nat (a := (j * 16807 + (c + 1) * 2671 + 12345) % 2147483647 / 11) h0
    have z := q r _ hr' (c1.put ((j * 16807 + (c + 1) * 2671 + 12345) % 2147483647) g (c + 1))
    rw [← er] at z
    exact z

/-- a sign of a written text -/
theorem sign_at {n r : Nat} {z : Str} (h : Tx n z) (hr : r < z.length) : ∃ c, atI z.cps.toList (r : Int) = some c ∧ Tx 1 (⟨#[c]⟩ : Str) := by
  have e := atI_nat (get_of hr)
  exact ⟨_, e, h.one e⟩
def sp_law_sign : Sp := fun vs H Q _ => match vs with
  | [.ref d] => Deck H d ∧ ∀ t H', Tx 1 t → Chg d H H' → Q (.str t) H'
  | _ => False
theorem ok_law_sign {f : Addr} {fd : FuncData} (F : Fun K "_law_sign" "_law_sign" st_law_sign f fd) (T : Top K mg) (Claw_draw : Cal P w K mg base "_law_draw" 1 ["deck", "many"] sp_law_draw) :
    FnOk P w K mg base CX0 2 f fd ["deck"] sp_law_sign := by
  refine F.ok sc_law_sign (fun vs H Q E h => ?_) (fun cdv A outer s H vs Q E hr h => ?_)
  · match vs, h with
    | [.ref d], _ => rfl
  match vs, h with
  | [.ref d], h =>
  obtain ⟨hd, q⟩ := h
  refine ⟨_, (pss_cons (ps_set (i := 1) sc_law_sign.nd rfl (.inl rfl) pe_str)
(pss_one (ps_ret (pe_ix ixM (mv 1) (pe_cal Claw_draw (hr.mono (by decide)) (by rfl) (pa_cons (mv 0) (pa_cons (pe_callB callLen (by rfl) T.len (by decide +kernel) (pa_cons (mv 1) pa_nil)) pa_nil))) (fun _ _ => rfl)))))
  , ?_⟩
  refine ⟨by decide +kernel, hd, by decide +kernel, by decide +kernel, fun r H' hr' ch => ⟨by decide +kernel, ?_⟩⟩
  obtain ⟨c, e1, e2⟩ := sign_at (n := 100) (z := " !\"#$&'()*+,-./0123456789:;<=>?@ABCDEFGHIJKLMNOPQRSTUVWXYZ[\\]^_`abcdefghijklmnopqrstuvwxyz{|}~") ⟨by decide +kernel, by decide +kernel⟩ (r := r) (by
    have : (r : Int) < ((" !\"#$&'()*+,-./0123456789:;<=>?@ABCDEFGHIJKLMNOPQRSTUVWXYZ[\\]^_`abcdefghijklmnopqrstuvwxyz{|}~" : Str).length : Int) := hr'
    omega)
  exact ⟨c, e1, q _ H' e2 ch⟩

def sp_law_body : Sp := fun vs H Q _ => match vs with
  | [.ref d, .int m] => Deck H d ∧ 0 ≤ m ∧ m ≤ 100 ∧ ∀ t H', Tx m.toNat t → Chg d H H' → Q (.str t) H'
  | _ => False
abbrev cBODY : Str := "abcdefghijklmnopqrstuvwxyzABCDEFGHIJKLMNOPQRSTUVWXYZ0123456789_"
theorem ok_law_body {f : Addr} {fd : FuncData} (F : Fun K "_law_body" "_law_body" st_law_body f fd) (T : Top K mg) (Claw_draw : Cal P w K mg base "_law_draw" 1 ["deck", "many"] sp_law_draw) :
    FnOk P w K mg base CX0 2 f fd ["deck", "many"] sp_law_body := by
  refine F.ok sc_law_body (fun vs H Q E h => ?_) (fun cdv A outer s H vs Q E hr h => ?_)
  · match vs, h with
    | [.ref d, .int m], _ => rfl
  match vs, h with
  | [.ref d, .int m], h =>
  obtain ⟨hd, h0, h1, q⟩ := h
  refine ⟨_, (pss_cons (ps_set (i := 2) sc_law_body.nd rfl (.inl rfl) pe_str)
(pss_cons (ps_set (i := 3) sc_law_body.nd rfl (.inl rfl) pe_str)
(pss_cons (mforR PassesOwn.never rfl (by rfl) T.range (mv 1) (pg_name (i := 4) sc_law_body.nd rfl (.inl rfl))
(pss_one (ps_set (i := 3) sc_law_body.nd rfl (.inl rfl) (pe_op opAdd (mv 3) (pe_ix ixM (mv 2) (pe_cal Claw_draw (hr.mono (by decide)) (by rfl) (pa_cons (mv 0) (pa_cons (pe_callB callLen (by rfl) T.len (by decide +kernel) (pa_cons (mv 2) pa_nil)) pa_nil))) (fun _ _ => rfl))))))
(pss_one (ps_ret (mv 3))))))
  , ?_⟩
  refine ⟨⟨by omega, by omega⟩, fun i σ H' => ∃ (t : Str) (k : Option V), σ = [some (.ref d), some (.int m), some (.str cBODY), some (.str t), k] ∧ Tx i t ∧ Chg d H H', ⟨"", none, rfl, ⟨by decide, fun c hc => nomatch hc⟩, Chg.refl hd⟩, ?_, ?_⟩
  · rintro i σ H' hi ⟨t, k, rfl, ht, ch⟩
    refine ⟨by decide +kernel, ch.2, by decide +kernel, by decide +kernel, fun r H2 hr' ch2 => ⟨by decide +kernel, ?_⟩⟩
    obtain ⟨c, e1, e2⟩ := sign_at (n := 100) (z := cBODY) ⟨by decide +kernel, by decide +kernel⟩ (r := r) (by
      have : (r : Int) < ((cBODY : Str).length : Int) := hr'
      omega)
    refine ⟨c, e1, ?_, ⟨_, some (.int (i : Int)), rfl, ht.app e2, ch.trans ch2⟩⟩
    have a1 := ht.1
    have a2 := e2.1
    exact Nat.le_trans (Nat.add_le_add a1 a2) (Nat.le_of_lt (small (by omega)))
  · rintro σ H' ⟨t, k, rfl, ht, ch⟩
    exact q t H' ht ch

theorem pick {xs : List Str} {n r : Nat} (h : ∀ t ∈ xs, Tx n t) (hr : r < xs.length) : ∃ t, atI (xs.map V.str) (r : Int) = some (.str t) ∧ Tx n t := by
  refine ⟨xs[r], atI_nat ?_, h _ (List.getElem_mem hr)⟩
  rw [List.getElem?_map, List.getElem?_eq_getElem hr]
  rfl
abbrev lPAIRS : List Str := ["..", "==", "->", "...", "===", "=>", "-", ">", "--", ".=", "|", "_", ")_", "(", ")", ",", ";", ":", "=", "."]
theorem words_tx : ∀ t ∈ lWORDS, Tx 6 t := by
  have h : ∀ t ∈ lWORDS, t.length ≤ 6 ∧ ∀ c ∈ t.cps.toList, c < 128 := by decide +kernel
  exact h
theorem pairs_tx : ∀ t ∈ lPAIRS, Tx 6 t := by
  have h : ∀ t ∈ lPAIRS, t.length ≤ 6 ∧ ∀ c ∈ t.cps.toList, c < 128 := by decide +kernel
  exact h
theorem fits {a b : Str} {n m : Nat} (h : Tx n a) (g : Tx m b) (l : n + m ≤ 100000) : a.length + b.length ≤ sizeLine :=
  Nat.le_trans (Nat.add_le_add h.1 g.1) (Nat.le_of_lt (small l))
def sp_law_piece : Sp := fun vs H Q _ => match vs with
  | [.ref d] => Deck H d ∧ ∀ t H', Tx 20 t → Chg d H H' → Q (.str t) H'
  | _ => False
theorem ok_law_piece {f : Addr} {fd : FuncData} (F : Fun K "_law_piece" "_law_piece" st_law_piece f fd) (T : Top K mg) (Claw_draw : Cal P w K mg base "_law_draw" 1 ["deck", "many"] sp_law_draw)
    (Claw_sign : Cal P w K mg base "_law_sign" 2 ["deck"] sp_law_sign) (Claw_body : Cal P w K mg base "_law_body" 2 ["deck", "many"] sp_law_body) : FnOk P w K mg base CX0 3 f fd ["deck"] sp_law_piece := by
  refine F.ok sc_law_piece (fun vs H Q E h => ?_) (fun cdv A outer s H vs Q E hr h => ?_)
  · match vs, h with
    | [.ref d], _ => rfl
  match vs, h with
  | [.ref d], h =>
  obtain ⟨hd, q⟩ := h
  refine ⟨_, (pss_cons (ps_set (i := 1) sc_law_piece.nd rfl (.inl rfl) (pe_lst (pa_cons pe_str (pa_cons pe_str (pa_cons pe_str (pa_cons pe_str (pa_cons pe_str (pa_cons pe_str (pa_cons pe_str (pa_cons pe_str (pa_cons pe_str (pa_cons pe_str (pa_cons pe_str (pa_cons pe_str (pa_cons pe_str (pa_cons pe_str (pa_cons pe_str pa_nil)))))))))))))))))
(pss_cons (ps_set (i := 2) sc_law_piece.nd rfl (.inl rfl) (pe_lst (pa_cons pe_str (pa_cons pe_str (pa_cons pe_str (pa_cons pe_str (pa_cons pe_str (pa_cons pe_str (pa_cons pe_str (pa_cons pe_str (pa_cons pe_str (pa_cons pe_str (pa_cons pe_str (pa_cons pe_str (pa_cons pe_str (pa_cons pe_str (pa_cons pe_str (pa_cons pe_str (pa_cons pe_str (pa_cons pe_str (pa_cons pe_str (pa_cons pe_str pa_nil))))))))))))))))))))))
(pss_cons (ps_set (i := 3) sc_law_piece.nd rfl (.inl rfl) (pe_cal Claw_draw (hr.mono (by decide)) (by rfl) (pa_cons (mv 0) (pa_cons pe_int pa_nil))))
(pss_cons (mif (mcmp opEq (mv 3) pe_int)
(pss_one (ps_ret (pe_ix ixM (mv 1) (pe_cal Claw_draw (hr.mono (by decide)) (by rfl) (pa_cons (mv 0) (pa_cons pe_int pa_nil))) (fun _ _ => rfl))))
pss_nil)
(pss_cons (mif (mcmp opEq (mv 3) pe_int)
(pss_one (ps_ret (pe_op opAdd (pe_ix ixM (mv 1) (pe_cal Claw_draw (hr.mono (by decide)) (by rfl) (pa_cons (mv 0) (pa_cons pe_int pa_nil))) (fun _ _ => rfl)) (pe_cal Claw_body (hr.mono (by decide)) (by rfl) (pa_cons (mv 0) (pa_cons pe_int pa_nil))))))
pss_nil)
(pss_cons (mif (mcmp opEq (mv 3) pe_int)
(pss_one (ps_ret (pe_slice slM (pe_ix ixM (mv 1) (pe_cal Claw_draw (hr.mono (by decide)) (by rfl) (pa_cons (mv 0) (pa_cons pe_int pa_nil))) (fun _ _ => rfl)) po_none (pom (pe_un unNeg pe_int)))))
pss_nil)
(pss_cons (mif (mcmp opLt (mv 3) pe_int)
(pss_one (ps_ret (pe_ix ixM (mv 2) (pe_cal Claw_draw (hr.mono (by decide)) (by rfl) (pa_cons (mv 0) (pa_cons (pe_callB callLen (by rfl) T.len (by decide +kernel) (pa_cons (mv 2) pa_nil)) pa_nil))) (fun _ _ => rfl))))
pss_nil)
(pss_cons (mif (mcmp opLt (mv 3) pe_int)
(pss_one (ps_ret (pe_cal Claw_body (hr.mono (by decide)) (by rfl) (pa_cons (mv 0) (pa_cons (pe_op opAdd pe_int (pe_cal Claw_draw (hr.mono (by decide)) (by rfl) (pa_cons (mv 0) (pa_cons pe_int pa_nil)))) pa_nil)))))
pss_nil)
(pss_cons (mif (mcmp opEq (mv 3) pe_int)
(pss_one (ps_ret (pe_op opAdd pe_str (pe_cal Claw_body (hr.mono (by decide)) (by rfl) (pa_cons (mv 0) (pa_cons (pe_cal Claw_draw (hr.mono (by decide)) (by rfl) (pa_cons (mv 0) (pa_cons pe_int pa_nil))) pa_nil))))))
pss_nil)
(pss_cons (mif (mcmp opEq (mv 3) pe_int)
(pss_one (ps_ret (pe_op opAdd (pe_ix ixM pe_str (pe_cal Claw_draw (hr.mono (by decide)) (by rfl) (pa_cons (mv 0) (pa_cons pe_int pa_nil))) (fun _ _ => rfl)) (pe_cal Claw_body (hr.mono (by decide)) (by rfl) (pa_cons (mv 0) (pa_cons (pe_cal Claw_draw (hr.mono (by decide)) (by rfl) (pa_cons (mv 0) (pa_cons pe_int pa_nil))) pa_nil))))))
pss_nil)
(pss_cons (mif (mcmp opEq (mv 3) pe_int)
(pss_one (ps_ret (pe_cal Claw_sign (hr.mono (by decide)) (by rfl) (pa_cons (mv 0) pa_nil))))
pss_nil)
(pss_one (ps_ret (pe_op opAdd (pe_cal Claw_sign (hr.mono (by decide)) (by rfl) (pa_cons (mv 0) pa_nil)) (pe_cal Claw_sign (hr.mono (by decide)) (by rfl) (pa_cons (mv 0) pa_nil))))))))))))))))
  , ?_⟩
  refine ⟨by show 15 ≤ sizeLine; decide, fun p hp => ⟨by show 20 ≤ sizeLine; decide, fun p2 hp2 => ?_⟩⟩
  have c1 : Chg d H (upd H p (.lst (lWORDS.map V.str))) := (Chg.refl hd).new hp
  have c2 : Chg d H (upd (upd H p (.lst (lWORDS.map V.str))) p2 (.lst (lPAIRS.map V.str))) := c1.new hp2
  have npp : p ≠ p2 := fun e => by
    rw [← e] at hp2
    rw [show (upd H p _) p = _ from upd_same] at hp2
    cases hp2
  have a1 : (upd (upd H p (.lst (lWORDS.map V.str))) p2 (.lst (lPAIRS.map V.str))) p = some (.lst (lWORDS.map V.str)) := by
    rw [upd_ne npp, upd_same]
  have a2 : (upd (upd H p (.lst (lWORDS.map V.str))) p2 (.lst (lPAIRS.map V.str))) p2 = some (.lst (lPAIRS.map V.str)) := upd_same
  have npd : p ≠ d := fun e => by
    obtain ⟨j, g, c, hd⟩ := hd
    rw [e] at hp
    exact absurd (hd.symm.trans hp) (fun z => nomatch z)
  have npd2 : p2 ≠ d := fun e => by
    obtain ⟨j, g, c, hd⟩ := c1.2
    rw [e] at hp2
    exact absurd (hd.symm.trans hp2) (fun z => nomatch z)
  refine ⟨c2.2, by decide, by decide, fun r H1 hr1 d1 => ?_⟩
  have e1 := c2.trans d1
  have b1 := d1.1 _ _ npd a1
  have b2 := d1.1 _ _ npd2 a2
  refine ⟨fun _ => ?_, fun _ => ⟨fun _ => ?_, fun _ => ⟨fun _ => ?_, fun _ => ⟨fun _ => ?_, fun _ => ⟨fun _ => ?_, fun _ => ⟨fun _ => ?_, fun _ => ⟨fun _ => ?_, fun _ => ⟨fun _ => ?_, fun _ => ?_⟩⟩⟩⟩⟩⟩⟩⟩
  · refine ⟨d1.2, by decide, by decide, fun r H2 hr2 d2 => ?_⟩
    obtain ⟨t, z1, z2⟩ := pick words_tx (r := r) (by show r < 15; omega)
    exact ⟨_, .inl (SqL.of (d2.1 _ _ npd b1)), _, z1, q _ _ (z2.mono (by decide)) (e1.trans d2)⟩
  · refine ⟨d1.2, by decide, by decide, fun r H2 hr2 d2 => ?_⟩
    obtain ⟨t, z1, z2⟩ := pick words_tx (r := r) (by show r < 15; omega)
    refine ⟨_, .inl (SqL.of (d2.1 _ _ npd b1)), _, z1, d2.2, by decide, by decide, fun u H3 hu d3 => ⟨fits z2 hu (by decide), q _ _ ((z2.app hu).mono (by decide)) ((e1.trans d2).trans d3)⟩⟩
  · refine ⟨d1.2, by decide, by decide, fun r H2 hr2 d2 => ?_⟩
    obtain ⟨t, z1, z2⟩ := pick words_tx (r := r) (by show r < 15; omega)
    exact ⟨_, .inl (SqL.of (d2.1 _ _ npd b1)), _, z1, z2.big (by decide), q _ _ ((z2.cut _ _).mono (by decide)) (e1.trans d2)⟩
  · refine ⟨_, .inl (SqL.of b2), d1.2, by decide, by decide, fun r H2 hr2 d2 => ?_⟩
    obtain ⟨t, z1, z2⟩ := pick pairs_tx (r := r) (by
      have : (r : Int) < (20 : Int) := hr2
      show r < 20
      omega)
    exact ⟨_, .inl (SqL.of (d2.1 _ _ npd2 b2)), _, z1, q _ _ (z2.mono (by decide)) (e1.trans d2)⟩
  · refine ⟨d1.2, by decide, by decide, fun r H2 hr2 d2 => ⟨d2.2, by omega, by omega, fun u H3 hu d3 => q _ _ (hu.mono (by omega)) ((e1.trans d2).trans d3)⟩⟩
  · refine ⟨d1.2, by decide, by decide, fun r H2 hr2 d2 => ⟨d2.2, by omega, by omega, fun u H3 hu d3 => ?_⟩⟩
    have z : Tx 1 ("_" : Str) := ⟨by decide +kernel, by decide +kernel⟩
    have hu' : Tx 3 u := hu.mono (by omega)
    exact ⟨fits z hu' (by decide), q _ _ ((z.app hu').mono (by decide)) ((e1.trans d2).trans d3)⟩
  · refine ⟨d1.2, by decide, by decide, fun r H2 hr2 d2 => ⟨by decide +kernel, ?_⟩⟩
    obtain ⟨c, z1, z2⟩ := sign_at (n := 100) (z := "0123456789") ⟨by decide +kernel, by decide +kernel⟩ (r := r) (by
      have : ("0123456789" : Str).length = 10 := by decide +kernel
      omega)
    refine ⟨c, z1, d2.2, by decide, by decide, fun r3 H3 hr3 d3 => ⟨d3.2, by omega, by omega, fun u H4 hu d4 => ?_⟩⟩
    have hu' : Tx 4 u := hu.mono (by omega)
    exact ⟨fits z2 hu' (by decide), q _ _ ((z2.app hu').mono (by decide)) (((e1.trans d2).trans d3).trans d4)⟩
  · exact ⟨d1.2, fun t H2 ht d2 => q _ _ (ht.mono (by decide)) (e1.trans d2)⟩
  · exact ⟨d1.2, fun t H2 ht d2 => ⟨d2.2, fun u H3 hu d3 => ⟨fits ht hu (by decide), q _ _ ((ht.app hu).mono (by decide)) ((e1.trans d2).trans d3)⟩⟩⟩

def sp_law_deck (K : PySem.W.Frag) : Sp := fun vs H Q _ => match vs with
  | [.ref a] => ∃ ns : List Int, SqL K H a (ns.map V.int) ∧ ns.length ≤ 63 ∧ ∀ d H', Same H H' → H d = none → Deck H' d → Q (.ref d) H'
  | _ => False
theorem ok_law_deck {f : Addr} {fd : FuncData} (F : Fun K "_law_deck" "_law_deck" st_law_deck f fd) (T : Top K mg) : FnOk P w K mg base CX0 1 f fd ["script"] (sp_law_deck K) := by
  refine F.ok sc_law_deck (fun vs H Q E h => ?_) (fun cdv A outer s H vs Q E hr h => ?_)
  · match vs, h with
    | [.ref a], _ => rfl
  match vs, h with
  | [.ref a], h =>
  obtain ⟨ns, hS, hlen, q⟩ := h
  refine ⟨_, (pss_cons (ps_set (i := 1) sc_law_deck.nd rfl (.inl rfl) pe_int)
(pss_cons (ps_set (i := 2) sc_law_deck.nd rfl (.inl rfl) pe_int)
(pss_cons (mforR PassesOwn.never rfl (by rfl) T.range (pe_callB (callMin rfl) (by rfl) T.min (by decide +kernel) (pa_cons (pe_callB callLen (by rfl) T.len (by decide +kernel) (pa_cons (mv 0) pa_nil)) (pa_cons pe_int pa_nil))) (pg_name (i := 3) sc_law_deck.nd rfl (.inl rfl))
(pss_cons (ps_set (i := 4) sc_law_deck.nd rfl (.inl rfl) (pe_ix ixM (mv 0) (mv 3) (fun _ _ => rfl)))
(pss_cons (mif (PW.pt (mand (mcmp opGe (mv 4) (pe_op opPow pe_int pe_int)) (pw_and1 (mcmp opEq (mv 2) pe_int))))
(pss_one (ps_set (i := 2) sc_law_deck.nd rfl (.inl rfl) (mv 4)))
pss_nil)
(pss_one (ps_set (i := 1) sc_law_deck.nd rfl (.inl rfl) (pe_op opMod (pe_callTy callInt (by rfl) T.int (by decide +kernel) (pa_cons (pe_op opAdd (pe_op opAdd (pe_op opMul (mv 1) pe_int) (pe_op opMul (pe_op opMod (pe_callTy callInt (by rfl) T.int (by decide +kernel) (pa_cons (mv 4) pa_nil)) pe_int) pe_int)) (mv 3)) pa_nil)) pe_int))))))
(pss_one (ps_ret (pe_lst (pa_cons (mv 1) (pa_cons (mv 2) (pa_cons pe_int pa_nil)))))))))
  , ?_⟩
  refine ⟨_, .inl hS, ?_⟩
  rw [List.length_map]
  have em : (fun i j : Int => if j < i then j else i) (ns.length : Int) 63 = (ns.length : Int) := if_neg (by omega)
  refine ⟨⟨?_, ?_⟩, fun i σ H' => ∃ (j g : Int) (k c : Option V), σ = [some (.ref a), some (.int j), some (.int g), k, c] ∧ H' = H, ⟨20011, 0, none, none, rfl, rfl⟩, ?_, ?_⟩
  · rw [em]
    omega
  · rw [em]
    omega
  · rintro i σ H' hi ⟨j, g, k, c, rfl, rfl⟩
    rw [em] at hi
    have hi' : i < ns.length := by omega
    have e1 : atI (ns.map V.int) (i : Int) = some (.int ns[i]) := atI_nat (by
      rw [List.getElem?_map, List.getElem?_eq_getElem hi']
      rfl)
    refine ⟨_, .inl hS, _, e1, ⟨by decide, by decide, by decide⟩, ⟨fun _ => ⟨fun _ => ?_, fun _ => ?_⟩, fun _ => ⟨fun h => (nomatch h), fun _ => ?_⟩⟩⟩ <;>
      exact ⟨.inr ⟨by decide, by decide⟩, by decide, .inr ⟨by decide, by decide⟩, by decide, _, _, _, _, rfl, rfl⟩
  · rintro σ H' ⟨j, g, k, c, rfl, rfl⟩
    refine ⟨by show 3 ≤ sizeLine; decide, fun d hd => q d _ (sameNew (Same.refl _) hd) hd ⟨_, _, _, upd_same⟩⟩
end
end T3
namespace T3
open PySem PySem.Spec PyProof.Rows L2
abbrev st_law_scan : Stmt := topS 19
theorem sc_law_scan : FnScope ["row", "small", "great", "body", "words", "found", "places", "at", "end", "group"] ["row"] (defScope st_law_scan) := ⟨rfl, rfl, rfl, by decide +kernel, rfl, by decide +kernel, by decide +kernel⟩
theorem body_row : (cSMALL ++ cGREAT ++ ("0123456789_" : Str)) = cROW := by decide +kernel
section
variable {P : Program} {w : World} {K : PySem.W.Frag} {mg : Str → Option Value} {base : Heap}
def sp_law_scan : Sp := fun vs H Q _ => match vs with
  | [.str z] => ∃ n, Tx n z ∧ n ≤ 100000 ∧ ∀ p H' a b xs ys, Same H H' → H' p = some (.lst [.ref a, .ref b]) → H' a = some (.tup xs) → TpAll H' xs ((scan z 0).map (tokD z)) →
      H' b = some (.tup ys) → TpAll H' ys ((scan z 0).map begD) → Q (.ref p) H'
  | _ => False
theorem ok_law_scan {f : Addr} {fd : FuncData} (F : Fun K "_law_scan" "_law_scan" st_law_scan f fd) (T : Top K mg) : FnOk P w K mg base CX0 1 f fd ["row"] sp_law_scan := by
  refine F.ok sc_law_scan (fun vs H Q E h => ?_) (fun cdv A outer s H vs Q E hr h => ?_)
  · match vs, h with
    | [.str z], _ => rfl
  match vs, h with
  | [.str z], h =>
  obtain ⟨n, hz, hn, q⟩ := h
  have hb := hz.big hn
  refine ⟨_, (pss_cons (ps_set (i := 1) sc_law_scan.nd rfl (.inl rfl) pe_str)
(pss_cons (ps_set (i := 2) sc_law_scan.nd rfl (.inl rfl) pe_str)
(pss_cons (ps_set (i := 3) sc_law_scan.nd rfl (.inl rfl) (pe_op opAdd (pe_op opAdd (mv 1) (mv 2)) pe_str))
(pss_cons (ps_set (i := 4) sc_law_scan.nd rfl (.inl rfl) (pe_lst (pa_cons pe_str (pa_cons pe_str (pa_cons pe_str (pa_cons pe_str (pa_cons pe_str (pa_cons pe_str (pa_cons pe_str (pa_cons pe_str (pa_cons pe_str (pa_cons pe_str (pa_cons pe_str (pa_cons pe_str (pa_cons pe_str (pa_cons pe_str (pa_cons pe_str pa_nil)))))))))))))))))
(pss_cons (ps_set (i := 5) sc_law_scan.nd rfl (.inl rfl) (pe_lst pa_nil))
(pss_cons (ps_set (i := 6) sc_law_scan.nd rfl (.inl rfl) (pe_lst pa_nil))
(pss_cons (ps_set (i := 7) sc_law_scan.nd rfl (.inl rfl) pe_int)
(pss_cons (mwhile PassesOwn.never (mcmp opLt (mv 7) (pe_callB callLen (by rfl) T.len (by decide +kernel) (pa_cons (mv 0) pa_nil)))
(pss_cons (mif (mcmp opEq (pe_ix ixM (mv 0) (mv 7) (fun _ _ => rfl)) pe_str)
(pss_cons (ps_set (i := 7) sc_law_scan.nd rfl (.inl rfl) (pe_op opAdd (mv 7) pe_int))
(pss_one ps_continue))
pss_nil)
(pss_cons (ps_set (i := 8) sc_law_scan.nd rfl (.inl rfl) (pe_op opAdd (mv 7) pe_int))
(pss_cons (ps_set (i := 9) sc_law_scan.nd rfl (.inl rfl) pe_str)
(mcut (mif (mcmp opEq (pe_ix ixM (mv 0) (mv 7) (fun _ _ => rfl)) pe_str)
(pss_cons (ps_set (i := 8) sc_law_scan.nd rfl (.inl rfl) (pe_callB callLen (by rfl) T.len (by decide +kernel) (pa_cons (mv 0) pa_nil)))
(pss_one (ps_set (i := 9) sc_law_scan.nd rfl (.inl rfl) pe_str)))
(pss_one (mif (mcmp opIn (pe_ix ixM (mv 0) (mv 7) (fun _ _ => rfl)) (mv 3))
(mcut (mwhile PassesOwn.never (PW.pt (mand (mcmp opLt (mv 8) (pe_callB callLen (by rfl) T.len (by decide +kernel) (pa_cons (mv 0) pa_nil))) (pw_and1 (mcmp opIn (pe_ix ixM (mv 0) (mv 8) (fun _ _ => rfl)) (mv 3)))))
(pss_one (ps_set (i := 8) sc_law_scan.nd rfl (.inl rfl) (pe_op opAdd (mv 8) pe_int))))
(pss_one (mif (mcmp opIn (pe_slice slM (mv 0) (pom (mv 7)) (pom (mv 8))) (mv 4))
(pss_one (ps_set (i := 9) sc_law_scan.nd rfl (.inl rfl) pe_str))
(pss_one (mif (mcmp opIn (pe_ix ixM (mv 0) (mv 7) (fun _ _ => rfl)) (mv 1))
(pss_one (ps_set (i := 9) sc_law_scan.nd rfl (.inl rfl) pe_str))
(pss_one (mif (mcmp opIn (pe_ix ixM (mv 0) (mv 7) (fun _ _ => rfl)) (mv 2))
(pss_one (ps_set (i := 9) sc_law_scan.nd rfl (.inl rfl) pe_str))
(pss_one (mif (mcmp opEq (pe_slice slM (mv 0) (pom (mv 7)) (pom (mv 8))) pe_str)
(pss_one (ps_set (i := 9) sc_law_scan.nd rfl (.inl rfl) pe_str))
pss_nil)))))))))
(pss_cons (mif (mcmp opIn (pe_slice slM (mv 0) (pom (mv 7)) (pom (pe_op opAdd (mv 7) pe_int))) (pe_lst (pa_cons pe_str (pa_cons pe_str (pa_cons pe_str pa_nil)))))
(pss_one (ps_set (i := 8) sc_law_scan.nd rfl (.inl rfl) (pe_op opAdd (mv 7) pe_int)))
pss_nil)
(pss_one (mif (mcmp opIn (pe_slice slM (mv 0) (pom (mv 7)) (pom (mv 8))) (pe_lst (pa_cons pe_str (pa_cons pe_str (pa_cons pe_str (pa_cons pe_str (pa_cons pe_str (pa_cons pe_str (pa_cons pe_str (pa_cons pe_str (pa_cons pe_str (pa_cons pe_str (pa_cons pe_str pa_nil)))))))))))))
(pss_one (ps_set (i := 9) sc_law_scan.nd rfl (.inl rfl) pe_str))
pss_nil))))))
(pss_cons (mapp (mv 5) (pe_tup (pa_cons (mv 9) (pa_cons (pe_slice slM (mv 0) (pom (mv 7)) (pom (mv 8))) pa_nil))))
(pss_cons (mapp (mv 6) (mv 7))
(pss_one (ps_set (i := 7) sc_law_scan.nd rfl (.inl rfl) (mv 8))))))))))
(pss_one (ps_ret (pe_lst (pa_cons (pe_callTy callTuple (by rfl) T.tuple (by decide +kernel) (pa_cons (mv 5) pa_nil)) (pa_cons (pe_callTy callTuple (by rfl) T.tuple (by decide +kernel) (pa_cons (mv 6) pa_nil)) pa_nil)))))))))))))
  , ?_⟩
  refine ⟨by decide +kernel, by decide +kernel, by show 15 ≤ sizeLine; decide, fun pw hpw => ⟨Nat.zero_le _, fun p5 hp5 => ⟨Nat.zero_le _, fun p6 hp6 => ?_⟩⟩⟩
  have s1 : Same H (upd H pw (.lst (lWORDS.map V.str))) := sameNew (Same.refl _) hpw
  have s2 : Same H (upd (upd H pw (.lst (lWORDS.map V.str))) p5 (.lst [])) := sameNew s1 hp5
  have s3 : Same H (upd (upd (upd H pw (.lst (lWORDS.map V.str))) p5 (.lst [])) p6 (.lst [])) := sameNew s2 hp6
  have hw1 : (upd H pw (.lst (lWORDS.map V.str))) pw = some (.lst (lWORDS.map V.str)) := upd_same
  have nw5 : pw ≠ p5 := ne_of_none hw1 hp5
  have hw2 : (upd (upd H pw (.lst (lWORDS.map V.str))) p5 (.lst [])) pw = some (.lst (lWORDS.map V.str)) := by
    rw [upd_ne nw5]
    exact hw1
  have nw6 : pw ≠ p6 := ne_of_none hw2 hp6
  have h5 : (upd (upd H pw (.lst (lWORDS.map V.str))) p5 (.lst [])) p5 = some (.lst []) := upd_same
  have n56 : p5 ≠ p6 := ne_of_none h5 hp6
  have f5 : H p5 = none := s1.free hp5
  have f6 : H p6 = none := s2.free hp6
  -- the loop
  refine ⟨fun σ H' => ∃ (i : Nat) (e g : Option V) (xs ys : List V) (gone : List (Nat × Nat × Nat)),
      σ = [some (.str z), some (.str cSMALL), some (.str cGREAT), some (.str cROW), some (.ref pw), some (.ref p5), some (.ref p6), some (.int (i : Int)), e, g] ∧ Same H H' ∧
      H' pw = some (.lst (lWORDS.map V.str)) ∧ H' p5 = some (.lst xs) ∧ H' p6 = some (.lst ys) ∧ TpAll H' xs (gone.map (tokD z)) ∧ TpAll H' ys (gone.map begD) ∧ gone ++ scan z i = scan z 0,
    fun σ _ => match σ with
      | [_, _, _, _, _, _, _, some (.int i), _, _] => z.length - i.toNat
      | _ => 0, ⟨0, none, none, [], [], [], ?_, s3, ?_, ?_, upd_same, .nil, .nil, rfl⟩, ?_⟩
  · show [some (V.str z), some (.str cSMALL), some (.str cGREAT), some (.str (cSMALL ++ cGREAT ++ ("0123456789_" : Str))), some (.ref pw), some (.ref p5), some (.ref p6), some (.int 0), none, none] = _
    rw [body_row]
    rfl
  · show (upd (upd (upd H pw (.lst (lWORDS.map V.str))) p5 (.lst [])) p6 (.lst [])) pw = _
    rw [upd_ne nw6]
    exact hw2
  · show (upd (upd (upd H pw (.lst (lWORDS.map V.str))) p5 (.lst [])) p6 (.lst [])) p5 = _
    rw [upd_ne n56]
    exact h5
  rintro σ H' ⟨i, e0, g0, xs, ys, gone, rfl, sm, hW, hX, hY, tX, tY, hg⟩
  have few : gone.length ≤ z.length := by
    have h2 := congrArg List.length hg
    have h3 := scan_few z z.length 0 (by omega)
    rw [List.length_append] at h2
    omega
  refine ⟨hb, fun h1 => ?_, fun h1 => ?_⟩
  · have hlt : i < z.length := by
      have := of_decide_eq_true h1
      omega
    have hc := get_of hlt
    generalize z.cps[i]'hlt = c at hc
    refine ⟨hb, c, atI_nat hc, fun h2 => ?_, fun h2 => ?_⟩
    · -- a blank
      refine ⟨⟨i + 1, e0, g0, xs, ys, gone, rfl, sm, hW, hX, hY, tX, tY, ?_⟩, ?_⟩
      · rw [← scan_blank hc (of_decide_eq_true h2)]
        exact hg
      · show z.length - ((i : Int) + 1).toNat < z.length - (i : Int).toNat
        omega
    · have gt := endOf_gt (c := c) hlt
      have hfirst : (textAt z i (endOf z i c)).cps.toList[0]? = some c := text_first hc gt
      -- the token's end and its group
      refine ⟨fun σ' H2 => σ' = [some (.str z), some (.str cSMALL), some (.str cGREAT), some (.str cROW), some (.ref pw), some (.ref p5), some (.ref p6), some (.int (i : Int)),
        some (.int (endOf z i c : Nat)), some (.str (grpOf (textAt z i (endOf z i c)) c))] ∧ Same H' H2, ?_, ?_⟩
      · refine ⟨hb, c, atI_nat hc, fun e1 => ?_, fun e1 => ?_⟩
        · have e1 := of_decide_eq_true e1
          have z1 : endOf z i c = z.length := by
            unfold endOf
            rw [if_pos e1]
          have z2 : grpOf (textAt z i (endOf z i c)) c = "remark" := by
            unfold grpOf
            rw [if_pos e1]
          rw [z2, z1]
          exact ⟨hb, rfl, Same.refl _⟩
        · have e1 := of_decide_eq_false e1
          refine ⟨hb, c, atI_nat hc, c, rfl, fun e2 => ?_, fun e2 => ?_⟩
          · have e2 : inS cROW c = true := e2
            have z1 : endOf z i c = i + 1 + runLen (z.cps.toList.drop (i + 1)) := by
              unfold endOf
              rw [if_neg e1, if_pos e2]
            -- the run
            refine ⟨fun σ' H2 => σ' = [some (.str z), some (.str cSMALL), some (.str cGREAT), some (.str cROW), some (.ref pw), some (.ref p5), some (.ref p6), some (.int (i : Int)),
                some (.int (endOf z i c : Nat)), some (.str "wrong")] ∧ H2 = H', ?_, ?_⟩
            · refine ⟨fun σ H2 => ∃ e : Nat, σ = [some (.str z), some (.str cSMALL), some (.str cGREAT), some (.str cROW), some (.ref pw), some (.ref p5), some (.ref p6), some (.int (i : Int)),
                  some (.int (e : Int)), some (.str "wrong")] ∧ H2 = H' ∧ e + runLen (z.cps.toList.drop e) = endOf z i c,
                fun σ _ => match σ with
                  | [_, _, _, _, _, _, _, _, some (.int e), _] => z.length - e.toNat
                  | _ => 0, ⟨i + 1, rfl, rfl, z1.symm⟩, ?_⟩
              rintro σ H2 ⟨e, rfl, rfl, hrun⟩
              have stop : runLen (z.cps.toList.drop e) = 0 → e = endOf z i c := fun h0 => by omega
              refine ⟨hb, fun h1 => ?_, fun h1 => ⟨fun h => (nomatch h), fun _ => ?_⟩⟩
              · have hlt2 : e < z.length := by
                  have := of_decide_eq_true h1
                  omega
                have hce := get_of hlt2
                refine ⟨hb, _, atI_nat hce, _, rfl, fun h2 => ?_, fun h2 => ?_⟩
                · have h2 : inS cROW _ = true := h2
                  refine ⟨⟨e + 1, rfl, rfl, ?_⟩, ?_⟩
                  · rw [run_step hce, if_pos h2] at hrun
                    omega
                  · show z.length - ((e : Int) + 1).toNat < z.length - (e : Int).toNat
                    omega
                · have h2 : inS cROW _ = false := h2
                  rw [stop (by rw [run_step hce, if_neg (by rw [h2]; exact Bool.false_ne_true)])]
                  exact ⟨rfl, rfl⟩
              · have hge : z.length ≤ e := by
                  have := of_decide_eq_false h1
                  omega
                rw [stop (run_stop hge)]
                exact ⟨rfl, rfl⟩
            -- the group of a row of letters
            rintro σ2 H2 ⟨rfl, rfl⟩
            have gr : grpOf (textAt z i (endOf z i c)) c = if textAt z i (endOf z i c) ∈ lWORDS then ("word" : Str) else if inS cSMALL c = true then ("name" : Str) else if inS cGREAT c = true then ("Name" : Str)
                else if textAt z i (endOf z i c) = ("_" : Str) then ("sign" : Str) else ("wrong" : Str) := by
              unfold grpOf
              rw [if_neg e1, if_pos e2]
            rw [gr]
            refine ⟨hb, _, .inl (SqL.of hW), rfl, flat_str _, fun e3 => ?_, fun e3 => ?_⟩
            · rw [if_pos (show textAt z i (endOf z i c) ∈ lWORDS from of_decide_eq_true ((inV_str _ _).symm.trans e3))]
              exact ⟨rfl, Same.refl _⟩
            · rw [if_neg (show ¬ textAt z i (endOf z i c) ∈ lWORDS from of_decide_eq_false ((inV_str _ _).symm.trans e3))]
              refine ⟨hb, c, atI_nat hc, c, rfl, fun e4 => ?_, fun e4 => ?_⟩
              · rw [if_pos (show inS cSMALL c = true from e4)]
                exact ⟨rfl, Same.refl _⟩
              · rw [if_neg (show ¬ inS cSMALL c = true from fun z => Bool.noConfusion (z.symm.trans e4))]
                refine ⟨hb, c, atI_nat hc, c, rfl, fun e5 => ?_, fun e5 => ?_⟩
                · rw [if_pos (show inS cGREAT c = true from e5)]
                  exact ⟨rfl, Same.refl _⟩
                · rw [if_neg (show ¬ inS cGREAT c = true from fun z => Bool.noConfusion (z.symm.trans e5))]
                  refine ⟨hb, fun e6 => ?_, fun e6 => ?_⟩
                  · rw [if_pos (show textAt z i (endOf z i c) = ("_" : Str) from of_decide_eq_true e6)]
                    exact ⟨rfl, Same.refl _⟩
                  · rw [if_neg (show ¬ textAt z i (endOf z i c) = ("_" : Str) from of_decide_eq_false e6)]
                    exact ⟨rfl, Same.refl _⟩
          · have e2 : inS cROW c = false := e2
            have z0 : ¬ inS cROW c = true := by
              rw [e2]
              exact Bool.false_ne_true
            have gr : ∀ t : Str, grpOf t c = if t ∈ lSIGN2 then ("sign" : Str) else ("wrong" : Str) := fun t => by
              unfold grpOf
              rw [if_neg e1, if_neg z0]
            rw [gr]
            refine ⟨hb, by show 3 ≤ sizeLine; decide, fun pl hpl => ⟨lLONG.map V.str, .inl (SqL.of upd_same), rfl, flat_str _, fun e3 => ?_, fun e3 => ?_⟩⟩
            · have e3 := of_decide_eq_true ((inV_str _ _).symm.trans e3)
              have z1 : endOf z i c = i + 2 := by
                unfold endOf
                rw [if_neg e1, if_neg z0, if_pos e3]
              rw [z1]
              refine ⟨hb, by show 11 ≤ sizeLine; decide, fun p2 hp2 => ⟨lSIGN2.map V.str, .inl (SqL.of upd_same), rfl, flat_str _, fun e4 => ?_, fun e4 => ?_⟩⟩
              · rw [if_pos (show textAt z i (i + 2) ∈ lSIGN2 from of_decide_eq_true ((inV_str _ _).symm.trans e4))]
                exact ⟨rfl, sameNew (sameNew (Same.refl _) hpl) hp2⟩
              · rw [if_neg (show ¬ textAt z i (i + 2) ∈ lSIGN2 from of_decide_eq_false ((inV_str _ _).symm.trans e4))]
                exact ⟨rfl, sameNew (sameNew (Same.refl _) hpl) hp2⟩
            · have e3 := of_decide_eq_false ((inV_str _ _).symm.trans e3)
              have z1 : endOf z i c = i + 1 := by
                unfold endOf
                rw [if_neg e1, if_neg z0, if_neg e3]
              rw [z1]
              refine ⟨hb, by show 11 ≤ sizeLine; decide, fun p2 hp2 => ⟨lSIGN2.map V.str, .inl (SqL.of upd_same), rfl, flat_str _, fun e4 => ?_, fun e4 => ?_⟩⟩
              · rw [if_pos (show textAt z i (i + 1) ∈ lSIGN2 from of_decide_eq_true ((inV_str _ _).symm.trans e4))]
                exact ⟨rfl, sameNew (sameNew (Same.refl _) hpl) hp2⟩
              · rw [if_neg (show ¬ textAt z i (i + 1) ∈ lSIGN2 from of_decide_eq_false ((inV_str _ _).symm.trans e4))]
                exact ⟨rfl, sameNew (sameNew (Same.refl _) hpl) hp2⟩
      · -- found.append, places.append
        rintro σ2 H2 ⟨rfl, sm2⟩
        have X2 := sm2 _ _ hX
        have Y2 := sm2 _ _ hY
        have W2 := sm2 _ _ hW
        have tX2 := tX.keep (Ktp.same sm2)
        have tY2 := tY.keep (Ktp.same sm2)
        have smH := sm.trans sm2
        refine ⟨⟨xs, X2⟩, hb, by show 2 ≤ sizeLine; decide, fun t nt => ?_⟩
        have n5t : p5 ≠ t := ne_of_none X2 nt
        have n6t : p6 ≠ t := ne_of_none Y2 nt
        have nwt : pw ≠ t := ne_of_none W2 nt
        have lx := tX2.length
        have ly := tY2.length
        rw [List.length_map] at lx ly
        refine ⟨xs, ?_, small (by have := hz.1; omega), ⟨ys, ?_⟩, ys, ?_, small (by have := hz.1; omega), ?_⟩
        · rw [upd_ne n5t]
          exact X2
        · rw [upd_ne n56.symm, upd_ne n6t]
          exact Y2
        · rw [upd_ne n56.symm, upd_ne n6t]
          exact Y2
        · have hT := app_tp X2 nt tX2 (.cons (.str (grpOf (textAt z i (endOf z i c)) c)) (.cons (.str (textAt z i (endOf z i c))) .nil))
          have h6 : (upd (upd H2 t (.tup [.str (grpOf (textAt z i (endOf z i c)) c), .str (textAt z i (endOf z i c))])) p5 (.lst (xs ++ [.ref t]))) p6 = some (.lst ys) := by
            rw [upd_ne n56.symm, upd_ne n6t]
            exact Y2
          have k6 := Ktp.lst (zs := ys ++ [V.int (i : Int)]) h6
          have k5 : Ktp H2 (upd (upd H2 t (.tup [.str (grpOf (textAt z i (endOf z i c)) c), .str (textAt z i (endOf z i c))])) p5 (.lst (xs ++ [.ref t]))) :=
            (Ktp.new nt).trans (Ktp.lst (ys := xs) (by rw [upd_ne n5t]; exact X2))
          refine ⟨⟨endOf z i c, some (.int (endOf z i c : Nat)), some (.str (grpOf (textAt z i (endOf z i c)) c)), xs ++ [.ref t], ys ++ [.int (i : Int)], gone ++ [(i, c, endOf z i c)], rfl, ?_, ?_, ?_, upd_same, ?_, ?_, ?_⟩, ?_⟩
          · intro b o e
            rw [upd_ne (ne_of_none e f6), upd_ne (ne_of_none e f5), upd_ne (ne_of_none (smH _ _ e) nt)]
            exact smH _ _ e
          · rw [upd_ne nw6, upd_ne nw5, upd_ne nwt]
            exact W2
          · rw [upd_ne n56, upd_same]
          · rw [List.map_append]
            have z5 := hT.keep k6
            rw [← sort_grp hfirst] at z5
            rw [← sort_grp hfirst]
            exact z5
          · rw [List.map_append]
            exact TpAll.snoc ((tY2.keep k5).keep k6) (.int _)
          · rw [List.append_assoc]
            show gone ++ ((i, c, endOf z i c) :: scan z (endOf z i c)) = scan z 0
            rw [← scan_token hc (of_decide_eq_false h2)]
            exact hg
          · show z.length - ((endOf z i c : Nat) : Int).toNat < z.length - (i : Int).toNat
            omega
  · have hge : z.length ≤ i := by
      have := of_decide_eq_false h1
      omega
    rw [scan_end hge, List.append_nil] at hg
    rw [hg] at tX tY
    refine ⟨xs, SqL.of hX, fun l1 hl1 => ?_⟩
    have Y1 : (upd H' l1 (.tup xs)) p6 = some (.lst ys) := by
      rw [upd_ne (ne_of_none hY hl1)]
      exact hY
    refine ⟨ys, SqL.of Y1, fun l2 hl2 => ?_⟩
    have n12 : l1 ≠ l2 := ne_of_none (show (upd H' l1 (.tup xs)) l1 = some _ from upd_same) hl2
    refine ⟨by show 2 ≤ sizeLine; decide, fun p hp => ?_⟩
    have np1 : l1 ≠ p := ne_of_none (show (upd (upd H' l1 (.tup xs)) l2 (.tup ys)) l1 = some (.tup xs) by rw [upd_ne n12, upd_same]) hp
    have np2 : l2 ≠ p := ne_of_none (show (upd (upd H' l1 (.tup xs)) l2 (.tup ys)) l2 = some (.tup ys) from upd_same) hp
    have k3 : Ktp H' (upd (upd (upd H' l1 (.tup xs)) l2 (.tup ys)) p (.lst [.ref l1, .ref l2])) := ((Ktp.new hl1).trans (Ktp.new hl2)).trans (Ktp.new hp)
    refine q p _ l1 l2 xs ys (sameNew (sameNew (sameNew sm hl1) hl2) hp) upd_same ?_ (tX.keep k3) ?_ (tY.keep k3)
    · rw [upd_ne np1, upd_ne n12, upd_same]
    · rw [upd_ne np2, upd_same]
end
end T3
namespace T3
open PySem PySem.Spec PyProof.Rows L2
abbrev st_law_laid : Stmt := topS 20
theorem sc_law_laid : FnScope ["deck", "row", "laid", "token"] ["deck", "row"] (defScope st_law_laid) := ⟨rfl, rfl, rfl, by decide +kernel, rfl, by decide +kernel, by decide +kernel⟩
abbrev st_law_changed : Stmt := topS 21
theorem sc_law_changed : FnScope ["deck", "row", "other", "pick", "at"] ["deck", "row", "other"] (defScope st_law_changed) := ⟨rfl, rfl, rfl, by decide +kernel, rfl, by decide +kernel, by decide +kernel⟩
theorem mulOk3 (r : Nat) (h : r < 3) : MulOk " " (r : Int) ∧ Tx 2 (Txt.mul " " (r : Int)) := by
  have h3 : ∀ k : Fin 3, (decide ((k.val : Int) < -(2 ^ 63 : Int)) || decide ((k.val : Int) ≥ 2 ^ 63)) = false ∧ (Txt.mul " " (k.val : Int)).length ≤ 2 ∧ (∀ c ∈ (Txt.mul " " (k.val : Int)).cps.toList, c < 128) ∧
      PySem.Builtin.Str.tooLong (1 * ((k.val : Int)).toNat) = false := by decide +kernel
  obtain ⟨a, b, c, d⟩ := h3 ⟨r, h⟩
  refine ⟨⟨a, fun h1 _ => ?_, fun _ _ => d⟩, b, c⟩
  have e : (((" " : Str).length : Nat) : Int) = 1 := by decide +kernel
  rw [e]
  have : r = 1 ∨ r = 2 := by omega
  rcases this with rfl | rfl <;> decide
section
variable {P : Program} {w : World} {K : PySem.W.Frag} {mg : Str → Option Value} {base : Heap}
def sp_law_laid : Sp := fun vs H Q _ => match vs with
  | [.ref d, .str z] => Deck H d ∧ Tx 48 z ∧ ∀ t H', Tx 3000 t → Chg d H H' → Q (.str t) H'
  | _ => False
theorem ok_law_laid {f : Addr} {fd : FuncData} (F : Fun K "_law_laid" "_law_laid" st_law_laid f fd) (T : Top K mg) (Claw_draw : Cal P w K mg base "_law_draw" 1 ["deck", "many"] sp_law_draw)
    (Claw_scan : Cal P w K mg base "_law_scan" 1 ["row"] sp_law_scan) : FnOk P w K mg base CX0 2 f fd ["deck", "row"] sp_law_laid := by
  refine F.ok sc_law_laid (fun vs H Q E h => ?_) (fun cdv A outer s H vs Q E hr h => ?_)
  · match vs, h with
    | [.ref d, .str z], _ => rfl
  match vs, h with
  | [.ref d, .str z], h =>
  obtain ⟨hd, hz, q⟩ := h
  refine ⟨_, (pss_cons (ps_set (i := 2) sc_law_laid.nd rfl (.inl rfl) pe_str)
(pss_cons (mforT PassesOwn.never rfl (pe_ix ixM (pe_cal Claw_scan (hr.mono (by decide)) (by rfl) (pa_cons (mv 1) pa_nil)) pe_int (fun _ _ => rfl)) (pg_name (i := 3) sc_law_laid.nd rfl (.inl rfl))
(pss_one (ps_set (i := 2) sc_law_laid.nd rfl (.inl rfl) (pe_op opAdd (pe_op opAdd (mv 2) (pe_op opMul pe_str (pe_cal Claw_draw (hr.mono (by decide)) (by rfl) (pa_cons (mv 0) (pa_cons pe_int pa_nil))))) (pe_ix ixM (mv 3) pe_int (fun _ _ => rfl))))))
(pss_one (ps_ret (mv 2)))))
  , ?_⟩
  refine ⟨48, hz, by decide, fun p H1 a b xs ys sm hp ha ta hb tb => ⟨_, .inl (SqL.of hp), .ref a, rfl, ?_⟩⟩
  have few : (scan z 0).length ≤ 48 := Nat.le_trans (scan_few z z.length 0 (by omega)) hz.1
  have lx := ta.length
  rw [List.length_map] at lx
  have c1 : Chg d H H1 := (Chg.refl hd).same sm
  have nad : a ≠ d := fun e => by
    obtain ⟨j, g, c, hd⟩ := c1.2
    rw [e] at ha
    exact absurd (hd.symm.trans ha) (fun z => nomatch z)
  refine ⟨xs, SqT.of ha, fun i σ H2 => ∃ (t : Str) (k : Option V), σ = [some (.ref d), some (.str z), some (.str t), k] ∧ Tx (i * 50) t ∧ Chg d H1 H2, ⟨"", none, rfl, ⟨by decide, fun c hc => nomatch hc⟩, Chg.refl c1.2⟩, ?_, ?_, ?_⟩
  · rintro i σ H2 hi ⟨t, k, rfl, ht, ch⟩
    exact SqT.of (ch.1 _ _ nad ha)
  · rintro i x σ H2 hx ⟨t, k, rfl, ht, ch⟩
    obtain ⟨e, he, tx⟩ := ta.get hx
    have hi : i < 48 := by
      have := (List.getElem?_eq_some_iff.mp hx).1
      omega
    rw [List.getElem?_map] at he
    cases hr' : (scan z 0)[i]? with
    | none =>
      rw [hr'] at he
      cases he
    | some r =>
      rw [hr'] at he
      cases he
      obtain ⟨u, y, t2, rfl, hu, ty, tt⟩ := tx.two
      cases tt.str_eq
      have nud : u ≠ d := fun e => by
        obtain ⟨j, g, c, hd⟩ := c1.2
        rw [e] at hu
        exact absurd (hd.symm.trans hu) (fun z => nomatch z)
      refine ⟨ch.2, by decide, by decide, fun r3 H3 hr3 ch3 => ?_⟩
      obtain ⟨m1, m2⟩ := mulOk3 r3 (by omega)
      have tz : Tx 48 (textAt z r.1 r.2.2) := hz.cut _ _
      refine ⟨m1, fits ht m2 (by omega), _, .inr (SqT.of (ch3.1 _ _ nud (ch.1 _ _ nud hu))), .str (textAt z r.1 r.2.2), rfl, fits (ht.app m2) tz (by omega), ?_⟩
      refine ⟨_, some (.ref u), rfl, ((ht.app m2).app tz).mono (by omega), ch.trans ch3⟩
  · rintro σ H2 ⟨t, k, rfl, ht, ch⟩
    exact q t H2 (ht.mono (by omega)) (c1.trans ch)

def sp_law_changed : Sp := fun vs H Q _ => match vs with
  | [.ref d, .str z, .str u] => Deck H d ∧ Tx 48 z ∧ Tx 48 u ∧ ∀ t H', Tx 3000 t → Chg d H H' → Q (.str t) H'
  | _ => False
theorem ok_law_changed {f : Addr} {fd : FuncData} (F : Fun K "_law_changed" "_law_changed" st_law_changed f fd) (T : Top K mg) (Claw_draw : Cal P w K mg base "_law_draw" 1 ["deck", "many"] sp_law_draw)
    (Claw_sign : Cal P w K mg base "_law_sign" 2 ["deck"] sp_law_sign) (Claw_piece : Cal P w K mg base "_law_piece" 3 ["deck"] sp_law_piece) (Claw_laid : Cal P w K mg base "_law_laid" 2 ["deck", "row"] sp_law_laid) :
    FnOk P w K mg base CX0 4 f fd ["deck", "row", "other"] sp_law_changed := by
  refine F.ok sc_law_changed (fun vs H Q E h => ?_) (fun cdv A outer s H vs Q E hr h => ?_)
  · match vs, h with
    | [.ref d, .str z, .str u], _ => rfl
  match vs, h with
  | [.ref d, .str z, .str u], h =>
  obtain ⟨hd, hz, hu, q⟩ := h
  refine ⟨_, (pss_cons (ps_set (i := 3) sc_law_changed.nd rfl (.inl rfl) (pe_cal Claw_draw (hr.mono (by decide)) (by rfl) (pa_cons (mv 0) (pa_cons pe_int pa_nil))))
(pss_cons (ps_set (i := 4) sc_law_changed.nd rfl (.inl rfl) (pe_cal Claw_draw (hr.mono (by decide)) (by rfl) (pa_cons (mv 0) (pa_cons (pe_callB (callMax rfl) (by rfl) T.max (by decide +kernel) (pa_cons pe_int (pa_cons (pe_callB callLen (by rfl) T.len (by decide +kernel) (pa_cons (mv 1) pa_nil)) pa_nil))) pa_nil))))
(pss_cons (mif (mcmp opLt (mv 3) pe_int)
(pss_one (ps_ret (pe_op opAdd (pe_op opAdd (pe_slice slM (mv 1) po_none (pom (mv 4))) (pe_cal Claw_sign (hr.mono (by decide)) (by rfl) (pa_cons (mv 0) pa_nil))) (pe_slice slM (mv 1) (pom (pe_op opAdd (mv 4) pe_int)) po_none))))
pss_nil)
(pss_cons (mif (mcmp opLt (mv 3) pe_int)
(pss_one (ps_ret (pe_op opAdd (pe_op opAdd (pe_op opAdd (pe_slice slM (mv 1) po_none (pom (mv 4))) (pe_slice slM (mv 1) (pom (pe_op opAdd (mv 4) pe_int)) (pom (pe_op opAdd (mv 4) pe_int)))) (pe_slice slM (mv 1) (pom (mv 4)) (pom (pe_op opAdd (mv 4) pe_int)))) (pe_slice slM (mv 1) (pom (pe_op opAdd (mv 4) pe_int)) po_none))))
pss_nil)
(pss_cons (mif (mcmp opEq (mv 3) pe_int)
(pss_one (ps_ret (pe_slice slM (mv 1) po_none (pom (mv 4)))))
pss_nil)
(pss_cons (mif (mcmp opEq (mv 3) pe_int)
(pss_one (ps_ret (pe_slice slM (mv 1) (pom (mv 4)) po_none)))
pss_nil)
(pss_cons (mif (mcmp opEq (mv 3) pe_int)
(pss_one (ps_ret (pe_op opAdd (mv 1) (mv 2))))
pss_nil)
(pss_cons (mif (mcmp opEq (mv 3) pe_int)
(pss_one (ps_ret (pe_op opAdd (pe_op opAdd (mv 1) pe_str) (mv 2))))
pss_nil)
(pss_cons (mif (mcmp opEq (mv 3) pe_int)
(pss_one (ps_ret (pe_op opAdd (pe_op opAdd (pe_slice slM (mv 1) po_none (pom (mv 4))) (pe_slice slM (mv 1) (pom (mv 4)) (pom (pe_op opAdd (mv 4) pe_int)))) (pe_slice slM (mv 1) (pom (mv 4)) po_none))))
pss_nil)
(pss_cons (mif (mcmp opEq (mv 3) pe_int)
(pss_one (ps_ret (pe_op opAdd (pe_slice slM (mv 1) po_none (pom (mv 4))) (pe_slice slM (mv 1) (pom (pe_op opAdd (mv 4) pe_int)) po_none))))
pss_nil)
(pss_cons (mif (mcmp opEq (mv 3) pe_int)
(pss_one (ps_ret (pe_op opAdd (pe_op opAdd (pe_slice slM (mv 1) po_none (pom (mv 4))) pe_str) (pe_slice slM (mv 1) (pom (mv 4)) po_none))))
pss_nil)
(pss_cons (mif (mcmp opEq (mv 3) pe_int)
(pss_one (ps_ret (pe_cal Claw_laid (hr.mono (by decide)) (by rfl) (pa_cons (mv 0) (pa_cons (mv 1) pa_nil)))))
pss_nil)
(pss_one (ps_ret (pe_op opAdd (pe_op opAdd (pe_slice slM (mv 1) po_none (pom (mv 4))) (pe_cal Claw_piece (hr.mono (by decide)) (by rfl) (pa_cons (mv 0) pa_nil))) (pe_slice slM (mv 1) (pom (mv 4)) po_none))))))))))))))))
  , ?_⟩
  have hb := hz.big (by decide)
  refine ⟨hd, by decide, by decide, fun r H1 hr1 c1 => ⟨hb, c1.2, ?_, ?_, fun a H2 ha c2 => ?_⟩⟩
  · show (0 : Int) < (if ((z.length : Nat) : Int) > 1 then ((z.length : Nat) : Int) else 1)
    split <;> omega
  · have := hz.1
    show (if ((z.length : Nat) : Int) > 1 then ((z.length : Nat) : Int) else 1) < 2 ^ 62
    split <;> omega
  have c := c1.trans c2
  have cut : ∀ lo hi, Tx 48 (cutS z lo hi) := fun lo hi => hz.cut lo hi
  have fin : ∀ t H', Tx 3000 t → Chg d H2 H' → Q (.str t) H' := fun t H' ht ch => q t H' ht (c.trans ch)
  have me := Chg.refl c.2
  have bl : Tx 1 (" " : Str) := ⟨by decide +kernel, by decide +kernel⟩
  have hs : Tx 1 ("#" : Str) := ⟨by decide +kernel, by decide +kernel⟩
  refine ⟨fun _ => ?_, fun _ => ⟨fun _ => ?_, fun _ => ⟨fun _ => ?_, fun _ => ⟨fun _ => ?_, fun _ => ⟨fun _ => ?_, fun _ => ⟨fun _ => ?_, fun _ => ⟨fun _ => ?_, fun _ => ⟨fun _ => ?_, fun _ => ⟨fun _ => ?_, fun _ => ⟨fun _ => ?_, fun _ => ?_⟩⟩⟩⟩⟩⟩⟩⟩⟩⟩
  · refine ⟨hb, c2.2, fun t H3 ht c3 => ⟨fits (cut _ _) ht (by decide), hb, fits ((cut _ _).app ht) (cut _ _) (by decide), fin _ _ ((((cut _ _).app ht).app (cut _ _)).mono (by decide)) c3⟩⟩
  · exact ⟨hb, hb, fits (cut _ _) (cut _ _) (by decide), hb, fits ((cut _ _).app (cut _ _)) (cut _ _) (by decide), hb, fits (((cut _ _).app (cut _ _)).app (cut _ _)) (cut _ _) (by decide),
      fin _ _ (((((cut _ _).app (cut _ _)).app (cut _ _)).app (cut _ _)).mono (by decide)) me⟩
  · exact ⟨hb, fin _ _ ((cut _ _).mono (by decide)) me⟩
  · exact ⟨hb, fin _ _ ((cut _ _).mono (by decide)) me⟩
  · exact ⟨fits hz hu (by decide), fin _ _ ((hz.app hu).mono (by decide)) me⟩
  · exact ⟨fits hz bl (by decide), fits (hz.app bl) hu (by decide), fin _ _ (((hz.app bl).app hu).mono (by decide)) me⟩
  · exact ⟨hb, hb, fits (cut _ _) (cut _ _) (by decide), hb, fits ((cut _ _).app (cut _ _)) (cut _ _) (by decide), fin _ _ ((((cut _ _).app (cut _ _)).app (cut _ _)).mono (by decide)) me⟩
  · exact ⟨hb, hb, fits (cut _ _) (cut _ _) (by decide), fin _ _ (((cut _ _).app (cut _ _)).mono (by decide)) me⟩
  · exact ⟨hb, fits (cut _ _) hs (by decide), hb, fits ((cut _ _).app hs) (cut _ _) (by decide), fin _ _ ((((cut _ _).app hs).app (cut _ _)).mono (by decide)) me⟩
  · exact ⟨c2.2, hz, fun t H3 ht c3 => fin _ _ ht c3⟩
  · exact ⟨hb, c2.2, fun t H3 ht c3 => ⟨fits (cut _ _) ht (by decide), hb, fits ((cut _ _).app ht) (cut _ _) (by decide), fin _ _ ((((cut _ _).app ht).app (cut _ _)).mono (by decide)) c3⟩⟩
end
end T3
/-! data that is shown and compared -/
namespace T3
open PySem PySem.Spec PyProof.Rows L2
structure Gd (D B : Nat) (d : PyData) : Prop where
  sh : d.showable = true
  cl : d.canLay0 = true
  dp : d.depth ≤ D
  ln : d.shown.length ≤ B
theorem gd_all {D B : Nat} : ∀ {ds : List PyData}, (∀ d ∈ ds, Gd D B d) → PyData.showableAll ds = true ∧ PyData.canLayAll0 ds = true ∧ PyData.depthAll ds ≤ D ∧
    ((PyData.shownAll ds).map (·.length)).sum ≤ B * ds.length ∧ (PyData.shownAll ds).length = ds.length
  | [], _ => ⟨rfl, rfl, Nat.zero_le _, Nat.zero_le _, rfl⟩
  | d :: ds, h => by
    obtain ⟨a, b, c, e, f⟩ := gd_all (ds := ds) fun x hx => h x (List.mem_cons_of_mem _ hx)
    have g := h d List.mem_cons_self
    refine ⟨?_, ?_, ?_, ?_, ?_⟩
    · simp only [PyData.showableAll, g.sh, a, Bool.and_self]
    · simp only [PyData.canLayAll0, g.cl, b, Bool.and_self]
    · simp only [PyData.depthAll]
      exact Nat.max_le.mpr ⟨g.dp, c⟩
    · simp only [PyData.shownAll, List.map_cons, List.sum_cons, List.length_cons]
      have := g.ln
      rw [Nat.mul_add, Nat.mul_one]
      omega
    · simp only [PyData.shownAll, List.length_cons, f]
theorem gd_tup {D B n C : Nat} {ds : List PyData} (h : ∀ d ∈ ds, Gd D B d) (hn : ds.length ≤ n) (hC : B * n + 2 * n + 3 ≤ C) : Gd (D + 1) C (.tuple ds) := by
  obtain ⟨a, b, c, e, f⟩ := gd_all h
  refine ⟨?_, ?_, ?_, ?_⟩
  · simpa only [PyData.showable] using a
  · simpa only [PyData.canLay0] using b
  · simp only [PyData.depth]
    omega
  · simp only [PyData.shown]
    have h1 := tupleText_len_le (PyData.shownAll ds)
    rw [f] at h1
    have h2 : B * ds.length ≤ B * n := Nat.mul_le_mul_left _ hn
    omega
theorem gd_str {n : Nat} {x : Str} (h1 : x.length ≤ n) (h2 : ∀ c ∈ x.cps.toList, c < 128) : Gd 0 (10 * n + 2) (.str x) := by
  refine ⟨rfl, ?_, Nat.le_refl _, ?_⟩
  · simp only [PyData.canLay0, PyData.strOk]
    rw [← Array.all_toList, List.all_eq_true]
    intro c hc
    exact decide_eq_true (Nat.lt_of_lt_of_le (h2 c hc) (by decide))
  · simp only [PyData.shown]
    have := StrLaws.reprText_len x fun c hc => Nat.lt_of_lt_of_le (h2 c hc) (by decide)
    omega
theorem Gd.repr {D B : Nat} {d : PyData} (g : Gd D B d) (hD : D ≤ 100) (hB : B ≤ 1000000) : d.showable = true ∧ d.hasDict = false ∧ d.depth ≤ 100 ∧ d.shown.length ≤ sizeLine :=
  ⟨g.sh, PyData.hasDict_of_canLay d g.cl, Nat.le_trans g.dp hD, Nat.le_trans (Nat.le_trans g.ln hB) (by decide)⟩
theorem Gd.shaped {D B : Nat} {d : PyData} (g : Gd D B d) (hD : D ≤ 64) : SeqAt.shaped d = true := by
  unfold SeqAt.shaped
  rw [g.cl, decide_eq_true (Nat.le_trans g.dp hD)]
  rfl
theorem Gd.eqv {D B : Nat} {d : PyData} (g : Gd D B d) : PyData.eqv d d = true := SeqAt.eqv_refl d g.cl
end T3
namespace T3
open PySem PySem.Spec PyProof.Rows L2
abbrev st_law_plain : Stmt := topS 22
theorem sc_law_plain : FnScope ["row", "named", "due", "k", "told", "begun"] ["row", "named"] (defScope st_law_plain) := ⟨rfl, rfl, rfl, by decide +kernel, rfl, by decide +kernel, by decide +kernel⟩
theorem sort_tx (t : Str) (c : Nat) : Tx 48 (sortOf t c) := by
  have h : ∀ x : Str, x ∈ (["remark", "word", "name", "Name", "sign", "wrong"] : List Str) → Tx 48 x := by
    have h2 : ∀ x ∈ (["remark", "word", "name", "Name", "sign", "wrong"] : List Str), x.length ≤ 48 ∧ ∀ c ∈ x.cps.toList, c < 128 := by decide +kernel
    exact h2
  unfold sortOf
  apply h
  split
  · simp
  · split
    · split <;> simp
    · split
      · simp
      · split <;> simp
theorem gd_scan {z : Str} (hz : Tx 48 z) : Gd 2 50000 (.tuple ((scan z 0).map (tokD z))) := by
  have few : (scan z 0).length ≤ 48 := Nat.le_trans (scan_few z z.length 0 (by omega)) hz.1
  refine gd_tup (D := 1) (B := 1000) (n := 48) ?_ (by rw [List.length_map]; exact few) (by decide)
  intro d hd
  obtain ⟨r, hr, rfl⟩ := List.mem_map.mp hd
  have t1 : Tx 48 (textAt z r.1 r.2.2) := hz.cut _ _
  have t2 := sort_tx (textAt z r.1 r.2.2) r.2.1
  refine gd_tup (D := 0) (B := 482) (n := 2) ?_ (Nat.le_refl 2) (by decide)
  intro d hd
  rcases List.mem_cons.mp hd with rfl | hd
  · exact gd_str t2.1 t2.2
  · rcases List.mem_cons.mp hd with rfl | hd
    · exact gd_str t1.1 t1.2
    · cases hd
theorem gd_small (i : Nat) (h : i < 48) : Gd 0 3 (.int (i : Int)) := by
  have h2 : ∀ k : Fin 48, decide ((((k.val : Nat) : Int)).natAbs.log2 < 1920) = true ∧ (Str.ofString (toString ((k.val : Nat) : Int))).length ≤ 3 := by decide +kernel
  obtain ⟨a, b⟩ := h2 ⟨i, h⟩
  exact ⟨a, rfl, Nat.le_refl _, b⟩
theorem gd_begs {z : Str} (hz : Tx 48 z) : Gd 1 1000 (.tuple ((scan z 0).map begD)) := by
  have few : (scan z 0).length ≤ 48 := Nat.le_trans (scan_few z z.length 0 (by omega)) hz.1
  refine gd_tup (D := 0) (B := 3) (n := 48) ?_ (by rw [List.length_map]; exact few) (by decide)
  intro d hd
  obtain ⟨r, hr, rfl⟩ := List.mem_map.mp hd
  have := get_lt (scan_ok z z.length 0 (by omega) r hr).1
  exact gd_small r.1 (by have := hz.1; omega)
theorem not_dec {p : Prop} [Decidable p] (h : p) {A : Prop} (e : (!decide p) = true) : A := by
  rw [decide_eq_true h] at e
  cases e
theorem dec_not {p : Prop} [Decidable p] (h : p) {A : Prop} (e : decide p = false) : A := by
  rw [decide_eq_true h] at e
  cases e
section
variable {P : Program} {w : World} {K : PySem.W.Frag} {mg : Str → Option Value} {base : Heap}
def sp_law_plain : Sp := fun vs H Q _ => match vs with
  | [.str z, .bl _] => Tx 48 z ∧ ∀ H', Same H H' → Q (.bl true) H'
  | _ => False
theorem ok_law_plain {f : Addr} {fd : FuncData} (F : Fun K "_law_plain" "_law_plain" st_law_plain f fd) (T : Top K mg) (Claw_scan : Cal P w K mg base "_law_scan" 1 ["row"] sp_law_scan)
    (Ctokens : Cal P w K mg base "tokens" 3 ["line"] sp_tokens) (Cstarts : Cal P w K mg base "starts" 3 ["line"] sp_starts)
    (Ktokens : CalK P w K mg base "tokens" 3 ["line"] sp_tokens) (Kstarts : CalK P w K mg base "starts" 3 ["line"] sp_starts) :
    FnG P w K mg base CX0 4 f fd ["row", "named"] sp_law_plain := by
  refine FunG.ok F sc_law_plain (fun vs H Q E h => ?_) (fun cdv A outer s H vs Q E hG hr h => ?_)
  · match vs, h with
    | [.str z, .bl nb], _ => rfl
  match vs, h with
  | [.str z, .bl nb], h =>
  obtain ⟨hz, q⟩ := h
  refine ⟨_, (pss_cons (ps_set (i := 2) sc_law_plain.nd rfl (.inl rfl) (pe_cal Claw_scan (hr.mono (by decide)) (by rfl) (pa_cons (mv 0) pa_nil)))
(mcut (mif (mval (mv 1))
(pss_cons (ps_set (i := 4) sc_law_plain.nd rfl (.inl rfl) (pe_calK Ktokens (hr.mono (by decide)) (by rfl) (pk_cons (mv 0) pk_nil)))
(pss_one (ps_set (i := 5) sc_law_plain.nd rfl (.inl rfl) (pe_calK Kstarts (hr.mono (by decide)) (by rfl) (pk_cons (mv 0) pk_nil)))))
(pss_cons (ps_set (i := 4) sc_law_plain.nd rfl (.inl rfl) (pe_cal Ctokens (hr.mono (by decide)) (by rfl) (pa_cons (mv 0) pa_nil)))
(pss_one (ps_set (i := 5) sc_law_plain.nd rfl (.inl rfl) (pe_cal Cstarts (hr.mono (by decide)) (by rfl) (pa_cons (mv 0) pa_nil))))))
(pss_cons (mif (PW.pt (mor (pt_not (mval (pe_callB callIsi (by rfl) T.isinstance (by decide +kernel) (pa_cons (mv 4) (pa_cons (pe_bltn (by rfl) T.tuple (by decide +kernel) (v := .ty "tuple") rfl) pa_nil))))) (pw_or1 (pt_not (mval (pe_callB callIsi (by rfl) T.isinstance (by decide +kernel) (pa_cons (mv 5) (pa_cons (pe_bltn (by rfl) T.tuple (by decide +kernel) (v := .ty "tuple") rfl) pa_nil))))))))
(pss_one (ps_ret pe_bl))
pss_nil)
(pss_cons (mif (PW.pt (mor (mcmp opNe (pe_callB callLen (by rfl) T.len (by decide +kernel) (pa_cons (mv 4) pa_nil)) (pe_callB callLen (by rfl) T.len (by decide +kernel) (pa_cons (pe_ix ixM (mv 2) pe_int (fun _ _ => rfl)) pa_nil))) (pw_or1 (mcmp opNe (pe_callB callLen (by rfl) T.len (by decide +kernel) (pa_cons (mv 5) pa_nil)) (pe_callB callLen (by rfl) T.len (by decide +kernel) (pa_cons (pe_ix ixM (mv 2) pe_int (fun _ _ => rfl)) pa_nil))))))
(pss_one (ps_ret pe_bl))
pss_nil)
(pss_cons (mforR PassesOwn.never rfl (by rfl) T.range (pe_callB callLen (by rfl) T.len (by decide +kernel) (pa_cons (pe_ix ixM (mv 2) pe_int (fun _ _ => rfl)) pa_nil)) (pg_name (i := 3) sc_law_plain.nd rfl (.inl rfl))
(pss_cons (mif (PW.pt (mor (pt_not (mval (pe_callB callIsi (by rfl) T.isinstance (by decide +kernel) (pa_cons (pe_ix ixM (mv 4) (mv 3) (fun _ _ => rfl)) (pa_cons (pe_bltn (by rfl) T.tuple (by decide +kernel) (v := .ty "tuple") rfl) pa_nil))))) (pw_or1 (mcmp opNe (pe_callB callLen (by rfl) T.len (by decide +kernel) (pa_cons (pe_ix ixM (mv 4) (mv 3) (fun _ _ => rfl)) pa_nil)) pe_int))))
(pss_one (ps_ret pe_bl))
pss_nil)
(pss_cons (mif (PW.pt (mor (pt_not (mval (pe_callB callIsi (by rfl) T.isinstance (by decide +kernel) (pa_cons (pe_ix ixM (pe_ix ixM (mv 4) (mv 3) (fun _ _ => rfl)) pe_int (fun _ _ => rfl)) (pa_cons (pe_bltn (by rfl) T.str (by decide +kernel) (v := .ty "str") rfl) pa_nil))))) (pw_or1 (pt_not (mval (pe_callB callIsi (by rfl) T.isinstance (by decide +kernel) (pa_cons (pe_ix ixM (pe_ix ixM (mv 4) (mv 3) (fun _ _ => rfl)) pe_int (fun _ _ => rfl)) (pa_cons (pe_bltn (by rfl) T.str (by decide +kernel) (v := .ty "str") rfl) pa_nil))))))))
(pss_one (ps_ret pe_bl))
pss_nil)
(pss_one (mif (PW.pt (mor (pt_not (mval (pe_callB callIsi (by rfl) T.isinstance (by decide +kernel) (pa_cons (pe_ix ixM (mv 5) (mv 3) (fun _ _ => rfl)) (pa_cons (pe_bltn (by rfl) T.int (by decide +kernel) (v := .ty "int") rfl) pa_nil))))) (pw_or1 (mval (pe_callB callIsi (by rfl) T.isinstance (by decide +kernel) (pa_cons (pe_ix ixM (mv 5) (mv 3) (fun _ _ => rfl)) (pa_cons (pe_bltn (by rfl) T.bool (by decide +kernel) (v := .ty "bool") rfl) pa_nil)))))))
(pss_one (ps_ret pe_bl))
pss_nil)))))
(pss_one (ps_ret (mandV (mcmpE opEq (pe_callB (call_reprD hG hr) (by rfl) T.repr (by decide +kernel) (pa_cons (mv 4) pa_nil)) (pe_callB (call_reprD hG hr) (by rfl) T.repr (by decide +kernel) (pa_cons (pe_ix ixM (mv 2) pe_int (fun _ _ => rfl)) pa_nil))) (mandV (mcmpE opEq (pe_callB (call_reprD hG hr) (by rfl) T.repr (by decide +kernel) (pa_cons (mv 5) pa_nil)) (pe_callB (call_reprD hG hr) (by rfl) T.repr (by decide +kernel) (pa_cons (pe_ix ixM (mv 2) pe_int (fun _ _ => rfl)) pa_nil))) (mandV (mcmpE (op_eqD hr.units) (mv 4) (pe_ix ixM (mv 2) pe_int (fun _ _ => rfl))) (pe_one (mcmpE (op_eqD hr.units) (mv 5) (pe_ix ixM (mv 2) pe_int (fun _ _ => rfl))))))))))))))
  , ?_⟩
  refine ⟨48, hz, by decide, fun p H1 a b xs ys sm hp ha ta hb tb => ?_⟩
  refine ⟨fun σ H2 => ∃ t u us vs, σ = [some (.str z), some (.bl nb), some (.ref p), none, some (.ref t), some (.ref u)] ∧ Same H1 H2 ∧ H2 t = some (.tup us) ∧ TpAll H2 us ((scan z 0).map (tokD z)) ∧
    H2 u = some (.tup vs) ∧ TpAll H2 vs ((scan z 0).map begD), ⟨fun _ => ?_, fun _ => ?_⟩, ?_⟩
  · exact ⟨48, hz, by decide, fun t H2 us sm2 ht tt => ⟨48, hz, by decide, fun u H3 vs sm3 hu tu => ⟨t, u, us, vs, rfl, sm2.trans sm3, sm3 _ _ ht, tt.keep (Ktp.same sm3), hu, tu⟩⟩⟩
  · exact ⟨48, hz, by decide, fun t H2 us sm2 ht tt => ⟨48, hz, by decide, fun u H3 vs sm3 hu tu => ⟨t, u, us, vs, rfl, sm2.trans sm3, sm3 _ _ ht, tt.keep (Ktp.same sm3), hu, tu⟩⟩⟩
  rintro σ H2 ⟨t, u, us, vs, rfl, sm2, ht, tt, hu, tu⟩
  have hp := sm2 _ _ hp
  have ha := sm2 _ _ ha
  have hb := sm2 _ _ hb
  have ta := ta.keep (Ktp.same sm2)
  have tb := tb.keep (Ktp.same sm2)
  have sm := sm.trans sm2
  have l1 : us.length = xs.length := tt.length.trans ta.length.symm
  have l2 : vs.length = ys.length := tu.length.trans tb.length.symm
  have l3 : xs.length = (scan z 0).length := by
    have := ta.length
    rw [List.length_map] at this
    exact this
  have few : (scan z 0).length ≤ 48 := Nat.le_trans (scan_few z z.length 0 (by omega)) hz.1
  -- the two tuples
  refine .inl ⟨⟨us, ht⟩, true, by decide +kernel, fun h => (nomatch h), fun _ => .inl ⟨⟨vs, hu⟩, true, by decide +kernel, fun h => (nomatch h), fun _ => ?_⟩⟩
  refine ⟨us, .inr (SqT.of ht), _, .inl (SqL.of hp), .ref a, rfl, xs, .inr (SqT.of ha), fun h => not_dec (by rw [l1]) h, fun _ => ⟨vs, .inr (SqT.of hu), _, .inl (SqL.of hp), .ref b, rfl, ys, .inr (SqT.of hb), fun h => not_dec (by rw [l2]) h, fun _ => ?_⟩⟩
  -- the loop
  refine ⟨_, .inl (SqL.of hp), .ref a, rfl, xs, .inr (SqT.of ha), ⟨by omega, by omega⟩, fun i σ H3 => ∃ k, σ = [some (.str z), some (.bl nb), some (.ref p), k, some (.ref t), some (.ref u)] ∧ H3 = H2, ⟨none, rfl, rfl⟩, ?_, ?_⟩
  · rintro i σ H3 hi ⟨k, rfl, rfl⟩
    have hi' : i < (scan z 0).length := by omega
    obtain ⟨v, hv, tv⟩ := tt.getD (i := i) (e := tokD z (scan z 0)[i]) (by rw [List.getElem?_map, List.getElem?_eq_getElem hi']; rfl)
    obtain ⟨e, x, y, rfl, he, tx, ty⟩ := tv.two
    cases tx.str_eq
    cases ty.str_eq
    obtain ⟨v2, hv2, tv2⟩ := tu.getD (i := i) (e := begD (scan z 0)[i]) (by rw [List.getElem?_map, List.getElem?_eq_getElem hi']; rfl)
    cases tv2.int_eq
    refine ⟨us, .inr (SqT.of ht), _, atI_nat hv, .inl ⟨⟨_, he⟩, true, by decide +kernel, fun h => (nomatch h), fun _ => ⟨us, .inr (SqT.of ht), _, atI_nat hv, _, .inr (SqT.of he), fun h => not_dec (by rfl) h, fun _ => ?_⟩⟩⟩
    refine ⟨us, .inr (SqT.of ht), _, atI_nat hv, _, .inr (SqT.of he), _, rfl, true, by decide +kernel, fun h => (nomatch h), fun _ => ⟨us, .inr (SqT.of ht), _, atI_nat hv, _, .inr (SqT.of he), _, rfl, true, by decide +kernel, fun h => (nomatch h), fun _ => ?_⟩⟩
    exact ⟨vs, .inr (SqT.of hu), _, atI_nat hv2, true, by decide +kernel, fun h => (nomatch h), fun _ => ⟨vs, .inr (SqT.of hu), _, atI_nat hv2, false, by decide +kernel, fun h => (nomatch h), fun _ => ⟨_, rfl, rfl⟩⟩⟩
  · rintro σ H3 ⟨k, rfl, rfl⟩
    have g1 := gd_scan hz
    have g2 := gd_begs hz
    obtain ⟨r1, r2, r3, r4⟩ := g1.repr (by decide) (by decide)
    obtain ⟨r5, r6, r7, r8⟩ := g2.repr (by decide) (by decide)
    refine ⟨t, _, rfl, (Tp.tup ht tt).dp, r1, r2, r3, r4, _, .inl (SqL.of hp), .ref a, rfl, a, _, rfl, (Tp.tup ha ta).dp, r1, r2, r3, r4, fun _ => ?_, fun h => dec_not rfl h⟩
    refine ⟨u, _, rfl, (Tp.tup hu tu).dp, r5, r6, r7, r8, _, .inl (SqL.of hp), .ref b, rfl, b, _, rfl, (Tp.tup hb tb).dp, r5, r6, r7, r8, fun _ => ?_, fun h => dec_not rfl h⟩
    refine ⟨_, .inl (SqL.of hp), .ref a, rfl, _, _, (Tp.tup ht tt).dp, (Tp.tup ha ta).dp, g1.shaped (by decide), g1.shaped (by decide), fun _ => ?_, fun h => ?_⟩
    · refine ⟨_, .inl (SqL.of hp), .ref b, rfl, _, _, (Tp.tup hu tu).dp, (Tp.tup hb tb).dp, g2.shaped (by decide), g2.shaped (by decide), ?_⟩
      rw [g2.eqv]
      exact q _ sm
    · rw [g1.eqv] at h
      cases h
end
end T3
namespace T3
open PySem PySem.Spec PyProof.Rows L2
abbrev st_law : Stmt := topS 23
theorem sc_law : FnScope ["script", "deck", "row", "k", "made", "base", "other"] ["script"] (defScope st_law) := ⟨rfl, rfl, rfl, by decide +kernel, rfl, by decide +kernel, by decide +kernel⟩
section
variable {P : Program} {w : World} {K : PySem.W.Frag} {mg : Str → Option Value} {base : Heap}
theorem last_at {xs : List V} {v : V} (h : xs[xs.length - 1]? = some v) (h0 : 0 < xs.length) : atI xs (-1) = some v := by
  have e : xs = xs.dropLast ++ [v] := by
    have h2 : xs.getLast? = some v := by
      rw [List.getLast?_eq_getElem?]
      exact h
    obtain ⟨ys, rfl⟩ := List.getLast?_eq_some_iff.mp h2
    simp
  rw [e]
  exact atI_last _ _
theorem tx_get {ts : List Str} (h : ∀ t ∈ ts, Tx 48 t) {r : Nat} (hr : r < ts.length) : ∃ t, (ts.map V.str)[r]? = some (.str t) ∧ Tx 48 t := by
  refine ⟨ts[r], ?_, h _ (List.getElem_mem hr)⟩
  rw [List.getElem?_map, List.getElem?_eq_getElem hr]
  rfl
def sp_law (K : PySem.W.Frag) : Sp := fun vs H Q _ => match vs with
  | [.ref a] => ∃ ns : List Int, SqL K H a (ns.map V.int) ∧ ns.length ≤ 63 ∧ ∀ H', Q (.bl true) H'
  | _ => False
theorem ok_law {f : Addr} {fd : FuncData} (F : Fun K "law" "law" st_law f fd) (T : Top K mg) (Claw_deck : Cal P w K mg base "_law_deck" 1 ["script"] (sp_law_deck K)) (Claw_draw : Cal P w K mg base "_law_draw" 1 ["deck", "many"] sp_law_draw)
    (Claw_piece : Cal P w K mg base "_law_piece" 3 ["deck"] sp_law_piece) (Claw_changed : Cal P w K mg base "_law_changed" 4 ["deck", "row", "other"] sp_law_changed)
    (Claw_plain : CalG P w K mg base "_law_plain" 4 ["row", "named"] sp_law_plain) : FnG P w K mg base CX0 5 f fd ["script"] (sp_law K) := by
  refine FunG.ok F sc_law (fun vs H Q E h => ?_) (fun cdv A outer s H vs Q E hG hr h => ?_)
  · match vs, h with
    | [.ref a], _ => rfl
  match vs, h with
  | [.ref a], h =>
  obtain ⟨ns, hS, hlen, q⟩ := h
  refine ⟨_, (pss_cons (ps_set (i := 1) sc_law.nd rfl (.inl rfl) (pe_cal Claw_deck (hr.mono (by decide)) (by rfl) (pa_cons (mv 0) pa_nil)))
(pss_cons (ps_set (i := 2) sc_law.nd rfl (.inl rfl) (pe_cal Claw_piece (hr.mono (by decide)) (by rfl) (pa_cons (mv 1) pa_nil)))
(pss_cons (mforR PassesOwn.never rfl (by rfl) T.range (pe_cal Claw_draw (hr.mono (by decide)) (by rfl) (pa_cons (mv 1) (pa_cons pe_int pa_nil))) (pg_name (i := 3) sc_law.nd rfl (.inl rfl))
(pss_one (ps_set (i := 2) sc_law.nd rfl (.inl rfl) (pe_op opAdd (pe_op opAdd (mv 2) (pe_op opMul pe_str (pe_cal Claw_draw (hr.mono (by decide)) (by rfl) (pa_cons (mv 1) (pa_cons pe_int pa_nil))))) (pe_cal Claw_piece (hr.mono (by decide)) (by rfl) (pa_cons (mv 1) pa_nil))))))
(pss_cons (ps_set (i := 4) sc_law.nd rfl (.inl rfl) (pe_lst (pa_cons (pe_slice slM (mv 2) po_none (pom pe_int)) pa_nil)))
(pss_cons (mif (pt_not (mval (pe_calG Claw_plain hG (hr.mono (by decide)) (by rfl) (pa_cons (pe_ix ixM (mv 4) pe_int (fun _ _ => rfl)) (pa_cons pe_bl pa_nil)))))
(pss_one (ps_ret pe_bl))
pss_nil)
(pss_cons (mforR PassesOwn.never rfl (by rfl) T.range pe_int (pg_name (i := 3) sc_law.nd rfl (.inl rfl))
(pss_cons (ps_set (i := 5) sc_law.nd rfl (.inl rfl) (pe_ix ixM (mv 4) (pe_un unNeg pe_int) (fun _ _ => rfl)))
(mcut (mif (mcmp opEq (pe_cal Claw_draw (hr.mono (by decide)) (by rfl) (pa_cons (mv 1) (pa_cons pe_int pa_nil))) pe_int)
(pss_one (ps_set (i := 5) sc_law.nd rfl (.inl rfl) (pe_ix ixM (mv 4) (pe_cal Claw_draw (hr.mono (by decide)) (by rfl) (pa_cons (mv 1) (pa_cons (pe_callB callLen (by rfl) T.len (by decide +kernel) (pa_cons (mv 4) pa_nil)) pa_nil))) (fun _ _ => rfl))))
pss_nil)
(pss_cons (ps_set (i := 6) sc_law.nd rfl (.inl rfl) (pe_ix ixM (mv 4) (pe_cal Claw_draw (hr.mono (by decide)) (by rfl) (pa_cons (mv 1) (pa_cons (pe_callB callLen (by rfl) T.len (by decide +kernel) (pa_cons (mv 4) pa_nil)) pa_nil))) (fun _ _ => rfl)))
(pss_cons (mapp (mv 4) (pe_slice slM (pe_cal Claw_changed (hr.mono (by decide)) (by rfl) (pa_cons (mv 1) (pa_cons (mv 5) (pa_cons (mv 6) pa_nil)))) po_none (pom pe_int)))
(pss_cons (mif (pt_not (mval (pe_calG Claw_plain hG (hr.mono (by decide)) (by rfl) (pa_cons (pe_ix ixM (mv 4) (pe_un unNeg pe_int) (fun _ _ => rfl)) (pa_cons pe_bl pa_nil)))))
(pss_one (ps_ret pe_bl))
pss_nil)
(pss_one (mif (pt_not (mval (pe_calG Claw_plain hG (hr.mono (by decide)) (by rfl) (pa_cons (pe_ix ixM (mv 4) (pe_cal Claw_draw (hr.mono (by decide)) (by rfl) (pa_cons (mv 1) (pa_cons (pe_callB callLen (by rfl) T.len (by decide +kernel) (pa_cons (mv 4) pa_nil)) pa_nil))) (fun _ _ => rfl)) (pa_cons pe_bl pa_nil)))))
(pss_one (ps_ret pe_bl))
pss_nil))))))))
(pss_one (ps_ret pe_bl))))))))
  , ?_⟩
  refine ⟨ns, hS, hlen, fun d H1 sm nd hd => ?_⟩
  refine ⟨hd, fun t0 H2 ht0 c2 => ?_⟩
  refine ⟨c2.2, by decide, by decide, fun r H3 hr3 c3 => ⟨⟨by omega, by omega⟩, ?_⟩⟩
  refine ⟨fun i σ H' => ∃ t k, σ = [some (.ref a), some (.ref d), some (.str t), k, none, none, none] ∧ Tx (20 + i * 30) t ∧ Deck H' d, ⟨t0, none, rfl, ht0.mono (by omega), c3.2⟩, ?_, ?_⟩
  · rintro i σ H' hi ⟨t, k, rfl, ht, dk⟩
    have hi8 : i < 8 := by omega
    refine ⟨dk, by decide, by decide, fun r4 H4 hr4 c4 => ?_⟩
    obtain ⟨m1, m2⟩ := mulOk3 r4 (by omega)
    refine ⟨m1, fits ht m2 (by omega), c4.2, fun u H5 hu c5 => ⟨fits (ht.app m2) hu (by omega), _, some (.int (i : Int)), rfl, ((ht.app m2).app hu).mono (by omega), c5.2⟩⟩
  rintro σ H' ⟨t, k, rfl, ht, dk⟩
  have hr8 : r < 8 := by omega
  have hb : t.length ≤ sizeLine := ht.big (by omega)
  refine ⟨hb, by show 1 ≤ sizeLine; decide, fun m hm => ?_⟩
  have t48 : Tx 48 (cutS t none (some 48)) := ht.head
  have nmd : m ≠ d := fun e => by
    obtain ⟨j, g, c, hd⟩ := dk
    rw [e] at hm
    exact absurd (hd.symm.trans hm) (fun z => nomatch z)
  have k1 : Chg d H' (upd H' m (.lst [.str (cutS t none (some 48))])) := (Chg.refl dk).new hm
  have hm1 : (upd H' m (.lst [.str (cutS t none (some 48))])) m = some (.lst [.str (cutS t none (some 48))]) := upd_same
  refine ⟨_, .inl (SqL.of hm1), .str (cutS t none (some 48)), rfl, t48, fun H4 sm4 => ⟨fun h => (nomatch h), fun _ => ?_⟩⟩
  -- twelve lines
  refine ⟨⟨by decide, by decide⟩, fun i σ H5 => ∃ (ts : List Str) (k b o : Option V), σ = [some (.ref a), some (.ref d), some (.str t), k, some (.ref m), b, o] ∧ (∀ x ∈ ts, Tx 48 x) ∧ 0 < ts.length ∧ ts.length ≤ i + 1 ∧
      H5 m = some (.lst (ts.map V.str)) ∧ Deck H5 d, ⟨[cutS t none (some 48)], k, none, none, rfl, ?_, Nat.one_pos, Nat.le_refl _, sm4 _ _ hm1, (k1.same sm4).2⟩, ?_, ?_⟩
  · intro x hx
    rcases List.mem_cons.mp hx with rfl | hx
    · exact t48
    · cases hx
  · rintro i σ H5 hi ⟨ts, k, b, o, rfl, hts, h0, hl, hM, dk5⟩
    have hi12 : i < 12 := hi
    obtain ⟨x1, e1, tx1⟩ := tx_get hts (r := ts.length - 1) (by omega)
    refine ⟨_, .inl (SqL.of hM), _, last_at (by rw [List.length_map]; exact e1) (by rw [List.length_map]; exact h0), ?_⟩
    refine ⟨fun σ H6 => ∃ x, σ = [some (.ref a), some (.ref d), some (.str t), some (.int (i : Int)), some (.ref m), some (.str x), o] ∧ Tx 48 x ∧ Chg d H5 H6, ?_, ?_⟩
    · refine ⟨dk5, by decide, by decide, fun r6 H6 hr6 c6 => ⟨fun _ => ?_, fun _ => ⟨x1, rfl, tx1, c6⟩⟩⟩
      have hM6 := c6.1 _ _ nmd hM
      refine ⟨_, .inl (SqL.of hM6), c6.2, ?_, ?_, fun r7 H7 hr7 c7 => ?_⟩
      · rw [List.length_map]
        omega
      · rw [List.length_map]
        omega
      · rw [List.length_map] at hr7
        obtain ⟨x2, e2, tx2⟩ := tx_get hts (r := r7) (by omega)
        exact ⟨_, .inl (SqL.of (c7.1 _ _ nmd hM6)), _, atI_nat e2, x2, rfl, tx2, c6.trans c7⟩
    · rintro σ H6 ⟨x, rfl, tx, c6⟩
      have hM6 := c6.1 _ _ nmd hM
      refine ⟨_, .inl (SqL.of hM6), c6.2, ?_, ?_, fun r7 H7 hr7 c7 => ?_⟩
      · rw [List.length_map]
        omega
      · rw [List.length_map]
        omega
      rw [List.length_map] at hr7
      obtain ⟨x2, e2, tx2⟩ := tx_get hts (r := r7) (by omega)
      have hM7 := c7.1 _ _ nmd hM6
      refine ⟨_, .inl (SqL.of hM7), _, atI_nat e2, ⟨_, hM7⟩, c7.2, tx, tx2, fun y H8 ty c8 => ⟨ty.big (by decide), _, c8.1 _ _ nmd hM7, ?_, ?_⟩⟩
      · rw [List.length_map]
        exact small (by omega)
      have ty48 : Tx 48 (cutS y none (some 48)) := ty.head
      have hM9 : (upd H8 m (.lst (ts.map V.str ++ [.str (cutS y none (some 48))]))) m = some (.lst ((ts ++ [cutS y none (some 48)]).map V.str)) := by
        rw [upd_same, List.map_append]
        rfl
      have dk9 : Deck (upd H8 m (.lst (ts.map V.str ++ [.str (cutS y none (some 48))]))) d := by
        obtain ⟨j, g, c, hd⟩ := c8.2
        refine ⟨j, g, c, ?_⟩
        rw [upd_ne nmd.symm]
        exact hd
      have hts9 : ∀ z ∈ ts ++ [cutS y none (some 48)], Tx 48 z := fun z hz => by
        rcases List.mem_append.mp hz with hz | hz
        · exact hts z hz
        · rw [List.mem_singleton.mp hz]
          exact ty48
      have hl9 : (ts ++ [cutS y none (some 48)]).length = ts.length + 1 := by simp
      show tSeq _ _ _ _ (upd H8 m (.lst (ts.map V.str ++ [.str (cutS y none (some 48))])))
      generalize upd H8 m (.lst (ts.map V.str ++ [.str (cutS y none (some 48))])) = H9 at hM9 dk9
      generalize ts ++ [cutS y none (some 48)] = us at hM9 hts9 hl9
      obtain ⟨x3, e3, tx3⟩ := tx_get hts9 (r := us.length - 1) (by omega)
      refine ⟨_, .inl (SqL.of hM9), .str x3, last_at (by rw [List.length_map]; exact e3) (by rw [List.length_map]; omega), tx3, fun H10 sm10 => ⟨fun h => (nomatch h), fun _ => ?_⟩⟩
      have hM10 := sm10 _ _ hM9
      have dk10 : Deck H10 d := ((Chg.refl dk9).same sm10).2
      refine ⟨_, .inl (SqL.of hM10), dk10, ?_, ?_, fun r11 H11 hr11 c11 => ?_⟩
      · rw [List.length_map]
        omega
      · rw [List.length_map]
        omega
      rw [List.length_map] at hr11
      obtain ⟨x4, e4, tx4⟩ := tx_get hts9 (r := r11) (by omega)
      have hM11 := c11.1 _ _ nmd hM10
      refine ⟨_, .inl (SqL.of hM11), .str x4, atI_nat e4, tx4, fun H12 sm12 => ⟨fun h => (nomatch h), fun _ => ?_⟩⟩
      exact ⟨us, _, _, _, rfl, hts9, by omega, by omega, sm12 _ _ hM11, ((Chg.refl c11.2).same sm12).2⟩
  · rintro σ H5 ⟨ts, k, b, o, rfl, hts, h0, hl, hM, dk5⟩
    exact q H5
end
end T3
namespace T3
open PySem PySem.Spec PyProof.Rows L2
/-- a def of the text as it stands behind the top -/
def Df (K : PySem.W.Frag) (x : Str) (st : Stmt) : Prop := ∃ (f : Addr) (oc : Value) (od : Option Addr) (kV doc pm : Value) (an : Option Addr) (cdv ct : Value) (sl : Array (Option Value)),
  PySem.W.nsIn K mainGlobals x = some (some (.ref f)) ∧ K.lookup f = some ⟨oc, od, .func (PySem.W.fnOf x x (defArgs st) (defBody st) (defScope st) .none kV doc pm an cdv ct), sl⟩ ∧
  PySem.W.codeIn K cdv x = true ∧ PySem.W.keepIn K (.ref f) = true
theorem Df.fun {K : PySem.W.Frag} {h : Heap} {mg : Str → Option Value} {x : Str} {st : Stmt} (d : Df K x st) (X : K.In h) (G : h.Ns mainGlobals mg) :
    ∃ (f : Addr) (fd : FuncData), mg x = some (.ref f) ∧ Fun K x x st f fd := by
  obtain ⟨f, oc, od, kV, doc, pm, an, cdv, ct, sl, a, l, c, k⟩ := d
  exact ⟨f, _, PySem.W.mg_of X G a, fun_mk (st := st) l c k⟩
theorem Df.mk {K : PySem.W.Frag} {x : Str} {st : Stmt} {f : Addr} {oc : Value} {od : Option Addr} {kV doc pm : Value} {an : Option Addr} {cdv ct : Value} {sl : Array (Option Value)} (a : PySem.W.nsIn K mainGlobals x = some (some (.ref f)))
    (l : K.lookup f = some ⟨oc, od, .func (PySem.W.fnOf x x (defArgs st) (defBody st) (defScope st) .none kV doc pm an cdv ct), sl⟩) (c : PySem.W.codeIn K cdv x = true) (k : PySem.W.keepIn K (.ref f) = true) : Df K x st :=
  ⟨f, oc, od, kV, doc, pm, an, cdv, ct, sl, a, l, c, k⟩
/-- how the parameters of a def without defaults are bound -/
def Bnd (x : Str) (st : Stmt) (ps : List Str) : Prop := ∀ (kV doc pm : Value) (an : Option Addr) (cdv ct : Value) (us : List Value), us.length = ps.length →
  bindArgs (PySem.W.fnOf x x (defArgs st) (defBody st) (defScope st) .none kV doc pm an cdv ct) ⟨us, []⟩ = pure (ps.zip us)
theorem cal_of {P : Program} {w : World} {K : PySem.W.Frag} {h : Heap} {mg : Str → Option Value} {base : Heap} {x : Str} {st : Stmt} {k : Nat} {ps : List Str} {sp : Sp} (d : Df K x st) (X : K.In h) (G : h.Ns mainGlobals mg) (b : Bnd x st ps)
    (F : ∀ f fd, Fun K x x st f fd → FnOk P w K mg base CX0 k f fd ps sp) : Cal P w K mg base x k ps sp := by
  obtain ⟨f, fd, g, F1⟩ := d.fun X G
  exact ⟨f, fd, F f fd F1, g, F1.kp, F1.binds b⟩
theorem calG_of {P : Program} {w : World} {K : PySem.W.Frag} {h : Heap} {mg : Str → Option Value} {base : Heap} {x : Str} {st : Stmt} {k : Nat} {ps : List Str} {sp : Sp} (d : Df K x st) (X : K.In h) (G : h.Ns mainGlobals mg) (b : Bnd x st ps)
    (F : ∀ f fd, Fun K x x st f fd → FnG P w K mg base CX0 k f fd ps sp) : CalG P w K mg base x k ps sp := by
  obtain ⟨f, fd, g, F1⟩ := d.fun X G
  exact ⟨f, fd, F f fd F1, g, F1.kp, F1.binds b⟩
theorem calK_of {P : Program} {w : World} {K : PySem.W.Frag} {h : Heap} {mg : Str → Option Value} {base : Heap} {x y : Str} {st : Stmt} {k : Nat} {sp : Sp} (d : Df K x st) (X : K.In h) (G : h.Ns mainGlobals mg)
    (h1 : ∀ (kV doc pm : Value) (an : Option Addr) (cdv ct u : Value), bindArgs (PySem.W.fnOf x x (defArgs st) (defBody st) (defScope st) .none kV doc pm an cdv ct) ⟨[u], []⟩ = pure [(y, u)])
    (h2 : ∀ (kV doc pm : Value) (an : Option Addr) (cdv ct u : Value), bindArgs (PySem.W.fnOf x x (defArgs st) (defBody st) (defScope st) .none kV doc pm an cdv ct) ⟨[], [(y, u)]⟩ = pure [(y, u)])
    (F : ∀ f fd, Fun K x x st f fd → FnOk P w K mg base CX0 k f fd [y] sp) : CalK P w K mg base x k [y] sp := by
  obtain ⟨f, fd, g, F1⟩ := d.fun X G
  exact ⟨f, fd, F f fd F1, g, F1.kp, kbinds1 F1 h1 h2⟩
/-- a tuple of texts that the top has written -/
def Tc (K : PySem.W.Frag) (x : Str) (xs : List V) : Prop := ∃ (p : Addr) (o : Obj) (its : Array Value) (n : Nat), PySem.W.nsIn K mainGlobals x = some (some (.ref p)) ∧ K.lookup p = some o ∧ o.cls = .type "tuple" ∧
  o.data = .seq its n ∧ its.size ≤ sizeLine ∧ Vals xs its.toList
theorem Tc.mk {K : PySem.W.Frag} {x : Str} {xs : List V} {p : Addr} {oc : Value} {od : Option Addr} {its : Array Value} {n : Nat} {sl : Array (Option Value)} (a : PySem.W.nsIn K mainGlobals x = some (some (.ref p)))
    (l : K.lookup p = some ⟨oc, od, .seq its n, sl⟩) (c : oc = .type "tuple") (z : its.size ≤ sizeLine) (v : Vals xs its.toList) : Tc K x xs := ⟨p, _, its, n, a, l, c, rfl, z, v⟩
theorem Tc.gt {K : PySem.W.Frag} {h : Heap} {mg : Str → Option Value} {x : Str} {xs : List V} (c : Tc K x xs) (X : K.In h) (G : h.Ns mainGlobals mg) : GT K mg x xs := by
  obtain ⟨p, o, its, n, a, l, r⟩ := c
  exact ⟨p, PySem.W.mg_of X G a, fun H => .inr ⟨o, its, n, l, r⟩⟩
def Sc (K : PySem.W.Frag) (x z : Str) : Prop := ∃ t, PySem.W.nsIn K mainGlobals x = some (some (.str z t))
theorem Sc.mk {K : PySem.W.Frag} {x z : Str} {t : Tok} (a : PySem.W.nsIn K mainGlobals x = some (some (.str z t))) : Sc K x z := ⟨t, a⟩
theorem Sc.gs {K : PySem.W.Frag} {h : Heap} {mg : Str → Option Value} {x z : Str} (c : Sc K x z) (X : K.In h) (G : h.Ns mainGlobals mg) : GS mg x z := by
  obtain ⟨t, a⟩ := c
  exact ⟨t, PySem.W.mg_of X G a⟩
theorem vals_strs : ∀ {xs : List Str} {us : List Value}, (us.map fun u => match u with | .str x _ => some x | _ => none) = xs.map some → Vals (xs.map V.str) us
  | [], [], _ => .nil
  | [], _ :: _, h => absurd h (by simp)
  | _ :: _, [], h => absurd h (by simp)
  | x :: xs, u :: us, h => by
    rw [List.map_cons, List.map_cons] at h
    have h1 := (List.cons.inj h).1
    have h2 := (List.cons.inj h).2
    refine .cons ?_ (vals_strs h2)
    cases u <;> first
      | (cases (Option.some.inj h1); exact ⟨_, rfl⟩)
      | exact absurd h1 (fun z => nomatch z)
/-- built-ins whose names the text leaves -/
def Free (K : PySem.W.Frag) (xs : List Str) : Prop := ∀ x ∈ xs, PySem.W.nsIn K mainGlobals x = some none

structure Left (K : PySem.W.Frag) : Prop where
  end_of : Df K "end_of" st_end_of
  sort_of : Df K "sort_of" st_sort_of
  scanned : Df K "scanned" st_scanned
  tokens : Df K "tokens" st_tokens
  starts : Df K "starts" st_starts
  deck : Df K "_law_deck" st_law_deck
  draw : Df K "_law_draw" st_law_draw
  sign : Df K "_law_sign" st_law_sign
  body : Df K "_law_body" st_law_body
  piece : Df K "_law_piece" st_law_piece
  scan : Df K "_law_scan" st_law_scan
  laid : Df K "_law_laid" st_law_laid
  changed : Df K "_law_changed" st_law_changed
  plain : Df K "_law_plain" st_law_plain
  law : Df K "law" st_law
  len : PySem.W.nsIn K mainGlobals "len" = some none
  int : PySem.W.nsIn K mainGlobals "int" = some none
  min : PySem.W.nsIn K mainGlobals "min" = some none
  max : PySem.W.nsIn K mainGlobals "max" = some none
  str : PySem.W.nsIn K mainGlobals "str" = some none
  bool : PySem.W.nsIn K mainGlobals "bool" = some none
  repr : PySem.W.nsIn K mainGlobals "repr" = some none
  tuple : PySem.W.nsIn K mainGlobals "tuple" = some none
  range : PySem.W.nsIn K mainGlobals "range" = some none
  isinstance : PySem.W.nsIn K mainGlobals "isinstance" = some none
  SMALL : Sc K "SMALL" cSMALL
  GREAT : Sc K "GREAT" cGREAT
  WORDS : Tc K "WORDS" (lWORDS.map V.str)
  SIGNS : Tc K "SIGNS" (lSIGNS.map V.str)
  LONG_SIGNS : Tc K "LONG_SIGNS" (lLONG.map V.str)
theorem bnd1 {x y : Str} {st : Stmt} (h : ∀ (kV doc pm : Value) (an : Option Addr) (cdv ct u : Value), bindArgs (PySem.W.fnOf x x (defArgs st) (defBody st) (defScope st) .none kV doc pm an cdv ct) ⟨[u], []⟩ = pure [(y, u)]) : Bnd x st [y] :=
  fun kV doc pm an cdv ct us hl => match us, hl with
    | [u], _ => h kV doc pm an cdv ct u
theorem bnd2 {x y z : Str} {st : Stmt} (h : ∀ (kV doc pm : Value) (an : Option Addr) (cdv ct u v : Value), bindArgs (PySem.W.fnOf x x (defArgs st) (defBody st) (defScope st) .none kV doc pm an cdv ct) ⟨[u, v], []⟩ = pure [(y, u), (z, v)]) : Bnd x st [y, z] :=
  fun kV doc pm an cdv ct us hl => match us, hl with
    | [u, v], _ => h kV doc pm an cdv ct u v
theorem bnd3 {x y z y' : Str} {st : Stmt} (h : ∀ (kV doc pm : Value) (an : Option Addr) (cdv ct u v v' : Value), bindArgs (PySem.W.fnOf x x (defArgs st) (defBody st) (defScope st) .none kV doc pm an cdv ct) ⟨[u, v, v'], []⟩ = pure [(y, u), (z, v), (y', v')]) : Bnd x st [y, z, y'] :=
  fun kV doc pm an cdv ct us hl => match us, hl with
    | [u, v, v'], _ => h kV doc pm an cdv ct u v v'
theorem all_mk {l : PySem.W.OpenLaw} {w : World} {K : PySem.W.Frag} {h : Heap} {mg : Str → Option Value} {fa : Addr} (X : K.In h) (G : h.Ns mainGlobals mg) (hR : GS mg "ROW_SIGNS" cROW) (hfa : mg "law" = some (.ref fa)) (Z : Left K) :
    ∃ fd : FuncData, (∀ (s : Shared) (v : Value), BindsTo s fd ⟨[v], []⟩ [("script", v)]) ∧ ∀ base : Heap, K.In base → base.Ns mainGlobals mg → FnG l.prog w K mg base CX0 5 fa fd ["script"] (sp_law K) := by
  have T : Top K mg := ⟨PySem.W.mg_none_of X G Z.len, PySem.W.mg_none_of X G Z.int, PySem.W.mg_none_of X G Z.min, PySem.W.mg_none_of X G Z.max, PySem.W.mg_none_of X G Z.str, PySem.W.mg_none_of X G Z.bool, PySem.W.mg_none_of X G Z.repr,
    PySem.W.mg_none_of X G Z.tuple, PySem.W.mg_none_of X G Z.range, PySem.W.mg_none_of X G Z.isinstance, Z.SMALL.gs X G, Z.GREAT.gs X G, hR, Z.WORDS.gt X G, Z.SIGNS.gt X G, Z.LONG_SIGNS.gt X G⟩
  obtain ⟨f, oc, od, kV, doc, pm, an, cdv, ct, sl, a, lk, c, k⟩ := Z.law
  have e := hfa.symm.trans (PySem.W.mg_of X G a)
  cases e
  refine ⟨PySem.W.fnOf "law" "law" (defArgs st_law) (defBody st_law) (defScope st_law) .none kV doc pm an cdv ct, fun s v => .of_eq rfl, fun base _ _ => ?_⟩
  have Cend := cal_of (P := l.prog) (w := w) (base := base) Z.end_of X G (bnd2 fun _ _ _ _ _ _ _ _ => rfl) fun f fd F => ok_end_of F T
  have Csort := cal_of (P := l.prog) (w := w) (base := base) Z.sort_of X G (bnd1 fun _ _ _ _ _ _ _ => rfl) fun f fd F => ok_sort_of F T
  have Cscanned := cal_of (P := l.prog) (w := w) (base := base) Z.scanned X G (bnd1 fun _ _ _ _ _ _ _ => rfl) fun f fd F => ok_scanned F T Cend
  have Ctokens := cal_of (P := l.prog) (w := w) (base := base) Z.tokens X G (bnd1 fun _ _ _ _ _ _ _ => rfl) fun f fd F => ok_tokens F T Cscanned Csort
  have Cstarts := cal_of (P := l.prog) (w := w) (base := base) Z.starts X G (bnd1 fun _ _ _ _ _ _ _ => rfl) fun f fd F => ok_starts F T Cscanned
  have Ktokens := calK_of (P := l.prog) (w := w) (base := base) Z.tokens X G (fun _ _ _ _ _ _ _ => rfl) (fun _ _ _ _ _ _ _ => rfl) fun f fd F => ok_tokens F T Cscanned Csort
  have Kstarts := calK_of (P := l.prog) (w := w) (base := base) Z.starts X G (fun _ _ _ _ _ _ _ => rfl) (fun _ _ _ _ _ _ _ => rfl) fun f fd F => ok_starts F T Cscanned
  have Cdeck := cal_of (P := l.prog) (w := w) (base := base) Z.deck X G (bnd1 fun _ _ _ _ _ _ _ => rfl) fun f fd F => ok_law_deck F T
  have Cdraw := cal_of (P := l.prog) (w := w) (base := base) Z.draw X G (bnd2 fun _ _ _ _ _ _ _ _ => rfl) fun f fd F => ok_law_draw F T
  have Csign := cal_of (P := l.prog) (w := w) (base := base) Z.sign X G (bnd1 fun _ _ _ _ _ _ _ => rfl) fun f fd F => ok_law_sign F T Cdraw
  have Cbody := cal_of (P := l.prog) (w := w) (base := base) Z.body X G (bnd2 fun _ _ _ _ _ _ _ _ => rfl) fun f fd F => ok_law_body F T Cdraw
  have Cpiece := cal_of (P := l.prog) (w := w) (base := base) Z.piece X G (bnd1 fun _ _ _ _ _ _ _ => rfl) fun f fd F => ok_law_piece F T Cdraw Csign Cbody
  have Cscan := cal_of (P := l.prog) (w := w) (base := base) Z.scan X G (bnd1 fun _ _ _ _ _ _ _ => rfl) fun f fd F => ok_law_scan F T
  have Claid := cal_of (P := l.prog) (w := w) (base := base) Z.laid X G (bnd2 fun _ _ _ _ _ _ _ _ => rfl) fun f fd F => ok_law_laid F T Cdraw Cscan
  have Cchanged := cal_of (P := l.prog) (w := w) (base := base) Z.changed X G (bnd3 fun _ _ _ _ _ _ _ _ _ => rfl) fun f fd F => ok_law_changed F T Cdraw Csign Cpiece Claid
  have Cplain := calG_of (P := l.prog) (w := w) (base := base) Z.plain X G (bnd2 fun _ _ _ _ _ _ _ _ => rfl) fun f fd F => ok_law_plain F T Cscan Ctokens Cstarts Ktokens Kstarts
  exact ok_law (fun_mk (st := st_law) lk c k) T Cdeck Cdraw Cpiece Cchanged Cplain
end T3
open PySem PySem.W PyProof.Rows
set_option maxHeartbeats 0 in
theorem PySem.Challenge.cw_asiffresh_k16_lines_by_turns_holds : PySem.Challenge.rw_asiffresh_k16_lines_by_turns.Holds := by
  w_on; o_law; k_head; (case hw => w_witness2)
  k_fill
  refine T3.walkG (l := PySem.Challenge.rw_asiffresh_k16_lines_by_turns) (n := 63) (k := 5) (x := "script") (CX := fun _ => L2.CX0) (sp := fun w => T3.sp_law _) rfl (by decide) rfl ⟨rfl, by decide, by decide⟩ (fun w h Y => PySem.W.kIn_of Y) ?F (fun _ _ a ns hl _ hS => ⟨ns, hS, hl, fun _ => rfl⟩) (fun _ _ _ _ _ h => h)
  case F =>
    intro w mg fa h KX G XP hmg
    refine T3.all_mk KX G ?r hmg ?z
    case r =>
      obtain ⟨v, e, r⟩ := XP.2.val _ List.mem_cons_self
      clear hmg
      cases r
      exact ⟨_, e⟩
    case z =>
      clear hmg
      refine' ⟨?d1, ?d2, ?d3, ?d4, ?d5, ?d6, ?d7, ?d8, ?d9, ?d10, ?d11, ?d12, ?d13, ?d14, ?d15, ?z1, ?z2, ?z3, ?z4, ?z5, ?z6, ?z7, ?z8, ?z9, ?z10, ?s1, ?s2, ?t1, ?t2, ?t3⟩
      (case d1 => (refine' T3.Df.mk ?a ?l ?c ?k; (case a => k_is); (case l => k_is); (case c => k_is); (case k => k_is)))
      (case d2 => (refine' T3.Df.mk ?a ?l ?c ?k; (case a => k_is); (case l => k_is); (case c => k_is); (case k => k_is)))
      (case d3 => (refine' T3.Df.mk ?a ?l ?c ?k; (case a => k_is); (case l => k_is); (case c => k_is); (case k => k_is)))
      (case d4 => (refine' T3.Df.mk ?a ?l ?c ?k; (case a => k_is); (case l => k_is); (case c => k_is); (case k => k_is)))
      (case d5 => (refine' T3.Df.mk ?a ?l ?c ?k; (case a => k_is); (case l => k_is); (case c => k_is); (case k => k_is)))
      (case d6 => (refine' T3.Df.mk ?a ?l ?c ?k; (case a => k_is); (case l => k_is); (case c => k_is); (case k => k_is)))
      (case d7 => (refine' T3.Df.mk ?a ?l ?c ?k; (case a => k_is); (case l => k_is); (case c => k_is); (case k => k_is)))
      (case d8 => (refine' T3.Df.mk ?a ?l ?c ?k; (case a => k_is); (case l => k_is); (case c => k_is); (case k => k_is)))
      (case d9 => (refine' T3.Df.mk ?a ?l ?c ?k; (case a => k_is); (case l => k_is); (case c => k_is); (case k => k_is)))
      (case d10 => (refine' T3.Df.mk ?a ?l ?c ?k; (case a => k_is); (case l => k_is); (case c => k_is); (case k => k_is)))
      (case d11 => (refine' T3.Df.mk ?a ?l ?c ?k; (case a => k_is); (case l => k_is); (case c => k_is); (case k => k_is)))
      (case d12 => (refine' T3.Df.mk ?a ?l ?c ?k; (case a => k_is); (case l => k_is); (case c => k_is); (case k => k_is)))
      (case d13 => (refine' T3.Df.mk ?a ?l ?c ?k; (case a => k_is); (case l => k_is); (case c => k_is); (case k => k_is)))
      (case d14 => (refine' T3.Df.mk ?a ?l ?c ?k; (case a => k_is); (case l => k_is); (case c => k_is); (case k => k_is)))
      (case d15 => (refine' T3.Df.mk ?a ?l ?c ?k; (case a => k_is); (case l => k_is); (case c => k_is); (case k => k_is)))
      (case z1 => k_is)
      (case z2 => k_is)
      (case z3 => k_is)
      (case z4 => k_is)
      (case z5 => k_is)
      (case z6 => k_is)
      (case z7 => k_is)
      (case z8 => k_is)
      (case z9 => k_is)
      (case z10 => k_is)
      (case s1 => (refine' T3.Sc.mk ?a; (case a => k_is)))
      (case s2 => (refine' T3.Sc.mk ?a; (case a => k_is)))
      (case t1 => (refine' T3.Tc.mk ?a ?l ?c ?z ?v; (case a => k_is); (case l => k_is); (case c => rfl); (case z => decide); (case v => exact T3.vals_strs (by decide +kernel))))
      (case t2 => (refine' T3.Tc.mk ?a ?l ?c ?z ?v; (case a => k_is); (case l => k_is); (case c => rfl); (case z => decide); (case v => exact T3.vals_strs (by decide +kernel))))
      (case t3 => (refine' T3.Tc.mk ?a ?l ?c ?z ?v; (case a => k_is); (case l => k_is); (case c => rfl); (case z => decide); (case v => exact T3.vals_strs (by decide +kernel))))
#print axioms PySem.Challenge.cw_asiffresh_k16_lines_by_turns_holds
