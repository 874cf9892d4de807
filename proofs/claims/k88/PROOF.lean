import PyProof.Rows.All
import Wide.All
import OpenK.AllK
import Wide.FinOn
import HandS.ForMost
import HandS.Wide
import HandS.IsInst
import PyProof.ZipIter
import KE.KItemsList
import KE.KDictZip
import HandS.Base
import HandS.Call
import HandS.List
import HandS.Dict
import HandS.Iter
import HandS.Zip0
import HandS.Zip
import HandS.DictTup
import HandS.Style
import HandS.Small
import HandS.ListItems
import HandS.DictEq
import HandS.ListEq
import HandS.Conv
import PySem.Challenge.RW_asiffresh_k88_chains_gone_round
set_option Elab.async false
set_option linter.all false
set_option maxRecDepth 100000
/-! defs that are called where no repr runs (FnG), the law's head over them, repr of data, keywords alone -/
namespace T3
open PySem PySem.Spec PyProof.Rows L2

/-- as FnOk, told where no repr is under way -/
structure FnG (P : Program) (w : World) (K : PySem.W.Frag) (mg : Str → Option Value) (base : Heap) (CX : CXT)
    (k : Nat) (f : Addr) (fd : FuncData) (ps : List Str) (sp : Sp) : Prop where
  len : ∀ vs H Q E, sp vs H Q E → vs.length = ps.length
  run : ∀ (A : Around) (outer : List Env) (s : Shared) (H : Hp) (args : Args) (us : List Value) (vs : List V) (Q : VK) (E : XK),
    A.guards = some [] → Room k A → Env0 P w K mg base A outer s H → BindsTo s fd args (ps.zip us) → Vals vs us →
    sp vs H Q E → codeAny (model P w) A (.call (.ref f) args) (CR CX outer P w H s Q E) s

section
variable {P : Program} {w : World} {K : PySem.W.Frag} {mg : Str → Option Value} {base : Heap} {CX : CXT}

theorem FnG.of {k : Nat} {f : Addr} {fd : FuncData} {ps : List Str} {sp : Sp} (F : FnOk P w K mg base CX k f fd ps sp) :
    FnG P w K mg base CX k f fd ps sp :=
  ⟨F.len, fun A o s H a us vs Q E _ => F.run A o s H a us vs Q E⟩

/-- a def by its body, where no repr is under way -/
theorem fnG_of {k : Nat} {f : Addr} {name qual : Str} {params : Arguments} {body : List Stmt} {scope : Scope}
    {dV kV doc pm cdv ct oc : Value} {an od : Option Addr} {osl : Array (Option Value)} {N ps : List Str} {sp : Sp}
    (lk : K.lookup f = some ⟨oc, od, .func (PySem.W.fnOf name qual params body scope dV kV doc pm an cdv ct), osl⟩)
    (hcd : PySem.W.codeIn K cdv qual = true) (S : FnScope N ps scope)
    (len : ∀ vs H Q E, sp vs H Q E → vs.length = ps.length)
    (hbody : ∀ (A : Around) (outer : List Env) (s : Shared) (H : Hp) (vs : List V) (Q : VK) (E : XK),
      A.guards = some [] → Room k (A.deeper (envOfC qual scope s.heap.objs.size f cdv)) → sp vs H Q E →
      ∃ t, PSs (cxOf CX P w K mg base N qual scope f cdv A outer s H E) body t ∧
        t { nx := fun _ H' => Q .non H', rt := Q } (start N vs) H) :
    FnG P w K mg base CX (k + 1) f (PySem.W.fnOf name qual params body scope dV kV doc pm an cdv ct) ps sp := by
  constructor
  · exact len
  intro A outer s H args us vs Q E hG room ev bd rel want
  have n1 := len vs H Q E want
  have here : ∀ b o, base.get? b = some o → s.heap.get? b = some o := fun b o e => (ev.bs b o e).1
  have KX : K.In s.heap := ev.mod.kin.keeps here
  have lim : s.heap.NoLimit := ev.mod.nolimit.keeps here
  have kinds : ∀ y ∈ ps.zip us, scope.names.lookup y.1 = some .local ∨
      (scope.names.lookup y.1 = some .cell ∧ ((cellsFrom (s.heap.objs.size + 1) scope.names []).lookup y.1).isSome = true) := by
    rintro ⟨x, v⟩ hy
    cases S.par x (List.of_mem_zip hy).1 with
    | inl q => exact .inl q
    | inr q => exact .inr ⟨q, PySem.W.cellsFrom_some _ _ _ (.inl q)⟩
  refine codeAny_call_function room.depth (KX _ _ lk) rfl S.co S.gen rfl (PySem.W.codeRec_of KX hcd) (bd _ _ _ _ ?_)
  refine wpAny_newFunctionEnv_cells S.kind kinds fun env he s1 x => ?_
  subst he
  refine ⟨lim.keeps x.toInCall.keep, codeAny_func ?_⟩
  obtain ⟨t, ht, hq⟩ := hbody A outer s H vs Q E hG (room.deeper _) want
  have I0 := inv_start (CX := CX) (E := E) S room.hd ev n1 rel x
  refine wpAny_mono (ht.run [] s1 (start N vs) H _ I0 hq) (fun fl s' hs => ?_) fun e s' hs => hs
  cases fl with
  | ret u =>
    obtain ⟨v, σ', H', J, rv, q⟩ := hs
    exact ⟨v, H', J.os, J.bare, J.base, J.hok, rv, q⟩
  | next =>
    obtain ⟨σ', H', J, q⟩ := hs
    exact ⟨V.non, H', J.os, J.bare, J.base, J.hok, rfl, q⟩
  | brk => exact False.elim (let ⟨_, _, _, q⟩ := hs; q)
  | cont => exact False.elim (let ⟨_, _, _, q⟩ := hs; q)

theorem FunG.ok {x qual : Str} {st : Stmt} {f : Addr} {fd : FuncData} {N ps : List Str} {k : Nat} {sp : Sp}
    (F : Fun K x qual st f fd) (S : FnScope N ps (defScope st)) (len : ∀ vs H Q E, sp vs H Q E → vs.length = ps.length)
    (hbody : ∀ (cdv : Value) (A : Around) (outer : List Env) (s : Shared) (H : Hp) (vs : List V) (Q : VK) (E : XK),
      A.guards = some [] → Room k (A.deeper (envOfC qual (defScope st) s.heap.objs.size f cdv)) → sp vs H Q E →
      ∃ t, PSs (cxOf CX0 P w K mg base N qual (defScope st) f cdv A outer s H E).nox (defBody st) t ∧
        t { nx := fun _ H' => Q .non H', rt := Q } (start N vs) H) :
    FnG P w K mg base CX0 (k + 1) f fd ps sp := by
  obtain ⟨oc, od, kV, doc, pm, an, cdv, ct, osl, rfl, lk, hcd⟩ := F.ex
  refine fnG_of lk hcd S len fun A outer s H vs Q E hG hr hsp => ?_
  obtain ⟨t, h, q⟩ := hbody cdv A outer s H vs Q E hG hr hsp
  exact ⟨t, h.nox, q⟩
end

section
variable {X : Cx} {CX : CXT} {k : Nat} {f : Addr} {fd : FuncData} {ps : List Str} {sp : Sp} {dvs : List V} {ds : List Value}
  {E : XK} {x : Str} {p pos : Pos} {e : Expr} {es : List Expr} {t : TA}

theorem runG {pins : List (Addr × Obj)} {σ : L2.St} {H : Hp} {s : Shared} {Q : VK} {us : List Value} {vs : List V}
    (F : FnG X.prog X.w X.K X.mg X.base CX k f fd ps sp) (hG : X.A.guards = some []) (hr : Room k X.A)
    (hb : Binds X.K fd ps ds) (hd : Vals dvs ds) (hx : Passes CX X E) (I : Inv X pins σ H s) (r : Vals vs us)
    (h : sp (vs ++ dvs) H Q E) : wpAny (model X.prog X.w) X.A (call (.ref f) us) (EP X pins σ Q) X.xe s := by
  have both : Vals (vs ++ dvs) (us ++ ds) := r.append hd
  have n1 : (us ++ ds).length = ps.length := by
    rw [← both.length]
    exact F.len _ _ _ _ h
  have go := F.run X.A X.stack s H ⟨us, []⟩ (us ++ ds) (vs ++ dvs) Q E hG hr I.env0 (hb s us I.kIn n1) both h
  refine wpAny_call (codeAny_mono go fun r s' hq => ?_)
  cases r with
  | error e => exact hx pins σ H s e s' I hq
  | ok fl =>
    cases fl with
    | ret u => exact I.after hq
    | next => exact False.elim hq
    | brk => exact False.elim hq
    | cont => exact False.elim hq

/-- f(e, ..) of a def that may show data -/
theorem pe_callG (F : FnG X.prog X.w X.K X.mg X.base CX k f fd ps sp) (hG : X.A.guards = some []) (hr : Room k X.A)
    (hg : Gl X x) (hm : X.mg x = some (.ref f)) (hk : PySem.W.keepIn X.K (.ref f) = true) (hb : Binds X.K fd ps ds)
    (hd : Vals dvs ds) (hx : Passes CX X E) (ha : PA X (e :: es) t) (hdb : (x == ("__debug__" : Str)) = false := by decide)
    (he : starEach (e :: es) X.env = (false, eval e X.env) :: starEach es X.env := by rfl)
    (hpl : (backTo pos (starEach es X.env)).any (·.1) = false := by rfl) :
    PE X (.Call (.Name x p) (e :: es) [] pos) (tCall sp dvs E t) := by
  constructor
  intro pins s σ H Q I h
  refine wpAny_Call_Name_kw (ld_glob I hg hm ?_ hdb)
  have go := ha.run pos pins s σ H _ I h
  refine PySem.W.callWith_K (h₀ := X.base) I.ok.mod.kin hk (thn go fun us s1 ⟨vs, H1, I1, r, q⟩ => ⟨I1.kIn, ?_⟩) he hpl
  exact runG F hG hr hb hd hx I1 r q

/-- f(k = v, ..), keywords alone -/
theorem pe_callK0 {ks : List Str} {g : List Value → List Value → List Value} {gV : List V → List V → List V} {kws : List Keyword} {tk : TA}
    (F : FnOk X.prog X.w X.K X.mg X.base CX k f fd ps sp) (hr : Room k X.A) (hg : Gl X x) (hm : X.mg x = some (.ref f))
    (hk : PySem.W.keepIn X.K (.ref f) = true) (hb : KBinds X.K fd ps ks g gV) (hx : Passes CX X E) (hkw : PK X kws tk)
    (hall : (backToKw pos (keywordEach kws X.env)).all (·.1.isSome) = true := by rfl)
    (hks : (backToKw pos (keywordEach kws X.env)).filterMap (·.1) = ks := by rfl)
    (hdb : (x == ("__debug__" : Str)) = false := by decide)
    (hpl : ((backTo pos (starEach [] X.env)).any (·.1) || (backToKw pos (keywordEach kws X.env)).any (·.1.isNone)) = false := by rfl) :
    PE X (.Call (.Name x p) [] kws pos) (tCallK sp gV E tNil tk) := by
  constructor
  intro pins s σ H Q I h
  refine wpAny_Call_Name_kw (ld_glob I hg hm ?_ hdb)
  refine PySem.W.callWith_KW0 (h₀ := X.base) I.ok.mod.kin hk hall ?_ hpl
  refine thn (hkw.run pos pins s σ H _ I h) fun ws s2 ⟨zs, H2, I2, rz, q2⟩ => ⟨I2.kIn, ?_⟩
  rw [hks]
  exact run_fnk F hr hb hx I2 (us := []) .nil rz q2

/-- repr of lists and tuples that hold data -/
def rRepr (K : PySem.W.Frag) : List V → Hp → VK → Prop := fun xs H Q => ∃ (a : Addr) (d : PyData), xs = [.ref a] ∧ Dp K H (.ref a) d ∧
  d.showable = true ∧ d.hasDict = false ∧ d.depth ≤ 100 ∧ d.shown.length ≤ sizeLine ∧ Q (.str d.shown) H
theorem call_reprD (hG : X.A.guards = some []) (hr : Room k X.A) : CallR X (.builtin "repr") (rRepr X.K) := by
  intro pins s σ H xs us Q I r h
  obtain ⟨a, d, rfl, dp, hs, hn, hd, hz, q⟩ := h
  obtain ⟨u, rfl, ru⟩ := vals1 r
  obtain ⟨as, rd⟩ := Dp.reads I d _ u dp ru
  cases (show u = Value.ref a from ru)
  have hu : X.A.units + 16 * k + 200 < cLine := hr.un
  refine repr_of_reads' rd hs (PyData.noDict_hsm hn) hG (by omega) (fun _ _ e => e) (fun h' u tk hk => ?_) hz
  exact ⟨.str _, H, I.kept hk, ⟨_, rfl⟩, q⟩
end
end T3
namespace T3
open PySem PySem.Spec PyProof.Rows L2
/-- the law's call at its head, over a promise that holds where no repr is under way -/
theorem lawG {P : Program} {w : World} {K : PySem.W.Frag} {mg mb : Str → Option Value} {CX : CXT} {k : Nat} {fa a : Addr} {fd : FuncData}
    {x : Str} {sp : Sp} {s₁ : Shared} {vs : List Value} {ns : List Int} (KX : K.In s₁.heap) (hns : s₁.heap.Ns mainGlobals mg)
    (hb : s₁.heap.Ns builtinsNs mb) (hbb : ∀ x : Str, x ≠ "__name__" → mb x = bootBuiltins x) (hlim : s₁.heap.NoLimit) (hg : s₁.gens = #[])
    (ha : s₁.heap.get? a = some { cls := .type "list", data := .seq vs.toArray }) (hi : IntsAre vs ns) (hl : ns.length ≤ sizeLine)
    (hr : Room k callerA) (F : ∀ base : Heap, K.In base → base.Ns mainGlobals mg → FnG P w K mg base CX k fa fd [x] sp)
    (hbind : ∀ (s : Shared) (u : Value), BindsTo s fd ⟨[u], []⟩ [(x, u)])
    (hsp : ∀ H : Hp, Only H → SqL K H a (ns.map V.int) → sp [.ref a] H (fun v _ => v = .bl true) fun _ _ _ => False)
    (hCX : ∀ H e s', CX [] H s₁ (fun _ _ _ => False) e s' → False) :
    codeAny (model P w) callerA (.call (.ref fa) ⟨[.ref a], []⟩)
      (fun r s' => r = .ok (.ret (.bool true)) ∧ OldK s₁.heap s'.heap ∧ s'.os = s₁.os ∧ AllBare s'.gens) s₁ := by
  have vv := vals_ints hi
  have n1 := hi.length
  -- from any abstract heap that tracks the script alone
  have main : ∀ H : Hp, Only H → SqL K H a (ns.map V.int) → HOk P w H s₁.heap → (∀ b, H b ≠ none → b = a) → (H a ≠ none → K.lookup a = none) →
      codeAny (model P w) callerA (.call (.ref fa) ⟨[.ref a], []⟩)
        (fun r s' => r = .ok (.ret (.bool true)) ∧ OldK s₁.heap s'.heap ∧ s'.os = s₁.os ∧ AllBare s'.gens) s₁ := by
    intro H only seq hok one own
    -- what is no list is not tracked
    have bare : ∀ {b : Addr} {o : Obj} {es : Array DictEntry} {ep : Nat}, s₁.heap.get? b = some o → o.data = .dict es ep → H b = none := by
      intro b o es ep e d
      cases q : H b with
      | none => rfl
      | some u =>
        have z : b = a := one b (by rw [q]; exact fun y => nomatch y)
        rw [z, ha] at e
        cases e
        exact absurd (show Data.seq vs.toArray _ = Data.dict es ep from d) (fun y => nomatch y)
    have space : ∀ {b : Addr} {m : Str → Option Value}, s₁.heap.Ns b m → (hidT s₁.heap H).Ns b m := by
      rintro b m ⟨o, es, ep, e, d, r⟩
      exact ⟨o, es, ep, hidT_get e (bare e d), d, r⟩
    have kin : K.In (hidT s₁.heap H) := by
      intro b o e
      refine hidT_get (KX b o e) ?_
      cases q : H b with
      | none => rfl
      | some u =>
        have z : b = a := one b (by rw [q]; exact fun y => nomatch y)
        subst z
        rw [own (by rw [q]; exact fun y => nomatch y)] at e
        cases e
    have md : Mod K mg (hidT s₁.heap H) := by
      obtain ⟨mc, l1, l2⟩ := hlim
      exact ⟨kin, space hns, ⟨mb, space hb, hbb⟩, ⟨mc, space l1, l2⟩⟩
    have ev : Env0 P w K mg (hidT s₁.heap H) callerA [] s₁ H := by
      refine ⟨rfl, md, fun b o e => of_hidT e, Nat.le_of_eq (hidT_size _ _), trivial, ?_, hok, .of_eq hg⟩
      intro b hb'
      exact absurd (show b ∈ ([] : List Addr) from hb') (by simp)
    have go := (F _ kin (space hns)).run callerA [] s₁ H ⟨[.ref a], []⟩ [.ref a] [.ref a] (fun v _ => v = .bl true) (fun _ _ _ => False)
      rfl hr ev (hbind s₁ (.ref a)) (.cons rfl .nil) (hsp H only seq)
    refine codeAny_mono go fun r s' h => ?_
    match r, h with
    | .error e, h => exact (hCX H e s' h).elim
    | .ok .next, h => exact False.elim h
    | .ok .brk, h => exact False.elim h
    | .ok .cont, h => exact False.elim h
    | .ok (.ret u), ⟨v, H', os, br, un, hok', r', q⟩ =>
      have qv : v = .bl true := q
      subst qv
      obtain rfl : u = Value.bool true := r'
      refine ⟨rfl, OldK.of_keep fun b o e => ?_, os, br⟩
      cases q : H b with
      | none =>
        refine un.keep b o e q ?_ (by simp)
        intro z
        exact absurd (show b ∈ ([] : List Addr) from z) (by simp)
      | some u =>
        cases only b with
        | inl z =>
          rw [q] at z
          cases z
        | inr z =>
          obtain ⟨ob, xs, z⟩ := z
          have z2 := un.frzs b ob _ z
          obtain ⟨e1, _⟩ := hok b _ z
          obtain ⟨e2, _⟩ := hok' b _ z2
          rw [e] at e1
          cases e1
          exact e2
  cases hk : K.lookup a with
  | some o =>
    have e := KX a o hk
    rw [ha] at e
    cases e
    refine main (fun _ => none) (fun _ => .inl rfl) (.inr ⟨_, vs.toArray, _, hk, rfl, rfl, rfl, ?_, by simpa using vv⟩) ?_ (fun b z => absurd rfl z) fun z => absurd rfl z
    · rw [List.size_toArray, n1]
      exact hl
    · intro b u z
      exact absurd (show (none : Option HO) = some u from z) (fun y => nomatch y)
  | none =>
    refine main (fun b => if b = a then some (.frz { cls := .type "list", data := .seq vs.toArray } (.lst (ns.map V.int))) else none) ?_
      (.inl (.inr ⟨{ cls := .type "list", data := .seq vs.toArray }, if_pos rfl⟩)) ?_ ?_ fun _ => hk
    · intro b
      by_cases hb' : b = a
      · exact .inr ⟨_, _, if_pos hb'⟩
      · exact .inl (if_neg hb')
    · intro b u z
      by_cases hb' : b = a
      · have z' := (if_pos hb').symm.trans z
        cases z'
        subst hb'
        refine ⟨ha, ?_, vs, _, vv, ha⟩
        rw [List.length_map]
        exact hl
      · have z' := (if_neg hb').symm.trans z
        cases z'
    · intro b z
      by_cases hb' : b = a
      · exact hb'
      · exact absurd (if_neg hb') z

/-- what k_head leaves, from such a promise of the law -/
theorem walkG {l : PySem.W.OpenLaw} {n k : Nat} {q : Program} {loose : List Str} {XP : (Str → Option Value) → Heap → Prop} {YP : World → Heap → Prop}
    {d : DefRec} {K : Params → PySem.W.Frag} {CX : World → CXT} {sp : World → Sp} {x : Str} (hn : l.most = some n) (hn2 : n ≤ sizeLine)
    (hdf : d.params.defaults = []) (hr : Room k callerA) (hY : ∀ (w : World) (h : Heap), YP w h → (K w.params).In h)
    (F : ∀ (w : World) (mg : Str → Option Value) (fa : Addr) (h : Heap), (K w.params).In h → h.Ns mainGlobals mg → XP mg h → mg d.name = some (.ref fa) →
      ∃ fd : FuncData, (∀ (s : Shared) (u : Value), BindsTo s fd ⟨[u], []⟩ [(x, u)]) ∧
        ∀ base : Heap, (K w.params).In base → base.Ns mainGlobals mg → FnG l.prog w (K w.params) mg base (CX w) k fa fd [x] (sp w))
    (hsp : ∀ (w : World) (H : Hp) (a : Addr) (ns : List Int), ns.length ≤ n → Only H → SqL (K w.params) H a (ns.map V.int) →
      sp w [.ref a] H (fun v _ => v = .bl true) fun _ _ _ => False)
    (hCX : ∀ (w : World) (H : Hp) (s : Shared) (e : Value) (s' : Shared), CX w [] H s (fun _ _ _ => False) e s' → False) :
    PySem.W.WalkO q loose XP YP l.row.toRowW d [] (fun f vs => PySem.call f vs) := by
  refine Att.attach_call hn hdf ?_
  intro w s₀ s₁ mg mb fa o pm cd doc a vs ns G Y ho hd hcd hmg hobj hints hlen hg
  have KX := hY w _ Y
  obtain ⟨fd, hb, hF⟩ := F w mg fa _ KX G.T.g G.X hmg
  refine lawG KX G.T.g G.T.b G.T.builtins G.T.nolimit hg hobj hints (Nat.le_trans hlen hn2) hr hF hb ?_ ?_
  · intro H hO hS
    exact hsp w H a ns hlen hO hS
  · intro H e s'
    exact hCX w H s₁ e s'
end T3
/-! readings that reckon by themselves: rules whose readings are told by cases of the values -/
namespace T3
open PySem PySem.Spec PyProof.Rows L2

section
variable {X : Cx}
/-! ### weaker readings -/
theorem PE.imp {e : Expr} {t t' : TE} (i : ∀ σ H Q, t' σ H Q → t σ H Q) (h : PE X e t) : PE X e t' :=
  ⟨fun pins s σ H Q I q => h.run pins s σ H Q I (i σ H Q q)⟩
theorem PT.imp {e : Expr} {t t' : TT} (i : ∀ σ H Q, t' σ H Q → t σ H Q) (h : PT X e t) : PT X e t' :=
  ⟨fun pins s σ H Q I q => h.run pins s σ H Q I (i σ H Q q)⟩
theorem PS.imp {e : Stmt} {t t' : TS} (i : ∀ D σ H, t' D σ H → t D σ H) (h : PS X e t) : PS X e t' :=
  ⟨fun pins s σ H D I q => h.run pins s σ H D I (i D σ H q)⟩
theorem PT.close {e : Expr} {t : TT} (h : PT X e t) : PT X e (fun σ H Q => ∃ Q0, t σ H Q0 ∧ ∀ b H', Q0 b H' → Q b H') := by
  constructor
  rintro pins s σ H Q I ⟨Q0, q, i⟩
  refine thn (h.run pins s σ H Q0 I q) ?_
  rintro b s' ⟨H', I', q'⟩
  exact ⟨H', I', i b H' q'⟩
theorem OpR.imp {f : Value → Value → Sem Value} {r r' : R2} (h : OpR X f r) (i : ∀ x y H Q, r' x y H Q → r x y H Q) : OpR X f r' :=
  fun pins s σ H x y v u Q I rx ry q => h pins s σ H x y v u Q I rx ry (i x y H Q q)
theorem CallR.imp {f : Value} {r r' : List V → Hp → VK → Prop} (h : CallR X f r) (i : ∀ x H Q, r' x H Q → r x H Q) : CallR X f r' :=
  fun pins s σ H xs us Q I rx q => h pins s σ H xs us Q I rx (i xs H Q q)
theorem OpR.or {f : Value → Value → Sem Value} {r r' : R2} (h : OpR X f r) (h' : OpR X f r') : OpR X f (fun x y H Q => r x y H Q ∨ r' x y H Q) := by
  intro pins s σ H x y v u Q I rx ry q
  cases q with
  | inl q => exact h pins s σ H x y v u Q I rx ry q
  | inr q => exact h' pins s σ H x y v u Q I rx ry q
theorem CallR.or {f : Value} {r r' : List V → Hp → VK → Prop} (h : CallR X f r) (h' : CallR X f r') : CallR X f (fun x H Q => r x H Q ∨ r' x H Q) := by
  intro pins s σ H xs us Q I rx q
  cases q with
  | inl q => exact h pins s σ H xs us Q I rx q
  | inr q => exact h' pins s σ H xs us Q I rx q

/-! ### names -/
def mVar (i : Nat) : TE := fun σ H Q => match σ[i]? with
  | some (some v) => Q v H
  | _ => False
theorem mv (i : Nat) {x : Str} {pos : Pos} (hN : X.N[i]? = some x := by rfl)
    (hv : Vis X.env.scope x := by first | exact Or.inl rfl | exact Or.inr (Or.inl rfl) | exact Or.inr (Or.inr rfl))
    (hd : (x == ("__debug__" : Str)) = false := by decide) (hcd : (x == ("__classdict__" : Str)) = false := by decide) :
    PE X (.Name x pos) (mVar i) := by
  refine PE.imp ?_ (pe_var hN hv hd hcd)
  intro σ H Q h
  unfold mVar at h
  split at h
  · rename_i v e
    exact ⟨v, e, h⟩
  · exact h.elim

/-! ### two-place operations -/
def mAdd : R2 := fun x y H Q => match x, y with
  | .int i, .int j => Q (.int (i + j)) H
  | .str a, .str b => a.length + b.length ≤ sizeLine ∧ Q (.str (a ++ b)) H
  | .ref a, .ref b => ∃ xs ys, H a = some (.lst xs) ∧ H b = some (.lst ys) ∧ xs.length + ys.length ≤ sizeLine ∧
      ∀ p, H p = none → Q (.ref p) (upd H p (.lst (xs ++ ys)))
  | _, _ => False
theorem opAdd : OpR X (binaryOp .Add) mAdd := by
  refine OpR.imp (OpR.or op_add (OpR.or op_add_str op_cat)) ?_
  intro x y H Q h
  cases x <;> cases y <;> first
    | exact h.elim
    | exact .inl ⟨_, _, rfl, rfl, h⟩
    | exact .inr (.inl ⟨_, _, rfl, rfl, h⟩)
    | (obtain ⟨xs, ys, h1, h2, h3, h4⟩ := h; exact .inr (.inr ⟨_, _, xs, ys, rfl, rfl, h1, h2, h3, h4⟩))
def mSub : R2 := fun x y H Q => match x, y with
  | .int i, .int j => Q (.int (i - j)) H
  | _, _ => False
theorem opSub : OpR X (binaryOp .Sub) mSub := by
  refine OpR.imp op_sub ?_
  intro x y H Q h
  cases x <;> cases y <;> first
    | exact h.elim
    | exact ⟨_, _, rfl, rfl, h⟩
/-- n times a text -/
theorem op_rep_str : OpR X (binaryOp .Mult) (fun x y H Q => ∃ a n, x = .str a ∧ y = .int n ∧ MulOk a n ∧ Q (.str (Txt.mul a n)) H) := by
  intro pins s σ H x y v u Q I rx ry h
  obtain ⟨a, n, rfl, rfl, hk, q⟩ := h
  obtain ⟨t, rfl⟩ := rx
  obtain ⟨t', rfl⟩ := ry
  refine SB.mul hk fun t2 k => ?_
  exact ⟨.str _, H, I.tok _, ⟨_, rfl⟩, q⟩
def mMul : R2 := fun x y H Q => match x, y with
  | .int i, .int j => ((-(2 ^ 64) < i ∧ i < 2 ^ 64) ∨ (-(2 ^ 64) < j ∧ j < 2 ^ 64)) ∧ Q (.int (i * j)) H
  | .str a, .int n => MulOk a n ∧ Q (.str (Txt.mul a n)) H
  | _, _ => False
theorem opMul : OpR X (binaryOp .Mult) mMul := by
  refine OpR.imp (OpR.or op_mul op_rep_str) ?_
  intro x y H Q h
  cases x <;> cases y <;> first
    | exact h.elim
    | exact .inl ⟨_, _, rfl, rfl, h.1, h.2⟩
    | exact .inr ⟨_, _, rfl, rfl, h.1, h.2⟩
def mDiv : R2 := fun x y H Q => match x, y with
  | .int i, .int j => (0 < j ∧ j < 2 ^ 62) ∧ Q (.int (i / j)) H
  | _, _ => False
theorem log_small {j : Int} (h0 : 0 < j) (h1 : j < 2 ^ 62) : j.natAbs.log2 < 9000 := by
  have h2 : j.natAbs < 2 ^ 62 := by omega
  have h3 : j.natAbs ≠ 0 := by omega
  have h4 : j.natAbs.log2 < 62 := (Nat.log2_lt h3).mpr h2
  omega
theorem opDiv : OpR X (binaryOp .FloorDiv) mDiv := by
  refine OpR.imp op_fdivW ?_
  intro x y H Q h
  cases x <;> cases y <;> first
    | exact h.elim
    | exact ⟨_, _, rfl, rfl, ⟨h.1.1, log_small h.1.1 h.1.2⟩, h.2⟩
def mMod : R2 := fun x y H Q => match x, y with
  | .int i, .int j => 0 < j ∧ Q (.int (i % j)) H
  | _, _ => False
theorem opMod : OpR X (binaryOp .Mod) mMod := by
  refine OpR.imp op_mod ?_
  intro x y H Q h
  cases x <;> cases y <;> first
    | exact h.elim
    | exact ⟨_, _, rfl, rfl, h⟩
def mPow : R2 := fun x y H Q => match x, y with
  | .int i, .int j => CPow i j ∧ Q (.int (i ^ j.toNat)) H
  | _, _ => False
theorem opPow : OpR X (binaryOp .Pow) mPow := by
  refine OpR.imp op_pow ?_
  intro x y H Q h
  cases x <;> cases y <;> first
    | exact h.elim
    | exact ⟨_, _, rfl, rfl, h⟩

/-! ### comparisons -/
def mEq : R2 := fun x y H Q => match x, y with
  | .int i, .int j => Q (.bl (decide (i = j))) H
  | .str a, .str b => Q (.bl (decide (a = b))) H
  | .bl a, .bl b => Q (.bl (decide (a = b))) H
  | _, _ => False
theorem opEq : OpR X (compareOp .Eq) mEq := by
  refine OpR.imp op_eq ?_
  intro x y H Q h
  cases x <;> cases y <;> first
    | exact h.elim
    | exact ⟨rfl, by simpa [mEq] using h⟩
def mNe : R2 := fun x y H Q => match x, y with
  | .int i, .int j => Q (.bl (!decide (i = j))) H
  | .str a, .str b => Q (.bl (!decide (a = b))) H
  | .bl a, .bl b => Q (.bl (!decide (a = b))) H
  | _, _ => False
theorem opNe : OpR X (compareOp .NotEq) mNe := by
  refine OpR.imp op_ne ?_
  intro x y H Q h
  cases x <;> cases y <;> first
    | exact h.elim
    | exact ⟨rfl, by simpa [mNe] using h⟩
def mCmp (p : Int → Int → Bool) : R2 := fun x y H Q => match x, y with
  | .int i, .int j => Q (.bl (p i j)) H
  | _, _ => False
theorem mCmp_of {f : Value → Value → Sem Value} {p : Int → Int → Bool} (h : OpR X f (rI0 fun i j => .bl (p i j))) : OpR X f (mCmp p) := by
  refine OpR.imp h ?_
  intro x y H Q h
  cases x <;> cases y <;> first
    | exact h.elim
    | exact ⟨_, _, rfl, rfl, h⟩
theorem opLt : OpR X (compareOp .Lt) (mCmp fun i j => decide (i < j)) := mCmp_of op_lt
theorem opLe : OpR X (compareOp .LtE) (mCmp fun i j => decide (i ≤ j)) := mCmp_of op_le
theorem opGt : OpR X (compareOp .Gt) (mCmp fun i j => decide (j < i)) := mCmp_of op_gt
theorem opGe : OpR X (compareOp .GtE) (mCmp fun i j => decide (j ≤ i)) := mCmp_of op_ge
/-- one sign in a text; a flat value in a list or tuple -/
def mIn (K : PySem.W.Frag) : R2 := fun x y H Q => match y with
  | .str z => ∃ c, x = .str ⟨#[c]⟩ ∧ Q (.bl (decide (c ∈ z.cps.toList))) H
  | .ref p => ∃ xs, (SqL K H p xs ∨ SqT K H p xs) ∧ flatV x = true ∧ xs.all flatV = true ∧ Q (.bl (inV x xs)) H
  | _ => False
theorem opIn : OpR X (compareOp .In) (mIn X.K) := by
  refine OpR.imp (OpR.or op_in_sign op_in_seq) ?_
  intro x y H Q h
  cases y with
  | str z =>
    obtain ⟨c, e, q⟩ := h
    exact .inl ⟨c, z, e, rfl, q⟩
  | ref p =>
    obtain ⟨xs, h1, h2, h3, q⟩ := h
    exact .inr ⟨p, xs, rfl, h1, h2, h3, q⟩
  | _ => exact h.elim

/-! ### subscripts, slices -/
def mIx (K : PySem.W.Frag) : R2 := fun x y H Q => match x, y with
  | .str z, .int i => z.length ≤ sizeLine ∧ ∃ c, atI z.cps.toList i = some c ∧ Q (.str ⟨#[c]⟩) H
  | .ref p, .int i => ∃ xs, (SqL K H p xs ∨ SqT K H p xs) ∧ ∃ v, atI xs i = some v ∧ Q v H
  | _, _ => False
theorem IxR.imp {r r' : R2} (h : IxR X r) (i : ∀ x y H Q, r' x y H Q → r x y H Q) : IxR X r' :=
  fun value slice pins s σ H x y v u Q I rx ry q => h value slice pins s σ H x y v u Q I rx ry (i x y H Q q)
theorem ixM : IxR X (mIx X.K) := by
  refine IxR.imp ix_seq ?_
  intro x y H Q h
  cases x <;> cases y <;> first
    | exact h.elim
    | (obtain ⟨h1, c, h2, q⟩ := h; exact .inr (.inr ⟨_, _, c, rfl, rfl, h1, h2, q⟩))
    | (obtain ⟨xs, h1, v, h2, q⟩ := h
       cases h1 with
       | inl h1 => exact .inl ⟨_, xs, _, v, rfl, rfl, h1, h2, q⟩
       | inr h1 => exact .inr (.inl ⟨_, xs, _, v, rfl, rfl, h1, h2, q⟩))
def mPart (t : TE) : TO := fun σ H Q => t σ H fun x H1 => match x with
  | .int i => Q (some i) H1
  | _ => False
theorem mono_pe {e : Expr} {t : TE} (h : PE X e t) : PE X e (fun σ H Q => ∃ Q0 : VK, t σ H Q0 ∧ ∀ v H', Q0 v H' → Q v H') := by
  constructor
  rintro pins s σ H Q I ⟨Q0, q, i⟩
  refine thn (h.run pins s σ H Q0 I q) ?_
  rintro b s' ⟨v, H', I', r, q'⟩
  exact ⟨v, H', I', r, i v H' q'⟩
theorem pom {e : Expr} {t : TE} (h : PE X e t) : PO X (some e) (mPart t) := by
  constructor
  intro pins s σ H Q I q
  refine (po_some (mono_pe h)).run pins s σ H Q I ⟨_, q, ?_⟩
  intro v H' q'
  cases v <;> first
    | exact q'.elim
    | exact ⟨_, rfl, q'⟩
def mSl (K : PySem.W.Frag) : V → Option Int → Option Int → Hp → VK → Prop := fun x lo hi H Q => match x with
  | .str z => z.length ≤ sizeLine ∧ Q (.str (cutS z lo hi)) H
  | .ref a => ∃ xs, SqL K H a xs ∧ ∀ p, H p = none → Q (.ref p) (upd H p (.lst (cutV xs lo hi)))
  | _ => False
theorem slM : SlR X (mSl X.K) := by
  intro pins s σ H x v vl vu lo hi sl Q I rx hs pl pu q
  refine (SlR.or sl_str sl_list) pins s σ H x v vl vu lo hi sl Q I rx hs pl pu ?_
  cases x with
  | str z => exact .inl ⟨z, rfl, q⟩
  | ref a =>
    obtain ⟨xs, h1, h2⟩ := q
    exact .inr ⟨a, xs, rfl, h1, h2⟩
  | _ => exact q.elim

/-! ### built-ins -/
def mLen (K : PySem.W.Frag) : List V → Hp → VK → Prop := fun xs H Q => match xs with
  | [.str z] => z.length ≤ sizeLine ∧ Q (.int z.length) H
  | [.ref p] => ∃ ys, (SqL K H p ys ∨ SqT K H p ys) ∧ Q (.int ys.length) H
  | _ => False
theorem callLen : CallR X (.builtin "len") (mLen X.K) := by
  refine CallR.imp (CallR.or call_len_str call_len_seq) ?_
  intro xs H Q h
  match xs, h with
  | [.str z], h => exact .inl ⟨z, rfl, h⟩
  | [.ref p], ⟨ys, h1, q⟩ => exact .inr ⟨p, ys, rfl, h1, q⟩
def mInt : List V → Hp → VK → Prop := fun xs H Q => match xs with
  | [.int i] => Q (.int i) H
  | [.bl k] => Q (.int (if k then 1 else 0)) H
  | _ => False
theorem callInt : CallR X (.type "int") mInt := by
  refine CallR.imp call_int1 ?_
  intro xs H Q h
  match xs, h with
  | [.int i], h => exact .inl ⟨i, rfl, h⟩
  | [.bl k], h => exact .inr ⟨k, rfl, h⟩
def mTwo (g : Int → Int → Int) : List V → Hp → VK → Prop := fun xs H Q => match xs with
  | [.int i, .int j] => Q (.int (g i j)) H
  | _ => False
theorem callMin (hc : X.calm = true) : CallR X (.builtin "min") (mTwo fun i j => if j < i then j else i) := by
  refine CallR.imp (call_min2 hc) ?_
  intro xs H Q h
  match xs, h with
  | [.int i, .int j], h => exact ⟨i, j, rfl, h⟩
theorem callMax (hc : X.calm = true) : CallR X (.builtin "max") (mTwo fun i j => if j > i then j else i) := by
  refine CallR.imp (call_max2 hc) ?_
  intro xs H Q h
  match xs, h with
  | [.int i, .int j], h => exact ⟨i, j, rfl, h⟩
/-- tuple(a list that stands) -/
def mTuple (K : PySem.W.Frag) : List V → Hp → VK → Prop := fun xs H Q => match xs with
  | [.ref p] => ∃ ys, SqL K H p ys ∧ ∀ l, H l = none → Q (.ref l) (upd H l (.tup ys))
  | _ => False
theorem callTuple : CallR X (.type "tuple") (mTuple X.K) := by
  refine CallR.imp call_tuple_of ?_
  intro xs H Q h
  match xs, h with
  | [.ref p], ⟨ys, h1, h2⟩ => exact ⟨p, ys, rfl, .inl ⟨h1, h2⟩⟩
/-- isinstance(x, a built-in class) -/
def mIsi (K : PySem.W.Frag) : List V → Hp → VK → Prop := fun xs H Q => match xs with
  | [.str _, .ty n] => ∃ b, kitB "str" n = some b ∧ Q (.bl b) H
  | [.int _, .ty n] => ∃ b, kitB "int" n = some b ∧ Q (.bl b) H
  | [.bl _, .ty n] => ∃ b, kitB "bool" n = some b ∧ Q (.bl b) H
  | [.ref a, .ty n] => ((∃ ys, H a = some (.tup ys)) ∧ ∃ b, kitB "tuple" n = some b ∧ Q (.bl b) H) ∨
      ((∃ ys, H a = some (.lst ys)) ∧ ∃ b, kitB "list" n = some b ∧ Q (.bl b) H)
  | _ => False
theorem callIsi : CallR X (.builtin "isinstance") (mIsi X.K) := by
  refine CallR.imp call_isi ?_
  intro xs H Q h
  match xs, h with
  | [.str z, .ty n], ⟨b, e, q⟩ => exact ⟨_, _, _, _, b, rfl, .ty n, .base (.str z), kit_ty e, q⟩
  | [.int z, .ty n], ⟨b, e, q⟩ => exact ⟨_, _, _, _, b, rfl, .ty n, .base (.int z), kit_ty e, q⟩
  | [.bl z, .ty n], ⟨b, e, q⟩ => exact ⟨_, _, _, _, b, rfl, .ty n, .base (.bl z), kit_ty e, q⟩
  | [.ref a, .ty n], .inl ⟨⟨ys, ha⟩, b, e, q⟩ => exact ⟨_, _, _, _, b, rfl, .ty n, .base (.tup ha), kit_ty e, q⟩
  | [.ref a, .ty n], .inr ⟨⟨ys, ha⟩, b, e, q⟩ => exact ⟨_, _, _, _, b, rfl, .ty n, .base (.lst ha), kit_ty e, q⟩

/-! ### tests -/
def mTest (t : TE) : TT := fun σ H Q => t σ H fun x H1 => match x with
  | .bl k => Q k H1
  | _ => False
theorem mcmp {op : CmpOp} {r : R2} {a b : Expr} {ta tb : TE} {pos : Pos} (ho : OpR X (compareOp op) r) (ha : PE X a ta) (hb : PE X b tb)
    (hm : behindInMarks op b = false := by first | rfl | exact nomark _) : PT X (.Compare a [op] [b] pos) (mTest (tOp r ta tb)) := by
  have ho' : OpR X (compareOp op) (fun x y H Q => ∃ Q0 : VK, r x y H Q0 ∧ ∀ v H', Q0 v H' → Q v H') := by
    rintro pins s σ H x y v u Q I rx ry ⟨Q0, q, i⟩
    refine thn (ho pins s σ H x y v u Q0 I rx ry q) ?_
    rintro b s' ⟨v, H', I', r, q'⟩
    exact ⟨v, H', I', r, i v H' q'⟩
  refine PT.imp ?_ (pt_cmpR ho' (mono_pe ha) (mono_pe hb) hm)
  intro σ H Q h
  refine ⟨_, h, fun x H1 h1 => ⟨_, h1, fun y H2 h2 => ⟨_, h2, fun z H3 h3 => ?_⟩⟩⟩
  cases z <;> first
    | exact h3.elim
    | exact ⟨_, rfl, h3⟩
/-- a value that is True or False, as a test -/
theorem mval {e : Expr} {t : TE} (h : PE X e t)
    (he : ∀ whole, isTrue e X.env whole = (do let v ← whole; standAt e.pos; holding [v] (truthy v)) := by intro _; rfl) : PT X e (mTest t) := by
  refine PT.imp ?_ (pt_val (mono_pe h) he)
  intro σ H Q h
  refine ⟨_, h, fun x H1 h1 => ?_⟩
  cases x <;> first
    | exact h1.elim
    | exact ⟨_, rfl, h1⟩
theorem mcmpE {op : CmpOp} {r : R2} {a b : Expr} {ta tb : TE} {pos : Pos} (ho : OpR X (compareOp op) r) (ha : PE X a ta) (hb : PE X b tb)
    (hm : behindInMarks op b = false := by first | rfl | exact nomark _) : PE X (.Compare a [op] [b] pos) (tOp r ta tb) := pe_cmpR ho ha hb hm

/-! ### statements -/
def mIf (c : TT) (t u : TS) : TS := fun D σ H => c σ H fun b H1 => (b = true → t D σ H1) ∧ (b = false → u D σ H1)
theorem mif {c : Expr} {a b : List Stmt} {tc : TT} {t u : TS} {pos : Pos} (hc : PT X c tc) (ha : PSs X a t) (hb : PSs X b u) : PS X (.If c a b pos) (mIf tc t u) := by
  refine PS.imp ?_ (ps_if (PT.close hc) ha hb)
  intro D σ H h
  refine ⟨_, h, ?_⟩
  intro b H' q
  cases b with
  | true => exact iteT (q.1 rfl)
  | false => exact iteF (q.2 rfl)
/-- the invariant and what falls -/
def mWhile (c : TT) (tb : TS) : TS := fun D σ H => ∃ (Pv : L2.St → Hp → Prop) (μ : L2.St → Hp → Nat), Pv σ H ∧ ∀ σ H, Pv σ H →
  c σ H fun b H1 => (b = true → tb { D with nx := fun σ' H' => Pv σ' H' ∧ μ σ' H' < μ σ H, ct := fun σ' H' => Pv σ' H' ∧ μ σ' H' < μ σ H, bk := D.nx } σ H1) ∧ (b = false → D.nx σ H1)
theorem mwhile {c : Expr} {body : List Stmt} {tc : TT} {tb : TS} {pos : Pos} (hp : PassesOwn (model X.prog X.w) X.A X.env X.xe) (hc : PT X c tc) (hb : PSs X body tb) :
    PS X (.While c body [] pos) (mWhile tc tb) := by
  refine PS.imp ?_ (ps_while hp (PT.close hc) hb)
  rintro D σ H ⟨Pv, μ, h0, hs⟩
  refine ⟨fun m σ H => m = μ σ H ∧ Pv σ H, ⟨_, rfl, h0⟩, ?_⟩
  rintro m σ H ⟨rfl, p⟩
  refine ⟨_, hs σ H p, ?_⟩
  intro b H1 q
  cases b with
  | true =>
    refine iteT ⟨_, ?_, q.1 rfl⟩
    rintro σ' H' ⟨p', l⟩
    exact ⟨_, l, rfl, p'⟩
  | false => exact iteF (q.2 rfl)
/-- for .. in range(n) -/
def mForR (ta : TE) (g : TG) (tb : TS) : TS := fun D σ H => ta σ H fun v H1 => match v with
  | .int j => (-(2 ^ 62) ≤ j ∧ j < 2 ^ 62) ∧ ∃ Pv : Nat → L2.St → Hp → Prop, Pv 0 σ H1 ∧
      (∀ (i : Nat) σ H, i < j.toNat → Pv i σ H → g (.int i) σ H fun σ2 H2 => tb { D with nx := Pv (i + 1), ct := Pv (i + 1), bk := D.nx } σ2 H2) ∧
      ∀ σ H, Pv j.toNat σ H → D.nx σ H
  | _ => False
theorem mforR {a : Expr} {ta : TE} {p pos pos' : Pos} {body : List Stmt} {tg : Expr} {g : TG} {tb : TS} (hp : PassesOwn (model X.prog X.w) X.A X.env X.xe) (hc : X.calm = true)
    (hg : Gl X "range") (hm : X.mg "range" = none) (ha : PE X a ta) (hG : PG X tg g) (hb : PSs X body tb)
    (hs : starEach [a] X.env = (false, eval a X.env) :: starEach [] X.env := by rfl)
    (hf : ∀ x, foldedSetIterable (.Call (.Name "range" p) [a] [] pos) X.env x = pure x := by intro _; rfl) :
    PS X (.For tg (.Call (.Name "range" p) [a] [] pos) body [] pos') (mForR ta g tb) := by
  have q := ps_for (pos := pos') hp hc (pi_range1 (tg := tg) (p := p) (pos := pos) hg hm (pa_cons (mono_pe ha) pa_nil hs) hs) hG hb hf
  refine PS.imp ?_ q
  intro D σ H h
  refine ⟨_, h, ?_⟩
  intro v H1 h1
  cases v with
  | int j =>
    obtain ⟨h2, Pv, p0, ps, pd⟩ := h1
    refine ⟨j, rfl, h2.1, h2.2, for_range (lo := 0) (n := j.toNat) Pv p0 ?_ pd⟩
    intro i σ H hi hP
    have z := ps i σ H hi hP
    rw [Int.zero_add]
    exact z
  | _ => exact h1.elim
/-- for .. in a list that stays -/
def mForL (K : PySem.W.Frag) (ta : TE) (g : TG) (tb : TS) : TS := fun D σ H => ta σ H fun v H1 => match v with
  | .ref a => ∃ xs, SqL K H1 a xs ∧ ∃ Pv : Nat → L2.St → Hp → Prop, Pv 0 σ H1 ∧ (∀ i σ H, i ≤ xs.length → Pv i σ H → SqL K H a xs) ∧
      (∀ (i : Nat) x σ H, xs[i]? = some x → Pv i σ H → g x σ H fun σ2 H2 => tb { D with nx := Pv (i + 1), ct := Pv (i + 1), bk := D.nx } σ2 H2) ∧
      ∀ σ H, Pv xs.length σ H → D.nx σ H
  | _ => False
theorem mforL {a : Expr} {ta : TE} {pos' : Pos} {body : List Stmt} {tg : Expr} {g : TG} {tb : TS} (hp : PassesOwn (model X.prog X.w) X.A X.env X.xe) (hc : X.calm = true)
    (ha : PE X a ta) (hG : PG X tg g) (hb : PSs X body tb) (hf : ∀ x, foldedSetIterable a X.env x = pure x := by intro _; rfl) :
    PS X (.For tg a body [] pos') (mForL X.K ta g tb) := by
  have q := ps_for (pos := pos') hp hc (pi_list (tg := tg) (mono_pe ha)) hG hb hf
  refine PS.imp ?_ q
  intro D σ H h
  refine ⟨_, h, ?_⟩
  intro v H1 h1
  cases v with
  | ref a =>
    obtain ⟨xs, h2, Pv, p0, pl, ps, pd⟩ := h1
    exact ⟨a, rfl, ⟨xs, h2⟩, for_list (xs := xs) Pv p0 pl ps pd⟩
  | _ => exact h1.elim
/-- for .. in a tuple -/
def mForT (K : PySem.W.Frag) (ta : TE) (g : TG) (tb : TS) : TS := fun D σ H => ta σ H fun v H1 => match v with
  | .ref a => ∃ xs, SqT K H1 a xs ∧ ∃ Pv : Nat → L2.St → Hp → Prop, Pv 0 σ H1 ∧ (∀ i σ H, i ≤ xs.length → Pv i σ H → SqT K H a xs) ∧
      (∀ (i : Nat) x σ H, xs[i]? = some x → Pv i σ H → g x σ H fun σ2 H2 => tb { D with nx := Pv (i + 1), ct := Pv (i + 1), bk := D.nx } σ2 H2) ∧
      ∀ σ H, Pv xs.length σ H → D.nx σ H
  | _ => False
theorem mforT {a : Expr} {ta : TE} {pos' : Pos} {body : List Stmt} {tg : Expr} {g : TG} {tb : TS} (hp : PassesOwn (model X.prog X.w) X.A X.env X.xe) (hc : X.calm = true)
    (ha : PE X a ta) (hG : PG X tg g) (hb : PSs X body tb) (hf : ∀ x, foldedSetIterable a X.env x = pure x := by intro _; rfl) :
    PS X (.For tg a body [] pos') (mForT X.K ta g tb) := by
  have q := ps_for (pos := pos') hp hc (pi_tup (tg := tg) (mono_pe ha)) hG hb hf
  refine PS.imp ?_ q
  intro D σ H h
  refine ⟨_, h, ?_⟩
  intro v H1 h1
  cases v with
  | ref a =>
    obtain ⟨xs, h2, Pv, p0, pl, ps, pd⟩ := h1
    exact ⟨a, rfl, ⟨xs, h2⟩, for_tup (xs := xs) Pv p0 pl ps pd⟩
  | _ => exact h1.elim
/-- o[i] = e, o a list -/
def mSetI : V → V → V → Hp → (Hp → Prop) → Prop := fun o i v H Q => match o, i with
  | .ref p, .int k => ∃ xs j, H p = some (.lst xs) ∧ ixN xs.length k = some j ∧ Q (upd H p (.lst (xs.set j v)))
  | _, _ => False
theorem setM : PSet X mSetI := by
  intro pins s σ H o i v o' i' v' Q I ro ri rv q
  refine set_list pins s σ H o i v o' i' v' Q I ro ri rv ?_
  cases o <;> cases i <;> first
    | exact q.elim
    | (obtain ⟨xs, j, h1, h2, h3⟩ := q; exact ⟨_, xs, _, j, rfl, rfl, h1, h2, h3⟩)
/-- x += e at a name -/
def mIp : TIp := fun x y H Q => match x, y with
  | .int i, .int j => Q (.int (i + j)) H
  | _, _ => False
theorem ipAdd : PIp X .Add mIp := by
  intro pins s σ H x y v u Q I rx ry q
  refine ip_add pins s σ H x y v u Q I rx ry ?_
  cases x <;> cases y <;> first
    | exact q.elim
    | exact ⟨_, _, rfl, rfl, q⟩
def mAug (i : Nat) (te : TE) (ti : TIp) : TS := fun D σ H => match σ[i]? with
  | some (some x) => te σ H fun y H1 => ti x y H1 fun z H2 => D.nx (σ.set i (some z)) H2
  | _ => False
theorem maug {i : Nat} {x : Str} {e : Expr} {te : TE} {op : Operator} {ti : TIp} {pos pos' : Pos} (hN : X.N.Nodup) (hi : X.N[i]? = some x) (hx : Loc X.env.scope x) (he : PE X e te) (ho : PIp X op ti)
    (hf : X.fn x = true ∨ X.env.scope.names.lookup x = some .local := by first | exact .inl rfl | exact .inr rfl | assumption) : PS X (.AugAssign (.Name x pos') op e pos) (mAug i te ti) := by
  refine PS.imp ?_ (ps_aug hN hi hx he ho hf)
  intro D σ H h
  unfold mAug at h
  split at h
  · rename_i v e
    exact ⟨v, e, h⟩
  · exact h.elim
/-- xs.append(e) -/
def mApp (to ta : TE) : TS := fun D σ H => to σ H fun x H1 => match x with
  | .ref l => (∃ xs, H1 l = some (.lst xs)) ∧ ta σ H1 fun y H2 => ∃ xs, H2 l = some (.lst xs) ∧ xs.length < sizeLine ∧ D.nx σ (upd H2 l (.lst (xs ++ [y])))
  | _ => False
end
end T3
namespace T3
open PySem PySem.Spec PyProof.Rows L2
section
variable {X : Cx}
/-! ### the module's constants -/
def GS (mg : Str → Option Value) (x z : Str) : Prop := ∃ t, mg x = some (.str z t)
def GT (K : PySem.W.Frag) (mg : Str → Option Value) (x : Str) (xs : List V) : Prop := ∃ p, mg x = some (.ref p) ∧ ∀ H, SqT K H p xs
theorem pe_gs {x z : Str} {pos : Pos} (hg : Gl X x) (h : GS X.mg x z) (hd : (x == ("__debug__" : Str)) = false := by decide) : PE X (.Name x pos) (tC (.str z)) := by
  obtain ⟨t, h⟩ := h
  exact pe_glob hg h ⟨t, rfl⟩ hd
def mGT (K : PySem.W.Frag) (xs : List V) : TE := fun _ H Q => ∀ p, (∀ H, SqT K H p xs) → Q (.ref p) H
theorem pe_gt {x : Str} {xs : List V} {pos : Pos} (hg : Gl X x) (h : GT X.K X.mg x xs) (hd : (x == ("__debug__" : Str)) = false := by decide) : PE X (.Name x pos) (mGT X.K xs) := by
  obtain ⟨p, h, hp⟩ := h
  exact PE.imp (fun σ H Q q => q p hp) (pe_glob hg h rfl hd)

/-! ### defs that are called -/
/-- the def of this name keeps this promise -/
def Cal (P : Program) (w : World) (K : PySem.W.Frag) (mg : Str → Option Value) (base : Heap) (x : Str) (k : Nat) (ps : List Str) (sp : Sp) : Prop :=
  ∃ (f : Addr) (fd : FuncData), FnOk P w K mg base CX0 k f fd ps sp ∧ mg x = some (.ref f) ∧ PySem.W.keepIn K (.ref f) = true ∧ Binds K fd ps []
def CalG (P : Program) (w : World) (K : PySem.W.Frag) (mg : Str → Option Value) (base : Heap) (x : Str) (k : Nat) (ps : List Str) (sp : Sp) : Prop :=
  ∃ (f : Addr) (fd : FuncData), FnG P w K mg base CX0 k f fd ps sp ∧ mg x = some (.ref f) ∧ PySem.W.keepIn K (.ref f) = true ∧ Binds K fd ps []
def CalK (P : Program) (w : World) (K : PySem.W.Frag) (mg : Str → Option Value) (base : Heap) (x : Str) (k : Nat) (ps : List Str) (sp : Sp) : Prop :=
  ∃ (f : Addr) (fd : FuncData), FnOk P w K mg base CX0 k f fd ps sp ∧ mg x = some (.ref f) ∧ PySem.W.keepIn K (.ref f) = true ∧
    KBinds K fd ps ps (fun us ws => us ++ ws) (fun us ws => us ++ ws)
def mCall (sp : Sp) (t : TA) : TE := fun σ H Q => t σ H fun vs H1 => sp vs H1 Q E0
theorem mono_pa {es : List Expr} {t : TA} (h : PA X es t) : PA X es (fun σ H Q => ∃ Q0 : List V → Hp → Prop, t σ H Q0 ∧ ∀ v H', Q0 v H' → Q v H') := by
  constructor
  rintro pos pins s σ H Q I ⟨Q0, q, i⟩
  refine thn (h.run pos pins s σ H Q0 I q) ?_
  rintro b s' ⟨v, H', I', r, q'⟩
  exact ⟨v, H', I', r, i v H' q'⟩
theorem pe_cal {x : Str} {k : Nat} {ps : List Str} {sp : Sp} {p pos : Pos} {e : Expr} {es : List Expr} {t : TA} (C : Cal X.prog X.w X.K X.mg X.base x k ps sp) (hr : Room k X.A) (hg : Gl X x) (ha : PA X (e :: es) t)
    (hdb : (x == ("__debug__" : Str)) = false := by decide) (he : starEach (e :: es) X.env = (false, eval e X.env) :: starEach es X.env := by rfl) (hpl : (backTo pos (starEach es X.env)).any (·.1) = false := by rfl) :
    PE X (.Call (.Name x p) (e :: es) [] pos) (mCall sp t) := by
  obtain ⟨f, fd, F, g, kp, b⟩ := C
  refine PE.imp ?_ (pe_call F hr hg g kp b .nil pass0 (mono_pa ha) hdb he hpl)
  intro σ H Q h
  refine ⟨_, h, fun v H' q => ?_⟩
  show sp (v ++ []) H' Q E0
  rw [List.append_nil]
  exact q
theorem pe_calG {x : Str} {k : Nat} {ps : List Str} {sp : Sp} {p pos : Pos} {e : Expr} {es : List Expr} {t : TA} (C : CalG X.prog X.w X.K X.mg X.base x k ps sp) (hG : X.A.guards = some []) (hr : Room k X.A) (hg : Gl X x) (ha : PA X (e :: es) t)
    (hdb : (x == ("__debug__" : Str)) = false := by decide) (he : starEach (e :: es) X.env = (false, eval e X.env) :: starEach es X.env := by rfl) (hpl : (backTo pos (starEach es X.env)).any (·.1) = false := by rfl) :
    PE X (.Call (.Name x p) (e :: es) [] pos) (mCall sp t) := by
  obtain ⟨f, fd, F, g, kp, b⟩ := C
  refine PE.imp ?_ (pe_callG F hG hr hg g kp b .nil pass0 (mono_pa ha) hdb he hpl)
  intro σ H Q h
  refine ⟨_, h, fun v H' q => ?_⟩
  show sp (v ++ []) H' Q E0
  rw [List.append_nil]
  exact q
theorem mono_pk {es : List Keyword} {t : TA} (h : PK X es t) : PK X es (fun σ H Q => ∃ Q0 : List V → Hp → Prop, t σ H Q0 ∧ ∀ v H', Q0 v H' → Q v H') := by
  constructor
  rintro pos pins s σ H Q I ⟨Q0, q, i⟩
  refine thn (h.run pos pins s σ H Q0 I q) ?_
  rintro b s' ⟨v, H', I', r, q'⟩
  exact ⟨v, H', I', r, i v H' q'⟩
theorem pe_calK {x : Str} {k : Nat} {ps : List Str} {sp : Sp} {p pos : Pos} {kws : List Keyword} {t : TA} (C : CalK X.prog X.w X.K X.mg X.base x k ps sp) (hr : Room k X.A) (hg : Gl X x) (ha : PK X kws t)
    (hall : (backToKw pos (keywordEach kws X.env)).all (·.1.isSome) = true := by rfl)
    (hks : (backToKw pos (keywordEach kws X.env)).filterMap (·.1) = ps := by rfl)
    (hdb : (x == ("__debug__" : Str)) = false := by decide)
    (hpl : ((backTo pos (starEach [] X.env)).any (·.1) || (backToKw pos (keywordEach kws X.env)).any (·.1.isNone)) = false := by rfl) :
    PE X (.Call (.Name x p) [] kws pos) (mCall sp t) := by
  obtain ⟨f, fd, F, g, kp, b⟩ := C
  exact PE.imp (fun σ H Q h => ⟨_, h, fun v H' q => q⟩) (pe_callK0 F hr hg g kp b pass0 (mono_pk ha) hall hks hdb hpl)
theorem kbinds1 {K : PySem.W.Frag} {x qual y : Str} {st : Stmt} {f : Addr} {fd : FuncData} (F : Fun K x qual st f fd)
    (h1 : ∀ (kV doc pm : Value) (an : Option Addr) (cdv ct u : Value), bindArgs (PySem.W.fnOf x qual (defArgs st) (defBody st) (defScope st) .none kV doc pm an cdv ct) ⟨[u], []⟩ = pure [(y, u)])
    (h2 : ∀ (kV doc pm : Value) (an : Option Addr) (cdv ct u : Value), bindArgs (PySem.W.fnOf x qual (defArgs st) (defBody st) (defScope st) .none kV doc pm an cdv ct) ⟨[], [(y, u)]⟩ = pure [(y, u)]) :
    KBinds K fd [y] [y] (fun us ws => us ++ ws) (fun us ws => us ++ ws) := by
  obtain ⟨oc, od, kV, doc, pm, an, cdv, ct, osl, rfl, lk, hcd⟩ := F.ex
  constructor
  · intro s us ws hk hl
    match us, ws, hl with
    | [], [v], _ => exact .of_eq (h2 kV doc pm an cdv ct v)
    | [u], [], _ => exact .of_eq (h1 kV doc pm an cdv ct u)
    | [], [], hl => exact absurd hl (by simp)
    | _ :: _ :: _, _, hl => exact absurd hl (by simp)
    | [_], _ :: _, hl => exact absurd hl (by simp)
    | [], _ :: _ :: _, hl => exact absurd hl (by simp)
  · intro vs us zs ws r rz
    exact r.append rz

/-! ### and, or -/
theorem PW.imp {e : Expr} {t t' : TT} (i : ∀ σ H Q, t' σ H Q → t σ H Q) (h : PW X e t) : PW X e t' :=
  ⟨fun wh pins s σ H Q I q => h.run wh pins s σ H Q I (i σ H Q q)⟩
def mAnd (t u : TT) : TT := fun σ H Q => t σ H fun c H1 => (c = true → u σ H1 Q) ∧ (c = false → Q false H1)
theorem mand {a b : Expr} {rest : List Expr} {pos : Pos} {tA tB : TT} (ha : PT X a tA) (hb : PW X (.BoolOp .And (b :: rest) pos) tB) : PW X (.BoolOp .And (a :: b :: rest) pos) (mAnd tA tB) := by
  refine PW.imp ?_ (pw_and (PT.close ha) hb)
  intro σ H Q h
  refine ⟨_, h, ?_⟩
  intro b H' q
  cases b with
  | true => exact iteT (q.1 rfl)
  | false => exact iteF (q.2 rfl)
def mOr (t u : TT) : TT := fun σ H Q => t σ H fun c H1 => (c = true → Q true H1) ∧ (c = false → u σ H1 Q)
theorem mor {a b : Expr} {rest : List Expr} {pos : Pos} {tA tB : TT} (ha : PT X a tA) (hb : PW X (.BoolOp .Or (b :: rest) pos) tB) : PW X (.BoolOp .Or (a :: b :: rest) pos) (mOr tA tB) := by
  refine PW.imp ?_ (pw_or (PT.close ha) hb)
  intro σ H Q h
  refine ⟨_, h, ?_⟩
  intro b H' q
  cases b with
  | true => exact iteT (q.1 rfl)
  | false => exact iteF (q.2 rfl)
def mAndV (ta tb : TE) : TE := fun σ H Q => ta σ H fun x H1 => match x with
  | .bl c => (c = true → tb σ H1 Q) ∧ (c = false → Q (.bl false) H1)
  | _ => False
theorem mandV {a b : Expr} {rest : List Expr} {pos : Pos} {ta tb : TE} (ha : PE X a ta) (hb : PE X (.BoolOp .And (b :: rest) pos) tb) : PE X (.BoolOp .And (a :: b :: rest) pos) (mAndV ta tb) := by
  refine PE.imp ?_ (pe_and (mono_pe ha) hb)
  intro σ H Q h
  refine ⟨_, h, ?_⟩
  intro v H' q
  cases v with
  | bl c =>
    refine ⟨c, rfl, ?_⟩
    cases c with
    | true => exact iteT (q.1 rfl)
    | false => exact iteF (q.2 rfl)
  | _ => exact q.elim

/-! ### e if c else f -/
def mIfE (c : TT) (ta tb : TE) : TE := fun σ H Q => c σ H fun b H1 => (b = true → ta σ H1 Q) ∧ (b = false → tb σ H1 Q)
theorem mifE {c a b : Expr} {tc : TT} {ta tb : TE} {pos : Pos} (hc : PT X c tc) (ha : PE X a ta) (hb : PE X b tb) : PE X (.IfExp c a b pos) (mIfE tc ta tb) := by
  refine PE.imp ?_ (pe_ifExp (PT.close hc) ha hb)
  intro σ H Q h
  refine ⟨_, h, ?_⟩
  intro b H' q
  cases b with
  | true => exact iteT (q.1 rfl)
  | false => exact iteF (q.2 rfl)
theorem unNeg : UnR X (unaryOp .USub) (fun x H Q => match x with | .int i => Q (.int (-i)) H | _ => False) := by
  intro pins s σ H x v Q I rx h
  refine un_neg pins s σ H x v Q I rx ?_
  cases x <;> first
    | exact h.elim
    | exact ⟨_, rfl, h⟩
theorem mapp {o e : Expr} {to ta : TE} {apos cpos pos : Pos} (ho : PE X o to) (ha : PE X e ta)
    (hbase : attributeBase o "append" X.env (eval o X.env) = eval o X.env := by rfl)
    (hfew : ((backTo cpos (starEach [e] X.env)).all (fun x => !x.1) && (backToKw cpos (keywordEach [] X.env)).all (fun x => x.1.isSome)
      && decide (([e] : List Expr).length + ([] : List Keyword).length + (if ([] : List Keyword).isEmpty then 0 else 1) < 30)) = true := by rfl)
    (hline : (apos.endLine == cpos.line) = true := by rfl) (hs : starEach [e] X.env = (false, eval e X.env) :: starEach [] X.env := by rfl)
    (hplain : (backTo cpos (starEach [] X.env)).any (·.1) = false := by rfl)
    (hsw : swapsWith (.Call (.Attribute o "append" apos) [e] [] cpos) none pos.line X.env = pure false := by rfl) :
    PS X (.Expr (.Call (.Attribute o "append" apos) [e] [] cpos) pos) (mApp to ta) := by
  refine PS.imp ?_ (ps_expr (pos := pos) (pe_bm PySem.F.plainAttrs_list PySem.F.slot_list_append PySem.F.type_list_append mt_append (mono_pe ho) (pa_cons (mono_pe ha) pa_nil hs) hbase hfew hline hs hplain) hsw)
  intro D σ H h
  refine ⟨_, h, ?_⟩
  intro v H1 h1
  cases v with
  | ref l =>
    obtain ⟨⟨xs, hx⟩, h2⟩ := h1
    refine ⟨.inl ⟨rfl, xs, SqL.of hx⟩, _, h2, ?_⟩
    rintro y H2 ⟨ys, e1, e2, q⟩
    exact ⟨l, ys, y, rfl, rfl, e1, e2, q⟩
  | _ => exact h1.elim
end
end T3
/-! data that never changes (Tp), comprehensions over lists -/
namespace T3
open PySem PySem.Spec PyProof.Rows L2
mutual
/-- None, bools, ints, texts, tuples of these -/
inductive Tp (H : Hp) : V → PyData → Prop
  | non : Tp H .non .none
  | bl (b : Bool) : Tp H (.bl b) (.bool b)
  | int (i : Int) : Tp H (.int i) (.int i)
  | str (x : Str) : Tp H (.str x) (.str x)
  | tup {a : Addr} {xs : List V} {ds : List PyData} : H a = some (.tup xs) → TpAll H xs ds → Tp H (.ref a) (.tuple ds)
inductive TpAll (H : Hp) : List V → List PyData → Prop
  | nil : TpAll H [] []
  | cons {v : V} {vs : List V} {d : PyData} {ds : List PyData} : Tp H v d → TpAll H vs ds → TpAll H (v :: vs) (d :: ds)
end
/-- tuples stay -/
def Ktp (H H' : Hp) : Prop := ∀ a xs, H a = some (.tup xs) → H' a = some (.tup xs)
theorem Ktp.refl (H : Hp) : Ktp H H := fun _ _ e => e
theorem Ktp.trans {H H1 H2 : Hp} (a : Ktp H H1) (b : Ktp H1 H2) : Ktp H H2 := fun x xs e => b x xs (a x xs e)
theorem Ktp.new {H : Hp} {p : Addr} {o : HO} (h : H p = none) : Ktp H (upd H p o) := fun a xs e => by
  rw [upd_ne (ne_of_none e h)]
  exact e
theorem Ktp.lst {H : Hp} {p : Addr} {ys zs : List V} (h : H p = some (.lst ys)) : Ktp H (upd H p (.lst zs)) := fun a xs e => by
  rw [upd_ne (ne_of e h (fun z => nomatch z))]
  exact e
theorem Ktp.same {H H' : Hp} (h : Same H H') : Ktp H H' := fun a xs e => h a _ e
mutual
theorem Tp.keep {H H' : Hp} (k : Ktp H H') : ∀ {v : V} {d : PyData}, Tp H v d → Tp H' v d
  | _, _, .non => .non
  | _, _, .bl b => .bl b
  | _, _, .int i => .int i
  | _, _, .str x => .str x
  | _, _, .tup h t => .tup (k _ _ h) (TpAll.keep k t)
theorem TpAll.keep {H H' : Hp} (k : Ktp H H') : ∀ {v : List V} {d : List PyData}, TpAll H v d → TpAll H' v d
  | _, _, .nil => .nil
  | _, _, .cons h t => .cons (Tp.keep k h) (TpAll.keep k t)
end
mutual
theorem Tp.dp {K : PySem.W.Frag} {H : Hp} : ∀ {v : V} {d : PyData}, Tp H v d → Dp K H v d
  | _, _, .non => .non
  | _, _, .bl b => .bl b
  | _, _, .int i => .int i
  | _, _, .str x => .str x
  | _, _, .tup h t => .tup (SqT.of h) (TpAll.dp t)
theorem TpAll.dp {K : PySem.W.Frag} {H : Hp} : ∀ {v : List V} {d : List PyData}, TpAll H v d → DpAll K H v d
  | _, _, .nil => .nil
  | _, _, .cons h t => .cons (Tp.dp h) (TpAll.dp t)
end
theorem TpAll.length {H : Hp} : ∀ {v : List V} {d : List PyData}, TpAll H v d → v.length = d.length
  | _, _, .nil => rfl
  | _, _, .cons _ t => by
    rw [List.length_cons, List.length_cons, t.length]
theorem TpAll.snoc {H : Hp} : ∀ {v : List V} {d : List PyData} {x : V} {e : PyData}, TpAll H v d → Tp H x e → TpAll H (v ++ [x]) (d ++ [e])
  | _, _, _, _, .nil, h => .cons h .nil
  | _, _, _, _, .cons a t, h => .cons a (TpAll.snoc t h)
theorem TpAll.get {H : Hp} : ∀ {v : List V} {d : List PyData} {i : Nat} {x : V}, TpAll H v d → v[i]? = some x → ∃ e, d[i]? = some e ∧ Tp H x e
  | _, _, _, _, .nil, h => by simp at h
  | _, _, 0, _, .cons a t, h => by
    simp at h
    subst h
    exact ⟨_, rfl, a⟩
  | _, _, i + 1, _, .cons a t, h => by
    obtain ⟨e, h1, h2⟩ := TpAll.get (i := i) t (by simpa using h)
    exact ⟨e, by simpa using h1, h2⟩
theorem TpAll.getD {H : Hp} : ∀ {v : List V} {d : List PyData} {i : Nat} {e : PyData}, TpAll H v d → d[i]? = some e → ∃ x, v[i]? = some x ∧ Tp H x e
  | _, _, _, _, .nil, h => by simp at h
  | _, _, 0, _, .cons a t, h => by
    simp at h
    subst h
    exact ⟨_, rfl, a⟩
  | _, _, i + 1, _, .cons a t, h => by
    obtain ⟨e, h1, h2⟩ := TpAll.getD (i := i) t (by simpa using h)
    exact ⟨e, by simpa using h1, h2⟩
/-- a pair -/
theorem Tp.two {H : Hp} {v : V} {d e : PyData} (h : Tp H v (.tuple [d, e])) : ∃ a x y, v = .ref a ∧ H a = some (.tup [x, y]) ∧ Tp H x d ∧ Tp H y e := by
  cases h with
  | tup ha t =>
    cases t with
    | cons t1 t2 =>
      cases t2 with
      | cons t3 t4 =>
        cases t4
        exact ⟨_, _, _, rfl, ha, t1, t3⟩
theorem Tp.int_eq {H : Hp} {v : V} {i : Int} (h : Tp H v (.int i)) : v = .int i := by
  cases h
  rfl
theorem Tp.str_eq {H : Hp} {v : V} {i : Str} (h : Tp H v (.str i)) : v = .str i := by
  cases h
  rfl

section
variable {X : Cx}
/-- [e for .. in a list that stays] -/
def mLc (K : PySem.W.Frag) (te : TE) (g : TG) (el : TE) (vs : List Nat) : TE := fun σ H Q => te σ H fun x H1 => match x with
  | .ref a => ∃ xs, SqL K H1 a xs ∧ ∀ D, H1 D = none → ∃ Pv : Nat → Hp → Prop, Pv 0 (upd H1 D (.lst [])) ∧ (∀ i H, i ≤ xs.length → Pv i H → SqL K H a xs) ∧
      (∀ i x H, xs[i]? = some x → Pv i H → g x (wipe σ vs) H fun σ2 H2 => wipe σ2 vs = wipe σ vs ∧ el σ2 H2 fun y H3 =>
        ∃ acc, H3 D = some (.lst acc) ∧ acc.length < sizeLine ∧ Pv (i + 1) (upd H3 D (.lst (acc ++ [y])))) ∧ ∀ H, Pv xs.length H → Q (.ref D) H
  | _ => False
theorem mlc {elt tg iter : Expr} {scope : Scope} {own : List (Str × Nat)} {pos : Pos} {g : TG} {te el : TE} (hc : X.calm = true) (hN : X.N.Nodup) (hi : PE X iter te) (ok : BlkOk X.N X.env.scope scope own)
    (hg : ∀ (s : Shared) (H : Hp) (C : Addr) (cl : List (Str × Addr)) (fp : List Addr), PG (X.blk s H scope (compEnvC scope cl C X.env) fp) tg g)
    (he : ∀ (s : Shared) (H : Hp) (C : Addr) (cl : List (Str × Addr)) (fp : List Addr), PE (X.blk s H scope (compEnvC scope cl C X.env) fp) elt el)
    (hs : ∀ x, foldedSetIterable iter X.env x = pure x := by intro _; rfl) : PE X (.ListComp elt [⟨tg, iter, [], 0⟩] scope pos) (mLc X.K te g el (own.map (·.2))) := by
  refine PE.imp ?_ (pe_lc hc hN (pi_list (mono_pe hi)) ok hg (fun _ _ _ _ _ => pts_nil) he hs)
  intro σ H Q h
  refine ⟨_, h, ?_⟩
  intro v H1 h1
  cases v with
  | ref a =>
    obtain ⟨xs, h2, h3⟩ := h1
    refine ⟨a, rfl, ⟨xs, h2⟩, fun D hD => ?_⟩
    obtain ⟨Pv, p0, pl, ps, pd⟩ := h3 D hD
    exact lc_list (xs := xs) Pv p0 pl ps pd
  | _ => exact h1.elim
end
end T3
namespace T3
open PySem PySem.Spec PyProof.Rows L2
section
variable {X : Cx} {t u : TS} {st : Stmt} {rest : List Stmt}
/-- a statement and the rest, what stands between them told once -/
def mCut (t u : TS) : TS := fun D σ H => ∃ M : L2.St → Hp → Prop, t { D with nx := M } σ H ∧ ∀ σ' H', M σ' H' → u D σ' H'
theorem mcut (h1 : PS X st t) (h2 : PSs X rest u) : PSs X (st :: rest) (mCut t u) := by
  constructor
  rintro pins s σ H D I ⟨M, hm, hu⟩
  refine wpAny_execs_cons (thn (h1.run pins s σ H { D with nx := M } I hm) ?_)
  intro f s1 q
  cases f with
  | next =>
    obtain ⟨σ', H', I', q'⟩ := q
    exact h2.run pins s1 σ' H' D I' (hu σ' H' q')
  | ret v => exact q
  | brk => exact q
  | cont => exact q
end
end T3
/-! data that is shown and compared -/
namespace T3
open PySem PySem.Spec PyProof.Rows L2
structure Gd (D B : Nat) (d : PyData) : Prop where
  sh : d.showable = true
  cl : d.canLay0 = true
  dp : d.depth ≤ D
  ln : d.shown.length ≤ B
theorem gd_all {D B : Nat} : ∀ {ds : List PyData}, (∀ d ∈ ds, Gd D B d) → PyData.showableAll ds = true ∧ PyData.canLayAll0 ds = true ∧ PyData.depthAll ds ≤ D ∧
    ((PyData.shownAll ds).map (·.length)).sum ≤ B * ds.length ∧ (PyData.shownAll ds).length = ds.length
  | [], _ => ⟨rfl, rfl, Nat.zero_le _, Nat.zero_le _, rfl⟩
  | d :: ds, h => by
    obtain ⟨a, b, c, e, f⟩ := gd_all (ds := ds) fun x hx => h x (List.mem_cons_of_mem _ hx)
    have g := h d List.mem_cons_self
    refine ⟨?_, ?_, ?_, ?_, ?_⟩
    · simp only [PyData.showableAll, g.sh, a, Bool.and_self]
    · simp only [PyData.canLayAll0, g.cl, b, Bool.and_self]
    · simp only [PyData.depthAll]
      exact Nat.max_le.mpr ⟨g.dp, c⟩
    · simp only [PyData.shownAll, List.map_cons, List.sum_cons, List.length_cons]
      have := g.ln
      rw [Nat.mul_add, Nat.mul_one]
      omega
    · simp only [PyData.shownAll, List.length_cons, f]
theorem gd_tup {D B n C : Nat} {ds : List PyData} (h : ∀ d ∈ ds, Gd D B d) (hn : ds.length ≤ n) (hC : B * n + 2 * n + 3 ≤ C) : Gd (D + 1) C (.tuple ds) := by
  obtain ⟨a, b, c, e, f⟩ := gd_all h
  refine ⟨?_, ?_, ?_, ?_⟩
  · simpa only [PyData.showable] using a
  · simpa only [PyData.canLay0] using b
  · simp only [PyData.depth]
    omega
  · simp only [PyData.shown]
    have h1 := tupleText_len_le (PyData.shownAll ds)
    rw [f] at h1
    have h2 : B * ds.length ≤ B * n := Nat.mul_le_mul_left _ hn
    omega
theorem gd_str {n : Nat} {x : Str} (h1 : x.length ≤ n) (h2 : ∀ c ∈ x.cps.toList, c < 128) : Gd 0 (10 * n + 2) (.str x) := by
  refine ⟨rfl, ?_, Nat.le_refl _, ?_⟩
  · simp only [PyData.canLay0, PyData.strOk]
    rw [← Array.all_toList, List.all_eq_true]
    intro c hc
    exact decide_eq_true (Nat.lt_of_lt_of_le (h2 c hc) (by decide))
  · simp only [PyData.shown]
    have := StrLaws.reprText_len x fun c hc => Nat.lt_of_lt_of_le (h2 c hc) (by decide)
    omega
theorem Gd.repr {D B : Nat} {d : PyData} (g : Gd D B d) (hD : D ≤ 100) (hB : B ≤ 1000000) : d.showable = true ∧ d.hasDict = false ∧ d.depth ≤ 100 ∧ d.shown.length ≤ sizeLine :=
  ⟨g.sh, PyData.hasDict_of_canLay d g.cl, Nat.le_trans g.dp hD, Nat.le_trans (Nat.le_trans g.ln hB) (by decide)⟩
theorem Gd.shaped {D B : Nat} {d : PyData} (g : Gd D B d) (hD : D ≤ 64) : SeqAt.shaped d = true := by
  unfold SeqAt.shaped
  rw [g.cl, decide_eq_true (Nat.le_trans g.dp hD)]
  rfl
theorem Gd.eqv {D B : Nat} {d : PyData} (g : Gd D B d) : PyData.eqv d d = true := SeqAt.eqv_refl d g.cl
end T3
set_option maxHeartbeats 2000000
/-! list(zip(a, b)) of two tuples -/
namespace T5
open PySem PySem.W PySem.Calls PyProof.Rows PyProof.V PySem.Spec
section
variable {prog : Program} {w : World} {A : Around} {E : Value → Shared → Prop} {s : Shared}
theorem next_item_held {z TI TO T i1 i2 l1 l2 : Addr} {f : Bool} {oT : Obj} {k1 k2 : Nat} {xs ys : Array Value} {x y : Value} {Q : Value → Shared → Prop} (D : ZipApart z TI TO i1 i2 l1 l2)
    (hz : IsZipHeld s.heap z TI TO T f) (hT : s.heap.get? T = some oT) (hTI : IsPair s.heap TI (.ref i1) (.ref i2))
    (h1 : s.heap.IsTupleIter i1 l1 k1) (h2 : s.heap.IsTupleIter i2 l2 k2) (hl1 : s.heap.IsTuple l1 xs) (hl2 : s.heap.IsTuple l2 ys) (hx : xs[k1]? = some x) (hy : ys[k2]? = some y)
    (hQ : ∀ h', IsZipHeld h' z TI TO T true → h'.IsTupleIter i1 l1 (k1 + 1) → h'.IsTupleIter i2 l2 (k2 + 1) → IsPair h' s.heap.objs.size x y → h'.objs.size = s.heap.objs.size + 1 →
      (∀ c o, c ≠ z → c ≠ i1 → c ≠ i2 → s.heap.get? c = some o → h'.get? c = some o) → Q (.ref s.heap.objs.size) { s with heap := h' }) :
    wpAny (model prog w) A (Builtin.«zip.__next__» ⟨[.ref z], []⟩) (fun fin s' => ∃ v, fin = .done (.ret v) ∧ Q v s') E s := by
  show wpAny _ _ (field (.ref z) 2 >>= _) _ _ _
  refine wpAny_bind (wpAny_field hz rfl (x := .bool false) rfl ?_)
  show wpAny _ _ (field (.ref z) 3 >>= _) _ _ _
  refine wpAny_bind (wpAny_field hz rfl (x := .ref TI) rfl ?_)
  refine wpAny_bind (wpAny_seqItems hTI rfl ?_)
  show wpAny _ _ (Builtin.SmallTypes.ownedTupleIsFree (.ref z) >>= _) _ _ _
  refine wpAny_bind (wpAny_tupleHeld_zip hz hT fun h₁ hz₁ hs₁ => ?_)
  simp only [Bool.false_eq_true, if_false]
  refine wpAny_bind ?_
  rw [← Array.forIn_toList]
  simp only [List.forIn_cons, List.forIn_nil]
  refine wpAny_bind (wpAny_bind (wpAny_holding ?_))
  show wpAny _ _ (Builtin.SmallTypes.nextOf (.ref i1) >>= _) _ _ _
  refine wpAny_bind (RZ.nextOf_tuple_item (s := { s with heap := h₁ }) (h1.extBut hs₁.extBut D.i1z) (hl1.extBut hs₁.extBut D.l1z) hx fun h₂ h1₂ hs₂ => wpAny_pure ?_)
  refine wpAny_pure ?_
  refine wpAny_bind (wpAny_bind (wpAny_holding ?_))
  show wpAny _ _ (Builtin.SmallTypes.nextOf (.ref i2) >>= _) _ _ _
  refine wpAny_bind (RZ.nextOf_tuple_item (s := { s with heap := h₂ }) ((h2.extBut hs₁.extBut D.i2z).extBut hs₂.extBut D.i12.symm) ((hl2.extBut hs₁.extBut D.l2z).extBut hs₂.extBut D.l2i1) hy fun h₃ h2₃ hs₃ => wpAny_pure ?_)
  refine wpAny_pure (wpAny_pure ?_)
  show wpAny _ _ (newTuple [x, y] >>= _) _ _ _
  refine wpAny_bind (wpAny_newTuple ?_)
  have hsz : h₃.objs.size = s.heap.objs.size := by rw [hs₃.1, hs₂.1, hs₁.1]
  have hz₃ : IsZipHeld h₃ z TI TO T true := hs₃.extBut _ _ D.i2z.symm (hs₂.extBut _ _ D.i1z.symm hz₁)
  have hk : ∀ c o, c ≠ z → c ≠ i1 → c ≠ i2 → s.heap.get? c = some o → h₃.get? c = some o := fun c o c1 c2 c3 e => hs₃.extBut _ _ c3 (hs₂.extBut _ _ c2 (hs₁.extBut _ _ c1 e))
  have h1₃ : h₃.IsTupleIter i1 l1 (k1 + 1) := h1₂.extBut hs₃.extBut D.i12
  refine wpAny_pure ⟨_, rfl, ?_⟩
  show Q (.ref h₃.objs.size) _
  have hp : IsPair (h₃.push { cls := .type "tuple", data := .seq #[x, y] }) h₃.objs.size x y := Heap.get?_push_size _ rfl
  have hz4 : (h₃.push { cls := .type "tuple", data := .seq #[x, y] }).objs.size = h₃.objs.size + 1 := Heap.size_push ..
  rw [hsz] at hp hz4 ⊢
  exact hQ _ (Heap.get?_push_of_some _ hz₃) (h1₃.at fun o e => Heap.get?_push_of_some _ e) (h2₃.at fun o e => Heap.get?_push_of_some _ e) hp hz4 fun c o c1 c2 c3 e => Heap.get?_push_of_some _ (hk c o c1 c2 c3 e)

theorem next_end_held {z TI TO T i1 i2 l1 l2 : Addr} {f : Bool} {oT : Obj} {k1 : Nat} {xs : Array Value} {Q : Fin → Shared → Prop} (hh : A.handled = none) (D : ZipApart z TI TO i1 i2 l1 l2)
    (hz : IsZipHeld s.heap z TI TO T f) (hT : s.heap.get? T = some oT) (hTI : IsPair s.heap TI (.ref i1) (.ref i2))
    (h1 : s.heap.IsTupleIter i1 l1 k1) (hl1 : s.heap.IsTuple l1 xs) (hx : xs[k1]? = none)
    (hE : ∀ h' e, (∀ c o, c ≠ z → c ≠ i1 → s.heap.get? c = some o → h'.get? c = some o) → (∃ o, h'.get? e = some o ∧ o.cls = .type "StopIteration") → E (.ref e) { s with heap := h' }) :
    wpAny (model prog w) A (Builtin.«zip.__next__» ⟨[.ref z], []⟩) Q E s := by
  show wpAny _ _ (field (.ref z) 2 >>= _) _ _ _
  refine wpAny_bind (wpAny_field hz rfl (x := .bool false) rfl ?_)
  show wpAny _ _ (field (.ref z) 3 >>= _) _ _ _
  refine wpAny_bind (wpAny_field hz rfl (x := .ref TI) rfl ?_)
  refine wpAny_bind (wpAny_seqItems hTI rfl ?_)
  show wpAny _ _ (Builtin.SmallTypes.ownedTupleIsFree (.ref z) >>= _) _ _ _
  refine wpAny_bind (wpAny_tupleHeld_zip hz hT fun h₁ hz₁ hs₁ => ?_)
  simp only [Bool.false_eq_true, if_false]
  refine wpAny_bind ?_
  rw [← Array.forIn_toList]
  simp only [List.forIn_cons, List.forIn_nil]
  refine wpAny_bind (wpAny_bind (wpAny_holding ?_))
  show wpAny _ _ (Builtin.SmallTypes.nextOf (.ref i1) >>= _) _ _ _
  refine wpAny_bind (RZ.nextOf_tuple_end (s := { s with heap := h₁ }) hh (h1.extBut hs₁.extBut D.i1z) (hl1.extBut hs₁.extBut D.l1z) hx fun h₂ e hs₂ he => ?_)
  exact hE h₂ e (fun c o c1 c2 x => hs₂ _ _ c2 (hs₁.extBut _ _ c1 x)) he

structure ZS (h : Heap) (z TI TO i1 i2 l1 l2 S : Addr) (xs ys : Array Value) (k : Nat) : Prop where
  pTI : IsPair h TI (.ref i1) (.ref i2)
  p1 : h.IsTupleIter i1 l1 k
  p2 : h.IsTupleIter i2 l2 k
  t1 : h.IsTuple l1 xs
  t2 : h.IsTuple l2 ys
  st : (IsZip h z TI TO .none ∧ ∃ a b, IsPair h TO a b) ∨ ∃ T f oT, IsZipHeld h z TI TO T f ∧ h.get? T = some oT ∧ T ≠ z ∧ T ≠ i1 ∧ T ≠ i2 ∧ T ≠ S
structure Ofs (z TI TO i1 i2 l1 l2 S : Addr) : Prop where
  z : z ≠ S
  TI : TI ≠ S
  TO : TO ≠ S
  i1 : i1 ≠ S
  i2 : i2 ≠ S
  l1 : l1 ≠ S
  l2 : l2 ≠ S
theorem ZS.keep {h h' : Heap} {z TI TO i1 i2 l1 l2 S : Addr} {xs ys : Array Value} {k : Nat} (q : ZS h z TI TO i1 i2 l1 l2 S xs ys k) (O : Ofs z TI TO i1 i2 l1 l2 S) (hk : ∀ b o, b ≠ S → h.get? b = some o → h'.get? b = some o) :
    ZS h' z TI TO i1 i2 l1 l2 S xs ys k := by
  refine ⟨hk _ _ O.TI q.pTI, q.p1.at fun o e => hk _ o O.i1 e, q.p2.at fun o e => hk _ o O.i2 e, let ⟨o, ho, r⟩ := q.t1; ⟨o, hk _ _ O.l1 ho, r⟩, let ⟨o, ho, r⟩ := q.t2; ⟨o, hk _ _ O.l2 ho, r⟩, ?_⟩
  rcases q.st with ⟨hz, a, b, hTO⟩ | ⟨T, f, oT, hz, hT, r1, r2, r3, r4⟩
  · exact .inl ⟨hk _ _ O.z hz, a, b, hk _ _ O.TO hTO⟩
  · exact .inr ⟨T, f, oT, hk _ _ O.z hz, hk _ _ r4 hT, r1, r2, r3, r4⟩
theorem nxt {z TI TO i1 i2 l1 l2 S : Addr} {k : Nat} {xs ys : Array Value} {x y : Value} {Q : Option Value → Shared → Prop} (D : ZipApart z TI TO i1 i2 l1 l2) (q : ZS s.heap z TI TO i1 i2 l1 l2 S xs ys k) (hS : S < s.heap.objs.size)
    (hx : xs[k]? = some x) (hy : ys[k]? = some y)
    (hQ : ∀ h', ZS h' z TI TO i1 i2 l1 l2 S xs ys (k + 1) → h'.get? s.heap.objs.size = some { cls := .type "tuple", data := .seq #[x, y] } → h'.objs.size = s.heap.objs.size + 1 →
      (∀ c o, c ≠ z → c ≠ TO → c ≠ i1 → c ≠ i2 → s.heap.get? c = some o → h'.get? c = some o) → Q (some (.ref s.heap.objs.size)) { s with heap := h' }) : wpAny (model prog w) A (pyNext (.ref z)) Q E s := by
  have lt : ∀ {c o}, s.heap.get? c = some o → s.heap.objs.size ≠ c := fun e => Nat.ne_of_gt (Heap.lt_size e)
  have n1 : s.heap.objs.size ≠ i1 := let ⟨_, e, _⟩ := q.p1; lt e
  have n2 : s.heap.objs.size ≠ i2 := let ⟨_, e, _⟩ := q.p2; lt e
  rcases q.st with ⟨hz, a, b, hTO⟩ | ⟨T, f, oT, hz, hT, r1, r2, r3, r4⟩
  · refine RZ.pyNext_zipT_item D hz q.pTI hTO q.p1 q.p2 q.t1 q.t2 hx hy fun h' a1 a2 a3 a4 a5 a6 hk => ?_
    exact hQ h' ⟨hk _ _ D.TIz D.TITO D.TIi1 D.TIi2 q.pTI, a3, a4, let ⟨o, ho, r⟩ := q.t1; ⟨o, hk _ _ D.l1z D.l1TO D.l1i1 D.l1i2 ho, r⟩, let ⟨o, ho, r⟩ := q.t2; ⟨o, hk _ _ D.l2z D.l2TO D.l2i1 D.l2i2 ho, r⟩,
      .inr ⟨s.heap.objs.size, false, _, a1, a5, lt hz, n1, n2, Nat.ne_of_gt hS⟩⟩ a5 a6 hk
  · have hTy : s.TypeIs (.ref z) "zip" := ⟨_, hz, rfl⟩
    unfold pyNext
    refine wpAny_bind (wpAny_attempt (wpAny_callSpecial?_slot (name := Str.ofString "__next__") hTy F.slot_zip_next
      (wpAny_call_entry F.slot_zip_next hTy F.entry_zip_next
        (next_item_held D hz hT q.pTI q.p1 q.p2 q.t1 q.t2 hx hy fun h' a1 a3 a4 a5 a6 hk => wpAny_pure ?_) (F.args_zip_next_1 _))))
    exact hQ h' ⟨hk _ _ D.TIz D.TIi1 D.TIi2 q.pTI, a3, a4, let ⟨o, ho, r⟩ := q.t1; ⟨o, hk _ _ D.l1z D.l1i1 D.l1i2 ho, r⟩, let ⟨o, ho, r⟩ := q.t2; ⟨o, hk _ _ D.l2z D.l2i1 D.l2i2 ho, r⟩,
      .inr ⟨T, true, oT, a1, hk _ _ r1 r2 r3 hT, r1, r2, r3, r4⟩⟩ a5 a6 fun c o c1 _ c3 c4 e => hk c o c1 c3 c4 e
theorem fin {z TI TO i1 i2 l1 l2 S : Addr} {k : Nat} {xs ys : Array Value} {Q : Option Value → Shared → Prop} (hh : A.handled = none) (D : ZipApart z TI TO i1 i2 l1 l2) (q : ZS s.heap z TI TO i1 i2 l1 l2 S xs ys k)
    (hx : xs[k]? = none) (hQ : ∀ h', (∀ c o, c ≠ z → c ≠ TO → c ≠ i1 → c ≠ i2 → s.heap.get? c = some o → h'.get? c = some o) → Q none { s with heap := h' }) : wpAny (model prog w) A (pyNext (.ref z)) Q E s := by
  rcases q.st with ⟨hz, a, b, hTO⟩ | ⟨T, f, oT, hz, hT, r1, r2, r3, r4⟩
  · exact RZ.pyNext_zipT_end hh D hz q.pTI hTO q.p1 q.p2 q.t1 q.t2 (.inl hx) fun h' hk => hQ h' hk
  · have hTy : s.TypeIs (.ref z) "zip" := ⟨_, hz, rfl⟩
    unfold pyNext
    refine wpAny_bind (wpAny_attempt (wpAny_callSpecial?_slot (name := Str.ofString "__next__") hTy F.slot_zip_next
      (wpAny_call_entry F.slot_zip_next hTy F.entry_zip_next (next_end_held hh D hz hT q.pTI q.p1 q.t1 hx fun h' e hk he => ?_) (F.args_zip_next_1 _))))
    obtain ⟨o, ho, hc⟩ := he
    refine wpAny_bind (wpAny_isInstance (T := "StopIteration") (b := true) ⟨o, ho, hc⟩ isSubtype_stop ?_)
    exact wpAny_pure (hQ _ fun c o c1 _ c3 _ e => hk c o c1 c3 e)

structure Made (xs ys : Array Value) (lo : Addr) (h : Heap) (as : List Addr) : Prop where
  rise : as.Pairwise (· < ·)
  above : ∀ a ∈ as, lo ≤ a
  pairs : ∀ (j : Nat) (a : Addr), as[j]? = some a → ∃ x y, xs[j]? = some x ∧ ys[j]? = some y ∧ h.get? a = some { cls := .type "tuple", data := .seq #[x, y] }
theorem Made.there {xs ys : Array Value} {lo : Addr} {h : Heap} {as : List Addr} (g : Made xs ys lo h as) {a : Addr} (ha : a ∈ as) : a < h.objs.size := by
  obtain ⟨j, hj⟩ := List.mem_iff_getElem?.mp ha
  obtain ⟨_, _, _, _, e⟩ := g.pairs j a hj
  exact Heap.lt_size e
theorem Made.low {xs ys : Array Value} {lo lo' : Addr} {h : Heap} {as : List Addr} (g : Made xs ys lo h as) (hl : lo' ≤ lo) : Made xs ys lo' h as := ⟨g.rise, fun a ha => Nat.le_trans hl (g.above a ha), g.pairs⟩
end
section
variable {prog : Program} {w : World} {A : Around} {s : Shared} {R : Result → Shared → Prop}
theorem loopZ {S z TI TO i1 i2 l1 l2 lo : Addr} {xs ys : Array Value} (hh : A.handled = none) (D : ZipApart z TI TO i1 i2 l1 l2) (O : Ofs z TI TO i1 i2 l1 l2 S) (hsz : xs.size = ys.size) (hn : xs.size ≤ sizeLine) (res : Value) {h₁ : Heap}
    (hlo : S < lo ∧ z < lo ∧ TO < lo ∧ i1 < lo ∧ i2 < lo)
    (hR : ∀ h' tk acc c as, (∀ b o, b ≠ S → b ≠ z → b ≠ TO → b ≠ i1 → b ≠ i2 → h₁.get? b = some o → h'.get? b = some o) → h'.get? S = some { cls := .type "list", dict := none, data := .seq acc c, slots := #[] } → as.length = xs.size → Made xs ys lo h' as →
      acc.toList = as.map Value.ref → R (.ok (.ret res)) { s with heap := h', toks := tk }) :
    ∀ (k i : Nat) (h : Heap) (tk c : Nat) (acc : Array Value) (as : List Addr), xs.size - i = k → i ≤ xs.size → ZS h z TI TO i1 i2 l1 l2 S xs ys i → (∀ b o, b ≠ S → b ≠ z → b ≠ TO → b ≠ i1 → b ≠ i2 → h₁.get? b = some o → h.get? b = some o) →
      h.get? S = some { cls := .type "list", dict := none, data := .seq acc c, slots := #[] } → acc.toList = as.map Value.ref → as.length = i → Made xs ys lo h as → lo ≤ h.objs.size →
      codeAny (model prog w) A (.builtin "list.extend.loop" ⟨[.ref S, .ref z, res], []⟩) R { s with heap := h, toks := tk } := by
  obtain ⟨lS, lz, lTO, li1, li2⟩ := hlo
  have neq : ∀ {a b : Addr}, a < lo → lo ≤ b → b ≠ a := fun h1 h2 => Nat.ne_of_gt (Nat.lt_of_lt_of_le h1 h2)
  intro k
  induction k with
  | zero =>
    intro i h tk c acc as hk hi hst hkeep hS hacc hal hG hIs
    refine codeAny_builtin PySem.F.entry_extend_loop ?_
    rw [Around.under_plainId PySem.F.plain_extend_loop _]
    show wpAny _ A.in1 (pyNext (.ref z) >>= _) _ _ _
    refine wpAny_bind (fin (s := { s with heap := h, toks := tk }) (A := A.in1) hh D hst (Array.getElem?_eq_none (by omega)) fun h' he => ?_)
    refine wpAny_pure (hR h' tk acc c as (fun b o h1 h2 h3 h4 h5 e => he b o h2 h3 h4 h5 (hkeep b o h1 h2 h3 h4 h5 e)) (he S _ O.z.symm O.TO.symm O.i1.symm O.i2.symm hS) (by omega) ⟨hG.rise, hG.above, fun j a hj => ?_⟩ hacc)
    obtain ⟨x, y, e1, e2, e3⟩ := hG.pairs j a hj
    have ha := hG.above a (List.mem_of_getElem? hj)
    exact ⟨x, y, e1, e2, he a _ (neq lz ha) (neq lTO ha) (neq li1 ha) (neq li2 ha) e3⟩
  | succ k ih =>
    intro i h tk c acc as hk hi hst hkeep hS hacc hal hG hIs
    have hlt : i < xs.size := by omega
    have hlt2 : i < ys.size := by omega
    have hszA : acc.size = i := by rw [← Array.length_toList, hacc, List.length_map, hal]
    refine codeAny_builtin PySem.F.entry_extend_loop ?_
    rw [Around.under_plainId PySem.F.plain_extend_loop _]
    show wpAny _ A.in1 (pyNext (.ref z) >>= _) _ _ _
    refine wpAny_bind (nxt (s := { s with heap := h, toks := tk }) D hst (Heap.lt_size hS) (Array.getElem?_eq_getElem hlt) (Array.getElem?_eq_getElem hlt2) fun h' hst' ht hz hkp => ?_)
    dsimp only at ht hz hkp ⊢
    have hS' := hkp S _ O.z.symm O.TO.symm O.i1.symm O.i2.symm hS
    have up : ∀ b o, b ≠ S → h'.get? b = some o → (h'.update S (Obj.mapSeq (·.push (Value.ref h.objs.size)))).get? b = some o := fun b o hb e => (Heap.get?_update_other _ _ (Ne.symm hb)).trans e
    have hSl : S < h.objs.size := Heap.lt_size hS
    show wpAny _ A.in1 (updateSeq S (·.push (Value.ref h.objs.size)) >>= _) _ _ _
    refine wpAny_bind ?_
    refine wpAny_updateSeq hS' rfl (wpAny_pure ⟨plainId_quiet PySem.F.plain_extend_loop _, ih (i + 1) _ tk _ (acc.push (Value.ref h.objs.size)) (as ++ [h.objs.size]) (by omega) hlt (hst'.keep O up)
      (fun b o h1 h2 h3 h4 h5 e => up b o h1 (hkp b o h2 h3 h4 h5 (hkeep b o h1 h2 h3 h4 h5 e))) (Heap.get?_update_self _ hS' rfl) (by rw [Array.toList_push, hacc, List.map_append]; rfl) (by rw [List.length_append, hal]; rfl) ⟨?_, ?_, ?_⟩ ?_⟩) (by rw [hszA]; omega) (by show (acc.push (Value.ref h.objs.size)).size ≤ sizeLine + 1; rw [Array.size_push, hszA]; omega)
    · refine List.pairwise_append.mpr ⟨hG.rise, List.pairwise_singleton _ _, fun a ha b hb => ?_⟩
      rw [List.mem_singleton.mp hb]
      exact hG.there ha
    · intro a ha
      rcases List.mem_append.mp ha with ha | ha
      · exact hG.above a ha
      · rw [List.mem_singleton.mp ha]; exact hIs
    · intro j b hj
      rcases Nat.lt_trichotomy j as.length with h1 | h1 | h1
      · rw [List.getElem?_append_left h1] at hj
        obtain ⟨x', y', e1, e2, e3⟩ := hG.pairs j b hj
        have hb := hG.above b (List.mem_of_getElem? hj)
        exact ⟨x', y', e1, e2, up b _ (neq lS hb) (hkp b _ (neq lz hb) (neq lTO hb) (neq li1 hb) (neq li2 hb) e3)⟩
      · subst h1
        have hb : h.objs.size = b := by simpa using hj
        subst hb
        subst hal
        exact ⟨xs[as.length], ys[as.length], Array.getElem?_eq_getElem _, Array.getElem?_eq_getElem _, up _ _ (Nat.ne_of_gt hSl) ht⟩
      · have hnone : (as ++ [h.objs.size])[j]? = none := List.getElem?_eq_none (by rw [List.length_append, List.length_singleton]; omega)
        rw [hnone] at hj; cases hj
    · have e : (h'.update S (Obj.mapSeq (·.push (Value.ref h.objs.size)))).get? h.objs.size = _ := up _ _ (Nat.ne_of_gt hSl) ht
      exact Nat.le_of_lt (Nat.lt_of_le_of_lt hIs (Heap.lt_size e))
end
section
theorem zip_no_len : typeLookup (.type "zip") "__len__" = pure none := am_miss_of_fast (by decide +kernel)
theorem zip_no_hint : typeLookup (.type "zip") "__length_hint__" = pure none := am_miss_of_fast (by decide +kernel)
variable {prog : Program} {w : World} {A : Around} {E : Value → Shared → Prop} {s : Shared}
theorem zip_hint {r : Addr} (hT : s.TypeIs (.ref r) "zip") {Q : Bool → Shared → Prop} (h : Q true s) : wpAny (model prog w) A (Builtin.List.listLengthHint (.ref r)) Q E s := by
  unfold Builtin.List.listLengthHint
  refine wpAny_bind (wpAny_specialOf hT zip_no_len ?_)
  show wpAny _ _ (specialOf (Value.ref r) (Str.ofString "__length_hint__") >>= _) _ _ _
  refine wpAny_bind (wpAny_specialOf hT zip_no_hint ?_)
  exact wpAny_pure h
theorem callZ {Q : Value → Shared → Prop} {z TI TO i1 i2 l1 l2 : Addr} {xs ys : Array Value} (hh : A.handled = none) (D : ZipApart z TI TO i1 i2 l1 l2) (hsz : xs.size = ys.size) (hn : xs.size ≤ sizeLine)
    (hz : IsZip s.heap z TI TO .none) (hTI : IsPair s.heap TI (.ref i1) (.ref i2)) (hTO : ∃ a b, IsPair s.heap TO a b) (q1 : s.heap.IsTupleIter i1 l1 0) (q2 : s.heap.IsTupleIter i2 l2 0) (hl1 : s.heap.IsTuple l1 xs) (hl2 : s.heap.IsTuple l2 ys)
    (hQ : ∀ h' tk acc c as, (∀ b o, b ≠ z → b ≠ TO → b ≠ i1 → b ≠ i2 → s.heap.get? b = some o → h'.get? b = some o) → h'.get? s.heap.objs.size = some { cls := .type "list", dict := none, data := .seq acc c, slots := #[] } → as.length = xs.size →
      Made xs ys (s.heap.objs.size + 1) h' as → acc.toList = as.map Value.ref → Q (.ref s.heap.objs.size) { s with heap := h', toks := tk }) :
    wpAny (model prog w) A (call (.type "list") [.ref z]) Q E s := by
  have lz := Heap.lt_size hz
  have li1 : i1 < s.heap.objs.size := let ⟨_, e, _⟩ := q1; Heap.lt_size e
  have li2 : i2 < s.heap.objs.size := let ⟨_, e, _⟩ := q2; Heap.lt_size e
  have ll1 : l1 < s.heap.objs.size := let ⟨_, e, _⟩ := hl1; Heap.lt_size e
  have ll2 : l2 < s.heap.objs.size := let ⟨_, e, _⟩ := hl2; Heap.lt_size e
  have lTI : TI < s.heap.objs.size := Heap.lt_size hTI
  have lTO : TO < s.heap.objs.size := let ⟨_, _, e⟩ := hTO; Heap.lt_size e
  have O : Ofs z TI TO i1 i2 l1 l2 s.heap.objs.size := ⟨Nat.ne_of_lt lz, Nat.ne_of_lt lTI, Nat.ne_of_lt lTO, Nat.ne_of_lt li1, Nat.ne_of_lt li2, Nat.ne_of_lt ll1, Nat.ne_of_lt ll2⟩
  refine callType_codes (Q₁ := fun obj s₁ => obj = .ref s.heap.objs.size ∧ s₁ = { s with heap := s.heap.push { cls := .type "list", data := .seq #[] } }) PySem.F.called_list (PySem.F.typeCall_list_1 _) PySem.F.entry_list_init
    (code_list_new _ ⟨rfl, rfl⟩) fun obj s₁ h₁ => ?_
  obtain ⟨rfl, rfl⟩ := h₁
  generalize hSd : s.heap.objs.size = S at *
  have hS : (s.heap.push { cls := .type "list", data := .seq #[] }).get? S = some { cls := .type "list", data := .seq #[] } := by
    rw [← hSd]
    exact Heap.get?_push_size _ rfl
  refine ⟨⟨_, hS, rfl⟩, PySem.F.args_list_init_2 _ _, ?_⟩
  show wpAny _ A.in1.in1 (do let old ← Builtin.List.listItems (.ref S); Builtin.List.listUpdate (.ref S) (fun _ => #[]); letGo old.toList.reverse; Builtin.List.listExtendWith (.ref S) (.ref z) .none) _ _ _
  refine wpAny_bind ?_
  unfold Builtin.List.listItems
  refine wpAny_bind (wpAny_seqItems hS rfl (wpAny_pure ?_))
  show wpAny _ A.in1.in1 (updateSeq S (fun _ => #[]) >>= fun _ => letGo (#[] : Array Value).toList.reverse >>= fun _ => Builtin.List.listExtendWith (.ref S) (.ref z) .none) _ _ _
  refine wpAny_bind (wpAny_updateSeq hS rfl ?_)
  have hS2 := Heap.get?_update_self (Obj.mapSeq (fun _ => (#[] : Array Value))) hS rfl
  refine wpAny_bind (wpAny_letGo ?_)
  unfold Builtin.List.listExtendWith
  have up : ∀ (h : Heap) (f : Obj → Obj), (∀ b o, s.heap.get? b = some o → h.get? b = some o) → ∀ b o, s.heap.get? b = some o → (h.update S f).get? b = some o := fun h f q b o e =>
    (Heap.get?_update_other _ _ (by rw [← hSd]; exact Ne.symm (Nat.ne_of_lt (Heap.lt_size e)))).trans (q b o e)
  have k1 : ∀ b o, s.heap.get? b = some o → (s.heap.push { cls := .type "list", data := .seq #[] }).get? b = some o := fun b o e => Heap.get?_push_of_some _ e
  have k2 := up _ (Obj.mapSeq (fun _ => (#[] : Array Value))) k1
  have hz2 := k2 _ _ hz
  refine wpAny_bind (wpAny_typeOf (T := "zip") ⟨_, hz2, rfl⟩ ?_)
  have h1 : Builtin.List.listSameRef (.ref S) (.ref z) = false := by simp [Builtin.List.listSameRef, O.z.symm]
  have h2 : (Value.type "zip" == Value.type "list") = false := by decide
  have h3 : (Value.type "zip" == Value.type "tuple") = false := by decide
  simp only [h1, h2, h3, Bool.or_false, Bool.false_eq_true, if_false]
  refine wpAny_bind (wpAny_pyIter_zip hz2 ?_)
  refine wpAny_bind (wpAny_holding (zip_hint ⟨_, hz2, rfl⟩ ?_))
  have key : ∀ (h : Heap) (c₁ tk : Nat), (∀ b o, b ≠ S → (s.heap.push { cls := .type "list", data := .seq #[] }).get? b = some o → h.get? b = some o) → (s.heap.objs.size + 1 ≤ h.objs.size) →
      h.get? S = some { cls := .type "list", data := .seq #[] c₁ } → codeAny (model prog w) A.in1 (.builtin "list.extend.loop" ⟨[.ref S, .ref z, .none], []⟩) (fun r s' => r = .ok (.ret .none) ∧ Q (.ref S) s') { s with heap := h, toks := tk } := by
    intro h c₁ tk hk hsz' hS₁
    have hk0 : ∀ b o, s.heap.get? b = some o → h.get? b = some o := fun b o e => hk b o (by rw [← hSd]; exact Nat.ne_of_lt (Heap.lt_size e)) (k1 b o e)
    refine loopZ (A := A.in1) (s := s) (R := fun r s' => r = .ok (.ret .none) ∧ Q (.ref S) s') (lo := S + 1) (h₁ := s.heap) hh D O hsz hn .none ⟨Nat.lt_succ_self _, Nat.lt_succ_of_lt lz, Nat.lt_succ_of_lt lTO, Nat.lt_succ_of_lt li1, Nat.lt_succ_of_lt li2⟩ (fun h' tk acc c as hk' hS' hl hG hacc => ⟨rfl, hQ h' tk acc c as (fun b o a1 a2 a3 a4 e => hk' b o (by rw [← hSd]; exact Nat.ne_of_lt (Heap.lt_size e)) a1 a2 a3 a4 e) hS' hl hG hacc⟩)
      xs.size 0 h tk c₁ #[] [] (Nat.sub_zero _) (Nat.zero_le _) ?_ (fun b o _ _ _ _ _ e => hk0 b o e) hS₁ rfl rfl ⟨List.Pairwise.nil, (fun _ ha => nomatch ha), (fun j a hj => by simp at hj)⟩ (by rw [hSd] at hsz'; exact hsz')
    · obtain ⟨a, b, hTO⟩ := hTO
      exact ⟨hk0 _ _ hTI, q1.at fun o e => hk0 _ o e, q2.at fun o e => hk0 _ o e, let ⟨o, ho, r⟩ := hl1; ⟨o, hk0 _ _ ho, r⟩, let ⟨o, ho, r⟩ := hl2; ⟨o, hk0 _ _ ho, r⟩, .inl ⟨hk0 _ _ hz, a, b, hk0 _ _ hTO⟩⟩
  refine wpAny_ite_split (fun _ => ?_) (fun hab => absurd rfl hab)
  refine wpAny_bind (wpAny_rule ?_)
  refine wpAny_bind ?_
  show wpAny _ _ (updateSeq S (·.push .none) >>= fun _ => updateSeq S (·.pop)) _ _ _
  refine wpAny_bind (wpAny_updateSeq hS2 rfl ?_)
  have hS3 := Heap.get?_update_self (Obj.mapSeq (·.push Value.none)) hS2 rfl
  refine wpAny_updateSeq (hz := by seq_fits) hS3 rfl ?_
  have hS4 := Heap.get?_update_self (Obj.mapSeq (·.pop)) hS3 rfl
  refine wpAny_pure ⟨plainId_quiet PySem.F.plain_extend_loop _, ?_⟩
  refine codeAny_mono (key _ _ _ (fun b o hb e => ?_) ?_ hS4) fun r s' h => ?_
  · exact (Heap.get?_update_other _ _ (Ne.symm hb)).trans ((Heap.get?_update_other _ _ (Ne.symm hb)).trans ((Heap.get?_update_other _ _ (Ne.symm hb)).trans e))
  · rw [hSd]
    exact Heap.lt_size hS4
  · obtain ⟨rfl, h⟩ := h
    exact ⟨rfl, h⟩
end
end T5
set_option maxHeartbeats 2000000
/-! list(zip(a, b)) as a reading -/
namespace T5
open PySem PySem.Spec PyProof.Rows L2 T3
def mZip (K : PySem.W.Frag) (t : TA) : TE := fun σ H Q => t σ H fun vs H1 => ∃ a b xs ys, vs = [.ref a, .ref b] ∧ SqT K H1 a xs ∧ SqT K H1 b ys ∧ xs.length = ys.length ∧
  ∀ (H' : Hp) (p : Addr) (ts : List Addr), (∀ b o, H1 b = some o → H' b = some o) → H1 p = none → ts.length = xs.length → H' p = some (.lst (ts.map V.ref)) →
    (∀ (j : Nat) (x y : V) (t : Addr), xs[j]? = some x → ys[j]? = some y → ts[j]? = some t → H' t = some (.tup [x, y])) → Q (.ref p) H'
section
variable {X : Cx} {e e2 : Expr} {ta : TA} {p p2 cpos pos : Pos}
theorem pe_listZip (hc : X.calm = true) (ha : PA X [e, e2] ta) (hg : Gl X "list") (hm : X.mg "list" = none) (hv : bootBuiltins "list" = some (.type "list")) (hgz : Gl X "zip") (hmz : X.mg "zip" = none)
    (hs1 : starEach [.Call (.Name "zip" p2) [e, e2] [] cpos] X.env = (false, eval (.Call (.Name "zip" p2) [e, e2] [] cpos) X.env) :: starEach [] X.env := by rfl)
    (hs : starEach [e, e2] X.env = (false, eval e X.env) :: starEach [e2] X.env := by rfl) (hpl : (backTo cpos (starEach [e2] X.env)).any (·.1) = false := by rfl) :
    PE X (.Call (.Name "list" p) [.Call (.Name "zip" p2) [e, e2] [] cpos] [] pos) (mZip X.K ta) := by
  refine ⟨fun pins s σ H Q I hq => ?_⟩
  refine wpAny_Call_Name_kw (ld_blt I hg hm hv ?_)
  refine PyProof.Rows.callWith_type1 ?_ hs1 rfl
  rw [hs1]
  show wpAny _ _ (spliced ((false, eval (.Call (.Name "zip" p2) [e, e2] [] cpos) X.env) :: backTo pos (starEach [] X.env))) _ _ s
  refine Calls.spliced_cons ?_
  refine Call_ (ld_blt I hgz hmz PyProof.Rows.boot_zip (PyProof.Rows.callWith_type1 (thn (ha.run cpos pins s σ H _ I hq) fun us s1 ⟨vs, H1, I1, r1, q1⟩ => ?_) hs hpl))
  obtain ⟨a, b, xs, ys, ex, hqx, hqy, hl, q⟩ := q1
  subst ex
  cases r1 with
  | cons r rr =>
    cases rr with
    | cons r' rr =>
      cases rr
      cases r
      cases r'
      obtain ⟨its, rv, p1, hz1⟩ := I1.tuple hqx
      obtain ⟨its2, rv2, p2', hz2⟩ := I1.tuple hqy
      obtain ⟨o1, ho1, _⟩ := id p1
      obtain ⟨o2, ho2, _⟩ := id p2'
      have l1 := rv.length
      have l2 := rv2.length
      refine RZ.call_zipT (show s1.heap.IsTuple a its.toArray from p1) (show s1.heap.IsTuple b its2.toArray from p2') fun h' hz hTI hTO h1 h2 hsz hk => ?_
      have I2 : Inv X pins σ H1 { s1 with heap := h' } := I1.kept (t' := s1.toks) hk
      refine Calls.spliced_nil ?_
      have t1 : h'.IsTuple a its.toArray := let ⟨o, ho, r⟩ := (show s1.heap.IsTuple a its.toArray from p1); ⟨o, hk _ _ ho, r⟩
      have t2 : h'.IsTuple b its2.toArray := let ⟨o, ho, r⟩ := (show s1.heap.IsTuple b its2.toArray from p2'); ⟨o, hk _ _ ho, r⟩
      refine callZ (s := { s1 with heap := h' }) (I1.ok.hd hc) (PySem.W.ktu_apart s1.heap.objs.size a b (Heap.lt_size ho1) (Heap.lt_size ho2)) (by simp only [List.size_toArray]; omega) (by simp only [List.size_toArray]; omega)
        hz hTI ⟨_, _, hTO⟩ h1 h2 t1 t2 fun h2' tk acc c as hk2 hS hla hG hacc => ?_
      have kk : ∀ b o, s1.heap.get? b = some o → h2'.get? b = some o := fun c o e => by
        have := Heap.lt_size e
        refine hk2 c o ?_ ?_ ?_ ?_ (hk c o e)
        · exact Nat.ne_of_lt (Nat.lt_of_lt_of_le this (Nat.le_add_right _ _))
        · exact Nat.ne_of_lt (Nat.lt_of_lt_of_le this (Nat.le_add_right _ _))
        · exact Nat.ne_of_lt this
        · exact Nat.ne_of_lt (Nat.lt_of_lt_of_le this (Nat.le_add_right _ _))
      have hsz' : ({ s1 with heap := h' } : Shared).heap.objs.size = s1.heap.objs.size + 5 := hsz
      rw [hsz'] at hS hG ⊢
      rw [List.size_toArray] at hla
      have I3 : Inv X pins σ H1 { s1 with heap := h2', toks := tk } := I1.kept (t' := tk) kk
      have nd : as.Nodup := List.Pairwise.imp (fun {a b} (h : a < b) => Nat.ne_of_lt h) hG.rise
      have fr : ∀ c, s1.heap.objs.size ≤ c → H1 c = none := fun c hc => I1.hok.fresh hc
      have rvs : Vals (as.map V.ref) acc.toList := by
        rw [hacc]
        exact LiI.vals_refs as
      have I4 : Inv X pins σ (upd H1 (s1.heap.objs.size + 5) (.lst (as.map V.ref))) { s1 with heap := h2', toks := tk } := by
        refine I3.take (h' := h2') (t' := tk) (fun b ob _ e => e) (I1.fpOk (Nat.le_add_right _ _) (fr _ (Nat.le_add_right _ _))) ⟨?_, acc.toList, c, rvs, ?_⟩
        · rw [List.length_map]
          omega
        · rw [Array.toArray_toList]
          exact hS
      obtain ⟨H2, I5, g, qt⟩ := DX.takeT (P := fun b vs => ∃ (j : Nat) (x y : V), as[j]? = some b ∧ xs[j]? = some x ∧ ys[j]? = some y ∧ vs = [x, y]) I1 as _ I4 nd fun b hb => by
        obtain ⟨j, hj⟩ := List.mem_iff_getElem?.mp hb
        obtain ⟨u, v, e1, e2, e3⟩ := hG.pairs j b hj
        have hbl := hG.above b hb
        have hbl2 : s1.heap.objs.size ≤ b := Nat.le_trans (Nat.le_add_right _ 6) hbl
        have hjx : j < xs.length := by
          have := (List.getElem?_eq_some_iff.mp hj).1
          omega
        have hjy : j < ys.length := by omega
        have ex : xs[j]? = some xs[j] := List.getElem?_eq_getElem hjx
        have ey : ys[j]? = some ys[j] := List.getElem?_eq_getElem hjy
        obtain ⟨u', hu, ru⟩ := rv.get ex
        obtain ⟨v', hv, rw'⟩ := rv2.get ey
        have eu : u' = u := Option.some.inj (hu.symm.trans (by simpa using e1))
        have ev : v' = v := Option.some.inj (hv.symm.trans (by simpa using e2))
        subst eu ev
        refine ⟨hbl2, ?_, [xs[j], ys[j]], ⟨j, _, _, hj, ex, ey, rfl⟩, fun H3 => ⟨(by rw [sizeLine_eq]; show 2 ≤ 16777216; omega), [u', v'], .cons ru (.cons rw' .nil), ⟨_, e3, rfl, 0, rfl⟩⟩⟩
        rw [upd_ne (Nat.ne_of_gt hbl)]
        exact fr b hbl2
      refine ⟨.ref (s1.heap.objs.size + 5), H2, I5, rfl, q H2 _ as (fun b o e => g b o ?_) (fr _ (Nat.le_add_right _ _)) (by omega) (g _ _ upd_same) fun j x y t hx hy ht => ?_⟩
      · rw [upd_ne (ne_of_none e (fr _ (Nat.le_add_right _ _)))]
        exact e
      · obtain ⟨vs, ⟨j', x', y', j1, j2, j3, ev⟩, hH⟩ := qt t (List.mem_of_getElem? ht)
        have eij : j = j' := (List.getElem?_inj (List.getElem?_eq_some_iff.mp ht).1 nd).mp (ht.trans j1.symm)
        subst eij
        rw [hx] at j2
        rw [hy] at j3
        cases j2
        cases j3
        rw [hH, ev]
end
end T5
set_option maxHeartbeats 2000000
/-! del xs[i:] -/
namespace T5
open PySem PySem.Spec PyProof.Rows L2 T3
theorem bounds_from {a n : Nat} (h : a ≤ n) : sliceBounds (some (a : Int)) none none n = ((a : Int), (n : Int), 1) := by
  simp only [sliceBounds, Option.getD_none]
  have h1 : ¬ ((a : Int) < 0) := by omega
  simp only [h1, if_false, show (1 : Int) > 0 by decide, if_true]
  congr 1
  omega
def sel (start stop step : Int) (i : Nat) : Bool :=
  if step > 0 then start ≤ i && i < stop && (i - start) % step == 0
  else stop < i && i ≤ start && (start - i) % (-step) == 0
theorem keep_pre (a n : Nat) : ∀ (xs : List Value) (k : Nat), k + xs.length = n → a ≤ n → ((xs.zipIdx k).filterMap fun (x, j) => if sel (a : Int) (n : Int) 1 j then none else some x) = xs.take (a - k)
  | [], k, _, _ => by simp
  | x :: xs, k, h, ha => by
    rw [List.length_cons] at h
    have ih := keep_pre a n xs (k + 1) (by omega) ha
    rw [List.zipIdx_cons, List.filterMap_cons]
    by_cases hk : k < a
    · have e : sel (a : Int) (n : Int) 1 k = false := by
        unfold sel
        simp
        omega
      simp only [e, Bool.false_eq_true, if_false]
      rw [ih, show a - k = (a - (k + 1)) + 1 by omega, List.take_succ_cons]
    · have e : sel (a : Int) (n : Int) 1 k = true := by
        unfold sel
        simp
        omega
      simp only [e, if_true]
      rw [ih, show a - k = 0 by omega, show a - (k + 1) = 0 by omega]
      simp
section
variable {prog : Program} {w : World} {A : Around} {E : Value → Shared → Prop} {s : Shared}
theorem delItem_from {l sl : Addr} {items : Array Value} {n : Nat} {vl vu : Value} {a : Nat} {Q : Unit → Shared → Prop}
    (e : s.heap.get? l = some { cls := .type "list", data := .seq items n })
    (hs : s.heap.IsSliceOf sl vl vu .none) (pl : IsPart vl (some (a : Int))) (pu : IsPart vu none) (hac : a ≤ items.size)
    (hsz : items.size ≤ sizeLine) (h : Q () { s with heap := s.heap.update l (Obj.mapSeq fun xs => (xs.toList.zipIdx.filterMap fun (x, k) => if sel (a : Int) (items.size : Int) 1 k then none else some x).toArray) }) :
    wpAny (model prog w) A (delItem (.ref l) (.ref sl)) Q E s := by
  have hl : s.heap.IsList l items := PySem.IsL.isList e
  obtain ⟨os, hos, hcs, hds⟩ := id hs
  have hTs : s.TypeIs (.ref sl) "slice" := ⟨os, hos, hcs⟩
  have hstep : ¬ ((rawPart none == rawInt 0) = true) := Bool.false_ne_true
  refine wpAny_delItem_slot hl.typeIs (by decide) F.slot_list_delitem (wpAny_call_entry F.slot_list_delitem hl.typeIs F.entry_list_delitem ?_ (F.args_list_delitem_2 _ _))
  show wpAny _ _ (Builtin.List.listSubscript? (.ref sl) >>= _) _ _ s
  refine wpAny_bind ?_
  unfold Builtin.List.listSubscript?
  refine wpAny_bind (wpAny_specialOf hTs slice_no_index ?_)
  simp only [Option.isNone_none, if_true]
  refine wpAny_pure ?_
  show wpAny _ _ (typeOf (.ref sl) >>= _) _ _ s
  refine wpAny_bind (wpAny_typeOf hTs ?_)
  first
    | rw [if_neg (by decide)]
    | refine PySem.W.KFB.if_not (by decide) ?_
  rw [listSliceParts_eq]
  refine wpAny_bind (wpAny_bind (wpAny_field hos hds (x := .none) rfl (wpAny_bind (wpAny_listPart .none ?_))))
  rw [if_neg hstep]
  refine wpAny_bind (wpAny_field hos hds (x := vl) rfl (wpAny_bind (wpAny_listPart pl ?_)))
  refine wpAny_bind (wpAny_field hos hds (x := vu) rfl (wpAny_bind (wpAny_listPart pu (wpAny_pure ?_))))
  refine wpAny_bind ?_
  unfold Builtin.List.listItems
  refine wpAny_bind (wpAny_seqItems e rfl (wpAny_pure ?_))
  refine wpAny_bind (wpAny_of_eq ((sliceIndices_raw (some (a : Int)) none none items.size (by simp)).trans (congrArg (pure : Int × Int × Int → Sem (Int × Int × Int)) (bounds_from hac))) ?_)
  refine wpAny_bind (wpAny_rule ?_)
  show wpAny _ _ (updateSeq l (fun xs => (xs.toList.zipIdx.filterMap fun (x, k) => if sel (a : Int) (items.size : Int) 1 k then none else some x).toArray) >>= _) _ _ s
  have hz' : ((fun xs : Array Value => (xs.toList.zipIdx.filterMap fun (x, k) => if sel (a : Int) (items.size : Int) 1 k then none else some x).toArray) items).size ≤ sizeLine + 1 := by
    show (List.filterMap (fun (x, k) => if sel (a : Int) (items.size : Int) 1 k then none else some x) (items.toList.zipIdx 0)).toArray.size ≤ sizeLine + 1
    rw [keep_pre a items.size items.toList 0 (by simp) hac, List.size_toArray, List.length_take, Array.length_toList]
    omega
  refine wpAny_bind (wpAny_updateSeq (hz := hsz) (_hz' := hz') e rfl ?_)
  refine wpAny_bind (wpAny_letGo ?_)
  exact wpAny_bind (wpAny_pure (wpAny_pure ⟨.none, rfl, h⟩))
end
section
variable {X : Cx} {o lo : Expr} {to : TE} {tl : TO} {tpos p3 pos : Pos}
/-- del xs[i:] -/
def mDelF (to : TE) (tl : TO) : TS := fun D σ H => to σ H fun x H1 => match x with
  | .ref l => tl σ H1 fun i H2 => ∃ (xs : List V) (a : Nat), i = some (a : Int) ∧ H2 l = some (.lst xs) ∧ a ≤ xs.length ∧ D.nx σ (upd H2 l (.lst (xs.take a)))
  | _ => False
theorem mdelF (ho : PE X o to) (hl : PO X (some lo) tl) : PS X (.Delete [.Subscript o (.Slice (some lo) none none p3) tpos] pos) (mDelF to tl) := by
  refine ⟨fun pins s σ H D I h => ?_⟩
  refine wpAny_Delete (wpAny_deleteEach_cons (wpAny_delete_Subscript (thn (ho.run pins s σ H _ I h) fun u s1 ⟨x, H1, I1, rx, q1⟩ => ?_)))
  cases x with
  | ref l =>
    cases (show u = Value.ref l from rx)
    refine wpAny_Slice (thn (hl.run pins s1 σ H1 _ I1 q1) fun vl s2 ⟨i, H2, I2, pl, xs, a, ei, hH, ha, q⟩ => ?_)
    subst ei
    refine thn (po_none.run pins s2 σ H2 (fun o H3 => o = none ∧ H3 = H2) I2 ⟨rfl, rfl⟩) fun vu s3 ⟨u, H3, I3, pu, eu, e3⟩ => ?_
    subst eu e3
    refine thn (po_none.run pins s3 σ H3 (fun o H4 => o = none ∧ H4 = H3) I3 ⟨rfl, rfl⟩) fun vs s4 ⟨w', H4, I4, ps, eo, e4⟩ => ?_
    subst eo e4
    have hvs : vs = .none := by
      cases ps
      rfl
    subst hvs
    have I5 : Inv X pins σ H4 { s4 with heap := s4.heap.push { cls := .type "slice", data := .fields #[vl, vu, .none] } } := I4.kept (t' := s4.toks) fun b ob q => Heap.get?_push_of_some _ q
    obtain ⟨z, its, n, r, hl, e⟩ := I5.lstM hH
    refine delItem_from e (Heap.IsSliceOf.new _ vl vu .none) pl pu (by rw [List.size_toArray, ← hl]; exact ha) (by rw [List.size_toArray]; omega) (wpAny_deleteEach_nil ⟨σ, _, I5.lset (its' := its.take a) (t' := s4.toks) hH e ?_ (r.take _) ?_, q⟩)
    · show (List.filterMap (fun (x, k) => if sel (a : Int) (its.toArray.size : Int) 1 k then none else some x) (its.toArray.toList.zipIdx 0)).toArray = (its.take a).toArray
      rw [keep_pre a its.toArray.size its.toArray.toList 0 (by simp) (by rw [List.size_toArray]; omega)]
      rfl
    · rw [List.length_take]
      omega
  | _ => exact q1.elim
end
end T5
set_option maxHeartbeats 2000000
/-! dicts with keys of tuples, equal: ==, != -/
namespace T5
open PySem PySem.W PySem.Calls PyProof.Rows PyProof.V PySem.Spec
section
variable {prog : Program} {w : World} {K : Type} [DecidableEq K] {knd : HeapKind prog w K} {A : Around} {E : Value → Shared → Prop} {s : Shared}
theorem samePairsH {nm : String} {a b : Addr} {xs ys : List (K × Addr × Value)} {Q : Bool → Shared → Prop} (ha : (a == sysModules) = false) (hb : (b == sysModules) = false)
    (da : s.heap.DictOfH knd a xs) (db : s.heap.DictOfH knd b ys) (hu : knd.room A) (hl : xs.length = ys.length) (hits : ∀ x ∈ xs, ∃ p, atKey ys x.1 = some p ∧ SeqAt.EqP prog w A s x.2.2 p.2 true) (h : Q true s) :
    wpAny (model prog w) A (Builtin.Dict.samePairs nm a b) Q E s := by
  obtain ⟨oa, es, ep, hoa, _, hda, hka, hisa, hna⟩ := da
  obtain ⟨ob, es', ep', hob, _, hdb, hkb, hisb, hnb⟩ := db
  have hla := size_of_entries hka
  have hlb := size_of_entries hkb
  unfold Builtin.Dict.samePairs Builtin.Dict.showsAll
  rw [if_neg (show ¬ (a == sysModules) = true by rw [ha]; exact Bool.false_ne_true), if_neg (show ¬ (b == sysModules) = true by rw [hb]; exact Bool.false_ne_true)]
  refine wpAny_bind (wpAny_pure (wpAny_bind (wpAny_pure ?_)))
  refine wpAny_bind (wpAny_dictEntries hoa hda ?_)
  dsimp only
  refine wpAny_bind (wpAny_dictEntries hob hdb ?_)
  have hsz : es.size = es'.size := by omega
  rw [if_neg (by rw [hsz]; simp)]
  refine wpAny_bind (wpAny_dictEpoch hoa hda ?_)
  refine wpAny_bind ?_
  rw [Std.Legacy.Range.forIn_eq_forIn_range']
  simp only [Std.Legacy.Range.size, Nat.sub_zero, Nat.add_sub_cancel, Nat.div_one]
  refine wpAny_forIn_list _
    (fun rest q s' => s' = s ∧ q = (none, ()) ∧ ∃ i, rest = List.range' i (es.size - i) ∧ i ≤ es.size)
    _ ?_ ?_ _ _ ⟨rfl, rfl, 0, by simp, Nat.zero_le _⟩
  · rintro x rest q s' ⟨rfl, rfl, i, hr, hi⟩
    have hlt : i < es.size := by
      rcases Nat.lt_or_ge i es.size with h | h
      · exact h
      · rw [Nat.sub_eq_zero_of_le h] at hr; simp at hr
    obtain ⟨rfl, hrest⟩ : x = i ∧ rest = List.range' (i + 1) (es.size - (i + 1)) := by
      have e : es.size - i = (es.size - (i + 1)) + 1 := by omega
      rw [e, List.range'_succ] at hr
      injection hr with h1 h2
      exact ⟨h1, h2⟩
    refine wpAny_bind (wpAny_dictEntries hoa hda ?_)
    rw [Array.getElem?_eq_getElem hlt]
    have hlt' : x < xs.length := by omega
    have hx : es[x] = entryOfKey knd xs[x] := by
      have e := entry_at hka x
      rw [Array.getElem?_eq_getElem hlt, List.getElem?_eq_getElem hlt'] at e
      exact Option.some.inj e
    have hm : xs[x] ∈ xs := List.getElem_mem hlt'
    obtain ⟨p, hp, heq⟩ := hits _ hm
    show wpAny _ _ (holding [es[x].key, es[x].val] _ >>= _) _ _ _
    rw [hx]
    refine wpAny_bind (wpAny_holding (wpAny_bind (wpAny_dictFind_heap (k := xs[x].1) (a := xs[x].2.1) hu (hisa _ hm) hob hdb hkb hisb hnb (fun hno => ?_) fun j q hj => ?_)))
    · rw [atKey_none_of_get hno] at hp
      cases hp
    · have hq := atKey_of_get hnb hj
      rw [hp] at hq
      cases hq
      have hjl : j < es'.size := by
        have := (List.getElem?_eq_some_iff.mp hj).1
        omega
      have ej : es'[j] = entryOfKey knd (xs[x].1, p) := by
        have e := entry_at hkb j
        rw [Array.getElem?_eq_getElem hjl, hj] at e
        exact Option.some.inj e
      refine wpAny_bind (wpAny_dictEntries hob hdb ?_)
      rw [Array.getElem?_eq_getElem hjl, ej]
      refine wpAny_holding (heq _ _ ?_)
      show wpAny _ _ (if (!true) = true then _ else _) _ _ _
      rw [if_neg (by decide)]
      refine wpAny_bind (wpAny_dictEpoch hoa hda ?_)
      rw [if_neg (by simp)]
      exact wpAny_pure ⟨rfl, rfl, x + 1, hrest, hlt⟩
  · rintro q s' ⟨rfl, rfl, i, hr, hi⟩
    exact wpAny_pure h
theorem eqH {a b : Addr} {xs ys : List (K × Addr × Value)} {Q : Value → Shared → Prop} (ha : (a == sysModules) = false) (hb : (b == sysModules) = false)
    (da : s.heap.DictOfH knd a xs) (db : s.heap.DictOfH knd b ys) (hu : knd.room A.in1) (hu2 : A.units < cLine) (hl : xs.length = ys.length) (hits : ∀ x ∈ xs, ∃ p, atKey ys x.1 = some p ∧ SeqAt.EqP prog w A.in1 s x.2.2 p.2 true) (h : Q (.bool true) s) :
    wpAny (model prog w) A (compareOp .Eq (.ref a) (.ref b)) Q E s := by
  refine wpAny_richCompare_same_room (op := .Eq) da.typeIs db.typeIs PySem.F.slot_dict_eq (wpAny_call_entry PySem.F.slot_dict_eq da.typeIs PySem.F.entry_dict_eq ?_ (PySem.F.args_dict_eq_2 _ _)) hu2
  show wpAny _ _ (Builtin.Dict.dictSlotArgs "__eq__" ⟨[.ref a, .ref b], []⟩ >>= _) _ _ s
  refine wpAny_bind ?_
  unfold Builtin.Dict.dictSlotArgs
  refine wpAny_bind (wpAny_notOrdered_dict da.typeIs ?_)
  show wpAny _ _ (pure (Value.ref a, Value.ref b)) _ _ s
  refine wpAny_pure ?_
  refine wpAny_bind (wpAny_isInstance (T := "dict") db.typeIs PySem.F.sub_dict_dict ?_)
  simp only [Bool.not_true, Bool.false_eq_true, if_false]
  refine wpAny_bind (wpAny_pure (wpAny_bind (wpAny_pure ?_)))
  refine wpAny_bind (samePairsH ha hb da db hu hl hits ?_)
  refine wpAny_pure ⟨_, rfl, ?_, ?_⟩
  · exact fun x => nomatch x
  · simpa using h
theorem neH {a b : Addr} {xs ys : List (K × Addr × Value)} {Q : Value → Shared → Prop} (ha : (a == sysModules) = false) (hb : (b == sysModules) = false)
    (da : s.heap.DictOfH knd a xs) (db : s.heap.DictOfH knd b ys) (hu : knd.room A.in1) (hu2 : A.units < cLine) (hl : xs.length = ys.length) (hits : ∀ x ∈ xs, ∃ p, atKey ys x.1 = some p ∧ SeqAt.EqP prog w A.in1 s x.2.2 p.2 true) (h : Q (.bool false) s) :
    wpAny (model prog w) A (compareOp .NotEq (.ref a) (.ref b)) Q E s := by
  refine wpAny_richCompare_same_room (op := .NotEq) da.typeIs db.typeIs PySem.F.slot_dict_ne (wpAny_call_entry PySem.F.slot_dict_ne da.typeIs PySem.F.entry_dict_ne ?_ (PySem.F.args_dict_ne_2 _ _)) hu2
  show wpAny _ _ (Builtin.Dict.dictSlotArgs "__ne__" ⟨[.ref a, .ref b], []⟩ >>= _) _ _ s
  refine wpAny_bind ?_
  unfold Builtin.Dict.dictSlotArgs
  refine wpAny_bind (wpAny_notOrdered_dict da.typeIs ?_)
  show wpAny _ _ (pure (Value.ref a, Value.ref b)) _ _ s
  refine wpAny_pure ?_
  refine wpAny_bind (wpAny_isInstance (T := "dict") db.typeIs PySem.F.sub_dict_dict ?_)
  simp only [Bool.not_true, Bool.false_eq_true, if_false]
  refine wpAny_bind (wpAny_pure (wpAny_bind (wpAny_pure ?_)))
  refine wpAny_bind (samePairsH ha hb da db hu hl hits ?_)
  refine wpAny_pure ⟨_, rfl, ?_, ?_⟩
  · exact fun x => nomatch x
  · simpa using h
end
end T5
namespace T5
open PySem PySem.Spec PyProof.Rows L2 T3
def mEqT (K : PySem.W.Frag) (r : Bool) : R2 := fun x y H Q => match x, y with
  | .ref a, .ref b => ∃ ks ls, H a = some (.dT ks) ∧ H b = some (.dT ls) ∧ ks.length = ls.length ∧ (∀ p ∈ ks, ∃ v, valV ls p.1 = some v ∧ ∃ d e, Dp K H p.2 d ∧ Dp K H v e ∧ SeqAt.shaped d = true ∧ SeqAt.shaped e = true ∧ PyData.eqv d e = true) ∧ Q (.bl r) H
  | _, _ => False
section
variable {X : Cx}
theorem kt_mem {H : Hp} {ks : List (List Key × V)} {xs : List (List Key × Addr × Value)} (r : KT H ks xs) : ∀ x ∈ xs, ∃ p ∈ ks, p.1 = x.1 ∧ RelV p.2 x.2.2 := by
  induction r with
  | nil => intro x hx; exact nomatch hx
  | @cons p q ps qs h t ih =>
    intro x hx
    rcases List.mem_cons.mp hx with e | hx
    · subst e
      exact ⟨p, List.mem_cons_self, h.1, h.2.2⟩
    · obtain ⟨p', hp, e1, e2⟩ := ih x hx
      exact ⟨p', List.mem_cons_of_mem _ hp, e1, e2⟩
theorem hitsT {pins : List (Addr × Obj)} {σ : L2.St} {H : Hp} {s : Shared} {ks ls : List (List Key × V)} {xs ys : List (List Key × Addr × Value)} (hu : X.A.units + 200 < cLine) (I : Inv X pins σ H s) (ra : KT H ks xs) (rb : KT H ls ys)
    (h : ∀ p ∈ ks, ∃ v, valV ls p.1 = some v ∧ ∃ d e, Dp X.K H p.2 d ∧ Dp X.K H v e ∧ SeqAt.shaped d = true ∧ SeqAt.shaped e = true ∧ PyData.eqv d e = true) :
    ∀ x ∈ xs, ∃ p, atKey ys x.1 = some p ∧ SeqAt.EqP X.prog X.w X.A.in1 s x.2.2 p.2 true := by
  intro x hx
  obtain ⟨p, hp, e1, r1⟩ := kt_mem ra x hx
  obtain ⟨v, hv, d, e, hd, he, sd, se, hq⟩ := h p hp
  rw [e1] at hv
  obtain ⟨w', hw, rw'⟩ := RelO.some_of (v := v) (o := (atKey ys x.1).map (·.2)) (by rw [← hv]; exact rb.val x.1)
  obtain ⟨q, hq1, hq2⟩ := Option.map_eq_some_iff.mp hw
  refine ⟨q, hq1, ?_⟩
  obtain ⟨as, r1⟩ := Dp.reads I d _ _ hd r1
  obtain ⟨bs, r2⟩ := Dp.reads I e _ _ he rw'
  have z := SeqAt.eqAt_reads d e X.A.in1 s x.2.2 w' as bs r1 r2 (SeqAt.canLay_of_shaped sd) (SeqAt.canLay_of_shaped se) (SeqAt.room_of_shaped sd (by show X.A.units + 1 + 64 < cLine; omega))
  rw [hq, ← hq2] at z
  exact z.eqP
theorem opEqT (hu : X.A.units + 200 < cLine) : OpR X (compareOp .Eq) (mEqT X.K true) := by
  intro pins s σ H x y v u Q I rx ry h
  cases x <;> cases y <;> first
    | exact h.elim
    | skip
  rename_i a b
  obtain ⟨ks, ls, ea, eb, hl, hp, q⟩ := h
  obtain rfl : v = Value.ref a := rx
  obtain rfl : u = Value.ref b := ry
  obtain ⟨_, ya, xa, ra, da⟩ := dt_of I.hok ea
  obtain ⟨_, yb, xb, rb, db⟩ := dt_of I.hok eb
  exact eqH ya yb da db (tupleKind_room_in1 (by omega)) (by omega) (by rw [← Paired.length ra, ← Paired.length rb]; exact hl) (hitsT hu I ra rb hp) ⟨.bl true, H, I, rfl, q⟩
theorem opNeT (hu : X.A.units + 200 < cLine) : OpR X (compareOp .NotEq) (mEqT X.K false) := by
  intro pins s σ H x y v u Q I rx ry h
  cases x <;> cases y <;> first
    | exact h.elim
    | skip
  rename_i a b
  obtain ⟨ks, ls, ea, eb, hl, hp, q⟩ := h
  obtain rfl : v = Value.ref a := rx
  obtain rfl : u = Value.ref b := ry
  obtain ⟨_, ya, xa, ra, da⟩ := dt_of I.hok ea
  obtain ⟨_, yb, xb, rb, db⟩ := dt_of I.hok eb
  exact neH ya yb da db (tupleKind_room_in1 (by omega)) (by omega) (by rw [← Paired.length ra, ← Paired.length rb]; exact hl) (hitsT hu I ra rb hp) ⟨.bl false, H, I, rfl, q⟩
end
end T5
set_option maxHeartbeats 2000000
/-! more readings that reckon: methods of lists, dicts with keys of tuples -/
namespace T5
open PySem PySem.Spec PyProof.Rows L2 T3
section
variable {X : Cx}
/-- xs.pop() -/
def mPop (to : TE) : TE := fun σ H Q => to σ H fun x H1 => match x with
  | .ref l => ∃ xs y, H1 l = some (.lst (xs ++ [y])) ∧ Q y (upd H1 l (.lst xs))
  | _ => False
theorem mpop {o : Expr} {to : TE} {apos cpos : Pos} (ho : PE X o to)
    (hbase : attributeBase o "pop" X.env (eval o X.env) = eval o X.env := by rfl) (hline : (apos.endLine == cpos.line) = true := by rfl) :
    PE X (.Call (.Attribute o "pop" apos) [] [] cpos) (mPop to) := by
  refine PE.imp ?_ (pe_bm0 PySem.F.plainAttrs_list PySem.F.slot_list_pop PySem.F.type_list_pop mt_pop (mono_pe ho) hbase hline)
  intro σ H Q h
  refine ⟨_, h, ?_⟩
  intro v H1 h1
  cases v with
  | ref l =>
    obtain ⟨xs, y, hx, q⟩ := h1
    refine ⟨.inl ⟨rfl, _, SqL.of hx⟩, l, _, y, rfl, rfl, hx, ?_, ?_⟩
    · simp
    · rw [List.dropLast_concat]
      exact q
  | _ => exact h1.elim
def rExtT (K : PySem.W.Frag) : V → List V → Hp → VK → Prop := fun x vs H Q => ∃ l b xs zs, x = .ref l ∧ vs = [.ref b] ∧ H l = some (.lst xs) ∧ SqT K H b zs ∧ xs.length + zs.length ≤ sizeLine ∧ Q .non (upd H l (.lst (xs ++ zs)))
theorem mt_extT : MtM X "list.extend" (rExtT X.K) := by
  intro pins s σ H x vs v us Q I rx rv h
  obtain ⟨l, b, xs, zs, rfl, rfl, hH, hB, hz, q⟩ := h
  cases rx
  obtain ⟨u, rfl, ru⟩ := rv.one
  cases ru
  obtain ⟨z, its, n, r, hl, e⟩ := I.lstM hH
  obtain ⟨its2, r2, p2, z2⟩ := I.tuple hB
  obtain ⟨o2, e2, c2, n2, d2⟩ := id p2
  have hl2 := r2.length
  have hsz : its.toArray.size + its2.toArray.size ≤ sizeLine := by rw [List.size_toArray, List.size_toArray]; omega
  have hlong : ¬ (!its.toArray.isEmpty && Builtin.List.listTooLong (its.toArray.size + its2.toArray.size)) = true := by
    rw [notLongL hsz, Bool.and_false]
    exact Bool.false_ne_true
  have ht : s.TypeIs (.ref b) "tuple" := ⟨_, e2, c2⟩
  have hne : l ≠ b := fun z => by
    subst z
    rw [e] at e2
    cases e2
    exact absurd (show Value.type "list" = Value.type "tuple" from c2) (by decide)
  refine wpAny_call_entry F.slot_list_extend ⟨_, e, rfl⟩ F.entry_list_extend ?_ (F.args_list_extend_2 _ _)
  show wpAny _ _ (Builtin.List.listExtendWith (.ref l) (.ref b) .none) _ _ _
  unfold Builtin.List.listExtendWith
  refine wpAny_bind (wpAny_typeOf ht ?_)
  have h3 : (Value.type "tuple" == Value.type "tuple") = true := by decide
  simp only [h3, Bool.or_true, if_true]
  refine wpAny_bind ?_
  unfold Builtin.List.listItems
  refine wpAny_bind (wpAny_seqItems e2 d2 (wpAny_pure ?_))
  refine wpAny_bind (wpAny_bind (wpAny_seqItems e rfl (wpAny_pure ?_)))
  first
    | rw [if_neg hlong]
    | (refine wpAny_ite_split (fun z => absurd z hlong) (fun _ => ?_))
  first | refine wpAny_bind (wpAny_pure ?_) | skip
  show wpAny _ _ (updateSeq l (fun x => x ++ its2.toArray) >>= _) _ _ _
  refine wpAny_bind (wpAny_updateSeq (hz := by rw [List.size_toArray] at hsz ⊢; omega) (_hz' := by rw [Array.size_append]; omega) e rfl ?_)
  refine wpAny_pure ⟨.none, rfl, .non, _, I.lset (its' := its ++ its2) (t' := s.toks) hH e (by simp) (r.append r2) ?_, rfl, q⟩
  rw [List.length_append]
  omega
/-- xs.extend(e) -/
def mExt (K : PySem.W.Frag) (to ta : TE) : TS := fun D σ H => to σ H fun x H1 => match x with
  | .ref l => (∃ xs, H1 l = some (.lst xs)) ∧ ta σ H1 fun y H2 => match y with
    | .ref b => ∃ xs zs, H2 l = some (.lst xs) ∧ (H2 b = some (.lst zs) ∨ SqT K H2 b zs) ∧ xs.length + zs.length ≤ sizeLine ∧ D.nx σ (upd H2 l (.lst (xs ++ zs)))
    | _ => False
  | _ => False
theorem mt_ext2 : MtM X "list.extend" (fun x vs H Q => rExtend x vs H Q ∨ rExtT X.K x vs H Q) := by
  intro pins s σ H x vs v us Q I rx rv h
  rcases h with h | h
  · exact mt_extend pins s σ H x vs v us Q I rx rv h
  · exact mt_extT pins s σ H x vs v us Q I rx rv h
theorem mext {o e : Expr} {to ta : TE} {apos cpos pos : Pos} (ho : PE X o to) (ha : PE X e ta)
    (hbase : attributeBase o "extend" X.env (eval o X.env) = eval o X.env := by rfl)
    (hfew : ((backTo cpos (starEach [e] X.env)).all (fun x => !x.1) && (backToKw cpos (keywordEach [] X.env)).all (fun x => x.1.isSome)
      && decide (([e] : List Expr).length + ([] : List Keyword).length + (if ([] : List Keyword).isEmpty then 0 else 1) < 30)) = true := by rfl)
    (hline : (apos.endLine == cpos.line) = true := by rfl) (hs : starEach [e] X.env = (false, eval e X.env) :: starEach [] X.env := by rfl)
    (hplain : (backTo cpos (starEach [] X.env)).any (·.1) = false := by rfl)
    (hsw : swapsWith (.Call (.Attribute o "extend" apos) [e] [] cpos) none pos.line X.env = pure false := by rfl) :
    PS X (.Expr (.Call (.Attribute o "extend" apos) [e] [] cpos) pos) (mExt X.K to ta) := by
  refine PS.imp ?_ (ps_expr (pos := pos) (pe_bm PySem.F.plainAttrs_list PySem.F.slot_list_extend PySem.F.type_list_extend mt_ext2 (mono_pe ho) (pa_cons (mono_pe ha) pa_nil hs) hbase hfew hline hs hplain) hsw)
  intro D σ H h
  refine ⟨_, h, ?_⟩
  intro v H1 h1
  cases v with
  | ref l =>
    obtain ⟨⟨xs, hx⟩, h2⟩ := h1
    refine ⟨.inl ⟨rfl, xs, SqL.of hx⟩, _, h2, ?_⟩
    intro y H2 h3
    cases y with
    | ref b =>
      obtain ⟨ys, zs, e1, e2 | e2, e3, q⟩ := h3
      · exact .inl ⟨l, b, ys, zs, rfl, rfl, e1, e2, e3, q⟩
      · exact .inr ⟨l, b, ys, zs, rfl, rfl, e1, e2, e3, q⟩
    | _ => exact h3.elim
  | _ => exact h1.elim
/-- a list's truth -/
def mTru (K : PySem.W.Frag) (t : TE) : TT := fun σ H Q => t σ H fun x H1 => match x with
  | .ref p => ∃ xs, (SqL K H1 p xs ∨ SqT K H1 p xs) ∧ Q (!xs.isEmpty) H1
  | _ => False
theorem mtru {e : Expr} {t : TE} (h : PE X e t)
    (he : ∀ whole, isTrue e X.env whole = (do let v ← whole; standAt e.pos; holding [v] (truthy v)) := by intro _; rfl) : PT X e (mTru X.K t) := by
  refine PT.imp ?_ (pt_truth (mono_pe h) he)
  intro σ H Q h
  refine ⟨_, h, fun x H1 h1 => ?_⟩
  cases x with
  | ref p =>
    obtain ⟨xs, h1 | h1, q⟩ := h1
    · exact ⟨_, .inl ⟨xs, h1, rfl⟩, q⟩
    · exact ⟨_, .inr (.inl ⟨xs, h1, rfl⟩), q⟩
  | _ => exact h1.elim
/-- xs[::-1] -/
def mRev (K : PySem.W.Frag) (te : TE) : TE := fun σ H Q => te σ H fun x H1 => match x with
  | .ref a => ∃ xs, SqL K H1 a xs ∧ ∀ p, H1 p = none → Q (.ref p) (upd H1 p (.lst xs.reverse))
  | _ => False
theorem mrev {e : Expr} {te : TE} {k : Nat} {p1 p2 p3 pos : Pos} (he : PE X e te) : PE X (.Subscript e (.Slice none none (some (.UnaryOp .USub (.Constant (.int 1) k p1) p2)) p3) pos) (mRev X.K te) := by
  refine PE.imp ?_ (pe_revL (mono_pe he))
  intro σ H Q h
  refine ⟨_, h, fun x H1 h1 => ?_⟩
  cases x with
  | ref a =>
    obtain ⟨xs, h2, h3⟩ := h1
    exact ⟨a, xs, rfl, h2, h3⟩
  | _ => exact h1.elim
/-- list(a list or tuple) -/
def mList (K : PySem.W.Frag) : List V → Hp → VK → Prop := fun xs H Q => match xs with
  | [.ref p] => ∃ ys, (SqL K H p ys ∨ SqT K H p ys) ∧ ∀ l, H l = none → Q (.ref l) (upd H l (.lst ys))
  | _ => False
theorem callList : CallR X (.type "list") (mList X.K) := by
  refine CallR.imp call_list_of ?_
  intro xs H Q h
  match xs, h with
  | [.ref p], ⟨ys, h1, h2⟩ => exact ⟨p, ys, rfl, h1, h2⟩
/-- isinstance, tuples that stand in the module too -/
def mIsi2 (K : PySem.W.Frag) : List V → Hp → VK → Prop := fun xs H Q => match xs with
  | [.int _, .ty n] => ∃ b, kitB "int" n = some b ∧ Q (.bl b) H
  | [.ref a, .ty n] => (∃ ys, SqT K H a ys) ∧ ∃ b, kitB "tuple" n = some b ∧ Q (.bl b) H
  | _ => False
theorem callIsi2 : CallR X (.builtin "isinstance") (mIsi2 X.K) := by
  refine CallR.imp call_isi ?_
  intro xs H Q h
  match xs, h with
  | [.int z, .ty n], ⟨b, e, q⟩ => exact ⟨_, _, _, _, b, rfl, .ty n, .base (.int z), kit_ty e, q⟩
  | [.ref a, .ty n], ⟨⟨ys, ha⟩, b, e, q⟩ =>
    rcases ha with (ha | ⟨o, ha⟩) | ⟨o, its, n', hk, hc, _⟩
    · exact ⟨_, _, _, _, b, rfl, .ty n, .base (.tup ha), kit_ty e, q⟩
    · exact ⟨_, _, _, _, b, rfl, .ty n, .fTuple ha, kit_ty e, q⟩
    · exact ⟨_, _, _, _, b, rfl, .ty n, .kTuple hk hc, kit_ty e, q⟩

/-! ### dicts, their keys tuples -/
def mDGet : TE → TE → TE := fun td ty σ H Q => td σ H fun x H1 => match x with
  | .ref a => ty σ H1 fun y H2 => match y with
    | .ref b => ∃ kvs k v, H2 a = some (.dT kvs) ∧ H2 b = some (.tup (k.map kV)) ∧ valV kvs k = some v ∧ Q v H2
    | _ => False
  | _ => False
theorem mdget {o i : Expr} {td ty : TE} {pos : Pos} (hu : X.A.units + 1 < cLine) (ho : PE X o td) (hi : PE X i ty) (hs : NoSl i := by intro _ _; rfl) : PE X (.Subscript o i pos) (mDGet td ty) := by
  refine PE.imp ?_ (pe_dget hu (mono_pe ho) (mono_pe hi) hs)
  intro σ H Q h
  refine ⟨_, h, fun x H1 h1 => ?_⟩
  cases x with
  | ref a =>
    refine ⟨_, h1, fun y H2 h2 => ?_⟩
    cases y with
    | ref b =>
      obtain ⟨kvs, k, v, e1, e2, e3, q⟩ := h2
      refine ⟨a, v, rfl, ?_, q⟩
      rw [← e3]
      exact DGet.t e1 e2
    | _ => exact h2.elim
  | _ => exact h1.elim
def mNotInT : R2 := fun x y H Q => match x, y with
  | .ref b, .ref a => ∃ kvs k, H a = some (.dT kvs) ∧ H b = some (.tup (k.map kV)) ∧ Q (.bl (!(valV kvs k).isSome)) H
  | _, _ => False
theorem opNotInT (hu : X.A.units + 1 < cLine) : OpR X (compareOp .NotIn) mNotInT := by
  intro pins s σ H x y v u Q I rx ry h
  cases x <;> cases y <;> first
    | exact h.elim
    | skip
  rename_i b a
  obtain ⟨kvs, k, e1, e2, q⟩ := h
  obtain rfl : v = Value.ref b := rx
  obtain rfl : u = Value.ref a := ry
  exact d_notIn (o := valV kvs k) (y := .ref b) hu I (DGet.t e1 e2) rfl fun s' I' => ⟨.bl (!(valV kvs k).isSome), H, I', rfl, q⟩
def mInT : R2 := fun x y H Q => match x, y with
  | .ref b, .ref a => ∃ kvs k, H a = some (.dT kvs) ∧ H b = some (.tup (k.map kV)) ∧ Q (.bl (valV kvs k).isSome) H
  | _, _ => False
theorem opInT (hu : X.A.units + 1 < cLine) : OpR X (compareOp .In) mInT := by
  intro pins s σ H x y v u Q I rx ry h
  cases x <;> cases y <;> first
    | exact h.elim
    | skip
  rename_i b a
  obtain ⟨kvs, k, e1, e2, q⟩ := h
  obtain rfl : v = Value.ref b := rx
  obtain rfl : u = Value.ref a := ry
  exact d_in (o := valV kvs k) (y := .ref b) hu I (DGet.t e1 e2) rfl fun s' I' => ⟨.bl (valV kvs k).isSome, H, I', rfl, q⟩
def mSetT : V → V → V → Hp → (Hp → Prop) → Prop := fun o i v H Q => match o, i with
  | .ref a, .ref b => ∃ kvs k, H a = some (.dT kvs) ∧ H b = some (.tup (k.map kV)) ∧ kvs.length < sizeLine ∧ Q (upd H a (.dT (putK kvs k v)))
  | _, _ => False
theorem setT (hu : X.A.units + 1 < cLine) : PSet X mSetT := by
  intro pins s σ H o i v o' i' v' Q I ro ri rv q
  refine set_dict hu pins s σ H o i v o' i' v' Q I ro ri rv ?_
  cases o <;> cases i <;> first
    | exact q.elim
    | (obtain ⟨kvs, k, h1, h2, h3, h4⟩ := q; exact ⟨_, _, rfl, DPut.t h1 h2 h3, h4⟩)

/-! ### lists made by a comprehension over a range -/
def mLcR (ta : TE) (g : TG) (el : TE) (vs : List Nat) : TE := fun σ H Q => ta σ H fun v H1 => match v with
  | .int j => (-(2 ^ 62) ≤ j ∧ j < 2 ^ 62) ∧ ∀ D, H1 D = none → ∃ Pv : Nat → Hp → Prop, Pv 0 (upd H1 D (.lst [])) ∧
      (∀ (i : Nat) H, i < j.toNat → Pv i H → g (.int i) (wipe σ vs) H fun σ2 H2 => wipe σ2 vs = wipe σ vs ∧ el σ2 H2 fun y H3 =>
        ∃ acc, H3 D = some (.lst acc) ∧ acc.length < sizeLine ∧ Pv (i + 1) (upd H3 D (.lst (acc ++ [y])))) ∧ ∀ H, Pv j.toNat H → Q (.ref D) H
  | _ => False
theorem mlcR {elt tg a : Expr} {scope : Scope} {own : List (Str × Nat)} {p pos pos' : Pos} {g : TG} {ta el : TE} (hc : X.calm = true) (hN : X.N.Nodup) (hgr : Gl X "range") (hm : X.mg "range" = none) (ha : PE X a ta) (ok : BlkOk X.N X.env.scope scope own)
    (hg : ∀ (s : Shared) (H : Hp) (C : Addr) (cl : List (Str × Addr)) (fp : List Addr), PG (X.blk s H scope (compEnvC scope cl C X.env) fp) tg g)
    (he : ∀ (s : Shared) (H : Hp) (C : Addr) (cl : List (Str × Addr)) (fp : List Addr), PE (X.blk s H scope (compEnvC scope cl C X.env) fp) elt el)
    (hsa : starEach [a] X.env = (false, eval a X.env) :: starEach [] X.env := by rfl)
    (hs : ∀ x, foldedSetIterable (.Call (.Name "range" p) [a] [] pos') X.env x = pure x := by intro _; rfl) : PE X (.ListComp elt [⟨tg, .Call (.Name "range" p) [a] [] pos', [], 0⟩] scope pos) (mLcR ta g el (own.map (·.2))) := by
  refine PE.imp ?_ (pe_lc hc hN (pi_range1 (tg := tg) (p := p) (pos := pos') hgr hm (pa_cons (mono_pe ha) pa_nil hsa) hsa) ok hg (fun _ _ _ _ _ => pts_nil) he hs)
  intro σ H Q h
  refine ⟨_, h, ?_⟩
  intro v H1 h1
  cases v with
  | int j =>
    obtain ⟨h2, h3⟩ := h1
    refine ⟨j, rfl, h2.1, h2.2, fun D hD => ?_⟩
    obtain ⟨Pv, p0, ps, pd⟩ := h3 D hD
    refine lc_range (lo := 0) (n := j.toNat) Pv p0 ?_ pd
    intro i H hi hP
    have z := ps i H hi hP
    rw [Int.zero_add]
    exact z
  | _ => exact h1.elim
end
end T5
set_option maxHeartbeats 2000000
/-! data that stays (Td), heaps that change at few places (Chg), cells, rows, the machine -/
namespace T5
open PySem PySem.Spec PyProof.Rows L2 T3
def Tt (K : PySem.W.Frag) (H : Hp) (a : Addr) (xs : List V) : Prop := H a = some (.tup xs) ∨ ∀ H', SqT K H' a xs
theorem Tt.sq {K : PySem.W.Frag} {H : Hp} {a : Addr} {xs : List V} (h : Tt K H a xs) : SqT K H a xs := h.elim SqT.of fun h => h H
theorem Tt.keep {K : PySem.W.Frag} {H H' : Hp} (k : Ktp H H') {a : Addr} {xs : List V} (h : Tt K H a xs) : Tt K H' a xs := h.elim (fun h => .inl (k _ _ h)) .inr
mutual
inductive Td (K : PySem.W.Frag) (H : Hp) : V → PyData → Prop
  | int (i : Int) : Td K H (.int i) (.int i)
  | str (x : Str) : Td K H (.str x) (.str x)
  | tup {a : Addr} {xs : List V} {ds : List PyData} : Tt K H a xs → TdAll K H xs ds → Td K H (.ref a) (.tuple ds)
inductive TdAll (K : PySem.W.Frag) (H : Hp) : List V → List PyData → Prop
  | nil : TdAll K H [] []
  | cons {v : V} {vs : List V} {d : PyData} {ds : List PyData} : Td K H v d → TdAll K H vs ds → TdAll K H (v :: vs) (d :: ds)
end
section
variable {K : PySem.W.Frag}
mutual
theorem Td.keep {H H' : Hp} (k : Ktp H H') : ∀ {v : V} {d : PyData}, Td K H v d → Td K H' v d
  | _, _, .int i => .int i
  | _, _, .str x => .str x
  | _, _, .tup h t => .tup (h.keep k) (TdAll.keep k t)
theorem TdAll.keep {H H' : Hp} (k : Ktp H H') : ∀ {v : List V} {d : List PyData}, TdAll K H v d → TdAll K H' v d
  | _, _, .nil => .nil
  | _, _, .cons h t => .cons (Td.keep k h) (TdAll.keep k t)
end
mutual
theorem Td.dp {H : Hp} : ∀ {v : V} {d : PyData}, Td K H v d → Dp K H v d
  | _, _, .int i => .int i
  | _, _, .str x => .str x
  | _, _, .tup h t => .tup h.sq (TdAll.dp t)
theorem TdAll.dp {H : Hp} : ∀ {v : List V} {d : List PyData}, TdAll K H v d → DpAll K H v d
  | _, _, .nil => .nil
  | _, _, .cons h t => .cons (Td.dp h) (TdAll.dp t)
end
theorem TdAll.length {H : Hp} : ∀ {v : List V} {d : List PyData}, TdAll K H v d → v.length = d.length
  | _, _, .nil => rfl
  | _, _, .cons _ t => by
    rw [List.length_cons, List.length_cons, t.length]
theorem TdAll.app {H : Hp} : ∀ {v w : List V} {d e : List PyData}, TdAll K H v d → TdAll K H w e → TdAll K H (v ++ w) (d ++ e)
  | _, _, _, _, .nil, h => h
  | _, _, _, _, .cons a t, h => .cons a (TdAll.app t h)
theorem TdAll.snoc {H : Hp} {v : List V} {d : List PyData} {x : V} {e : PyData} (h : TdAll K H v d) (g : Td K H x e) : TdAll K H (v ++ [x]) (d ++ [e]) := h.app (.cons g .nil)
theorem TdAll.rev {H : Hp} : ∀ {v : List V} {d : List PyData}, TdAll K H v d → TdAll K H v.reverse d.reverse
  | _, _, .nil => .nil
  | _, _, .cons a t => by
    rw [List.reverse_cons, List.reverse_cons]
    exact t.rev.snoc a
theorem TdAll.take {H : Hp} : ∀ {v : List V} {d : List PyData} (n : Nat), TdAll K H v d → TdAll K H (v.take n) (d.take n)
  | _, _, 0, _ => by
    rw [List.take_zero, List.take_zero]
    exact .nil
  | _, _, _ + 1, .nil => .nil
  | _, _, n + 1, .cons a t => .cons a (t.take n)
theorem TdAll.drop {H : Hp} : ∀ {v : List V} {d : List PyData} (n : Nat), TdAll K H v d → TdAll K H (v.drop n) (d.drop n)
  | _, _, 0, h => h
  | _, _, _ + 1, .nil => .nil
  | _, _, n + 1, .cons a t => t.drop n
theorem TdAll.get {H : Hp} : ∀ {v : List V} {d : List PyData} {i : Nat} {e : PyData}, TdAll K H v d → d[i]? = some e → ∃ x, v[i]? = some x ∧ Td K H x e
  | _, _, _, _, .nil, h => by simp at h
  | _, _, 0, _, .cons a t, h => by
    simp at h
    subst h
    exact ⟨_, rfl, a⟩
  | _, _, i + 1, _, .cons a t, h => by
    obtain ⟨e, h1, h2⟩ := TdAll.get (i := i) t (by simpa using h)
    exact ⟨e, by simpa using h1, h2⟩
theorem TdAll.getV {H : Hp} : ∀ {v : List V} {d : List PyData} {i : Nat} {x : V}, TdAll K H v d → v[i]? = some x → ∃ e, d[i]? = some e ∧ Td K H x e
  | _, _, _, _, .nil, h => by simp at h
  | _, _, 0, _, .cons a t, h => by
    simp at h
    subst h
    exact ⟨_, rfl, a⟩
  | _, _, i + 1, _, .cons a t, h => by
    obtain ⟨e, h1, h2⟩ := TdAll.getV (i := i) t (by simpa using h)
    exact ⟨e, by simpa using h1, h2⟩
theorem TdAll.split {H : Hp} : ∀ {v : List V} {d e : List PyData}, TdAll K H v (d ++ e) → ∃ v1 v2, v = v1 ++ v2 ∧ TdAll K H v1 d ∧ TdAll K H v2 e
  | v, [], e, h => ⟨[], v, rfl, .nil, h⟩
  | _, x :: d, e, .cons a t => by
    obtain ⟨v1, v2, rfl, h1, h2⟩ := TdAll.split (d := d) t
    exact ⟨_ :: v1, v2, rfl, .cons a h1, h2⟩
theorem TdAll.last {H : Hp} {v : List V} {d : List PyData} {e : PyData} (h : TdAll K H v (d ++ [e])) : ∃ v1 x, v = v1 ++ [x] ∧ TdAll K H v1 d ∧ Td K H x e := by
  obtain ⟨v1, v2, rfl, h1, h2⟩ := h.split
  cases h2 with
  | cons a t =>
    cases t
    exact ⟨v1, _, rfl, h1, a⟩
theorem Td.tuple {H : Hp} {v : V} {ds : List PyData} (h : Td K H v (.tuple ds)) : ∃ a xs, v = .ref a ∧ Tt K H a xs ∧ TdAll K H xs ds := by
  cases h with
  | tup h t => exact ⟨_, _, rfl, h, t⟩
theorem Td.int_eq {H : Hp} {v : V} {i : Int} (h : Td K H v (.int i)) : v = .int i := by
  cases h
  rfl
theorem Td.str_eq {H : Hp} {v : V} {i : Str} (h : Td K H v (.str i)) : v = .str i := by
  cases h
  rfl
theorem TdAll.ints {H : Hp} : ∀ {v : List V} {ns : List Int}, TdAll K H v (ns.map PyData.int) → v = ns.map V.int
  | _, [], .nil => rfl
  | _, n :: ns, .cons a t => by
    rw [a.int_eq, t.ints]
    rfl
theorem TdAll.ofInts {H : Hp} : ∀ ns : List Int, TdAll K H (ns.map V.int) (ns.map PyData.int)
  | [] => .nil
  | n :: ns => .cons (.int n) (TdAll.ofInts ns)
end

/-! ### heaps -/
def Fr (L : List Addr) (H H' : Hp) : Prop := ∀ a o, a ∉ L → H a = some o → H' a = some o
structure Chg (L : List Addr) (H H' : Hp) : Prop where
  fr : Fr L H H'
  kt : Ktp H H'
theorem Chg.refl (L : List Addr) (H : Hp) : Chg L H H := ⟨fun _ _ _ e => e, Ktp.refl H⟩
theorem Chg.trans {L : List Addr} {H H1 H2 : Hp} (a : Chg L H H1) (b : Chg L H1 H2) : Chg L H H2 := ⟨fun x o hx e => b.fr x o hx (a.fr x o hx e), a.kt.trans b.kt⟩
theorem Chg.new {L : List Addr} {H : Hp} {p : Addr} {o : HO} (h : H p = none) : Chg L H (upd H p o) := ⟨fun a u _ e => by
  rw [upd_ne (ne_of_none e h)]
  exact e, Ktp.new h⟩
theorem Chg.lst {L : List Addr} {H : Hp} {p : Addr} {ys zs : List V} (hp : p ∈ L) (h : H p = some (.lst ys)) : Chg L H (upd H p (.lst zs)) := ⟨fun a u ha e => by
  rw [upd_ne (fun z => ha (by rw [z]; exact hp))]
  exact e, Ktp.lst h⟩
theorem Chg.dt {L : List Addr} {H : Hp} {p : Addr} {ys zs : List (List Key × V)} (hp : p ∈ L) (h : H p = some (.dT ys)) : Chg L H (upd H p (.dT zs)) := ⟨fun a u ha e => by
  rw [upd_ne (fun z => ha (by rw [z]; exact hp))]
  exact e, fun a xs e => by
  rw [upd_ne (ne_of e h (fun z => nomatch z))]
  exact e⟩
theorem Chg.grow {L : List Addr} {H H' : Hp} (h : ∀ a o, H a = some o → H' a = some o) : Chg L H H' := ⟨fun a o _ e => h a o e, fun a xs e => h a _ e⟩
theorem Chg.mono {L L' : List Addr} {H H' : Hp} (h : Chg L H H') (l : ∀ a ∈ L, a ∈ L') : Chg L' H H' := ⟨fun a o ha e => h.fr a o (fun z => ha (l a z)) e, h.kt⟩
theorem Chg.get {L : List Addr} {H H' : Hp} {a : Addr} {o : HO} (h : Chg L H H') (ha : a ∉ L) (e : H a = some o) : H' a = some o := h.fr a o ha e
theorem Chg.old {H H' : Hp} {a : Addr} (h : Chg [] H H') (e : H' a = none) : H a = none := by
  cases q : H a with
  | none => rfl
  | some o =>
    rw [h.fr a o (by simp) q] at e
    cases e
/-- what is written at new places is no change of what was -/
theorem Chg.fresh {L : List Addr} {H0 H H' : Hp} (h : Chg [] H0 H) (g : Chg L H H') (hL : ∀ a ∈ L, H0 a = none) : Chg [] H0 H' := ⟨fun a o _ e => g.fr a o (fun z => by rw [hL a z] at e; cases e) (h.fr a o (by simp) e), h.kt.trans g.kt⟩

/-! ### cells and rows -/
inductive Cell where
  | mk (n : Int) (ps : List Cell) : Cell
mutual
def Cell.d : Cell → PyData
  | .mk n ps => .tuple [.int n, .tuple (Cell.ds ps)]
def Cell.ds : List Cell → List PyData
  | [] => []
  | c :: cs => c.d :: Cell.ds cs
end
mutual
def Cell.size : Cell → Nat
  | .mk _ ps => Cell.sizes ps + 1
def Cell.sizes : List Cell → Nat
  | [] => 0
  | c :: cs => c.size + Cell.sizes cs
end
theorem Cell.ds_map : ∀ cs : List Cell, Cell.ds cs = cs.map Cell.d
  | [] => rfl
  | c :: cs => by rw [Cell.ds, Cell.ds_map cs, List.map_cons]
theorem Cell.sizes_app : ∀ cs ds : List Cell, Cell.sizes (cs ++ ds) = Cell.sizes cs + Cell.sizes ds
  | [], ds => by rw [List.nil_append, Cell.sizes, Nat.zero_add]
  | c :: cs, ds => by rw [List.cons_append, Cell.sizes, Cell.sizes, Cell.sizes_app cs ds, Nat.add_assoc]
theorem Cell.size_pos : ∀ c : Cell, 0 < c.size
  | .mk _ ps => by
    rw [Cell.size]
    omega
theorem Cell.sizes_len : ∀ cs : List Cell, cs.length ≤ Cell.sizes cs
  | [] => Nat.zero_le _
  | c :: cs => by
    rw [Cell.sizes, List.length_cons]
    have := c.size_pos
    have := Cell.sizes_len cs
    omega
theorem Cell.sizes_one (c : Cell) : Cell.sizes [c] = c.size := by
  rw [Cell.sizes, Cell.sizes]
  rfl
mutual
theorem Cell.lay : ∀ c : Cell, c.d.canLay0 = true ∧ c.d.depth ≤ 2 * c.size
  | .mk n ps => by
    obtain ⟨h1, h2⟩ := Cell.lays ps
    rw [Cell.d, Cell.size]
    simp only [PyData.canLay0, PyData.canLayAll0, PyData.depth, PyData.depthAll, h1, Bool.and_self, true_and]
    omega
theorem Cell.lays : ∀ cs : List Cell, PyData.canLayAll0 (Cell.ds cs) = true ∧ PyData.depthAll (Cell.ds cs) ≤ 2 * Cell.sizes cs
  | [] => ⟨rfl, Nat.le_refl _⟩
  | c :: cs => by
    obtain ⟨h1, h2⟩ := Cell.lay c
    obtain ⟨h3, h4⟩ := Cell.lays cs
    rw [Cell.ds, Cell.sizes]
    simp only [PyData.canLayAll0, PyData.depthAll, h1, h3, Bool.and_self, true_and]
    omega
end
theorem Cell.shaped (c : Cell) (h : c.size ≤ 32) : SeqAt.shaped c.d = true := by
  obtain ⟨h1, h2⟩ := c.lay
  unfold SeqAt.shaped
  rw [h1, decide_eq_true (by omega)]
  rfl
inductive Row where
  | loc (i : Nat)
  | drop
  | keep
  | forget (n : Nat)
  | part (i : Nat)
  | make (n : Int) (k : Nat)
  | same
  | is (n : Int) (t : Nat)
  | go (t : Nat)
  | call (m f : Str) (k : Nat)
  | back
def Row.d : Row → PyData
  | .loc i => .tuple [.str "local", .int i]
  | .drop => .tuple [.str "drop"]
  | .keep => .tuple [.str "keep"]
  | .forget n => .tuple [.str "forget", .int n]
  | .part n => .tuple [.str "part", .int n]
  | .make n k => .tuple [.str "make", .int n, .int k]
  | .same => .tuple [.str "same"]
  | .is n t => .tuple [.str "is", .int n, .int t]
  | .go t => .tuple [.str "go", .int t]
  | .call m f k => .tuple [.str "call", .str m, .str f, .int k]
  | .back => .tuple [.str "back"]
def yn (b : Bool) : Cell := .mk (if b then 1 else 0) []
inductive Do : Row → List Cell → List Cell → List Cell → List Cell → Prop
  | loc {i : Nat} {c : Cell} {h s : List Cell} : h[i]? = some c → Do (.loc i) h s h (s ++ [c])
  | drop {c : Cell} {h s : List Cell} : Do .drop h (s ++ [c]) h s
  | keep {c : Cell} {h s : List Cell} : Do .keep h (s ++ [c]) (h ++ [c]) s
  | forget {n : Nat} {h s : List Cell} : n ≤ h.length → Do (.forget n) h s (h.take (h.length - n)) s
  | part {i : Nat} {n : Int} {ps : List Cell} {p : Cell} {h s : List Cell} : ps[i]? = some p → Do (.part i) h (s ++ [.mk n ps]) h (s ++ [p])
  | make {n : Int} {k : Nat} {cs h s : List Cell} : cs.length = k → (Cell.mk n cs).size ≤ 256 → Do (.make n k) h (s ++ cs) h (s ++ [.mk n cs])
  | same {a b : Cell} {h s : List Cell} : a.size ≤ 32 → b.size ≤ 32 → Do .same h (s ++ [a] ++ [b]) h (s ++ [yn (PyData.eqv b.d a.d)])
theorem Do.len {r : Row} {h s h' s' : List Cell} (q : Do r h s h' s') : h'.length + s'.length ≤ h.length + s.length + 1 := by
  cases q <;> simp only [List.length_append, List.length_take, List.length_cons, List.length_nil] <;> omega
structure Frame where
  rows : List Row
  «at» : Nat
  held : List Cell
  stack : List Cell
abbrev Built := Str → Str → Option (Nat × List Row)
/-- from here the machine ends with this cell in so many rows -/
inductive Go (B : Built) : List Frame → List Row → Nat → List Cell → List Cell → Cell → Nat → Prop
  | row {fs : List Frame} {rows : List Row} {i n : Nat} {r : Row} {h s h' s' : List Cell} {c : Cell} : rows[i]? = some r → Do r h s h' s' → Go B fs rows (i + 1) h' s' c n → Go B fs rows i h s c (n + 1)
  | go {fs : List Frame} {rows : List Row} {i t n : Nat} {h s : List Cell} {c : Cell} : rows[i]? = some (.go t) → Go B fs rows t h s c n → Go B fs rows i h s c (n + 1)
  | is {fs : List Frame} {rows : List Row} {i t n : Nat} {k m : Int} {ps h s : List Cell} {c : Cell} : rows[i]? = some (.is k t) → Go B fs rows (if m = k then i + 1 else t) h (s ++ [.mk m ps]) c n → Go B fs rows i h (s ++ [.mk m ps]) c (n + 1)
  | call {fs : List Frame} {rows rows' : List Row} {i k n : Nat} {m f : Str} {given h s : List Cell} {c : Cell} : rows[i]? = some (.call m f k) → B m f = some (k, rows') → given.length = k → Go B (fs ++ [⟨rows, i + 1, h, s⟩]) rows' 0 given [] c n → Go B fs rows i h (s ++ given) c (n + 1)
  | back {fs : List Frame} {rows rows' : List Row} {i i' n : Nat} {h s h' s' : List Cell} {c1 c : Cell} : rows[i]? = some .back → Go B fs rows' i' h' (s' ++ [c1]) c n → Go B (fs ++ [⟨rows', i', h', s'⟩]) rows i h (s ++ [c1]) c (n + 1)
  | done {rows : List Row} {i : Nat} {h s : List Cell} {c : Cell} : rows[i]? = some .back → Go B [] rows i h (s ++ [c]) c 1
/-! ### lists of cells in the heap -/
def LC (K : PySem.W.Frag) (H : Hp) (a : Addr) (cs : List Cell) : Prop := ∃ vs, H a = some (.lst vs) ∧ TdAll K H vs (cs.map Cell.d)
theorem LC.chg {K : PySem.W.Frag} {L : List Addr} {H H' : Hp} {a : Addr} {cs : List Cell} (h : LC K H a cs) (g : Chg L H H') (ha : a ∉ L) : LC K H' a cs := by
  obtain ⟨vs, h1, h2⟩ := h
  exact ⟨vs, g.get ha h1, h2.keep g.kt⟩
end T5
set_option maxHeartbeats 2000000
namespace T5
open PySem PySem.Spec PyProof.Rows L2 T3
def topS (i : Nat) : Stmt := PySem.Challenge.pw_asiffresh_k88_chains_gone_round.main.body.getD i (.Pass ⟨0, 0, 0, 0⟩)
def GI (mg : Str → Option Value) (x : Str) (i : Int) : Prop := ∃ t, mg x = some (.int i t)
def GD (K : PySem.W.Frag) (mg : Str → Option Value) (x : Str) (d : PyData) : Prop := ∃ p, mg x = some (.ref p) ∧ ∀ H, Td K H (.ref p) d
section
variable {X : Cx}
theorem pe_gi {x : Str} {i : Int} {pos : Pos} (hg : Gl X x) (h : GI X.mg x i) (hd : (x == ("__debug__" : Str)) = false := by decide) : PE X (.Name x pos) (tC (.int i)) := by
  obtain ⟨t, h⟩ := h
  exact pe_glob hg h ⟨t, rfl⟩ hd
def mGD (K : PySem.W.Frag) (d : PyData) : TE := fun _ H Q => ∀ p, (∀ H, Td K H (.ref p) d) → Q (.ref p) H
theorem pe_gd {x : Str} {d : PyData} {pos : Pos} (hg : Gl X x) (h : GD X.K X.mg x d) (hd : (x == ("__debug__" : Str)) = false := by decide) : PE X (.Name x pos) (mGD X.K d) := by
  obtain ⟨p, h, hp⟩ := h
  exact PE.imp (fun σ H Q q => q p hp) (pe_glob hg h rfl hd)
end
theorem hu1 {k : Nat} {A : Around} (hr : Room k A) : A.units + 1 < cLine := by
  have := hr.un
  omega
theorem hu200 {k : Nat} {A : Around} (hr : Room k A) : A.units + 200 < cLine := by
  have := hr.un
  omega
/-- what the top has left -/
structure Top (K : PySem.W.Frag) (mg : Str → Option Value) : Prop where
  len : mg "len" = none
  int : mg "int" = none
  bool : mg "bool" = none
  max : mg "max" = none
  list : mg "list" = none
  zip : mg "zip" = none
  tuple : mg "tuple" = none
  range : mg "range" = none
  isinstance : mg "isinstance" = none
  MOST_CALLS : GI mg "MOST_CALLS" 100000
  MOST_ROWS : GI mg "MOST_ROWS" 1000000
  MOST_CELLS : GI mg "MOST_CELLS" 256
  NO : GD K mg "NO" (yn false).d
  YES : GD K mg "YES" (yn true).d
theorem cutV_from {xs : List V} {n : Nat} (h : n ≤ xs.length) : cutV xs (some (n : Int)) none = xs.drop n := by
  unfold cutV
  rw [HT.sIx_nat, HT.sIx_none]
  rw [show min n xs.length = n by omega]
  exact List.take_of_length_le (by rw [List.length_drop]; exact Nat.le_refl _)
abbrev st_popped : Stmt := topS 6
theorem sc_popped : FnScope ["stack", "many", "first", "row"] ["stack", "many"] (defScope st_popped) := ⟨rfl, rfl, rfl, by decide +kernel, rfl, by decide +kernel, by decide +kernel⟩
abbrev st_rows_for : Stmt := topS 13
theorem sc_rows_for : FnScope ["built", "pair", "many", "givens", "rows"] ["built", "pair", "many"] (defScope st_rows_for) := ⟨rfl, rfl, rfl, by decide +kernel, rfl, by decide +kernel, by decide +kernel⟩
abbrev st_is_great : Stmt := topS 14
theorem sc_is_great : FnScope ["cell", "todo", "many"] ["cell"] (defScope st_is_great) := ⟨rfl, rfl, rfl, by decide +kernel, rfl, by decide +kernel, by decide +kernel⟩
section
variable {P : Program} {w : World} {K : PySem.W.Frag} {mg : Str → Option Value} {base : Heap}
def sp_popped (K : PySem.W.Frag) : Sp := fun vs H Q _ => match vs with
  | [.ref st, .int m] => ∃ s0 gv : List Cell, m = gv.length ∧ LC K H st (s0 ++ gv) ∧ ∀ p H', H p = none → Chg [st] H H' → LC K H' p gv → LC K H' st s0 → Q (.ref p) H'
  | _ => False
theorem ok_popped {f : Addr} {fd : FuncData} (F : Fun K "popped" "popped" st_popped f fd) (T : Top K mg) : FnOk P w K mg base CX0 1 f fd ["stack", "many"] (sp_popped K) := by
  refine F.ok sc_popped (fun vs H Q E h => ?_) (fun cdv A outer s H vs Q E hr h => ?_)
  · match vs, h with
    | [.ref z, .int a], _ => rfl
  match vs, h with
  | [.ref st, .int m], h =>
  obtain ⟨s0, gv, rfl, ⟨vs, hs, tv⟩, q⟩ := h
  have lv := tv.length
  rw [List.length_map, List.length_append] at lv
  rw [List.map_append] at tv
  obtain ⟨v1, v2, rfl, t1, t2⟩ := tv.split
  have l1 := t1.length
  have l2 := t2.length
  rw [List.length_map] at l1 l2
  refine ⟨_, (pss_cons (ps_set (i := 2) sc_popped.nd rfl (.inl rfl) (pe_op opSub (pe_callB callLen (by rfl) T.len (by decide +kernel) (pa_cons (mv 0) pa_nil)) (mv 1)))
(pss_cons (ps_set (i := 3) sc_popped.nd rfl (.inl rfl) (pe_slice slM (mv 0) (pom (mv 2)) po_none))
(pss_cons (mdelF (mv 0) (pom (mv 2)))
(pss_one (ps_ret (mv 3))))))
  , ?_⟩
  have e0 : ((v1 ++ v2).length : Int) - (gv.length : Int) = ((v1.length : Nat) : Int) := by
    rw [List.length_append]
    omega
  have ec : cutV (v1 ++ v2) (some (((v1 ++ v2).length : Int) - (gv.length : Int))) none = v2 := by
    rw [e0, cutV_from (by rw [List.length_append]; omega), List.drop_left]
  refine ⟨v1 ++ v2, .inl (SqL.of hs), v1 ++ v2, SqL.of hs, fun p hp => ⟨v1 ++ v2, v1.length, congrArg some e0, ?_, by rw [List.length_append]; omega, ?_⟩⟩
  · show upd H p (.lst (cutV (v1 ++ v2) (some (((v1 ++ v2).length : Int) - (gv.length : Int))) none)) st = some (.lst (v1 ++ v2))
    rw [upd_ne (ne_of_none hs hp)]
    exact hs
  · show Q (.ref p) (upd (upd H p (.lst (cutV (v1 ++ v2) (some (((v1 ++ v2).length : Int) - (gv.length : Int))) none))) st (.lst ((v1 ++ v2).take v1.length)))
    rw [ec, List.take_left]
    have c : Chg [st] H (upd (upd H p (.lst v2)) st (.lst v1)) := (Chg.new hp).trans (Chg.lst (by simp) (by rw [upd_ne (ne_of_none hs hp)]; exact hs))
    refine q p _ hp c ⟨v2, ?_, t2.keep c.kt⟩ ⟨v1, upd_same, t1.keep c.kt⟩
    rw [upd_ne (ne_of_none hs hp).symm]
    exact upd_same

/-- the dict of what is built -/
def BT (K : PySem.W.Frag) (H : Hp) (d : Addr) (B : Built) : Prop := ∃ kvs, H d = some (.dT kvs) ∧ ∀ m f n rows, B m f = some (n, rows) → ∃ v, valV kvs [.inr m, .inr f] = some v ∧ Td K H v (.tuple [.int (n : Nat), .tuple (rows.map Row.d)])
theorem BT.chg {L : List Addr} {H H' : Hp} {d : Addr} {B : Built} (h : BT K H d B) (g : Chg L H H') (hd : d ∉ L) : BT K H' d B := by
  obtain ⟨kvs, h1, h2⟩ := h
  refine ⟨kvs, g.get hd h1, fun m f n rows e => ?_⟩
  obtain ⟨v, e1, e2⟩ := h2 m f n rows e
  exact ⟨v, e1, e2.keep g.kt⟩
def sp_rows_for (K : PySem.W.Frag) : Sp := fun vs H Q _ => match vs with
  | [.ref d, .ref p, .int k] => ∃ (B : Built) (m f : Str) (n : Nat) (rows : List Row), k = n ∧ BT K H d B ∧ H p = some (.tup [.str m, .str f]) ∧ B m f = some (n, rows) ∧ ∀ v, Td K H v (.tuple (rows.map Row.d)) → Q v H
  | _ => False
theorem ok_rows_for {f : Addr} {fd : FuncData} (F : Fun K "rows_for" "rows_for" st_rows_for f fd) (T : Top K mg) : FnOk P w K mg base CX0 1 f fd ["built", "pair", "many"] (sp_rows_for K) := by
  refine F.ok sc_rows_for (fun vs H Q E h => ?_) (fun cdv A outer s H vs Q E hr h => ?_)
  · match vs, h with
    | [.ref z, .ref y, .int a], _ => rfl
  match vs, h with
  | [.ref d, .ref p, .int k], h =>
  obtain ⟨B, m, f, n, rows, rfl, ⟨kvs, hd, hB⟩, hp, hb, q⟩ := h
  obtain ⟨v, e1, tv⟩ := hB m f n rows hb
  obtain ⟨a, xs, rfl, ta, txs⟩ := tv.tuple
  refine ⟨_, (pss_cons (mif (mcmp (opNotInT (hu1 hr)) (mv 1) (mv 0))
(pss_one ps_never)
pss_nil)
(pss_cons (ps_asg (mdget (hu1 hr) (mv 0) (mv 1)) (pg_tup rfl (pgs_cons (pg_name (i := 3) sc_rows_for.nd rfl (.inl rfl)) (pgs_cons (pg_name (i := 4) sc_rows_for.nd rfl (.inl rfl)) pgs_nil))))
(pss_cons (mif (mcmp opNe (mv 3) (mv 2))
(pss_one ps_never)
pss_nil)
(pss_one (ps_ret (mv 4))))))
  , ?_⟩
  have hp' : H p = some (.tup (([.inr m, .inr f] : List Key).map kV)) := hp
  refine ⟨kvs, _, hd, hp', ?_, ?_⟩
  · rw [e1]
    intro z
    cases z
  · intro _
    refine ⟨kvs, _, _, hd, hp', e1, a, xs, rfl, ta.sq, txs.length, ?_⟩
    cases txs with
    | cons t1 t2 =>
      cases t2 with
      | cons t3 t4 =>
        cases t4
        cases t1
        refine ⟨_, _, rfl, _, _, rfl, rfl, fun z => ?_, fun _ => q _ t3⟩
        simp at z
def sp_is_great (K : PySem.W.Frag) : Sp := fun vs H Q _ => match vs with
  | [v] => ∃ c : Cell, Td K H v c.d ∧ c.size ≤ 1000000 ∧ ∀ H', Chg [] H H' → Q (.bl (decide (256 < c.size))) H'
  | _ => False
theorem ok_is_great {f : Addr} {fd : FuncData} (F : Fun K "is_great" "is_great" st_is_great f fd) (T : Top K mg) : FnOk P w K mg base CX0 1 f fd ["cell"] (sp_is_great K) := by
  refine F.ok sc_is_great (fun vs H Q E h => ?_) (fun cdv A outer s H vs Q E hr h => ?_)
  · match vs, h with
    | [z], _ => rfl
  match vs, h with
  | [v], h =>
  obtain ⟨c, tv, hz, q⟩ := h
  refine ⟨_, (pss_cons (ps_par (i := 1) (j := 2) rfl sc_is_great.nd rfl rfl (by decide) rfl rfl (pa_cons (pe_lst (pa_cons (mv 0) pa_nil)) (pa_cons pe_int pa_nil)) (by rfl))
(pss_cons (mwhile PassesOwn.never (mtru (mv 1))
(pss_cons (maug (i := 2) sc_is_great.nd rfl (.inl rfl) pe_int ipAdd)
(pss_cons (mif (mcmp opGt (mv 2) (pe_gi (by rfl) T.MOST_CELLS))
(pss_one (ps_ret pe_bl))
pss_nil)
(pss_one (mext (mv 1) (pe_ix ixM (mpop (mv 1)) pe_int (fun _ _ => rfl)))))))
(pss_one (ps_ret pe_bl))))
  , ?_⟩
  refine ⟨(by rw [sizeLine_eq]; show 1 ≤ 16777216; omega), fun p hp => ⟨_, _, rfl, fun σ H1 => ∃ (cs : List Cell) (m : Nat) (p' : Addr), σ = [some v, some (.ref p'), some (.int m)] ∧ H p' = none ∧ LC K H1 p' cs ∧ Chg [] H H1 ∧ m + Cell.sizes cs = c.size ∧ m ≤ 256,
    fun σ H1 => c.size + 1 - (match σ with | [_, _, some (.int m)] => m.toNat | _ => 0), ?_, ?_⟩⟩
  · have c0 : Chg [] H (upd H p (.lst [v])) := Chg.new hp
    refine ⟨[c], 0, p, rfl, hp, ⟨[v], upd_same, .cons (tv.keep c0.kt) .nil⟩, c0, ?_, by decide⟩
    rw [Cell.sizes_one]
    omega
  · rintro σ H1 ⟨cs, m, p', rfl, hp', ⟨vs, hl, tl⟩, c1, hs, hm⟩
    refine ⟨vs, .inl (SqL.of hl), fun hb => ?_, fun hb => ?_⟩
    · -- a cell is there
      have hne : cs ≠ [] := fun z => by
        subst z
        cases tl
        cases hb
      obtain ⟨cs', d, rfl⟩ : ∃ cs' d, cs = cs' ++ [d] := ⟨cs.dropLast, cs.getLast hne, (List.dropLast_concat_getLast hne).symm⟩
      rw [List.map_append] at tl
      obtain ⟨v1, x, rfl, t1, tx⟩ := tl.last
      rw [Cell.sizes_app, Cell.sizes_one] at hs
      have hpos := d.size_pos
      refine ⟨fun hg => ?_, fun hg => ?_⟩
      · have hg' : (256 : Int) < (m : Int) + 1 := of_decide_eq_true hg
        have e : decide (256 < c.size) = true := decide_eq_true (by omega)
        have := q H1 c1
        rw [e] at this
        exact this
      · have hg' : ¬ (256 : Int) < (m : Int) + 1 := of_decide_eq_false hg
        obtain ⟨n, ps⟩ := d
        rw [Cell.d, Cell.ds_map] at tx
        obtain ⟨a, xs, rfl, ta, txs⟩ := tx.tuple
        cases txs with
        | cons t3 t4 =>
          cases t4 with
          | cons t5 t6 =>
            cases t6
            obtain ⟨b, ys, rfl, tb, tys⟩ := t5.tuple
            rw [Cell.size] at hs
            have l1 := Cell.sizes_len cs'
            have l2 := Cell.sizes_len ps
            have l3 := t1.length
            have l4 := tys.length
            rw [List.length_map] at l3 l4
            have k1 : Ktp H1 (upd H1 p' (.lst v1)) := Ktp.lst hl
            have k2 : Ktp (upd H1 p' (.lst v1)) (upd (upd H1 p' (.lst v1)) p' (.lst (v1 ++ ys))) := Ktp.lst upd_same
            have kk := k1.trans k2
            refine ⟨⟨_, hl⟩, _, _, hl, _, .inr (ta.keep k1).sq, _, rfl, ?_⟩
            refine ⟨v1, ys, upd_same, .inr (tb.keep k1).sq, by rw [sizeLine_eq]; omega, ?_⟩
            refine ⟨⟨cs' ++ ps, m + 1, p', rfl, hp', ⟨v1 ++ ys, upd_same, ?_⟩, c1.fresh ⟨fun a o ha e => ?_, kk⟩ (L := [p']) ?_, ?_, by omega⟩, ?_⟩
            · rw [List.map_append]
              exact (t1.app tys).keep kk
            · have hne' : a ≠ p' := fun z => ha (by rw [z]; simp)
              rw [upd_ne hne', upd_ne hne']
              exact e
            · intro a ha
              rw [List.mem_singleton.mp ha]
              exact hp'
            · rw [Cell.sizes_app]
              omega
            · show c.size + 1 - (((m : Int) + 1).toNat) < c.size + 1 - ((m : Int).toNat)
              omega
    · have hnil : cs = [] := by
        have l := tl.length
        rw [List.length_map] at l
        have hv : vs = [] := by
          cases vs with
          | nil => rfl
          | cons _ _ => cases hb
        rw [hv] at l
        exact List.eq_nil_of_length_eq_zero l.symm
      subst hnil
      have e : decide (256 < c.size) = false := decide_eq_false (by rw [Cell.sizes] at hs; omega)
      have := q H1 c1
      rw [e] at this
      exact this
end
end T5
set_option maxHeartbeats 2000000
namespace T5
open PySem PySem.Spec PyProof.Rows L2 T3
abbrev st_do_row : Stmt := topS 15
theorem sc_do_row : FnScope ["row", "held", "stack", "word"] ["row", "held", "stack"] (defScope st_do_row) := ⟨rfl, rfl, rfl, by decide +kernel, rfl, by decide +kernel, by decide +kernel⟩
section
variable {P : Program} {w : World} {K : PySem.W.Frag} {mg : Str → Option Value} {base : Heap}
def sp_do_row (K : PySem.W.Frag) : Sp := fun vs H Q _ => match vs with
  | [v, .ref h, .ref s] => ∃ (r : Row) (hs ss hs' ss' : List Cell), Td K H v r.d ∧ Do r hs ss hs' ss' ∧ h ≠ s ∧ LC K H h hs ∧ LC K H s ss ∧ hs.length + ss.length ≤ 10000000 ∧
      ∀ H', Chg [h, s] H H' → LC K H' h hs' → LC K H' s ss' → Q .non H'
  | _ => False
theorem ok_do_row {f : Addr} {fd : FuncData} (F : Fun K "do_row" "do_row" st_do_row f fd) (T : Top K mg) (Cpopped : Cal P w K mg base "popped" 1 ["stack", "many"] (sp_popped K)) (Cis_great : Cal P w K mg base "is_great" 1 ["cell"] (sp_is_great K)) :
    FnOk P w K mg base CX0 2 f fd ["row", "held", "stack"] (sp_do_row K) := by
  refine F.ok sc_do_row (fun vs H Q E h => ?_) (fun cdv A outer s H vs Q E hr h => ?_)
  · match vs, h with
    | [v, .ref z, .ref y], _ => rfl
  match vs, h with
  | [v, .ref hp, .ref sp], h =>
  obtain ⟨r, hs, ss, hs', ss', tv, dd, hne, ⟨hv, eh, th⟩, ⟨sv, es, ts⟩, hz, q⟩ := h
  have lh := th.length
  have ls := ts.length
  rw [List.length_map] at lh ls
  refine ⟨_, (pss_cons (ps_set (i := 3) sc_do_row.nd rfl (.inl rfl) (pe_ix ixM (mv 0) pe_int (fun _ _ => rfl)))
(pss_one (mif (mcmp opEq (mv 3) pe_str)
(pss_one (mapp (mv 2) (pe_ix ixM (mv 1) (pe_ix ixM (mv 0) pe_int (fun _ _ => rfl)) (fun _ _ => rfl))))
(pss_one (mif (mcmp opEq (mv 3) pe_str)
(pss_one (ps_expr (mpop (mv 2))))
(pss_one (mif (mcmp opEq (mv 3) pe_str)
(pss_one (mapp (mv 1) (mpop (mv 2))))
(pss_one (mif (mcmp opEq (mv 3) pe_str)
(pss_one (mdelF (mv 1) (pom (pe_op opSub (pe_callB callLen (by rfl) T.len (by decide +kernel) (pa_cons (mv 1) pa_nil)) (pe_ix ixM (mv 0) pe_int (fun _ _ => rfl))))))
(pss_one (mif (mcmp opEq (mv 3) pe_str)
(pss_one (mapp (mv 2) (pe_ix ixM (pe_ix ixM (mpop (mv 2)) pe_int (fun _ _ => rfl)) (pe_ix ixM (mv 0) pe_int (fun _ _ => rfl)) (fun _ _ => rfl))))
(pss_one (mif (mcmp opEq (mv 3) pe_str)
(pss_cons (mapp (mv 2) (pe_tup (pa_cons (pe_ix ixM (mv 0) pe_int (fun _ _ => rfl)) (pa_cons (pe_callTy callTuple (by rfl) T.tuple (by decide +kernel) (pa_cons (pe_cal Cpopped (hr.mono (by decide)) (by rfl) (pa_cons (mv 2) (pa_cons (pe_ix ixM (mv 0) pe_int (fun _ _ => rfl)) pa_nil))) pa_nil)) pa_nil))))
(pss_one (mif (mval (pe_cal Cis_great (hr.mono (by decide)) (by rfl) (pa_cons (pe_ix ixM (mv 2) (pe_un unNeg pe_int) (fun _ _ => rfl)) pa_nil)))
(pss_one ps_never)
pss_nil)))
(pss_one (mapp (mv 2) (mifE (mcmp (op_eqD hr.units) (mpop (mv 2)) (mpop (mv 2))) (pe_gd (by rfl) T.YES) (pe_gd (by rfl) T.NO)))))))))))))))))
  , ?_⟩
  have keepH : ∀ {H' : Hp}, Chg [sp] H H' → LC K H' hp hs := fun c => LC.chg ⟨hv, eh, th⟩ c (by simpa using hne)
  have keepS : ∀ {H' : Hp}, Chg [hp] H H' → LC K H' sp ss := fun c => LC.chg ⟨sv, es, ts⟩ c (by simpa using hne.symm)
  have eh' : ∀ o, upd H sp o hp = some (.lst hv) := fun o => by
    rw [upd_ne hne]
    exact eh
  cases dd with
  | @loc i c _ _ hc =>
    obtain ⟨a, xs, rfl, ta, txs⟩ := Td.tuple tv
    cases txs with
    | cons t1 t2 =>
      cases t1
      cases t2 with
      | cons t3 t4 =>
        cases t4
        cases t3
        obtain ⟨x, hx, tx⟩ := th.get (i := i) (by rw [List.getElem?_map, hc]; rfl)
        refine ⟨_, .inr ta.sq, _, rfl, fun _ => ?_, fun hb => absurd hb (by decide)⟩
        have c1 : Chg [hp, sp] H (upd H sp (.lst (sv ++ [x]))) := Chg.lst (by simp) es
        refine ⟨⟨_, es⟩, _, .inr ta.sq, _, rfl, hv, .inl (SqL.of eh), x, atI_nat hx, sv, es, by rw [sizeLine_eq]; omega, ?_⟩
        refine q _ c1 ⟨hv, eh' _, th.keep c1.kt⟩ ⟨_, upd_same, ?_⟩
        rw [List.map_append]
        exact (ts.snoc tx).keep c1.kt
  | @drop c _ s' =>
    obtain ⟨a, xs, rfl, ta, txs⟩ := Td.tuple tv
    cases txs with
    | cons t1 t2 =>
      cases t1
      cases t2
      rw [List.map_append] at ts
      obtain ⟨v1, x, rfl, ts1, tx⟩ := ts.last
      refine ⟨_, .inr ta.sq, _, rfl, fun hb => absurd hb (by decide), fun _ => ⟨fun _ => ?_, fun hb => absurd hb (by decide)⟩⟩
      have c1 : Chg [hp, sp] H (upd H sp (.lst v1)) := Chg.lst (by simp) es
      exact ⟨v1, x, es, q _ c1 ⟨hv, eh' _, th.keep c1.kt⟩ ⟨_, upd_same, ts1.keep c1.kt⟩⟩
  | @keep c _ s' =>
    obtain ⟨a, xs, rfl, ta, txs⟩ := Td.tuple tv
    cases txs with
    | cons t1 t2 =>
      cases t1
      cases t2
      rw [List.map_append] at ts
      obtain ⟨v1, x, rfl, ts1, tx⟩ := ts.last
      refine ⟨_, .inr ta.sq, _, rfl, fun hb => absurd hb (by decide), fun _ => ⟨fun hb => absurd hb (by decide), fun _ => ⟨fun _ => ?_, fun hb => absurd hb (by decide)⟩⟩⟩
      have c1 : Chg [hp, sp] H (upd H sp (.lst v1)) := Chg.lst (by simp) es
      have c2 : Chg [hp, sp] (upd H sp (.lst v1)) (upd (upd H sp (.lst v1)) hp (.lst (hv ++ [x]))) := Chg.lst (by simp) (eh' _)
      have c := c1.trans c2
      refine ⟨⟨_, eh⟩, v1, x, es, hv, eh' _, by rw [sizeLine_eq]; rw [List.length_append, List.length_singleton] at hz; omega, q _ c ⟨_, upd_same, ?_⟩ ⟨v1, ?_, ts1.keep c.kt⟩⟩
      · rw [List.map_append]
        exact (th.snoc tx).keep c.kt
      · rw [upd_ne hne.symm]
        exact upd_same
  | @forget n _ _ hn =>
    obtain ⟨a, xs, rfl, ta, txs⟩ := Td.tuple tv
    cases txs with
    | cons t1 t2 =>
      cases t1
      cases t2 with
      | cons t3 t4 =>
        cases t4
        cases t3
        refine ⟨_, .inr ta.sq, _, rfl, fun hb => absurd hb (by decide), fun _ => ⟨fun hb => absurd hb (by decide), fun _ => ⟨fun hb => absurd hb (by decide), fun _ => ⟨fun _ => ?_, fun hb => absurd hb (by decide)⟩⟩⟩⟩
        have c1 : Chg [hp, sp] H (upd H hp (.lst (hv.take (hs.length - n)))) := Chg.lst (by simp) eh
        refine ⟨hv, .inl (SqL.of eh), _, .inr ta.sq, _, rfl, hv, hs.length - n, congrArg some (by show (hv.length : Int) - (n : Int) = _; omega), eh, by omega, q _ c1 ⟨_, upd_same, ?_⟩ ⟨sv, ?_, ts.keep c1.kt⟩⟩
        · rw [List.map_take]
          exact (th.take _).keep c1.kt
        · rw [upd_ne hne.symm]
          exact es
  | @part i n ps p _ s' hp' =>
    obtain ⟨a, xs, rfl, ta, txs⟩ := Td.tuple tv
    cases txs with
    | cons t1 t2 =>
      cases t1
      cases t2 with
      | cons t3 t4 =>
        cases t4
        cases t3
        rw [List.map_append] at ts
        obtain ⟨v1, x, rfl, ts1, tx⟩ := ts.last
        rw [Cell.d, Cell.ds_map] at tx
        obtain ⟨a2, xs2, rfl, ta2, txs2⟩ := tx.tuple
        cases txs2 with
        | cons u1 u2 =>
          cases u2 with
          | cons u3 u4 =>
            cases u4
            obtain ⟨a3, xs3, rfl, ta3, txs3⟩ := u3.tuple
            obtain ⟨y, hy, ty⟩ := txs3.get (i := i) (by rw [List.getElem?_map, hp']; rfl)
            refine ⟨_, .inr ta.sq, _, rfl, fun hb => absurd hb (by decide), fun _ => ⟨fun hb => absurd hb (by decide), fun _ => ⟨fun hb => absurd hb (by decide), fun _ => ⟨fun hb => absurd hb (by decide), fun _ => ⟨fun _ => ?_, fun hb => absurd hb (by decide)⟩⟩⟩⟩⟩
            have c1 : Chg [hp, sp] H (upd H sp (.lst v1)) := Chg.lst (by simp) es
            have c2 : Chg [hp, sp] (upd H sp (.lst v1)) (upd (upd H sp (.lst v1)) sp (.lst (v1 ++ [y]))) := Chg.lst (by simp) upd_same
            have c := c1.trans c2
            refine ⟨⟨_, es⟩, v1, _, es, _, .inr (ta2.keep c1.kt).sq, _, rfl, _, .inr (ta.keep c1.kt).sq, _, rfl, _, .inr (ta3.keep c1.kt).sq, y, atI_nat hy, v1, upd_same, by rw [sizeLine_eq]; rw [List.length_append, List.length_singleton] at ls; omega, q _ c ⟨hv, ?_, th.keep c.kt⟩ ⟨_, upd_same, ?_⟩⟩
            · rw [upd_ne hne]
              exact eh' _
            · rw [List.map_append]
              exact (ts1.snoc ty).keep c.kt
  | @make n k cs _ s' hk hsz =>
    obtain ⟨a, xs, rfl, ta, txs⟩ := Td.tuple tv
    cases txs with
    | cons t1 t2 =>
      cases t1
      cases t2 with
      | cons t3 t4 =>
        cases t3
        cases t4 with
        | cons t5 t6 =>
          cases t6
          cases t5
          refine ⟨_, .inr ta.sq, _, rfl, fun hb => absurd hb (by decide), fun _ => ⟨fun hb => absurd hb (by decide), fun _ => ⟨fun hb => absurd hb (by decide), fun _ => ⟨fun hb => absurd hb (by decide), fun _ => ⟨fun hb => absurd hb (by decide), fun _ => ⟨fun _ => ?_, fun hb => absurd hb (by decide)⟩⟩⟩⟩⟩⟩
          rw [List.length_append] at hz
          refine ⟨⟨_, es⟩, _, .inr ta.sq, _, rfl, _, .inr ta.sq, _, rfl, s', cs, by rw [hk], ⟨sv, es, ts⟩, fun p H1 hp1 c1 lp lstk => ?_⟩
          obtain ⟨pv, ep, tp⟩ := lp
          obtain ⟨kv, ek, tk⟩ := lstk
          have hz1 := tk.length
          rw [List.length_map] at hz1
          refine ⟨pv, SqL.of ep, fun l hl => ?_⟩
          have c2 : Chg [hp, sp] H1 (upd H1 l (.tup pv)) := Chg.new hl
          refine ⟨(by rw [sizeLine_eq]; show 2 ≤ 16777216; omega), fun l2 hl2 => ?_⟩
          have c3 : Chg [hp, sp] (upd H1 l (.tup pv)) (upd (upd H1 l (.tup pv)) l2 (.tup [.int n, .ref l])) := Chg.new hl2
          have ek2 : upd H1 l (.tup pv) sp = some (.lst kv) := by
            rw [upd_ne (ne_of_none ek hl)]
            exact ek
          have ek3 : upd (upd H1 l (.tup pv)) l2 (.tup [.int n, .ref l]) sp = some (.lst kv) := by
            rw [upd_ne (ne_of_none ek2 hl2)]
            exact ek2
          have el3 : upd (upd H1 l (.tup pv)) l2 (.tup [.int n, .ref l]) l = some (.tup pv) := by
            rw [upd_ne (ne_of_none upd_same hl2)]
            exact upd_same
          have tnew : Td K (upd (upd H1 l (.tup pv)) l2 (.tup [.int n, .ref l])) (.ref l2) (Cell.mk n cs).d := by
            rw [Cell.d, Cell.ds_map]
            exact .tup (.inl upd_same) (.cons (.int n) (.cons (.tup (.inl el3) (tp.keep (c2.trans c3).kt)) .nil))
          have c4 : Chg [hp, sp] (upd (upd H1 l (.tup pv)) l2 (.tup [.int n, .ref l])) (upd (upd (upd H1 l (.tup pv)) l2 (.tup [.int n, .ref l])) sp (.lst (kv ++ [.ref l2]))) := Chg.lst (by simp) ek3
          have c := ((c1.mono (by simp)).trans (c2.trans c3)).trans c4
          refine ⟨kv, ek3, by rw [sizeLine_eq]; omega, ?_⟩
          refine ⟨kv ++ [.ref l2], .inl (SqL.of upd_same), .ref l2, ?_, Cell.mk n cs, tnew.keep c4.kt, by omega, fun H' c5 => ⟨fun hb => ?_, fun _ => ?_⟩⟩
          · exact atI_last _ _
          · have := of_decide_eq_true hb
            omega
          · have c6 := c.trans (c5.mono (by simp))
            have cH : LC K H1 hp hs := LC.chg ⟨hv, eh, th⟩ c1 (by simpa using hne)
            obtain ⟨hv1, eh1, th1⟩ := cH
            refine q H' c6 ?_ ?_
            · refine LC.chg (L := [sp]) ⟨hv1, eh1, th1⟩ (Chg.trans (H1 := upd (upd (upd H1 l (.tup pv)) l2 (.tup [.int n, .ref l])) sp (.lst (kv ++ [.ref l2]))) ?_ (c5.mono (by simp))) (by simpa using hne)
              exact ((Chg.new hl).trans (Chg.new hl2)).trans (Chg.lst (by simp) ek3)
            · refine LC.chg (L := []) ⟨kv ++ [.ref l2], upd_same, ?_⟩ c5 (by simp)
              rw [List.map_append]
              exact (tk.keep ((c2.trans c3).trans c4).kt).snoc (tnew.keep c4.kt)
  | @same x y _ s' hx hy =>
    obtain ⟨a, xs, rfl, ta, txs⟩ := Td.tuple tv
    cases txs with
    | cons t1 t2 =>
      cases t1
      cases t2
      rw [List.map_append, List.map_append] at ts
      obtain ⟨v1, u, rfl, ts1, tu⟩ := ts.last
      obtain ⟨v2, u2, rfl, ts2, tu2⟩ := ts1.last
      refine ⟨_, .inr ta.sq, _, rfl, fun hb => absurd hb (by decide), fun _ => ⟨fun hb => absurd hb (by decide), fun _ => ⟨fun hb => absurd hb (by decide), fun _ => ⟨fun hb => absurd hb (by decide), fun _ => ⟨fun hb => absurd hb (by decide), fun _ => ⟨fun hb => absurd hb (by decide), fun _ => ?_⟩⟩⟩⟩⟩⟩
      have c1 : Chg [hp, sp] H (upd H sp (.lst (v2 ++ [u2]))) := Chg.lst (by simp) es
      have c2 : Chg [hp, sp] (upd H sp (.lst (v2 ++ [u2]))) (upd (upd H sp (.lst (v2 ++ [u2]))) sp (.lst v2)) := Chg.lst (by simp) upd_same
      have c := c1.trans c2
      have fin : ∀ (p : Addr) (b : Bool), (∀ H', Td K H' (.ref p) (yn b).d) → b = PyData.eqv y.d x.d → ∃ xs, upd (upd H sp (.lst (v2 ++ [u2]))) sp (.lst v2) sp = some (.lst xs) ∧ xs.length < sizeLine ∧ Q .non (upd (upd (upd H sp (.lst (v2 ++ [u2]))) sp (.lst v2)) sp (.lst (xs ++ [.ref p]))) := by
        intro p b hp' hb
        refine ⟨v2, upd_same, ?_, ?_⟩
        · rw [sizeLine_eq]
          simp only [List.length_append, List.length_singleton] at ls hz
          omega
        · have c3 : Chg [hp, sp] (upd (upd H sp (.lst (v2 ++ [u2]))) sp (.lst v2)) (upd (upd (upd H sp (.lst (v2 ++ [u2]))) sp (.lst v2)) sp (.lst (v2 ++ [.ref p]))) := Chg.lst (by simp) upd_same
          have cc := c.trans c3
          refine q _ cc ⟨hv, ?_, th.keep cc.kt⟩ ⟨_, upd_same, ?_⟩
          · rw [upd_ne hne, upd_ne hne]
            exact eh' _
          · rw [List.map_append, ← hb]
            exact (ts2.keep cc.kt).snoc (hp' _)
      refine ⟨⟨_, es⟩, v2 ++ [u2], u, es, v2, u2, upd_same, y.d, x.d, (tu.keep c.kt).dp, (tu2.keep c.kt).dp, y.shaped hy, x.shaped hx, ?_⟩
      refine ⟨fun hb p hp' => fin p true hp' hb.symm, fun hb p hp' => fin p false hp' hb.symm⟩
end
end T5
set_option maxHeartbeats 2000000
/-! the machine's lists in the heap -/
namespace T5
open PySem PySem.Spec PyProof.Rows L2 T3
inductive FrA (K : PySem.W.Frag) (H : Hp) : List V → List Frame → List Addr → Prop
  | nil : FrA K H [] [] []
  | cons {t h s : Addr} {r : V} {f : Frame} {vs : List V} {fs : List Frame} {as : List Addr} : H t = some (.tup [r, .int (f.at : Nat), .ref h, .ref s]) → Td K H r (.tuple (f.rows.map Row.d)) → LC K H h f.held → LC K H s f.stack →
      FrA K H vs fs as → FrA K H (.ref t :: vs) (f :: fs) (h :: s :: as)
section
variable {K : PySem.W.Frag}
theorem FrA.chg {L : List Addr} {H H' : Hp} (g : Chg L H H') : ∀ {vs : List V} {fs : List Frame} {as : List Addr}, FrA K H vs fs as → (∀ a ∈ as, a ∉ L) → FrA K H' vs fs as
  | _, _, _, .nil, _ => .nil
  | _, _, _, .cons h1 h2 h3 h4 h5, hd => .cons (g.kt _ _ h1) (h2.keep g.kt) (h3.chg g (hd _ (by simp))) (h4.chg g (hd _ (by simp))) (FrA.chg g h5 fun a ha => hd a (by simp [ha]))
theorem FrA.snoc {H : Hp} {t h s : Addr} {r : V} {f : Frame} (h1 : H t = some (.tup [r, .int (f.at : Nat), .ref h, .ref s])) (h2 : Td K H r (.tuple (f.rows.map Row.d))) (h3 : LC K H h f.held) (h4 : LC K H s f.stack) :
    ∀ {vs : List V} {fs : List Frame} {as : List Addr}, FrA K H vs fs as → FrA K H (vs ++ [.ref t]) (fs ++ [f]) (as ++ [h, s])
  | _, _, _, .nil => .cons h1 h2 h3 h4 .nil
  | _, _, _, .cons g1 g2 g3 g4 g5 => .cons g1 g2 g3 g4 (FrA.snoc h1 h2 h3 h4 g5)
theorem FrA.last {H : Hp} {f : Frame} : ∀ {vs : List V} {fs : List Frame} {as : List Addr}, FrA K H vs (fs ++ [f]) as → ∃ vs' as' t h s r, vs = vs' ++ [.ref t] ∧ as = as' ++ [h, s] ∧ FrA K H vs' fs as' ∧
      H t = some (.tup [r, .int (f.at : Nat), .ref h, .ref s]) ∧ Td K H r (.tuple (f.rows.map Row.d)) ∧ LC K H h f.held ∧ LC K H s f.stack
  | _, [], _, .cons h1 h2 h3 h4 h5 => by
    cases h5
    exact ⟨[], [], _, _, _, _, rfl, rfl, .nil, h1, h2, h3, h4⟩
  | _, _ :: fs, _, .cons h1 h2 h3 h4 h5 => by
    obtain ⟨vs', as', t, h, s, r, rfl, rfl, g, e1, e2, e3, e4⟩ := FrA.last (fs := fs) h5
    exact ⟨_ :: vs', _ :: _ :: as', t, h, s, r, rfl, rfl, .cons h1 h2 h3 h4 g, e1, e2, e3, e4⟩
theorem FrA.len {H : Hp} : ∀ {vs : List V} {fs : List Frame} {as : List Addr}, FrA K H vs fs as → vs.length = fs.length
  | _, _, _, .nil => rfl
  | _, _, _, .cons h1 h2 h3 h4 h5 => by
    rw [List.length_cons, List.length_cons, h5.len]
theorem FrA.some {H : Hp} : ∀ {vs : List V} {fs : List Frame} {as : List Addr}, FrA K H vs fs as → ∀ a ∈ as, H a ≠ none
  | _, _, _, .cons h1 h2 h3 h4 h5, a, ha => by
    rcases List.mem_cons.mp ha with rfl | ha
    · obtain ⟨_, e, _⟩ := h3
      rw [e]
      exact fun z => nomatch z
    · rcases List.mem_cons.mp ha with rfl | ha
      · obtain ⟨_, e, _⟩ := h4
        rw [e]
        exact fun z => nomatch z
      · exact h5.some a ha
structure MS (K : PySem.W.Frag) (H0 H : Hp) (rv : V) (h st fr : Addr) (fvs : List V) (fs : List Frame) (rows : List Row) (hs ss : List Cell) (m : Nat) : Prop where
  tr : Td K H rv (.tuple (rows.map Row.d))
  lh : LC K H h hs
  ls : LC K H st ss
  lf : H fr = some (.lst fvs)
  fa : ∃ as, FrA K H fvs fs as ∧ (fr :: h :: st :: as).Nodup ∧ ∀ a ∈ fr :: h :: st :: as, H0 a = none
  ch : Chg [] H0 H
  ln : hs.length + ss.length ≤ m
  ls2 : ∀ f ∈ fs, f.held.length + f.stack.length ≤ m
  lfs : fs.length ≤ m
variable {H0 H H' : Hp} {rv : V} {h st fr : Addr} {fvs : List V} {fs : List Frame} {rows rows' : List Row} {hs ss hs' ss' : List Cell} {m m' : Nat}
theorem MS.mono (M : MS K H0 H rv h st fr fvs fs rows hs ss m) (l : m ≤ m') : MS K H0 H rv h st fr fvs fs rows hs ss m' :=
  ⟨M.tr, M.lh, M.ls, M.lf, M.fa, M.ch, Nat.le_trans M.ln l, fun f hf => Nat.le_trans (M.ls2 f hf) l, Nat.le_trans M.lfs l⟩
theorem MS.apart (M : MS K H0 H rv h st fr fvs fs rows hs ss m) : fr ≠ h ∧ fr ≠ st ∧ h ≠ st := by
  obtain ⟨as, _, nd, _⟩ := M.fa
  simp only [List.nodup_cons, List.mem_cons, not_or] at nd
  exact ⟨nd.1.1, nd.1.2.1, nd.2.1.1⟩
theorem MS.row (M : MS K H0 H rv h st fr fvs fs rows hs ss m) {r : Row} (d : Do r hs ss hs' ss') (g : Chg [h, st] H H') (l1 : LC K H' h hs') (l2 : LC K H' st ss') : MS K H0 H' rv h st fr fvs fs rows hs' ss' (m + 1) := by
  obtain ⟨a1, a2, a3⟩ := M.apart
  obtain ⟨as, fa, nd, fresh⟩ := M.fa
  have ndc := nd
  simp only [List.nodup_cons, List.mem_cons, not_or] at ndc
  refine ⟨M.tr.keep g.kt, l1, l2, g.get (by simp [a1, a2]) M.lf, ⟨as, fa.chg g fun a ha => ?_, nd, fresh⟩, M.ch.fresh g fun a ha => fresh a ?_, ?_, fun f hf => Nat.le_succ_of_le (M.ls2 f hf), Nat.le_succ_of_le M.lfs⟩
  · simp only [List.mem_cons, List.not_mem_nil, or_false, not_or]
    exact ⟨fun z => ndc.2.1.2 (by rw [← z]; exact ha), fun z => ndc.2.2.1 (by rw [← z]; exact ha)⟩
  · simp only [List.mem_cons, List.not_mem_nil, or_false] at ha ⊢
    rcases ha with rfl | rfl
    · exact .inr (.inl rfl)
    · exact .inr (.inr (.inl rfl))
  · have := d.len
    have := M.ln
    omega
theorem MS.call {s0 gv : List Cell} {p q t : Addr} {v : V} {i : Nat} (M : MS K H0 H rv h st fr fvs fs rows hs (s0 ++ gv) m) (g : Chg [st, fr] H H') (l1 : LC K H' st s0) (l2 : LC K H' p gv) (hp : H p = none) (hq : H q = none) (hpq : p ≠ q) (lq : LC K H' q [])
    (lf : H' fr = some (.lst (fvs ++ [.ref t]))) (ht : H' t = some (.tup [rv, .int (i : Nat), .ref h, .ref st])) (tv : Td K H' v (.tuple (rows'.map Row.d))) :
    MS K H0 H' v p q fr (fvs ++ [.ref t]) (fs ++ [⟨rows, i, hs, s0⟩]) rows' gv [] (m + 1) := by
  obtain ⟨a1, a2, a3⟩ := M.apart
  obtain ⟨as, fa, nd, fresh⟩ := M.fa
  have ndc := nd
  simp only [List.nodup_cons, List.mem_cons, not_or] at ndc
  have hh : H h ≠ none := by
    obtain ⟨_, e, _⟩ := M.lh
    rw [e]
    exact fun z => nomatch z
  have hst : H st ≠ none := by
    obtain ⟨_, e, _⟩ := M.ls
    rw [e]
    exact fun z => nomatch z
  have hfr : H fr ≠ none := by
    rw [M.lf]
    exact fun z => nomatch z
  have has := fa.some
  have lh' : LC K H' h hs := M.lh.chg g (by simp [a3, Ne.symm a1])
  have ln := M.ln
  rw [List.length_append] at ln
  refine ⟨tv, l2, lq, lf, ⟨as ++ [h, st], (fa.chg g fun a ha => ?_).snoc (f := ⟨rows, i, hs, s0⟩) ht (M.tr.keep g.kt) lh' l1, ?_, ?_⟩, M.ch.fresh g fun a ha => fresh a ?_, ?_, ?_, ?_⟩
  · simp only [List.mem_cons, List.not_mem_nil, or_false, not_or]
    exact ⟨fun z => ndc.2.2.1 (by rw [← z]; exact ha), fun z => ndc.1.2.2 (by rw [← z]; exact ha)⟩
  · have ne1 : ∀ {a b : Addr}, H a = none → H b ≠ none → a ≠ b := fun e e2 z => e2 (by rw [← z]; exact e)
    have nas : as.Nodup := ndc.2.2.2
    simp only [List.nodup_cons, List.mem_cons, List.mem_append, List.not_mem_nil, or_false, not_or]
    refine ⟨⟨(ne1 hp hfr).symm, (ne1 hq hfr).symm, ndc.1.2.2, a1, a2⟩, ⟨hpq, fun z => has p z hp, ne1 hp hh, ne1 hp hst⟩, ⟨fun z => has q z hq, ne1 hq hh, ne1 hq hst⟩, ?_⟩
    refine List.nodup_append.mpr ⟨nas, by simp [a3], ?_⟩
    intro a ha b hb z
    subst z
    simp only [List.mem_cons, List.not_mem_nil, or_false] at hb
    rcases hb with rfl | rfl
    · exact ndc.2.1.2 ha
    · exact ndc.2.2.1 ha
  · intro a ha
    simp only [List.mem_cons, List.mem_append, List.not_mem_nil, or_false] at ha
    rcases ha with rfl | rfl | rfl | ha | rfl | rfl
    · exact fresh _ (by simp)
    · exact M.ch.old hp
    · exact M.ch.old hq
    · exact fresh _ (by simp [ha])
    · exact fresh _ (by simp)
    · exact fresh _ (by simp)
  · simp only [List.mem_cons, List.not_mem_nil, or_false] at ha ⊢
    rcases ha with rfl | rfl
    · exact .inr (.inr (.inl rfl))
    · exact .inl rfl
  · simp only [List.length_nil]
    omega
  · intro f hf
    rcases List.mem_append.mp hf with hf | hf
    · exact Nat.le_succ_of_le (M.ls2 f hf)
    · rw [List.mem_singleton.mp hf]
      show hs.length + s0.length ≤ m + 1
      omega
  · rw [List.length_append, List.length_singleton]
    have := M.lfs
    omega
theorem MS.back {i : Nat} {c1 : Cell} (M : MS K H0 H rv h st fr fvs (fs ++ [⟨rows', i, hs', ss'⟩]) rows hs (ss ++ [c1]) m) :
    ∃ fvs' t h2 st2 r2 sv2 cv sv, fvs = fvs' ++ [.ref t] ∧ H st = some (.lst (sv ++ [cv])) ∧ Td K H cv c1.d ∧ H t = some (.tup [r2, .int (i : Nat), .ref h2, .ref st2]) ∧ fr ≠ st2 ∧ H st2 = some (.lst sv2) ∧ sv2.length = ss'.length ∧
      ∀ H', H' = upd (upd H fr (.lst fvs')) st2 (.lst (sv2 ++ [cv])) → MS K H0 H' r2 h2 st2 fr fvs' fs rows' hs' (ss' ++ [c1]) (m + 1) := by
  obtain ⟨a1, a2, a3⟩ := M.apart
  obtain ⟨as, fa, nd, fresh⟩ := M.fa
  obtain ⟨fvs', as', t, h2, st2, r2, rfl, rfl, fa', ht, tr2, lh2, ls2⟩ := fa.last
  obtain ⟨vs, es, ts⟩ := M.ls
  rw [List.map_append] at ts
  obtain ⟨sv, cv, rfl, ts1, tcv⟩ := ts.last
  obtain ⟨sv2, es2, ts2⟩ := ls2
  have l2 := ts2.length
  rw [List.length_map] at l2
  have ndc := nd
  simp only [List.nodup_cons, List.mem_cons, List.mem_append, List.not_mem_nil, or_false, not_or] at ndc
  obtain ⟨⟨-, -, n1, n2, n3⟩, ⟨-, n4, n5, n6⟩, ⟨n7, n8, n9⟩, n10⟩ := ndc
  rw [List.nodup_append] at n10
  obtain ⟨n11, n12, n13⟩ := n10
  have n14 : h2 ≠ st2 := by simpa using n12
  refine ⟨fvs', t, h2, st2, r2, sv2, cv, sv, rfl, es, tcv, ht, n3, es2, l2, ?_⟩
  rintro H' rfl
  have e1 : upd H fr (.lst fvs') st2 = some (.lst sv2) := by
    rw [upd_ne (Ne.symm n3)]
    exact es2
  have c1 : Chg [fr, st2] H (upd H fr (.lst fvs')) := Chg.lst (by simp) M.lf
  have c2 : Chg [fr, st2] (upd H fr (.lst fvs')) (upd (upd H fr (.lst fvs')) st2 (.lst (sv2 ++ [cv]))) := Chg.lst (by simp) e1
  have c := c1.trans c2
  have ml := M.ls2 ⟨rows', i, hs', ss'⟩ (by simp)
  have ml' : hs'.length + ss'.length ≤ m := ml
  refine ⟨tr2.keep c.kt, lh2.chg c (by simp [Ne.symm n2, n14]), ⟨sv2 ++ [cv], upd_same, ?_⟩, ?_, ⟨as', fa'.chg c fun a ha => ?_, ?_, ?_⟩, M.ch.fresh c fun a ha => fresh a ?_, ?_, fun f hf => Nat.le_succ_of_le (M.ls2 f (by simp [hf])), ?_⟩
  · rw [List.map_append]
    exact (ts2.keep c.kt).snoc (tcv.keep c.kt)
  · rw [upd_ne n3]
    exact upd_same
  · simp only [List.mem_cons, List.not_mem_nil, or_false, not_or]
    exact ⟨fun z => n1 (by rw [← z]; exact ha), fun z => n13 a ha st2 (by simp) z⟩
  · simp only [List.nodup_cons, List.mem_cons, not_or]
    exact ⟨⟨n2, n3, n1⟩, ⟨n14, fun z => n13 h2 z h2 (by simp) rfl⟩, fun z => n13 st2 z st2 (by simp) rfl, n11⟩
  · intro a ha
    simp only [List.mem_cons] at ha
    rcases ha with rfl | rfl | rfl | ha
    · exact fresh _ (by simp)
    · exact fresh _ (by simp)
    · exact fresh _ (by simp)
    · exact fresh _ (by simp [ha])
  · simp only [List.mem_cons, List.not_mem_nil, or_false] at ha
    rcases ha with rfl | rfl
    · simp
    · simp
  · rw [List.length_append, List.length_singleton]
    omega
  · have := M.lfs
    rw [List.length_append, List.length_singleton] at this
    omega
end
/-- a row that the machine does, not a row that turns its way -/
theorem Do.word {r : Row} {h s h' s' : List Cell} (q : Do r h s h' s') : ∃ (w : Str) (rest : List PyData), r.d = .tuple (.str w :: rest) ∧ w ≠ "call" ∧ w ≠ "is" ∧ w ≠ "go" ∧ w ≠ "back" := by
  cases q with
  | loc _ => exact ⟨_, _, rfl, by decide, by decide, by decide, by decide⟩
  | drop => exact ⟨_, _, rfl, by decide, by decide, by decide, by decide⟩
  | keep => exact ⟨_, _, rfl, by decide, by decide, by decide, by decide⟩
  | forget _ => exact ⟨_, _, rfl, by decide, by decide, by decide, by decide⟩
  | part _ => exact ⟨_, _, rfl, by decide, by decide, by decide, by decide⟩
  | make _ _ => exact ⟨_, _, rfl, by decide, by decide, by decide, by decide⟩
  | same _ _ => exact ⟨_, _, rfl, by decide, by decide, by decide, by decide⟩
end T5
set_option maxHeartbeats 4000000
namespace T5
open PySem PySem.Spec PyProof.Rows L2 T3
abbrev st_run : Stmt := topS 16
theorem sc_run : FnScope ["built", "module", "name", "cells", "rows", "at", "held", "stack", "frames", "calls", "done", "row", "word", "given", "called", "cell"] ["built", "module", "name", "cells"] (defScope st_run) := ⟨rfl, rfl, rfl, by decide +kernel, rfl, by decide +kernel, by decide +kernel⟩
section
variable {P : Program} {w : World} {K : PySem.W.Frag} {mg : Str → Option Value} {base : Heap}
theorem atI0 {xs : List V} {v : V} (h : xs[0]? = some v) : atI xs 0 = some v := atI_nat (j := 0) h
theorem atI1 {xs : List V} {v : V} (h : xs[1]? = some v) : atI xs 1 = some v := atI_nat (j := 1) h
theorem big1 {n : Nat} (h : n ≤ 1000) : n ≤ sizeLine := by
  rw [sizeLine_eq]
  omega
def sp_run (K : PySem.W.Frag) : Sp := fun vs H Q _ => match vs with
  | [.ref b, .str m, .str f, .ref c] => ∃ (B : Built) (rows : List Row) (cs : List Cell) (cv : List V) (cell : Cell) (n : Nat), BT K H b B ∧ Tt K H c cv ∧ TdAll K H cv (cs.map Cell.d) ∧ B m f = some (cs.length, rows) ∧ cs.length ≤ 1000 ∧
      Go B [] rows 0 cs [] cell n ∧ n ≤ 99999 ∧ ∀ v H', Chg [] H H' → Td K H' v cell.d → Q v H'
  | _ => False
theorem ok_run {f : Addr} {fd : FuncData} (F : Fun K "run" "run" st_run f fd) (T : Top K mg) (Cpopped : Cal P w K mg base "popped" 1 ["stack", "many"] (sp_popped K)) (Crows_for : Cal P w K mg base "rows_for" 1 ["built", "pair", "many"] (sp_rows_for K))
    (Cdo_row : Cal P w K mg base "do_row" 2 ["row", "held", "stack"] (sp_do_row K)) :
    FnOk P w K mg base CX0 3 f fd ["built", "module", "name", "cells"] (sp_run K) := by
  refine F.ok sc_run (fun vs H Q E h => ?_) (fun cdv A outer s H vs Q E hr h => ?_)
  · match vs, h with
    | [.ref b, .str m, .str f, .ref c], _ => rfl
  match vs, h with
  | [.ref b, .str m, .str f, .ref c], h =>
  obtain ⟨B, rows, cs, cv, cell, n0, hB, tc, tcs, hb, hcs, hgo, hn0, q⟩ := h
  have lc := tcs.length
  rw [List.length_map] at lc
  refine ⟨_, (pss_cons (ps_set (i := 4) sc_run.nd rfl (.inl rfl) (pe_cal Crows_for (hr.mono (by decide)) (by rfl) (pa_cons (mv 0) (pa_cons (pe_tup (pa_cons (mv 1) (pa_cons (mv 2) pa_nil))) (pa_cons (pe_callB callLen (by rfl) T.len (by decide +kernel) (pa_cons (mv 3) pa_nil)) pa_nil)))))
(pss_cons (ps_asg (pe_tup (pa_cons pe_int (pa_cons (pe_callTy callList (by rfl) T.list (by decide +kernel) (pa_cons (mv 3) pa_nil)) (pa_cons (pe_lst pa_nil) (pa_cons (pe_lst pa_nil) (pa_cons pe_int (pa_cons pe_int pa_nil))))))) (pg_tup rfl (pgs_cons (pg_name (i := 5) sc_run.nd rfl (.inl rfl)) (pgs_cons (pg_name (i := 6) sc_run.nd rfl (.inl rfl)) (pgs_cons (pg_name (i := 7) sc_run.nd rfl (.inl rfl)) (pgs_cons (pg_name (i := 8) sc_run.nd rfl (.inl rfl)) (pgs_cons (pg_name (i := 9) sc_run.nd rfl (.inl rfl)) (pgs_cons (pg_name (i := 10) sc_run.nd rfl (.inl rfl)) pgs_nil))))))))
(pss_one (mwhile PassesOwn.never (mval pe_bl)
(pss_cons (ps_set (i := 11) sc_run.nd rfl (.inl rfl) (pe_ix ixM (mv 4) (mv 5) (fun _ _ => rfl)))
(pss_cons (ps_set (i := 12) sc_run.nd rfl (.inl rfl) (pe_ix ixM (mv 11) pe_int (fun _ _ => rfl)))
(pss_cons (maug (i := 5) sc_run.nd rfl (.inl rfl) pe_int ipAdd)
(pss_cons (maug (i := 10) sc_run.nd rfl (.inl rfl) pe_int ipAdd)
(pss_cons (mif (mcmp opEq (mv 12) pe_str)
(pss_cons (ps_set (i := 13) sc_run.nd rfl (.inl rfl) (pe_cal Cpopped (hr.mono (by decide)) (by rfl) (pa_cons (mv 7) (pa_cons (pe_ix ixM (mv 11) pe_int (fun _ _ => rfl)) pa_nil))))
(pss_cons (ps_set (i := 14) sc_run.nd rfl (.inl rfl) (pe_cal Crows_for (hr.mono (by decide)) (by rfl) (pa_cons (mv 0) (pa_cons (pe_tup (pa_cons (pe_ix ixM (mv 11) pe_int (fun _ _ => rfl)) (pa_cons (pe_ix ixM (mv 11) pe_int (fun _ _ => rfl)) pa_nil))) (pa_cons (pe_callB callLen (by rfl) T.len (by decide +kernel) (pa_cons (mv 13) pa_nil)) pa_nil)))))
(pss_cons (mapp (mv 8) (pe_tup (pa_cons (mv 4) (pa_cons (mv 5) (pa_cons (mv 6) (pa_cons (mv 7) pa_nil))))))
(pss_cons (ps_asg (pe_tup (pa_cons (mv 14) (pa_cons pe_int (pa_cons (mv 13) (pa_cons (pe_lst pa_nil) pa_nil))))) (pg_tup rfl (pgs_cons (pg_name (i := 4) sc_run.nd rfl (.inl rfl)) (pgs_cons (pg_name (i := 5) sc_run.nd rfl (.inl rfl)) (pgs_cons (pg_name (i := 6) sc_run.nd rfl (.inl rfl)) (pgs_cons (pg_name (i := 7) sc_run.nd rfl (.inl rfl)) pgs_nil))))))
(pss_one (maug (i := 9) sc_run.nd rfl (.inl rfl) pe_int ipAdd))))))
pss_nil)
(pss_cons (mif (PW.pt (mor (mcmp opGt (mv 9) (pe_gi (by rfl) T.MOST_CALLS)) (pw_or1 (mcmp opGt (mv 10) (pe_gi (by rfl) T.MOST_ROWS)))))
(pss_one ps_never)
pss_nil)
(pss_one (mif (mcmp opEq (mv 12) pe_str)
(pss_one (ps_set (i := 5) sc_run.nd rfl (.inl rfl) (mifE (mcmp opEq (pe_ix ixM (pe_ix ixM (mv 7) (pe_un unNeg pe_int) (fun _ _ => rfl)) pe_int (fun _ _ => rfl)) (pe_ix ixM (mv 11) pe_int (fun _ _ => rfl))) (mv 5) (pe_ix ixM (mv 11) pe_int (fun _ _ => rfl)))))
(pss_one (mif (mcmp opEq (mv 12) pe_str)
(pss_one (ps_set (i := 5) sc_run.nd rfl (.inl rfl) (pe_ix ixM (mv 11) pe_int (fun _ _ => rfl))))
(pss_one (mif (mcmp opEq (mv 12) pe_str)
(pss_one ps_continue)
(pss_one (mif (mcmp opNe (mv 12) pe_str)
(pss_one (ps_expr (pe_cal Cdo_row (hr.mono (by decide)) (by rfl) (pa_cons (mv 11) (pa_cons (mv 6) (pa_cons (mv 7) pa_nil))))))
(pss_one (mif (mtru (mv 8))
(pss_cons (ps_set (i := 15) sc_run.nd rfl (.inl rfl) (pe_ix ixM (mv 7) (pe_un unNeg pe_int) (fun _ _ => rfl)))
(pss_cons (ps_asg (mpop (mv 8)) (pg_tup rfl (pgs_cons (pg_name (i := 4) sc_run.nd rfl (.inl rfl)) (pgs_cons (pg_name (i := 5) sc_run.nd rfl (.inl rfl)) (pgs_cons (pg_name (i := 6) sc_run.nd rfl (.inl rfl)) (pgs_cons (pg_name (i := 7) sc_run.nd rfl (.inl rfl)) pgs_nil))))))
(pss_one (mapp (mv 7) (mv 15)))))
(pss_one (ps_ret (pe_ix ixM (mv 7) (pe_un unNeg pe_int) (fun _ _ => rfl))))))))))))))))))))))))
  , ?_⟩
  refine ⟨(by rw [sizeLine_eq]; show 2 ≤ 16777216; omega), fun l hl => ⟨cv, .inr (tc.keep (Ktp.new hl)).sq, B, m, f, cs.length, rows, by rw [lc], hB.chg (L := []) (Chg.new hl) (by simp), upd_same, hb, fun rv hrv => ?_⟩⟩
  have c0 : Chg [] H (upd H l (.tup [.str m, .str f])) := Chg.new hl
  generalize upd H l (.tup [.str m, .str f]) = H1 at *
  have tc1 := tc.keep c0.kt
  have tcs1 := tcs.keep c0.kt
  refine ⟨cv, .inr tc1.sq, fun h hh => ⟨(by rw [sizeLine_eq]; exact Nat.zero_le _), fun st hst => ⟨(by rw [sizeLine_eq]; exact Nat.zero_le _), fun fr hfr => ⟨(by rw [sizeLine_eq]; show 6 ≤ 16777216; omega), fun t ht => ?_⟩⟩⟩⟩
  refine ⟨_, _, rfl, SqT.of upd_same, rfl, _, _, rfl, _, _, rfl, _, _, rfl, _, _, rfl, _, _, rfl, _, _, rfl, rfl, ?_⟩
  have e1 : upd H1 h (.lst cv) h = some (.lst cv) := upd_same
  have c1 : Chg [] H1 (upd H1 h (.lst cv)) := Chg.new hh
  generalize upd H1 h (.lst cv) = H2 at *
  have c2 : Chg [] H2 (upd H2 st (.lst [])) := Chg.new hst
  have e2 : upd H2 st (.lst []) st = some (.lst []) := upd_same
  generalize upd H2 st (.lst []) = H3 at *
  have c3 : Chg [] H3 (upd H3 fr (.lst [])) := Chg.new hfr
  have e3 : upd H3 fr (.lst []) fr = some (.lst []) := upd_same
  generalize upd H3 fr (.lst []) = H4 at *
  have c4 : Chg [] H4 (upd H4 t (.tup [.int 0, .ref h, .ref st, .ref fr, .int 1, .int 0])) := Chg.new ht
  have M0 : MS K H (upd H4 t (.tup [.int 0, .ref h, .ref st, .ref fr, .int 1, .int 0])) rv h st fr [] [] rows cs [] 1000 := by
    have ca := c1.trans (c2.trans (c3.trans c4))
    have cb := c2.trans (c3.trans c4)
    have h2 : H2 st = none := hst
    have n1 : h ≠ st := ne_of_none e1 hst
    have n2 : h ≠ fr := ne_of_none (c2.get (by simp) e1) hfr
    have n3 : st ≠ fr := ne_of_none e2 hfr
    refine ⟨hrv.keep ca.kt, ⟨cv, cb.get (by simp) e1, tcs1.keep ca.kt⟩, ⟨[], (c3.trans c4).get (by simp) e2, .nil⟩, c4.get (by simp) e3, ⟨[], .nil, ?_, ?_⟩, c0.trans ca, ?_, (fun f hf => nomatch hf), Nat.zero_le _⟩
    · simp [n1, n2.symm, n3.symm]
    · intro a ha
      simp only [List.mem_cons, List.not_mem_nil, or_false] at ha
      rcases ha with rfl | rfl | rfl
      · exact c0.old (c1.old (c2.old hfr))
      · exact c0.old hh
      · exact c0.old (c1.old hst)
    · simp only [List.length_nil]
      omega
  generalize upd H4 t (.tup [.int 0, .ref h, .ref st, .ref fr, .int 1, .int 0]) = H5 at *
  clear c1 c2 c3 c4 e1 e2 e3 hh hst hfr ht
  refine ⟨fun σ H' => ∃ (rv : V) (i : Nat) (h st fr : Addr) (calls done : Nat) (x1 x2 x3 x4 x5 : Option V) (fvs : List V) (fs : List Frame) (rows : List Row) (hs ss : List Cell) (n : Nat),
      σ = [some (.ref b), some (.str m), some (.str f), some (.ref c), some rv, some (.int i), some (.ref h), some (.ref st), some (.ref fr), some (.int calls), some (.int done), x1, x2, x3, x4, x5] ∧
      Go B fs rows i hs ss cell n ∧ done + n = n0 ∧ calls ≤ done + 1 ∧ MS K H H' rv h st fr fvs fs rows hs ss (1000 + done),
    fun σ H' => n0 - (match σ with | [_, _, _, _, _, _, _, _, _, _, some (.int d), _, _, _, _, _] => d.toNat | _ => 0), ⟨rv, 0, h, st, fr, 1, 0, none, none, none, none, none, [], [], rows, cs, [], n0, rfl, hgo, by omega, by omega, M0⟩, ?_⟩
  clear M0 hgo hb hcs tc1 tcs1 lc tc tcs hrv
  rintro σ H' ⟨rv, i, h, st, fr, calls, done, x1, x2, x3, x4, x5, fvs, fs, rows, hs, ss, n, rfl, hgo, hn, hcalls, M⟩
  refine ⟨fun _ => ?_, fun hb => nomatch hb⟩
  have hBH : BT K H' b B := hB.chg M.ch (by simp)
  obtain ⟨ra, rxs, rfl, ta, txs⟩ := M.tr.tuple
  have ln := M.ln
  have lfs := M.lfs
  have bound : done + 1 ≤ n0 ∧ n0 ≤ 99999 := by
    refine ⟨?_, hn0⟩
    cases hgo <;> omega
  have nolim : ∀ (d : Nat), d ≤ 99999 → ¬ (1000000 : Int) < (d : Int) := by
    intro d hd
    omega
  have step : ∀ d : Nat, done + 1 ≤ d → d ≤ n0 → n0 - ((d : Int)).toNat < n0 - ((done : Int)).toNat := by
    intro d h1 h2
    omega
  cases hgo with
  | @row _ _ _ n r _ _ hs' ss' _ hr' hd hgo =>
    obtain ⟨x, hx, tx⟩ := txs.get (i := i) (by rw [List.getElem?_map, hr']; rfl)
    obtain ⟨wd, rest, ed, w1, w2, w3, w4⟩ := hd.word
    have tx' := tx
    rw [ed] at tx
    obtain ⟨xa, xxs, rfl, txa, txxs⟩ := tx.tuple
    cases txxs with
    | cons t1 t2 =>
      cases t1
      refine ⟨_, .inr ta.sq, _, atI_nat hx, _, .inr txa.sq, .str wd, atI0 rfl, fun hb => absurd (of_decide_eq_true hb) w1, fun _ => ⟨fun hb => ?_, fun _ => ⟨fun hb => ?_, fun hb => ?_⟩⟩⟩
      · have := of_decide_eq_true hb
        omega
      · have := of_decide_eq_true hb
        omega
      · refine ⟨fun hb => absurd (of_decide_eq_true hb) w2, fun _ => ⟨fun hb => absurd (of_decide_eq_true hb) w3, fun _ => ⟨fun hb => absurd (of_decide_eq_true hb) w1, fun _ => ⟨fun _ => ?_, fun hb => ?_⟩⟩⟩⟩
        · refine ⟨r, hs, ss, hs', ss', tx', hd, M.apart.2.2, M.lh, M.ls, by omega, fun H'' g l1 l2 => ?_⟩
          exact ⟨⟨.ref ra, i + 1, h, st, fr, calls, done + 1, some (.ref xa), some (.str wd), x3, x4, x5, fvs, fs, rows, hs', ss', n, rfl, hgo, by omega, by omega, M.row hd g l1 l2⟩, step (done + 1) (by omega) (by omega)⟩
        · rw [decide_eq_false w4] at hb
          cases hb
  | @go _ _ _ t n _ _ _ hr' hgo =>
    obtain ⟨x, hx, tx⟩ := txs.get (i := i) (by rw [List.getElem?_map, hr']; rfl)
    obtain ⟨xa, xxs, rfl, txa, txxs⟩ := Td.tuple tx
    cases txxs with
    | cons t1 t2 =>
      cases t1
      cases t2 with
      | cons t3 t4 =>
        cases t3
        cases t4
        refine ⟨_, .inr ta.sq, _, atI_nat hx, _, .inr txa.sq, _, rfl, fun hb => absurd hb (by decide), fun _ => ⟨fun hb => ?_, fun _ => ⟨fun hb => ?_, fun hb => ?_⟩⟩⟩
        · have := of_decide_eq_true hb
          omega
        · have := of_decide_eq_true hb
          omega
        · refine ⟨fun hb => absurd hb (by decide), fun _ => ⟨fun _ => ?_, fun hb => absurd hb (by decide)⟩⟩
          exact ⟨_, .inr txa.sq, _, rfl, ⟨.ref ra, t, h, st, fr, calls, done + 1, some (.ref xa), some (.str "go"), x3, x4, x5, fvs, fs, rows, hs, ss, n, rfl, hgo, by omega, by omega, M.mono (by omega)⟩, step (done + 1) (by omega) (by omega)⟩
  | @is _ _ _ t n k mm ps _ s' _ hr' hgo =>
    obtain ⟨x, hx, tx⟩ := txs.get (i := i) (by rw [List.getElem?_map, hr']; rfl)
    obtain ⟨xa, xxs, rfl, txa, txxs⟩ := Td.tuple tx
    cases txxs with
    | cons t1 t2 =>
      cases t1
      cases t2 with
      | cons t3 t4 =>
        cases t3
        cases t4 with
        | cons t5 t6 =>
          cases t5
          cases t6
          obtain ⟨sv, es, ts⟩ := M.ls
          rw [List.map_append] at ts
          obtain ⟨v1, cx, rfl, ts1, tcx⟩ := ts.last
          obtain ⟨ca, cxs, rfl, tca, tcxs⟩ := Td.tuple tcx
          cases tcxs with
          | cons u1 u2 =>
            cases u1
            refine ⟨_, .inr ta.sq, _, atI_nat hx, _, .inr txa.sq, _, rfl, fun hb => absurd hb (by decide), fun _ => ⟨fun hb => ?_, fun _ => ⟨fun hb => ?_, fun hb => ?_⟩⟩⟩
            · have := of_decide_eq_true hb
              omega
            · have := of_decide_eq_true hb
              omega
            · refine ⟨fun _ => ?_, fun hb => absurd hb (by decide)⟩
              refine ⟨_, .inl (SqL.of es), _, atI_last _ _, _, .inr tca.sq, _, atI0 rfl, _, .inr txa.sq, _, rfl, fun hb => ?_, fun hb => ?_⟩
              · have e := of_decide_eq_true hb
                rw [if_pos e] at hgo
                exact ⟨⟨.ref ra, i + 1, h, st, fr, calls, done + 1, some (.ref xa), some (.str "is"), x3, x4, x5, fvs, fs, rows, hs, s' ++ [.mk mm ps], n, rfl, hgo, by omega, by omega, M.mono (by omega)⟩, step (done + 1) (by omega) (by omega)⟩
              · have e := of_decide_eq_false hb
                rw [if_neg e] at hgo
                exact ⟨_, .inr txa.sq, _, rfl, ⟨.ref ra, t, h, st, fr, calls, done + 1, some (.ref xa), some (.str "is"), x3, x4, x5, fvs, fs, rows, hs, s' ++ [.mk mm ps], n, rfl, hgo, by omega, by omega, M.mono (by omega)⟩, step (done + 1) (by omega) (by omega)⟩
  | @call _ _ rows' _ k n m2 f2 gv _ s0 _ hr' hB' hk hgo =>
    obtain ⟨x, hx, tx⟩ := txs.get (i := i) (by rw [List.getElem?_map, hr']; rfl)
    obtain ⟨xa, xxs, rfl, txa, txxs⟩ := Td.tuple tx
    cases txxs with
    | cons t1 t2 =>
      cases t1
      cases t2 with
      | cons t3 t4 =>
        cases t3
        cases t4 with
        | cons t5 t6 =>
          cases t5
          cases t6 with
          | cons t7 t8 =>
            cases t7
            cases t8
            refine ⟨_, .inr ta.sq, _, atI_nat hx, _, .inr txa.sq, _, rfl, fun _ => ?_, fun hb => absurd hb (by decide)⟩
            refine ⟨_, .inr txa.sq, _, rfl, s0, gv, by rw [hk], M.ls, fun p H1 hp c1 lp lst' => ?_⟩
            obtain ⟨pv, ep, tp⟩ := lp
            have lpv := tp.length
            rw [List.length_map] at lpv
            refine ⟨_, .inr (txa.keep c1.kt).sq, _, rfl, _, .inr (txa.keep c1.kt).sq, _, rfl, (by rw [sizeLine_eq]; show 2 ≤ 16777216; omega), fun l hl => ?_⟩
            have c2 : Chg [st, fr] H1 (upd H1 l (.tup [.str m2, .str f2])) := Chg.new hl
            have epp : upd H1 l (.tup [.str m2, .str f2]) p = some (.lst pv) := by
              rw [upd_ne (ne_of_none ep hl)]
              exact ep
            have hBl := (hBH.chg c1 (by intro z; rw [List.mem_singleton.mp z] at hBH; obtain ⟨_, e, _⟩ := hBH; obtain ⟨_, e2, _⟩ := M.ls; rw [e] at e2; cases e2)).chg (L := []) (Chg.new hl (o := .tup [.str m2, .str f2])) (by simp)
            refine ⟨pv, .inl (SqL.of epp), B, m2, f2, k, rows', by rw [lpv, hk], hBl, upd_same, hB', fun v tv => ?_⟩
            have lst2 : LC K (upd H1 l (.tup [.str m2, .str f2])) st s0 := LC.chg (L := []) lst' (Chg.new hl) (by simp)
            have lp2 : LC K (upd H1 l (.tup [.str m2, .str f2])) p gv := LC.chg (L := []) ⟨pv, ep, tp⟩ (Chg.new hl) (by simp)
            have c12 : Chg [st, fr] H' (upd H1 l (.tup [.str m2, .str f2])) := (c1.mono (by simp)).trans c2
            have efr : upd H1 l (.tup [.str m2, .str f2]) fr = some (.lst fvs) := by
              have e : H1 fr = some (.lst fvs) := c1.get (by simp [M.apart.2.1]) M.lf
              rw [upd_ne (ne_of_none e hl)]
              exact e
            generalize upd H1 l (.tup [.str m2, .str f2]) = H2 at *
            have lf0 : fvs.length = fs.length := by
              obtain ⟨as, fa, _⟩ := M.fa
              exact fa.len
            refine ⟨⟨_, efr⟩, (by rw [sizeLine_eq]; show 4 ≤ 16777216; omega), fun t ht => ⟨fvs, ?_, by rw [sizeLine_eq]; omega, ?_⟩⟩
            · rw [upd_ne (ne_of_none efr ht)]
              exact efr
            have c3 : Chg [st, fr] H2 (upd H2 t (.tup [.ref ra, .int ((i : Int) + 1), .ref h, .ref st])) := Chg.new ht
            have efr3 : upd H2 t (.tup [.ref ra, .int ((i : Int) + 1), .ref h, .ref st]) fr = some (.lst fvs) := by
              rw [upd_ne (ne_of_none efr ht)]
              exact efr
            have et3 : upd H2 t (.tup [.ref ra, .int ((i : Int) + 1), .ref h, .ref st]) t = some (.tup [.ref ra, .int ((i : Int) + 1), .ref h, .ref st]) := upd_same
            have lst3 : LC K (upd H2 t (.tup [.ref ra, .int ((i : Int) + 1), .ref h, .ref st])) st s0 := LC.chg (L := []) lst2 (Chg.new ht) (by simp)
            have lp3 : LC K (upd H2 t (.tup [.ref ra, .int ((i : Int) + 1), .ref h, .ref st])) p gv := LC.chg (L := []) lp2 (Chg.new ht) (by simp)
            have npf : p ≠ fr := fun z => by
              rw [z, M.lf] at hp
              cases hp
            have nsf : st ≠ fr := Ne.symm M.apart.2.1
            generalize upd H2 t (.tup [.ref ra, .int ((i : Int) + 1), .ref h, .ref st]) = H3 at *
            have c4 : Chg [st, fr] H3 (upd H3 fr (.lst (fvs ++ [.ref t]))) := Chg.lst (by simp) efr3
            have efr4 : upd H3 fr (.lst (fvs ++ [.ref t])) fr = some (.lst (fvs ++ [.ref t])) := upd_same
            have lst4 : LC K (upd H3 fr (.lst (fvs ++ [.ref t]))) st s0 := LC.chg (L := [fr]) lst3 (Chg.lst (by simp) efr3) (by simp [nsf])
            have lp4 : LC K (upd H3 fr (.lst (fvs ++ [.ref t]))) p gv := LC.chg (L := [fr]) lp3 (Chg.lst (by simp) efr3) (by simp [npf])
            have et4 := c4.kt _ _ et3
            generalize upd H3 fr (.lst (fvs ++ [.ref t])) = H4 at *
            refine ⟨(by rw [sizeLine_eq]; exact Nat.zero_le _), fun q' hq => ⟨(by rw [sizeLine_eq]; show 4 ≤ 16777216; omega), fun t5 ht5 => ?_⟩⟩
            refine ⟨_, _, rfl, SqT.of upd_same, rfl, _, _, rfl, _, _, rfl, _, _, rfl, _, _, rfl, rfl, ?_⟩
            have c5 : Chg [st, fr] H4 (upd H4 q' (.lst [])) := Chg.new hq
            have c5' : Chg [] H4 (upd H4 q' (.lst [])) := Chg.new hq
            have eq5 : upd H4 q' (.lst []) q' = some (.lst []) := upd_same
            have npq : p ≠ q' := by
              obtain ⟨_, e, _⟩ := lp4
              exact ne_of_none e hq
            generalize upd H4 q' (.lst []) = H5 at *
            have c6 : Chg [st, fr] H5 (upd H5 t5 (.tup [v, .int 0, .ref p, .ref q'])) := Chg.new ht5
            have c6' : Chg [] H5 (upd H5 t5 (.tup [v, .int 0, .ref p, .ref q'])) := Chg.new ht5
            generalize upd H5 t5 (.tup [v, .int 0, .ref p, .ref q']) = H6 at *
            have c56 := c5'.trans c6'
            have c16 := c12.trans (c3.trans (c4.trans (c5.trans c6)))
            have hq0 : H' q' = none := by
              cases z : H' q' with
              | none => rfl
              | some o =>
                exfalso
                by_cases z1 : q' = st
                · subst z1
                  obtain ⟨_, e, _⟩ := lst4
                  rw [hq] at e
                  cases e
                · by_cases z2 : q' = fr
                  · subst z2
                    rw [hq] at efr4
                    cases efr4
                  · have := (c12.trans (c3.trans c4)).get (by simp [z1, z2]) z
                    rw [hq] at this
                    cases this
            have M' := M.call (i := i + 1) c16 (lst4.chg c56 (by simp)) (lp4.chg c56 (by simp)) hp hq0 npq ⟨[], c6'.get (by simp) eq5, .nil⟩ (c56.get (by simp) efr4) (c56.get (by simp) et4) (tv.keep (c3.trans (c4.trans (c5.trans c6))).kt)
            refine ⟨fun hb => ?_, fun _ => ⟨fun hb => ?_, fun hb => ?_⟩⟩
            · have := of_decide_eq_true hb
              omega
            · have := of_decide_eq_true hb
              omega
            · refine ⟨fun hb => absurd hb (by decide), fun _ => ⟨fun hb => absurd hb (by decide), fun _ => ⟨fun _ => ?_, fun hb => absurd hb (by decide)⟩⟩⟩
              exact ⟨⟨v, 0, p, q', fr, calls + 1, done + 1, some (.ref xa), some (.str "call"), some (.ref p), some v, x5, fvs ++ [.ref t], fs ++ [⟨rows, i + 1, hs, s0⟩], rows', gv, [], n, rfl, hgo, by omega, by omega, M'⟩, step (done + 1) (by omega) (by omega)⟩
  | @back fs' _ rows' _ i' n _ s1 h' s' c1 _ hr' hgo =>
    obtain ⟨x, hx, tx⟩ := txs.get (i := i) (by rw [List.getElem?_map, hr']; rfl)
    obtain ⟨xa, xxs, rfl, txa, txxs⟩ := Td.tuple tx
    cases txxs with
    | cons t1 t2 =>
      cases t1
      cases t2
      obtain ⟨fvs', t, h2, st2, r2, sv2, cv2, sv, rfl, es, tcv, ht, nf2, es2, l2, M'⟩ := M.back
      have lf := M.lf
      refine ⟨_, .inr ta.sq, _, atI_nat hx, _, .inr txa.sq, _, rfl, fun hb => absurd hb (by decide), fun _ => ⟨fun hb => ?_, fun _ => ⟨fun hb => ?_, fun hb => ?_⟩⟩⟩
      · have := of_decide_eq_true hb
        omega
      · have := of_decide_eq_true hb
        omega
      · refine ⟨fun hb => absurd hb (by decide), fun _ => ⟨fun hb => absurd hb (by decide), fun _ => ⟨fun hb => absurd hb (by decide), fun _ => ⟨fun hb => absurd hb (by decide), fun _ => ?_⟩⟩⟩⟩
        refine ⟨_, .inl (SqL.of lf), fun _ => ?_, fun hb => ?_⟩
        · have k1 : upd H' fr (.lst fvs') t = some (.tup [r2, .int (i' : Nat), .ref h2, .ref st2]) := Ktp.lst lf _ _ ht
          have k2 : upd H' fr (.lst fvs') st2 = some (.lst sv2) := by
            rw [upd_ne (Ne.symm nf2)]
            exact es2
          refine ⟨_, .inl (SqL.of es), cv2, atI_last _ _, fvs', .ref t, lf, _, _, rfl, SqT.of k1, rfl, _, _, rfl, _, _, rfl, _, _, rfl, _, _, rfl, rfl, ⟨_, k2⟩, sv2, k2, ?_, ?_⟩
          · have := M.ls2 ⟨rows', i', h', s'⟩ (by simp)
            have z : h'.length + s'.length ≤ 1000 + done := this
            rw [sizeLine_eq]
            omega
          · exact ⟨⟨r2, i', h2, st2, fr, calls, done + 1, some (.ref xa), some (.str "back"), x3, x4, some cv2, fvs', fs', rows', h', s' ++ [c1], n, rfl, hgo, by omega, by omega, M' _ rfl⟩, step (done + 1) (by omega) (by omega)⟩
        · simp at hb
  | @done _ _ _ s1 _ hr' =>
    obtain ⟨x, hx, tx⟩ := txs.get (i := i) (by rw [List.getElem?_map, hr']; rfl)
    obtain ⟨xa, xxs, rfl, txa, txxs⟩ := Td.tuple tx
    cases txxs with
    | cons t1 t2 =>
      cases t1
      cases t2
      obtain ⟨sv, es, ts⟩ := M.ls
      rw [List.map_append] at ts
      obtain ⟨v1, cx, rfl, ts1, tcx⟩ := ts.last
      have lf := M.lf
      have hfv : fvs = [] := by
        obtain ⟨as, fa, _⟩ := M.fa
        cases fa
        rfl
      subst hfv
      refine ⟨_, .inr ta.sq, _, atI_nat hx, _, .inr txa.sq, _, rfl, fun hb => absurd hb (by decide), fun _ => ⟨fun hb => ?_, fun _ => ⟨fun hb => ?_, fun hb => ?_⟩⟩⟩
      · have := of_decide_eq_true hb
        omega
      · have := of_decide_eq_true hb
        omega
      · refine ⟨fun hb => absurd hb (by decide), fun _ => ⟨fun hb => absurd hb (by decide), fun _ => ⟨fun hb => absurd hb (by decide), fun _ => ⟨fun hb => absurd hb (by decide), fun _ => ?_⟩⟩⟩⟩
        refine ⟨_, .inl (SqL.of lf), (fun hb => nomatch hb), fun _ => ?_⟩
        exact ⟨_, .inl (SqL.of es), cx, atI_last _ _, q cx H' M.ch tcx⟩
end
end T5
set_option maxHeartbeats 4000000
namespace T5
open PySem PySem.Spec PyProof.Rows L2 T3
section
variable {X : Cx}
theorem msetLcR {i : Nat} {y : Str} {py : Pos} {elt tg a : Expr} {scope : Scope} {own : List (Str × Nat)} {p pos pos' spos : Pos} {g : TG} {ta el : TE} (hy : X.N[i]? = some y) (hyl : X.env.scope.names.lookup y = some .local)
    (hsw : swapsWith (.ListComp elt [⟨tg, .Call (.Name "range" p) [a] [] pos', [], 0⟩] scope pos) (some (.Name y py)) spos.line X.env = pure true)
    (hc : X.calm = true) (hN : X.N.Nodup) (hgr : Gl X "range") (hm : X.mg "range" = none) (ha : PE X a ta) (ok : BlkOk X.N X.env.scope scope own)
    (hg : ∀ (s : Shared) (H : Hp) (C : Addr) (cl : List (Str × Addr)) (fp : List Addr), PG (X.blk s H scope (compEnvC scope cl C X.env) fp) tg g)
    (he : ∀ (s : Shared) (H : Hp) (C : Addr) (cl : List (Str × Addr)) (fp : List Addr), PE (X.blk s H scope (compEnvC scope cl C X.env) fp) elt el)
    (hsa : starEach [a] X.env = (false, eval a X.env) :: starEach [] X.env := by rfl)
    (hs : ∀ x, foldedSetIterable (.Call (.Name "range" p) [a] [] pos') X.env x = pure x := by intro _; rfl) :
    PS X (.Assign [.Name y py] (.ListComp elt [⟨tg, .Call (.Name "range" p) [a] [] pos', [], 0⟩] scope pos) spos) (tAsg (mLcR ta g el (own.map (·.2))) (gName i)) := by
  refine PS.imp ?_ (ps_setLc hc hN hy hyl hsw (pi_range1 (tg := tg) (p := p) (pos := pos') hgr hm (pa_cons (mono_pe ha) pa_nil hsa) hsa) ok hg (fun _ _ _ _ _ => pts_nil) he hs)
  intro D σ H h
  refine ⟨_, h, ?_⟩
  intro v H1 h1
  cases v with
  | int j =>
    obtain ⟨h2, h3⟩ := h1
    refine ⟨j, rfl, h2.1, h2.2, fun D hD => ?_⟩
    obtain ⟨Pv, p0, ps, pd⟩ := h3 D hD
    refine lc_range (lo := 0) (n := j.toNat) Pv p0 ?_ pd
    intro i H hi hP
    have z := ps i H hi hP
    rw [Int.zero_add]
    exact z
  | _ => exact h1.elim
end
abbrev st_law_numbers : Stmt := topS 18
theorem sc_law_numbers : FnScope ["script", "great", "cell", "jar", "drawn", "k", "number"] ["script"] (defScope st_law_numbers) := ⟨rfl, rfl, rfl, by decide +kernel, rfl, by decide +kernel, by decide +kernel⟩
abbrev st_law_take : Stmt := topS 19
theorem sc_law_take : FnScope ["pool", "many"] ["pool", "many"] (defScope st_law_take) := ⟨rfl, rfl, rfl, by decide +kernel, rfl, by decide +kernel, by decide +kernel⟩
abbrev st_law_like : Stmt := topS 20
theorem sc_law_like : FnScope ["actual", "due", "waiting", "k", "one", "other"] ["actual", "due"] (defScope st_law_like) := ⟨rfl, rfl, rfl, by decide +kernel, rfl, by decide +kernel, by decide +kernel⟩
section
variable {P : Program} {w : World} {K : PySem.W.Frag} {mg : Str → Option Value} {base : Heap}
def Pool (H : Hp) (p : Addr) : Prop := ∃ ns : List Int, H p = some (.lst (ns.map V.int)) ∧ ∀ n ∈ ns, 0 ≤ n
theorem Pool.chg {L : List Addr} {H H' : Hp} {p : Addr} (h : Pool H p) (g : Chg L H H') (hp : p ∉ L) : Pool H' p := by
  obtain ⟨ns, h1, h2⟩ := h
  exact ⟨ns, g.get hp h1, h2⟩
def sp_law_numbers (K : PySem.W.Frag) : Sp := fun vs H Q _ => match vs with
  | [.ref a] => ∃ ns : List Int, SqL K H a (ns.map V.int) ∧ ns.length ≤ 63 ∧ ∀ d H', Chg [] H H' → H d = none → Pool H' d → Q (.ref d) H'
  | _ => False
theorem sqL_new {H : Hp} {a p : Addr} {xs : List V} {o : HO} (h : SqL K H a xs) (hp : H p = none) : SqL K (upd H p o) a xs := by
  rcases h with (h | ⟨ob, h⟩) | h
  · exact .inl (.inl (by rw [upd_ne (ne_of_none h hp)]; exact h))
  · exact .inl (.inr ⟨ob, by rw [upd_ne (ne_of_none h hp)]; exact h⟩)
  · exact .inr h
theorem sqL_chg {H H' : Hp} {a : Addr} {xs : List V} (h : SqL K H a xs) (g : Chg [] H H') : SqL K H' a xs := by
  rcases h with (h | ⟨ob, h⟩) | h
  · exact .inl (.inl (g.get (by simp) h))
  · exact .inl (.inr ⟨ob, g.get (by simp) h⟩)
  · exact .inr h
theorem ok_law_numbers {f : Addr} {fd : FuncData} (F : Fun K "_law_numbers" "_law_numbers" st_law_numbers f fd) (T : Top K mg) : FnOk P w K mg base CX0 1 f fd ["script"] (sp_law_numbers K) := by
  refine F.ok sc_law_numbers (fun vs H Q E h => ?_) (fun cdv A outer s H vs Q E hr h => ?_)
  · match vs, h with
    | [.ref a], _ => rfl
  match vs, h with
  | [.ref a], h =>
  obtain ⟨ns, hS, hlen, q⟩ := h
  refine ⟨_, (pss_cons (ps_set (i := 1) sc_law_numbers.nd rfl (.inl rfl) pe_int)
(pss_cons (mforL PassesOwn.never rfl (pe_slice slM (mv 0) po_none (pom pe_int)) (pg_name (i := 2) sc_law_numbers.nd rfl (.inl rfl))
(pss_one (mif (PW.pt (mand (mcmp opEq (mv 1) pe_int) (pw_and1 (mcmp opGe (mv 2) (pe_op opPow pe_int pe_int)))))
(pss_one (ps_set (i := 1) sc_law_numbers.nd rfl (.inl rfl) (mv 2)))
pss_nil)))
(pss_cons (ps_set (i := 3) sc_law_numbers.nd rfl (.inl rfl) pe_int)
(pss_cons (ps_set (i := 4) sc_law_numbers.nd rfl (.inl rfl) (pe_lst pa_nil))
(pss_cons (mforR PassesOwn.never rfl (by rfl) T.range pe_int (pg_name (i := 5) sc_law_numbers.nd rfl (.inl rfl))
(pss_cons (ps_set (i := 2) sc_law_numbers.nd rfl (.inl rfl) pe_int)
(pss_cons (mif (mcmp opGt (pe_callB callLen (by rfl) T.len (by decide +kernel) (pa_cons (mv 0) pa_nil)) pe_int)
(pss_one (ps_set (i := 2) sc_law_numbers.nd rfl (.inl rfl) (pe_op opMod (pe_callTy callInt (by rfl) T.int (by decide +kernel) (pa_cons (pe_ix ixM (mv 0) (pe_op opMod (mv 5) (pe_callB callLen (by rfl) T.len (by decide +kernel) (pa_cons (mv 0) pa_nil))) (fun _ _ => rfl)) pa_nil)) pe_int)))
pss_nil)
(pss_cons (ps_set (i := 3) sc_law_numbers.nd rfl (.inl rfl) (pe_op opMod (pe_callTy callInt (by rfl) T.int (by decide +kernel) (pa_cons (pe_op opAdd (pe_op opAdd (pe_op opAdd (pe_op opMul (mv 3) pe_int) (pe_op opMul (mv 2) pe_int)) (pe_op opMul (mv 5) pe_int)) pe_int) pa_nil)) pe_int))
(pss_cons (ps_set (i := 6) sc_law_numbers.nd rfl (.inl rfl) (pe_op opDiv (mv 3) pe_int))
(pss_cons (mif (mcmp opGt (mv 1) pe_int)
(pss_cons (ps_set (i := 6) sc_law_numbers.nd rfl (.inl rfl) (pe_op opMod (pe_callTy callInt (by rfl) T.int (by decide +kernel) (pa_cons (mv 1) pa_nil)) pe_int))
(pss_one (ps_set (i := 1) sc_law_numbers.nd rfl (.inl rfl) (pe_op opDiv (mv 1) pe_int))))
pss_nil)
(pss_one (mapp (mv 4) (mv 6)))))))))
(pss_one (ps_ret (mrev (mv 4)))))))))
  , ?_⟩
  have hcut : ∃ ms : List Int, cutV (ns.map V.int) none (some 63) = ms.map V.int := ⟨(ns.drop (HT.sIx (ns.map V.int).length 0 none)).take (HT.sIx (ns.map V.int).length (ns.map V.int).length (some 63) - HT.sIx (ns.map V.int).length 0 none), by
    unfold cutV
    rw [List.map_take, List.map_drop]⟩
  obtain ⟨ms, hms⟩ := hcut
  refine ⟨_, hS, fun p hp => ?_⟩
  have e1 : upd H p (.lst (cutV (ns.map V.int) none (some 63))) p = some (.lst (ms.map V.int)) := by
    rw [hms]
    exact upd_same
  have c1 : Chg [] H (upd H p (.lst (cutV (ns.map V.int) none (some 63)))) := Chg.new hp
  have hS1 := sqL_chg hS c1
  generalize upd H p (.lst (cutV (ns.map V.int) none (some 63))) = H1 at *
  refine ⟨_, SqL.of e1, fun i σ H' => ∃ (g : Int) (c : Option V), σ = [some (.ref a), some (.int g), c, none, none, none, none] ∧ H' = H1, ⟨0, none, rfl, rfl⟩, ?_, ?_, ?_⟩
  · rintro i σ H' _ ⟨g, c, rfl, rfl⟩
    exact SqL.of e1
  · rintro i x σ H' hx ⟨g, c, rfl, rfl⟩
    rw [List.getElem?_map] at hx
    obtain ⟨n, _, rfl⟩ := Option.map_eq_some_iff.mp hx
    exact ⟨fun _ => ⟨⟨by decide, by decide, by decide⟩, fun _ => ⟨n, _, rfl, rfl⟩, fun _ => ⟨g, _, rfl, rfl⟩⟩, fun _ => ⟨(fun h => nomatch h), fun _ => ⟨g, _, rfl, rfl⟩⟩⟩
  · rintro σ H' ⟨g, c, rfl, rfl⟩
    refine ⟨(by rw [sizeLine_eq]; exact Nat.zero_le _), fun d hd => ⟨⟨by decide, by decide⟩, fun i σ H2 => ∃ (g j : Int) (ds : List Int) (c k n : Option V), σ = [some (.ref a), some (.int g), c, some (.int j), some (.ref d), k, n] ∧ 0 ≤ j ∧ j < 2147483647 ∧
      H2 d = some (.lst (ds.map V.int)) ∧ Chg [] H' H2 ∧ (∀ n ∈ ds, 0 ≤ n) ∧ ds.length = i, ?_, ?_, ?_⟩⟩
    · exact ⟨g, 7, [], c, none, none, rfl, by decide, by decide, upd_same, Chg.new hd, (fun n hn => nomatch hn), rfl⟩
    · rintro i σ H2 hi ⟨g, j, ds, c, k, n, rfl, hj0, hj1, e2, c2, hds, hl⟩
      have hS2 := sqL_chg hS1 c2
      have hi' : i < 240 := hi
      have tail : ∀ (cl : Int), 0 ≤ cl → cl < 1000003 → ∃ (j' : Int), (j * 48271 + cl * 31 + (i : Int) * 7919 + 11) % 2147483647 = j' ∧ 0 ≤ j' ∧ j' < 2147483647 := fun cl _ _ => ⟨_, rfl, Int.emod_nonneg _ (by decide), Int.emod_lt_of_pos _ (by decide)⟩
      have fin : ∀ (g' j' num : Int) (cl : V), 0 ≤ num → 0 ≤ j' → j' < 2147483647 → ∃ xs, H2 d = some (.lst xs) ∧ xs.length < sizeLine ∧ ∃ (g j : Int) (ds : List Int) (c k n : Option V), [some (V.ref a), some (.int g'), some cl, some (.int j'), some (.ref d), some (.int (i : Int)), some (.int num)] = [some (.ref a), some (.int g), c, some (.int j), some (.ref d), k, n] ∧ 0 ≤ j ∧ j < 2147483647 ∧
          upd H2 d (.lst (xs ++ [.int num])) d = some (.lst (ds.map V.int)) ∧ Chg [] H' (upd H2 d (.lst (xs ++ [.int num]))) ∧ (∀ n ∈ ds, 0 ≤ n) ∧ ds.length = i + 1 := by
        intro g' j' num cl h1 h2 h3
        refine ⟨ds.map V.int, e2, by rw [sizeLine_eq, List.length_map]; omega, g', j', ds ++ [num], _, _, _, rfl, h2, h3, ?_, c2.fresh (L := [d]) (Chg.lst (by simp) e2) (fun x hx => by rw [List.mem_singleton.mp hx]; exact hd), ?_, by rw [List.length_append, hl]; rfl⟩
        · rw [List.map_append]
          exact upd_same
        · intro n hn
          rcases List.mem_append.mp hn with hn | hn
          · exact hds n hn
          · rw [List.mem_singleton.mp hn]
            exact h1
      have hcalc : ∀ cl : Int, 0 ≤ cl → cl < 1000003 → True := fun _ _ _ => trivial
      have rest : ∀ (cl j' : Int), 0 ≤ j' → j' < 2147483647 → 0 ≤ j' / 64 := fun cl j' h _ => Int.ediv_nonneg h (by decide)
      have m0 : ∀ z : Int, 0 ≤ z % 2147483647 := fun z => Int.emod_nonneg _ (by decide)
      have m1 : ∀ z : Int, z % 2147483647 < 2147483647 := fun z => Int.emod_lt_of_pos _ (by decide)
      have m2 : ∀ z : Int, 0 ≤ z % 9973 := fun z => Int.emod_nonneg _ (by decide)
      refine ⟨_, .inl hS2, fun hb => ?_, fun _ => ?_⟩
      · have hn0 : 0 < ns.length := by
          have := of_decide_eq_true hb
          rw [List.length_map] at this
          omega
        have hmod : ((i : Int) % ((ns.map V.int).length : Nat)) = ((i % ns.length : Nat) : Int) := by
          rw [List.length_map]
          rfl
        have hlt : i % ns.length < ns.length := Nat.mod_lt _ hn0
        have e3 : atI (ns.map V.int) ((i : Int) % ((ns.map V.int).length : Nat)) = some (.int ns[i % ns.length]) := by
          rw [hmod]
          refine atI_nat ?_
          rw [List.getElem?_map, List.getElem?_eq_getElem hlt]
          rfl
        refine ⟨_, .inl hS2, by rw [List.length_map]; omega, _, .inl hS2, _, e3, by decide, ?_⟩
        refine ⟨.inr ⟨by decide, by decide⟩, .inr ⟨by decide, by decide⟩, .inr ⟨by decide, by decide⟩, by decide, ⟨by decide, by decide⟩, fun _ => ?_, fun _ => ?_⟩
        · exact ⟨by decide, ⟨by decide, by decide⟩, ⟨_, e2⟩, fin _ _ _ _ (m2 _) (m0 _) (m1 _)⟩
        · exact ⟨⟨_, e2⟩, fin _ _ _ _ (Int.ediv_nonneg (m0 _) (by decide)) (m0 _) (m1 _)⟩
      · refine ⟨.inr ⟨by decide, by decide⟩, .inr ⟨by decide, by decide⟩, .inr ⟨by decide, by decide⟩, by decide, ⟨by decide, by decide⟩, fun _ => ?_, fun _ => ?_⟩
        · exact ⟨by decide, ⟨by decide, by decide⟩, ⟨_, e2⟩, fin _ _ _ _ (m2 _) (m0 _) (m1 _)⟩
        · exact ⟨⟨_, e2⟩, fin _ _ _ _ (Int.ediv_nonneg (m0 _) (by decide)) (m0 _) (m1 _)⟩
    · rintro σ H2 ⟨g, j, ds, c, k, n, rfl, hj0, hj1, e2, c2, hds, hl⟩
      refine ⟨_, SqL.of e2, fun p2 hp2 => q p2 _ ((c1.trans c2).trans (Chg.new hp2)) ((c1.trans c2).old hp2) ⟨ds.reverse, ?_, fun n hn => hds n (List.mem_reverse.mp hn)⟩⟩
      rw [List.map_reverse]
      exact upd_same

def sp_law_take : Sp := fun vs H Q _ => match vs with
  | [.ref p, .int m] => Pool H p ∧ ∃ n : Nat, m = n ∧ 0 < n ∧ ∀ (r : Nat) H', r < n → Chg [p] H H' → Pool H' p → Q (.int r) H'
  | _ => False
theorem ok_law_take {f : Addr} {fd : FuncData} (F : Fun K "_law_take" "_law_take" st_law_take f fd) (T : Top K mg) : FnOk P w K mg base CX0 1 f fd ["pool", "many"] sp_law_take := by
  refine F.ok sc_law_take (fun vs H Q E h => ?_) (fun cdv A outer s H vs Q E hr h => ?_)
  · match vs, h with
    | [.ref a, .int m], _ => rfl
  match vs, h with
  | [.ref p, .int m], h =>
  obtain ⟨⟨ns, hp, hns⟩, n, rfl, hn, q⟩ := h
  refine ⟨_, (pss_cons (mif (mcmp opEq (pe_callB callLen (by rfl) T.len (by decide +kernel) (pa_cons (mv 0) pa_nil)) pe_int)
(pss_one (ps_ret pe_int))
pss_nil)
(pss_one (ps_ret (pe_op opMod (pe_callTy callInt (by rfl) T.int (by decide +kernel) (pa_cons (mpop (mv 0)) pa_nil)) (mv 1)))))
  , ?_⟩
  refine ⟨_, .inl (SqL.of hp), fun _ => ?_, fun hb => ?_⟩
  · exact q 0 H hn (Chg.refl _ _) ⟨ns, hp, hns⟩
  · have hne : ns ≠ [] := fun z => by
      subst z
      exact absurd hb (by decide)
    obtain ⟨ms, x, rfl⟩ : ∃ ms x, ns = ms ++ [x] := ⟨ns.dropLast, ns.getLast hne, (List.dropLast_concat_getLast hne).symm⟩
    rw [List.map_append] at hp
    refine ⟨_, _, hp, by omega, ?_⟩
    have e : x % (n : Int) = ((x % (n : Int)).toNat : Int) := (Int.toNat_of_nonneg (Int.emod_nonneg _ (by omega))).symm
    have lt := Int.emod_lt_of_pos x (show (0 : Int) < (n : Int) by omega)
    have := q (x % (n : Int)).toNat (upd H p (.lst (ms.map V.int))) (by omega) (Chg.lst (by simp) hp) ⟨ms, upd_same, fun y hy => hns y (by simp [hy])⟩
    rw [← e] at this
    exact this
end
end T5
set_option maxHeartbeats 4000000
namespace T5
open PySem PySem.Spec PyProof.Rows L2 T3
inductive WA (K : PySem.W.Frag) (H : Hp) : List V → List Cell → Prop
  | nil : WA K H [] []
  | cons {t : Addr} {x y : V} {c : Cell} {vs : List V} {cs : List Cell} : H t = some (.tup [x, y]) → Td K H x c.d → Td K H y c.d → WA K H vs cs → WA K H (.ref t :: vs) (c :: cs)
section
variable {K : PySem.W.Frag} {H H' : Hp}
theorem WA.keep (k : Ktp H H') : ∀ {vs : List V} {cs : List Cell}, WA K H vs cs → WA K H' vs cs
  | _, _, .nil => .nil
  | _, _, .cons h1 h2 h3 h4 => .cons (k _ _ h1) (h2.keep k) (h3.keep k) (h4.keep k)
theorem WA.app : ∀ {vs ws : List V} {cs ds : List Cell}, WA K H vs cs → WA K H ws ds → WA K H (vs ++ ws) (cs ++ ds)
  | _, _, _, _, .nil, h => h
  | _, _, _, _, .cons h1 h2 h3 h4, h => .cons h1 h2 h3 (h4.app h)
theorem WA.last {c : Cell} : ∀ {vs : List V} {cs : List Cell}, WA K H vs (cs ++ [c]) → ∃ vs' t x y, vs = vs' ++ [.ref t] ∧ WA K H vs' cs ∧ H t = some (.tup [x, y]) ∧ Td K H x c.d ∧ Td K H y c.d
  | _, [], .cons h1 h2 h3 h4 => by
    cases h4
    exact ⟨[], _, _, _, rfl, .nil, h1, h2, h3⟩
  | _, _ :: cs, .cons h1 h2 h3 h4 => by
    obtain ⟨vs', t, x, y, rfl, g, e1, e2, e3⟩ := WA.last (cs := cs) h4
    exact ⟨_ :: vs', t, x, y, rfl, .cons h1 h2 h3 g, e1, e2, e3⟩
theorem WA.length : ∀ {vs : List V} {cs : List Cell}, WA K H vs cs → vs.length = cs.length
  | _, _, .nil => rfl
  | _, _, .cons _ _ _ h => by rw [List.length_cons, List.length_cons, h.length]
theorem WA.zip : ∀ {xs ys : List V} {ts : List Addr} {cs : List Cell}, TdAll K H xs (cs.map Cell.d) → TdAll K H ys (cs.map Cell.d) → ts.length = xs.length →
    (∀ (j : Nat) (x y : V) (t : Addr), xs[j]? = some x → ys[j]? = some y → ts[j]? = some t → H t = some (.tup [x, y])) → WA K H (ts.map V.ref) cs
  | _, _, [], [], .nil, .nil, _, _ => .nil
  | _, _, _ :: _, [], .nil, .nil, h, _ => by cases h
  | _, _, [], _ :: _, .cons _ _, _, h, _ => by cases h
  | x :: xs, y :: ys, t :: ts, c :: cs, .cons a1 a2, .cons b1 b2, h, q =>
    .cons (q 0 x y t rfl rfl rfl) a1 b1 (WA.zip a2 b2 (Nat.succ.inj h) fun j x y t h1 h2 h3 => q (j + 1) x y t h1 h2 h3)
theorem list_last {α : Type} {xs : List α} (h : xs ≠ []) : ∃ ys y, xs = ys ++ [y] := ⟨xs.dropLast, xs.getLast h, (List.dropLast_concat_getLast h).symm⟩
end
section
variable {P : Program} {w : World} {K : PySem.W.Frag} {mg : Str → Option Value} {base : Heap}
def sp_law_like (K : PySem.W.Frag) : Sp := fun vs H Q _ => match vs with
  | [v, u] => ∃ c : Cell, Td K H v c.d ∧ Td K H u c.d ∧ c.size ≤ 1000 ∧ ∀ H', Chg [] H H' → Q (.bl true) H'
  | _ => False
theorem ok_law_like {f : Addr} {fd : FuncData} (F : Fun K "_law_like" "_law_like" st_law_like f fd) (T : Top K mg) : FnOk P w K mg base CX0 1 f fd ["actual", "due"] (sp_law_like K) := by
  refine F.ok sc_law_like (fun vs H Q E h => ?_) (fun cdv A outer s H vs Q E hr h => ?_)
  · match vs, h with
    | [v, u], _ => rfl
  match vs, h with
  | [v, u], h =>
  obtain ⟨c, tv, tu, hz, q⟩ := h
  refine ⟨_, (pss_cons (ps_set (i := 2) sc_law_like.nd rfl (.inl rfl) (pe_lst (pa_cons (pe_tup (pa_cons (mv 0) (pa_cons (mv 1) pa_nil))) pa_nil)))
(pss_cons (mforR PassesOwn.never rfl (by rfl) T.range pe_int (pg_name (i := 3) sc_law_like.nd rfl (.inl rfl))
(pss_cons (mif (mcmp opEq (pe_callB callLen (by rfl) T.len (by decide +kernel) (pa_cons (mv 2) pa_nil)) pe_int)
(pss_one (ps_ret pe_bl))
pss_nil)
(pss_cons (ps_asg (mpop (mv 2)) (pg_tup rfl (pgs_cons (pg_name (i := 4) sc_law_like.nd rfl (.inl rfl)) (pgs_cons (pg_name (i := 5) sc_law_like.nd rfl (.inl rfl)) pgs_nil))))
(pss_cons (mif (PW.pt (mor (pt_not (mval (pe_callB callIsi2 (by rfl) T.isinstance (by decide +kernel) (pa_cons (mv 4) (pa_cons (pe_bltn (by rfl) T.tuple (by decide +kernel) (v := .ty "tuple") rfl) pa_nil))))) (mor (mcmp opNe (pe_callB callLen (by rfl) T.len (by decide +kernel) (pa_cons (mv 4) pa_nil)) pe_int) (mor (pt_not (mval (pe_callB callIsi2 (by rfl) T.isinstance (by decide +kernel) (pa_cons (pe_ix ixM (mv 4) pe_int (fun _ _ => rfl)) (pa_cons (pe_bltn (by rfl) T.tuple (by decide +kernel) (v := .ty "tuple") rfl) pa_nil))))) (pw_or1 (mcmp opNe (pe_callB callLen (by rfl) T.len (by decide +kernel) (pa_cons (pe_ix ixM (mv 4) pe_int (fun _ _ => rfl)) pa_nil)) (pe_callB callLen (by rfl) T.len (by decide +kernel) (pa_cons (pe_ix ixM (mv 5) pe_int (fun _ _ => rfl)) pa_nil))))))))
(pss_one (ps_ret pe_bl))
pss_nil)
(pss_cons (mif (PW.pt (mor (pt_not (mval (pe_callB callIsi2 (by rfl) T.isinstance (by decide +kernel) (pa_cons (pe_ix ixM (mv 4) pe_int (fun _ _ => rfl)) (pa_cons (pe_bltn (by rfl) T.int (by decide +kernel) (v := .ty "int") rfl) pa_nil))))) (mor (mval (pe_callB callIsi2 (by rfl) T.isinstance (by decide +kernel) (pa_cons (pe_ix ixM (mv 4) pe_int (fun _ _ => rfl)) (pa_cons (pe_bltn (by rfl) T.bool (by decide +kernel) (v := .ty "bool") rfl) pa_nil)))) (pw_or1 (mcmp opNe (pe_ix ixM (mv 4) pe_int (fun _ _ => rfl)) (pe_ix ixM (mv 5) pe_int (fun _ _ => rfl)))))))
(pss_one (ps_ret pe_bl))
pss_nil)
(pss_one (mext (mv 2) (pe_listZip rfl (pa_cons (pe_ix ixM (mv 4) pe_int (fun _ _ => rfl)) (pa_cons (pe_ix ixM (mv 5) pe_int (fun _ _ => rfl)) pa_nil)) (by rfl) T.list (by decide +kernel) (by rfl) T.zip))))))))
(pss_one (ps_ret pe_bl))))
  , ?_⟩
  refine ⟨(by rw [sizeLine_eq]; show 2 ≤ 16777216; omega), fun t ht => ⟨(by rw [sizeLine_eq]; show 1 ≤ 16777216; omega), fun p hp => ⟨⟨by decide, by decide⟩,
    fun i σ H1 => ∃ (p' : Addr) (k one other : Option V) (vs : List V) (cs : List Cell), σ = [some v, some u, some (.ref p'), k, one, other] ∧ H p' = none ∧ H1 p' = some (.lst vs) ∧ WA K H1 vs cs ∧ Chg [] H H1 ∧ i + Cell.sizes cs = c.size, ?_, ?_, ?_⟩⟩⟩
  · have c1 : Chg [] H (upd H t (.tup [v, u])) := Chg.new ht
    have c2 : Chg [] (upd H t (.tup [v, u])) (upd (upd H t (.tup [v, u])) p (.lst [.ref t])) := Chg.new hp
    have cc := c1.trans c2
    refine ⟨p, none, none, none, _, [c], rfl, c1.old hp, upd_same, .cons (c2.kt _ _ upd_same) (tv.keep cc.kt) (tu.keep cc.kt) .nil, cc, ?_⟩
    rw [Cell.sizes_one]
    omega
  · rintro i σ H1 hi ⟨p', k, one, other, vs, cs, rfl, hp', e1, wa, c1, hs⟩
    have lw := wa.length
    refine ⟨vs, .inl (SqL.of e1), fun hb => q H1 c1, fun hb => ?_⟩
    have hne : cs ≠ [] := fun z => by
      subst z
      cases wa
      exact absurd hb (by decide)
    obtain ⟨cs', d, rfl⟩ := list_last hne
    obtain ⟨vs', t', x, y, rfl, wa', et, tx, ty⟩ := wa.last
    obtain ⟨n, ps⟩ := d
    rw [Cell.d, Cell.ds_map] at tx ty
    rw [Cell.sizes_app, Cell.sizes_one, Cell.size] at hs
    obtain ⟨a, xs, rfl, ta, txs⟩ := tx.tuple
    obtain ⟨b, ys, rfl, tb, tys⟩ := ty.tuple
    cases txs with
    | cons x1 x2 =>
      cases x1
      cases x2 with
      | cons x3 x4 =>
        cases x4
        obtain ⟨a2, xs2, rfl, ta2, txs2⟩ := x3.tuple
        cases tys with
        | cons y1 y2 =>
          cases y1
          cases y2 with
          | cons y3 y4 =>
            cases y4
            obtain ⟨b2, ys2, rfl, tb2, tys2⟩ := y3.tuple
            have k1 : Ktp H1 (upd H1 p' (.lst vs')) := Ktp.lst e1
            have et' := k1 _ _ et
            have ta' := (ta.keep k1).sq
            have tb' := (tb.keep k1).sq
            have ta2' := (ta2.keep k1).sq
            have tb2' := (tb2.keep k1).sq
            have l1 := txs2.length
            have l2 := tys2.length
            rw [List.length_map] at l1 l2
            refine ⟨vs', _, e1, _, _, rfl, SqT.of et', rfl, _, _, rfl, _, _, rfl, rfl, ?_⟩
            refine ⟨⟨_, ta'⟩, true, rfl, (fun h => nomatch h), fun _ => ⟨_, .inr ta', (fun h => nomatch h), fun _ => ⟨_, .inr ta', _, atI1 rfl, ⟨_, ta2'⟩, true, rfl, (fun h => nomatch h), fun _ => ⟨_, .inr ta', _, atI1 rfl, _, .inr ta2', _, .inr tb', _, atI1 rfl, _, .inr tb2', fun h => ?_, fun _ => ?_⟩⟩⟩⟩
            · rw [decide_eq_true (show ((xs2.length : Nat) : Int) = ((ys2.length : Nat) : Int) by omega)] at h
              cases h
            refine ⟨_, .inr ta', _, atI0 rfl, true, rfl, (fun h => nomatch h), fun _ => ⟨_, .inr ta', _, atI0 rfl, false, rfl, (fun h => nomatch h), fun _ => ⟨_, .inr ta', _, atI0 rfl, _, .inr tb', _, atI0 rfl, fun h => ?_, fun _ => ?_⟩⟩⟩
            · rw [decide_eq_true (rfl : n = n)] at h
              cases h
            refine ⟨⟨_, upd_same⟩, _, .inr ta', _, atI1 rfl, _, .inr tb', _, atI1 rfl, a2, b2, xs2, ys2, rfl, ta2', tb2', by omega, fun H2 p2 ts g2 hp2 lts e2 hz2 => ?_⟩
            have c2 : Chg [] (upd H1 p' (.lst vs')) H2 := Chg.grow g2
            have e3 : H2 p' = some (.lst vs') := g2 _ _ upd_same
            have lz1 := Cell.sizes_len ps
            have lz2 := Cell.sizes_len cs'
            have lw' := wa'.length
            refine ⟨vs', ts.map V.ref, e3, .inl e2, by rw [sizeLine_eq, List.length_map]; omega, p', _, _, _, _, cs' ++ ps, rfl, hp', upd_same, ?_, ?_, ?_⟩
            · have k3 : Ktp H2 (upd H2 p' (.lst (vs' ++ ts.map V.ref))) := Ktp.lst e3
              exact (((wa'.keep k1).keep c2.kt).app (WA.zip ((txs2.keep k1).keep c2.kt) ((tys2.keep k1).keep c2.kt) lts hz2)).keep k3
            · refine c1.fresh (L := [p']) ((Chg.lst (by simp) e1).trans ((c2.mono (by simp)).trans (Chg.lst (by simp) e3))) fun a ha => ?_
              rw [List.mem_singleton.mp ha]
              exact hp'
            · rw [Cell.sizes_app]
              omega
  · rintro σ H1 ⟨p', k, one, other, vs, cs, rfl, hp', e1, wa, c1, hs⟩
    have : (2000 : Int).toNat = 2000 := rfl
    omega
end
end T5
set_option maxHeartbeats 4000000
/-! rows in a line; lists of rows in the heap -/
namespace T5
open PySem PySem.Spec PyProof.Rows L2 T3
inductive Exs : List Row → List Cell → List Cell → List Cell → List Cell → Prop
  | nil {h s : List Cell} : Exs [] h s h s
  | cons {r : Row} {rs : List Row} {h s h1 s1 h2 s2 : List Cell} : Do r h s h1 s1 → Exs rs h1 s1 h2 s2 → Exs (r :: rs) h s h2 s2
theorem Exs.one {r : Row} {h s h1 s1 : List Cell} (d : Do r h s h1 s1) : Exs [r] h s h1 s1 := .cons d .nil
theorem Exs.app {rs : List Row} {h1 s1 h2 s2 : List Cell} : ∀ {qs : List Row} {h s : List Cell}, Exs qs h s h1 s1 → Exs rs h1 s1 h2 s2 → Exs (qs ++ rs) h s h2 s2
  | [], _, _, .nil, g => g
  | _ :: _, _, _, .cons d e, g => .cons d (e.app g)
/-- rows in a line, then the rest -/
theorem Exs.go {B : Built} {fs : List Frame} {rows : List Row} {c : Cell} {n : Nat} {h' s' : List Cell} : ∀ {qs : List Row} {h s : List Cell} {i : Nat}, Exs qs h s h' s' → (∀ j r, qs[j]? = some r → rows[i + j]? = some r) → Go B fs rows (i + qs.length) h' s' c n → Go B fs rows i h s c (n + qs.length)
  | [], _, _, i, .nil, _, g => g
  | r :: qs, h, s, i, .cons d e, hr, g => by
    have ih := e.go (B := B) (fs := fs) (rows := rows) (c := c) (n := n) (i := i + 1) (fun j r' hj => by
      have := hr (j + 1) r' (by simpa using hj)
      rw [show i + 1 + j = i + (j + 1) by omega]
      exact this) (by
      rw [show i + 1 + qs.length = i + (r :: qs).length by rw [List.length_cons]; omega]
      exact g)
    exact .row (by simpa using hr 0 r rfl) d ih
mutual
def Cell.post : Cell → List Row
  | .mk n ps => Cell.posts ps ++ [.make n ps.length]
def Cell.posts : List Cell → List Row
  | [] => []
  | c :: cs => c.post ++ Cell.posts cs
end
theorem Cell.posts_app : ∀ cs ds : List Cell, Cell.posts (cs ++ ds) = Cell.posts cs ++ Cell.posts ds
  | [], ds => rfl
  | c :: cs, ds => by rw [List.cons_append, Cell.posts, Cell.posts, Cell.posts_app cs ds, List.append_assoc]
theorem Cell.posts_one (c : Cell) : Cell.posts [c] = c.post := by rw [Cell.posts, Cell.posts, List.append_nil]
mutual
theorem Cell.post_len : ∀ c : Cell, c.post.length = c.size
  | .mk n ps => by
    rw [Cell.post, Cell.size, List.length_append, Cell.posts_len ps]
    rfl
theorem Cell.posts_len : ∀ cs : List Cell, (Cell.posts cs).length = Cell.sizes cs
  | [] => rfl
  | c :: cs => by rw [Cell.posts, Cell.sizes, List.length_append, Cell.post_len c, Cell.posts_len cs]
end
mutual
theorem Cell.post_exs : ∀ (c : Cell) (h s : List Cell), c.size ≤ 256 → Exs c.post h s h (s ++ [c])
  | .mk n ps, h, s, hz => by
    rw [Cell.size] at hz
    rw [Cell.post]
    exact (Cell.posts_exs ps h s (by omega)).app (.one (.make rfl (by rw [Cell.size]; omega)))
theorem Cell.posts_exs : ∀ (cs : List Cell) (h s : List Cell), Cell.sizes cs ≤ 256 → Exs (Cell.posts cs) h s h (s ++ cs)
  | [], h, s, _ => by
    rw [List.append_nil]
    exact .nil
  | c :: cs, h, s, hz => by
    rw [Cell.sizes] at hz
    rw [Cell.posts]
    have := (Cell.post_exs c h s (by omega)).app (Cell.posts_exs cs h (s ++ [c]) (by omega))
    rw [List.append_assoc] at this
    exact this
end
inductive PathTo (c : Cell) : List Row → Cell → Prop
  | nil : PathTo c [] c
  | snoc {path : List Row} {n : Int} {ps : List Cell} {p : Cell} {i : Nat} : PathTo c path (.mk n ps) → ps[i]? = some p → PathTo c (path ++ [.part i]) p
theorem Cell.size_get : ∀ {ps : List Cell} {i : Nat} {p : Cell}, ps[i]? = some p → p.size ≤ Cell.sizes ps
  | [], i, p, h => by simp at h
  | q :: ps, 0, p, h => by
    simp at h
    subst h
    rw [Cell.sizes]
    omega
  | q :: ps, i + 1, p, h => by
    have := Cell.size_get (ps := ps) (i := i) (by simpa using h)
    rw [Cell.sizes]
    omega
theorem PathTo.size {c d : Cell} {path : List Row} (h : PathTo c path d) : d.size ≤ c.size := by
  induction h with
  | nil => exact Nat.le_refl _
  | snoc _ hp ih =>
    rw [Cell.size] at ih
    have := Cell.size_get hp
    omega
theorem PathTo.exs {c d : Cell} {path : List Row} (q : PathTo c path d) (h s : List Cell) : Exs path h (s ++ [c]) h (s ++ [d]) := by
  induction q with
  | nil => exact .nil
  | snoc _ hp ih => exact ih.app (.one (.part hp))
/-- the first m of what is held -/
theorem locs_exs (h : List Cell) : ∀ (m : Nat) (s : List Cell), m ≤ h.length → Exs ((List.range m).map Row.loc) h s h (s ++ h.take m)
  | 0, s, _ => by
    rw [List.take_zero, List.append_nil]
    exact .nil
  | m + 1, s, hm => by
    rw [List.range_succ, List.map_append]
    have hg : h[m]? = some h[m] := List.getElem?_eq_getElem (by omega)
    have e : s ++ h.take (m + 1) = s ++ h.take m ++ [h[m]] := by
      rw [List.take_succ, hg, List.append_assoc]
      rfl
    rw [e]
    exact (locs_exs h m s (by omega)).app (.one (.loc hg))
/-- what stands at these places -/
theorem picks_exs (h : List Cell) : ∀ (ks : List Nat) (cs s : List Cell), ks.map (fun k => h[k]?) = cs.map some → Exs (ks.map Row.loc) h s h (s ++ cs)
  | [], [], s, _ => by
    rw [List.append_nil]
    exact .nil
  | [], _ :: _, s, e => by cases e
  | _ :: _, [], s, e => by cases e
  | k :: ks, c :: cs, s, e => by
    rw [List.map_cons, List.map_cons] at e
    injection e with e1 e2
    have := picks_exs h ks cs (s ++ [c]) e2
    rw [List.append_assoc] at this
    exact .cons (.loc e1) this

/-! ### in the heap -/
def LR (K : PySem.W.Frag) (H : Hp) (a : Addr) (rs : List Row) : Prop := ∃ vs, H a = some (.lst vs) ∧ TdAll K H vs (rs.map Row.d)
theorem LR.chg {K : PySem.W.Frag} {L : List Addr} {H H' : Hp} {a : Addr} {rs : List Row} (h : LR K H a rs) (g : Chg L H H') (ha : a ∉ L) : LR K H' a rs := by
  obtain ⟨vs, h1, h2⟩ := h
  exact ⟨vs, g.get ha h1, h2.keep g.kt⟩
theorem le_sz {n : Nat} (h : n ≤ 1000000) : n ≤ sizeLine := by
  rw [sizeLine_eq]
  omega
theorem lt_sz {n : Nat} (h : n ≤ 1000000) : n < sizeLine := by
  rw [sizeLine_eq]
  omega
section
variable {K : PySem.W.Frag} {H : Hp} {Q : VK}
/-- a tuple that is laid -/
theorem tupI {xs : List V} {ds : List PyData} (h : TdAll K H xs ds) (q : ∀ v H', Chg [] H H' → Td K H' v (.tuple ds) → Q v H') : ∀ l, H l = none → Q (.ref l) (upd H l (.tup xs)) := by
  intro l hl
  have c : Chg [] H (upd H l (.tup xs)) := Chg.new hl
  exact q _ _ c (.tup (.inl upd_same) (h.keep c.kt))
theorem rowsI {vs : List V} {rs : List Row} (h : TdAll K H vs (rs.map Row.d)) (q : ∀ p H', H p = none → Chg [] H H' → LR K H' p rs → Q (.ref p) H') : ∀ l, H l = none → Q (.ref l) (upd H l (.lst vs)) := by
  intro l hl
  have c : Chg [] H (upd H l (.lst vs)) := Chg.new hl
  exact q _ _ hl c ⟨vs, upd_same, h.keep c.kt⟩
theorem cellsI {vs : List V} {cs : List Cell} (h : TdAll K H vs (cs.map Cell.d)) (q : ∀ p H', H p = none → Chg [] H H' → LC K H' p cs → Q (.ref p) H') : ∀ l, H l = none → Q (.ref l) (upd H l (.lst vs)) := by
  intro l hl
  have c : Chg [] H (upd H l (.lst vs)) := Chg.new hl
  exact q _ _ hl c ⟨vs, upd_same, h.keep c.kt⟩
theorem catI {a b : Addr} {r1 r2 : List Row} (h1 : LR K H a r1) (h2 : LR K H b r2) (hz : r1.length + r2.length ≤ 1000000) (q : ∀ p H', H p = none → Chg [] H H' → LR K H' p (r1 ++ r2) → Q (.ref p) H') : mAdd (.ref a) (.ref b) H Q := by
  obtain ⟨v1, e1, t1⟩ := h1
  obtain ⟨v2, e2, t2⟩ := h2
  have l1 := t1.length
  have l2 := t2.length
  rw [List.length_map] at l1 l2
  refine ⟨v1, v2, e1, e2, le_sz (by omega), rowsI (rs := r1 ++ r2) ?_ q⟩
  rw [List.map_append]
  exact t1.app t2
theorem catC {a b : Addr} {r1 r2 : List Cell} (h1 : LC K H a r1) (h2 : LC K H b r2) (hz : r1.length + r2.length ≤ 1000000) (q : ∀ p H', H p = none → Chg [] H H' → LC K H' p (r1 ++ r2) → Q (.ref p) H') : mAdd (.ref a) (.ref b) H Q := by
  obtain ⟨v1, e1, t1⟩ := h1
  obtain ⟨v2, e2, t2⟩ := h2
  have l1 := t1.length
  have l2 := t2.length
  rw [List.length_map] at l1 l2
  refine ⟨v1, v2, e1, e2, le_sz (by omega), cellsI (cs := r1 ++ r2) ?_ q⟩
  rw [List.map_append]
  exact t1.app t2
/-- one is put at a list's end -/
theorem LR.push {a : Addr} {rs : List Row} {v : V} {r : Row} {L : List Addr} (h : LR K H a rs) (t : Td K H v r.d) (ha : a ∈ L) : ∃ vs, H a = some (.lst vs) ∧ vs.length = rs.length ∧ Chg L H (upd H a (.lst (vs ++ [v]))) ∧ LR K (upd H a (.lst (vs ++ [v]))) a (rs ++ [r]) := by
  obtain ⟨vs, e, tv⟩ := h
  have l := tv.length
  rw [List.length_map] at l
  have c : Chg L H (upd H a (.lst (vs ++ [v]))) := Chg.lst ha e
  refine ⟨vs, e, l, c, _, upd_same, ?_⟩
  rw [List.map_append]
  exact (tv.keep c.kt).snoc (t.keep c.kt)
theorem LC.push {a : Addr} {rs : List Cell} {v : V} {r : Cell} {L : List Addr} (h : LC K H a rs) (t : Td K H v r.d) (ha : a ∈ L) : ∃ vs, H a = some (.lst vs) ∧ vs.length = rs.length ∧ Chg L H (upd H a (.lst (vs ++ [v]))) ∧ LC K (upd H a (.lst (vs ++ [v]))) a (rs ++ [r]) := by
  obtain ⟨vs, e, tv⟩ := h
  have l := tv.length
  rw [List.length_map] at l
  have c : Chg L H (upd H a (.lst (vs ++ [v]))) := Chg.lst ha e
  refine ⟨vs, e, l, c, _, upd_same, ?_⟩
  rw [List.map_append]
  exact (tv.keep c.kt).snoc (t.keep c.kt)
end
section
variable {X : Cx}
/-- a tuple of data -/
def mTupD (K : PySem.W.Frag) (t : TA) : TE := fun σ H Q => t σ H fun xs H1 => ∃ ds, TdAll K H1 xs ds ∧ xs.length ≤ sizeLine ∧ ∀ v H', Chg [] H1 H' → Td K H' v (.tuple ds) → Q v H'
theorem mtupD {es : List Expr} {t : TA} {x1 : Nat} {pos : Pos} (h : PA X es t) : PE X (.Tuple es x1 pos) (mTupD X.K t) := by
  refine PE.imp ?_ (pe_tup (x1 := x1) (pos := pos) (mono_pa h))
  intro σ H Q h
  refine ⟨_, h, ?_⟩
  rintro xs H1 ⟨ds, td, hl, q⟩
  exact ⟨hl, tupI td q⟩
/-- a list of rows -/
def mLstR (K : PySem.W.Frag) (t : TA) : TE := fun σ H Q => t σ H fun xs H1 => ∃ rs : List Row, TdAll K H1 xs (rs.map Row.d) ∧ xs.length ≤ sizeLine ∧ ∀ p H', H1 p = none → Chg [] H1 H' → LR K H' p rs → Q (.ref p) H'
theorem mlstR {es : List Expr} {t : TA} {pos : Pos} (h : PA X es t) : PE X (.List es pos) (mLstR X.K t) := by
  refine PE.imp ?_ (pe_lst (pos := pos) (mono_pa h))
  intro σ H Q h
  refine ⟨_, h, ?_⟩
  rintro xs H1 ⟨ds, td, hl, q⟩
  exact ⟨hl, rowsI td q⟩
def mLstC (K : PySem.W.Frag) (t : TA) : TE := fun σ H Q => t σ H fun xs H1 => ∃ rs : List Cell, TdAll K H1 xs (rs.map Cell.d) ∧ xs.length ≤ sizeLine ∧ ∀ p H', H1 p = none → Chg [] H1 H' → LC K H' p rs → Q (.ref p) H'
theorem mlstC {es : List Expr} {t : TA} {pos : Pos} (h : PA X es t) : PE X (.List es pos) (mLstC X.K t) := by
  refine PE.imp ?_ (pe_lst (pos := pos) (mono_pa h))
  intro σ H Q h
  refine ⟨_, h, ?_⟩
  rintro xs H1 ⟨ds, td, hl, q⟩
  exact ⟨hl, cellsI td q⟩
def mCatR (K : PySem.W.Frag) : R2 := fun x y H Q => match x, y with
  | .ref a, .ref b => ∃ r1 r2, LR K H a r1 ∧ LR K H b r2 ∧ r1.length + r2.length ≤ 1000000 ∧ ∀ p H', H p = none → Chg [] H H' → LR K H' p (r1 ++ r2) → Q (.ref p) H'
  | _, _ => False
theorem opCatR : OpR X (binaryOp .Add) (mCatR X.K) := by
  refine OpR.imp opAdd ?_
  intro x y H Q h
  cases x <;> cases y <;> first
    | exact h.elim
    | (obtain ⟨r1, r2, h1, h2, h3, h4⟩ := h; exact catI h1 h2 h3 h4)
def mCatC (K : PySem.W.Frag) : R2 := fun x y H Q => match x, y with
  | .ref a, .ref b => ∃ r1 r2, LC K H a r1 ∧ LC K H b r2 ∧ r1.length + r2.length ≤ 1000000 ∧ ∀ p H', H p = none → Chg [] H H' → LC K H' p (r1 ++ r2) → Q (.ref p) H'
  | _, _ => False
theorem opCatC : OpR X (binaryOp .Add) (mCatC X.K) := by
  refine OpR.imp opAdd ?_
  intro x y H Q h
  cases x <;> cases y <;> first
    | exact h.elim
    | (obtain ⟨r1, r2, h1, h2, h3, h4⟩ := h; exact catC h1 h2 h3 h4)
end
end T5
set_option maxHeartbeats 4000000
namespace T5
open PySem PySem.Spec PyProof.Rows L2 T3
abbrev st_law_shape : Stmt := topS 22
theorem sc_law_shape : FnScope ["pool", "link", "end", "wide", "here", "there"] ["pool"] (defScope st_law_shape) := ⟨rfl, rfl, rfl, by decide +kernel, rfl, by decide +kernel, by decide +kernel⟩
abbrev st_law_chain : Stmt := topS 23
theorem sc_law_chain : FnScope ["shape", "row", "cell", "thing", "parts", "k"] ["shape", "row"] (defScope st_law_chain) := ⟨rfl, rfl, rfl, by decide +kernel, rfl, by decide +kernel, by decide +kernel⟩
abbrev st_law_link : Stmt := topS 24
theorem sc_law_link : FnScope ["shape", "thing", "rest", "told", "place"] ["shape", "thing", "rest"] (defScope st_law_link) := ⟨rfl, rfl, rfl, by decide +kernel, rfl, by decide +kernel, by decide +kernel⟩
abbrev st_law_item : Stmt := topS 29
theorem sc_law_item : FnScope ["pool", "numbers", "kind", "parts", "k"] ["pool", "numbers"] (defScope st_law_item) := ⟨rfl, rfl, rfl, by decide +kernel, rfl, by decide +kernel, by decide +kernel⟩
structure Shp where
  link : Nat
  fin : Nat
  wide : Nat
  here : Nat
  there : Nat
  fill : Nat
structure Shp.Ok (S : Shp) : Prop where
  lf : S.link ≠ S.fin
  w : S.wide = 2 ∨ S.wide = 3
  h : S.here < S.wide
  t : S.there < S.wide
  ht : S.here ≠ S.there
def Shp.d (S : Shp) : PyData := .tuple [.int (S.link : Nat), .int (S.fin : Nat), .int (S.wide : Nat), .int (S.here : Nat), .int (S.there : Nat), .int (S.fill : Nat)]
def parts (S : Shp) (thing rest : Cell) : List Cell := ((List.replicate S.wide (Cell.mk (S.fill : Nat) [])).set S.here thing).set S.there rest
def linkC (S : Shp) (thing rest : Cell) : Cell := .mk (S.link : Nat) (parts S thing rest)
def chain (S : Shp) : List Cell → Cell
  | [] => .mk (S.fin : Nat) []
  | t :: ts => linkC S t (chain S ts)
def pieceR (S : Shp) (tr rr : List Row) (place : Nat) : List Row := if place = S.here then tr else if place = S.there then rr else [.make (S.fill : Nat) 0]
def linkR (S : Shp) (tr rr : List Row) : List Row := ((List.range S.wide).map (pieceR S tr rr)).flatten ++ [.make (S.link : Nat) S.wide]
theorem shp_open {K : PySem.W.Frag} {H : Hp} {v : V} {S : Shp} (h : Td K H v S.d) : ∃ a, v = .ref a ∧ Tt K H a [.int (S.link : Nat), .int (S.fin : Nat), .int (S.wide : Nat), .int (S.here : Nat), .int (S.there : Nat), .int (S.fill : Nat)] := by
  obtain ⟨a, xs, rfl, ta, txs⟩ := Td.tuple h
  cases txs with
  | cons t1 t2 =>
    cases t1
    cases t2 with
    | cons t1 t2 =>
      cases t1
      cases t2 with
      | cons t1 t2 =>
        cases t1
        cases t2 with
        | cons t1 t2 =>
          cases t1
          cases t2 with
          | cons t1 t2 =>
            cases t1
            cases t2 with
            | cons t1 t2 =>
              cases t1
              cases t2
              exact ⟨a, rfl, ta⟩
theorem atIk {xs : List V} {v : V} (k : Nat) (h : xs[k]? = some v) : atI xs (k : Int) = some v := atI_nat h
theorem ixN_of {n k : Nat} (h : k < n) : ixN n (k : Int) = some k := by
  unfold ixN
  rw [if_pos (by omega), if_pos (by omega), Int.toNat_natCast]
theorem TdAll.put {K : PySem.W.Frag} {H : Hp} : ∀ {vs : List V} {ds : List PyData} (i : Nat) {x : V} {d : PyData}, TdAll K H vs ds → Td K H x d → TdAll K H (vs.set i x) (ds.set i d)
  | [], _, _, _, _, .nil, _ => .nil
  | _ :: _, _, 0, _, _, .cons _ t, h => .cons h t
  | _ :: _, _, i + 1, _, _, .cons a t, h => .cons a (TdAll.put i t h)
def nv (k : Nat) : V := .int (k : Nat)
theorem pool_ne {H : Hp} {p a : Addr} (h : Pool H p) (e : H a = none) : a ≠ p := by
  rintro rfl
  obtain ⟨_, e2, _⟩ := h
  rw [e] at e2
  cases e2
/-- a change at new places and at L -/
theorem Chg.at2 {H0 H H' : Hp} {L M : List Addr} (h : Chg L H0 H) (g : Chg M H H') (hM : ∀ x ∈ M, x ∈ L ∨ H0 x = none) : Chg L H0 H' := by
  refine ⟨fun a o ha e => g.fr a o (fun z => ?_) (h.fr a o ha e), h.kt.trans g.kt⟩
  rcases hM a z with q | q
  · exact ha q
  · rw [q] at e
    cases e
section
variable {X : Cx}
/-- tuple(a list of rows), tuple(a list of cells) -/
def mTupR (K : PySem.W.Frag) : List V → Hp → VK → Prop := fun xs H Q => match xs with
  | [.ref p] => ∃ rs, LR K H p rs ∧ ∀ v H', Chg [] H H' → Td K H' v (.tuple (rs.map Row.d)) → Q v H'
  | _ => False
theorem callTupR : CallR X (.type "tuple") (mTupR X.K) := by
  refine CallR.imp callTuple ?_
  intro xs H Q h
  match xs, h with
  | [.ref p], ⟨rs, ⟨vs, e, t⟩, q⟩ => exact ⟨vs, SqL.of e, tupI t q⟩
def mTupC (K : PySem.W.Frag) : List V → Hp → VK → Prop := fun xs H Q => match xs with
  | [.ref p] => ∃ rs, LC K H p rs ∧ ∀ v H', Chg [] H H' → Td K H' v (.tuple (rs.map Cell.d)) → Q v H'
  | _ => False
theorem callTupC : CallR X (.type "tuple") (mTupC X.K) := by
  refine CallR.imp callTuple ?_
  intro xs H Q h
  match xs, h with
  | [.ref p], ⟨rs, ⟨vs, e, t⟩, q⟩ => exact ⟨vs, SqL.of e, tupI t q⟩
/-- an empty list -/
def mNil : TE := fun σ H Q => ∀ p H', H p = none → Chg [] H H' → H' p = some (.lst []) → Q (.ref p) H'
theorem mnil {pos : Pos} : PE X (.List [] pos) mNil := by
  refine PE.imp ?_ (pe_lst (pos := pos) pa_nil)
  intro σ H Q q
  exact ⟨Nat.zero_le _, fun p hp => q p _ hp (Chg.new hp) upd_same⟩
def mDNew : TE := fun σ H Q => ∀ p H', H p = none → Chg [] H H' → H' p = some (.dT []) → Q (.ref p) H'
theorem mdnew {pos : Pos} : PE X (.Dict [] [] pos) mDNew := by
  refine PE.imp ?_ (pe_dnewT (pos := pos))
  intro σ H Q q
  exact fun p hp => q p _ hp (Chg.new hp) upd_same
end
section
variable {P : Program} {w : World} {K : PySem.W.Frag} {mg : Str → Option Value} {base : Heap}
def sp_law_shape (K : PySem.W.Frag) : Sp := fun vs H Q _ => match vs with
  | [.ref p] => Pool H p ∧ ∀ v H' (S : Shp), S.Ok → S.link < 300 → S.fin < 300 → S.fill < 300 → Chg [p] H H' → Pool H' p → Td K H' v S.d → Q v H'
  | _ => False
theorem ok_law_shape {f : Addr} {fd : FuncData} (F : Fun K "_law_shape" "_law_shape" st_law_shape f fd) (T : Top K mg) (Claw_take : Cal P w K mg base "_law_take" 1 ["pool", "many"] sp_law_take) : FnOk P w K mg base CX0 2 f fd ["pool"] (sp_law_shape K) := by
  refine F.ok sc_law_shape (fun vs H Q E h => ?_) (fun cdv A outer s H vs Q E hr h => ?_)
  · match vs, h with
    | [.ref p], _ => rfl
  match vs, h with
  | [.ref p], h =>
  obtain ⟨hp, q⟩ := h
  refine ⟨_, (pss_cons (ps_set (i := 1) sc_law_shape.nd rfl (.inl rfl) (pe_cal Claw_take (hr.mono (by decide)) (by rfl) (pa_cons (mv 0) (pa_cons pe_int pa_nil))))
(pss_cons (ps_set (i := 2) sc_law_shape.nd rfl (.inl rfl) (pe_op opMod (pe_callTy callInt (by rfl) T.int (by decide +kernel) (pa_cons (pe_op opAdd (pe_op opAdd (mv 1) pe_int) (pe_cal Claw_take (hr.mono (by decide)) (by rfl) (pa_cons (mv 0) (pa_cons pe_int pa_nil)))) pa_nil)) pe_int))
(pss_cons (ps_set (i := 3) sc_law_shape.nd rfl (.inl rfl) (pe_op opAdd pe_int (pe_cal Claw_take (hr.mono (by decide)) (by rfl) (pa_cons (mv 0) (pa_cons pe_int pa_nil)))))
(pss_cons (ps_set (i := 4) sc_law_shape.nd rfl (.inl rfl) (pe_cal Claw_take (hr.mono (by decide)) (by rfl) (pa_cons (mv 0) (pa_cons (mv 3) pa_nil))))
(pss_cons (ps_set (i := 5) sc_law_shape.nd rfl (.inl rfl) (pe_op opMod (pe_callTy callInt (by rfl) T.int (by decide +kernel) (pa_cons (pe_op opAdd (pe_op opAdd (mv 4) pe_int) (pe_cal Claw_take (hr.mono (by decide)) (by rfl) (pa_cons (mv 0) (pa_cons (pe_op opSub (mv 3) pe_int) pa_nil)))) pa_nil)) (mv 3)))
(pss_one (ps_ret (mtupD (pa_cons (mv 1) (pa_cons (mv 2) (pa_cons (mv 3) (pa_cons (mv 4) (pa_cons (mv 5) (pa_cons (pe_cal Claw_take (hr.mono (by decide)) (by rfl) (pa_cons (mv 0) (pa_cons pe_int pa_nil))) pa_nil))))))))))))))
  , ?_⟩
  refine ⟨hp, 300, rfl, by decide, fun link H1 h1 c1 p1 => ⟨p1, 299, rfl, by decide, fun e H2 h2 c2 p2 => ⟨by decide, p2, 2, rfl, by decide, fun w0 H3 h3 c3 p3 => ⟨p3, 2 + w0, rfl, by omega, fun here H4 h4 c4 p4 => ⟨p4, 1 + w0, ?_, by omega, fun t0 H5 h5 c5 p5 => ?_⟩⟩⟩⟩⟩
  · show (2 : Int) + (w0 : Int) - 1 = ((1 + w0 : Nat) : Int)
    omega
  have ef : ((link : Int) + 1 + (e : Int)) % 300 = (((link + 1 + e) % 300 : Nat) : Int) := by
    rw [Int.natCast_emod]
    rfl
  have et : ((here : Int) + 1 + (t0 : Int)) % (2 + (w0 : Int)) = (((here + 1 + t0) % (2 + w0) : Nat) : Int) := by
    rw [Int.natCast_emod]
    rfl
  refine ⟨by omega, p5, 3, rfl, by decide, fun fill H6 h6 c6 p6 => ⟨_, .cons (.int _) (.cons (.int _) (.cons (.int _) (.cons (.int _) (.cons (.int _) (.cons (.int _) .nil))))), le_sz (Nat.le_of_ble_eq_true rfl), fun v H7 c7 t7 => ?_⟩⟩
  rw [ef, et] at t7
  refine q v H7 ⟨link, (link + 1 + e) % 300, 2 + w0, here, (here + 1 + t0) % (2 + w0), fill⟩ ⟨?_, ?_, h4, Nat.mod_lt _ (by omega), ?_⟩ h1 (Nat.mod_lt _ (by decide)) (by show fill < 300; omega) ((c1.trans (c2.trans (c3.trans (c4.trans (c5.trans c6))))).trans (c7.mono (by simp))) (p6.chg c7 (by simp)) t7
  · show link ≠ (link + 1 + e) % 300
    omega
  · show 2 + w0 = 2 ∨ 2 + w0 = 3
    omega
  · show here ≠ (here + 1 + t0) % (2 + w0)
    have : w0 = 0 ∨ w0 = 1 := by omega
    rcases this with rfl | rfl <;> omega
def sp_law_chain (K : PySem.W.Frag) : Sp := fun vs H Q _ => match vs with
  | [v, .ref r] => ∃ (S : Shp) (cs : List Cell), S.Ok ∧ Td K H v S.d ∧ LC K H r cs ∧ cs.length ≤ 1000 ∧ ∀ v H', Chg [] H H' → Td K H' v (chain S cs).d → Q v H'
  | _ => False
theorem ok_law_chain {f : Addr} {fd : FuncData} (F : Fun K "_law_chain" "_law_chain" st_law_chain f fd) (T : Top K mg) : FnOk P w K mg base CX0 1 f fd ["shape", "row"] (sp_law_chain K) := by
  refine F.ok sc_law_chain (fun vs H Q E h => ?_) (fun cdv A outer s H vs Q E hr h => ?_)
  · match vs, h with
    | [v, .ref r], _ => rfl
  match vs, h with
  | [v, .ref r], h =>
  obtain ⟨S, cs, ok, ts, ⟨vs, er, tv⟩, hz, q⟩ := h
  obtain ⟨sa, rfl, ta⟩ := shp_open ts
  refine ⟨_, (pss_cons (ps_set (i := 2) sc_law_chain.nd rfl (.inl rfl) (mtupD (pa_cons (pe_ix ixM (mv 0) pe_int (fun _ _ => rfl)) (pa_cons (mtupD pa_nil) pa_nil))))
(pss_cons (mforL PassesOwn.never rfl (mrev (mv 1)) (pg_name (i := 3) sc_law_chain.nd rfl (.inl rfl))
(pss_cons (msetLcR (i := 4) rfl rfl (sw_true rfl rfl rfl (by decide +kernel)) (own := [("k", 5)]) (g := (gName 5)) (el := (mTupD K (tCons (tOp (mIx K) (mVar 0) (tC (.int 5))) (tCons (mTupD K tNil) tNil)))) (by rfl) sc_law_chain.nd (by rfl) T.range (pe_ix ixM (mv 0) pe_int (fun _ _ => rfl)) (blkOk_by (own := [("k", 5)]) (N := ["shape", "row", "cell", "thing", "parts", "k"]) (sc := defScope st_law_chain) (by decide +kernel)) (fun _ _ _ _ _ => (pg_name (i := 5) sc_law_chain.nd rfl (.inl rfl))) (fun _ _ _ _ _ => (mtupD (pa_cons (pe_ix ixM (mv 0) pe_int (fun _ _ => rfl)) (pa_cons (mtupD pa_nil) pa_nil)))))
(pss_cons (ps_asg (mv 3) (pg_sub (mv 4) (pe_ix ixM (mv 0) pe_int (fun _ _ => rfl)) setM))
(pss_cons (ps_asg (mv 2) (pg_sub (mv 4) (pe_ix ixM (mv 0) pe_int (fun _ _ => rfl)) setM))
(pss_one (ps_set (i := 2) sc_law_chain.nd rfl (.inl rfl) (mtupD (pa_cons (pe_ix ixM (mv 0) pe_int (fun _ _ => rfl)) (pa_cons (pe_callTy callTuple (by rfl) T.tuple (by decide +kernel) (pa_cons (mv 4) pa_nil)) pa_nil)))))))))
(pss_one (ps_ret (mv 2)))))
  , ?_⟩
  refine ⟨_, .inr ta.sq, _, atIk 1 rfl, _, .nil, le_sz (Nat.le_of_ble_eq_true rfl), fun v1 H1 c1 t1 => ⟨_, .cons (.int _) (.cons t1 .nil), le_sz (Nat.le_of_ble_eq_true rfl), fun v2 H2 c2 t2 => ?_⟩⟩
  have c12 := c1.trans c2
  have tb : Td K H2 v2 (chain S []).d := by
    rw [chain, Cell.d, Cell.ds]
    exact t2
  refine ⟨vs, SqL.of (c12.get (by simp) er), fun l hl => ?_⟩
  have c3 : Chg [] H2 (upd H2 l (.lst vs.reverse)) := Chg.new hl
  have e3 : upd H2 l (.lst vs.reverse) l = some (.lst vs.reverse) := upd_same
  have tv3 := (tv.keep (c12.trans c3).kt).rev
  rw [← List.map_reverse] at tv3
  have tb3 := tb.keep c3.kt
  have c13 := c12.trans c3
  generalize upd H2 l (.lst vs.reverse) = H3 at *
  have lv := tv3.length
  rw [List.length_map, List.length_reverse, List.length_reverse] at lv
  refine ⟨_, SqL.of e3, fun i σ H4 => ∃ (cv : V) (th pt kq : Option V), σ = [some (.ref sa), some (.ref r), some cv, th, pt, kq] ∧ Chg [] H3 H4 ∧ Td K H4 cv (chain S (cs.reverse.take i).reverse).d, ⟨_, _, _, _, rfl, Chg.refl _ _, tb3⟩, ?_, ?_, ?_⟩
  · rintro i σ H4 _ ⟨cv, th, pt, kq, rfl, c, _⟩
    exact SqL.of (c.get (by simp) e3)
  · rintro i x σ H4 hx ⟨cv, th, pt, kq, rfl, c4, tc⟩
    obtain ⟨xd, hxd, tx⟩ := tv3.getV hx
    rw [List.getElem?_map] at hxd
    obtain ⟨xc, hxc, rfl⟩ := Option.map_eq_some_iff.mp hxd
    have ta4 := (ta.keep c13.kt).keep c4.kt
    have tx4 := tx.keep c4.kt
    have hw : S.wide ≤ 3 := by rcases ok.w with z | z <;> omega
    refine ⟨_, .inr ta4.sq, _, atIk 2 rfl, ⟨by omega, by omega⟩, fun D hD => ⟨fun j H5 => ∃ vs, H5 D = some (.lst vs) ∧ TdAll K H5 vs ((List.replicate j (Cell.mk (S.fill : Nat) [])).map Cell.d) ∧ Chg [] H4 H5, ⟨[], upd_same, .nil, Chg.new hD⟩, ?_, ?_⟩⟩
    · rintro j H5 hj ⟨ws, ew, tw, c5⟩
      refine ⟨rfl, _, .inr (ta4.keep c5.kt).sq, _, atIk 5 rfl, _, .nil, le_sz (Nat.le_of_ble_eq_true rfl), fun v6 H6 c6 t6 => ⟨_, .cons (.int _) (.cons t6 .nil), le_sz (Nat.le_of_ble_eq_true rfl), fun v7 H7 c7 t7 => ?_⟩⟩
      have lw := tw.length
      rw [List.length_map, List.length_replicate] at lw
      have c67 := c6.trans c7
      have ew7 := c67.get (by simp) ew
      have cl : Chg [D] H7 (upd H7 D (.lst (ws ++ [v7]))) := Chg.lst (by simp) ew7
      refine ⟨ws, ew7, lt_sz (by omega), ws ++ [v7], upd_same, ?_, (c5.trans c67).fresh cl (fun x hx => by rw [List.mem_singleton.mp hx]; exact hD)⟩
      rw [List.replicate_succ', List.map_append]
      refine TdAll.snoc (tw.keep (c67.trans (L := []) (Chg.refl _ _)).kt |>.keep cl.kt) ?_
      have : Td K H7 v7 (Cell.mk (S.fill : Nat) []).d := by
        rw [Cell.d, Cell.ds]
        exact t7
      exact this.keep cl.kt
    · rintro H5 ⟨ws, ew, tw, c5⟩
      have ej : ((S.wide : Nat) : Int).toNat = S.wide := rfl
      rw [ej] at tw
      have lw := tw.length
      rw [List.length_map, List.length_replicate] at lw
      have ta5 := ta4.keep c5.kt
      have c6 : Chg [D] H5 (upd H5 D (.lst (ws.set S.here x))) := Chg.lst (by simp) ew
      refine ⟨_, .inr ta5.sq, _, atIk 3 rfl, ws, S.here, ew, ixN_of (by rw [lw]; exact ok.h), ?_⟩
      have ew6 : upd H5 D (.lst (ws.set S.here x)) D = some (.lst (ws.set S.here x)) := upd_same
      have c7 : Chg [D] (upd H5 D (.lst (ws.set S.here x))) (upd (upd H5 D (.lst (ws.set S.here x))) D (.lst ((ws.set S.here x).set S.there cv))) := Chg.lst (by simp) ew6
      refine ⟨_, .inr (ta5.keep c6.kt).sq, _, atIk 4 rfl, _, S.there, ew6, ixN_of (by rw [List.length_set, lw]; exact ok.t), ?_⟩
      have ew7 : upd (upd H5 D (.lst (ws.set S.here x))) D (.lst ((ws.set S.here x).set S.there cv)) D = some (.lst ((ws.set S.here x).set S.there cv)) := upd_same
      have c57 : Chg [] H4 (upd (upd H5 D (.lst (ws.set S.here x))) D (.lst ((ws.set S.here x).set S.there cv))) := c5.fresh (c6.trans c7) (fun y hy => by rw [List.mem_singleton.mp hy]; exact hD)
      have tw7 : TdAll K (upd (upd H5 D (.lst (ws.set S.here x))) D (.lst ((ws.set S.here x).set S.there cv))) ((ws.set S.here x).set S.there cv) ((parts S xc (chain S (cs.reverse.take i).reverse)).map Cell.d) := by
        unfold parts
        rw [List.map_set, List.map_set]
        exact ((tw.keep (c6.trans c7).kt).put _ (tx4.keep c57.kt)).put _ (tc.keep c57.kt)
      generalize upd (upd H5 D (.lst (ws.set S.here x))) D (.lst ((ws.set S.here x).set S.there cv)) = H7 at *
      refine ⟨_, .inr (ta4.keep c57.kt).sq, _, atIk 0 rfl, _, SqL.of ew7, fun l8 h8 => ?_⟩
      have c8 : Chg [] H7 (upd H7 l8 (.tup ((ws.set S.here x).set S.there cv))) := Chg.new h8
      have t8 : Td K (upd H7 l8 (.tup ((ws.set S.here x).set S.there cv))) (.ref l8) (.tuple ((parts S xc (chain S (cs.reverse.take i).reverse)).map Cell.d)) := .tup (.inl upd_same) (tw7.keep c8.kt)
      generalize upd H7 l8 (.tup ((ws.set S.here x).set S.there cv)) = H8 at *
      refine ⟨_, .cons (.int _) (.cons t8 .nil), le_sz (Nat.le_of_ble_eq_true rfl), fun v9 H9 c9 t9 => ⟨_, _, _, _, rfl, c4.trans (c57.trans (c8.trans c9)), ?_⟩⟩
      rw [List.take_succ, hxc]
      simp only [Option.toList_some, List.reverse_append, List.reverse_singleton, List.singleton_append]
      rw [chain, linkC, Cell.d, Cell.ds_map]
      exact t9
  · rintro σ H4 ⟨cv, th, pt, kq, rfl, c4, tc⟩
    have el : vs.reverse.length = cs.reverse.length := by rw [List.length_reverse, List.length_reverse]; exact lv
    rw [el, List.take_length, List.reverse_reverse] at tc
    exact q cv H4 (c13.trans c4) tc
def sp_law_link (K : PySem.W.Frag) : Sp := fun vs H Q _ => match vs with
  | [v, .ref a, .ref b] => ∃ (S : Shp) (tr rr : List Row), S.Ok ∧ Td K H v S.d ∧ LR K H a tr ∧ LR K H b rr ∧ tr.length ≤ 100 ∧ rr.length ≤ 1000 ∧ ∀ p H', Chg [] H H' → H p = none → LR K H' p (linkR S tr rr) → Q (.ref p) H'
  | _ => False
theorem link_len (S : Shp) (tr rr : List Row) (h1 : tr.length ≤ 100) (h2 : rr.length ≤ 1000) : ∀ i, (((List.range i).map (pieceR S tr rr)).flatten).length ≤ 1101 * i
  | 0 => by simp
  | i + 1 => by
    have ih := link_len S tr rr h1 h2 i
    rw [List.range_succ, List.map_append, List.flatten_append, List.length_append]
    have : (([i].map (pieceR S tr rr)).flatten).length ≤ 1101 := by
      simp only [List.map_cons, List.map_nil, List.flatten_cons, List.flatten_nil, List.append_nil]
      unfold pieceR
      split
      · omega
      · split
        · omega
        · simp
    omega
theorem ok_law_link {f : Addr} {fd : FuncData} (F : Fun K "_law_link" "_law_link" st_law_link f fd) (T : Top K mg) : FnOk P w K mg base CX0 1 f fd ["shape", "thing", "rest"] (sp_law_link K) := by
  refine F.ok sc_law_link (fun vs H Q E h => ?_) (fun cdv A outer s H vs Q E hr h => ?_)
  · match vs, h with
    | [v, .ref a, .ref b], _ => rfl
  match vs, h with
  | [v, .ref a, .ref b], h =>
  obtain ⟨S, tr, rr, ok, ts, la, lb, h1, h2, q⟩ := h
  obtain ⟨sa, rfl, ta⟩ := shp_open ts
  have hw : S.wide ≤ 3 := by rcases ok.w with z | z <;> omega
  refine ⟨_, (pss_cons (ps_set (i := 3) sc_law_link.nd rfl (.inl rfl) (mlstR pa_nil))
(pss_cons (mforR PassesOwn.never rfl (by rfl) T.range (pe_ix ixM (mv 0) pe_int (fun _ _ => rfl)) (pg_name (i := 4) sc_law_link.nd rfl (.inl rfl))
(pss_one (mif (mcmp opEq (mv 4) (pe_ix ixM (mv 0) pe_int (fun _ _ => rfl)))
(pss_one (ps_set (i := 3) sc_law_link.nd rfl (.inl rfl) (pe_op opCatR (mv 3) (mv 1))))
(pss_one (mif (mcmp opEq (mv 4) (pe_ix ixM (mv 0) pe_int (fun _ _ => rfl)))
(pss_one (ps_set (i := 3) sc_law_link.nd rfl (.inl rfl) (pe_op opCatR (mv 3) (mv 2))))
(pss_one (ps_set (i := 3) sc_law_link.nd rfl (.inl rfl) (pe_op opCatR (mv 3) (mlstR (pa_cons (mtupD (pa_cons pe_str (pa_cons (pe_ix ixM (mv 0) pe_int (fun _ _ => rfl)) (pa_cons pe_int pa_nil)))) pa_nil))))))))))
(pss_one (ps_ret (pe_op opCatR (mv 3) (mlstR (pa_cons (mtupD (pa_cons pe_str (pa_cons (pe_ix ixM (mv 0) pe_int (fun _ _ => rfl)) (pa_cons (pe_ix ixM (mv 0) pe_int (fun _ _ => rfl)) pa_nil)))) pa_nil)))))))
  , ?_⟩
  refine ⟨[], .nil, le_sz (Nat.le_of_ble_eq_true rfl), fun t H1 ht c1 lt => ⟨_, .inr (ta.keep c1.kt).sq, _, atIk 2 rfl, ⟨by omega, by omega⟩, fun i σ H2 => ∃ (t' : Addr) (pl : Option V), σ = [some (.ref sa), some (.ref a), some (.ref b), some (.ref t'), pl] ∧ LR K H2 t' (((List.range i).map (pieceR S tr rr)).flatten) ∧ Chg [] H H2 ∧ H t' = none, ?_, ?_, ?_⟩⟩
  · exact ⟨t, _, rfl, lt, c1, ht⟩
  · rintro i σ H2 hi ⟨t', pl, rfl, lt', c2, ht'⟩
    have hi' : i < S.wide := by omega
    have ta2 := ta.keep c2.kt
    have hl := link_len S tr rr h1 h2 i
    have fin : ∀ (pc : List Row), pc = pieceR S tr rr i → ((List.range i).map (pieceR S tr rr)).flatten ++ pc = ((List.range (i + 1)).map (pieceR S tr rr)).flatten := by
      intro pc e
      rw [e, List.range_succ, List.map_append, List.flatten_append]
      simp
    refine ⟨_, .inr ta2.sq, _, atIk 3 rfl, fun hb => ?_, fun hb => ⟨_, .inr ta2.sq, _, atIk 4 rfl, fun hb2 => ?_, fun hb2 => ?_⟩⟩
    · have e : i = S.here := by have := of_decide_eq_true hb; omega
      refine ⟨_, _, lt', la.chg c2 (by simp), by omega, fun p H3 hp c3 lp => ⟨p, _, rfl, ?_, c2.trans c3, c2.old hp⟩⟩
      rw [fin tr (by unfold pieceR; rw [if_pos e])] at lp
      exact lp
    · have n : ¬ i = S.here := by have := of_decide_eq_false hb; omega
      have e : i = S.there := by have := of_decide_eq_true hb2; omega
      refine ⟨_, _, lt', lb.chg c2 (by simp), by omega, fun p H3 hp c3 lp => ⟨p, _, rfl, ?_, c2.trans c3, c2.old hp⟩⟩
      rw [fin rr (by unfold pieceR; rw [if_neg n, if_pos e])] at lp
      exact lp
    · have n : ¬ i = S.here := by have := of_decide_eq_false hb; omega
      have n2 : ¬ i = S.there := by have := of_decide_eq_false hb2; omega
      refine ⟨_, .inr ta2.sq, _, atIk 5 rfl, _, .cons (.str _) (.cons (.int _) (.cons (.int _) .nil)), le_sz (Nat.le_of_ble_eq_true rfl), fun v4 H4 c4 t4 => ⟨[.make (S.fill : Nat) 0], .cons t4 .nil, le_sz (Nat.le_of_ble_eq_true rfl), fun l5 H5 h5 c5 lr5 => ⟨_, _, (lt'.chg c4 (by simp)).chg c5 (by simp), lr5, by simp only [List.length_cons, List.length_nil]; omega, fun p H3 hp c3 lp => ⟨p, _, rfl, ?_, c2.trans (c4.trans (c5.trans c3)), (c2.trans (c4.trans c5)).old hp⟩⟩⟩⟩
      rw [fin [.make (S.fill : Nat) 0] (by unfold pieceR; rw [if_neg n, if_neg n2])] at lp
      exact lp
  · rintro σ H2 ⟨t', pl, rfl, lt', c2, ht'⟩
    have lt' : LR K H2 t' (((List.range S.wide).map (pieceR S tr rr)).flatten) := lt'
    have ta2 := ta.keep c2.kt
    have hl := link_len S tr rr h1 h2 S.wide
    refine ⟨_, .inr ta2.sq, _, atIk 0 rfl, _, .inr ta2.sq, _, atIk 2 rfl, _, .cons (.str _) (.cons (.int _) (.cons (.int _) .nil)), le_sz (Nat.le_of_ble_eq_true rfl), fun v4 H4 c4 t4 => ⟨[.make (S.link : Nat) S.wide], .cons t4 .nil, le_sz (Nat.le_of_ble_eq_true rfl), fun l5 H5 h5 c5 lr5 => ⟨_, _, (lt'.chg c4 (by simp)).chg c5 (by simp), lr5, by simp only [List.length_cons, List.length_nil]; omega, fun p H3 hp c3 lp => q p H3 (c2.trans (c4.trans (c5.trans c3))) ((c2.trans (c4.trans c5)).old hp) lp⟩⟩⟩

def Item (ns : List Nat) (c : Cell) : Prop := ∃ (kind m : Nat) (ps : List Cell), kind < 3 ∧ ns[kind]? = some m ∧ c = .mk (m : Nat) ps ∧ ps.length = kind ∧ ∀ x ∈ ps, x.size = 1
def sp_law_item (K : PySem.W.Frag) : Sp := fun vs H Q _ => match vs with
  | [.ref p, .ref n] => Pool H p ∧ p ≠ n ∧ ∃ ns : List Nat, H n = some (.lst (ns.map nv)) ∧ 3 ≤ ns.length ∧ ∀ v H' c, Chg [p] H H' → Pool H' p → Td K H' v c.d → Item ns c → Q v H'
  | _ => False
theorem ok_law_item {f : Addr} {fd : FuncData} (F : Fun K "_law_item" "_law_item" st_law_item f fd) (T : Top K mg) (Claw_take : Cal P w K mg base "_law_take" 1 ["pool", "many"] sp_law_take) : FnOk P w K mg base CX0 2 f fd ["pool", "numbers"] (sp_law_item K) := by
  refine F.ok sc_law_item (fun vs H Q E h => ?_) (fun cdv A outer s H vs Q E hr h => ?_)
  · match vs, h with
    | [.ref p, .ref n], _ => rfl
  match vs, h with
  | [.ref p, .ref n], h =>
  obtain ⟨hp, npn, ns, en, hl, q⟩ := h
  refine ⟨_, (pss_cons (ps_set (i := 2) sc_law_item.nd rfl (.inl rfl) (pe_cal Claw_take (hr.mono (by decide)) (by rfl) (pa_cons (mv 0) (pa_cons pe_int pa_nil))))
(pss_cons (ps_set (i := 3) sc_law_item.nd rfl (.inl rfl) (mlstC pa_nil))
(pss_cons (mforR PassesOwn.never rfl (by rfl) T.range (mv 2) (pg_name (i := 4) sc_law_item.nd rfl (.inl rfl))
(pss_one (mapp (mv 3) (mtupD (pa_cons (pe_cal Claw_take (hr.mono (by decide)) (by rfl) (pa_cons (mv 0) (pa_cons pe_int pa_nil))) (pa_cons (mtupD pa_nil) pa_nil))))))
(pss_one (ps_ret (mtupD (pa_cons (pe_ix ixM (mv 1) (mv 2) (fun _ _ => rfl)) (pa_cons (pe_callTy callTupC (by rfl) T.tuple (by decide +kernel) (pa_cons (mv 3) pa_nil)) pa_nil))))))))
  , ?_⟩
  refine ⟨hp, 3, rfl, by decide, fun kind H1 hk c1 p1 => ⟨[], .nil, le_sz (Nat.le_of_ble_eq_true rfl), fun t H2 ht c2 lt => ⟨⟨by omega, by omega⟩, fun i σ H3 => ∃ (k : Option V) (ps : List Cell), σ = [some (.ref p), some (.ref n), some (.int (kind : Nat)), some (.ref t), k] ∧ LC K H3 t ps ∧ ps.length = i ∧ (∀ x ∈ ps, x.size = 1) ∧ Chg [p] H1 H3 ∧ Pool H3 p, ?_, ?_, ?_⟩⟩⟩
  · exact ⟨_, [], rfl, lt, rfl, (fun x hx => nomatch hx), c2.mono (by simp), p1.chg c2 (by simp)⟩
  · rintro i σ H3 hi ⟨k, ps, rfl, lt3, hl3, hs, c3, p3⟩
    have ntp : t ≠ p := pool_ne p1 ht
    obtain ⟨_, et, _⟩ := id lt3
    refine ⟨⟨_, et⟩, p3, 2, rfl, by decide, fun r H4 hr4 c4 p4 => ⟨_, .nil, le_sz (Nat.le_of_ble_eq_true rfl), fun v5 H5 c5 t5 => ⟨_, .cons (.int _) (.cons t5 .nil), le_sz (Nat.le_of_ble_eq_true rfl), fun v6 H6 c6 t6 => ?_⟩⟩⟩
    have t6' : Td K H6 v6 (Cell.mk (r : Nat) []).d := by
      rw [Cell.d, Cell.ds]
      exact t6
    have c56 := c5.trans c6
    obtain ⟨ws, ew, lw, cw, lcw⟩ := ((lt3.chg c4 (by simp [ntp])).chg c56 (by simp)).push (L := [t]) t6' (by simp)
    refine ⟨ws, ew, lt_sz (by omega), _, ps ++ [.mk (r : Nat) []], rfl, lcw, by rw [List.length_append, hl3]; rfl, fun x hx => ?_, ((c3.trans c4).trans (c56.mono (by simp))).at2 cw (fun x hx => .inr (by rw [List.mem_singleton.mp hx]; exact ht)), (p4.chg c56 (by simp)).chg cw (by simp [Ne.symm ntp])⟩
    rcases List.mem_append.mp hx with hx | hx
    · exact hs x hx
    · rw [List.mem_singleton.mp hx, Cell.size, Cell.sizes]
  · rintro σ H3 ⟨k, ps, rfl, lt3, hl3, hs, c3, p3⟩
    have c03 := c1.trans c3
    have en3 := c03.get (by simp [Ne.symm npn]) en
    obtain ⟨m, hm⟩ : ∃ m, ns[kind]? = some m := ⟨_, List.getElem?_eq_getElem (by omega)⟩
    refine ⟨_, .inl (SqL.of en3), _, atIk kind (v := .int (m : Nat)) (by rw [List.getElem?_map, hm]; rfl), _, lt3, fun v4 H4 c4 t4 => ⟨_, .cons (.int _) (.cons t4 .nil), le_sz (Nat.le_of_ble_eq_true rfl), fun v5 H5 c5 t5 => ?_⟩⟩
    refine q v5 H5 (.mk (m : Nat) ps) (c03.trans ((c4.trans c5).mono (by simp))) (p3.chg (c4.trans c5) (by simp)) ?_ ⟨kind, m, ps, hk, hm, rfl, by omega, hs⟩
    rw [Cell.d, Cell.ds_map]
    exact t5
end
end T5
set_option maxHeartbeats 8000000
namespace T5
open PySem PySem.Spec PyProof.Rows L2 T3
abbrev st_law_round : Stmt := topS 25
theorem sc_law_round : FnScope ["shape", "places", "act", "numbers", "idle", "last", "item", "gathered", "codes", "told"] ["shape", "places", "act", "numbers", "idle", "last"] (defScope st_law_round) := ⟨rfl, rfl, rfl, by decide +kernel, rfl, by decide +kernel, by decide +kernel⟩
def Perm3 (p0 p1 p2 : Nat) : Prop := (p0, p1, p2) ∈ [(0, 1, 2), (0, 2, 1), (1, 0, 2), (1, 2, 0), (2, 0, 1), (2, 1, 0)]
def gatherR (S : Shp) (p1 p2 n3 last : Nat) : Nat → List Row
  | 1 => linkR S [.loc 3] [.loc p1]
  | 2 => linkR S ([.loc 3] ++ [.make (n3 : Nat) 1]) [.loc p1]
  | 3 => linkR S [.loc 3] (linkR S [.loc 3] [.loc p1])
  | 4 => linkR S ([.loc 3] ++ [.loc p2, .same]) [.loc p1]
  | 5 => linkR S ([.loc 3] ++ [.part 0]) [.loc p1]
  | 6 => linkR S ([.loc 3] ++ [.part last]) [.loc p1]
  | _ => [.loc p1]
def codeR (S : Shp) (p0 p1 p2 : Nat) (g : List Row) (k : Nat) : List Row := if k = p0 then [.loc p0, .part S.there] else if k = p1 then g else [.loc p2]
def roundR (S : Shp) (p0 p1 p2 a n3 idle last : Nat) : List Row :=
  if a = 7 then [.go 9] else codeR S p0 p1 p2 (gatherR S p1 p2 n3 last a) 2 ++ codeR S p0 p1 p2 (gatherR S p1 p2 n3 last a) 1 ++ codeR S p0 p1 p2 (gatherR S p1 p2 n3 last a) 0 ++ [.forget (4 + idle)] ++ [.keep, .keep, .keep, .go 1]
theorem link_le (S : Shp) (tr rr : List Row) (m : Nat) (h1 : tr.length ≤ m) (h2 : rr.length ≤ m) (h3 : 1 ≤ m) : ∀ i, (((List.range i).map (pieceR S tr rr)).flatten).length ≤ m * i
  | 0 => by simp
  | i + 1 => by
    have ih := link_le S tr rr m h1 h2 h3 i
    rw [List.range_succ, List.map_append, List.flatten_append, List.length_append]
    have : (([i].map (pieceR S tr rr)).flatten).length ≤ m := by
      simp only [List.map_cons, List.map_nil, List.flatten_cons, List.flatten_nil, List.append_nil]
      unfold pieceR
      split
      · omega
      · split
        · omega
        · simpa using h3
    rw [Nat.mul_succ]
    omega
theorem linkR_le (S : Shp) (ok : S.Ok) (tr rr : List Row) (m : Nat) (h1 : tr.length ≤ m) (h2 : rr.length ≤ m) (h3 : 1 ≤ m) : (linkR S tr rr).length ≤ 3 * m + 1 := by
  have h := link_le S tr rr m h1 h2 h3 S.wide
  have hw : S.wide ≤ 3 := by rcases ok.w with z | z <;> omega
  have h4 : m * S.wide ≤ m * 3 := Nat.mul_le_mul_left _ hw
  unfold linkR
  rw [List.length_append, List.length_singleton]
  omega
theorem gather_le (S : Shp) (ok : S.Ok) (p1 p2 n3 last a : Nat) : (gatherR S p1 p2 n3 last a).length ≤ 13 := by
  unfold gatherR
  split
  · have := linkR_le S ok [.loc 3] [.loc p1] 1 (Nat.le_refl _) (Nat.le_refl _) (Nat.le_refl _); omega
  · have := linkR_le S ok ([.loc 3] ++ [.make (n3 : Nat) 1]) [.loc p1] 2 (by simp) (by simp) (by decide); omega
  · have h := linkR_le S ok [.loc 3] [.loc p1] 1 (Nat.le_refl _) (Nat.le_refl _) (Nat.le_refl _)
    have := linkR_le S ok [.loc 3] (linkR S [.loc 3] [.loc p1]) 4 (by simp) h (by decide); omega
  · have := linkR_le S ok ([.loc 3] ++ [.loc p2, .same]) [.loc p1] 3 (by simp) (by simp) (by decide); omega
  · have := linkR_le S ok ([.loc 3] ++ [.part 0]) [.loc p1] 2 (by simp) (by simp) (by decide); omega
  · have := linkR_le S ok ([.loc 3] ++ [.part last]) [.loc p1] 2 (by simp) (by simp) (by decide); omega
  · simp
section
variable {P : Program} {w : World} {K : PySem.W.Frag} {mg : Str → Option Value} {base : Heap}
def sp_law_round (K : PySem.W.Frag) : Sp := fun vs H Q _ => match vs with
  | [v, .ref pl, .int act, .ref nu, .int idl, .int la] => ∃ (S : Shp) (p0 p1 p2 a idle last n3 : Nat) (ns : List Nat), S.Ok ∧ Td K H v S.d ∧ Tt K H pl [.int (p0 : Nat), .int (p1 : Nat), .int (p2 : Nat)] ∧ Perm3 p0 p1 p2 ∧ act = a ∧ a ≤ 7 ∧ idl = idle ∧ la = last ∧
      H nu = some (.lst (ns.map nv)) ∧ ns[3]? = some n3 ∧ ∀ p H', Chg [] H H' → H p = none → LR K H' p (roundR S p0 p1 p2 a n3 idle last) → Q (.ref p) H'
  | _ => False
theorem ok_law_round {f : Addr} {fd : FuncData} (F : Fun K "_law_round" "_law_round" st_law_round f fd) (T : Top K mg) (Claw_link : Cal P w K mg base "_law_link" 1 ["shape", "thing", "rest"] (sp_law_link K)) :
    FnOk P w K mg base CX0 2 f fd ["shape", "places", "act", "numbers", "idle", "last"] (sp_law_round K) := by
  refine F.ok sc_law_round (fun vs H Q E h => ?_) (fun cdv A outer s H vs Q E hr h => ?_)
  · match vs, h with
    | [v, .ref pl, .int act, .ref nu, .int idl, .int la], _ => rfl
  match vs, h with
  | [v, .ref pl, .int act, .ref nu, .int idl, .int la], h =>
  obtain ⟨S, p0, p1, p2, a, idle, last, n3, ns, ok, ts, tp, perm, rfl, ha, rfl, rfl, en, hn3, q⟩ := h
  obtain ⟨sa, rfl, ta⟩ := shp_open ts
  have hns : atI (ns.map nv) 3 = some (.int (n3 : Nat)) := atIk 3 (by rw [List.getElem?_map, hn3]; rfl)
  refine ⟨_, (pss_cons (mif (mcmp opEq (mv 2) pe_int)
(pss_one (ps_ret (mlstR (pa_cons (mtupD (pa_cons pe_str (pa_cons pe_int pa_nil))) pa_nil))))
pss_nil)
(pss_cons (ps_set (i := 6) sc_law_round.nd rfl (.inl rfl) (mlstR (pa_cons (mtupD (pa_cons pe_str (pa_cons pe_int pa_nil))) pa_nil)))
(pss_cons (ps_set (i := 7) sc_law_round.nd rfl (.inl rfl) (mlstR (pa_cons (mtupD (pa_cons pe_str (pa_cons (pe_ix ixM (mv 1) pe_int (fun _ _ => rfl)) pa_nil))) pa_nil)))
(mcut (mif (mcmp opEq (mv 2) pe_int)
(pss_one (ps_set (i := 7) sc_law_round.nd rfl (.inl rfl) (pe_cal Claw_link (hr.mono (by decide)) (by rfl) (pa_cons (mv 0) (pa_cons (mv 6) (pa_cons (mv 7) pa_nil))))))
pss_nil)
(mcut (mif (mcmp opEq (mv 2) pe_int)
(pss_one (ps_set (i := 7) sc_law_round.nd rfl (.inl rfl) (pe_cal Claw_link (hr.mono (by decide)) (by rfl) (pa_cons (mv 0) (pa_cons (pe_op opCatR (mv 6) (mlstR (pa_cons (mtupD (pa_cons pe_str (pa_cons (pe_ix ixM (mv 3) pe_int (fun _ _ => rfl)) (pa_cons pe_int pa_nil)))) pa_nil))) (pa_cons (mv 7) pa_nil))))))
pss_nil)
(mcut (mif (mcmp opEq (mv 2) pe_int)
(pss_one (ps_set (i := 7) sc_law_round.nd rfl (.inl rfl) (pe_cal Claw_link (hr.mono (by decide)) (by rfl) (pa_cons (mv 0) (pa_cons (mv 6) (pa_cons (pe_cal Claw_link (hr.mono (by decide)) (by rfl) (pa_cons (mv 0) (pa_cons (mv 6) (pa_cons (mv 7) pa_nil)))) pa_nil))))))
pss_nil)
(mcut (mif (mcmp opEq (mv 2) pe_int)
(pss_one (ps_set (i := 7) sc_law_round.nd rfl (.inl rfl) (pe_cal Claw_link (hr.mono (by decide)) (by rfl) (pa_cons (mv 0) (pa_cons (pe_op opCatR (mv 6) (mlstR (pa_cons (mtupD (pa_cons pe_str (pa_cons (pe_ix ixM (mv 1) pe_int (fun _ _ => rfl)) pa_nil))) (pa_cons (mtupD (pa_cons pe_str pa_nil)) pa_nil)))) (pa_cons (mv 7) pa_nil))))))
pss_nil)
(mcut (mif (mcmp opEq (mv 2) pe_int)
(pss_one (ps_set (i := 7) sc_law_round.nd rfl (.inl rfl) (pe_cal Claw_link (hr.mono (by decide)) (by rfl) (pa_cons (mv 0) (pa_cons (pe_op opCatR (mv 6) (mlstR (pa_cons (mtupD (pa_cons pe_str (pa_cons pe_int pa_nil))) pa_nil))) (pa_cons (mv 7) pa_nil))))))
pss_nil)
(mcut (mif (mcmp opEq (mv 2) pe_int)
(pss_one (ps_set (i := 7) sc_law_round.nd rfl (.inl rfl) (pe_cal Claw_link (hr.mono (by decide)) (by rfl) (pa_cons (mv 0) (pa_cons (pe_op opCatR (mv 6) (mlstR (pa_cons (mtupD (pa_cons pe_str (pa_cons (mv 5) pa_nil))) pa_nil))) (pa_cons (mv 7) pa_nil))))))
pss_nil)
(pss_cons (ps_set (i := 8) sc_law_round.nd rfl (.inl rfl) (pe_lst (pa_cons (mlstR pa_nil) (pa_cons (mlstR pa_nil) (pa_cons (mlstR pa_nil) pa_nil)))))
(pss_cons (ps_asg (mlstR (pa_cons (mtupD (pa_cons pe_str (pa_cons (pe_ix ixM (mv 1) pe_int (fun _ _ => rfl)) pa_nil))) (pa_cons (mtupD (pa_cons pe_str (pa_cons (pe_ix ixM (mv 0) pe_int (fun _ _ => rfl)) pa_nil))) pa_nil))) (pg_sub (mv 8) (pe_ix ixM (mv 1) pe_int (fun _ _ => rfl)) setM))
(pss_cons (ps_asg (mv 7) (pg_sub (mv 8) (pe_ix ixM (mv 1) pe_int (fun _ _ => rfl)) setM))
(pss_cons (ps_asg (mlstR (pa_cons (mtupD (pa_cons pe_str (pa_cons (pe_ix ixM (mv 1) pe_int (fun _ _ => rfl)) pa_nil))) pa_nil)) (pg_sub (mv 8) (pe_ix ixM (mv 1) pe_int (fun _ _ => rfl)) setM))
(pss_cons (ps_set (i := 9) sc_law_round.nd rfl (.inl rfl) (pe_op opCatR (pe_op opCatR (pe_op opCatR (pe_ix ixM (mv 8) pe_int (fun _ _ => rfl)) (pe_ix ixM (mv 8) pe_int (fun _ _ => rfl))) (pe_ix ixM (mv 8) pe_int (fun _ _ => rfl))) (mlstR (pa_cons (mtupD (pa_cons pe_str (pa_cons (pe_op opAdd pe_int (mv 4)) pa_nil))) pa_nil))))
(pss_one (ps_ret (pe_op opCatR (mv 9) (mlstR (pa_cons (mtupD (pa_cons pe_str pa_nil)) (pa_cons (mtupD (pa_cons pe_str pa_nil)) (pa_cons (mtupD (pa_cons pe_str pa_nil)) (pa_cons (mtupD (pa_cons pe_str (pa_cons pe_int pa_nil))) pa_nil))))))))))))))))))))))
  , ?_⟩
  refine ⟨fun hb => ?_, fun hb => ?_⟩
  · have e : a = 7 := by have := of_decide_eq_true hb; omega
    refine ⟨_, .cons (.str _) (.cons (.int _) .nil), le_sz (Nat.le_of_ble_eq_true rfl), fun v1 H1 c1 t1 => ⟨[.go 9], .cons t1 .nil, le_sz (Nat.le_of_ble_eq_true rfl), fun p H2 hp c2 lp => q p H2 (c1.trans c2) (c1.old hp) ?_⟩⟩
    unfold roundR
    rw [if_pos e]
    exact lp
  have na : ¬ a = 7 := by have := of_decide_eq_false hb; omega
  clear hb
  refine ⟨_, .cons (.str _) (.cons (.int _) .nil), le_sz (Nat.le_of_ble_eq_true rfl), fun v1 H1 c1 t1 => ⟨[.loc 3], .cons t1 .nil, le_sz (Nat.le_of_ble_eq_true rfl), fun it H2 hit c2 lit => ⟨_, .inr ((tp.keep c1.kt).keep c2.kt).sq, _, atIk 1 rfl, _, .cons (.str _) (.cons (.int _) .nil), le_sz (Nat.le_of_ble_eq_true rfl), fun v3 H3 c3 t3 => ⟨[.loc p1], .cons t3 .nil, le_sz (Nat.le_of_ble_eq_true rfl), fun gp H4 hgp c4 lgp => ?_⟩⟩⟩⟩
  have c02 := c1.trans c2
  have lit4 := (lit.chg c3 (by simp)).chg c4 (by simp)
  have c04 := c02.trans (c3.trans c4)
  -- the state between the tests
  obtain ⟨GM, hGM⟩ : ∃ GM : Nat → L2.St → Hp → Prop, GM = fun j σ H' => ∃ (gp : Addr), σ = [some (.ref sa), some (.ref pl), some (.int (a : Nat)), some (.ref nu), some (.int (idle : Nat)), some (.int (last : Nat)), some (.ref it), some (.ref gp), none, none] ∧ LR K H' it [.loc 3] ∧ LR K H' gp (if a ≤ j then gatherR S p1 p2 n3 last a else [.loc p1]) ∧ Chg [] H H' := ⟨_, rfl⟩
  have stay : ∀ (j : Nat) (σ : L2.St) (H' : Hp), GM j σ H' → ¬ (a : Int) = ((j + 1 : Nat) : Int) → GM (j + 1) σ H' := by
    intro j σ H' h hne
    rw [hGM] at h ⊢
    obtain ⟨gp, e, l1, l2, c⟩ := h
    refine ⟨gp, e, l1, ?_, c⟩
    by_cases z : a ≤ j
    · rw [if_pos z] at l2
      rw [if_pos (by omega)]
      exact l2
    · rw [if_neg z] at l2
      rw [if_neg (by omega)]
      exact l2
  have g0 : GM 0 [some (.ref sa), some (.ref pl), some (.int (a : Nat)), some (.ref nu), some (.int (idle : Nat)), some (.int (last : Nat)), some (.ref it), some (.ref gp), none, none] H4 := by
    rw [hGM]
    refine ⟨gp, rfl, lit4, ?_, c04⟩
    by_cases z : a ≤ 0
    · have : a = 0 := by omega
      subst this
      exact lgp
    · rw [if_neg z]
      exact lgp
  clear c1 c2 c3 c4 c02 lit lgp t1 t3
  have h5' := g0
  rw [hGM] at h5'
  obtain ⟨gp', e5, lit5, lgp5, c5⟩ := h5'
  cases e5
  refine ⟨GM 1, ?_, ?_⟩
  · refine ⟨fun hb => ?_, fun hb => stay 0 _ _ g0 (of_decide_eq_false hb)⟩
    have e : a = 1 := by have := of_decide_eq_true hb; omega
    have ta5 := ta.keep c5.kt
    refine ⟨S, _, _, ok, .tup ta5 (.cons (.int _) (.cons (.int _) (.cons (.int _) (.cons (.int _) (.cons (.int _) (.cons (.int _) .nil)))))), lit5, lgp5, by simp, by rw [if_neg (by omega)]; simp, fun p H6 c6 hp lp => ?_⟩
    rw [hGM]
    refine ⟨p, rfl, lit5.chg c6 (by simp), ?_, c5.trans c6⟩
    rw [if_neg (by omega)] at lp
    rw [if_pos (by omega), e]
    exact lp
  rintro σ H5 h5
  have h5' := h5
  rw [hGM] at h5'
  obtain ⟨gp, rfl, lit5, lgp5, c5⟩ := h5'
  refine ⟨GM 2, ?_, ?_⟩
  · refine ⟨fun hb => ?_, fun hb => stay 1 _ _ h5 (of_decide_eq_false hb)⟩
    have e : a = 2 := by have := of_decide_eq_true hb; omega
    have ta5 := ta.keep c5.kt
    refine ⟨_, .inl (SqL.of (c5.get (by simp) en)), _, hns, _, .cons (.str _) (.cons (.int _) (.cons (.int _) .nil)), le_sz (Nat.le_of_ble_eq_true rfl), fun v6 H6 c6 t6 => ⟨[.make (n3 : Nat) 1], .cons t6 .nil, le_sz (Nat.le_of_ble_eq_true rfl), fun l7 H7 h7 c7 lr7 => ⟨_, _, (lit5.chg c6 (by simp)).chg c7 (by simp), lr7, by simp, fun i8 H8 h8 c8 lr8 =>
      ⟨S, _, _, ok, .tup (((ta5.keep c6.kt).keep c7.kt).keep c8.kt) (.cons (.int _) (.cons (.int _) (.cons (.int _) (.cons (.int _) (.cons (.int _) (.cons (.int _) .nil)))))), lr8, ((lgp5.chg c6 (by simp)).chg c7 (by simp)).chg c8 (by simp), by simp, by rw [if_neg (by omega)]; simp, fun p H9 c9 hp lp => ?_⟩⟩⟩⟩
    rw [hGM]
    refine ⟨p, rfl, (((lit5.chg c6 (by simp)).chg c7 (by simp)).chg c8 (by simp)).chg c9 (by simp), ?_, c5.trans (c6.trans (c7.trans (c8.trans c9)))⟩
    rw [if_neg (by omega)] at lp
    rw [if_pos (by omega), e]
    exact lp
  rintro σ H5 h5
  have h5' := h5
  rw [hGM] at h5'
  obtain ⟨gp, rfl, lit5, lgp5, c5⟩ := h5'
  refine ⟨GM 3, ?_, ?_⟩
  · refine ⟨fun hb => ?_, fun hb => stay 2 _ _ h5 (of_decide_eq_false hb)⟩
    have e : a = 3 := by have := of_decide_eq_true hb; omega
    have ta5 := ta.keep c5.kt
    refine ⟨S, _, _, ok, .tup ta5 (.cons (.int _) (.cons (.int _) (.cons (.int _) (.cons (.int _) (.cons (.int _) (.cons (.int _) .nil)))))), lit5, lgp5, by simp, by rw [if_neg (by omega)]; simp, fun p H6 c6 hp lp => ⟨S, _, _, ok, .tup (ta5.keep c6.kt) (.cons (.int _) (.cons (.int _) (.cons (.int _) (.cons (.int _) (.cons (.int _) (.cons (.int _) .nil)))))), lit5.chg c6 (by simp), lp, by simp, ?_, fun p2' H7 c7 hp2 lp2 => ?_⟩⟩
    · rw [if_neg (by omega)]
      have := linkR_le S ok [.loc 3] [.loc p1] 1 (Nat.le_refl _) (Nat.le_refl _) (Nat.le_refl _)
      omega
    rw [hGM]
    refine ⟨p2', rfl, (lit5.chg c6 (by simp)).chg c7 (by simp), ?_, c5.trans (c6.trans c7)⟩
    rw [if_neg (by omega)] at lp2
    rw [if_pos (by omega), e]
    exact lp2
  rintro σ H5 h5
  have h5' := h5
  rw [hGM] at h5'
  obtain ⟨gp, rfl, lit5, lgp5, c5⟩ := h5'
  refine ⟨GM 4, ?_, ?_⟩
  · refine ⟨fun hb => ?_, fun hb => stay 3 _ _ h5 (of_decide_eq_false hb)⟩
    have e : a = 4 := by have := of_decide_eq_true hb; omega
    have ta5 := ta.keep c5.kt
    refine ⟨_, .inr ((tp.keep c5.kt)).sq, _, atIk 2 rfl, _, .cons (.str _) (.cons (.int _) .nil), le_sz (Nat.le_of_ble_eq_true rfl), fun v6 H6 c6 t6 => ⟨_, .cons (.str _) .nil, le_sz (Nat.le_of_ble_eq_true rfl), fun v6' H6' c6' t6' => ⟨[.loc p2, .same], .cons (t6.keep c6'.kt) (.cons t6' .nil), le_sz (Nat.le_of_ble_eq_true rfl), fun l7 H7 h7 c7 lr7 => ⟨_, _, ((lit5.chg c6 (by simp)).chg c6' (by simp)).chg c7 (by simp), lr7, by simp, fun i8 H8 h8 c8 lr8 =>
      ⟨S, _, _, ok, .tup ((((ta5.keep c6.kt).keep c6'.kt).keep c7.kt).keep c8.kt) (.cons (.int _) (.cons (.int _) (.cons (.int _) (.cons (.int _) (.cons (.int _) (.cons (.int _) .nil)))))), lr8, (((lgp5.chg c6 (by simp)).chg c6' (by simp)).chg c7 (by simp)).chg c8 (by simp), by simp, by rw [if_neg (by omega)]; simp, fun p H9 c9 hp lp => ?_⟩⟩⟩⟩⟩
    rw [hGM]
    refine ⟨p, rfl, ((((lit5.chg c6 (by simp)).chg c6' (by simp)).chg c7 (by simp)).chg c8 (by simp)).chg c9 (by simp), ?_, c5.trans (c6.trans (c6'.trans (c7.trans (c8.trans c9))))⟩
    rw [if_neg (by omega)] at lp
    rw [if_pos (by omega), e]
    exact lp
  rintro σ H5 h5
  have h5' := h5
  rw [hGM] at h5'
  obtain ⟨gp, rfl, lit5, lgp5, c5⟩ := h5'
  refine ⟨GM 5, ?_, ?_⟩
  · refine ⟨fun hb => ?_, fun hb => stay 4 _ _ h5 (of_decide_eq_false hb)⟩
    have e : a = 5 := by have := of_decide_eq_true hb; omega
    have ta5 := ta.keep c5.kt
    refine ⟨_, .cons (.str _) (.cons (.int _) .nil), le_sz (Nat.le_of_ble_eq_true rfl), fun v6 H6 c6 t6 => ⟨[.part 0], .cons t6 .nil, le_sz (Nat.le_of_ble_eq_true rfl), fun l7 H7 h7 c7 lr7 => ⟨_, _, (lit5.chg c6 (by simp)).chg c7 (by simp), lr7, by simp, fun i8 H8 h8 c8 lr8 =>
      ⟨S, _, _, ok, .tup (((ta5.keep c6.kt).keep c7.kt).keep c8.kt) (.cons (.int _) (.cons (.int _) (.cons (.int _) (.cons (.int _) (.cons (.int _) (.cons (.int _) .nil)))))), lr8, ((lgp5.chg c6 (by simp)).chg c7 (by simp)).chg c8 (by simp), by simp, by rw [if_neg (by omega)]; simp, fun p H9 c9 hp lp => ?_⟩⟩⟩⟩
    rw [hGM]
    refine ⟨p, rfl, (((lit5.chg c6 (by simp)).chg c7 (by simp)).chg c8 (by simp)).chg c9 (by simp), ?_, c5.trans (c6.trans (c7.trans (c8.trans c9)))⟩
    rw [if_neg (by omega)] at lp
    rw [if_pos (by omega), e]
    exact lp
  rintro σ H5 h5
  have h5' := h5
  rw [hGM] at h5'
  obtain ⟨gp, rfl, lit5, lgp5, c5⟩ := h5'
  refine ⟨GM 6, ?_, ?_⟩
  · refine ⟨fun hb => ?_, fun hb => stay 5 _ _ h5 (of_decide_eq_false hb)⟩
    have e : a = 6 := by have := of_decide_eq_true hb; omega
    have ta5 := ta.keep c5.kt
    refine ⟨_, .cons (.str _) (.cons (.int _) .nil), le_sz (Nat.le_of_ble_eq_true rfl), fun v6 H6 c6 t6 => ⟨[.part last], .cons t6 .nil, le_sz (Nat.le_of_ble_eq_true rfl), fun l7 H7 h7 c7 lr7 => ⟨_, _, (lit5.chg c6 (by simp)).chg c7 (by simp), lr7, by simp, fun i8 H8 h8 c8 lr8 =>
      ⟨S, _, _, ok, .tup (((ta5.keep c6.kt).keep c7.kt).keep c8.kt) (.cons (.int _) (.cons (.int _) (.cons (.int _) (.cons (.int _) (.cons (.int _) (.cons (.int _) .nil)))))), lr8, ((lgp5.chg c6 (by simp)).chg c7 (by simp)).chg c8 (by simp), by simp, by rw [if_neg (by omega)]; simp, fun p H9 c9 hp lp => ?_⟩⟩⟩⟩
    rw [hGM]
    refine ⟨p, rfl, (((lit5.chg c6 (by simp)).chg c7 (by simp)).chg c8 (by simp)).chg c9 (by simp), ?_, c5.trans (c6.trans (c7.trans (c8.trans c9)))⟩
    rw [if_neg (by omega)] at lp
    rw [if_pos (by omega), e]
    exact lp
  rintro σ H5 h5
  rw [hGM] at h5
  obtain ⟨gp, rfl, lit5, lgp5, c5⟩ := h5
  rw [if_pos (by omega)] at lgp5
  have hgl := gather_le S ok p1 p2 n3 last a
  generalize hg : gatherR S p1 p2 n3 last a = G at *
  have hlt : p0 < 3 ∧ p1 < 3 ∧ p2 < 3 := by
    simp only [Perm3, List.mem_cons, Prod.mk.injEq, List.not_mem_nil, or_false] at perm
    omega
  have tp5 := tp.keep c5.kt
  refine ⟨[], .nil, le_sz (Nat.le_of_ble_eq_true rfl), fun z0 Ha hz0 ca lz0 => ⟨[], .nil, le_sz (Nat.le_of_ble_eq_true rfl), fun z1 Hb hz1 cb lz1 => ⟨[], .nil, le_sz (Nat.le_of_ble_eq_true rfl), fun z2 Hc hz2 cc lz2 => ⟨le_sz (Nat.le_of_ble_eq_true rfl), fun cl hcl => ?_⟩⟩⟩⟩
  have cd : Chg [] Hc (upd Hc cl (.lst [.ref z0, .ref z1, .ref z2])) := Chg.new hcl
  have ecl : upd Hc cl (.lst [.ref z0, .ref z1, .ref z2]) cl = some (.lst [.ref z0, .ref z1, .ref z2]) := upd_same
  have c5d := ca.trans (cb.trans (cc.trans cd))
  have hcl0 : H cl = none := (c5.trans (ca.trans (cb.trans cc))).old hcl
  have ngp : gp ≠ cl := by
    obtain ⟨_, e, _⟩ := id lgp5
    exact ne_of_none ((ca.trans (cb.trans cc)).get (by simp) e) hcl
  generalize upd Hc cl (.lst [.ref z0, .ref z1, .ref z2]) = Hd at *
  clear ca cb cc cd lz0 lz1 lz2
  have lgp6 := lgp5.chg c5d (by simp)
  have cD := c5.trans c5d
  have ta6 := ta.keep cD.kt
  have tp6 := tp.keep cD.kt
  -- the three codes
  refine ⟨_, .inr tp6.sq, _, atIk 0 rfl, _, .cons (.str _) (.cons (.int _) .nil), le_sz (Nat.le_of_ble_eq_true rfl), fun v1 H1 c1 t1 => ⟨_, .inr (ta6.keep c1.kt).sq, _, atIk 4 rfl, _, .cons (.str _) (.cons (.int _) .nil), le_sz (Nat.le_of_ble_eq_true rfl), fun v2 H2 c2 t2 => ⟨[.loc p0, .part S.there], .cons (t1.keep c2.kt) (.cons t2 .nil), le_sz (Nat.le_of_ble_eq_true rfl), fun a0 H3 ha0 c3 la0 =>
    ⟨_, .inr ((tp6.keep c1.kt).keep (c2.trans c3).kt).sq, _, atIk 0 rfl, _, p0, (c1.trans (c2.trans c3)).get (by simp) ecl, ixN_of hlt.1, ?_⟩⟩⟩⟩
  have c13 := c1.trans (c2.trans c3)
  have cw1 : Chg [cl] H3 (upd H3 cl (.lst ([V.ref z0, .ref z1, .ref z2].set p0 (.ref a0)))) := Chg.lst (by simp) (c13.get (by simp) ecl)
  have ew1 : upd H3 cl (.lst ([V.ref z0, .ref z1, .ref z2].set p0 (.ref a0))) cl = some (.lst ([V.ref z0, .ref z1, .ref z2].set p0 (.ref a0))) := upd_same
  have na0 : a0 ≠ cl := fun z => by
    have := (c1.trans c2).get (by simp) ecl
    rw [← z, ha0] at this
    cases this
  have la0' := la0.chg cw1 (by simp [na0])
  have cE := (cD.trans c13).fresh cw1 (fun x hx => by rw [List.mem_singleton.mp hx]; exact hcl0)
  have lgpE := (lgp6.chg c13 (by simp)).chg cw1 (by simp [ngp])
  generalize upd H3 cl (.lst ([V.ref z0, .ref z1, .ref z2].set p0 (.ref a0))) = He at *
  clear c1 c2 c3 c13 cw1 la0 t1 t2 c5d lgp5 lgp6
  have tpE := tp.keep cE.kt
  refine ⟨_, .inr tpE.sq, _, atIk 1 rfl, _, p1, ew1, ixN_of (by rw [List.length_set]; exact hlt.2.1), ?_⟩
  have cw2 : Chg [cl] He (upd He cl (.lst (([V.ref z0, .ref z1, .ref z2].set p0 (.ref a0)).set p1 (.ref gp)))) := Chg.lst (by simp) ew1
  have ew2 : upd He cl (.lst (([V.ref z0, .ref z1, .ref z2].set p0 (.ref a0)).set p1 (.ref gp))) cl = some (.lst (([V.ref z0, .ref z1, .ref z2].set p0 (.ref a0)).set p1 (.ref gp))) := upd_same
  have la0F := la0'.chg cw2 (by simp [na0])
  have lgpF := lgpE.chg cw2 (by simp [ngp])
  have cF := cE.fresh cw2 (fun x hx => by rw [List.mem_singleton.mp hx]; exact hcl0)
  generalize upd He cl (.lst (([V.ref z0, .ref z1, .ref z2].set p0 (.ref a0)).set p1 (.ref gp))) = Hf at *
  clear cw2 la0' lgpE
  have tpF := tp.keep cF.kt
  refine ⟨_, .inr tpF.sq, _, atIk 2 rfl, _, .cons (.str _) (.cons (.int _) .nil), le_sz (Nat.le_of_ble_eq_true rfl), fun v1 H1 c1 t1 => ⟨[.loc p2], .cons t1 .nil, le_sz (Nat.le_of_ble_eq_true rfl), fun a2 H2 ha2 c2 la2 => ⟨_, .inr ((tpF.keep c1.kt).keep c2.kt).sq, _, atIk 2 rfl, _, p2, (c1.trans c2).get (by simp) ew2, ixN_of (by rw [List.length_set, List.length_set]; exact hlt.2.2), ?_⟩⟩⟩
  have na2 : a2 ≠ cl := fun z => by
    have := c1.get (L := []) (by simp) ew2
    rw [← z, ha2] at this
    cases this
  obtain ⟨cr, hcr⟩ : ∃ cr : Nat → Addr, cr = fun k => if k = p0 then a0 else if k = p1 then gp else a2 := ⟨_, rfl⟩
  have ecr : ((([V.ref z0, .ref z1, .ref z2].set p0 (.ref a0)).set p1 (.ref gp)).set p2 (.ref a2)) = [.ref (cr 0), .ref (cr 1), .ref (cr 2)] := by
    rw [hcr]
    simp only [Perm3, List.mem_cons, Prod.mk.injEq, List.not_mem_nil, or_false] at perm
    rcases perm with ⟨rfl, rfl, rfl⟩ | ⟨rfl, rfl, rfl⟩ | ⟨rfl, rfl, rfl⟩ | ⟨rfl, rfl, rfl⟩ | ⟨rfl, rfl, rfl⟩ | ⟨rfl, rfl, rfl⟩ <;> rfl
  have c12 := c1.trans c2
  have cw3 : Chg [cl] H2 (upd H2 cl (.lst ((([V.ref z0, .ref z1, .ref z2].set p0 (.ref a0)).set p1 (.ref gp)).set p2 (.ref a2)))) := Chg.lst (by simp) (c12.get (by simp) ew2)
  have ew3 : upd H2 cl (.lst ((([V.ref z0, .ref z1, .ref z2].set p0 (.ref a0)).set p1 (.ref gp)).set p2 (.ref a2))) cl = some (.lst [.ref (cr 0), .ref (cr 1), .ref (cr 2)]) := by
    rw [← ecr]
    exact upd_same
  have la0G := (la0F.chg c12 (by simp)).chg cw3 (by simp [na0])
  have lgpG := (lgpF.chg c12 (by simp)).chg cw3 (by simp [ngp])
  have la2G := la2.chg cw3 (by simp [na2])
  have cG := (cF.trans c12).fresh cw3 (fun x hx => by rw [List.mem_singleton.mp hx]; exact hcl0)
  generalize upd H2 cl (.lst ((([V.ref z0, .ref z1, .ref z2].set p0 (.ref a0)).set p1 (.ref gp)).set p2 (.ref a2))) = Hg at *
  clear c1 c2 c12 cw3 la0F lgpF la2 t1
  have lcr : ∀ k, LR K Hg (cr k) (codeR S p0 p1 p2 G k) := by
    intro k
    rw [hcr]
    unfold codeR
    show LR K Hg (if k = p0 then a0 else if k = p1 then gp else a2) _
    by_cases z : k = p0
    · rw [if_pos z, if_pos z]
      exact la0G
    · rw [if_neg z, if_neg z]
      by_cases z1 : k = p1
      · rw [if_pos z1, if_pos z1]
        exact lgpG
      · rw [if_neg z1, if_neg z1]
        exact la2G
  have lcl : ∀ k, (codeR S p0 p1 p2 G k).length ≤ 13 := by
    intro k
    unfold codeR
    split
    · simp
    · split
      · exact hgl
      · simp
  have l0 := lcl 0
  have l1 := lcl 1
  have l2 := lcl 2
  refine ⟨_, .inl (SqL.of ew3), _, atIk 2 rfl, _, .inl (SqL.of ew3), _, atIk 1 rfl, _, _, lcr 2, lcr 1, by omega, fun s1 H1 hs1 c1 ls1 => ⟨_, .inl (SqL.of (c1.get (by simp) ew3)), _, atIk 0 rfl, _, _, ls1, (lcr 0).chg c1 (by simp), by simp only [List.length_append]; omega, fun s2 H2 hs2 c2 ls2 =>
    ⟨_, .cons (.str _) (.cons (.int _) .nil), le_sz (Nat.le_of_ble_eq_true rfl), fun v3 H3 c3 t3 => ⟨[.forget (4 + idle)], .cons t3 .nil, le_sz (Nat.le_of_ble_eq_true rfl), fun s4 H4 hs4 c4 ls4 => ⟨_, _, (ls2.chg c3 (by simp)).chg c4 (by simp), ls4, by simp only [List.length_append, List.length_cons, List.length_nil]; omega, fun s5 H5 hs5 c5 ls5 =>
    ⟨_, .cons (.str _) .nil, le_sz (Nat.le_of_ble_eq_true rfl), fun v6 H6 c6 t6 => ⟨_, .cons (.str _) .nil, le_sz (Nat.le_of_ble_eq_true rfl), fun v7 H7 c7 t7 => ⟨_, .cons (.str _) .nil, le_sz (Nat.le_of_ble_eq_true rfl), fun v8 H8 c8 t8 => ⟨_, .cons (.str _) (.cons (.int _) .nil), le_sz (Nat.le_of_ble_eq_true rfl), fun v9 H9 c9 t9 =>
    ⟨[.keep, .keep, .keep, .go 1], .cons (t6.keep (c7.trans (c8.trans c9)).kt) (.cons (t7.keep (c8.trans c9).kt) (.cons (t8.keep c9.kt) (.cons t9 .nil))), le_sz (Nat.le_of_ble_eq_true rfl), fun s10 H10 hs10 c10 ls10 => ⟨_, _, ls5.chg (c6.trans (c7.trans (c8.trans (c9.trans c10)))) (by simp), ls10, by simp only [List.length_append, List.length_cons, List.length_nil]; omega, fun p H11 hp c11 lp => ?_⟩⟩⟩⟩⟩⟩⟩⟩⟩⟩⟩
  have cH := c1.trans (c2.trans (c3.trans (c4.trans (c5.trans (c6.trans (c7.trans (c8.trans (c9.trans c10))))))))
  refine q p H11 ((cG.trans cH).trans c11) ((cG.trans cH).old hp) ?_
  unfold roundR
  rw [if_neg na, hg]
  exact lp
end
end T5
set_option maxHeartbeats 8000000
namespace T5
open PySem PySem.Spec PyProof.Rows L2 T3
abbrev st_law_turn : Stmt := topS 26
theorem sc_law_turn : FnScope ["shape", "places", "acts", "numbers", "idle", "ends", "head", "k", "blocks"] ["shape", "places", "acts", "numbers", "idle", "ends"] (defScope st_law_turn) := ⟨rfl, rfl, rfl, by decide +kernel, rfl, by decide +kernel, by decide +kernel⟩
abbrev st_law_flip : Stmt := topS 27
theorem sc_law_flip : FnScope ["shape", "more", "blocks"] ["shape"] (defScope st_law_flip) := ⟨rfl, rfl, rfl, by decide +kernel, rfl, by decide +kernel, by decide +kernel⟩
inductive LRs (K : PySem.W.Frag) (H : Hp) : List Addr → List (List Row) → Prop
  | nil : LRs K H [] []
  | cons {a : Addr} {r : List Row} {as : List Addr} {rs : List (List Row)} : LR K H a r → LRs K H as rs → LRs K H (a :: as) (r :: rs)
theorem LRs.chg {K : PySem.W.Frag} {L : List Addr} {H H' : Hp} (g : Chg L H H') : ∀ {as : List Addr} {cs : List (List Row)}, LRs K H as cs → (∀ a ∈ as, a ∉ L) → LRs K H' as cs
  | _, _, .nil, _ => .nil
  | _, _, .cons h1 h2, hd => .cons (h1.chg g (hd _ (by simp))) (LRs.chg g h2 fun a ha => hd a (by simp [ha]))
theorem LRs.snoc {K : PySem.W.Frag} {H : Hp} {a : Addr} {r : List Row} (h : LR K H a r) : ∀ {as : List Addr} {cs : List (List Row)}, LRs K H as cs → LRs K H (as ++ [a]) (cs ++ [r])
  | _, _, .nil => .cons h .nil
  | _, _, .cons h1 h2 => .cons h1 (h2.snoc h)
theorem LRs.len {K : PySem.W.Frag} {H : Hp} : ∀ {as : List Addr} {cs : List (List Row)}, LRs K H as cs → as.length = cs.length
  | _, _, .nil => rfl
  | _, _, .cons _ h => by rw [List.length_cons, List.length_cons, h.len]
theorem LRs.get {K : PySem.W.Frag} {H : Hp} : ∀ {as : List Addr} {cs : List (List Row)} {i : Nat} {r : List Row}, LRs K H as cs → cs[i]? = some r → ∃ a, as[i]? = some a ∧ LR K H a r
  | _, _, _, _, .nil, h => by simp at h
  | _, _, 0, _, .cons h1 h2, h => by
    simp at h
    subst h
    exact ⟨_, rfl, h1⟩
  | _, _, i + 1, _, .cons h1 h2, h => by
    obtain ⟨c, e1, e2⟩ := LRs.get (i := i) h2 (by simpa using h)
    exact ⟨c, by simpa using e1, e2⟩
/-- a list of lists of rows -/
def BL (K : PySem.W.Frag) (H : Hp) (b : Addr) (bs : List (List Row)) : Prop := ∃ xs : List Addr, H b = some (.lst (xs.map V.ref)) ∧ LRs K H xs bs ∧ b ∉ xs
theorem BL.chg {K : PySem.W.Frag} {H H' : Hp} {b : Addr} {bs : List (List Row)} (h : BL K H b bs) (g : Chg [] H H') : BL K H' b bs := by
  obtain ⟨xs, e, l, n⟩ := h
  exact ⟨xs, g.get (by simp) e, l.chg g (by simp), n⟩
theorem BL.push {K : PySem.W.Frag} {H : Hp} {b x : Addr} {bs : List (List Row)} {r : List Row} (h : BL K H b bs) (l : LR K H x r) (hx : b ≠ x) :
    ∃ vs, H b = some (.lst vs) ∧ vs.length = bs.length ∧ Chg [b] H (upd H b (.lst (vs ++ [.ref x]))) ∧ BL K (upd H b (.lst (vs ++ [.ref x]))) b (bs ++ [r]) := by
  obtain ⟨xs, e, ls, n⟩ := h
  have c : Chg [b] H (upd H b (.lst (xs.map V.ref ++ [.ref x]))) := Chg.lst (by simp) e
  refine ⟨_, e, by rw [List.length_map, ls.len], c, xs ++ [x], ?_, ?_, ?_⟩
  · rw [List.map_append]
    exact upd_same
  · exact (ls.chg c fun a ha z => n (by rw [List.mem_singleton.mp z] at ha; exact ha)).snoc (l.chg c fun z => hx (List.mem_singleton.mp z).symm)
  · simp [n, hx]
theorem BL.ne {K : PySem.W.Frag} {H : Hp} {b x : Addr} {bs : List (List Row)} (h : BL K H b bs) (e : H x = none) : b ≠ x := by
  obtain ⟨_, e2, _⟩ := h
  exact ne_of_none e2 e
def headR (S : Shp) (p0 idle : Nat) : List Row := [.loc p0, .is (S.link : Nat) 8, .part S.here, .keep] ++ ((List.range idle).map fun k => [Row.make (k : Nat) 0, Row.keep]).flatten ++ [.loc 3, .go 2]
def turnB (S : Shp) (p0 p1 p2 : Nat) (acts ns : List Nat) (idle : Nat) (endsR : List Row) : List (List Row) :=
  [[.go 1], headR S p0 idle, [.is ((ns.getD 0 0 : Nat) : Int) 3, .drop, .go 5], [.is ((ns.getD 1 0 : Nat) : Int) 4, .drop, .go 6], [.drop, .go 7]] ++
    (List.range 3).map (fun k => roundR S p0 p1 p2 (acts.getD k 0) (ns.getD 3 0) idle (k - 1)) ++ [[.drop, .go 9], [.loc p1] ++ endsR ++ [.back]]
def flipB (S : Shp) : List (List Row) :=
  [[.make (S.fin : Nat) 0, .keep, .go 1], [.loc 0, .is (S.link : Nat) 3, .drop, .go 2], linkR S [.loc 0, .part S.here] [.loc 1] ++ [.loc 0, .part S.there, .forget 2, .keep, .keep, .go 1], [.drop, .loc 1, .back]]
section
variable {P : Program} {w : World} {K : PySem.W.Frag} {mg : Str → Option Value} {base : Heap}
def sp_law_turn (K : PySem.W.Frag) : Sp := fun vs H Q _ => match vs with
  | [v, .ref pl, .ref ac, .ref nu, .int idl, .ref en] => ∃ (S : Shp) (p0 p1 p2 idle : Nat) (acts ns : List Nat) (endsR : List Row), S.Ok ∧ Td K H v S.d ∧ Tt K H pl [.int (p0 : Nat), .int (p1 : Nat), .int (p2 : Nat)] ∧ Perm3 p0 p1 p2 ∧ H ac = some (.lst (acts.map nv)) ∧ acts.length = 3 ∧ (∀ a ∈ acts, a ≤ 7) ∧
      idl = idle ∧ idle ≤ 100 ∧ H nu = some (.lst (ns.map nv)) ∧ ns.length = 4 ∧ LR K H en endsR ∧ endsR.length ≤ 100 ∧ ∀ p H', Chg [] H H' → H p = none → BL K H' p (turnB S p0 p1 p2 acts ns idle endsR) → Q (.ref p) H'
  | _ => False
theorem ok_law_turn {f : Addr} {fd : FuncData} (F : Fun K "_law_turn" "_law_turn" st_law_turn f fd) (T : Top K mg) (Claw_round : Cal P w K mg base "_law_round" 2 ["shape", "places", "act", "numbers", "idle", "last"] (sp_law_round K)) :
    FnOk P w K mg base CX0 3 f fd ["shape", "places", "acts", "numbers", "idle", "ends"] (sp_law_turn K) := by
  refine F.ok sc_law_turn (fun vs H Q E h => ?_) (fun cdv A outer s H vs Q E hr h => ?_)
  · match vs, h with
    | [v, .ref pl, .ref ac, .ref nu, .int idl, .ref en], _ => rfl
  match vs, h with
  | [v, .ref pl, .ref ac, .ref nu, .int idl, .ref en], h =>
  obtain ⟨S, p0, p1, p2, idle, acts, ns, endsR, ok, ts, tp, perm, eac, hac, hacts, rfl, hidle, enu, hns, len', hel, q⟩ := h
  have ts0 := ts
  obtain ⟨sa, rfl, ta⟩ := shp_open ts
  have hnk : ∀ k : Nat, k < 4 → atI (ns.map nv) (k : Int) = some (.int ((ns.getD k 0 : Nat) : Int)) := fun k hk => atIk k (by
    rw [List.getElem?_map, List.getD_eq_getElem?_getD, List.getElem?_eq_getElem (by omega)]
    rfl)
  have hak : ∀ k : Nat, k < 3 → atI (acts.map nv) (k : Int) = some (.int ((acts.getD k 0 : Nat) : Int)) := fun k hk => atIk k (by
    rw [List.getElem?_map, List.getD_eq_getElem?_getD, List.getElem?_eq_getElem (by omega)]
    rfl)
  refine ⟨_, (pss_cons (ps_set (i := 6) sc_law_turn.nd rfl (.inl rfl) (mlstR (pa_cons (mtupD (pa_cons pe_str (pa_cons (pe_ix ixM (mv 1) pe_int (fun _ _ => rfl)) pa_nil))) (pa_cons (mtupD (pa_cons pe_str (pa_cons (pe_ix ixM (mv 0) pe_int (fun _ _ => rfl)) (pa_cons pe_int pa_nil)))) (pa_cons (mtupD (pa_cons pe_str (pa_cons (pe_ix ixM (mv 0) pe_int (fun _ _ => rfl)) pa_nil))) (pa_cons (mtupD (pa_cons pe_str pa_nil)) pa_nil))))))
(pss_cons (mforR PassesOwn.never rfl (by rfl) T.range (mv 4) (pg_name (i := 7) sc_law_turn.nd rfl (.inl rfl))
(pss_one (ps_set (i := 6) sc_law_turn.nd rfl (.inl rfl) (pe_op opCatR (mv 6) (mlstR (pa_cons (mtupD (pa_cons pe_str (pa_cons (mv 7) (pa_cons pe_int pa_nil)))) (pa_cons (mtupD (pa_cons pe_str pa_nil)) pa_nil)))))))
(pss_cons (ps_set (i := 6) sc_law_turn.nd rfl (.inl rfl) (pe_op opCatR (mv 6) (mlstR (pa_cons (mtupD (pa_cons pe_str (pa_cons pe_int pa_nil))) (pa_cons (mtupD (pa_cons pe_str (pa_cons pe_int pa_nil))) pa_nil)))))
(pss_cons (ps_set (i := 8) sc_law_turn.nd rfl (.inl rfl) (pe_lst (pa_cons (mlstR (pa_cons (mtupD (pa_cons pe_str (pa_cons pe_int pa_nil))) pa_nil)) (pa_cons (mv 6) pa_nil))))
(pss_cons (mapp (mv 8) (mlstR (pa_cons (mtupD (pa_cons pe_str (pa_cons (pe_ix ixM (mv 3) pe_int (fun _ _ => rfl)) (pa_cons pe_int pa_nil)))) (pa_cons (mtupD (pa_cons pe_str pa_nil)) (pa_cons (mtupD (pa_cons pe_str (pa_cons pe_int pa_nil))) pa_nil)))))
(pss_cons (mapp (mv 8) (mlstR (pa_cons (mtupD (pa_cons pe_str (pa_cons (pe_ix ixM (mv 3) pe_int (fun _ _ => rfl)) (pa_cons pe_int pa_nil)))) (pa_cons (mtupD (pa_cons pe_str pa_nil)) (pa_cons (mtupD (pa_cons pe_str (pa_cons pe_int pa_nil))) pa_nil)))))
(pss_cons (mapp (mv 8) (mlstR (pa_cons (mtupD (pa_cons pe_str pa_nil)) (pa_cons (mtupD (pa_cons pe_str (pa_cons pe_int pa_nil))) pa_nil))))
(pss_cons (mforR PassesOwn.never rfl (by rfl) T.range pe_int (pg_name (i := 7) sc_law_turn.nd rfl (.inl rfl))
(pss_one (mapp (mv 8) (pe_cal Claw_round (hr.mono (by decide)) (by rfl) (pa_cons (mv 0) (pa_cons (mv 1) (pa_cons (pe_ix ixM (mv 2) (mv 7) (fun _ _ => rfl)) (pa_cons (mv 3) (pa_cons (mv 4) (pa_cons (pe_callB (callMax rfl) (by rfl) T.max (by decide +kernel) (pa_cons pe_int (pa_cons (pe_op opSub (mv 7) pe_int) pa_nil))) pa_nil))))))))))
(pss_cons (mapp (mv 8) (mlstR (pa_cons (mtupD (pa_cons pe_str pa_nil)) (pa_cons (mtupD (pa_cons pe_str (pa_cons pe_int pa_nil))) pa_nil))))
(pss_cons (mapp (mv 8) (pe_op opCatR (pe_op opCatR (mlstR (pa_cons (mtupD (pa_cons pe_str (pa_cons (pe_ix ixM (mv 1) pe_int (fun _ _ => rfl)) pa_nil))) pa_nil)) (mv 5)) (mlstR (pa_cons (mtupD (pa_cons pe_str pa_nil)) pa_nil))))
(pss_one (ps_ret (mv 8)))))))))))))
  , ?_⟩
  refine ⟨_, .inr (tp.keep (Chg.refl [] _).kt).sq, _, atIk 0 rfl, _, .cons (.str _) (.cons (.int _) .nil), le_sz (Nat.le_of_ble_eq_true rfl), fun v1 H1 c1 t1 => ⟨_, .inr (ta.keep c1.kt).sq, _, atIk 0 rfl, _, .cons (.str _) (.cons (.int _) (.cons (.int _) .nil)), le_sz (Nat.le_of_ble_eq_true rfl), fun v2 H2 c2 t2 => ⟨_, .inr (ta.keep (c1.trans c2).kt).sq, _, atIk 3 rfl, _, .cons (.str _) (.cons (.int _) .nil), le_sz (Nat.le_of_ble_eq_true rfl), fun v3 H3 c3 t3 => ⟨_, .cons (.str _) .nil, le_sz (Nat.le_of_ble_eq_true rfl), fun v4 H4 c4 t4 => ⟨[.loc p0, .is (S.link : Nat) 8, .part S.here, .keep], (.cons (t1.keep (c2.trans (c3.trans c4)).kt) (.cons (t2.keep (c3.trans c4).kt) (.cons (t3.keep c4.kt) (.cons t4 .nil)))), le_sz (Nat.le_of_ble_eq_true rfl), fun p5 H5 hp5 c5 lr5 => ?_⟩⟩⟩⟩⟩
  have cA : Chg [] H H5 := (c1.trans (c2.trans (c3.trans (c4.trans c5))))
  refine ⟨⟨by omega, by omega⟩, fun i σ H' => ∃ (hd : Addr) (k : Option V), σ = [some (.ref sa), some (.ref pl), some (.ref ac), some (.ref nu), some (.int (idle : Nat)), some (.ref en), some (.ref hd), k, none] ∧ LR K H' hd ([.loc p0, .is (S.link : Nat) 8, .part S.here, .keep] ++ ((List.range i).map fun k => [Row.make (k : Nat) 0, Row.keep]).flatten) ∧ Chg [] H H', ?_, ?_, ?_⟩
  · exact ⟨_, _, rfl, by rw [List.range_zero, List.map_nil, List.flatten_nil, List.append_nil]; exact lr5, cA⟩
  · rintro i σ H' hi ⟨hd, k, rfl, lh, c0⟩
    have hl : (((List.range i).map fun k => [Row.make (k : Nat) 0, Row.keep]).flatten).length = 2 * i := by
      rw [List.length_flatten, List.map_map]
      have : ∀ m : Nat, (List.map (List.length ∘ fun k => [Row.make (k : Nat) 0, Row.keep]) (List.range m)).sum = 2 * m := by
        intro m
        induction m with
        | zero => rfl
        | succ m ih =>
          rw [List.range_succ, List.map_append, List.sum_append, ih]
          simp
          omega
      exact this i
    refine ⟨_, .cons (.str _) (.cons (.int _) (.cons (.int _) .nil)), le_sz (Nat.le_of_ble_eq_true rfl), fun v21 H21 c21 t21 => ⟨_, .cons (.str _) .nil, le_sz (Nat.le_of_ble_eq_true rfl), fun v22 H22 c22 t22 => ⟨[.make (i : Nat) 0, .keep], (.cons (t21.keep c22.kt) (.cons t22 .nil)), le_sz (Nat.le_of_ble_eq_true rfl), fun p23 H23 hp23 c23 lr23 => ⟨_, _, lh.chg (c21.trans (c22.trans c23)) (by simp), lr23, by simp only [List.length_append, List.length_cons, List.length_nil, hl]; omega, fun r Hr hr cr lrr => ⟨r, _, rfl, ?_, c0.trans ((c21.trans (c22.trans c23)).trans cr)⟩⟩⟩⟩⟩
    rw [List.range_succ, List.map_append, List.flatten_append, ← List.append_assoc]
    simp only [List.map_cons, List.map_nil, List.flatten_cons, List.flatten_nil, List.append_nil]
    exact lrr
  rintro σ H2 ⟨hd, k, rfl, lh, c2⟩
  have hln : (([Row.loc p0, .is (S.link : Nat) 8, .part S.here, .keep] ++ ((List.range idle).map fun k => [Row.make (k : Nat) 0, Row.keep]).flatten)).length ≤ 1000 := by
    rw [List.length_append, List.length_flatten, List.map_map]
    have : ∀ m : Nat, (List.map (List.length ∘ fun k => [Row.make (k : Nat) 0, Row.keep]) (List.range m)).sum = 2 * m := by
      intro m
      induction m with
      | zero => rfl
      | succ m ih =>
        rw [List.range_succ, List.map_append, List.sum_append, ih]
        simp
        omega
    rw [this]
    simp
    omega
  rw [Int.toNat_natCast] at lh
  refine ⟨_, .cons (.str _) (.cons (.int _) .nil), le_sz (Nat.le_of_ble_eq_true rfl), fun v31 H31 c31 t31 => ⟨_, .cons (.str _) (.cons (.int _) .nil), le_sz (Nat.le_of_ble_eq_true rfl), fun v32 H32 c32 t32 => ⟨[.loc 3, .go 2], (.cons (t31.keep c32.kt) (.cons t32 .nil)), le_sz (Nat.le_of_ble_eq_true rfl), fun p33 H33 hp33 c33 lr33 => ⟨_, _, lh.chg (c31.trans (c32.trans c33)) (by simp), lr33, by rw [show ([Row.loc 3, Row.go 2]).length = 2 from rfl]; omega, fun hd2 H3 hhd c3 lh2 => ?_⟩⟩⟩⟩
  have c3' := c2.trans ((c31.trans (c32.trans c33)).trans c3)
  have lhd : LR K H3 hd2 (headR S p0 idle) := lh2
  clear lh lh2
  refine ⟨_, .cons (.str _) (.cons (.int _) .nil), le_sz (Nat.le_of_ble_eq_true rfl), fun v41 H41 c41 t41 => ⟨[.go 1], (.cons t41 .nil), le_sz (Nat.le_of_ble_eq_true rfl), fun p42 H42 hp42 c42 lr42 => ⟨le_sz (Nat.le_of_ble_eq_true rfl), fun b hb => ?_⟩⟩⟩
  have cb : Chg [] H42 (upd H42 b (.lst [.ref p42, .ref hd2])) := Chg.new hb
  have hb0 : H b = none := (c3'.trans (c41.trans c42)).old hb
  have bl : BL K (upd H42 b (.lst [.ref p42, .ref hd2])) b [[.go 1], headR S p0 idle] := by
    have e1 := (lhd.chg (c41.trans c42) (by simp))
    obtain ⟨_, x1, _⟩ := id lr42
    obtain ⟨_, x2, _⟩ := id e1
    refine ⟨[p42, hd2], upd_same, .cons (lr42.chg cb (by simp)) (.cons (e1.chg cb (by simp)) .nil), ?_⟩
    simp [(ne_of_none x1 hb).symm, (ne_of_none x2 hb).symm]
  have cB := c3'.trans ((c41.trans c42).trans cb)
  generalize upd H42 b (.lst [.ref p42, .ref hd2]) = Hb at *
  clear c3' lhd cA c2
  obtain ⟨_, ebx, _⟩ := id bl
  refine ⟨⟨_, ebx⟩, ?_⟩
  refine ⟨_, .inl (SqL.of (cB.get (by simp) enu)), _, hnk 0 (by decide), _, .cons (.str _) (.cons (.int _) (.cons (.int _) .nil)), le_sz (Nat.le_of_ble_eq_true rfl), fun v51 H51 c51 t51 => ⟨_, .cons (.str _) .nil, le_sz (Nat.le_of_ble_eq_true rfl), fun v52 H52 c52 t52 => ⟨_, .cons (.str _) (.cons (.int _) .nil), le_sz (Nat.le_of_ble_eq_true rfl), fun v53 H53 c53 t53 => ⟨[.is ((ns.getD 0 0 : Nat) : Int) 3, .drop, .go 5], (.cons (t51.keep (c52.trans c53).kt) (.cons (t52.keep c53.kt) (.cons t53 .nil))), le_sz (Nat.le_of_ble_eq_true rfl), fun p54 H54 hp54 c54 lr54 => ?_⟩⟩⟩⟩
  obtain ⟨vsa, eva, lva, cwa, bla⟩ := (bl.chg (c51.trans (c52.trans (c53.trans c54)))).push lr54 ((bl.chg (c51.trans (c52.trans c53))).ne hp54)
  refine ⟨vsa, eva, lt_sz (by rw [lva]; exact Nat.le_of_ble_eq_true rfl), ?_⟩
  have cBa := (cB.trans (c51.trans (c52.trans (c53.trans c54)))).at2 cwa (fun x hx => .inr (by rw [List.mem_singleton.mp hx]; exact hb0))
  clear bl cB cwa eva
  generalize upd H54 b (.lst (vsa ++ [.ref p54])) = Hba at *
  have bl := bla
  have cB := cBa
  clear bla cBa
  obtain ⟨_, ebx, _⟩ := id bl
  refine ⟨⟨_, ebx⟩, ?_⟩
  refine ⟨_, .inl (SqL.of (cB.get (by simp) enu)), _, hnk 1 (by decide), _, .cons (.str _) (.cons (.int _) (.cons (.int _) .nil)), le_sz (Nat.le_of_ble_eq_true rfl), fun v61 H61 c61 t61 => ⟨_, .cons (.str _) .nil, le_sz (Nat.le_of_ble_eq_true rfl), fun v62 H62 c62 t62 => ⟨_, .cons (.str _) (.cons (.int _) .nil), le_sz (Nat.le_of_ble_eq_true rfl), fun v63 H63 c63 t63 => ⟨[.is ((ns.getD 1 0 : Nat) : Int) 4, .drop, .go 6], (.cons (t61.keep (c62.trans c63).kt) (.cons (t62.keep c63.kt) (.cons t63 .nil))), le_sz (Nat.le_of_ble_eq_true rfl), fun p64 H64 hp64 c64 lr64 => ?_⟩⟩⟩⟩
  obtain ⟨vsb, evb, lvb, cwb, blb⟩ := (bl.chg (c61.trans (c62.trans (c63.trans c64)))).push lr64 ((bl.chg (c61.trans (c62.trans c63))).ne hp64)
  refine ⟨vsb, evb, lt_sz (by rw [lvb]; exact Nat.le_of_ble_eq_true rfl), ?_⟩
  have cBb := (cB.trans (c61.trans (c62.trans (c63.trans c64)))).at2 cwb (fun x hx => .inr (by rw [List.mem_singleton.mp hx]; exact hb0))
  clear bl cB cwb evb
  generalize upd H64 b (.lst (vsb ++ [.ref p64])) = Hbb at *
  have bl := blb
  have cB := cBb
  clear blb cBb
  obtain ⟨_, ebx, _⟩ := id bl
  refine ⟨⟨_, ebx⟩, ?_⟩
  refine ⟨_, .cons (.str _) .nil, le_sz (Nat.le_of_ble_eq_true rfl), fun v71 H71 c71 t71 => ⟨_, .cons (.str _) (.cons (.int _) .nil), le_sz (Nat.le_of_ble_eq_true rfl), fun v72 H72 c72 t72 => ⟨[.drop, .go 7], (.cons (t71.keep c72.kt) (.cons t72 .nil)), le_sz (Nat.le_of_ble_eq_true rfl), fun p73 H73 hp73 c73 lr73 => ?_⟩⟩⟩
  obtain ⟨vsc, evc, lvc, cwc, blc⟩ := (bl.chg (c71.trans (c72.trans c73))).push lr73 ((bl.chg (c71.trans c72)).ne hp73)
  refine ⟨vsc, evc, lt_sz (by rw [lvc]; exact Nat.le_of_ble_eq_true rfl), ?_⟩
  have cBc := (cB.trans (c71.trans (c72.trans c73))).at2 cwc (fun x hx => .inr (by rw [List.mem_singleton.mp hx]; exact hb0))
  clear bl cB cwc evc
  generalize upd H73 b (.lst (vsc ++ [.ref p73])) = Hbc at *
  have bl := blc
  have cB := cBc
  clear blc cBc
  have bl3 : BL K Hbc b ([[.go 1], headR S p0 idle, [.is ((ns.getD 0 0 : Nat) : Int) 3, .drop, .go 5], [.is ((ns.getD 1 0 : Nat) : Int) 4, .drop, .go 6], [.drop, .go 7]]) := bl
  clear bl
  obtain ⟨B0, hB0⟩ : ∃ B0, B0 = [[.go 1], headR S p0 idle, [.is ((ns.getD 0 0 : Nat) : Int) 3, .drop, .go 5], [.is ((ns.getD 1 0 : Nat) : Int) 4, .drop, .go 6], [.drop, .go 7]] := ⟨_, rfl⟩
  have lB0 : B0.length = 5 := by rw [hB0]; rfl
  rw [← hB0] at bl3
  refine ⟨⟨by decide, by decide⟩, fun i σ H' => ∃ (k : Option V), σ = [some (.ref sa), some (.ref pl), some (.ref ac), some (.ref nu), some (.int (idle : Nat)), some (.ref en), some (.ref hd2), k, some (.ref b)] ∧ BL K H' b (B0 ++ (List.range i).map (fun k => roundR S p0 p1 p2 (acts.getD k 0) (ns.getD 3 0) idle (k - 1))) ∧ Chg [] H H', ?_, ?_, ?_⟩
  · exact ⟨_, rfl, by rw [List.range_zero, List.map_nil, List.append_nil]; exact bl3, cB⟩
  · rintro i σ H' hi ⟨k, rfl, bl, c0⟩
    have hi3 : i < 3 := hi
    obtain ⟨_, ebx, _⟩ := id bl
    have hmax : (if ((i : Int) - 1) > 0 then ((i : Int) - 1) else 0) = ((i - 1 : Nat) : Int) := by split <;> omega
    have ha7 : acts.getD i 0 ≤ 7 := by
      rw [List.getD_eq_getElem?_getD, List.getElem?_eq_getElem (by omega)]
      exact hacts _ (List.getElem_mem _)
    refine ⟨⟨_, ebx⟩, _, .inl (SqL.of (c0.get (by simp) eac)), _, hak i hi3, S, p0, p1, p2, acts.getD i 0, idle, i - 1, ns.getD 3 0, ns, ok, ts0.keep c0.kt, tp.keep c0.kt, perm, rfl, ha7, rfl, hmax, c0.get (by simp) enu, ?_, fun p H3 c3 hp lp => ?_⟩
    · rw [List.getD_eq_getElem?_getD, List.getElem?_eq_getElem (by omega)]
      rfl
    · obtain ⟨vs, ev, lv, cw, blw⟩ := (bl.chg c3).push lp (bl.ne hp)
      rw [List.length_append, lB0, List.length_map, List.length_range] at lv
      refine ⟨vs, ev, lt_sz (by omega), _, rfl, ?_, (c0.trans c3).at2 cw (fun x hx => .inr (by rw [List.mem_singleton.mp hx]; exact hb0))⟩
      rw [List.range_succ, List.map_append, ← List.append_assoc]
      exact blw
  clear bl3 cB
  rintro σ H4 ⟨k4, rfl, bl, cB⟩
  have bl : BL K H4 b (B0 ++ (List.range 3).map (fun k => roundR S p0 p1 p2 (acts.getD k 0) (ns.getD 3 0) idle (k - 1))) := bl
  obtain ⟨B1, hB1⟩ : ∃ B1, B1 = B0 ++ (List.range 3).map (fun k => roundR S p0 p1 p2 (acts.getD k 0) (ns.getD 3 0) idle (k - 1)) := ⟨_, rfl⟩
  have lB1 : B1.length = 8 := by rw [hB1, List.length_append, lB0]; rfl
  rw [← hB1] at bl
  obtain ⟨_, ebx, _⟩ := id bl
  refine ⟨⟨_, ebx⟩, ?_⟩
  refine ⟨_, .cons (.str _) .nil, le_sz (Nat.le_of_ble_eq_true rfl), fun v81 H81 c81 t81 => ⟨_, .cons (.str _) (.cons (.int _) .nil), le_sz (Nat.le_of_ble_eq_true rfl), fun v82 H82 c82 t82 => ⟨[.drop, .go 9], (.cons (t81.keep c82.kt) (.cons t82 .nil)), le_sz (Nat.le_of_ble_eq_true rfl), fun p83 H83 hp83 c83 lr83 => ?_⟩⟩⟩
  obtain ⟨vsd, evd, lvd, cwd, bld⟩ := (bl.chg (c81.trans (c82.trans c83))).push lr83 ((bl.chg (c81.trans c82)).ne hp83)
  refine ⟨vsd, evd, lt_sz (by rw [lvd, lB1]; decide), ?_⟩
  have cBd := (cB.trans (c81.trans (c82.trans c83))).at2 cwd (fun x hx => .inr (by rw [List.mem_singleton.mp hx]; exact hb0))
  clear bl cB cwd evd
  generalize upd H83 b (.lst (vsd ++ [.ref p83])) = Hbd at *
  have bl := bld
  have cB := cBd
  clear bld cBd
  obtain ⟨_, ebx, _⟩ := id bl
  refine ⟨⟨_, ebx⟩, ?_⟩
  refine ⟨_, .inr (tp.keep cB.kt).sq, _, atIk 1 rfl, _, .cons (.str _) (.cons (.int _) .nil), le_sz (Nat.le_of_ble_eq_true rfl), fun v91 H91 c91 t91 => ⟨[.loc p1], (.cons t91 .nil), le_sz (Nat.le_of_ble_eq_true rfl), fun p92 H92 hp92 c92 lr92 => ⟨_, _, lr92, len'.chg (cB.trans (c91.trans c92)) (by simp), by simp only [List.length_cons, List.length_nil]; omega, fun l95 H95 h95 c95 lr95 => ⟨_, .cons (.str _) .nil, le_sz (Nat.le_of_ble_eq_true rfl), fun v93 H93 c93 t93 => ⟨[.back], (.cons t93 .nil), le_sz (Nat.le_of_ble_eq_true rfl), fun p94 H94 hp94 c94 lr94 => ⟨_, _, lr95.chg (c93.trans c94) (by simp), lr94, by simp only [List.length_append, List.length_cons, List.length_nil]; omega, fun pz Hz hz cz lz => ?_⟩⟩⟩⟩⟩⟩
  have cy := (c91.trans (c92.trans (c95.trans (c93.trans c94))))
  obtain ⟨vsz, evz, lvz, cwz, blz⟩ := ((bl.chg cy).chg cz).push lz ((bl.chg cy).ne hz)
  rw [List.length_append, lB1] at lvz
  refine ⟨vsz, evz, lt_sz (by rw [lvz]; decide), ?_⟩
  refine q b _ ((cB.trans (cy.trans cz)).at2 cwz (fun x hx => .inr (by rw [List.mem_singleton.mp hx]; exact hb0))) hb0 ?_
  have eT : turnB S p0 p1 p2 acts ns idle endsR = B1 ++ [[.drop, .go 9]] ++ [[.loc p1] ++ endsR ++ [.back]] := by
    rw [hB1, hB0]
    rfl
  rw [eT]
  exact blz
end
end T5
set_option maxHeartbeats 8000000
namespace T5
open PySem PySem.Spec PyProof.Rows L2 T3
section
variable {P : Program} {w : World} {K : PySem.W.Frag} {mg : Str → Option Value} {base : Heap}
def sp_law_flip (K : PySem.W.Frag) : Sp := fun vs H Q _ => match vs with
  | [v] => ∃ (S : Shp), S.Ok ∧ Td K H v S.d ∧ ∀ p H', Chg [] H H' → H p = none → BL K H' p (flipB S) → Q (.ref p) H'
  | _ => False
theorem ok_law_flip {f : Addr} {fd : FuncData} (F : Fun K "_law_flip" "_law_flip" st_law_flip f fd) (T : Top K mg) (Claw_link : Cal P w K mg base "_law_link" 1 ["shape", "thing", "rest"] (sp_law_link K)) :
    FnOk P w K mg base CX0 2 f fd ["shape"] (sp_law_flip K) := by
  refine F.ok sc_law_flip (fun vs H Q E h => ?_) (fun cdv A outer s H vs Q E hr h => ?_)
  · match vs, h with
    | [v], _ => rfl
  match vs, h with
  | [v], h =>
  obtain ⟨S, ok, ts, q⟩ := h
  have ts0 := ts
  obtain ⟨sa, rfl, ta⟩ := shp_open ts
  refine ⟨_, (pss_cons (ps_set (i := 1) sc_law_flip.nd rfl (.inl rfl) (pe_cal Claw_link (hr.mono (by decide)) (by rfl) (pa_cons (mv 0) (pa_cons (mlstR (pa_cons (mtupD (pa_cons pe_str (pa_cons pe_int pa_nil))) (pa_cons (mtupD (pa_cons pe_str (pa_cons (pe_ix ixM (mv 0) pe_int (fun _ _ => rfl)) pa_nil))) pa_nil))) (pa_cons (mlstR (pa_cons (mtupD (pa_cons pe_str (pa_cons pe_int pa_nil))) pa_nil)) pa_nil)))))
(pss_cons (ps_set (i := 1) sc_law_flip.nd rfl (.inl rfl) (pe_op opCatR (mv 1) (mlstR (pa_cons (mtupD (pa_cons pe_str (pa_cons pe_int pa_nil))) (pa_cons (mtupD (pa_cons pe_str (pa_cons (pe_ix ixM (mv 0) pe_int (fun _ _ => rfl)) pa_nil))) (pa_cons (mtupD (pa_cons pe_str (pa_cons pe_int pa_nil))) (pa_cons (mtupD (pa_cons pe_str pa_nil)) (pa_cons (mtupD (pa_cons pe_str pa_nil)) (pa_cons (mtupD (pa_cons pe_str (pa_cons pe_int pa_nil))) pa_nil)))))))))
(pss_cons (ps_set (i := 2) sc_law_flip.nd rfl (.inl rfl) (pe_lst (pa_cons (mlstR (pa_cons (mtupD (pa_cons pe_str (pa_cons (pe_ix ixM (mv 0) pe_int (fun _ _ => rfl)) (pa_cons pe_int pa_nil)))) (pa_cons (mtupD (pa_cons pe_str pa_nil)) (pa_cons (mtupD (pa_cons pe_str (pa_cons pe_int pa_nil))) pa_nil)))) pa_nil)))
(pss_cons (mapp (mv 2) (mlstR (pa_cons (mtupD (pa_cons pe_str (pa_cons pe_int pa_nil))) (pa_cons (mtupD (pa_cons pe_str (pa_cons (pe_ix ixM (mv 0) pe_int (fun _ _ => rfl)) (pa_cons pe_int pa_nil)))) (pa_cons (mtupD (pa_cons pe_str pa_nil)) (pa_cons (mtupD (pa_cons pe_str (pa_cons pe_int pa_nil))) pa_nil))))))
(pss_cons (mapp (mv 2) (mv 1))
(pss_cons (mapp (mv 2) (mlstR (pa_cons (mtupD (pa_cons pe_str pa_nil)) (pa_cons (mtupD (pa_cons pe_str (pa_cons pe_int pa_nil))) (pa_cons (mtupD (pa_cons pe_str pa_nil)) pa_nil)))))
(pss_one (ps_ret (mv 2)))))))))
  , ?_⟩
  refine ⟨_, .cons (.str _) (.cons (.int _) .nil), le_sz (Nat.le_of_ble_eq_true rfl), fun v1 H1 c1 t1 => ⟨_, .inr (ta.keep c1.kt).sq, _, atIk 3 rfl, _, .cons (.str _) (.cons (.int _) .nil), le_sz (Nat.le_of_ble_eq_true rfl), fun v2 H2 c2 t2 => ⟨[.loc 0, .part S.here], (.cons (t1.keep c2.kt) (.cons t2 .nil)), le_sz (Nat.le_of_ble_eq_true rfl), fun p3 H3 hp3 c3 lr3 => ⟨_, .cons (.str _) (.cons (.int _) .nil), le_sz (Nat.le_of_ble_eq_true rfl), fun v4 H4 c4 t4 => ⟨[.loc 1], (.cons t4 .nil), le_sz (Nat.le_of_ble_eq_true rfl), fun p5 H5 hp5 c5 lr5 => ⟨S, _, _, ok, ts0.keep (c1.trans (c2.trans (c3.trans (c4.trans c5)))).kt, lr3.chg (c4.trans c5) (by simp), lr5, by simp, by simp, fun m Hm cm hm lm => ?_⟩⟩⟩⟩⟩⟩
  have cM := (c1.trans (c2.trans (c3.trans (c4.trans c5)))).trans cm
  have taM := ta.keep cM.kt
  have hlk := linkR_le S ok [.loc 0, .part S.here] [.loc 1] 2 (by simp) (by simp) (by decide)
  refine ⟨_, .cons (.str _) (.cons (.int _) .nil), le_sz (Nat.le_of_ble_eq_true rfl), fun v21 H21 c21 t21 => ⟨_, .inr (taM.keep c21.kt).sq, _, atIk 4 rfl, _, .cons (.str _) (.cons (.int _) .nil), le_sz (Nat.le_of_ble_eq_true rfl), fun v22 H22 c22 t22 => ⟨_, .cons (.str _) (.cons (.int _) .nil), le_sz (Nat.le_of_ble_eq_true rfl), fun v23 H23 c23 t23 => ⟨_, .cons (.str _) .nil, le_sz (Nat.le_of_ble_eq_true rfl), fun v24 H24 c24 t24 => ⟨_, .cons (.str _) .nil, le_sz (Nat.le_of_ble_eq_true rfl), fun v25 H25 c25 t25 => ⟨_, .cons (.str _) (.cons (.int _) .nil), le_sz (Nat.le_of_ble_eq_true rfl), fun v26 H26 c26 t26 => ⟨[.loc 0, .part S.there, .forget 2, .keep, .keep, .go 1], (.cons (t21.keep (c22.trans (c23.trans (c24.trans (c25.trans c26)))).kt) (.cons (t22.keep (c23.trans (c24.trans (c25.trans c26))).kt) (.cons (t23.keep (c24.trans (c25.trans c26)).kt) (.cons (t24.keep (c25.trans c26).kt) (.cons (t25.keep c26.kt) (.cons t26 .nil)))))), le_sz (Nat.le_of_ble_eq_true rfl), fun p27 H27 hp27 c27 lr27 => ⟨_, _, lm.chg (c21.trans (c22.trans (c23.trans (c24.trans (c25.trans (c26.trans c27)))))) (by simp), lr27, by simp only [List.length_cons, List.length_nil]; omega, fun m2 H40 hm2 c40 lm2 => ?_⟩⟩⟩⟩⟩⟩⟩⟩
  have c2 := cM.trans ((c21.trans (c22.trans (c23.trans (c24.trans (c25.trans (c26.trans c27)))))).trans c40)
  have ta2 := ta.keep c2.kt
  refine ⟨_, .inr (ta2.keep (Chg.refl [] _).kt).sq, _, atIk 1 rfl, _, .cons (.str _) (.cons (.int _) (.cons (.int _) .nil)), le_sz (Nat.le_of_ble_eq_true rfl), fun v51 H51 c51 t51 => ⟨_, .cons (.str _) .nil, le_sz (Nat.le_of_ble_eq_true rfl), fun v52 H52 c52 t52 => ⟨_, .cons (.str _) (.cons (.int _) .nil), le_sz (Nat.le_of_ble_eq_true rfl), fun v53 H53 c53 t53 => ⟨[.make (S.fin : Nat) 0, .keep, .go 1], (.cons (t51.keep (c52.trans c53).kt) (.cons (t52.keep c53.kt) (.cons t53 .nil))), le_sz (Nat.le_of_ble_eq_true rfl), fun p54 H54 hp54 c54 lr54 => ⟨le_sz (Nat.le_of_ble_eq_true rfl), fun b hb => ?_⟩⟩⟩⟩⟩
  have cb : Chg [] H54 (upd H54 b (.lst [.ref p54])) := Chg.new hb
  have hb0 : H b = none := (c2.trans (c51.trans (c52.trans (c53.trans c54)))).old hb
  have bl : BL K (upd H54 b (.lst [.ref p54])) b [[.make (S.fin : Nat) 0, .keep, .go 1]] := by
    obtain ⟨_, x1, _⟩ := id lr54
    refine ⟨[p54], upd_same, .cons (lr54.chg cb (by simp)) .nil, ?_⟩
    simp [(ne_of_none x1 hb).symm]
  have lmB : LR K (upd H54 b (.lst [.ref p54])) m2 _ := (lm2.chg (c51.trans (c52.trans (c53.trans c54))) (by simp)).chg cb (by simp)
  have nmb : b ≠ m2 := by
    obtain ⟨_, x1, _⟩ := lm2.chg (c51.trans (c52.trans (c53.trans c54))) (by simp)
    exact (ne_of_none x1 hb).symm
  have cB := c2.trans ((c51.trans (c52.trans (c53.trans c54))).trans cb)
  generalize upd H54 b (.lst [.ref p54]) = Hb at *
  have taB := ta.keep cB.kt
  obtain ⟨_, ebx, _⟩ := id bl
  refine ⟨⟨_, ebx⟩, ?_⟩
  refine ⟨_, .cons (.str _) (.cons (.int _) .nil), le_sz (Nat.le_of_ble_eq_true rfl), fun v71 H71 c71 t71 => ⟨_, .inr (taB.keep c71.kt).sq, _, atIk 0 rfl, _, .cons (.str _) (.cons (.int _) (.cons (.int _) .nil)), le_sz (Nat.le_of_ble_eq_true rfl), fun v72 H72 c72 t72 => ⟨_, .cons (.str _) .nil, le_sz (Nat.le_of_ble_eq_true rfl), fun v73 H73 c73 t73 => ⟨_, .cons (.str _) (.cons (.int _) .nil), le_sz (Nat.le_of_ble_eq_true rfl), fun v74 H74 c74 t74 => ⟨[.loc 0, .is (S.link : Nat) 3, .drop, .go 2], (.cons (t71.keep (c72.trans (c73.trans c74)).kt) (.cons (t72.keep (c73.trans c74).kt) (.cons (t73.keep c74.kt) (.cons t74 .nil)))), le_sz (Nat.le_of_ble_eq_true rfl), fun p75 H75 hp75 c75 lr75 => ?_⟩⟩⟩⟩⟩
  obtain ⟨vsa, eva, lva, cwa, bla⟩ := (bl.chg (c71.trans (c72.trans (c73.trans (c74.trans c75))))).push lr75 ((bl.chg (c71.trans (c72.trans (c73.trans c74)))).ne hp75)
  refine ⟨vsa, eva, lt_sz (by rw [lva]; exact Nat.le_of_ble_eq_true rfl), ?_⟩
  have cBa := (cB.trans (c71.trans (c72.trans (c73.trans (c74.trans c75))))).at2 cwa (fun x hx => .inr (by rw [List.mem_singleton.mp hx]; exact hb0))
  have lmBa := (lmB.chg (c71.trans (c72.trans (c73.trans (c74.trans c75)))) (by simp)).chg cwa (by simp [Ne.symm nmb])
  clear bl cB cwa eva
  generalize upd H75 b (.lst (vsa ++ [.ref p75])) = Hba at *
  have bl := bla
  have cB := cBa
  clear bla cBa
  obtain ⟨_, ebx, _⟩ := id bl
  obtain ⟨vsm, evm, lvm, cwm, blm⟩ := bl.push lmBa nmb
  refine ⟨⟨_, ebx⟩, vsm, evm, lt_sz (by rw [lvm]; exact Nat.le_of_ble_eq_true rfl), ?_⟩
  have cBm := cB.at2 cwm (fun x hx => .inr (by rw [List.mem_singleton.mp hx]; exact hb0))
  clear bl cB cwm evm
  generalize upd Hba b (.lst (vsm ++ [.ref m2])) = Hbm at *
  have bl := blm
  have cB := cBm
  clear blm cBm
  obtain ⟨_, ebx, _⟩ := id bl
  refine ⟨⟨_, ebx⟩, ?_⟩
  refine ⟨_, .cons (.str _) .nil, le_sz (Nat.le_of_ble_eq_true rfl), fun v91 H91 c91 t91 => ⟨_, .cons (.str _) (.cons (.int _) .nil), le_sz (Nat.le_of_ble_eq_true rfl), fun v92 H92 c92 t92 => ⟨_, .cons (.str _) .nil, le_sz (Nat.le_of_ble_eq_true rfl), fun v93 H93 c93 t93 => ⟨[.drop, .loc 1, .back], (.cons (t91.keep (c92.trans c93).kt) (.cons (t92.keep c93.kt) (.cons t93 .nil))), le_sz (Nat.le_of_ble_eq_true rfl), fun p94 H94 hp94 c94 lr94 => ?_⟩⟩⟩⟩
  obtain ⟨vsz, evz, lvz, cwz, blz⟩ := (bl.chg (c91.trans (c92.trans (c93.trans c94)))).push lr94 ((bl.chg (c91.trans (c92.trans c93))).ne hp94)
  refine ⟨vsz, evz, lt_sz (by rw [lvz]; exact Nat.le_of_ble_eq_true rfl), ?_⟩
  have cBz := (cB.trans (c91.trans (c92.trans (c93.trans c94)))).at2 cwz (fun x hx => .inr (by rw [List.mem_singleton.mp hx]; exact hb0))
  clear bl cB cwz evz
  generalize upd H94 b (.lst (vsz ++ [.ref p94])) = Hbz at *
  have bl := blz
  have cB := cBz
  clear blz cBz
  exact q b _ cB hb0 bl
end
end T5
/-! rows as data -/
namespace T5
open PySem PySem.Spec PyProof.Rows L2 T3
def Row.okc : Row → Bool
  | .call m f _ => PyData.strOk m && PyData.strOk f
  | _ => true
theorem Row.lay (r : Row) (h : r.okc = true) : r.d.canLay0 = true ∧ r.d.depth ≤ 1 := by
  cases r with
  | call m f k =>
    have h' : (PyData.strOk m && PyData.strOk f) = true := h
    rw [Bool.and_eq_true] at h'
    simp only [Row.d, PyData.canLay0, PyData.canLayAll0, PyData.depth, PyData.depthAll, Bool.and_true, h'.1, h'.2]
    exact ⟨by decide +kernel, by decide⟩
  | _ =>
    simp only [Row.d, PyData.canLay0, PyData.canLayAll0, PyData.depth, PyData.depthAll, Bool.and_true]
    exact ⟨by decide +kernel, by decide⟩
theorem rows_lay : ∀ rs : List Row, (∀ r ∈ rs, r.okc = true) → PyData.canLayAll0 (rs.map Row.d) = true ∧ PyData.depthAll (rs.map Row.d) ≤ 1
  | [], _ => ⟨rfl, Nat.zero_le _⟩
  | r :: rs, h => by
    obtain ⟨a, b⟩ := r.lay (h r (by simp))
    obtain ⟨c, d⟩ := rows_lay rs fun x hx => h x (by simp [hx])
    rw [List.map_cons]
    simp only [PyData.canLayAll0, PyData.depthAll, a, c, Bool.and_self, true_and]
    omega
def entD (n : Nat) (rs : List Row) : PyData := .tuple [.int (n : Nat), .tuple (rs.map Row.d)]
theorem ent_shaped (n : Nat) (rs : List Row) (h : ∀ r ∈ rs, r.okc = true) : SeqAt.shaped (entD n rs) = true := by
  obtain ⟨a, b⟩ := rows_lay rs h
  unfold SeqAt.shaped entD
  simp only [PyData.canLay0, PyData.canLayAll0, PyData.depth, PyData.depthAll, a, Bool.and_self, Bool.true_and]
  exact decide_eq_true (by omega)
theorem ent_eqv (n : Nat) (rs : List Row) (h : ∀ r ∈ rs, r.okc = true) : PyData.eqv (entD n rs) (entD n rs) = true := SeqAt.eqv_refl _ (SeqAt.canLay_of_shaped (ent_shaped n rs h))
theorem okc_mem {rs : List Row} (h : rs.all Row.okc = true) : ∀ r ∈ rs, r.okc = true := fun r hr => List.all_eq_true.mp h r hr
theorem exs_okc {h s h' s' : List Cell} : ∀ {rs : List Row}, Exs rs h s h' s' → rs.all Row.okc = true
  | [], _ => rfl
  | r :: rs, .cons d e => by
    rw [List.all_cons, exs_okc e]
    cases d <;> rfl
end T5
set_option maxHeartbeats 8000000
namespace T5
open PySem PySem.Spec PyProof.Rows L2 T3
abbrev st_law_laid : Stmt := topS 21
theorem sc_law_laid : FnScope ["blocks", "turn", "rest", "cut", "order", "begins", "at", "k", "laid", "row"] ["blocks", "turn"] (defScope st_law_laid) := ⟨rfl, rfl, rfl, by decide +kernel, rfl, by decide +kernel, by decide +kernel⟩
def trR (bg : Nat → Nat) : Row → Row
  | .is n t => .is n (bg t)
  | .go t => .go (bg t)
  | r => r
def Row.tgt (n : Nat) : Row → Prop
  | .is _ t => t < n
  | .go t => t < n
  | _ => True
/-- each block stands at its place, its turns told as places -/
def LaidOk (blocks : List (List Row)) (rows : List Row) : Prop := ∃ bg : Nat → Nat, bg 0 = 0 ∧ (∀ k b, blocks[k]? = some b → ∀ j r, b[j]? = some r → rows[bg k + j]? = some (trR bg r))
theorem flat_get : ∀ (ls : List (List Row)) (i : Nat) (l : List Row), ls[i]? = some l → ∀ j r, l[j]? = some r → ls.flatten[((ls.take i).map List.length).sum + j]? = some r
  | [], i, l, h, _, _, _ => by simp at h
  | x :: ls, 0, l, h, j, r, hj => by
    simp at h
    subst h
    simp only [List.take_zero, List.map_nil, List.sum_nil, Nat.zero_add, List.flatten_cons]
    rw [List.getElem?_append_left (List.getElem?_eq_some_iff.mp hj).1]
    exact hj
  | x :: ls, i + 1, l, h, j, r, hj => by
    have ih := flat_get ls i l (by simpa using h) j r hj
    simp only [List.take_succ_cons, List.map_cons, List.sum_cons, List.flatten_cons]
    rw [List.getElem?_append_right (by omega), show x.length + ((ls.take i).map List.length).sum + j - x.length = ((ls.take i).map List.length).sum + j by omega]
    exact ih
def ordR (n tn : Nat) : List Nat := 0 :: (if tn / 16 = 1 then (((List.range (n - 1)).map (fun i => 1 + i)).drop (tn % (n - 1)) ++ ((List.range (n - 1)).map (fun i => 1 + i)).take (tn % (n - 1))).reverse else ((List.range (n - 1)).map (fun i => 1 + i)).drop (tn % (n - 1)) ++ ((List.range (n - 1)).map (fun i => 1 + i)).take (tn % (n - 1)))
def offR (bs : List (List Row)) (ord : List Nat) (i : Nat) : Nat := ((ord.take i).map (fun k => (bs.getD k []).length)).sum
def laidR (bs : List (List Row)) (tn : Nat) : List Row := ((ordR bs.length tn).map (fun k => (bs.getD k []).map (trR (fun k => offR bs (ordR bs.length tn) ((ordR bs.length tn).idxOf k))))).flatten
structure Ord (n : Nat) (ord : List Nat) : Prop where
  z : ord[0]? = some 0
  nd : ord.Nodup
  lt : ∀ k ∈ ord, k < n
  all : ∀ k, k < n → k ∈ ord
  len : ord.length = n
section
variable {P : Program} {w : World} {K : PySem.W.Frag} {mg : Str → Option Value} {base : Heap}
def sp_law_laid (K : PySem.W.Frag) : Sp := fun vs H Q _ => match vs with
  | [.ref b, .int t] => ∃ (bs : List (List Row)) (tn : Nat), BL K H b bs ∧ t = tn ∧ 2 ≤ bs.length ∧ bs.length ≤ 1000 ∧ (∀ x ∈ bs, x.length ≤ 1000) ∧ (∀ x ∈ bs, ∀ r ∈ x, r.tgt bs.length) ∧
      ∀ v H' rows, rows = laidR bs tn → Chg [] H H' → Td K H' v (.tuple (rows.map Row.d)) → LaidOk bs rows → (∀ r ∈ rows, ∃ x ∈ bs, ∃ r0 ∈ x, r0.okc = r.okc) → Q v H'
  | _ => False
theorem ok_law_laid {f : Addr} {fd : FuncData} (F : Fun K "_law_laid" "_law_laid" st_law_laid f fd) (T : Top K mg) : FnOk P w K mg base CX0 1 f fd ["blocks", "turn"] (sp_law_laid K) := by
  refine F.ok sc_law_laid (fun vs H Q E h => ?_) (fun cdv A outer s H vs Q E hr h => ?_)
  · match vs, h with
    | [.ref b, .int t], _ => rfl
  match vs, h with
  | [.ref b, .int t], h =>
  obtain ⟨bs, tn, bl, rfl, h2, h1000, hbl, htg, q⟩ := h
  refine ⟨_, (pss_cons (ps_set (i := 2) sc_law_laid.nd rfl (.inl rfl) (pe_listRg rfl (by rfl) T.list (prg_2 (by rfl) T.range pe_int (pe_callB callLen (by rfl) T.len (by decide +kernel) (pa_cons (mv 0) pa_nil)))))
(pss_cons (ps_set (i := 3) sc_law_laid.nd rfl (.inl rfl) (pe_op opMod (pe_callTy callInt (by rfl) T.int (by decide +kernel) (pa_cons (mv 1) pa_nil)) (pe_callB callLen (by rfl) T.len (by decide +kernel) (pa_cons (mv 2) pa_nil))))
(pss_cons (ps_set (i := 4) sc_law_laid.nd rfl (.inl rfl) (pe_op opAdd (pe_slice slM (mv 2) (pom (mv 3)) po_none) (pe_slice slM (mv 2) po_none (pom (mv 3)))))
(mcut (mif (mcmp opEq (pe_op opDiv (mv 1) pe_int) pe_int)
(pss_one (ps_set (i := 4) sc_law_laid.nd rfl (.inl rfl) (mrev (mv 4))))
pss_nil)
(pss_cons (ps_set (i := 4) sc_law_laid.nd rfl (.inl rfl) (pe_op opAdd (pe_lst (pa_cons pe_int pa_nil)) (mv 4)))
(pss_cons (msetLcR (i := 5) rfl rfl (sw_true rfl rfl rfl (by decide +kernel)) (own := [("k", 7)]) (g := (gName 7)) (el := (tC (.int 0))) (by rfl) sc_law_laid.nd (by rfl) T.range (pe_callB callLen (by rfl) T.len (by decide +kernel) (pa_cons (mv 0) pa_nil)) (blkOk_by (own := [("k", 7)]) (N := ["blocks", "turn", "rest", "cut", "order", "begins", "at", "k", "laid", "row"]) (sc := defScope st_law_laid) (by decide +kernel)) (fun _ _ _ _ _ => (pg_name (i := 7) sc_law_laid.nd rfl (.inl rfl))) (fun _ _ _ _ _ => pe_int))
(pss_cons (ps_set (i := 6) sc_law_laid.nd rfl (.inl rfl) pe_int)
(pss_cons (mforL PassesOwn.never rfl (mv 4) (pg_name (i := 7) sc_law_laid.nd rfl (.inl rfl))
(pss_cons (ps_asg (mv 6) (pg_sub (mv 5) (mv 7) setM))
(pss_one (ps_set (i := 6) sc_law_laid.nd rfl (.inl rfl) (pe_op opAdd (mv 6) (pe_callB callLen (by rfl) T.len (by decide +kernel) (pa_cons (pe_ix ixM (mv 0) (mv 7) (fun _ _ => rfl)) pa_nil)))))))
(pss_cons (ps_set (i := 8) sc_law_laid.nd rfl (.inl rfl) (mlstR pa_nil))
(pss_cons (mforL PassesOwn.never rfl (mv 4) (pg_name (i := 7) sc_law_laid.nd rfl (.inl rfl))
(pss_one (mforL PassesOwn.never rfl (pe_ix ixM (mv 0) (mv 7) (fun _ _ => rfl)) (pg_name (i := 9) sc_law_laid.nd rfl (.inl rfl))
(pss_one (mif (mcmp opEq (pe_ix ixM (mv 9) pe_int (fun _ _ => rfl)) pe_str)
(pss_one (mapp (mv 8) (mtupD (pa_cons pe_str (pa_cons (pe_ix ixM (mv 9) pe_int (fun _ _ => rfl)) (pa_cons (pe_ix ixM (mv 5) (pe_ix ixM (mv 9) pe_int (fun _ _ => rfl)) (fun _ _ => rfl)) pa_nil))))))
(pss_one (mif (mcmp opEq (pe_ix ixM (mv 9) pe_int (fun _ _ => rfl)) pe_str)
(pss_one (mapp (mv 8) (mtupD (pa_cons pe_str (pa_cons (pe_ix ixM (mv 5) (pe_ix ixM (mv 9) pe_int (fun _ _ => rfl)) (fun _ _ => rfl)) pa_nil)))))
(pss_one (mapp (mv 8) (mv 9))))))))))
(pss_one (ps_ret (pe_callTy callTupR (by rfl) T.tuple (by decide +kernel) (pa_cons (mv 8) pa_nil))))))))))))))
  , ?_⟩
  obtain ⟨xs, eb, ls, nb⟩ := id bl
  have lx := ls.len
  have hxl : (xs.map V.ref).length = bs.length := by rw [List.length_map, lx]
  refine ⟨_, .inl (SqL.of eb), 1, _, rfl, rfl, RgOk.of_le (by decide) (by omega) (by decide) (by omega), fun rp hrp => ?_⟩
  have erg : rgV 1 (((xs.map V.ref).length : Nat) : Int) = ((List.range (bs.length - 1)).map (fun i => 1 + i)).map nv := by
    unfold rgV
    rw [hxl, show ((bs.length : Int) - 1).toNat = bs.length - 1 by omega, List.map_map]
    rfl
  have c1 : Chg [] H (upd H rp (.lst (rgV 1 (((xs.map V.ref).length : Nat) : Int)))) := Chg.new hrp
  have e1 : upd H rp (.lst (rgV 1 (((xs.map V.ref).length : Nat) : Int))) rp = some (.lst (((List.range (bs.length - 1)).map (fun i => 1 + i)).map nv)) := by
    rw [erg]
    exact upd_same
  generalize upd H rp (.lst (rgV 1 (((xs.map V.ref).length : Nat) : Int))) = H1 at *
  obtain ⟨rest, hrest⟩ : ∃ rest, rest = (List.range (bs.length - 1)).map (fun i => 1 + i) := ⟨_, rfl⟩
  have hrl : rest.length = bs.length - 1 := by rw [hrest, List.length_map, List.length_range]
  rw [← hrest] at e1
  have hrl2 : (rest.map nv).length = bs.length - 1 := by rw [List.length_map, hrl]
  refine ⟨_, .inl (SqL.of e1), by omega, ?_⟩
  have ecut : ((tn : Nat) : Int) % (((rest.map nv).length : Nat) : Int) = ((tn % (bs.length - 1) : Nat) : Int) := by
    rw [hrl2]
    rfl
  have hcl : tn % (bs.length - 1) < bs.length - 1 := Nat.mod_lt _ (by omega)
  obtain ⟨cut, hcut⟩ : ∃ cut, cut = tn % (bs.length - 1) := ⟨_, rfl⟩
  rw [← hcut] at ecut hcl
  have ed : cutV (rest.map nv) (some (((tn : Nat) : Int) % (((rest.map nv).length : Nat) : Int))) none = (rest.drop cut).map nv := by
    rw [ecut, cutV_from (by omega), List.map_drop]
  have et : cutV (rest.map nv) none (some (((tn : Nat) : Int) % (((rest.map nv).length : Nat) : Int))) = (rest.take cut).map nv := by
    unfold cutV
    rw [ecut, HT.sIx_nat, HT.sIx_none, List.drop_zero, Nat.sub_zero, Nat.min_eq_left (by omega), List.map_take]
  refine ⟨_, SqL.of e1, fun p2 hp2 => ?_⟩
  have c2 : Chg [] H1 (upd H1 p2 (.lst (cutV (rest.map nv) (some (((tn : Nat) : Int) % (((rest.map nv).length : Nat) : Int))) none))) := Chg.new hp2
  have e2 : upd H1 p2 (.lst (cutV (rest.map nv) (some (((tn : Nat) : Int) % (((rest.map nv).length : Nat) : Int))) none)) p2 = some (.lst ((rest.drop cut).map nv)) := by
    rw [ed]
    exact upd_same
  have e12 := c2.get (by simp) e1
  generalize upd H1 p2 (.lst (cutV (rest.map nv) (some (((tn : Nat) : Int) % (((rest.map nv).length : Nat) : Int))) none)) = H2 at *
  refine ⟨_, SqL.of e12, fun p3 hp3 => ?_⟩
  have c3 : Chg [] H2 (upd H2 p3 (.lst (cutV (rest.map nv) none (some (((tn : Nat) : Int) % (((rest.map nv).length : Nat) : Int)))))) := Chg.new hp3
  have e3 : upd H2 p3 (.lst (cutV (rest.map nv) none (some (((tn : Nat) : Int) % (((rest.map nv).length : Nat) : Int))))) p3 = some (.lst ((rest.take cut).map nv)) := by
    rw [et]
    exact upd_same
  have e23 := c3.get (by simp) e2
  generalize upd H2 p3 (.lst (cutV (rest.map nv) none (some (((tn : Nat) : Int) % (((rest.map nv).length : Nat) : Int))))) = H3 at *
  refine ⟨_, _, e23, e3, le_sz (by rw [List.length_map, List.length_map, List.length_drop, List.length_take]; omega), fun p4 hp4 => ?_⟩
  have c4 : Chg [] H3 (upd H3 p4 (.lst ((rest.drop cut).map nv ++ (rest.take cut).map nv))) := Chg.new hp4
  have e4 : upd H3 p4 (.lst ((rest.drop cut).map nv ++ (rest.take cut).map nv)) p4 = some (.lst ((rest.drop cut ++ rest.take cut).map nv)) := by
    rw [List.map_append]
    exact upd_same
  generalize upd H3 p4 (.lst ((rest.drop cut).map nv ++ (rest.take cut).map nv)) = H4 at *
  have c04 := c1.trans (c2.trans (c3.trans c4))
  -- the order
  have hperm : (rest.drop cut ++ rest.take cut).Perm rest := by
    have := List.perm_append_comm (l₁ := rest.drop cut) (l₂ := rest.take cut)
    rw [List.take_append_drop] at this
    exact this
  refine ⟨fun σ H' => ∃ (op : Addr) (o : List Nat), σ = [some (.ref b), some (.int (tn : Nat)), some (.ref rp), some (.int (((tn : Nat) : Int) % (((rest.map nv).length : Nat) : Int))), some (.ref op), none, none, none, none, none] ∧ H' op = some (.lst (o.map nv)) ∧ o.Perm rest ∧ Chg [] H H' ∧ o = (if tn / 16 = 1 then (rest.drop cut ++ rest.take cut).reverse else rest.drop cut ++ rest.take cut), ?_, ?_⟩
  · refine ⟨⟨by decide, by decide⟩, fun h16 => ?_, fun h16 => ⟨p4, _, rfl, e4, hperm, c04, ?_⟩⟩
    rotate_left
    · have h17 := of_decide_eq_false h16
      rw [if_neg (fun z => h17 (by show ((tn : Nat) : Int) / 16 = 1; omega))]
    have h17 := of_decide_eq_true h16
    have h18 : tn / 16 = 1 := by
      have h19 : ((tn : Nat) : Int) / 16 = 1 := h17
      omega
    refine ⟨_, SqL.of e4, fun p5 hp5 => ⟨p5, (rest.drop cut ++ rest.take cut).reverse, rfl, ?_, (List.reverse_perm _).trans hperm, c04.trans (Chg.new hp5), by rw [if_pos h18]⟩⟩
    rw [List.map_reverse]
    exact upd_same
  rintro σ H5 ⟨op, o, rfl, e5, ho, c5, hoR⟩
  refine ⟨le_sz (Nat.le_of_ble_eq_true rfl), fun p6 hp6 => ?_⟩
  have c6 : Chg [] H5 (upd H5 p6 (.lst [.int 0])) := Chg.new hp6
  have e6 : upd H5 p6 (.lst [.int 0]) p6 = some (.lst [.int 0]) := upd_same
  have e56 := c6.get (by simp) e5
  have hol : o.length = bs.length - 1 := by rw [ho.length_eq, hrl]
  refine ⟨_, _, e6, e56, le_sz (by rw [List.length_map]; simp only [List.length_cons, List.length_nil]; omega), fun oq hoq => ?_⟩
  obtain ⟨ord, hord⟩ : ∃ ord, ord = 0 :: o := ⟨_, rfl⟩
  have c7 : Chg [] (upd H5 p6 (.lst [.int 0])) (upd (upd H5 p6 (.lst [.int 0])) oq (.lst ([V.int 0] ++ o.map nv))) := Chg.new hoq
  have e7 : upd (upd H5 p6 (.lst [.int 0])) oq (.lst ([V.int 0] ++ o.map nv)) oq = some (.lst (ord.map nv)) := by
    rw [hord]
    exact upd_same
  have cH7 := c5.trans (c6.trans c7)
  generalize upd (upd H5 p6 (.lst [.int 0])) oq (.lst ([V.int 0] ++ o.map nv)) = H7 at *
  have hrp' : rest.Pairwise (· < ·) := by
    rw [hrest]
    exact List.Pairwise.map _ (fun a b h => by omega) List.pairwise_lt_range
  have hmem : ∀ k, k ∈ o ↔ 1 ≤ k ∧ k < bs.length := by
    intro k
    rw [ho.mem_iff, hrest, List.mem_map]
    constructor
    · rintro ⟨i, hi, rfl⟩
      rw [List.mem_range] at hi
      omega
    · intro hk
      exact ⟨k - 1, by rw [List.mem_range]; omega, by omega⟩
  have O : Ord bs.length ord := by
    refine ⟨by rw [hord]; rfl, ?_, fun k hk => ?_, fun k hk => ?_, by rw [hord, List.length_cons, hol]; omega⟩
    · rw [hord, List.nodup_cons]
      refine ⟨fun z => ?_, ho.nodup_iff.mpr (hrp'.imp fun h => Nat.ne_of_lt h)⟩
      have := (hmem 0).mp z
      omega
    · rw [hord] at hk
      rcases List.mem_cons.mp hk with rfl | hk
      · omega
      · exact ((hmem k).mp hk).2
    · rw [hord]
      by_cases z : k = 0
      · rw [z]; simp
      · exact List.mem_cons_of_mem _ ((hmem k).mpr ⟨by omega, hk⟩)
  have hordR : ord = ordR bs.length tn := by
    rw [hord, hoR, hrest, hcut]
    rfl
  clear hord hoR hmem hrp' ho e5 e6 e56 hol e4 e23 e3 e12 e2 e1 ed et c1 c2 c3 c4 c04
  have eb7 := cH7.get (by simp) eb
  have ls7 := ls.chg cH7 (by simp)
  have hgetx : ∀ k r, bs[k]? = some r → ∃ x, xs[k]? = some x ∧ LR K H7 x r := fun k r e => ls7.get e
  have hget : ∀ k, k < bs.length → bs[k]? = some (bs.getD k []) := fun k hk => by
    rw [List.getD_eq_getElem?_getD, List.getElem?_eq_getElem hk]
    rfl
  refine ⟨_, .inl (SqL.of eb7), ⟨by omega, by omega⟩, fun D hD => ⟨fun i H' => H' D = some (.lst ((List.replicate i 0).map nv)) ∧ Chg [] H7 H', ⟨upd_same, Chg.new hD⟩, ?_, ?_⟩⟩
  · rintro i H' hi ⟨eD, c⟩
    have cw : Chg [D] H' (upd H' D (.lst ((List.replicate i 0).map nv ++ [.int 0]))) := Chg.lst (by simp) eD
    refine ⟨rfl, _, eD, lt_sz (by rw [List.length_map, List.length_replicate]; omega), ?_, c.fresh cw (fun x hx => by rw [List.mem_singleton.mp hx]; exact hD)⟩
    rw [List.replicate_succ', List.map_append]
    exact upd_same
  rintro H8 ⟨eD8, c8⟩
  rw [hxl, Int.toNat_natCast] at eD8
  obtain ⟨off, hoff⟩ : ∃ off : Nat → Nat, off = fun i => ((ord.take i).map (fun k => (bs.getD k []).length)).sum := ⟨_, rfl⟩
  have off0 : off 0 = 0 := by rw [hoff]; rfl
  have offS : ∀ i k, ord[i]? = some k → off (i + 1) = off i + (bs.getD k []).length := by
    intro i k e
    rw [hoff]
    show ((ord.take (i + 1)).map _).sum = ((ord.take i).map _).sum + _
    rw [List.take_succ, e, List.map_append, List.sum_append]
    simp
  refine ⟨_, SqL.of (c8.get (by simp) e7), fun i σ H' => ∃ (bg : List Nat) (kq : Option V), σ = [some (.ref b), some (.int (tn : Nat)), some (.ref rp), some (.int (((tn : Nat) : Int) % (((rest.map nv).length : Nat) : Int))), some (.ref oq), some (.ref D), some (.int ((off i : Nat) : Int)), kq, none, none] ∧ H' D = some (.lst (bg.map nv)) ∧ bg.length = bs.length ∧ (∀ j k, j < i → ord[j]? = some k → bg[k]? = some (off j)) ∧ Chg [] H7 H', ?_, ?_, ?_, ?_⟩
  · refine ⟨_, none, ?_, eD8, List.length_replicate, (fun j k hj => by omega), c8⟩
    rw [off0]
    rfl
  · rintro i σ H' _ ⟨bg, kq, rfl, _, _, _, c⟩
    exact SqL.of (c.get (by simp) e7)
  · rintro i x σ H' hx ⟨bg, kq, rfl, eD, hbgl, hbg, c⟩
    rw [List.getElem?_map] at hx
    obtain ⟨k, hk, rfl⟩ := Option.map_eq_some_iff.mp hx
    have hkn := O.lt k (List.mem_of_getElem? hk)
    obtain ⟨xk, hxk, vk, evk, tvk⟩ := hgetx k _ (hget k hkn)
    have lvk := tvk.length
    rw [List.length_map] at lvk
    have cw : Chg [D] H' (upd H' D (.lst ((bg.map nv).set k (.int ((off i : Nat) : Int))))) := Chg.lst (by simp) eD
    have c' := c.fresh cw (fun x hx => by rw [List.mem_singleton.mp hx]; exact hD)
    refine ⟨_, k, eD, ixN_of (by rw [List.length_map, hbgl]; exact hkn), ?_⟩
    refine ⟨_, .inl (SqL.of (c'.get (by simp) eb7)), .ref xk, atIk k (by rw [List.getElem?_map, hxk]; rfl), vk, .inl (SqL.of (c'.get (by simp) evk)), bg.set k (off i), some (nv k), ?_, ?_, by rw [List.length_set, hbgl], fun j k' hj hj' => ?_, c'⟩
    · rw [offS i k hk, ← lvk]
      rfl
    · rw [List.map_set]
      exact upd_same
    · by_cases z : k = k'
      · subst z
        have hij : j = i := (List.getElem?_inj (List.getElem?_eq_some_iff.mp hj').1 O.nd).mp (hj'.trans hk.symm)
        rw [hij, List.getElem?_set_self (by rw [hbgl]; exact hkn)]
      · have hji : j ≠ i := fun e => by
          rw [e, hk] at hj'
          exact z (Option.some.inj hj')
        rw [List.getElem?_set_ne z]
        exact hbg j k' (by omega) hj'
  rintro σ H9 ⟨bg, kq, rfl, eD9, hbgl, hbg, c9⟩
  rw [List.length_map] at hbg
  obtain ⟨bgf, hbgf⟩ : ∃ bgf : Nat → Nat, bgf = fun k => bg.getD k 0 := ⟨_, rfl⟩
  have hbD : ∀ k : Nat, k < bs.length → atI (bg.map nv) (k : Int) = some (.int ((bgf k : Nat) : Int)) := fun k hk => atIk k (by
    rw [List.getElem?_map, List.getElem?_eq_getElem (by omega), hbgf]
    show some (nv bg[k]) = some (V.int ((bg.getD k 0 : Nat) : Int))
    rw [List.getD_eq_getElem?_getD, List.getElem?_eq_getElem (by omega)]
    rfl)
  have hbO : ∀ j k, ord[j]? = some k → bgf k = off j := fun j k hj => by
    have := hbg j k (List.getElem?_eq_some_iff.mp hj).1 hj
    rw [hbgf]
    show bg.getD k 0 = off j
    rw [List.getD_eq_getElem?_getD, this]
    rfl
  -- the rows
  obtain ⟨ff, hff⟩ : ∃ ff : Nat → List Row, ff = fun k => (bs.getD k []).map (trR bgf) := ⟨_, rfl⟩
  have ffl : ∀ k, (ff k).length = (bs.getD k []).length := fun k => by rw [hff]; exact List.length_map _
  have flen : ∀ i, (((ord.take i).map ff).flatten).length ≤ 1000 * i := by
    intro i
    induction i with
    | zero => simp
    | succ i ih =>
      rw [List.take_succ, List.map_append, List.flatten_append, List.length_append]
      cases hk : ord[i]? with
      | none =>
        simp only [Option.toList_none, List.map_nil, List.flatten_nil, List.length_nil]
        omega
      | some k =>
        have hkn := O.lt k (List.mem_of_getElem? hk)
        have hb2 := hbl _ (List.mem_of_getElem? (hget k hkn))
        have := ffl k
        simp only [Option.toList_some, List.map_cons, List.map_nil, List.flatten_cons, List.flatten_nil, List.append_nil]
        omega
  refine ⟨[], .nil, le_sz (Nat.le_of_ble_eq_true rfl), fun ld H10 hld c10 lld => ?_⟩
  have c10' := c9.trans c10
  have eD10 := c10.get (by simp) eD9
  have hldn : ∀ a, H9 a ≠ none → a ≠ ld := fun a h z => h (by rw [z]; exact hld)
  refine ⟨_, SqL.of (c10'.get (by simp) e7), fun i σ H' => ∃ (kq rq : Option V), σ = [some (.ref b), some (.int (tn : Nat)), some (.ref rp), some (.int (((tn : Nat) : Int) % (((rest.map nv).length : Nat) : Int))), some (.ref oq), some (.ref D), some (.int ((off (ord.map nv).length : Nat) : Int)), kq, some (.ref ld), rq] ∧ LR K H' ld (((ord.take i).map ff).flatten) ∧ Chg [ld] H10 H', ?_, ?_, ?_, ?_⟩
  · exact ⟨_, _, rfl, lld, Chg.refl _ _⟩
  · rintro i σ H' _ ⟨kq, rq, rfl, _, c⟩
    exact SqL.of (c.get (by simp [hldn oq (by rw [c9.get (by simp) e7]; exact fun z => nomatch z)]) (c10'.get (by simp) e7))
  · rintro i x σ H' hx ⟨kq, rq, rfl, ll, c⟩
    rw [List.getElem?_map] at hx
    obtain ⟨k, hk, rfl⟩ := Option.map_eq_some_iff.mp hx
    have hkn := O.lt k (List.mem_of_getElem? hk)
    obtain ⟨xk, hxk, vk, evk, tvk⟩ := hgetx k _ (hget k hkn)
    have hin : i < bs.length := by
      have := (List.getElem?_eq_some_iff.mp hk).1
      rw [O.len] at this
      exact this
    have nb' := hldn b (by rw [c9.get (by simp) eb7]; exact fun z => nomatch z)
    have nx' := hldn xk (by rw [c9.get (by simp) evk]; exact fun z => nomatch z)
    have nD' := hldn D (by rw [eD9]; exact fun z => nomatch z)
    have tvk10 := tvk.keep c10'.kt
    have lvk := tvk.length
    rw [List.length_map] at lvk
    have hb2 := hbl _ (List.mem_of_getElem? (hget k hkn))
    have hfi := flen i
    refine ⟨_, .inl (SqL.of (c.get (by simp [nb']) (c10'.get (by simp) eb7))), .ref xk, atIk k (by rw [List.getElem?_map, hxk]; rfl), vk, SqL.of (c.get (by simp [nx']) (c10'.get (by simp) evk)),
      fun j σ H2 => ∃ (rq : Option V), σ = [some (.ref b), some (.int (tn : Nat)), some (.ref rp), some (.int (((tn : Nat) : Int) % (((rest.map nv).length : Nat) : Int))), some (.ref oq), some (.ref D), some (.int ((off (ord.map nv).length : Nat) : Int)), some (.int ((k : Nat) : Int)), some (.ref ld), rq] ∧ LR K H2 ld (((ord.take i).map ff).flatten ++ (ff k).take j) ∧ Chg [ld] H10 H2, ?_, ?_, ?_, ?_⟩
    · exact ⟨_, rfl, by rw [List.take_zero, List.append_nil]; exact ll, c⟩
    · rintro j σ H2 _ ⟨rq, rfl, _, c2⟩
      exact SqL.of (c2.get (by simp [nx']) (c10'.get (by simp) evk))
    · rintro j x σ H2 hx2 ⟨rq, rfl, ll2, c2⟩
      obtain ⟨rd, hrd, tx⟩ := tvk10.getV hx2
      rw [List.getElem?_map] at hrd
      obtain ⟨r, hr', rfl⟩ := Option.map_eq_some_iff.mp hrd
      have tx2 := tx.keep c2.kt
      have hrm : r ∈ bs.getD k [] := List.mem_of_getElem? hr'
      have hrt := htg _ (List.mem_of_getElem? (hget k hkn)) r hrm
      have hfj : (ff k)[j]? = some (trR bgf r) := by
        rw [hff]
        show ((bs.getD k []).map (trR bgf))[j]? = _
        rw [List.getElem?_map, hr']
        rfl
      have hjl : j < (bs.getD k []).length := (List.getElem?_eq_some_iff.mp hr').1
      have eD2 := c2.get (by simp [nD']) eD10
      have done : ∀ {H3 : Hp} {v : V}, Chg [] H2 H3 → Td K H3 v (trR bgf r).d → ∀ y, ∃ ws, H3 ld = some (.lst ws) ∧ ws.length < sizeLine ∧ ∃ rq : Option V, ([some (.ref b), some (.int (tn : Nat)), some (.ref rp), some (.int (((tn : Nat) : Int) % (((rest.map nv).length : Nat) : Int))), some (.ref oq), some (.ref D), some (.int ((off (ord.map nv).length : Nat) : Int)), some (.int ((k : Nat) : Int)), some (.ref ld), y] : L2.St) = [some (.ref b), some (.int (tn : Nat)), some (.ref rp), some (.int (((tn : Nat) : Int) % (((rest.map nv).length : Nat) : Int))), some (.ref oq), some (.ref D), some (.int ((off (ord.map nv).length : Nat) : Int)), some (.int ((k : Nat) : Int)), some (.ref ld), rq] ∧ LR K (upd H3 ld (.lst (ws ++ [v]))) ld (((ord.take i).map ff).flatten ++ (ff k).take (j + 1)) ∧ Chg [ld] H10 (upd H3 ld (.lst (ws ++ [v]))) := by
        intro H3 v c3 tv y
        obtain ⟨ws, ew, lw, cw, lrw⟩ := (ll2.chg c3 (by simp)).push (L := [ld]) tv (by simp)
        rw [List.length_append, List.length_take] at lw
        refine ⟨ws, ew, lt_sz (by omega), y, rfl, ?_, (c2.trans (c3.mono (by simp))).trans cw⟩
        rw [List.take_succ, hfj, ← List.append_assoc]
        exact lrw
      obtain ⟨_, el2, _⟩ := id ll2
      by_cases q1 : ∃ n t, r = .is n t
      · obtain ⟨nn, t, rfl⟩ := q1
        obtain ⟨xa, xxs, rfl, txa, txxs⟩ := Td.tuple tx2
        cases txxs with
        | cons t1 t2 =>
          cases t1
          cases t2 with
          | cons t3 t4 =>
            cases t3
            cases t4 with
            | cons t5 t6 =>
              cases t5
              cases t6
              have htb : t < bs.length := hrt
              refine ⟨_, .inr txa.sq, _, atI0 rfl, fun _ => ?_, fun hb => absurd hb (by decide)⟩
              exact ⟨⟨_, el2⟩, _, .inr txa.sq, _, atI1 rfl, _, .inr txa.sq, _, atIk 2 rfl, _, .inl (SqL.of eD2), _, hbD t htb, _, .cons (.str _) (.cons (.int _) (.cons (.int _) .nil)), le_sz (Nat.le_of_ble_eq_true rfl), fun v3 H3 c3 t3 => done c3 t3 _⟩
      · by_cases q2 : ∃ t, r = .go t
        · obtain ⟨t, rfl⟩ := q2
          obtain ⟨xa, xxs, rfl, txa, txxs⟩ := Td.tuple tx2
          cases txxs with
          | cons t1 t2 =>
            cases t1
            cases t2 with
            | cons t3 t4 =>
              cases t3
              cases t4
              have htb : t < bs.length := hrt
              refine ⟨_, .inr txa.sq, _, atI0 rfl, fun hb => absurd hb (by decide), fun _ => ⟨_, .inr txa.sq, _, atI0 rfl, fun _ => ?_, fun hb => absurd hb (by decide)⟩⟩
              exact ⟨⟨_, el2⟩, _, .inr txa.sq, _, atI1 rfl, _, .inl (SqL.of eD2), _, hbD t htb, _, .cons (.str _) (.cons (.int _) .nil), le_sz (Nat.le_of_ble_eq_true rfl), fun v3 H3 c3 t3 => done c3 t3 _⟩
        · have hw : ∃ (wd : Str) (rest : List PyData), r.d = .tuple (.str wd :: rest) ∧ wd ≠ "is" ∧ wd ≠ "go" ∧ trR bgf r = r := by
            cases r with
            | is n t => exact absurd ⟨n, t, rfl⟩ q1
            | go t => exact absurd ⟨t, rfl⟩ q2
            | _ => exact ⟨_, _, rfl, by decide, by decide, rfl⟩
          obtain ⟨wd, rest', ed, w1, w2, et'⟩ := hw
          have tx3 : Td K H2 x (trR bgf r).d := by
            rw [et']
            exact tx2
          rw [ed] at tx2
          obtain ⟨xa, xxs, rfl, txa, txxs⟩ := tx2.tuple
          cases txxs with
          | cons t1 t2 =>
            cases t1
            refine ⟨_, .inr txa.sq, .str wd, atI0 rfl, fun hb => absurd (of_decide_eq_true hb) w1, fun _ => ⟨_, .inr txa.sq, .str wd, atI0 rfl, fun hb => absurd (of_decide_eq_true hb) w2, fun _ => ⟨⟨_, el2⟩, done (Chg.refl _ _) tx3 _⟩⟩⟩
    · rintro σ H2 ⟨rq, rfl, ll2, c2⟩
      refine ⟨_, _, rfl, ?_, c2⟩
      rw [List.take_succ, hk, List.map_append, List.flatten_append]
      rw [lvk, ← ffl k, List.take_length] at ll2
      simp only [Option.toList_some, List.map_cons, List.map_nil, List.flatten_cons, List.flatten_nil, List.append_nil]
      exact ll2
  rintro σ H11 ⟨kq2, rq2, rfl, ll, c11⟩
  have hol2 : (ord.map nv).length = ord.length := List.length_map _
  rw [hol2, List.take_length] at ll
  have hrows : (ord.map ff).flatten = laidR bs tn := by
    unfold laidR
    rw [← hordR]
    congr 1
    refine List.map_congr_left fun k hk => ?_
    rw [hff]
    show (bs.getD k []).map (trR bgf) = _
    refine List.map_congr_left fun r hr' => ?_
    have hrt := htg _ (List.mem_of_getElem? (hget k (O.lt k hk))) r hr'
    have hbt : ∀ t, t < bs.length → bgf t = offR bs ord (ord.idxOf t) := fun t ht => by
      rw [hbO (ord.idxOf t) t (by rw [List.getElem?_eq_getElem (List.idxOf_lt_length_of_mem (O.all t ht)), List.getElem_idxOf]), hoff]
      rfl
    cases r with
    | is n t =>
      show Row.is n (bgf t) = Row.is n _
      rw [hbt t hrt]
    | go t =>
      show Row.go (bgf t) = Row.go _
      rw [hbt t hrt]
    | _ => rfl
  refine ⟨_, ll, fun v H12 c12 tv => q v H12 ((ord.map ff).flatten) hrows (cH7.trans ((c10'.fresh c11 ?_).trans c12)) tv ⟨bgf, ?_, ?_⟩ ?_⟩
  · intro a ha
    rw [List.mem_singleton.mp ha]
    exact c9.old hld
  · rw [hbO 0 0 O.z, off0]
  · intro k b' hb' j r hj
    have hkn : k < bs.length := (List.getElem?_eq_some_iff.mp hb').1
    obtain ⟨i, hi⟩ := List.mem_iff_getElem?.mp (O.all k hkn)
    have hbb : bs.getD k [] = b' := by
      have := hget k hkn
      rw [hb'] at this
      exact (Option.some.inj this).symm
    rw [hbO i k hi]
    have hg := flat_get (ord.map ff) i (ff k) (by rw [List.getElem?_map, hi]; rfl) j (trR bgf r) (by
      rw [hff]
      show ((bs.getD k []).map (trR bgf))[j]? = _
      rw [hbb, List.getElem?_map, hj]
      rfl)
    have ho' : off i = (((ord.map ff).take i).map List.length).sum := by
      rw [hoff]
      show ((ord.take i).map (fun k => (bs.getD k []).length)).sum = _
      rw [← List.map_take, List.map_map]
      congr 1
      refine List.map_congr_left fun k _ => ?_
      exact (ffl k).symm
    rw [ho']
    exact hg
  · intro r hr'
    obtain ⟨l, hl, hrl'⟩ := List.mem_flatten.mp hr'
    obtain ⟨k, hk, rfl⟩ := List.mem_map.mp hl
    rw [hff] at hrl'
    obtain ⟨r0, hr0, rfl⟩ := List.mem_map.mp hrl'
    exact ⟨_, List.mem_of_getElem? (hget k (O.lt k hk)), r0, hr0, by cases r0 <;> rfl⟩
end
end T5
set_option maxHeartbeats 8000000
namespace T5
open PySem PySem.Spec PyProof.Rows L2 T3
abbrev st_law_due : Stmt := topS 28
theorem sc_law_due : FnScope ["shape", "first", "second", "sign", "acts", "numbers", "flipped", "gathered", "thing", "act"] ["shape", "first", "second", "sign", "acts", "numbers", "flipped"] (defScope st_law_due) := ⟨rfl, rfl, rfl, by decide +kernel, rfl, by decide +kernel, by decide +kernel⟩
def Cell.num : Cell → Int
  | .mk n _ => n
def Cell.ps : Cell → List Cell
  | .mk _ ps => ps
def actOf (acts ns : List Nat) (c : Cell) : Nat := if c.num = ((ns.getD 0 0 : Nat) : Int) then acts.getD 0 0 else if c.num = ((ns.getD 1 0 : Nat) : Int) then acts.getD 1 0 else acts.getD 2 0
def dC : Cell := .mk 0 []
def stepC (n3 : Nat) (sg : Cell) (t : Cell) (g : List Cell) : Nat → List Cell
  | 1 => [t] ++ g
  | 2 => [.mk (n3 : Nat) [t]] ++ g
  | 3 => [t, t] ++ g
  | 4 => [yn (PyData.eqv t.d sg.d)] ++ g
  | 5 => [t.ps.getD 0 dC] ++ g
  | 6 => [t.ps.getD (t.ps.length - 1) dC] ++ g
  | _ => g
def gath (acts ns : List Nat) (sg : Cell) : List Cell → List Cell → List Cell
  | [], g => g
  | t :: ts, g => if actOf acts ns t = 7 then g else gath acts ns sg ts (stepC (ns.getD 3 0) sg t g (actOf acts ns t))
theorem step_len (n3 : Nat) (sg t : Cell) (g : List Cell) (a : Nat) : (stepC n3 sg t g a).length ≤ g.length + 2 := by
  unfold stepC
  split <;> simp <;> omega
section
variable {P : Program} {w : World} {K : PySem.W.Frag} {mg : Str → Option Value} {base : Heap}
def sp_law_due (K : PySem.W.Frag) : Sp := fun vs H Q _ => match vs with
  | [v, .ref fi, .ref se, sg, .ref ac, .ref nu, .bl fl] => ∃ (S : Shp) (cf cse : List Cell) (sgc : Cell) (acts ns : List Nat), S.Ok ∧ Td K H v S.d ∧ LC K H fi cf ∧ LC K H se cse ∧ Td K H sg sgc.d ∧ H ac = some (.lst (acts.map nv)) ∧ acts.length = 3 ∧ H nu = some (.lst (ns.map nv)) ∧ ns.length = 4 ∧
      cf.length ≤ 100 ∧ cse.length ≤ 100 ∧ sgc.size ≤ 32 ∧ (∀ t ∈ cf, t.size ≤ 32) ∧ (∀ t ∈ cf, actOf acts ns t = 5 ∨ actOf acts ns t = 6 → 0 < t.ps.length) ∧ (∀ t ∈ cf, actOf acts ns t ≤ 7) ∧
      ∀ v H', Chg [] H H' → Td K H' v (chain S (if fl then (gath acts ns sgc cf cse).reverse else gath acts ns sgc cf cse)).d → Q v H'
  | _ => False
theorem ok_law_due {f : Addr} {fd : FuncData} (F : Fun K "_law_due" "_law_due" st_law_due f fd) (T : Top K mg) (Claw_chain : Cal P w K mg base "_law_chain" 1 ["shape", "row"] (sp_law_chain K)) :
    FnOk P w K mg base CX0 2 f fd ["shape", "first", "second", "sign", "acts", "numbers", "flipped"] (sp_law_due K) := by
  refine F.ok sc_law_due (fun vs H Q E h => ?_) (fun cdv A outer s H vs Q E hr h => ?_)
  · match vs, h with
    | [v, .ref fi, .ref se, sg, .ref ac, .ref nu, .bl fl], _ => rfl
  match vs, h with
  | [v, .ref fi, .ref se, sg, .ref ac, .ref nu, .bl fl], h =>
  obtain ⟨S, cf, cse, sgc, acts, ns, ok, ts, ⟨fv, efi, tfi⟩, lse, tsg, eac, hac, enu, hns, hcf, hcse, hsg, hsz, hps, ha7, q⟩ := h
  have ts0 := ts
  obtain ⟨sa, rfl, ta⟩ := shp_open ts
  have hnk : ∀ k : Nat, k < 4 → atI (ns.map nv) (k : Int) = some (.int ((ns.getD k 0 : Nat) : Int)) := fun k hk => atIk k (by
    rw [List.getElem?_map, List.getD_eq_getElem?_getD, List.getElem?_eq_getElem (by omega)]
    rfl)
  have hak : ∀ k : Nat, k < 3 → atI (acts.map nv) (k : Int) = some (.int ((acts.getD k 0 : Nat) : Int)) := fun k hk => atIk k (by
    rw [List.getElem?_map, List.getD_eq_getElem?_getD, List.getElem?_eq_getElem (by omega)]
    rfl)
  have lfi := tfi.length
  rw [List.length_map] at lfi
  refine ⟨_, (pss_cons (ps_set (i := 7) sc_law_due.nd rfl (.inl rfl) (pe_callTy callList (by rfl) T.list (by decide +kernel) (pa_cons (mv 2) pa_nil)))
(mcut (mforL PassesOwn.never rfl (mv 1) (pg_name (i := 8) sc_law_due.nd rfl (.inl rfl))
(pss_cons (ps_set (i := 9) sc_law_due.nd rfl (.inl rfl) (pe_ix ixM (mv 4) pe_int (fun _ _ => rfl)))
(mcut (mif (mcmp opEq (pe_ix ixM (mv 8) pe_int (fun _ _ => rfl)) (pe_ix ixM (mv 5) pe_int (fun _ _ => rfl)))
(pss_one (ps_set (i := 9) sc_law_due.nd rfl (.inl rfl) (pe_ix ixM (mv 4) pe_int (fun _ _ => rfl))))
(pss_one (mif (mcmp opEq (pe_ix ixM (mv 8) pe_int (fun _ _ => rfl)) (pe_ix ixM (mv 5) pe_int (fun _ _ => rfl)))
(pss_one (ps_set (i := 9) sc_law_due.nd rfl (.inl rfl) (pe_ix ixM (mv 4) pe_int (fun _ _ => rfl))))
pss_nil)))
(pss_cons (mif (mcmp opEq (mv 9) pe_int)
(pss_one ps_break)
pss_nil)
(mcut (mif (mcmp opEq (mv 9) pe_int)
(pss_one (ps_set (i := 7) sc_law_due.nd rfl (.inl rfl) (pe_op opCatC (mlstC (pa_cons (mv 8) pa_nil)) (mv 7))))
pss_nil)
(mcut (mif (mcmp opEq (mv 9) pe_int)
(pss_one (ps_set (i := 7) sc_law_due.nd rfl (.inl rfl) (pe_op opCatC (mlstC (pa_cons (mtupD (pa_cons (pe_ix ixM (mv 5) pe_int (fun _ _ => rfl)) (pa_cons (mtupD (pa_cons (mv 8) pa_nil)) pa_nil))) pa_nil)) (mv 7))))
pss_nil)
(mcut (mif (mcmp opEq (mv 9) pe_int)
(pss_one (ps_set (i := 7) sc_law_due.nd rfl (.inl rfl) (pe_op opCatC (mlstC (pa_cons (mv 8) (pa_cons (mv 8) pa_nil))) (mv 7))))
pss_nil)
(mcut (mif (mcmp opEq (mv 9) pe_int)
(pss_one (ps_set (i := 7) sc_law_due.nd rfl (.inl rfl) (pe_op opCatC (mlstC (pa_cons (mtupD (pa_cons (pe_callTy callInt (by rfl) T.int (by decide +kernel) (pa_cons (mcmpE (op_eqD hr.units) (mv 8) (mv 3)) pa_nil)) (pa_cons (mtupD pa_nil) pa_nil))) pa_nil)) (mv 7))))
pss_nil)
(mcut (mif (mcmp opEq (mv 9) pe_int)
(pss_one (ps_set (i := 7) sc_law_due.nd rfl (.inl rfl) (pe_op opCatC (mlstC (pa_cons (pe_ix ixM (pe_ix ixM (mv 8) pe_int (fun _ _ => rfl)) pe_int (fun _ _ => rfl)) pa_nil)) (mv 7))))
pss_nil)
(pss_one (mif (mcmp opEq (mv 9) pe_int)
(pss_one (ps_set (i := 7) sc_law_due.nd rfl (.inl rfl) (pe_op opCatC (mlstC (pa_cons (pe_ix ixM (pe_ix ixM (mv 8) pe_int (fun _ _ => rfl)) (pe_op opSub (pe_callB callLen (by rfl) T.len (by decide +kernel) (pa_cons (pe_ix ixM (mv 8) pe_int (fun _ _ => rfl)) pa_nil)) pe_int) (fun _ _ => rfl)) pa_nil)) (mv 7))))
pss_nil)))))))))))
(pss_cons (mif (mval (mv 6))
(pss_one (ps_set (i := 7) sc_law_due.nd rfl (.inl rfl) (mrev (mv 7))))
pss_nil)
(pss_one (ps_ret (pe_cal Claw_chain (hr.mono (by decide)) (by rfl) (pa_cons (mv 0) (pa_cons (mv 7) pa_nil))))))))
  , ?_⟩
  obtain ⟨sv, ese, tse⟩ := id lse
  refine ⟨sv, .inl (SqL.of ese), fun g0 hg0 => ?_⟩
  have c1 : Chg [] H (upd H g0 (.lst sv)) := Chg.new hg0
  have lg0 : LC K (upd H g0 (.lst sv)) g0 cse := ⟨sv, upd_same, tse.keep c1.kt⟩
  generalize upd H g0 (.lst sv) = H1 at *
  refine ⟨fun σ H' => ∃ (gp : Addr) (x1 x2 : Option V), σ = [some (.ref sa), some (.ref fi), some (.ref se), some sg, some (.ref ac), some (.ref nu), some (.bl fl), some (.ref gp), x1, x2] ∧ LC K H' gp (gath acts ns sgc cf cse) ∧ Chg [] H H', ?_, ?_⟩
  · refine ⟨fv, SqL.of (c1.get (by simp) efi), fun i σ H' => ∃ (gp : Addr) (x1 x2 : Option V) (g : List Cell), σ = [some (.ref sa), some (.ref fi), some (.ref se), some sg, some (.ref ac), some (.ref nu), some (.bl fl), some (.ref gp), x1, x2] ∧ LC K H' gp g ∧ Chg [] H H' ∧ gath acts ns sgc (cf.drop i) g = gath acts ns sgc cf cse ∧ g.length ≤ 100 + 2 * i, ?_, ?_, ?_, ?_⟩
    · exact ⟨g0, _, _, cse, rfl, lg0, c1, rfl, by omega⟩
    · rintro i σ H' _ ⟨gp, x1, x2, g, rfl, _, c, _⟩
      exact SqL.of (c.get (by simp) efi)
    · rintro i x σ H' hx ⟨gp, x1, x2, g, rfl, lg, c, hg, hgl⟩
      obtain ⟨td, htd, tx⟩ := (tfi.keep c.kt).getV hx
      rw [List.getElem?_map] at htd
      obtain ⟨t, ht, rfl⟩ := Option.map_eq_some_iff.mp htd
      have htm : t ∈ cf := List.mem_of_getElem? ht
      have hi : i < cf.length := (List.getElem?_eq_some_iff.mp ht).1
      have hd : cf.drop i = t :: cf.drop (i + 1) := by
        rw [List.drop_eq_getElem_cons hi]
        congr 1
        exact (List.getElem?_eq_some_iff.mp ht).2
      rw [hd, gath] at hg
      have hsz' := hsz t htm
      have hps' := hps t htm
      have ha' := ha7 t htm
      obtain ⟨a, hadef⟩ : ∃ a, a = actOf acts ns t := ⟨_, rfl⟩
      rw [← hadef] at hg hps' ha'
      have txx := tx
      obtain ⟨m, ps⟩ := t
      rw [Cell.d, Cell.ds_map] at tx
      obtain ⟨xa, xxs, rfl, txa, txxs⟩ := tx.tuple
      cases txxs with
      | cons t1 t2 =>
        cases t1
        cases t2 with
        | cons t3 t4 =>
          cases t4
          obtain ⟨ya, ys, rfl, tya, tys⟩ := t3.tuple
          have ly := tys.length
          rw [List.length_map] at ly
          have e2 := c.get (by simp) eac
          have en := c.get (by simp) enu
          refine ⟨_, .inl (SqL.of e2), _, hak 2 (by decide), fun σ H' => σ = [some (.ref sa), some (.ref fi), some (.ref se), some sg, some (.ref ac), some (.ref nu), some (.bl fl), some (.ref gp), some (.ref xa), some (.int (a : Nat))] ∧ LC K H' gp g ∧ Chg [] H H' ∧ Td K H' (.ref xa) (Cell.mk m ps).d, ?_, ?_⟩
          · refine ⟨_, .inr txa.sq, _, atI0 rfl, _, .inl (SqL.of en), _, hnk 0 (by decide), fun hb => ?_, fun hb => ⟨_, .inr txa.sq, _, atI0 rfl, _, .inl (SqL.of en), _, hnk 1 (by decide), fun hb2 => ?_, fun hb2 => ?_⟩⟩
            · have e := of_decide_eq_true hb
              have ea : a = acts.getD 0 0 := by rw [hadef]; unfold actOf; exact if_pos e
              exact ⟨_, .inl (SqL.of e2), _, hak 0 (by decide), by rw [ea]; rfl, lg, c, txx⟩
            · have n1 := of_decide_eq_false hb
              have e := of_decide_eq_true hb2
              have ea : a = acts.getD 1 0 := by rw [hadef]; unfold actOf; exact (if_neg n1).trans (if_pos e)
              exact ⟨_, .inl (SqL.of e2), _, hak 1 (by decide), by rw [ea]; rfl, lg, c, txx⟩
            · have n1 := of_decide_eq_false hb
              have n2 := of_decide_eq_false hb2
              have ea : a = acts.getD 2 0 := by rw [hadef]; unfold actOf; exact (if_neg n1).trans (if_neg n2)
              exact ⟨by rw [ea]; rfl, lg, c, txx⟩
          rintro σ H2 ⟨rfl, lg, c, txx⟩
          refine ⟨fun hb => ?_, fun hb => ?_⟩
          · have e : a = 7 := by have := of_decide_eq_true hb; omega
            rw [if_pos e] at hg
            exact ⟨gp, _, _, rfl, by rw [← hg]; exact lg, c⟩
          have na : ¬ a = 7 := by have := of_decide_eq_false hb; omega
          rw [if_neg na] at hg
          obtain ⟨GM, hGM⟩ : ∃ GM : Nat → L2.St → Hp → Prop, GM = fun j σ H' => ∃ (gp : Addr), σ = [some (.ref sa), some (.ref fi), some (.ref se), some sg, some (.ref ac), some (.ref nu), some (.bl fl), some (.ref gp), some (.ref xa), some (.int (a : Nat))] ∧ LC K H' gp (if a ≤ j then stepC (ns.getD 3 0) sgc (.mk m ps) g a else g) ∧ Chg [] H H' ∧ Td K H' (.ref xa) (Cell.mk m ps).d := ⟨_, rfl⟩
          have stay : ∀ (j : Nat) (σ : L2.St) (H' : Hp), GM j σ H' → ¬ (a : Int) = ((j + 1 : Nat) : Int) → GM (j + 1) σ H' := by
            intro j σ H' h hne
            rw [hGM] at h ⊢
            obtain ⟨gp, e, l2, c⟩ := h
            refine ⟨gp, e, ?_, c⟩
            by_cases z : a ≤ j
            · rw [if_pos z] at l2
              rw [if_pos (by omega)]
              exact l2
            · rw [if_neg z] at l2
              rw [if_neg (by omega)]
              exact l2
          have g00 : GM 0 [some (.ref sa), some (.ref fi), some (.ref se), some sg, some (.ref ac), some (.ref nu), some (.bl fl), some (.ref gp), some (.ref xa), some (.int (a : Nat))] H2 := by
            rw [hGM]
            refine ⟨gp, rfl, ?_, c, txx⟩
            by_cases z : a ≤ 0
            · have : a = 0 := by omega
              rw [this]
              exact lg
            · rw [if_neg z]
              exact lg
          have opn : ∀ {H5 : Hp}, Td K H5 (.ref xa) (Cell.mk m ps).d → ∃ ya ys, Tt K H5 xa [.int m, .ref ya] ∧ Tt K H5 ya ys ∧ TdAll K H5 ys (ps.map Cell.d) := by
            intro H5 t5
            rw [Cell.d, Cell.ds_map] at t5
            obtain ⟨xa', xxs, e, txa, txxs⟩ := t5.tuple
            cases e
            cases txxs with
            | cons t1 t2 =>
              cases t1
              cases t2 with
              | cons t3 t4 =>
                cases t4
                obtain ⟨ya, ys, rfl, tya, tys⟩ := t3.tuple
                exact ⟨ya, ys, txa, tya, tys⟩
          have h5x := g00
          rw [hGM] at h5x
          obtain ⟨gp5, e5, lg5, c5, txx⟩ := h5x
          cases e5
          refine ⟨GM 1, ?_, ?_⟩
          · refine ⟨fun hb => ?_, fun hb => stay 0 _ _ g00 (of_decide_eq_false hb)⟩
            have e : a = 1 := by have := of_decide_eq_true hb; omega
            refine ⟨[.mk m ps], .cons txx .nil, le_sz (Nat.le_of_ble_eq_true rfl), fun l6 H6 h6 c6 l6' => ⟨_, _, l6', lg5.chg c6 (by simp), by rw [if_neg (by omega)]; simp only [List.length_cons, List.length_nil]; omega, fun p H9 hp c9 lp => ?_⟩⟩
            rw [hGM]
            refine ⟨p, rfl, ?_, c5.trans (c6.trans c9), txx.keep (c6.trans c9).kt⟩
            rw [if_neg (by omega)] at lp
            rw [if_pos (by omega), e]
            exact lp
          rintro σ H5 h5
          have h5x := h5
          rw [hGM] at h5x
          obtain ⟨gp5, e5, lg5, c5, txx⟩ := h5x
          subst e5
          refine ⟨GM 2, ?_, ?_⟩
          · refine ⟨fun hb => ?_, fun hb => stay 1 _ _ h5 (of_decide_eq_false hb)⟩
            have e : a = 2 := by have := of_decide_eq_true hb; omega
            refine ⟨_, .inl (SqL.of (c5.get (by simp) enu)), _, hnk 3 (by decide), _, .cons txx .nil, le_sz (Nat.le_of_ble_eq_true rfl), fun v7 H7 c7 t7 => ⟨_, .cons (.int _) (.cons t7 .nil), le_sz (Nat.le_of_ble_eq_true rfl), fun v8 H8 c8 t8 => ⟨[.mk ((ns.getD 3 0 : Nat) : Int) [.mk m ps]], .cons (by rw [Cell.d, Cell.ds_map]; exact t8) .nil, le_sz (Nat.le_of_ble_eq_true rfl), fun l6 H6 h6 c6 l6' => ⟨_, _, l6', lg5.chg (c7.trans (c8.trans c6)) (by simp), by rw [if_neg (by omega)]; simp only [List.length_cons, List.length_nil]; omega, fun p H9 hp c9 lp => ?_⟩⟩⟩⟩
            rw [hGM]
            refine ⟨p, rfl, ?_, c5.trans (c7.trans (c8.trans (c6.trans c9))), txx.keep (c7.trans (c8.trans (c6.trans c9))).kt⟩
            rw [if_neg (by omega)] at lp
            rw [if_pos (by omega), e]
            exact lp
          rintro σ H5 h5
          have h5x := h5
          rw [hGM] at h5x
          obtain ⟨gp5, e5, lg5, c5, txx⟩ := h5x
          subst e5
          refine ⟨GM 3, ?_, ?_⟩
          · refine ⟨fun hb => ?_, fun hb => stay 2 _ _ h5 (of_decide_eq_false hb)⟩
            have e : a = 3 := by have := of_decide_eq_true hb; omega
            refine ⟨[.mk m ps, .mk m ps], .cons txx (.cons txx .nil), le_sz (Nat.le_of_ble_eq_true rfl), fun l6 H6 h6 c6 l6' => ⟨_, _, l6', lg5.chg c6 (by simp), by rw [if_neg (by omega)]; simp only [List.length_cons, List.length_nil]; omega, fun p H9 hp c9 lp => ?_⟩⟩
            rw [hGM]
            refine ⟨p, rfl, ?_, c5.trans (c6.trans c9), txx.keep (c6.trans c9).kt⟩
            rw [if_neg (by omega)] at lp
            rw [if_pos (by omega), e]
            exact lp
          rintro σ H5 h5
          have h5x := h5
          rw [hGM] at h5x
          obtain ⟨gp5, e5, lg5, c5, txx⟩ := h5x
          subst e5
          refine ⟨GM 4, ?_, ?_⟩
          · refine ⟨fun hb => ?_, fun hb => stay 3 _ _ h5 (of_decide_eq_false hb)⟩
            have e : a = 4 := by have := of_decide_eq_true hb; omega
            refine ⟨_, _, txx.dp, (tsg.keep c5.kt).dp, Cell.shaped _ hsz', sgc.shaped hsg, _, .nil, le_sz (Nat.le_of_ble_eq_true rfl), fun v7 H7 c7 t7 => ⟨_, .cons (.int _) (.cons t7 .nil), le_sz (Nat.le_of_ble_eq_true rfl), fun v8 H8 c8 t8 => ⟨[yn (PyData.eqv (Cell.mk m ps).d sgc.d)], .cons (by rw [yn, Cell.d, Cell.ds]; exact t8) .nil, le_sz (Nat.le_of_ble_eq_true rfl), fun l6 H6 h6 c6 l6' => ⟨_, _, l6', lg5.chg (c7.trans (c8.trans c6)) (by simp), by rw [if_neg (by omega)]; simp only [List.length_cons, List.length_nil]; omega, fun p H9 hp c9 lp => ?_⟩⟩⟩⟩
            rw [hGM]
            refine ⟨p, rfl, ?_, c5.trans (c7.trans (c8.trans (c6.trans c9))), txx.keep (c7.trans (c8.trans (c6.trans c9))).kt⟩
            rw [if_neg (by omega)] at lp
            rw [if_pos (by omega), e]
            exact lp
          rintro σ H5 h5
          have h5x := h5
          rw [hGM] at h5x
          obtain ⟨gp5, e5, lg5, c5, txx⟩ := h5x
          subst e5
          refine ⟨GM 5, ?_, ?_⟩
          · refine ⟨fun hb => ?_, fun hb => stay 4 _ _ h5 (of_decide_eq_false hb)⟩
            have e : a = 5 := by have := of_decide_eq_true hb; omega
            have hp0 : 0 < ps.length := hps' (.inl e)
            obtain ⟨ya, ys, txa, tya, tys⟩ := opn txx
            obtain ⟨y, hy, ty⟩ := tys.get (i := 0) (e := (ps.getD 0 dC).d) (by rw [List.getElem?_map, List.getD_eq_getElem?_getD, List.getElem?_eq_getElem hp0]; rfl)
            refine ⟨_, .inr txa.sq, _, atI1 rfl, _, .inr tya.sq, _, atIk 0 hy, ⟨[ps.getD 0 dC], .cons ty .nil, le_sz (Nat.le_of_ble_eq_true rfl), fun l6 H6 h6 c6 l6' => ⟨_, _, l6', lg5.chg c6 (by simp), by rw [if_neg (by omega)]; simp only [List.length_cons, List.length_nil]; omega, fun p H9 hp c9 lp => ?_⟩⟩⟩
            rw [hGM]
            refine ⟨p, rfl, ?_, c5.trans (c6.trans c9), txx.keep (c6.trans c9).kt⟩
            rw [if_neg (by omega)] at lp
            rw [if_pos (by omega), e]
            exact lp
          rintro σ H5 h5
          have h5x := h5
          rw [hGM] at h5x
          obtain ⟨gp5, e5, lg5, c5, txx⟩ := h5x
          subst e5
          have nxt : ∀ (gq : Addr) (H' : Hp), LC K H' gq (stepC (ns.getD 3 0) sgc (.mk m ps) g a) → Chg [] H H' → ∃ (gp : Addr) (x1 x2 : Option V) (g : List Cell), [some (.ref sa), some (.ref fi), some (.ref se), some sg, some (.ref ac), some (.ref nu), some (.bl fl), some (.ref gq), some (.ref xa), some (.int (a : Nat))] = [some (.ref sa), some (.ref fi), some (.ref se), some sg, some (.ref ac), some (.ref nu), some (.bl fl), some (.ref gp), x1, x2] ∧ LC K H' gp g ∧ Chg [] H H' ∧ gath acts ns sgc (cf.drop (i + 1)) g = gath acts ns sgc cf cse ∧ g.length ≤ 100 + 2 * (i + 1) := by
            intro gq H' l c'
            have hl := step_len (ns.getD 3 0) sgc (.mk m ps) g a
            exact ⟨gq, _, _, _, rfl, l, c', by rw [hadef] at hg ⊢; exact hg, by omega⟩
          refine ⟨fun hb => ?_, fun hb => ?_⟩
          · have e : a = 6 := by have := of_decide_eq_true hb; omega
            have hp0 : 0 < ps.length := hps' (.inr e)
            obtain ⟨ya, ys, txa, tya, tys⟩ := opn txx
            have ly2 := tys.length
            rw [List.length_map] at ly2
            obtain ⟨y, hy, ty⟩ := tys.get (i := ps.length - 1) (e := (ps.getD (ps.length - 1) dC).d) (by rw [List.getElem?_map, List.getD_eq_getElem?_getD, List.getElem?_eq_getElem (by omega)]; rfl)
            have el : ((ys.length : Nat) : Int) - 1 = ((ps.length - 1 : Nat) : Int) := by omega
            refine ⟨_, .inr txa.sq, _, atI1 rfl, _, .inr txa.sq, _, atI1 rfl, _, .inr tya.sq, _, .inr tya.sq, _, by rw [el]; exact atIk _ hy, ⟨[ps.getD (ps.length - 1) dC], .cons ty .nil, le_sz (Nat.le_of_ble_eq_true rfl), fun l6 H6 h6 c6 l6' => ⟨_, _, l6', lg5.chg c6 (by simp), by rw [if_neg (by omega)]; simp only [List.length_cons, List.length_nil]; omega, fun p H9 hp c9 lp => ?_⟩⟩⟩
            rw [if_neg (by omega)] at lp
            refine nxt p H9 ?_ (c5.trans (c6.trans c9))
            rw [e]
            exact lp
          · have n6 : ¬ a = 6 := by have := of_decide_eq_false hb; omega
            rw [if_pos (by omega)] at lg5
            exact nxt _ _ lg5 c5
    · rintro σ H' ⟨gp, x1, x2, g, rfl, lg, c, hg, hgl⟩
      rw [List.drop_eq_nil_of_le (by omega), gath] at hg
      exact ⟨gp, x1, x2, rfl, by rw [← hg]; exact lg, c⟩
  rintro σ H2 ⟨gp, x1, x2, rfl, lg, c⟩
  have hgl : ∀ (cf g : List Cell), (gath acts ns sgc cf g).length ≤ g.length + 2 * cf.length := by
    intro cf
    induction cf with
    | nil => intro g; exact Nat.le_refl _
    | cons t ts ih =>
      intro g
      rw [gath]
      split
      · omega
      · have := ih (stepC (ns.getD 3 0) sgc t g (actOf acts ns t))
        have h2 := step_len (ns.getD 3 0) sgc t g (actOf acts ns t)
        rw [List.length_cons]
        omega
  have hg2 := hgl cf cse
  cases fl with
  | false =>
    exact ⟨(fun h => nomatch h), fun _ => ⟨S, _, ok, ts0.keep c.kt, lg, by omega, fun v H3 c3 tv => q v H3 (c.trans c3) tv⟩⟩
  | true =>
    refine ⟨fun _ => ?_, (fun h => nomatch h)⟩
    obtain ⟨ws, ew, tw⟩ := lg
    refine ⟨ws, SqL.of ew, fun l hl => ?_⟩
    have c3 : Chg [] H2 (upd H2 l (.lst ws.reverse)) := Chg.new hl
    have lr : LC K (upd H2 l (.lst ws.reverse)) l (gath acts ns sgc cf cse).reverse := ⟨_, upd_same, by rw [List.map_reverse]; exact (tw.keep c3.kt).rev⟩
    generalize upd H2 l (.lst ws.reverse) = H3 at *
    exact ⟨S, _, ok, ts0.keep (c.trans c3).kt, lr, by rw [List.length_reverse]; omega, fun v H4 c4 tv => q v H4 (c.trans (c3.trans c4)) tv⟩
end
end T5
set_option maxHeartbeats 2000000
/-! the laid blocks run -/
namespace T5
open PySem PySem.Spec PyProof.Rows L2 T3
def GoB (B : Built) (fs : List Frame) (rows : List Row) (i : Nat) (h s : List Cell) (c : Cell) (N : Nat) : Prop := ∃ n, n ≤ N ∧ Go B fs rows i h s c n
theorem GoB.le {B : Built} {fs : List Frame} {rows : List Row} {i : Nat} {h s : List Cell} {c : Cell} {N M : Nat} (g : GoB B fs rows i h s c N) (l : N ≤ M) : GoB B fs rows i h s c M := by
  obtain ⟨n, h1, h2⟩ := g
  exact ⟨n, by omega, h2⟩
/-- the blocks' places in the rows -/
structure Laid (blocks : List (List Row)) (rows : List Row) (bg : Nat → Nat) : Prop where
  z : bg 0 = 0
  at' : ∀ k b, blocks[k]? = some b → ∀ j r, b[j]? = some r → rows[bg k + j]? = some (trR bg r)
theorem exs_tr (bg : Nat → Nat) {h s h' s' : List Cell} : ∀ {rs : List Row}, Exs rs h s h' s' → ∀ r ∈ rs, trR bg r = r
  | [], _, r, hr => nomatch hr
  | q :: rs, .cons d e, r, hr => by
    rcases List.mem_cons.mp hr with rfl | hr
    · cases d <;> rfl
    · exact exs_tr bg e r hr
section
variable {B : Built} {fs : List Frame} {blocks : List (List Row)} {rows b pre qs suf : List Row} {bg : Nat → Nat} {k : Nat} {h s h' s' : List Cell} {c : Cell} {N : Nat}
theorem mid_get {pre qs suf : List Row} {j : Nat} {r : Row} (hj : qs[j]? = some r) : (pre ++ qs ++ suf)[pre.length + j]? = some r := by
  rw [List.append_assoc, List.getElem?_append_right (by omega), Nat.add_sub_cancel_left, List.getElem?_append_left (List.getElem?_eq_some_iff.mp hj).1]
  exact hj
theorem segB (L : Laid blocks rows bg) (hb : blocks[k]? = some b) (e : b = pre ++ qs ++ suf) (x : Exs qs h s h' s') (g : GoB B fs rows (bg k + (pre ++ qs).length) h' s' c N) : GoB B fs rows (bg k + pre.length) h s c (N + qs.length) := by
  obtain ⟨n, hn, g⟩ := g
  rw [List.length_append, ← Nat.add_assoc] at g
  refine ⟨n + qs.length, by omega, x.go (fun j r hj => ?_) g⟩
  have := L.at' k b hb (pre.length + j) r (by rw [e]; exact mid_get hj)
  rw [exs_tr bg x r (List.mem_of_getElem? hj), ← Nat.add_assoc] at this
  exact this
theorem goB {t : Nat} (L : Laid blocks rows bg) (hb : blocks[k]? = some b) (e : b = pre ++ [.go t] ++ suf) (g : GoB B fs rows (bg t) h s c N) : GoB B fs rows (bg k + pre.length) h s c (N + 1) := by
  obtain ⟨n, hn, g⟩ := g
  have := L.at' k b hb (pre.length + 0) (.go t) (by rw [e]; exact mid_get rfl)
  exact ⟨n + 1, by omega, .go (t := bg t) this g⟩
theorem isYes {n m : Int} {t : Nat} {ps : List Cell} (L : Laid blocks rows bg) (hb : blocks[k]? = some b) (e : b = pre ++ [.is n t] ++ suf) (hm : m = n) (g : GoB B fs rows (bg k + (pre ++ [Row.is n t]).length) h (s ++ [.mk m ps]) c N) : GoB B fs rows (bg k + pre.length) h (s ++ [.mk m ps]) c (N + 1) := by
  obtain ⟨q, hn, g⟩ := g
  have := L.at' k b hb (pre.length + 0) (.is n t) (by rw [e]; exact mid_get rfl)
  refine ⟨q + 1, by omega, .is (t := bg t) (k := n) this ?_⟩
  rw [if_pos hm]
  rw [List.length_append] at g
  exact g
theorem isNo {n m : Int} {t : Nat} {ps : List Cell} (L : Laid blocks rows bg) (hb : blocks[k]? = some b) (e : b = pre ++ [.is n t] ++ suf) (hm : ¬ m = n) (g : GoB B fs rows (bg t) h (s ++ [.mk m ps]) c N) : GoB B fs rows (bg k + pre.length) h (s ++ [.mk m ps]) c (N + 1) := by
  obtain ⟨q, hn, g⟩ := g
  have := L.at' k b hb (pre.length + 0) (.is n t) (by rw [e]; exact mid_get rfl)
  refine ⟨q + 1, by omega, .is (t := bg t) (k := n) this ?_⟩
  rw [if_neg hm]
  exact g
theorem callB {m f : Str} {j : Nat} {rows' : List Row} {given : List Cell} (L : Laid blocks rows bg) (hb : blocks[k]? = some b) (e : b = pre ++ [.call m f j] ++ suf) (hB : B m f = some (j, rows')) (hj : given.length = j)
    (g : GoB B (fs ++ [⟨rows, bg k + (pre ++ [Row.call m f j]).length, h, s⟩]) rows' 0 given [] c N) : GoB B fs rows (bg k + pre.length) h (s ++ given) c (N + 1) := by
  obtain ⟨n, hn, g⟩ := g
  have := L.at' k b hb (pre.length + 0) (.call m f j) (by rw [e]; exact mid_get rfl)
  rw [List.length_append] at g
  exact ⟨n + 1, by omega, .call (m := m) (f := f) (k := j) this hB hj g⟩
theorem backB {F : Frame} {r : Cell} (L : Laid blocks rows bg) (hb : blocks[k]? = some b) (e : b = pre ++ [.back] ++ suf) (g : GoB B fs F.rows F.at F.held (F.stack ++ [r]) c N) : GoB B (fs ++ [F]) rows (bg k + pre.length) h (s ++ [r]) c (N + 1) := by
  obtain ⟨n, hn, g⟩ := g
  have := L.at' k b hb (pre.length + 0) .back (by rw [e]; exact mid_get rfl)
  exact ⟨n + 1, by omega, .back (rows' := F.rows) (i' := F.at) (h' := F.held) (s' := F.stack) this g⟩
theorem doneB {r : Cell} (L : Laid blocks rows bg) (hb : blocks[k]? = some b) (e : b = pre ++ [.back] ++ suf) : GoB B [] rows (bg k + pre.length) h (s ++ [r]) r 1 := by
  have := L.at' k b hb (pre.length + 0) .back (by rw [e]; exact mid_get rfl)
  exact ⟨1, Nat.le_refl _, .done this⟩
end
/-! ### links -/
theorem parts_flat (S : Shp) (ok : S.Ok) (x y : Cell) : parts S x y = ((List.range S.wide).map fun p => if p = S.here then x else if p = S.there then y else .mk (S.fill : Nat) []) := by
  unfold parts
  refine List.ext_getElem? fun j => ?_
  have h1 := ok.h
  have h2 := ok.t
  have h3 := ok.ht
  rw [List.getElem?_map]
  by_cases hj : j < S.wide
  · rw [List.getElem?_range hj, Option.map_some]
    by_cases a : S.there = j
    · rw [← a, List.getElem?_set_self (by rw [List.length_set, List.length_replicate]; exact h2), if_neg (fun z => h3 z.symm), if_pos rfl]
    · rw [List.getElem?_set_ne a]
      by_cases d : S.here = j
      · rw [← d, List.getElem?_set_self (by rw [List.length_replicate]; exact h1), if_pos rfl]
      · rw [List.getElem?_set_ne d, List.getElem?_replicate, if_pos hj, if_neg (fun z => d z.symm), if_neg (fun z => a z.symm)]
  · rw [List.getElem?_eq_none (by rw [List.length_set, List.length_set, List.length_replicate]; omega), List.getElem?_eq_none (by rw [List.length_range]; omega)]
    rfl
theorem parts_here (S : Shp) (ok : S.Ok) (x y : Cell) : (parts S x y)[S.here]? = some x := by
  rw [parts_flat S ok, List.getElem?_map, List.getElem?_range ok.h, Option.map_some, if_pos rfl]
theorem parts_there (S : Shp) (ok : S.Ok) (x y : Cell) : (parts S x y)[S.there]? = some y := by
  rw [parts_flat S ok, List.getElem?_map, List.getElem?_range ok.t, Option.map_some, if_neg (fun z => ok.ht z.symm), if_pos rfl]
theorem link_size (S : Shp) (ok : S.Ok) (x y : Cell) : (linkC S x y).size ≤ x.size + y.size + 2 := by
  unfold linkC
  rw [Cell.size, parts_flat S ok]
  have h1 := ok.h
  have h2 := ok.t
  have h3 := ok.ht
  have fz : (Cell.mk (S.fill : Nat) []).size = 1 := by rw [Cell.size, Cell.sizes]
  rcases ok.w with w | w
  · rw [w] at h1 h2 ⊢
    have : (S.here = 0 ∧ S.there = 1) ∨ (S.here = 1 ∧ S.there = 0) := by omega
    rcases this with ⟨a, b⟩ | ⟨a, b⟩ <;>
      · rw [a, b]
        show Cell.sizes [_, _] + 1 ≤ _
        simp only [Cell.sizes]
        simp
        try omega
  · rw [w] at h1 h2 ⊢
    have : (S.here = 0 ∧ S.there = 1) ∨ (S.here = 0 ∧ S.there = 2) ∨ (S.here = 1 ∧ S.there = 0) ∨ (S.here = 1 ∧ S.there = 2) ∨ (S.here = 2 ∧ S.there = 0) ∨ (S.here = 2 ∧ S.there = 1) := by omega
    rcases this with ⟨a, b⟩ | ⟨a, b⟩ | ⟨a, b⟩ | ⟨a, b⟩ | ⟨a, b⟩ | ⟨a, b⟩ <;>
      · rw [a, b]
        show Cell.sizes [_, _, _] + 1 ≤ _
        simp only [Cell.sizes]
        simp [fz]
        try omega
theorem link_exs (S : Shp) (ok : S.Ok) (tr rr : List Row) (x y : Cell) (h : List Cell) (hx : ∀ s, Exs tr h s h (s ++ [x])) (hy : ∀ s, Exs rr h s h (s ++ [y])) (hz : (linkC S x y).size ≤ 256) (s : List Cell) : Exs (linkR S tr rr) h s h (s ++ [linkC S x y]) := by
  have go : ∀ n, ∀ s, Exs (((List.range n).map (pieceR S tr rr)).flatten) h s h (s ++ (List.range n).map fun p => if p = S.here then x else if p = S.there then y else .mk (S.fill : Nat) []) := by
    intro n
    induction n with
    | zero =>
      intro s
      simp only [List.range_zero, List.map_nil, List.flatten_nil, List.append_nil]
      exact .nil
    | succ n ih =>
      intro s
      rw [List.range_succ, List.map_append, List.flatten_append, List.map_append, ← List.append_assoc]
      refine (ih s).app ?_
      simp only [List.map_cons, List.map_nil, List.flatten_cons, List.flatten_nil, List.append_nil]
      unfold pieceR
      by_cases a : n = S.here
      · rw [if_pos a, if_pos a]
        exact hx _
      · rw [if_neg a, if_neg a]
        by_cases d : n = S.there
        · rw [if_pos d, if_pos d]
          exact hy _
        · rw [if_neg d, if_neg d]
          refine .one ?_
          have := Do.make (n := ((S.fill : Nat) : Int)) (k := 0) (cs := []) (h := h) (s := s ++ (List.range n).map fun p => if p = S.here then x else if p = S.there then y else .mk (S.fill : Nat) []) rfl (by rw [Cell.size, Cell.sizes]; decide)
          rw [List.append_nil] at this
          exact this
  unfold linkR
  refine (go S.wide s).app ?_
  rw [← parts_flat S ok x y]
  unfold linkC at hz ⊢
  refine .one (.make ?_ hz)
  rw [parts_flat S ok, List.length_map, List.length_range]
end T5
set_option maxHeartbeats 2000000
/-! the loop of k88's turn gathers as due does -/
namespace T5
open PySem PySem.Spec PyProof.Rows L2 T3
mutual
theorem Cell.symm : ∀ a b : Cell, PyData.eqv a.d b.d = PyData.eqv b.d a.d
  | .mk n ps, .mk m qs => by
    have h : (n == m) = (m == n) := by
      by_cases h : n = m
      · subst h
        rfl
      · have h2 : ¬ m = n := fun e => h e.symm
        rw [beq_eq_false_iff_ne.mpr h, beq_eq_false_iff_ne.mpr h2]
    show ((n == m) && (PyData.eqvAll (Cell.ds ps) (Cell.ds qs) && true)) = ((m == n) && (PyData.eqvAll (Cell.ds qs) (Cell.ds ps) && true))
    rw [h, Cell.symms ps qs]
theorem Cell.symms : ∀ a b : List Cell, PyData.eqvAll (Cell.ds a) (Cell.ds b) = PyData.eqvAll (Cell.ds b) (Cell.ds a)
  | [], [] => rfl
  | [], _ :: _ => by simp [Cell.ds, PyData.eqvAll]
  | _ :: _, [] => by simp [Cell.ds, PyData.eqvAll]
  | a :: as, b :: bs => by
    show (PyData.eqv a.d b.d && PyData.eqvAll (Cell.ds as) (Cell.ds bs)) = (PyData.eqv b.d a.d && PyData.eqvAll (Cell.ds bs) (Cell.ds as))
    rw [Cell.symm a b, Cell.symms as bs]
end
def hf (p0 p1 : Nat) (A B C : Cell) (k : Nat) : Cell := if k = p0 then A else if k = p1 then B else C
def hl (p0 p1 : Nat) (A B C : Cell) : List Cell := [hf p0 p1 A B C 0, hf p0 p1 A B C 1, hf p0 p1 A B C 2]
theorem hl_get {p0 p1 p2 : Nat} (perm : Perm3 p0 p1 p2) (A B C : Cell) (m : List Cell) : (hl p0 p1 A B C ++ m)[p0]? = some A ∧ (hl p0 p1 A B C ++ m)[p1]? = some B ∧ (hl p0 p1 A B C ++ m)[p2]? = some C := by
  simp only [Perm3, List.mem_cons, Prod.mk.injEq, List.not_mem_nil, or_false] at perm
  rcases perm with ⟨rfl, rfl, rfl⟩ | ⟨rfl, rfl, rfl⟩ | ⟨rfl, rfl, rfl⟩ | ⟨rfl, rfl, rfl⟩ | ⟨rfl, rfl, rfl⟩ | ⟨rfl, rfl, rfl⟩ <;> exact ⟨rfl, rfl, rfl⟩
theorem getD_size {ps : List Cell} {i n : Nat} (h : Cell.sizes ps ≤ n) (hn : 1 ≤ n) : (ps.getD i dC).size ≤ n := by
  rw [List.getD_eq_getElem?_getD]
  cases q : ps[i]? with
  | none =>
    show dC.size ≤ n
    rw [dC, Cell.size, Cell.sizes]
    exact hn
  | some x =>
    have := Cell.size_get q
    show x.size ≤ n
    omega
theorem ps_sizes (t : Cell) : Cell.sizes t.ps + 1 = t.size := by
  obtain ⟨m, ps⟩ := t
  rw [Cell.size]
  rfl
theorem chain_step (S : Shp) (ok : S.Ok) (n3 : Nat) (sg t : Cell) (g : List Cell) (a : Nat) (ht : t.size ≤ 3) : (chain S (stepC n3 sg t g a)).size ≤ (chain S g).size + 10 := by
  have hp := ps_sizes t
  unfold stepC
  split
  · have := link_size S ok t (chain S g)
    show (linkC S t (chain S g)).size ≤ _
    omega
  · have := link_size S ok (.mk (n3 : Nat) [t]) (chain S g)
    have e : (Cell.mk (n3 : Nat) [t]).size = t.size + 1 := by rw [Cell.size, Cell.sizes_one]
    show (linkC S (.mk (n3 : Nat) [t]) (chain S g)).size ≤ _
    omega
  · have h1 := link_size S ok t (chain S g)
    have h2 := link_size S ok t (linkC S t (chain S g))
    show (linkC S t (linkC S t (chain S g))).size ≤ _
    omega
  · have := link_size S ok (yn (PyData.eqv t.d sg.d)) (chain S g)
    have e : (yn (PyData.eqv t.d sg.d)).size = 1 := by rw [yn, Cell.size, Cell.sizes]
    show (linkC S (yn (PyData.eqv t.d sg.d)) (chain S g)).size ≤ _
    omega
  · have := link_size S ok (t.ps.getD 0 dC) (chain S g)
    have e := getD_size (ps := t.ps) (i := 0) (n := 3) (by omega) (by decide)
    show (linkC S (t.ps.getD 0 dC) (chain S g)).size ≤ _
    omega
  · have := link_size S ok (t.ps.getD (t.ps.length - 1) dC) (chain S g)
    have e := getD_size (ps := t.ps) (i := t.ps.length - 1) (n := 3) (by omega) (by decide)
    show (linkC S (t.ps.getD (t.ps.length - 1) dC) (chain S g)).size ≤ _
    omega
  · omega
theorem gather_exs (S : Shp) (ok : S.Ok) (p1 p2 n3 last : Nat) (a : Nat) (t sg : Cell) (g h : List Cell) (h3 : h[3]? = some t) (h1 : h[p1]? = some (chain S g)) (h2 : h[p2]? = some sg) (ht : t.size ≤ 3) (hs : sg.size ≤ 32)
    (hz : (chain S g).size ≤ 240) (h5 : a = 5 → 0 < t.ps.length) (h6 : a = 6 → 0 < t.ps.length ∧ last = t.ps.length - 1) (s : List Cell) : Exs (gatherR S p1 p2 n3 last a) h s h (s ++ [chain S (stepC n3 sg t g a)]) := by
  have hit : ∀ s, Exs [.loc 3] h s h (s ++ [t]) := fun s => .one (.loc h3)
  have hch : ∀ s, Exs [.loc p1] h s h (s ++ [chain S g]) := fun s => .one (.loc h1)
  have cs := chain_step S ok n3 sg t g a ht
  have tp : t = .mk t.num t.ps := by cases t; rfl
  unfold gatherR
  split
  · exact link_exs S ok _ _ t (chain S g) h hit hch (by show (chain S (stepC n3 sg t g 1)).size ≤ 256; omega) s
  · refine link_exs S ok _ _ (.mk (n3 : Nat) [t]) (chain S g) h (fun s => ?_) hch (by show (chain S (stepC n3 sg t g 2)).size ≤ 256; omega) s
    exact (hit s).app (.one (.make (cs := [t]) rfl (by rw [Cell.size, Cell.sizes_one]; omega)))
  · refine link_exs S ok _ _ t (linkC S t (chain S g)) h hit (fun s => ?_) (by show (chain S (stepC n3 sg t g 3)).size ≤ 256; omega) s
    have := link_size S ok t (chain S g)
    exact link_exs S ok _ _ t (chain S g) h hit hch (by omega) s
  · refine link_exs S ok _ _ (yn (PyData.eqv t.d sg.d)) (chain S g) h (fun s => ?_) hch (by show (chain S (stepC n3 sg t g 4)).size ≤ 256; omega) s
    rw [Cell.symm t sg]
    exact (hit s).app (.cons (.loc h2) (.one (.same (by omega) hs)))
  · have hp := h5 rfl
    refine link_exs S ok _ _ (t.ps.getD 0 dC) (chain S g) h (fun s => ?_) hch (by show (chain S (stepC n3 sg t g 5)).size ≤ 256; omega) s
    have e : t.ps[0]? = some (t.ps.getD 0 dC) := by
      rw [List.getD_eq_getElem?_getD, List.getElem?_eq_getElem hp]
      rfl
    have x := hit s
    rw [tp] at x
    exact x.app (.one (.part e))
  · obtain ⟨hp, hl⟩ := h6 rfl
    refine link_exs S ok _ _ (t.ps.getD (t.ps.length - 1) dC) (chain S g) h (fun s => ?_) hch (by show (chain S (stepC n3 sg t g 6)).size ≤ 256; omega) s
    have e : t.ps[t.ps.length - 1]? = some (t.ps.getD (t.ps.length - 1) dC) := by
      rw [List.getD_eq_getElem?_getD, List.getElem?_eq_getElem (by omega)]
      rfl
    have x := hit s
    rw [tp] at x
    rw [hl]
    exact x.app (.one (.part e))
  · rename_i n1 n2 n3' n4 n5 n6
    have : stepC n3 sg t g a = g := by
      unfold stepC
      split
      · exact absurd rfl n1
      · exact absurd rfl n2
      · exact absurd rfl n3'
      · exact absurd rfl n4
      · exact absurd rfl n5
      · exact absurd rfl n6
      · rfl
    rw [this]
    exact hch s
end T5
set_option maxHeartbeats 2000000
namespace T5
open PySem PySem.Spec PyProof.Rows L2 T3
def lastOf (ns : List Nat) (t : Cell) : Nat := if t.num = ((ns.getD 0 0 : Nat) : Int) then 0 else if t.num = ((ns.getD 1 0 : Nat) : Int) then 0 else 1
structure TOk (acts ns : List Nat) (t : Cell) : Prop where
  sz : t.size ≤ 3
  a5 : actOf acts ns t = 5 → 0 < t.ps.length
  a6 : actOf acts ns t = 6 → 0 < t.ps.length ∧ lastOf ns t = t.ps.length - 1
def idleR (idle : Nat) : List Row := ((List.range idle).map fun k => [Row.make (k : Nat) 0, Row.keep]).flatten
def idleC (idle : Nat) : List Cell := (List.range idle).map fun k => Cell.mk (k : Nat) []
theorem idle_exs (h : List Cell) : ∀ n, Exs (idleR n) h [] (h ++ idleC n) []
  | 0 => by
    unfold idleR idleC
    simp only [List.range_zero, List.map_nil, List.flatten_nil, List.append_nil]
    exact .nil
  | n + 1 => by
    have ih := idle_exs h n
    unfold idleR idleC at ih ⊢
    rw [List.range_succ, List.map_append, List.flatten_append, List.map_append, ← List.append_assoc]
    refine ih.app ?_
    simp only [List.map_cons, List.map_nil, List.flatten_cons, List.flatten_nil, List.append_nil]
    exact .cons (.make (cs := []) (s := []) rfl (by rw [Cell.size, Cell.sizes]; decide)) (.one (.keep (s := [])))
theorem idle_len (n : Nat) : (idleC n).length = n := by
  unfold idleC
  rw [List.length_map, List.length_range]
theorem idleR_len (n : Nat) : (idleR n).length = 2 * n := by
  unfold idleR
  rw [List.length_flatten, List.map_map]
  induction n with
  | zero => rfl
  | succ m ih =>
    rw [List.range_succ, List.map_append, List.sum_append, ih]
    simp
    omega
section
variable {B : Built} {fs : List Frame} {rows : List Row} {bg : Nat → Nat} {S : Shp} {p0 p1 p2 idle : Nat} {acts ns : List Nat} {endsR : List Row} {sg c : Cell}
theorem code_exs (ok : S.Ok) (perm : Perm3 p0 p1 p2) (t : Cell) (tl : Cell) (g m : List Cell) (n3 last a : Nat) (ht : t.size ≤ 3) (hs : sg.size ≤ 32) (hz : (chain S g).size ≤ 240) (h5 : a = 5 → 0 < t.ps.length) (h6 : a = 6 → 0 < t.ps.length ∧ last = t.ps.length - 1)
    (k : Nat) (s : List Cell) : Exs (codeR S p0 p1 p2 (gatherR S p1 p2 n3 last a) k) (hl p0 p1 (linkC S t tl) (chain S g) sg ++ ([t] ++ m)) s (hl p0 p1 (linkC S t tl) (chain S g) sg ++ ([t] ++ m)) (s ++ [hf p0 p1 tl (chain S (stepC n3 sg t g a)) sg k]) := by
  obtain ⟨g0, g1, g2⟩ := hl_get perm (linkC S t tl) (chain S g) sg ([t] ++ m)
  unfold codeR hf
  by_cases z : k = p0
  · rw [if_pos z, if_pos z]
    refine .cons (.loc g0) (.one ?_)
    exact .part (parts_there S ok t tl)
  · rw [if_neg z, if_neg z]
    by_cases z1 : k = p1
    · rw [if_pos z1, if_pos z1]
      exact gather_exs S ok p1 p2 n3 last a t sg g _ rfl g1 g2 ht hs hz h5 h6 s
    · rw [if_neg z1, if_neg z1]
      exact .one (.loc g2)
/-- one round, from its block's beginning -/
theorem round_go (L : Laid (turnB S p0 p1 p2 acts ns idle endsR) rows bg) (ok : S.Ok) (perm : Perm3 p0 p1 p2) {kb n3 last a : Nat} (hb : (turnB S p0 p1 p2 acts ns idle endsR)[kb]? = some (roundR S p0 p1 p2 a n3 idle last)) (hidle : idle ≤ 10)
    (t tl : Cell) (g : List Cell) (ht : t.size ≤ 3) (hs : sg.size ≤ 32) (hz : (chain S g).size ≤ 240) (h5 : a = 5 → 0 < t.ps.length) (h6 : a = 6 → 0 < t.ps.length ∧ last = t.ps.length - 1) {N : Nat}
    (k9 : a = 7 → GoB B fs rows (bg 9) (hl p0 p1 (linkC S t tl) (chain S g) sg ++ ([t] ++ idleC idle)) [] c N)
    (k1 : ¬ a = 7 → GoB B fs rows (bg 1) (hl p0 p1 tl (chain S (stepC n3 sg t g a)) sg) [] c N) :
    GoB B fs rows (bg kb) (hl p0 p1 (linkC S t tl) (chain S g) sg ++ ([t] ++ idleC idle)) [] c (N + 100) := by
  by_cases e : a = 7
  · have hb' : (turnB S p0 p1 p2 acts ns idle endsR)[kb]? = some [.go 9] := by
      rw [hb]
      unfold roundR
      rw [if_pos e]
    exact (goB (pre := []) (suf := []) L hb' rfl (k9 e)).le (by omega)
  · obtain ⟨G, hG⟩ : ∃ G, G = gatherR S p1 p2 n3 last a := ⟨_, rfl⟩
    have hgl := gather_le S ok p1 p2 n3 last a
    rw [← hG] at hgl
    have hb' : (turnB S p0 p1 p2 acts ns idle endsR)[kb]? = some (codeR S p0 p1 p2 G 2 ++ codeR S p0 p1 p2 G 1 ++ codeR S p0 p1 p2 G 0 ++ [.forget (4 + idle)] ++ [.keep, .keep, .keep, .go 1]) := by
      rw [hb, hG]
      unfold roundR
      rw [if_neg e]
    have lcl : ∀ k, (codeR S p0 p1 p2 G k).length ≤ 13 := by
      intro k
      unfold codeR
      split
      · simp
      · split
        · exact hgl
        · simp
    have l0 := lcl 0
    have l1 := lcl 1
    have l2 := lcl 2
    have x : Exs (codeR S p0 p1 p2 G 2 ++ codeR S p0 p1 p2 G 1 ++ codeR S p0 p1 p2 G 0 ++ [.forget (4 + idle)] ++ [.keep, .keep, .keep]) (hl p0 p1 (linkC S t tl) (chain S g) sg ++ ([t] ++ idleC idle)) [] (hl p0 p1 tl (chain S (stepC n3 sg t g a)) sg) [] := by
      have cx := fun k s => code_exs (sg := sg) ok perm t tl g (idleC idle) n3 last a ht hs hz h5 h6 k s
      rw [← hG] at cx
      have x3 := ((cx 2 []).app (cx 1 _)).app (cx 0 _)
      have hlen : (hl p0 p1 (linkC S t tl) (chain S g) sg ++ ([t] ++ idleC idle)).length = 4 + idle := by
        rw [List.length_append, List.length_append, idle_len]
        show 3 + (1 + idle) = 4 + idle
        omega
      have hd : Do (.forget (4 + idle)) (hl p0 p1 (linkC S t tl) (chain S g) sg ++ ([t] ++ idleC idle)) ([] ++ [hf p0 p1 tl (chain S (stepC n3 sg t g a)) sg 2] ++ [hf p0 p1 tl (chain S (stepC n3 sg t g a)) sg 1] ++ [hf p0 p1 tl (chain S (stepC n3 sg t g a)) sg 0])
          ((hl p0 p1 (linkC S t tl) (chain S g) sg ++ ([t] ++ idleC idle)).take ((hl p0 p1 (linkC S t tl) (chain S g) sg ++ ([t] ++ idleC idle)).length - (4 + idle))) ([] ++ [hf p0 p1 tl (chain S (stepC n3 sg t g a)) sg 2] ++ [hf p0 p1 tl (chain S (stepC n3 sg t g a)) sg 1] ++ [hf p0 p1 tl (chain S (stepC n3 sg t g a)) sg 0]) := .forget (by omega)
      rw [hlen, Nat.sub_self, List.take_zero] at hd
      refine (x3.app (.one hd)).app (.cons (h1 := [hf p0 p1 tl (chain S (stepC n3 sg t g a)) sg 0]) (s1 := [] ++ [hf p0 p1 tl (chain S (stepC n3 sg t g a)) sg 2] ++ [hf p0 p1 tl (chain S (stepC n3 sg t g a)) sg 1]) (.keep (h := [])) (.cons (h1 := [hf p0 p1 tl (chain S (stepC n3 sg t g a)) sg 0, hf p0 p1 tl (chain S (stepC n3 sg t g a)) sg 1]) (s1 := [] ++ [hf p0 p1 tl (chain S (stepC n3 sg t g a)) sg 2]) (.keep (h := [hf p0 p1 tl (chain S (stepC n3 sg t g a)) sg 0])) (.one (.keep (h := [hf p0 p1 tl (chain S (stepC n3 sg t g a)) sg 0, hf p0 p1 tl (chain S (stepC n3 sg t g a)) sg 1])))))
    have eb : codeR S p0 p1 p2 G 2 ++ codeR S p0 p1 p2 G 1 ++ codeR S p0 p1 p2 G 0 ++ [.forget (4 + idle)] ++ [.keep, .keep, .keep, .go 1] = [] ++ (codeR S p0 p1 p2 G 2 ++ codeR S p0 p1 p2 G 1 ++ codeR S p0 p1 p2 G 0 ++ [.forget (4 + idle)] ++ [.keep, .keep, .keep]) ++ [.go 1] := by
      simp only [List.append_assoc, List.nil_append, List.cons_append]
    have eb2 : codeR S p0 p1 p2 G 2 ++ codeR S p0 p1 p2 G 1 ++ codeR S p0 p1 p2 G 0 ++ [.forget (4 + idle)] ++ [.keep, .keep, .keep, .go 1] = ([] ++ (codeR S p0 p1 p2 G 2 ++ codeR S p0 p1 p2 G 1 ++ codeR S p0 p1 p2 G 0 ++ [.forget (4 + idle)] ++ [.keep, .keep, .keep])) ++ [.go 1] ++ [] := by
      simp only [List.append_assoc, List.nil_append, List.cons_append]
    refine (segB L hb' eb x (goB L hb' eb2 (k1 e))).le ?_
    simp only [List.length_append, List.length_cons, List.length_nil]
    omega
end
end T5
set_option maxHeartbeats 2000000
namespace T5
open PySem PySem.Spec PyProof.Rows L2 T3
section
variable {B : Built} {fs : List Frame} {rows : List Row} {bg : Nat → Nat} {S : Shp} {p0 p1 p2 idle : Nat} {acts ns : List Nat} {endsR : List Row} {sg c : Cell}
theorem head_eq (S : Shp) (p0 idle : Nat) : headR S p0 idle = [] ++ [.loc p0] ++ ([.is (S.link : Nat) 8] ++ ([.part S.here, .keep] ++ idleR idle ++ [.loc 3] ++ [.go 2])) := by
  unfold headR idleR
  simp only [List.append_assoc, List.nil_append, List.cons_append]
theorem turn_loop (L : Laid (turnB S p0 p1 p2 acts ns idle endsR) rows bg) (ok : S.Ok) (perm : Perm3 p0 p1 p2) (hidle : idle ≤ 10) (hs : sg.size ≤ 32) {N : Nat} :
    ∀ (ts g : List Cell), (∀ t ∈ ts, TOk acts ns t) → (chain S g).size + 10 * ts.length ≤ 240 →
      (∀ h, h[p1]? = some (chain S (gath acts ns sg ts g)) → GoB B fs rows (bg 9) h [] c N) → GoB B fs rows (bg 1) (hl p0 p1 (chain S ts) (chain S g) sg) [] c (N + 200 * (ts.length + 1))
  | [], g, _, hz, k9 => by
    obtain ⟨g0, g1, g2⟩ := hl_get perm (chain S []) (chain S g) sg []
    rw [List.append_nil] at g0 g1
    have b8 : GoB B fs rows (bg 8 + ([] : List Row).length) (hl p0 p1 (chain S []) (chain S g) sg) ([] ++ [chain S []]) c ((N + 1) + [Row.drop].length) := by
      refine segB (k := 8) (b := [.drop, .go 9]) (pre := []) (qs := [.drop]) (suf := [.go 9]) (s' := []) L rfl rfl (.one (.drop (s := []))) ?_
      exact goB (k := 8) (b := [.drop, .go 9]) (pre := [] ++ [.drop]) (suf := []) L rfl rfl (k9 _ g1)
    have b1 := isNo (k := 1) (b := headR S p0 idle) (pre := [] ++ [.loc p0]) (suf := [.part S.here, .keep] ++ idleR idle ++ [.loc 3] ++ [.go 2]) (n := (S.link : Nat)) (m := (S.fin : Nat)) (ps := []) (s := []) (t := 8) L rfl (by rw [head_eq]; simp only [List.append_assoc, List.nil_append, List.cons_append]) (fun z => ok.lf (by omega)) b8
    have b0 := segB (k := 1) (b := headR S p0 idle) (pre := []) (qs := [.loc p0]) L rfl (head_eq S p0 idle) (.one (.loc (s := []) g0)) b1
    refine b0.le ?_
    simp only [List.length_cons, List.length_nil]
    omega
  | t :: ts, g, hts, hz, k9 => by
    have ht := hts t (by simp)
    rw [List.length_cons] at hz
    have hstep := fun a => chain_step S ok (ns.getD 3 0) sg t g a ht.sz
    obtain ⟨g0, g1, g2⟩ := hl_get perm (chain S (t :: ts)) (chain S g) sg []
    rw [List.append_nil] at g0
    have g9 : (hl p0 p1 (linkC S t (chain S ts)) (chain S g) sg ++ ([t] ++ idleC idle))[p1]? = some (chain S g) := (hl_get perm (linkC S t (chain S ts)) (chain S g) sg ([t] ++ idleC idle)).2.1
    obtain ⟨a, ha⟩ : ∃ a, a = actOf acts ns t := ⟨_, rfl⟩
    have e7 : a = 7 → GoB B fs rows (bg 9) (hl p0 p1 (linkC S t (chain S ts)) (chain S g) sg ++ ([t] ++ idleC idle)) [] c (N + 200 * (ts.length + 1)) := by
      intro z
      refine (k9 _ ?_).le (by omega)
      rw [gath, if_pos (by rw [← ha]; exact z)]
      exact g9
    have e1 : ¬ a = 7 → GoB B fs rows (bg 1) (hl p0 p1 (chain S ts) (chain S (stepC (ns.getD 3 0) sg t g a)) sg) [] c (N + 200 * (ts.length + 1)) := by
      intro z
      have hst := hstep a
      refine turn_loop L ok perm hidle hs ts _ (fun x hx => hts x (by simp [hx])) (by omega) fun h hh => k9 h ?_
      rw [gath, if_neg (by rw [← ha]; exact z), ← ha]
      exact hh
    -- the round's block
    have rnd : ∀ (j : Nat), j < 3 → a = acts.getD j 0 → lastOf ns t = j - 1 → GoB B fs rows (bg (5 + j)) (hl p0 p1 (linkC S t (chain S ts)) (chain S g) sg ++ ([t] ++ idleC idle)) [] c (N + 200 * (ts.length + 1) + 100) := by
      intro j hj haj hlj
      refine round_go (kb := 5 + j) (n3 := ns.getD 3 0) (last := j - 1) (a := a) L ok perm ?_ hidle t (chain S ts) g ht.sz hs (by omega) (fun z => ht.a5 (by rw [← ha]; exact z)) (fun z => ?_) e7 e1
      · rw [haj]
        match j, hj with
        | 0, _ => rfl
        | 1, _ => rfl
        | 2, _ => rfl
      · have := ht.a6 (by rw [← ha]; exact z)
        exact ⟨this.1, by rw [← hlj]; exact this.2⟩
    obtain ⟨m, ps⟩ := t
    have hnum : (Cell.mk m ps).num = m := rfl
    -- blocks 2, 3, 4: which round
    have sel : GoB B fs rows (bg 2) (hl p0 p1 (linkC S (.mk m ps) (chain S ts)) (chain S g) sg ++ ([.mk m ps] ++ idleC idle)) ([] ++ [.mk m ps]) c (N + 200 * (ts.length + 1) + 100 + 10) := by
      by_cases q0 : m = ((ns.getD 0 0 : Nat) : Int)
      · have ea : a = acts.getD 0 0 := by rw [ha]; unfold actOf; exact if_pos q0
        have el : lastOf ns (.mk m ps) = 0 - 1 := by unfold lastOf; exact if_pos q0
        have r := rnd 0 (by decide) ea el
        have s2 := goB (k := 2) (b := [.is ((ns.getD 0 0 : Nat) : Int) 3, .drop, .go 5]) (pre := [.is ((ns.getD 0 0 : Nat) : Int) 3] ++ [.drop]) (suf := []) L rfl rfl r
        have s1 := segB (k := 2) (b := [.is ((ns.getD 0 0 : Nat) : Int) 3, .drop, .go 5]) (pre := [.is ((ns.getD 0 0 : Nat) : Int) 3]) (qs := [.drop]) (suf := [.go 5]) L rfl rfl (.one (.drop (c := .mk m ps) (s := []))) s2
        have s0 := isYes (k := 2) (b := [.is ((ns.getD 0 0 : Nat) : Int) 3, .drop, .go 5]) (pre := []) (suf := [.drop, .go 5]) (s := []) L rfl rfl q0 s1
        exact s0.le (by simp only [List.length_cons, List.length_nil]; omega)
      · by_cases q1 : m = ((ns.getD 1 0 : Nat) : Int)
        · have ea : a = acts.getD 1 0 := by rw [ha]; unfold actOf; exact (if_neg q0).trans (if_pos q1)
          have el : lastOf ns (.mk m ps) = 1 - 1 := by unfold lastOf; exact (if_neg q0).trans (if_pos q1)
          have r := rnd 1 (by decide) ea el
          have s2 := goB (k := 3) (b := [.is ((ns.getD 1 0 : Nat) : Int) 4, .drop, .go 6]) (pre := [.is ((ns.getD 1 0 : Nat) : Int) 4] ++ [.drop]) (suf := []) L rfl rfl r
          have s1 := segB (k := 3) (b := [.is ((ns.getD 1 0 : Nat) : Int) 4, .drop, .go 6]) (pre := [.is ((ns.getD 1 0 : Nat) : Int) 4]) (qs := [.drop]) (suf := [.go 6]) L rfl rfl (.one (.drop (c := .mk m ps) (s := []))) s2
          have s0 := isYes (k := 3) (b := [.is ((ns.getD 1 0 : Nat) : Int) 4, .drop, .go 6]) (pre := []) (suf := [.drop, .go 6]) (s := []) L rfl rfl q1 s1
          have s9 := isNo (k := 2) (b := [.is ((ns.getD 0 0 : Nat) : Int) 3, .drop, .go 5]) (pre := []) (suf := [.drop, .go 5]) (s := []) L rfl rfl q0 s0
          exact s9.le (by simp only [List.length_cons, List.length_nil]; omega)
        · have ea : a = acts.getD 2 0 := by rw [ha]; unfold actOf; exact (if_neg q0).trans (if_neg q1)
          have el : lastOf ns (.mk m ps) = 2 - 1 := by unfold lastOf; exact (if_neg q0).trans (if_neg q1)
          have r := rnd 2 (by decide) ea el
          have s2 := goB (k := 4) (b := [.drop, .go 7]) (pre := [] ++ [.drop]) (suf := []) L rfl rfl r
          have s1 := segB (k := 4) (b := [.drop, .go 7]) (pre := []) (qs := [.drop]) (suf := [.go 7]) L rfl rfl (.one (.drop (c := .mk m ps) (s := []))) s2
          have s0 := isNo (k := 3) (b := [.is ((ns.getD 1 0 : Nat) : Int) 4, .drop, .go 6]) (pre := []) (suf := [.drop, .go 6]) (s := []) L rfl rfl q1 s1
          have s9 := isNo (k := 2) (b := [.is ((ns.getD 0 0 : Nat) : Int) 3, .drop, .go 5]) (pre := []) (suf := [.drop, .go 5]) (s := []) L rfl rfl q0 s0
          exact s9.le (by simp only [List.length_cons, List.length_nil]; omega)
    -- the head
    have hx : Exs ([.part S.here, .keep] ++ idleR idle ++ [.loc 3]) (hl p0 p1 (linkC S (.mk m ps) (chain S ts)) (chain S g) sg) ([] ++ [linkC S (.mk m ps) (chain S ts)]) (hl p0 p1 (linkC S (.mk m ps) (chain S ts)) (chain S g) sg ++ ([.mk m ps] ++ idleC idle)) ([] ++ [.mk m ps]) := by
      have e : hl p0 p1 (linkC S (.mk m ps) (chain S ts)) (chain S g) sg ++ ([.mk m ps] ++ idleC idle) = hl p0 p1 (linkC S (.mk m ps) (chain S ts)) (chain S g) sg ++ [.mk m ps] ++ idleC idle := by rw [List.append_assoc]
      rw [e]
      refine Exs.app (Exs.app (.cons (.part (parts_here S ok _ _)) (.one (.keep (s := [])))) (idle_exs _ idle)) (.one (.loc (s := []) rfl))
    have eh : headR S p0 idle = ([] ++ [.loc p0]) ++ [.is (S.link : Nat) 8] ++ ([.part S.here, .keep] ++ idleR idle ++ [.loc 3] ++ [.go 2]) := by
      rw [head_eq]
      simp only [List.append_assoc, List.nil_append, List.cons_append]
    have eh2 : headR S p0 idle = (([] ++ [.loc p0]) ++ [.is (S.link : Nat) 8]) ++ ([.part S.here, .keep] ++ idleR idle ++ [.loc 3]) ++ [.go 2] := by
      rw [head_eq]
      simp only [List.append_assoc, List.nil_append, List.cons_append]
    have eh3 : headR S p0 idle = ((([] ++ [.loc p0]) ++ [.is (S.link : Nat) 8]) ++ ([.part S.here, .keep] ++ idleR idle ++ [.loc 3])) ++ [.go 2] ++ [] := by
      rw [head_eq]
      simp only [List.append_assoc, List.nil_append, List.cons_append]
    have h3 := goB (k := 1) (b := headR S p0 idle) L rfl eh3 sel
    have h2 := segB (k := 1) (b := headR S p0 idle) L rfl eh2 hx h3
    have h1 := isYes (k := 1) (b := headR S p0 idle) (s := []) (m := (S.link : Nat)) (ps := parts S (.mk m ps) (chain S ts)) L rfl eh rfl h2
    have h0 := segB (k := 1) (b := headR S p0 idle) (pre := []) (qs := [.loc p0]) L rfl (head_eq S p0 idle) (.one (.loc (s := []) g0)) h1
    refine h0.le ?_
    have := idleR_len idle
    simp only [List.length_append, List.length_cons, List.length_nil]
    omega
end
end T5
set_option maxHeartbeats 2000000
namespace T5
open PySem PySem.Spec PyProof.Rows L2 T3
def wt (ts : List Cell) : Nat := (ts.map fun x => x.size + 2).sum
section
variable {B : Built} {fs : List Frame} {rows rows2 : List Row} {bg bg2 : Nat → Nat} {S : Shp} {c : Cell}
theorem more_eq (S : Shp) : linkR S [.loc 0, .part S.here] [.loc 1] ++ [.loc 0, .part S.there, .forget 2, .keep, .keep, .go 1] = [] ++ (linkR S [.loc 0, .part S.here] [.loc 1] ++ [.loc 0, .part S.there, .forget 2, .keep, .keep]) ++ [.go 1] := by
  simp only [List.append_assoc, List.nil_append, List.cons_append]
theorem flip_loop (L : Laid (flipB S) rows2 bg2) (ok : S.Ok) (F : Frame) {N : Nat} : ∀ (ts g : List Cell), (chain S g).size + wt ts ≤ 250 →
    GoB B fs F.rows F.at F.held (F.stack ++ [chain S (ts.reverse ++ g)]) c N → GoB B (fs ++ [F]) rows2 (bg2 1) [chain S ts, chain S g] [] c (N + 60 * (ts.length + 1))
  | [], g, hz, k => by
    have b2 := backB (k := 3) (b := [.drop, .loc 1, .back]) (pre := [] ++ [.drop, .loc 1]) (suf := []) (h := [chain S [], chain S g]) (s := []) L rfl rfl k
    have b1 := segB (k := 3) (b := [.drop, .loc 1, .back]) (pre := []) (qs := [.drop, .loc 1]) (suf := [.back]) (h := [chain S [], chain S g]) L rfl rfl (.cons (.drop (c := chain S []) (s := [])) (.one (.loc (s := []) rfl))) b2
    have b0 := isNo (k := 1) (b := [.loc 0, .is (S.link : Nat) 3, .drop, .go 2]) (pre := [] ++ [.loc 0]) (suf := [.drop, .go 2]) (n := (S.link : Nat)) (m := (S.fin : Nat)) (ps := []) (s := []) (t := 3) L rfl rfl (fun z => ok.lf (by omega)) b1
    have a0 := segB (k := 1) (b := [.loc 0, .is (S.link : Nat) 3, .drop, .go 2]) (pre := []) (qs := [.loc 0]) (suf := [.is (S.link : Nat) 3, .drop, .go 2]) (h := [chain S [], chain S g]) L rfl rfl (.one (.loc (s := []) rfl)) b0
    refine a0.le ?_
    simp only [List.length_cons, List.length_nil]
    omega
  | t :: ts, g, hz, k => by
    have hw : wt (t :: ts) = t.size + 2 + wt ts := by unfold wt; rw [List.map_cons, List.sum_cons]
    have hls := link_size S ok t (chain S g)
    have ih := flip_loop L ok F ts (t :: g) (by show (linkC S t (chain S g)).size + wt ts ≤ 250; omega) (by
      have e : ts.reverse ++ t :: g = (t :: ts).reverse ++ g := by rw [List.reverse_cons, List.append_assoc]; rfl
      rw [e]
      exact k)
    have x2 : Exs (linkR S [.loc 0, .part S.here] [.loc 1] ++ [.loc 0, .part S.there, .forget 2, .keep, .keep]) [chain S (t :: ts), chain S g] [] [chain S ts, chain S (t :: g)] [] := by
      refine Exs.app (link_exs S ok _ _ t (chain S g) [chain S (t :: ts), chain S g] (fun s => ?_) (fun s => .one (.loc rfl)) (by omega) []) ?_
      · exact .cons (.loc rfl) (.one (.part (parts_here S ok t (chain S ts))))
      · refine .cons (.loc rfl) (.cons (.part (parts_there S ok t (chain S ts))) (.cons (.forget (Nat.le_refl 2)) (.cons (h1 := [chain S ts]) (s1 := [] ++ [linkC S t (chain S g)]) (.keep (h := [])) (.one (.keep (h := [chain S ts]))))))
    have h3 := goB (k := 2) (b := linkR S [.loc 0, .part S.here] [.loc 1] ++ [.loc 0, .part S.there, .forget 2, .keep, .keep, .go 1]) (pre := [] ++ (linkR S [.loc 0, .part S.here] [.loc 1] ++ [.loc 0, .part S.there, .forget 2, .keep, .keep])) (suf := []) L rfl (by rw [more_eq]; simp only [List.append_assoc, List.nil_append, List.cons_append]) ih
    have h2 := segB (k := 2) (b := linkR S [.loc 0, .part S.here] [.loc 1] ++ [.loc 0, .part S.there, .forget 2, .keep, .keep, .go 1]) (pre := []) L rfl (more_eq S) x2 h3
    have g2 := goB (k := 1) (b := [.loc 0, .is (S.link : Nat) 3, .drop, .go 2]) (pre := ([] ++ [.loc 0]) ++ [.is (S.link : Nat) 3] ++ [.drop]) (suf := []) L rfl rfl h2
    have g1 := segB (k := 1) (b := [.loc 0, .is (S.link : Nat) 3, .drop, .go 2]) (pre := ([] ++ [.loc 0]) ++ [.is (S.link : Nat) 3]) (qs := [.drop]) (suf := [.go 2]) L rfl rfl (.one (.drop (c := linkC S t (chain S ts)) (s := []))) g2
    have g0 := isYes (k := 1) (b := [.loc 0, .is (S.link : Nat) 3, .drop, .go 2]) (pre := [] ++ [.loc 0]) (suf := [.drop, .go 2]) (s := []) (m := (S.link : Nat)) (ps := parts S t (chain S ts)) L rfl rfl rfl g1
    have a0 := segB (k := 1) (b := [.loc 0, .is (S.link : Nat) 3, .drop, .go 2]) (pre := []) (qs := [.loc 0]) (suf := [.is (S.link : Nat) 3, .drop, .go 2]) (h := [chain S (t :: ts), chain S g]) L rfl rfl (.one (.loc (s := []) rfl)) g0
    refine a0.le ?_
    have hlk := linkR_le S ok [.loc 0, .part S.here] [.loc 1] 2 (by simp) (by simp) (by decide)
    simp only [List.length_append, List.length_cons, List.length_nil]
    omega
theorem main_go {p0 p1 p2 idle : Nat} {acts ns : List Nat} {sg : Cell} {md : Str} (flipped : Bool) (L : Laid (turnB S p0 p1 p2 acts ns idle (if flipped then [.call md "flip" 1] else [])) rows bg) (L2 : Laid (flipB S) rows2 bg2) (hB : B md "flip" = some (1, rows2)) (ok : S.Ok) (perm : Perm3 p0 p1 p2) (hidle : idle ≤ 10) (hs : sg.size ≤ 32)
    (first second : List Cell) (hts : ∀ t ∈ first, TOk acts ns t) (hz : (chain S second).size + 10 * first.length ≤ 240) (hl1 : first.length ≤ 20) (hw : wt (gath acts ns sg first second) ≤ 240) (hgl : (gath acts ns sg first second).length ≤ 100) :
    ∃ n, n ≤ 99999 ∧ Go B [] rows 0 (hl p0 p1 (chain S first) (chain S second) sg) [] (chain S (if flipped then (gath acts ns sg first second).reverse else gath acts ns sg first second)) n := by
  obtain ⟨G, hG⟩ : ∃ G, G = gath acts ns sg first second := ⟨_, rfl⟩
  rw [← hG] at hw hgl ⊢
  have k9 : ∀ h, h[p1]? = some (chain S (gath acts ns sg first second)) → GoB B [] rows (bg 9) h [] (chain S (if flipped then G.reverse else G)) 20000 := by
    intro h hh
    rw [← hG] at hh
    cases flipped with
    | false =>
      have b2 := doneB (B := B) (k := 9) (b := [.loc p1] ++ [] ++ [.back]) (pre := [] ++ [.loc p1]) (suf := []) (h := h) (s := []) (r := chain S G) L rfl rfl
      have b1 := segB (k := 9) (b := [.loc p1] ++ [] ++ [.back]) (pre := []) (qs := [.loc p1]) (suf := [.back]) L rfl rfl (.one (.loc (s := []) hh)) b2
      exact b1.le (by simp only [List.length_cons, List.length_nil]; omega)
    | true =>
      have b4 := doneB (B := B) (k := 9) (b := [.loc p1] ++ [.call md "flip" 1] ++ [.back]) (pre := ([] ++ [.loc p1]) ++ [.call md "flip" 1]) (suf := []) (h := h) (s := []) (r := chain S G.reverse) L rfl rfl
      have fl := flip_loop (B := B) (fs := []) L2 ok ⟨rows, bg 9 + (([] ++ [Row.loc p1]) ++ [Row.call md "flip" 1]).length, h, []⟩ G [] (by rw [chain, Cell.size, Cell.sizes]; omega) (by rw [List.append_nil]; exact b4)
      have f1 := goB (k := 0) (b := [.make (S.fin : Nat) 0, .keep, .go 1]) (pre := [] ++ [.make (S.fin : Nat) 0, .keep]) (suf := []) L2 rfl rfl fl
      have f0 := segB (k := 0) (b := [.make (S.fin : Nat) 0, .keep, .go 1]) (pre := []) (qs := [.make (S.fin : Nat) 0, .keep]) (suf := [.go 1]) (h := [chain S G]) (s := []) L2 rfl rfl (.cons (.make (cs := []) (s := []) rfl (by rw [Cell.size, Cell.sizes]; decide)) (.one (.keep (h := [chain S G]) (s := [])))) f1
      rw [L2.z] at f0
      have b2 := callB (k := 9) (b := [.loc p1] ++ [.call md "flip" 1] ++ [.back]) (pre := [] ++ [.loc p1]) (suf := [.back]) (h := h) (s := []) (given := [chain S G]) (fs := []) L rfl rfl hB rfl f0
      have b1 := segB (k := 9) (b := [.loc p1] ++ [.call md "flip" 1] ++ [.back]) (pre := []) (qs := [.loc p1]) (suf := [.call md "flip" 1] ++ [.back]) L rfl rfl (.one (.loc (s := []) hh)) b2
      exact b1.le (by simp only [List.length_cons, List.length_nil]; omega)
  have t1 := turn_loop (B := B) (fs := []) L ok perm hidle hs first second hts hz k9
  have t0 := goB (k := 0) (b := [.go 1]) (pre := []) (suf := []) L rfl rfl t1
  have e : bg 0 + ([] : List Row).length = 0 := by rw [L.z]; rfl
  rw [e] at t0
  obtain ⟨n, h1, h2⟩ := t0
  exact ⟨n, by omega, h2⟩
end
end T5
set_option maxHeartbeats 8000000
/-! k88: what the law's walk needs: bounds, the dict of the two defs -/
namespace T5
open PySem PySem.Spec PyProof.Rows L2 T3
theorem Item.size {ns : List Nat} {c : Cell} (h : Item ns c) : c.size ≤ 3 := by
  obtain ⟨kind, m, ps, hk, hm, rfl, hl, h1⟩ := h
  have : ∀ qs : List Cell, (∀ x ∈ qs, x.size = 1) → Cell.sizes qs = qs.length := by
    intro qs
    induction qs with
    | nil => intro _; rfl
    | cons q qs ih =>
      intro hq
      rw [Cell.sizes, hq q (by simp), ih (fun x hx => hq x (by simp [hx])), List.length_cons]
      omega
  rw [Cell.size, this ps h1]
  omega
theorem act0 {acts ns : List Nat} {c : Cell} (h : c.num = ((ns.getD 0 0 : Nat) : Int)) : actOf acts ns c = acts.getD 0 0 ∧ lastOf ns c = 0 := by
  unfold actOf lastOf
  rw [if_pos h, if_pos h]
  exact ⟨rfl, rfl⟩
theorem act1 {acts ns : List Nat} {c : Cell} (h0 : ¬ c.num = ((ns.getD 0 0 : Nat) : Int)) (h : c.num = ((ns.getD 1 0 : Nat) : Int)) : actOf acts ns c = acts.getD 1 0 ∧ lastOf ns c = 0 := by
  unfold actOf lastOf
  rw [if_neg h0, if_pos h, if_neg h0, if_pos h]
  exact ⟨rfl, rfl⟩
theorem act2 {acts ns : List Nat} {c : Cell} (h0 : ¬ c.num = ((ns.getD 0 0 : Nat) : Int)) (h : ¬ c.num = ((ns.getD 1 0 : Nat) : Int)) : actOf acts ns c = acts.getD 2 0 ∧ lastOf ns c = 1 := by
  unfold actOf lastOf
  rw [if_neg h0, if_neg h, if_neg h0, if_neg h]
  exact ⟨rfl, rfl⟩
theorem Item.tok {n0 n1 n2 n3 a0 a1 a2 : Nat} {c : Cell} (h : Item [n0, n1, n2, n3] c) (h01 : n0 < n1) (h12 : n1 < n2) (ha0 : a0 ≤ 4 ∨ a0 = 7) (ha1 : a1 < 8) (ha2 : a2 ≤ 6) :
    TOk [a0, a1, a2] [n0, n1, n2, n3] c ∧ actOf [a0, a1, a2] [n0, n1, n2, n3] c ≤ 7 := by
  have hs := h.size
  obtain ⟨kind, m, ps, hk, hm, rfl, hl, h1⟩ := h
  match kind, hk with
  | 0, _ =>
    cases hm
    obtain ⟨e1, e2⟩ := act0 (acts := [a0, a1, a2]) (ns := [n0, n1, n2, n3]) (c := .mk (n0 : Nat) ps) rfl
    have e1' : actOf [a0, a1, a2] [n0, n1, n2, n3] (.mk (n0 : Nat) ps) = a0 := e1
    refine ⟨⟨hs, fun z => ?_, fun z => ?_⟩, ?_⟩ <;> omega
  | 1, _ =>
    cases hm
    obtain ⟨e1, e2⟩ := act1 (acts := [a0, a1, a2]) (ns := [n0, n1, n2, n3]) (c := .mk (n1 : Nat) ps) (show ¬ ((n1 : Nat) : Int) = (n0 : Nat) by omega) rfl
    have e1' : actOf [a0, a1, a2] [n0, n1, n2, n3] (.mk (n1 : Nat) ps) = a1 := e1
    refine ⟨⟨hs, fun z => ?_, fun z => ?_⟩, ?_⟩
    · show 0 < ps.length
      omega
    · show 0 < ps.length ∧ _ = ps.length - 1
      omega
    · omega
  | 2, _ =>
    cases hm
    obtain ⟨e1, e2⟩ := act2 (acts := [a0, a1, a2]) (ns := [n0, n1, n2, n3]) (c := .mk (n2 : Nat) ps) (show ¬ ((n2 : Nat) : Int) = (n0 : Nat) by omega) (show ¬ ((n2 : Nat) : Int) = (n1 : Nat) by omega)
    have e1' : actOf [a0, a1, a2] [n0, n1, n2, n3] (.mk (n2 : Nat) ps) = a2 := e1
    refine ⟨⟨hs, fun z => ?_, fun z => ?_⟩, ?_⟩
    · show 0 < ps.length
      omega
    · show 0 < ps.length ∧ _ = ps.length - 1
      omega
    · omega
theorem wt_app (a b : List Cell) : wt (a ++ b) = wt a + wt b := by
  unfold wt
  rw [List.map_append, List.sum_append]
theorem wt_one (a : Cell) : wt [a] = a.size + 2 := rfl
theorem wt_step (n3 : Nat) (sg t : Cell) (g : List Cell) (a : Nat) (ht : t.size ≤ 3) : wt (stepC n3 sg t g a) ≤ wt g + 10 := by
  have hp : Cell.sizes t.ps ≤ 2 := by
    have := ps_sizes t
    omega
  have hd : ∀ i, (t.ps.getD i dC).size ≤ 2 := fun i => getD_size hp (by decide)
  unfold stepC
  split
  · rw [wt_app, wt_one]; omega
  · rw [wt_app, wt_one, Cell.size, Cell.sizes, Cell.sizes]; omega
  · rw [wt_app, show wt [t, t] = t.size + 2 + (t.size + 2) from rfl]; omega
  · rw [wt_app, wt_one, yn, Cell.size, Cell.sizes]; omega
  · have := hd 0
    rw [wt_app, wt_one]; omega
  · have := hd (t.ps.length - 1)
    rw [wt_app, wt_one]; omega
  · omega
theorem gath_bd (acts ns : List Nat) (sg : Cell) : ∀ (ts g : List Cell), (∀ t ∈ ts, t.size ≤ 3) → wt (gath acts ns sg ts g) ≤ wt g + 10 * ts.length ∧ (gath acts ns sg ts g).length ≤ g.length + 2 * ts.length
  | [], g, _ => by
    rw [gath]
    exact ⟨Nat.le_add_right _ _, Nat.le_add_right _ _⟩
  | t :: ts, g, h => by
    rw [gath, List.length_cons]
    split
    · omega
    · obtain ⟨i1, i2⟩ := gath_bd acts ns sg ts (stepC (ns.getD 3 0) sg t g (actOf acts ns t)) (fun x hx => h x (by simp [hx]))
      have := wt_step (ns.getD 3 0) sg t g (actOf acts ns t) (h t (by simp))
      have := step_len (ns.getD 3 0) sg t g (actOf acts ns t)
      omega
theorem wt_items : ∀ ts : List Cell, (∀ t ∈ ts, t.size ≤ 3) → wt ts ≤ 5 * ts.length
  | [], _ => Nat.le_refl _
  | t :: ts, h => by
    have := wt_items ts fun x hx => h x (by simp [hx])
    have := h t (by simp)
    rw [show t :: ts = [t] ++ ts from rfl, wt_app, wt_one, List.length_append, List.length_singleton]
    omega
theorem chain_sz (S : Shp) (ok : S.Ok) : ∀ ts : List Cell, (chain S ts).size ≤ 1 + wt ts
  | [] => by
    rw [chain, Cell.size, Cell.sizes]
    exact Nat.le_refl _
  | t :: ts => by
    have := chain_sz S ok ts
    have := link_size S ok t (chain S ts)
    rw [show t :: ts = [t] ++ ts from rfl, wt_app, wt_one]
    show (linkC S t (chain S ts)).size ≤ _
    omega

/-! ### the dict of the two defs -/
abbrev kk (md f : Str) : List Key := [.inr md, .inr f]
theorem kk_ne (md : Str) : ¬ kk md "go" = kk md "flip" := by
  intro h
  injection h with _ h
  injection h with h _
  injection h with h
  exact absurd h (by decide +kernel)
def FullD (K : PySem.W.Frag) (H : Hp) (d : Addr) (md : Str) (e1 e2 : PyData) : Prop :=
  ∃ v1 v2, H d = some (.dT [(kk md "go", v1), (kk md "flip", v2)]) ∧ Td K H v1 e1 ∧ Td K H v2 e2
theorem FullD.chg {K : PySem.W.Frag} {L : List Addr} {H H' : Hp} {d : Addr} {md : Str} {e1 e2 : PyData} (h : FullD K H d md e1 e2) (g : Chg L H H') (hd : d ∉ L) : FullD K H' d md e1 e2 := by
  obtain ⟨v1, v2, e, t1, t2⟩ := h
  exact ⟨v1, v2, g.get hd e, t1.keep g.kt, t2.keep g.kt⟩
def Bd (md : Str) (n1 n2 : Nat) (r1 r2 : List Row) : Built := fun m f => if m = md then (if f = "go" then some (n1, r1) else if f = "flip" then some (n2, r2) else none) else none
theorem Bd.go {md : Str} {n1 n2 : Nat} {r1 r2 : List Row} : Bd md n1 n2 r1 r2 md "go" = some (n1, r1) := by
  unfold Bd
  rw [if_pos rfl, if_pos rfl]
theorem Bd.flip {md : Str} {n1 n2 : Nat} {r1 r2 : List Row} : Bd md n1 n2 r1 r2 md "flip" = some (n2, r2) := by
  unfold Bd
  rw [if_pos rfl, if_neg (by decide), if_pos rfl]
theorem vals2 (md : Str) (v1 v2 : V) : valV [(kk md "go", v1), (kk md "flip", v2)] (kk md "go") = some v1 ∧ valV [(kk md "go", v1), (kk md "flip", v2)] (kk md "flip") = some v2 := by
  refine ⟨valV_pos rfl, ?_⟩
  rw [valV_neg (kk_ne md)]
  exact valV_pos rfl
theorem FullD.bt {K : PySem.W.Frag} {H : Hp} {d : Addr} {md : Str} {n1 n2 : Nat} {r1 r2 : List Row} (h : FullD K H d md (entD n1 r1) (entD n2 r2)) : BT K H d (Bd md n1 n2 r1 r2) := by
  obtain ⟨v1, v2, e, t1, t2⟩ := h
  obtain ⟨a1, a2⟩ := vals2 md v1 v2
  refine ⟨_, e, fun m f n rows hb => ?_⟩
  unfold Bd at hb
  split at hb
  · rename_i hm
    subst hm
    split at hb
    · rename_i hf
      subst hf
      cases hb
      exact ⟨v1, a1, t1⟩
    · split at hb
      · rename_i hf
        subst hf
        cases hb
        exact ⟨v2, a2, t2⟩
      · cases hb
  · cases hb
theorem FullD.same {K : PySem.W.Frag} {H : Hp} {a b : Addr} {md : Str} {n1 n2 : Nat} {r1 r2 : List Row} (h1 : ∀ r ∈ r1, r.okc = true) (h2 : ∀ r ∈ r2, r.okc = true)
    (h : FullD K H a md (entD n1 r1) (entD n2 r2)) (g : FullD K H b md (entD n1 r1) (entD n2 r2)) :
    ∃ ks ls, H a = some (.dT ks) ∧ H b = some (.dT ls) ∧ ks.length = ls.length ∧ (∀ p ∈ ks, ∃ v, valV ls p.1 = some v ∧ ∃ d e, Dp K H p.2 d ∧ Dp K H v e ∧ SeqAt.shaped d = true ∧ SeqAt.shaped e = true ∧ PyData.eqv d e = true) := by
  obtain ⟨v1, v2, e, t1, t2⟩ := h
  obtain ⟨u1, u2, e', s1, s2⟩ := g
  obtain ⟨a1, a2⟩ := vals2 md u1 u2
  refine ⟨_, _, e, e', rfl, fun p hp => ?_⟩
  simp only [List.mem_cons, List.not_mem_nil, or_false] at hp
  rcases hp with rfl | rfl
  · exact ⟨u1, a1, _, _, t1.dp, s1.dp, ent_shaped _ _ h1, ent_shaped _ _ h1, ent_eqv _ _ h1⟩
  · exact ⟨u2, a2, _, _, t2.dp, s2.dp, ent_shaped _ _ h2, ent_shaped _ _ h2, ent_eqv _ _ h2⟩
theorem put1 (md : Str) (v1 : V) : putK ([] : List (List Key × V)) (kk md "go") v1 = [(kk md "go", v1)] := putK_new _ rfl
theorem put2 (md : Str) (v1 v2 : V) : putK [(kk md "go", v1)] (kk md "flip") v2 = [(kk md "go", v1), (kk md "flip", v2)] := putK_new _ (by
  rw [valV_neg (kk_ne md)]
  rfl)

/-! ### turns' places, texts -/
theorem linkR_tgt (S : Shp) (n : Nat) (tr rr : List Row) (h1 : ∀ r ∈ tr, r.tgt n ∧ r.okc = true) (h2 : ∀ r ∈ rr, r.tgt n ∧ r.okc = true) : ∀ r ∈ linkR S tr rr, r.tgt n ∧ r.okc = true := by
  intro r hr
  unfold linkR at hr
  rcases List.mem_append.mp hr with hr | hr
  · obtain ⟨l, hl, hr⟩ := List.mem_flatten.mp hr
    obtain ⟨i, _, rfl⟩ := List.mem_map.mp hl
    unfold pieceR at hr
    split at hr
    · exact h1 r hr
    · split at hr
      · exact h2 r hr
      · rw [List.mem_singleton.mp hr]
        exact ⟨trivial, rfl⟩
  · rw [List.mem_singleton.mp hr]
    exact ⟨trivial, rfl⟩
abbrev Rok (n : Nat) (rs : List Row) : Prop := ∀ r ∈ rs, r.tgt n ∧ r.okc = true
theorem rok_app {n : Nat} {a b : List Row} (h1 : Rok n a) (h2 : Rok n b) : Rok n (a ++ b) := fun r hr => (List.mem_append.mp hr).elim (h1 r) (h2 r)
theorem rok_cons {n : Nat} {a : Row} {b : List Row} (h1 : a.tgt n ∧ a.okc = true) (h2 : Rok n b) : Rok n (a :: b) := fun r hr => by
  rcases List.mem_cons.mp hr with rfl | hr
  · exact h1
  · exact h2 r hr
theorem rok_nil {n : Nat} : Rok n [] := fun r hr => nomatch hr
theorem gather_rok (S : Shp) (n p1 p2 n3 last a : Nat) : Rok n (gatherR S p1 p2 n3 last a) := by
  have l1 : ∀ i, Rok n [.loc i] := fun i => rok_cons ⟨trivial, rfl⟩ rok_nil
  unfold gatherR
  split
  · exact linkR_tgt S n _ _ (l1 _) (l1 _)
  · exact linkR_tgt S n _ _ (rok_app (l1 _) (rok_cons ⟨trivial, rfl⟩ rok_nil)) (l1 _)
  · exact linkR_tgt S n _ _ (l1 _) (linkR_tgt S n _ _ (l1 _) (l1 _))
  · exact linkR_tgt S n _ _ (rok_app (l1 _) (rok_cons ⟨trivial, rfl⟩ (rok_cons ⟨trivial, rfl⟩ rok_nil))) (l1 _)
  · exact linkR_tgt S n _ _ (rok_app (l1 _) (rok_cons ⟨trivial, rfl⟩ rok_nil)) (l1 _)
  · exact linkR_tgt S n _ _ (rok_app (l1 _) (rok_cons ⟨trivial, rfl⟩ rok_nil)) (l1 _)
  · exact l1 _
theorem code_rok (S : Shp) (n p0 p1 p2 k : Nat) (g : List Row) (hg : Rok n g) : Rok n (codeR S p0 p1 p2 g k) := by
  unfold codeR
  split
  · exact rok_cons ⟨trivial, rfl⟩ (rok_cons ⟨trivial, rfl⟩ rok_nil)
  · split
    · exact hg
    · exact rok_cons ⟨trivial, rfl⟩ rok_nil
theorem round_rok (S : Shp) (n p0 p1 p2 a n3 idle last : Nat) (hn : 9 < n) : Rok n (roundR S p0 p1 p2 a n3 idle last) := by
  have hg := gather_rok S n p1 p2 n3 last a
  unfold roundR
  split
  · exact rok_cons ⟨hn, rfl⟩ rok_nil
  · exact rok_app (rok_app (rok_app (rok_app (code_rok S n p0 p1 p2 2 _ hg) (code_rok S n p0 p1 p2 1 _ hg)) (code_rok S n p0 p1 p2 0 _ hg)) (rok_cons ⟨trivial, rfl⟩ rok_nil))
      (rok_cons ⟨trivial, rfl⟩ (rok_cons ⟨trivial, rfl⟩ (rok_cons ⟨trivial, rfl⟩ (rok_cons ⟨show 1 < n by omega, rfl⟩ rok_nil))))
theorem idle_rok (n idle : Nat) : Rok n (idleR idle) := by
  intro r hr
  unfold idleR at hr
  obtain ⟨l, hl, hr⟩ := List.mem_flatten.mp hr
  obtain ⟨i, _, rfl⟩ := List.mem_map.mp hl
  simp only [List.mem_cons, List.not_mem_nil, or_false] at hr
  rcases hr with rfl | rfl <;> exact ⟨trivial, rfl⟩
theorem head_rok (S : Shp) (p0 idle : Nat) : Rok 10 (headR S p0 idle) := by
  rw [head_eq]
  exact rok_app (rok_app rok_nil (rok_cons ⟨trivial, rfl⟩ rok_nil)) (rok_app (rok_cons ⟨Nat.le_of_ble_eq_true rfl, rfl⟩ rok_nil) (rok_app (rok_app (rok_app (rok_cons ⟨trivial, rfl⟩ (rok_cons ⟨trivial, rfl⟩ rok_nil)) (idle_rok _ _)) (rok_cons ⟨trivial, rfl⟩ rok_nil)) (rok_cons ⟨Nat.le_of_ble_eq_true rfl, rfl⟩ rok_nil)))
theorem turn_len (S : Shp) (p0 p1 p2 : Nat) (acts ns : List Nat) (idle : Nat) (endsR : List Row) : (turnB S p0 p1 p2 acts ns idle endsR).length = 10 := rfl
theorem turn_rok (S : Shp) (p0 p1 p2 : Nat) (acts ns : List Nat) (idle : Nat) (endsR : List Row) (he : Rok 10 endsR) : ∀ x ∈ turnB S p0 p1 p2 acts ns idle endsR, Rok 10 x := by
  have y : ∀ (r : Row), r.tgt 10 ∧ r.okc = true → Rok 10 [r] := fun r h => rok_cons h rok_nil
  intro x hx
  unfold turnB at hx
  rcases List.mem_append.mp hx with hx | hx
  · rcases List.mem_append.mp hx with hx | hx
    · simp only [List.mem_cons, List.not_mem_nil, or_false] at hx
      rcases hx with rfl | rfl | rfl | rfl | rfl
      · exact y _ ⟨Nat.le_of_ble_eq_true rfl, rfl⟩
      · exact head_rok S p0 idle
      · exact rok_cons ⟨Nat.le_of_ble_eq_true rfl, rfl⟩ (rok_cons ⟨trivial, rfl⟩ (y _ ⟨Nat.le_of_ble_eq_true rfl, rfl⟩))
      · exact rok_cons ⟨Nat.le_of_ble_eq_true rfl, rfl⟩ (rok_cons ⟨trivial, rfl⟩ (y _ ⟨Nat.le_of_ble_eq_true rfl, rfl⟩))
      · exact rok_cons ⟨trivial, rfl⟩ (y _ ⟨Nat.le_of_ble_eq_true rfl, rfl⟩)
    · obtain ⟨k, _, rfl⟩ := List.mem_map.mp hx
      exact round_rok S 10 _ _ _ _ _ _ _ (by decide)
  · simp only [List.mem_cons, List.not_mem_nil, or_false] at hx
    rcases hx with rfl | rfl
    · exact rok_cons ⟨trivial, rfl⟩ (y _ ⟨Nat.le_of_ble_eq_true rfl, rfl⟩)
    · exact rok_app (rok_app (y _ ⟨trivial, rfl⟩) he) (y _ ⟨trivial, rfl⟩)
theorem flip_rok (S : Shp) : ∀ x ∈ flipB S, Rok 4 x := by
  have y : ∀ (r : Row), r.tgt 4 ∧ r.okc = true → Rok 4 [r] := fun r h => rok_cons h rok_nil
  intro x hx
  unfold flipB at hx
  simp only [List.mem_cons, List.not_mem_nil, or_false] at hx
  rcases hx with rfl | rfl | rfl | rfl
  · exact rok_cons ⟨trivial, rfl⟩ (rok_cons ⟨trivial, rfl⟩ (y _ ⟨Nat.le_of_ble_eq_true rfl, rfl⟩))
  · exact rok_cons ⟨trivial, rfl⟩ (rok_cons ⟨Nat.le_of_ble_eq_true rfl, rfl⟩ (rok_cons ⟨trivial, rfl⟩ (y _ ⟨Nat.le_of_ble_eq_true rfl, rfl⟩)))
  · exact rok_app (linkR_tgt S 4 _ _ (rok_cons ⟨trivial, rfl⟩ (y _ ⟨trivial, rfl⟩)) (y _ ⟨trivial, rfl⟩)) (rok_cons ⟨trivial, rfl⟩ (rok_cons ⟨trivial, rfl⟩ (rok_cons ⟨trivial, rfl⟩ (rok_cons ⟨trivial, rfl⟩ (rok_cons ⟨trivial, rfl⟩ (y _ ⟨Nat.le_of_ble_eq_true rfl, rfl⟩))))))
  · exact rok_cons ⟨trivial, rfl⟩ (rok_cons ⟨trivial, rfl⟩ (y _ ⟨trivial, rfl⟩))
theorem len_gather (S : Shp) (ok : S.Ok) (p0 p1 p2 n3 last a idle k : Nat) : (codeR S p0 p1 p2 (gatherR S p1 p2 n3 last a) k).length ≤ 13 := by
  have := gather_le S ok p1 p2 n3 last a
  unfold codeR
  split
  · simp
  · split
    · exact this
    · simp
theorem turn_lens (S : Shp) (ok : S.Ok) (p0 p1 p2 : Nat) (acts ns : List Nat) (idle : Nat) (endsR : List Row) (hi : idle ≤ 100) (he : endsR.length ≤ 100) : ∀ x ∈ turnB S p0 p1 p2 acts ns idle endsR, x.length ≤ 1000 := by
  intro x hx
  unfold turnB at hx
  rcases List.mem_append.mp hx with hx | hx
  · rcases List.mem_append.mp hx with hx | hx
    · simp only [List.mem_cons, List.not_mem_nil, or_false] at hx
      rcases hx with rfl | rfl | rfl | rfl | rfl
      · simp
      · rw [head_eq]
        simp only [List.length_append, List.length_cons, List.length_nil, idleR_len]
        omega
      · simp
      · simp
      · simp
    · obtain ⟨k, _, rfl⟩ := List.mem_map.mp hx
      unfold roundR
      split
      · simp
      · have h2 := len_gather S ok p0 p1 p2 (ns.getD 3 0) (k - 1) (acts.getD k 0) idle 2
        have h1 := len_gather S ok p0 p1 p2 (ns.getD 3 0) (k - 1) (acts.getD k 0) idle 1
        have h0 := len_gather S ok p0 p1 p2 (ns.getD 3 0) (k - 1) (acts.getD k 0) idle 0
        simp only [List.length_append, List.length_cons, List.length_nil]
        omega
  · simp only [List.mem_cons, List.not_mem_nil, or_false] at hx
    rcases hx with rfl | rfl
    · simp
    · simp only [List.length_append, List.length_cons, List.length_nil]
      omega
theorem flip_lens (S : Shp) (ok : S.Ok) : ∀ x ∈ flipB S, x.length ≤ 1000 := by
  intro x hx
  unfold flipB at hx
  simp only [List.mem_cons, List.not_mem_nil, or_false] at hx
  rcases hx with rfl | rfl | rfl | rfl
  · simp
  · simp
  · have := linkR_le S ok [.loc 0, .part S.here] [.loc 1] 2 (by simp) (by simp) (by decide)
    simp only [List.length_append, List.length_cons, List.length_nil]
    omega
  · simp
theorem TdAll.setAt {K : PySem.W.Frag} {H : Hp} {x : V} {e : PyData} (g : Td K H x e) : ∀ {v : List V} {d : List PyData} (i : Nat), TdAll K H v d → TdAll K H (v.set i x) (d.set i e)
  | _, _, _, .nil => .nil
  | _, _, 0, .cons _ t => .cons g t
  | _, _, i + 1, .cons a t => .cons a (TdAll.setAt g i t)
theorem LC.setAt {K : PySem.W.Frag} {H : Hp} {a : Addr} {cs : List Cell} {v : V} {c : Cell} (i : Nat) (h : LC K H a cs) (g : Td K H v c.d) (hi : i < cs.length) :
    ∃ vs j, H a = some (.lst vs) ∧ ixN vs.length (i : Int) = some j ∧ Chg [a] H (upd H a (.lst (vs.set j v))) ∧ LC K (upd H a (.lst (vs.set j v))) a (cs.set i c) := by
  obtain ⟨vs, e, tv⟩ := h
  have l := tv.length
  rw [List.length_map] at l
  have c1 : Chg [a] H (upd H a (.lst (vs.set i v))) := Chg.lst (by simp) e
  refine ⟨vs, i, e, ixN_of (by omega), c1, _, upd_same, ?_⟩
  rw [List.map_set]
  exact TdAll.setAt (g.keep c1.kt) i (tv.keep c1.kt)
theorem hl_set {p0 p1 p2 : Nat} (perm : Perm3 p0 p1 p2) (A B C : Cell) : (([C, C, C].set p0 A).set p1 B) = hl p0 p1 A B C ∧ p0 < 3 ∧ p1 < 3 := by
  unfold Perm3 at perm
  simp only [List.mem_cons, List.not_mem_nil, or_false, Prod.mk.injEq] at perm
  rcases perm with ⟨rfl, rfl, rfl⟩ | ⟨rfl, rfl, rfl⟩ | ⟨rfl, rfl, rfl⟩ | ⟨rfl, rfl, rfl⟩ | ⟨rfl, rfl, rfl⟩ | ⟨rfl, rfl, rfl⟩ <;> exact ⟨rfl, by decide, by decide⟩
theorem wt_rev (a : List Cell) : wt a.reverse = wt a := by
  unfold wt
  rw [List.map_reverse, List.sum_reverse]
end T5
set_option maxHeartbeats 8000000
namespace T5
open PySem PySem.Spec PyProof.Rows L2 T3
abbrev st_law : Stmt := topS 30
theorem sc_law : FnScope ["script", "pool", "numbers", "k", "shape", "places", "acts", "idle", "turn", "flipped", "module", "first_many", "second_many", "first", "second", "sign", "ends", "built", "before", "table", "pair", "cells", "due"] ["script"] (defScope st_law) := ⟨rfl, rfl, rfl, by decide +kernel, rfl, by decide +kernel, by decide +kernel⟩
section
variable {P : Program} {w : World} {K : PySem.W.Frag} {mg : Str → Option Value} {base : Heap}
def sp_law (K : PySem.W.Frag) : Sp := fun vs H Q _ => match vs with
  | [.ref a] => ∃ ns : List Int, SqL K H a (ns.map V.int) ∧ ns.length ≤ 63 ∧ ∀ H', Q (.bl true) H'
  | _ => False
theorem ok_law {f : Addr} {fd : FuncData} (F : Fun K "law" "law" st_law f fd) (T : Top K mg)
    (Claw_numbers : Cal P w K mg base "_law_numbers" 1 ["script"] (sp_law_numbers K)) (Claw_take : Cal P w K mg base "_law_take" 1 ["pool", "many"] sp_law_take) (Claw_like : Cal P w K mg base "_law_like" 1 ["actual", "due"] (sp_law_like K))
    (Claw_laid : Cal P w K mg base "_law_laid" 1 ["blocks", "turn"] (sp_law_laid K)) (Claw_shape : Cal P w K mg base "_law_shape" 2 ["pool"] (sp_law_shape K)) (Claw_chain : Cal P w K mg base "_law_chain" 1 ["shape", "row"] (sp_law_chain K))
    (Claw_turn : Cal P w K mg base "_law_turn" 3 ["shape", "places", "acts", "numbers", "idle", "ends"] (sp_law_turn K)) (Claw_flip : Cal P w K mg base "_law_flip" 2 ["shape"] (sp_law_flip K))
    (Claw_due : Cal P w K mg base "_law_due" 2 ["shape", "first", "second", "sign", "acts", "numbers", "flipped"] (sp_law_due K)) (Claw_item : Cal P w K mg base "_law_item" 2 ["pool", "numbers"] (sp_law_item K)) (Crun : Cal P w K mg base "run" 3 ["built", "module", "name", "cells"] (sp_run K)) :
    FnOk P w K mg base CX0 4 f fd ["script"] (sp_law K) := by
  refine F.ok sc_law (fun vs H Q E h => ?_) (fun cdv A outer s H vs Q E hr h => ?_)
  · match vs, h with
    | [.ref a], _ => rfl
  match vs, h with
  | [.ref a], h =>
  obtain ⟨is, hS, hlen, q⟩ := h
  refine ⟨_, (pss_cons (ps_set (i := 1) sc_law.nd rfl (.inl rfl) (pe_cal Claw_numbers (hr.mono (by decide)) (by rfl) (pa_cons (mv 0) pa_nil)))
(pss_cons (ps_set (i := 2) sc_law.nd rfl (.inl rfl) (pe_lst (pa_cons (pe_cal Claw_take (hr.mono (by decide)) (by rfl) (pa_cons (mv 1) (pa_cons pe_int pa_nil))) pa_nil)))
(pss_cons (mforR PassesOwn.never rfl (by rfl) T.range pe_int (pg_name (i := 3) sc_law.nd rfl (.inl rfl))
(pss_one (mapp (mv 2) (pe_op opAdd (pe_op opAdd (pe_ix ixM (mv 2) (mv 3) (fun _ _ => rfl)) pe_int) (pe_cal Claw_take (hr.mono (by decide)) (by rfl) (pa_cons (mv 1) (pa_cons pe_int pa_nil)))))))
(pss_cons (mapp (mv 2) (pe_cal Claw_take (hr.mono (by decide)) (by rfl) (pa_cons (mv 1) (pa_cons pe_int pa_nil))))
(pss_cons (ps_set (i := 4) sc_law.nd rfl (.inl rfl) (pe_cal Claw_shape (hr.mono (by decide)) (by rfl) (pa_cons (mv 1) pa_nil)))
(pss_cons (ps_set (i := 5) sc_law.nd rfl (.inl rfl) (pe_ix ixM (pe_lst (pa_cons (mtupD (pa_cons pe_int (pa_cons pe_int (pa_cons pe_int pa_nil)))) (pa_cons (mtupD (pa_cons pe_int (pa_cons pe_int (pa_cons pe_int pa_nil)))) (pa_cons (mtupD (pa_cons pe_int (pa_cons pe_int (pa_cons pe_int pa_nil)))) (pa_cons (mtupD (pa_cons pe_int (pa_cons pe_int (pa_cons pe_int pa_nil)))) (pa_cons (mtupD (pa_cons pe_int (pa_cons pe_int (pa_cons pe_int pa_nil)))) (pa_cons (mtupD (pa_cons pe_int (pa_cons pe_int (pa_cons pe_int pa_nil)))) pa_nil))))))) (pe_cal Claw_take (hr.mono (by decide)) (by rfl) (pa_cons (mv 1) (pa_cons pe_int pa_nil))) (fun _ _ => rfl)))
(pss_cons (ps_set (i := 6) sc_law.nd rfl (.inl rfl) (pe_lst (pa_cons (pe_ix ixM (pe_lst (pa_cons pe_int (pa_cons pe_int (pa_cons pe_int (pa_cons pe_int (pa_cons pe_int (pa_cons pe_int (pa_cons pe_int (pa_cons pe_int pa_nil))))))))) (pe_cal Claw_take (hr.mono (by decide)) (by rfl) (pa_cons (mv 1) (pa_cons pe_int pa_nil))) (fun _ _ => rfl)) (pa_cons (pe_cal Claw_take (hr.mono (by decide)) (by rfl) (pa_cons (mv 1) (pa_cons pe_int pa_nil))) (pa_cons (pe_op opAdd pe_int (pe_cal Claw_take (hr.mono (by decide)) (by rfl) (pa_cons (mv 1) (pa_cons pe_int pa_nil)))) pa_nil)))))
(pss_cons (ps_set (i := 7) sc_law.nd rfl (.inl rfl) (pe_cal Claw_take (hr.mono (by decide)) (by rfl) (pa_cons (mv 1) (pa_cons pe_int pa_nil))))
(pss_cons (ps_set (i := 8) sc_law.nd rfl (.inl rfl) (pe_cal Claw_take (hr.mono (by decide)) (by rfl) (pa_cons (mv 1) (pa_cons pe_int pa_nil))))
(pss_cons (ps_set (i := 9) sc_law.nd rfl (.inl rfl) (mcmpE opEq (pe_cal Claw_take (hr.mono (by decide)) (by rfl) (pa_cons (mv 1) (pa_cons pe_int pa_nil))) pe_int))
(pss_cons (ps_set (i := 10) sc_law.nd rfl (.inl rfl) (pe_ix ixM (pe_lst (pa_cons pe_str (pa_cons pe_str (pa_cons pe_str pa_nil)))) (pe_cal Claw_take (hr.mono (by decide)) (by rfl) (pa_cons (mv 1) (pa_cons pe_int pa_nil))) (fun _ _ => rfl)))
(pss_cons (ps_set (i := 11) sc_law.nd rfl (.inl rfl) (pe_op opAdd pe_int (pe_cal Claw_take (hr.mono (by decide)) (by rfl) (pa_cons (mv 1) (pa_cons pe_int pa_nil)))))
(pss_cons (ps_set (i := 12) sc_law.nd rfl (.inl rfl) (pe_cal Claw_take (hr.mono (by decide)) (by rfl) (pa_cons (mv 1) (pa_cons pe_int pa_nil))))
(pss_cons (ps_set (i := 13) sc_law.nd rfl (.inl rfl) (mlstC pa_nil))
(pss_cons (mforR PassesOwn.never rfl (by rfl) T.range (mv 11) (pg_name (i := 3) sc_law.nd rfl (.inl rfl))
(pss_one (mapp (mv 13) (pe_cal Claw_item (hr.mono (by decide)) (by rfl) (pa_cons (mv 1) (pa_cons (mv 2) pa_nil))))))
(pss_cons (ps_set (i := 14) sc_law.nd rfl (.inl rfl) (mlstC pa_nil))
(pss_cons (mforR PassesOwn.never rfl (by rfl) T.range (mv 12) (pg_name (i := 3) sc_law.nd rfl (.inl rfl))
(pss_one (mapp (mv 14) (pe_cal Claw_item (hr.mono (by decide)) (by rfl) (pa_cons (mv 1) (pa_cons (mv 2) pa_nil))))))
(pss_cons (ps_set (i := 15) sc_law.nd rfl (.inl rfl) (pe_ix ixM (mv 13) (pe_cal Claw_take (hr.mono (by decide)) (by rfl) (pa_cons (mv 1) (pa_cons (mv 11) pa_nil))) (fun _ _ => rfl)))
(mcut (mif (mcmp opEq (pe_cal Claw_take (hr.mono (by decide)) (by rfl) (pa_cons (mv 1) (pa_cons pe_int pa_nil))) pe_int)
(pss_one (ps_set (i := 15) sc_law.nd rfl (.inl rfl) (pe_cal Claw_item (hr.mono (by decide)) (by rfl) (pa_cons (mv 1) (pa_cons (mv 2) pa_nil)))))
pss_nil)
(pss_cons (ps_set (i := 16) sc_law.nd rfl (.inl rfl) (mlstR pa_nil))
(mcut (mif (mval (mv 9))
(pss_one (ps_set (i := 16) sc_law.nd rfl (.inl rfl) (mlstR (pa_cons (mtupD (pa_cons pe_str (pa_cons (mv 10) (pa_cons pe_str (pa_cons pe_int pa_nil))))) pa_nil))))
pss_nil)
(pss_cons (ps_set (i := 17) sc_law.nd rfl (.inl rfl) mdnew)
(pss_cons (ps_set (i := 18) sc_law.nd rfl (.inl rfl) mdnew)
(pss_cons (mforL PassesOwn.never rfl (pe_lst (pa_cons (mv 17) (pa_cons (mv 18) pa_nil))) (pg_name (i := 19) sc_law.nd rfl (.inl rfl))
(pss_cons (ps_asg (mtupD (pa_cons pe_int (pa_cons (pe_cal Claw_laid (hr.mono (by decide)) (by rfl) (pa_cons (pe_cal Claw_turn (hr.mono (by decide)) (by rfl) (pa_cons (mv 4) (pa_cons (mv 5) (pa_cons (mv 6) (pa_cons (mv 2) (pa_cons (mv 7) (pa_cons (mv 16) pa_nil))))))) (pa_cons (mv 8) pa_nil))) pa_nil))) (pg_sub (mv 19) (pe_tup (pa_cons (mv 10) (pa_cons pe_str pa_nil))) (setT (hu1 hr))))
(pss_one (ps_asg (mtupD (pa_cons pe_int (pa_cons (pe_cal Claw_laid (hr.mono (by decide)) (by rfl) (pa_cons (pe_cal Claw_flip (hr.mono (by decide)) (by rfl) (pa_cons (mv 4) pa_nil)) (pa_cons (pe_op opAdd (mv 8) pe_int) pa_nil))) pa_nil))) (pg_sub (mv 19) (pe_tup (pa_cons (mv 10) (pa_cons pe_str pa_nil))) (setT (hu1 hr)))))))
(pss_cons (mforL PassesOwn.never rfl (pe_lst (pa_cons (pe_tup (pa_cons (mv 13) (pa_cons (mv 14) pa_nil))) (pa_cons (pe_tup (pa_cons (mv 14) (pa_cons (mv 13) pa_nil))) (pa_cons (pe_tup (pa_cons (mlstC pa_nil) (pa_cons (mv 14) pa_nil))) pa_nil)))) (pg_name (i := 20) sc_law.nd rfl (.inl rfl))
(pss_cons (ps_set (i := 21) sc_law.nd rfl (.inl rfl) (mlstC (pa_cons (mv 15) (pa_cons (mv 15) (pa_cons (mv 15) pa_nil)))))
(pss_cons (ps_asg (pe_cal Claw_chain (hr.mono (by decide)) (by rfl) (pa_cons (mv 4) (pa_cons (pe_ix ixM (mv 20) pe_int (fun _ _ => rfl)) pa_nil))) (pg_sub (mv 21) (pe_ix ixM (mv 5) pe_int (fun _ _ => rfl)) setM))
(pss_cons (ps_asg (pe_cal Claw_chain (hr.mono (by decide)) (by rfl) (pa_cons (mv 4) (pa_cons (pe_ix ixM (mv 20) pe_int (fun _ _ => rfl)) pa_nil))) (pg_sub (mv 21) (pe_ix ixM (mv 5) pe_int (fun _ _ => rfl)) setM))
(pss_cons (ps_set (i := 22) sc_law.nd rfl (.inl rfl) (pe_cal Claw_due (hr.mono (by decide)) (by rfl) (pa_cons (mv 4) (pa_cons (pe_ix ixM (mv 20) pe_int (fun _ _ => rfl)) (pa_cons (pe_ix ixM (mv 20) pe_int (fun _ _ => rfl)) (pa_cons (mv 15) (pa_cons (mv 6) (pa_cons (mv 2) (pa_cons (mv 9) pa_nil)))))))))
(pss_one (mif (pt_not (mval (pe_cal Claw_like (hr.mono (by decide)) (by rfl) (pa_cons (pe_cal Crun (hr.mono (by decide)) (by rfl) (pa_cons (mv 17) (pa_cons (mv 10) (pa_cons pe_str (pa_cons (pe_callTy callTupC (by rfl) T.tuple (by decide +kernel) (pa_cons (mv 21) pa_nil)) pa_nil))))) (pa_cons (mv 22) pa_nil)))))
(pss_one (ps_ret pe_bl))
pss_nil)))))))
(pss_one (ps_ret (mcmpE (opEqT (hu200 hr)) (mv 17) (mv 18)))))))))))))))))))))))))))))
  , ?_⟩
  refine ⟨is, hS, hlen, fun p H1 c1 hp0 hp1 => ⟨hp1, 4, rfl, by decide, fun n0 H2 hn0 c2 hp2 => ⟨le_sz (Nat.le_of_ble_eq_true rfl), fun nl hnl => ?_⟩⟩⟩
  have cn : Chg [] H2 (upd H2 nl (.lst [.int (n0 : Nat)])) := Chg.new hnl
  have en : upd H2 nl (.lst [.int (n0 : Nat)]) nl = some (.lst (([n0] : List Nat).map nv)) := upd_same
  have hp3 := hp2.chg cn (by simp)
  have nnl : nl ≠ p := pool_ne hp2 hnl
  have cn' : Chg [p] H2 (upd H2 nl (.lst [.int (n0 : Nat)])) := cn.mono (by simp)
  generalize upd H2 nl (.lst [.int (n0 : Nat)]) = H3 at *
  clear c1 c2 cn hp0 hp1 hS
  refine ⟨⟨by decide, by decide⟩, fun i σ H' => ∃ (k : Option V) (ns : List Nat), σ = [some (.ref a), some (.ref p), some (.ref nl), k, none, none, none, none, none, none, none, none, none, none, none, none, none, none, none, none, none, none, none] ∧ H' nl = some (.lst (ns.map nv)) ∧ (i = 0 → ns = [n0]) ∧ (i = 1 → ∃ n1, ns = [n0, n1] ∧ n0 < n1) ∧ (i = 2 → ∃ n1 n2, ns = [n0, n1, n2] ∧ n0 < n1 ∧ n1 < n2) ∧ Chg [p] H2 H' ∧ Pool H' p, ?_, ?_, ?_⟩
  · exact ⟨none, [n0], rfl, en, fun _ => rfl, (fun z => nomatch z), (fun z => nomatch z), cn', hp3⟩
  · rintro i σ H' hi ⟨k, ns, rfl, e, f0, f1, f2, c, hp⟩
    have hi2 : i < 2 := hi
    have hx : ∃ x, ns[i]? = some x ∧ ns.length ≤ 2 ∧ ∀ r : Nat, (i + 1 = 0 → ns ++ [x + 1 + r] = [n0]) ∧ (i + 1 = 1 → ∃ n1, ns ++ [x + 1 + r] = [n0, n1] ∧ n0 < n1) ∧ (i + 1 = 2 → ∃ n1 n2, ns ++ [x + 1 + r] = [n0, n1, n2] ∧ n0 < n1 ∧ n1 < n2) := by
      match i, hi2 with
      | 0, _ =>
        rw [f0 rfl]
        exact ⟨n0, rfl, Nat.le_of_ble_eq_true rfl, fun r => ⟨(fun z => nomatch z), fun _ => ⟨_, rfl, by omega⟩, (fun z => nomatch z)⟩⟩
      | 1, _ =>
        obtain ⟨n1, rfl, h1⟩ := f1 rfl
        exact ⟨n1, rfl, Nat.le_of_ble_eq_true rfl, fun r => ⟨(fun z => nomatch z), (fun z => nomatch z), fun _ => ⟨n1, _, rfl, h1, by omega⟩⟩⟩
    obtain ⟨x, hx, hl, hf⟩ := hx
    refine ⟨⟨_, e⟩, _, .inl (SqL.of e), .int (x : Nat), atIk i (by rw [List.getElem?_map, hx]; rfl), hp, 3, rfl, by decide, fun r Ha hr ca hpa => ?_⟩
    have ea := ca.get (by simp [nnl]) e
    have cw : Chg [nl] Ha (upd Ha nl (.lst (ns.map nv ++ [nv (x + 1 + r)]))) := Chg.lst (by simp) ea
    obtain ⟨g0, g1, g2⟩ := hf r
    refine ⟨_, ea, lt_sz (by rw [List.length_map]; omega), _, ns ++ [x + 1 + r], rfl, ?_, g0, g1, g2, (c.trans ca).at2 cw (fun x hx => .inr (by rw [List.mem_singleton.mp hx]; exact hnl)), hpa.chg cw (by simp [Ne.symm nnl])⟩
    rw [List.map_append]
    exact upd_same
  rintro σ H4 ⟨k, ns3, rfl, e4, _, _, f2, c4, hp4⟩
  obtain ⟨n1, n2, rfl, h01, h12⟩ := f2 rfl
  refine ⟨⟨_, e4⟩, hp4, 300, rfl, by decide, fun n3 H5 hn3 c5 hp5 => ?_⟩
  have e5 := c5.get (by simp [nnl]) e4
  have cw5 : Chg [nl] H5 (upd H5 nl (.lst (([n0, n1, n2] : List Nat).map nv ++ [.int (n3 : Nat)]))) := Chg.lst (by simp) e5
  refine ⟨_, e5, lt_sz (Nat.le_of_ble_eq_true rfl), ?_⟩
  have e6 : upd H5 nl (.lst (([n0, n1, n2] : List Nat).map nv ++ [.int (n3 : Nat)])) nl = some (.lst (([n0, n1, n2, n3] : List Nat).map nv)) := upd_same
  have hp6 := hp5.chg cw5 (by simp [Ne.symm nnl])
  generalize hN : ([n0, n1, n2, n3] : List Nat) = ns at *
  have hnsl : ns.length = 4 := by rw [← hN]; rfl
  generalize upd H5 nl (.lst (([n0, n1, n2] : List Nat).map nv ++ [.int (n3 : Nat)])) = H6 at *
  clear c4 c5 cw5 e4 e5 hp4 hp5 hp2 hp3 cn' en hnl
  refine ⟨hp6, fun sv H7 S ok _ _ _ c7 hp7 ts => ?_⟩
  have e7 := c7.get (by simp [nnl]) e6
  clear c7 e6 hp6
  -- the places, the acts
  refine ⟨_, .cons (.int _) (.cons (.int _) (.cons (.int _) .nil)), le_sz (Nat.le_of_ble_eq_true rfl), fun w1 G1 d1 u1 => ⟨_, .cons (.int _) (.cons (.int _) (.cons (.int _) .nil)), le_sz (Nat.le_of_ble_eq_true rfl), fun w2 G2 d2 u2 => ⟨_, .cons (.int _) (.cons (.int _) (.cons (.int _) .nil)), le_sz (Nat.le_of_ble_eq_true rfl), fun w3 G3 d3 u3 =>
    ⟨_, .cons (.int _) (.cons (.int _) (.cons (.int _) .nil)), le_sz (Nat.le_of_ble_eq_true rfl), fun w4 G4 d4 u4 => ⟨_, .cons (.int _) (.cons (.int _) (.cons (.int _) .nil)), le_sz (Nat.le_of_ble_eq_true rfl), fun w5 G5 d5 u5 => ⟨_, .cons (.int _) (.cons (.int _) (.cons (.int _) .nil)), le_sz (Nat.le_of_ble_eq_true rfl), fun w6 G6 d6 u6 => ⟨le_sz (Nat.le_of_ble_eq_true rfl), fun lp hlp => ?_⟩⟩⟩⟩⟩⟩⟩
  have cl : Chg [] G6 (upd G6 lp (.lst [w1, w2, w3, w4, w5, w6])) := Chg.new hlp
  have elp : upd G6 lp (.lst [w1, w2, w3, w4, w5, w6]) lp = some (.lst [w1, w2, w3, w4, w5, w6]) := upd_same
  have d6' := d1.trans (d2.trans (d3.trans (d4.trans (d5.trans d6))))
  have nlp : lp ≠ p := pool_ne (hp7.chg d6' (by simp)) hlp
  have hpl : ∀ r : Nat, r < 6 → ∃ (v : V) (p0 p1 p2 : Nat), [w1, w2, w3, w4, w5, w6][r]? = some v ∧ Perm3 p0 p1 p2 ∧ Td K G6 v (.tuple [.int (p0 : Nat), .int (p1 : Nat), .int (p2 : Nat)]) := by
    intro r hr
    match r, hr with
    | 0, _ => exact ⟨w1, 0, 1, 2, rfl, by unfold Perm3; simp, u1.keep (d2.trans (d3.trans (d4.trans (d5.trans d6)))).kt⟩
    | 1, _ => exact ⟨w2, 0, 2, 1, rfl, by unfold Perm3; simp, u2.keep (d3.trans (d4.trans (d5.trans d6))).kt⟩
    | 2, _ => exact ⟨w3, 1, 0, 2, rfl, by unfold Perm3; simp, u3.keep (d4.trans (d5.trans d6)).kt⟩
    | 3, _ => exact ⟨w4, 1, 2, 0, rfl, by unfold Perm3; simp, u4.keep (d5.trans d6).kt⟩
    | 4, _ => exact ⟨w5, 2, 0, 1, rfl, by unfold Perm3; simp, u5.keep d6.kt⟩
    | 5, _ => exact ⟨w6, 2, 1, 0, rfl, by unfold Perm3; simp, u6⟩
  have c8 := d6'.trans cl
  have ts8 := ts.keep c8.kt
  have e8 := c8.get (by simp) e7
  have hp8 := hp7.chg c8 (by simp)
  generalize upd G6 lp (.lst [w1, w2, w3, w4, w5, w6]) = H8 at *
  refine ⟨hp8, 6, rfl, by decide, fun r6 H9 hr6 c9 hp9 => ?_⟩
  obtain ⟨pv, p0, p1, p2, hpv, perm, tpv⟩ := hpl r6 hr6
  refine ⟨_, .inl (SqL.of (c9.get (by simp [nlp]) elp)), pv, atIk r6 hpv, ?_⟩
  have tpv9 := (tpv.keep cl.kt).keep c9.kt
  have ts9 := ts8.keep c9.kt
  have e9 := c9.get (by simp [nnl]) e8
  clear d1 d2 d3 d4 d5 d6 d6' u1 u2 u3 u4 u5 u6 cl elp hpl c8 c9 ts8 e8 hp8 ts e7 hp7 tpv
  refine ⟨le_sz (Nat.le_of_ble_eq_true rfl), fun li hli => ?_⟩
  have ci : Chg [] H9 (upd H9 li (.lst [.int 1, .int 0, .int 1, .int 2, .int 3, .int 4, .int 4, .int 7])) := Chg.new hli
  have eli : upd H9 li (.lst [.int 1, .int 0, .int 1, .int 2, .int 3, .int 4, .int 4, .int 7]) li = some (.lst (([1, 0, 1, 2, 3, 4, 4, 7] : List Nat).map nv)) := upd_same
  have nli : li ≠ p := pool_ne hp9 hli
  have hp10 := hp9.chg ci (by simp)
  generalize upd H9 li (.lst [.int 1, .int 0, .int 1, .int 2, .int 3, .int 4, .int 4, .int 7]) = H10 at *
  refine ⟨hp10, 8, rfl, by decide, fun r7 H11 hr7 c11 hp11 => ?_⟩
  obtain ⟨a0, ha0, ha07⟩ : ∃ a0 : Nat, ([1, 0, 1, 2, 3, 4, 4, 7] : List Nat)[r7]? = some a0 ∧ (a0 ≤ 4 ∨ a0 = 7) := by
    match r7, hr7 with
    | 0, _ => exact ⟨_, rfl, by decide⟩
    | 1, _ => exact ⟨_, rfl, by decide⟩
    | 2, _ => exact ⟨_, rfl, by decide⟩
    | 3, _ => exact ⟨_, rfl, by decide⟩
    | 4, _ => exact ⟨_, rfl, by decide⟩
    | 5, _ => exact ⟨_, rfl, by decide⟩
    | 6, _ => exact ⟨_, rfl, by decide⟩
    | 7, _ => exact ⟨_, rfl, by decide⟩
  refine ⟨_, .inl (SqL.of (c11.get (by simp [nli]) eli)), .int (a0 : Nat), atIk r7 (by rw [List.getElem?_map, ha0]; rfl), hp11, 8, rfl, by decide, fun r8 H12 hr8 c12 hp12 => ⟨hp12, 6, rfl, by decide, fun r9 H13 hr9 c13 hp13 => ⟨le_sz (Nat.le_of_ble_eq_true rfl), fun al hal => ?_⟩⟩⟩
  have cal : Chg [] H13 (upd H13 al (.lst [.int (a0 : Nat), .int (r8 : Nat), .int (1 + (r9 : Int))])) := Chg.new hal
  have eal : upd H13 al (.lst [.int (a0 : Nat), .int (r8 : Nat), .int (1 + (r9 : Int))]) al = some (.lst (([a0, r8, 1 + r9] : List Nat).map nv)) := upd_same
  have nal : al ≠ p := pool_ne hp13 hal
  have c914 : Chg [p] H9 (upd H13 al (.lst [.int (a0 : Nat), .int (r8 : Nat), .int (1 + (r9 : Int))])) := (ci.mono (by simp)).trans (c11.trans (c12.trans (c13.trans (cal.mono (by simp)))))
  have ts14 := ts9.keep c914.kt
  have tpv14 := tpv9.keep c914.kt
  have e14 := c914.get (by simp [nnl]) e9
  have hp14 := hp13.chg cal (by simp)
  generalize upd H13 al (.lst [.int (a0 : Nat), .int (r8 : Nat), .int (1 + (r9 : Int))]) = H14 at *
  clear ci eli c11 c12 c13 cal c914 ts9 tpv9 e9 hp9 hp10 hp11 hp12 hp13 hli hal
  refine ⟨hp14, 5, rfl, by decide, fun idle H15 hidle c15 hp15 => ⟨hp15, 32, rfl, by decide, fun turn H16 hturn c16 hp16 => ⟨hp16, 2, rfl, by decide, fun fl0 H17 hfl c17 hp17 => ⟨le_sz (Nat.le_of_ble_eq_true rfl), fun ml hml => ?_⟩⟩⟩⟩
  have cm : Chg [] H17 (upd H17 ml (.lst [.str "Ring", .str "R", .str "Turn_a"])) := Chg.new hml
  have eml : upd H17 ml (.lst [.str "Ring", .str "R", .str "Turn_a"]) ml = some (.lst [.str "Ring", .str "R", .str "Turn_a"]) := upd_same
  have nml : ml ≠ p := pool_ne hp17 hml
  have hp18 := hp17.chg cm (by simp)
  have c1418 : Chg [p] H14 (upd H17 ml (.lst [.str "Ring", .str "R", .str "Turn_a"])) := c15.trans (c16.trans (c17.trans (cm.mono (by simp))))
  generalize upd H17 ml (.lst [.str "Ring", .str "R", .str "Turn_a"]) = H18 at *
  generalize (decide ((fl0 : Int) = 1)) = flp at *
  refine ⟨hp18, 3, rfl, by decide, fun r10 H19 hr10 c19 hp19 => ?_⟩
  obtain ⟨md, hmd, hok⟩ : ∃ md : Str, ([V.str "Ring", .str "R", .str "Turn_a"] : List V)[r10]? = some (.str md) ∧ PyData.strOk md = true := by
    match r10, hr10 with
    | 0, _ => exact ⟨_, rfl, by decide +kernel⟩
    | 1, _ => exact ⟨_, rfl, by decide +kernel⟩
    | 2, _ => exact ⟨_, rfl, by decide +kernel⟩
  refine ⟨_, .inl (SqL.of (c19.get (by simp [nml]) eml)), .str md, atIk r10 hmd, hp19, 13, rfl, by decide, fun f1 H20 hf1 c20 hp20 => ⟨hp20, 7, rfl, by decide, fun f2m H21 hf2 c21 hp21 => ?_⟩⟩
  have c1421 := c1418.trans (c19.trans (c20.trans c21))
  have ts21 := ts14.keep c1421.kt
  have tpv21 := tpv14.keep c1421.kt
  have e21 := c1421.get (by simp [nnl]) e14
  have eal21 := c1421.get (by simp [nal]) eal
  clear cm eml c1418 c15 c16 c17 c19 c20 c21 c1421 ts14 tpv14 e14 eal hp14 hp15 hp16 hp17 hp18 hp19 hp20 hml
  refine ⟨[], .nil, le_sz (Nat.le_of_ble_eq_true rfl), fun fi H22 hfi c22 lfi => ⟨⟨by omega, by omega⟩, fun i σ H' => ∃ (k : Option V) (cf : List Cell), σ = [some (.ref a), some (.ref p), some (.ref nl), k, some sv, some pv, some (.ref al), some (.int (idle : Nat)), some (.int (turn : Nat)), some (.bl flp), some (.str md), some (.int (2 + (f1 : Int))), some (.int (f2m : Nat)), some (.ref fi), none, none, none, none, none, none, none, none, none] ∧ LC K H' fi cf ∧ cf.length = i ∧ (∀ x ∈ cf, Item ns x) ∧ Chg [p] H21 H' ∧ Pool H' p, ?_, ?_, ?_⟩⟩
  · exact ⟨_, [], rfl, lfi, rfl, (fun x hx => nomatch hx), c22.mono (by simp), hp21.chg c22 (by simp)⟩
  · rintro i σ H' hi ⟨k, cf, rfl, lf, hl, hit, c, hp⟩
    have nfi : fi ≠ p := pool_ne hp21 hfi
    obtain ⟨_, ef, _⟩ := id lf
    refine ⟨⟨_, ef⟩, hp, Ne.symm nnl, ns, c.get (by simp [nnl]) e21, by omega, fun v Ha x ca hpa tx hx => ?_⟩
    obtain ⟨ws, ew, lw, cw, lcw⟩ := (lf.chg ca (by simp [nfi])).push (L := [fi]) tx (by simp)
    refine ⟨ws, ew, lt_sz (by omega), _, cf ++ [x], rfl, lcw, by rw [List.length_append, hl]; rfl, fun y hy => ?_, (c.trans ca).at2 cw (fun x hx => .inr (by rw [List.mem_singleton.mp hx]; exact hfi)), hpa.chg cw (by simp [Ne.symm nfi])⟩
    rcases List.mem_append.mp hy with hy | hy
    · exact hit y hy
    · rw [List.mem_singleton.mp hy]
      exact hx
  rintro σ H23 ⟨k, cf, rfl, lf23, hcfl, hcfi, c23, hp23⟩
  have nfi : fi ≠ p := pool_ne hp21 hfi
  have hcf : cf.length = 2 + f1 := by omega
  have ts23 := ts21.keep c23.kt
  have tpv23 := tpv21.keep c23.kt
  have e23 := c23.get (by simp [nnl]) e21
  have eal23 := c23.get (by simp [nal]) eal21
  clear c22 lfi c23 ts21 tpv21 e21 eal21 hp21 hfi hcfl
  refine ⟨[], .nil, le_sz (Nat.le_of_ble_eq_true rfl), fun se H24 hse c24 lse => ⟨⟨by omega, by omega⟩, fun i σ H' => ∃ (k : Option V) (cs : List Cell), σ = [some (.ref a), some (.ref p), some (.ref nl), k, some sv, some pv, some (.ref al), some (.int (idle : Nat)), some (.int (turn : Nat)), some (.bl flp), some (.str md), some (.int (2 + (f1 : Int))), some (.int (f2m : Nat)), some (.ref fi), some (.ref se), none, none, none, none, none, none, none, none] ∧ LC K H' se cs ∧ cs.length = i ∧ (∀ x ∈ cs, Item ns x) ∧ Chg [p] H23 H' ∧ Pool H' p, ?_, ?_, ?_⟩⟩
  · exact ⟨_, [], rfl, lse, rfl, (fun x hx => nomatch hx), c24.mono (by simp), hp23.chg c24 (by simp)⟩
  · rintro i σ H' hi ⟨k, cs, rfl, lf, hl, hit, c, hp⟩
    have nse : se ≠ p := pool_ne hp23 hse
    obtain ⟨_, ef, _⟩ := id lf
    refine ⟨⟨_, ef⟩, hp, Ne.symm nnl, ns, c.get (by simp [nnl]) e23, by omega, fun v Ha x ca hpa tx hx => ?_⟩
    obtain ⟨ws, ew, lw, cw, lcw⟩ := (lf.chg ca (by simp [nse])).push (L := [se]) tx (by simp)
    refine ⟨ws, ew, lt_sz (by omega), _, cs ++ [x], rfl, lcw, by rw [List.length_append, hl]; rfl, fun y hy => ?_, (c.trans ca).at2 cw (fun x hx => .inr (by rw [List.mem_singleton.mp hx]; exact hse)), hpa.chg cw (by simp [Ne.symm nse])⟩
    rcases List.mem_append.mp hy with hy | hy
    · exact hit y hy
    · rw [List.mem_singleton.mp hy]
      exact hx
  rintro σ H25 ⟨k, cs, rfl, lse25, hcsl, hcsi, c25, hp25⟩
  have nse : se ≠ p := pool_ne hp23 hse
  have hcs : cs.length ≤ 6 := by omega
  have lf25 := lf23.chg c25 (by simp [nfi])
  have ts25 := ts23.keep c25.kt
  have tpv25 := tpv23.keep c25.kt
  have e25 := c25.get (by simp [nnl]) e23
  have eal25 := c25.get (by simp [nal]) eal23
  clear c24 lse c25 ts23 tpv23 e23 eal23 hp23 hse hcsl lf23
  refine ⟨hp25, 2 + f1, rfl, by omega, fun r11 H26 hr11 c26 hp26 => ?_⟩
  obtain ⟨fv, efv, tfv⟩ := lf25.chg c26 (by simp [nfi])
  obtain ⟨s0c, hs0⟩ : ∃ s0c, cf[r11]? = some s0c := ⟨_, List.getElem?_eq_getElem (by omega)⟩
  obtain ⟨s0, hs0v, ts0⟩ := tfv.get (i := r11) (by rw [List.getElem?_map, hs0]; rfl)
  refine ⟨_, .inl (SqL.of efv), s0, atIk r11 hs0v, fun σ H' => ∃ (sgv : V) (sgc : Cell), σ = [some (.ref a), some (.ref p), some (.ref nl), k, some sv, some pv, some (.ref al), some (.int (idle : Nat)), some (.int (turn : Nat)), some (.bl flp), some (.str md), some (.int (2 + (f1 : Int))), some (.int (f2m : Nat)), some (.ref fi), some (.ref se), some sgv, none, none, none, none, none, none, none] ∧ Td K H' sgv sgc.d ∧ Item ns sgc ∧ Chg [p] H25 H' ∧ Pool H' p, ?_, ?_⟩
  · refine ⟨hp26, 4, rfl, by decide, fun r12 H27 hr12 c27 hp27 => ⟨fun _ => ?_, fun _ => ⟨s0, s0c, rfl, ts0.keep c27.kt, hcfi _ (List.mem_of_getElem? hs0), c26.trans c27, hp27⟩⟩⟩
    exact ⟨hp27, Ne.symm nnl, ns, (c26.trans c27).get (by simp [nnl]) e25, by omega, fun v Ha x ca hpa tx hx => ⟨v, x, rfl, tx, hx, (c26.trans c27).trans ca, hpa⟩⟩
  rintro σ H28 ⟨sgv, sgc, rfl, tsg, hsgi, c28, hp28⟩
  clear c26 hp26 efv tfv ts0
  have ts28 := ts25.keep c28.kt
  have tpv28 := tpv25.keep c28.kt
  have e28 := c28.get (by simp [nnl]) e25
  have eal28 := c28.get (by simp [nal]) eal25
  have lf28 := lf25.chg c28 (by simp [nfi])
  have lse28 := lse25.chg c28 (by simp [nse])
  clear c28 ts25 tpv25 e25 eal25 lf25 lse25 hp25
  refine ⟨[], .nil, le_sz (Nat.le_of_ble_eq_true rfl), fun en H29 hen c29 len' => ⟨fun σ H' => ∃ (en : Addr), σ = [some (.ref a), some (.ref p), some (.ref nl), k, some sv, some pv, some (.ref al), some (.int (idle : Nat)), some (.int (turn : Nat)), some (.bl flp), some (.str md), some (.int (2 + (f1 : Int))), some (.int (f2m : Nat)), some (.ref fi), some (.ref se), some sgv, some (.ref en), none, none, none, none, none, none] ∧ LR K H' en (if flp then [.call md "flip" 1] else []) ∧ Chg [] H28 H', ?_, ?_⟩⟩
  · cases flp with
    | false => exact ⟨(fun h => nomatch h), fun _ => ⟨en, rfl, len', c29⟩⟩
    | true =>
      refine ⟨fun _ => ?_, (fun h => nomatch h)⟩
      exact ⟨_, .cons (.str _) (.cons (.str _) (.cons (.str _) (.cons (.int _) .nil))), le_sz (Nat.le_of_ble_eq_true rfl), fun v1 Ha ca t1 => ⟨[.call md "flip" 1], .cons t1 .nil, le_sz (Nat.le_of_ble_eq_true rfl), fun en2 Hb hb cb lb => ⟨en2, rfl, lb, c29.trans (ca.trans cb)⟩⟩⟩
  clear c29 len' hen en H29
  rintro σ H29 ⟨en, rfl, len', c29⟩
  have c29' := c29
  have ts29 := ts28.keep c29.kt
  have e29 := c29.get (by simp) e28
  have eal29 := c29.get (by simp) eal28
  have lf29 := lf28.chg c29 (by simp)
  have lse29 := lse28.chg c29 (by simp)
  have tsg29 := tsg.keep c29.kt
  obtain ⟨pl, pxs, rfl, tpl28, tpx⟩ := tpv28.tuple
  have epx : pxs = [V.int (p0 : Nat), V.int (p1 : Nat), V.int (p2 : Nat)] := TdAll.ints (ns := [((p0 : Nat) : Int), ((p1 : Nat) : Int), ((p2 : Nat) : Int)]) tpx
  subst epx
  have tpl29 := tpl28.keep c29.kt
  clear ts28 tpv28 e28 eal28 lf28 lse28 tsg c29 c29' tpl28 tpx
  obtain ⟨endsR, hends⟩ : ∃ e, e = (if flp then [Row.call md "flip" 1] else []) := ⟨_, rfl⟩
  rw [← hends] at len'
  obtain ⟨acts, hacts⟩ : ∃ x, x = [a0, r8, 1 + r9] := ⟨_, rfl⟩
  rw [← hacts] at eal29
  have hact3 : acts.length = 3 := by rw [hacts]; rfl
  have hact7 : ∀ x ∈ acts, x ≤ 7 := by
    intro x hx
    rw [hacts] at hx
    simp only [List.mem_cons, List.not_mem_nil, or_false] at hx
    omega
  have htok : ∀ x, Item ns x → TOk acts ns x ∧ actOf acts ns x ≤ 7 := by
    intro x hx
    rw [← hN] at hx ⊢
    rw [hacts]
    exact hx.tok h01 h12 ha07 hr8 (by omega)
  have hendl : endsR.length ≤ 100 := by
    rw [hends]
    cases flp <;> exact Nat.le_of_ble_eq_true rfl
  have hendk : Rok 10 endsR := by
    rw [hends]
    cases flp with
    | false => exact rok_nil
    | true =>
      refine rok_cons ⟨trivial, ?_⟩ rok_nil
      show (PyData.strOk md && PyData.strOk "flip") = true
      rw [hok]
      decide +kernel
  obtain ⟨R1, hR1⟩ : ∃ R, R = laidR (turnB S p0 p1 p2 acts ns idle endsR) turn := ⟨_, rfl⟩
  obtain ⟨R2, hR2⟩ : ∃ R, R = laidR (flipB S) (turn + 1) := ⟨_, rfl⟩
  obtain ⟨PP, hPP⟩ : ∃ PP : Prop, PP = (LaidOk (turnB S p0 p1 p2 acts ns idle endsR) R1 ∧ LaidOk (flipB S) R2 ∧ (∀ r ∈ R1, r.okc = true) ∧ (∀ r ∈ R2, r.okc = true)) := ⟨_, rfl⟩
  refine fun b1 Hc hb1 cc eb1 => fun b2 Hd hb2 cd eb2 => ⟨le_sz (Nat.le_of_ble_eq_true rfl), fun lb hlb => ?_⟩
  have n12 : b1 ≠ b2 := ne_of_none eb1 hb2
  have cl : Chg [] Hd (upd Hd lb (.lst [.ref b1, .ref b2])) := Chg.new hlb
  have elb : upd Hd lb (.lst [.ref b1, .ref b2]) lb = some (.lst [.ref b1, .ref b2]) := upd_same
  have eb1d := cl.get (by simp) (cd.get (by simp) eb1)
  have eb2d := cl.get (by simp) eb2
  have nlb1 : lb ≠ b1 := (ne_of_none (cd.get (by simp) eb1) hlb).symm
  have nlb2 : lb ≠ b2 := (ne_of_none eb2 hlb).symm
  have cE := cc.trans (cd.trans cl)
  have fb2 : H29 b2 = none := cc.old hb2
  have frB : ∀ x ∈ [b1, b2], H29 x = none := by
    intro x hx
    simp only [List.mem_cons, List.not_mem_nil, or_false] at hx
    rcases hx with rfl | rfl
    · exact hb1
    · exact fb2
  generalize upd Hd lb (.lst [.ref b1, .ref b2]) = He at *
  refine ⟨_, SqL.of elb, fun j σ H'' => ∃ (x19 : Option V), σ = [some (.ref a), some (.ref p), some (.ref nl), k, some sv, some (.ref pl), some (.ref al), some (.int (idle : Nat)), some (.int (turn : Nat)), some (.bl flp), some (.str md), some (.int (2 + (f1 : Int))), some (.int (f2m : Nat)), some (.ref fi), some (.ref se), some sgv, some (.ref en), some (.ref b1), some (.ref b2), x19, none, none, none] ∧ H'' lb = some (.lst [.ref b1, .ref b2]) ∧ (j = 0 → H'' b1 = some (.dT []) ∧ H'' b2 = some (.dT [])) ∧ (j = 1 → (FullD K H'' b1 md (entD 3 R1) (entD 1 R2) ∧ PP) ∧ H'' b2 = some (.dT [])) ∧ (j = 2 → (FullD K H'' b1 md (entD 3 R1) (entD 1 R2) ∧ PP) ∧ FullD K H'' b2 md (entD 3 R1) (entD 1 R2)) ∧ Chg [b1, b2] He H'', ?_, ?_, ?_, ?_⟩
  · exact ⟨_, rfl, elb, fun _ => ⟨eb1d, eb2d⟩, (fun z => nomatch z), (fun z => nomatch z), Chg.refl _ _⟩
  · rintro j σ H'' _ ⟨_, rfl, e, _⟩
    exact SqL.of e
  · rintro j x σ H'' hx ⟨x19, rfl, elb'', f0, f1, f2, c2⟩
    have cur : ∃ d, x = .ref d ∧ (d = b1 ∨ d = b2) ∧ H'' d = some (.dT []) ∧ ∀ H3, Chg [d] H'' H3 → FullD K H3 d md (entD 3 R1) (entD 1 R2) → PP → (j + 1 = 0 → H3 b1 = some (.dT []) ∧ H3 b2 = some (.dT [])) ∧ (j + 1 = 1 → (FullD K H3 b1 md (entD 3 R1) (entD 1 R2) ∧ PP) ∧ H3 b2 = some (.dT [])) ∧ (j + 1 = 2 → (FullD K H3 b1 md (entD 3 R1) (entD 1 R2) ∧ PP) ∧ FullD K H3 b2 md (entD 3 R1) (entD 1 R2)) := by
      match j, hx with
      | 0, hx =>
        cases hx
        obtain ⟨g1, g2⟩ := f0 rfl
        exact ⟨b1, rfl, .inl rfl, g1, fun H3 c3 F3 pp => ⟨(fun z => nomatch z), (fun _ => ⟨⟨F3, pp⟩, c3.get (by simp [Ne.symm n12]) g2⟩), (fun z => nomatch z)⟩⟩
      | 1, hx =>
        cases hx
        obtain ⟨⟨g1, pp⟩, g2⟩ := f1 rfl
        exact ⟨b2, rfl, .inr rfl, g2, fun H3 c3 F3 pp => ⟨(fun z => nomatch z), (fun z => nomatch z), (fun _ => ⟨⟨g1.chg c3 (by simp [n12]), pp⟩, F3⟩)⟩⟩
      | n + 2, hx => simp at hx
    obtain ⟨d, rfl, hd12, ed, finD⟩ := cur
    have cH : Chg [] H29 H'' := cE.fresh c2 frB
    have fd : H29 d = none := frB d (by simpa using hd12)
    have ldb : lb ≠ d := by
      rcases hd12 with rfl | rfl
      · exact nlb1
      · exact nlb2
    refine ⟨S, p0, p1, p2, idle, acts, ns, endsR, ok, ts29.keep cH.kt, tpl29.keep cH.kt, perm, cH.get (by simp) eal29, hact3, hact7, rfl, by omega, cH.get (by simp) e29, hnsl, len'.chg cH (by simp), hendl, fun bp Hf cf hbp blf => ?_⟩
    refine ⟨_, turn, blf, rfl, Nat.le_of_ble_eq_true rfl, Nat.le_of_ble_eq_true rfl, turn_lens S ok p0 p1 p2 acts ns idle endsR (by omega) hendl, fun x hx r hr => (turn_rok S p0 p1 p2 acts ns idle endsR hendk x hx r hr).1, fun v1 Hg R1' hR1' cg t1 lo1 ok1 => ?_⟩
    rw [← hR1] at hR1'
    subst hR1'
    refine ⟨_, .cons (.int _) (.cons t1 .nil), le_sz (Nat.le_of_ble_eq_true rfl), fun w1 Hh ch tw1 => ⟨le_sz (Nat.le_of_ble_eq_true rfl), fun k1 hk1 => ?_⟩⟩
    have okc1 : ∀ r ∈ R1', r.okc = true := fun r hr => by
      obtain ⟨x, hx, r0, hr0, e⟩ := ok1 r hr
      rw [← e]
      exact (turn_rok S p0 p1 p2 acts ns idle endsR hendk x hx r0 hr0).2
    have tw1' : Td K Hh w1 (entD 3 R1') := tw1
    have q1 : Chg [] H'' Hh := cf.trans (cg.trans ch)
    have q2 : Chg [] Hh (upd Hh k1 (.tup [.str md, .str "go"])) := Chg.new hk1
    have ed1 := q2.get (by simp) (q1.get (by simp) ed)
    refine ⟨[], kk md "go", ed1, upd_same, lt_sz (Nat.zero_le _), ?_⟩
    have q3 : Chg [d] (upd Hh k1 (.tup [.str md, .str "go"])) (upd (upd Hh k1 (.tup [.str md, .str "go"])) d (.dT (putK [] (kk md "go") w1))) := Chg.dt (by simp) ed1
    have ed2 : upd (upd Hh k1 (.tup [.str md, .str "go"])) d (.dT (putK [] (kk md "go") w1)) d = some (.dT [(kk md "go", w1)]) := by
      rw [put1]
      exact upd_same
    have tw1i := (tw1'.keep q2.kt).keep q3.kt
    have one : ∀ x ∈ [d], H29 x = none := fun x hx => by rw [List.mem_singleton.mp hx]; exact fd
    have cHi := (cH.trans (q1.trans q2)).fresh q3 one
    have cdi : Chg [d] H'' _ := ((q1.trans q2).mono (by simp)).trans q3
    generalize upd (upd Hh k1 (.tup [.str md, .str "go"])) d (.dT (putK [] (kk md "go") w1)) = Hi at *
    refine ⟨S, ok, ts29.keep cHi.kt, fun bp2 Hj cj hbp2 bl2 => ?_⟩
    refine ⟨_, turn + 1, bl2, rfl, Nat.le_of_ble_eq_true rfl, Nat.le_of_ble_eq_true rfl, flip_lens S ok, fun x hx r hr => (flip_rok S x hx r hr).1, fun v2 Hk R2' hR2' ck t2 lo2 ok2 => ?_⟩
    rw [← hR2] at hR2'
    subst hR2'
    refine ⟨_, .cons (.int _) (.cons t2 .nil), le_sz (Nat.le_of_ble_eq_true rfl), fun w2 Hl cl2 tw2 => ⟨le_sz (Nat.le_of_ble_eq_true rfl), fun k2 hk2 => ?_⟩⟩
    have okc2 : ∀ r ∈ R2', r.okc = true := fun r hr => by
      obtain ⟨x, hx, r0, hr0, e⟩ := ok2 r hr
      rw [← e]
      exact (flip_rok S x hx r0 hr0).2
    have tw2' : Td K Hl w2 (entD 1 R2') := tw2
    have s1 : Chg [] Hi Hl := cj.trans (ck.trans cl2)
    have s2 : Chg [] Hl (upd Hl k2 (.tup [.str md, .str "flip"])) := Chg.new hk2
    have ed3 := s2.get (by simp) (s1.get (by simp) ed2)
    refine ⟨_, kk md "flip", ed3, upd_same, lt_sz (Nat.le_of_ble_eq_true rfl), ?_⟩
    have s3 : Chg [d] (upd Hl k2 (.tup [.str md, .str "flip"])) (upd (upd Hl k2 (.tup [.str md, .str "flip"])) d (.dT (putK [(kk md "go", w1)] (kk md "flip") w2))) := Chg.dt (by simp) ed3
    have ed4 : upd (upd Hl k2 (.tup [.str md, .str "flip"])) d (.dT (putK [(kk md "go", w1)] (kk md "flip") w2)) d = some (.dT [(kk md "go", w1), (kk md "flip", w2)]) := by
      rw [put2]
      exact upd_same
    have tw1l := ((tw1i.keep s1.kt).keep s2.kt).keep s3.kt
    have tw2l := (tw2'.keep s2.kt).keep s3.kt
    have cdl := cdi.trans (((s1.trans s2).mono (by simp)).trans s3)
    generalize upd (upd Hl k2 (.tup [.str md, .str "flip"])) d (.dT (putK [(kk md "go", w1)] (kk md "flip") w2)) = Hm at *
    obtain ⟨g0, g1, g2⟩ := finD Hm cdl ⟨w1, w2, ed4, tw1l, tw2l⟩ (by rw [hPP]; exact ⟨lo1, lo2, okc1, okc2⟩)
    refine ⟨_, rfl, cdl.get (by simp [ldb]) elb'', g0, g1, g2, c2.trans (cdl.mono ?_)⟩
    intro x hx
    rw [List.mem_singleton.mp hx]
    simpa using hd12
  rintro σ H30 ⟨x19, rfl, _, _, _, f2, c30⟩
  obtain ⟨⟨F1, pp⟩, F2⟩ := f2 rfl
  rw [hPP] at pp
  obtain ⟨lo1, lo2, okc1, okc2⟩ := pp
  obtain ⟨bg1, z1, l1⟩ := lo1
  obtain ⟨bg2, z2, l2⟩ := lo2
  have cH := cE.fresh c30 frB
  have ts30 := ts29.keep cH.kt
  have tpl30 := tpl29.keep cH.kt
  have e30 := cH.get (by simp) e29
  have eal30 := cH.get (by simp) eal29
  have lf30 := lf29.chg cH (by simp)
  have lse30 := lse29.chg cH (by simp)
  have tsg30 := tsg29.keep cH.kt
  clear hPP f2 c30 cE eb1d eb2d elb nlb1 nlb2 hlb ts29 tpl29 e29 eal29 lf29 lse29 tsg29 cc cd cl eb1 eb2 frB hb2 fb2 cH len' hb1
  refine ⟨le_sz (Nat.le_of_ble_eq_true rfl), fun t1 ht1 => ⟨le_sz (Nat.le_of_ble_eq_true rfl), fun t2 ht2 => ⟨[], .nil, le_sz (Nat.le_of_ble_eq_true rfl), fun ze Hz hz cz lz => ⟨le_sz (Nat.le_of_ble_eq_true rfl), fun t3 ht3 => ⟨le_sz (Nat.le_of_ble_eq_true rfl), fun pq hpq => ?_⟩⟩⟩⟩⟩
  have m1 : Chg [] H30 (upd H30 t1 (.tup [.ref fi, .ref se])) := Chg.new ht1
  have et1 : upd H30 t1 (.tup [.ref fi, .ref se]) t1 = some (.tup [.ref fi, .ref se]) := upd_same
  generalize upd H30 t1 (.tup [.ref fi, .ref se]) = H31 at *
  have m2 : Chg [] H31 (upd H31 t2 (.tup [.ref se, .ref fi])) := Chg.new ht2
  have et2 : upd H31 t2 (.tup [.ref se, .ref fi]) t2 = some (.tup [.ref se, .ref fi]) := upd_same
  generalize upd H31 t2 (.tup [.ref se, .ref fi]) = H32 at *
  have m3 : Chg [] Hz (upd Hz t3 (.tup [.ref ze, .ref se])) := Chg.new ht3
  have et3 : upd Hz t3 (.tup [.ref ze, .ref se]) t3 = some (.tup [.ref ze, .ref se]) := upd_same
  generalize upd Hz t3 (.tup [.ref ze, .ref se]) = H33 at *
  have m4 : Chg [] H33 (upd H33 pq (.lst [.ref t1, .ref t2, .ref t3])) := Chg.new hpq
  have epq : upd H33 pq (.lst [.ref t1, .ref t2, .ref t3]) pq = some (.lst [.ref t1, .ref t2, .ref t3]) := upd_same
  generalize upd H33 pq (.lst [.ref t1, .ref t2, .ref t3]) = H34 at *
  have m34 := m3.trans m4
  have m24 := cz.trans m34
  have m14 := m2.trans m24
  have m04 := m1.trans m14
  have et1 := m14.get (by simp) et1
  have et2 := m24.get (by simp) et2
  have et3 := m4.get (by simp) et3
  have lz := lz.chg m34 (by simp)
  have ts30 := ts30.keep m04.kt
  have tpl30 := tpl30.keep m04.kt
  have e30 := m04.get (by simp) e30
  have eal30 := m04.get (by simp) eal30
  have lf30 := lf30.chg m04 (by simp)
  have lse30 := lse30.chg m04 (by simp)
  have tsg30 := tsg30.keep m04.kt
  have F1 := F1.chg m04 (by simp)
  have F2 := F2.chg m04 (by simp)
  clear m1 m2 m3 m4 m34 m24 m14 m04 cz ht1 ht2 hz ht3 hpq
  have hsgz := hsgi.size
  refine ⟨_, SqL.of epq, fun i σ H' => ∃ (y19 y20 y21 y22 : Option V), σ = [some (.ref a), some (.ref p), some (.ref nl), k, some sv, some (.ref pl), some (.ref al), some (.int (idle : Nat)), some (.int (turn : Nat)), some (.bl flp), some (.str md), some (.int (2 + (f1 : Int))), some (.int (f2m : Nat)), some (.ref fi), some (.ref se), some sgv, some (.ref en), some (.ref b1), some (.ref b2), y19, y20, y21, y22] ∧ Chg [] H34 H', ?_, ?_, ?_, ?_⟩
  · exact ⟨_, _, _, _, rfl, Chg.refl _ _⟩
  · rintro i σ H' _ ⟨_, _, _, _, rfl, c⟩
    exact SqL.of (c.get (by simp) epq)
  · rintro i x σ H' hx ⟨y19, y20, y21, y22, rfl, c⟩
    have cur : ∃ (t A B : Addr) (cA cB : List Cell), x = .ref t ∧ H34 t = some (.tup [.ref A, .ref B]) ∧ LC K H34 A cA ∧ LC K H34 B cB ∧ (∀ y ∈ cA, Item ns y) ∧ (∀ y ∈ cB, Item ns y) ∧ cA.length ≤ 14 ∧ cB.length ≤ 14 ∧ cA.length + cB.length ≤ 20 := by
      match i, hx with
      | 0, hx =>
        cases hx
        exact ⟨t1, fi, se, cf, cs, rfl, et1, lf30, lse30, hcfi, hcsi, by omega, by omega, by omega⟩
      | 1, hx =>
        cases hx
        exact ⟨t2, se, fi, cs, cf, rfl, et2, lse30, lf30, hcsi, hcfi, by omega, by omega, by omega⟩
      | 2, hx =>
        cases hx
        exact ⟨t3, ze, se, [], cs, rfl, et3, lz, lse30, (fun y hy => nomatch hy), hcsi, Nat.zero_le _, by omega, by rw [List.length_nil]; omega⟩
      | n + 3, hx => simp at hx
    obtain ⟨t, A, B, cA, cB, rfl, ett, lcA, lcB, hA, hB, lA, lB, lAB⟩ := cur
    obtain ⟨hlset, hp03, hp13⟩ := hl_set perm (chain S cA) (chain S cB) sgc
    refine ⟨[sgc, sgc, sgc], .cons (tsg30.keep c.kt) (.cons (tsg30.keep c.kt) (.cons (tsg30.keep c.kt) .nil)), le_sz (Nat.le_of_ble_eq_true rfl), fun ce Ha hce ca lce => ?_⟩
    have n0 : H34 ce = none := c.old hce
    have c1 := c.trans ca
    refine ⟨_, .inr (SqT.of (c1.get (by simp) ett)), _, atI0 rfl, S, cA, ok, ts30.keep c1.kt, lcA.chg c1 (by simp), by omega, fun v1 Hb cb tv1 => ?_⟩
    have c2 := c1.trans cb
    refine ⟨_, .inr (tpl30.keep c2.kt).sq, _, atI0 rfl, ?_⟩
    obtain ⟨vs1, j1, ee1, ej1, w1, lce1⟩ := (lce.chg cb (by simp)).setAt p0 tv1 (by exact hp03)
    refine ⟨vs1, j1, ee1, ej1, ?_⟩
    have c3 := c2.fresh w1 (fun x hx => by rw [List.mem_singleton.mp hx]; exact n0)
    generalize upd Hb ce (.lst (vs1.set j1 v1)) = Hc at *
    refine ⟨_, .inr (SqT.of (c3.get (by simp) ett)), _, atI1 rfl, S, cB, ok, ts30.keep c3.kt, lcB.chg c3 (by simp), by omega, fun v2 Hd cd tv2 => ?_⟩
    have c4 := c3.trans cd
    refine ⟨_, .inr (tpl30.keep c4.kt).sq, _, atI1 rfl, ?_⟩
    obtain ⟨vs2, j2, ee2, ej2, w2, lce2⟩ := (lce1.chg cd (by simp)).setAt p1 tv2 (by rw [List.length_set]; exact hp13)
    refine ⟨vs2, j2, ee2, ej2, ?_⟩
    rw [hlset] at lce2
    have c5 := c4.fresh w2 (fun x hx => by rw [List.mem_singleton.mp hx]; exact n0)
    generalize upd Hd ce (.lst (vs2.set j2 v2)) = He at *
    have gb := gath_bd acts ns sgc cA cB (fun y hy => (hA y hy).size)
    have wB := wt_items cB (fun y hy => (hB y hy).size)
    have zB := chain_sz S ok cB
    refine ⟨_, .inr (SqT.of (c5.get (by simp) ett)), _, atI0 rfl, _, .inr (SqT.of (c5.get (by simp) ett)), _, atI1 rfl, S, cA, cB, sgc, acts, ns, ok, ts30.keep c5.kt, lcA.chg c5 (by simp), lcB.chg c5 (by simp), tsg30.keep c5.kt, c5.get (by simp) eal30, hact3, c5.get (by simp) e30, hnsl, by omega, by omega, by omega,
      fun y hy => by have := (hA y hy).size; omega, fun y hy z => z.elim (htok y (hA y hy)).1.a5 (fun z => ((htok y (hA y hy)).1.a6 z).1), fun y hy => (htok y (hA y hy)).2, fun dv Hf cf2 tdv => ?_⟩
    have c6 := c5.trans cf2
    refine ⟨_, lce2.chg cf2 (by simp), fun tv Hg cg ttv => ?_⟩
    obtain ⟨ta, txs, rfl, tta, ttx⟩ := ttv.tuple
    have c7 := c6.trans cg
    have Lz : Laid (turnB S p0 p1 p2 acts ns idle (if flp then [Row.call md "flip" 1] else [])) R1 bg1 := by
      rw [← hends]
      exact ⟨z1, l1⟩
    obtain ⟨n, hn, go⟩ := main_go (B := Bd md 3 1 R1 R2) (sg := sgc) flp Lz ⟨z2, l2⟩ Bd.flip ok perm (by omega) (by omega) cA cB (fun y hy => (htok y (hA y hy)).1) (by omega) (by omega) (by omega) (by omega)
    refine ⟨Bd md 3 1 R1 R2, R1, _, txs, _, n, (F1.chg c7 (by simp)).bt, tta, ttx, Bd.go, Nat.le_of_ble_eq_true rfl, go, hn, fun rv Hi ci trv => ⟨_, trv, tdv.keep (cg.trans ci).kt, ?_, fun Hj cj => ⟨(fun h => nomatch h), fun _ => ⟨_, _, _, _, rfl, c7.trans (ci.trans cj)⟩⟩⟩⟩
    have zz := chain_sz S ok (if flp then (gath acts ns sgc cA cB).reverse else gath acts ns sgc cA cB)
    have : wt (if flp then (gath acts ns sgc cA cB).reverse else gath acts ns sgc cA cB) = wt (gath acts ns sgc cA cB) := by
      cases flp with
      | true => exact wt_rev _
      | false => rfl
    omega
  rintro σ H' ⟨y19, y20, y21, y22, rfl, c⟩
  obtain ⟨ks, ls, x1, x2, x3, x4⟩ := FullD.same okc1 okc2 (F1.chg c (by simp)) (F2.chg c (by simp))
  exact ⟨ks, ls, x1, x2, x3, x4, q H'⟩
end
end T5
namespace T5
open PySem PySem.Spec PyProof.Rows L2 T3
/-- a def of the text as it stands behind the top -/
def Df (K : PySem.W.Frag) (x : Str) (st : Stmt) : Prop := ∃ (f : Addr) (oc : Value) (od : Option Addr) (kV doc pm : Value) (an : Option Addr) (cdv ct : Value) (sl : Array (Option Value)),
  PySem.W.nsIn K mainGlobals x = some (some (.ref f)) ∧ K.lookup f = some ⟨oc, od, .func (PySem.W.fnOf x x (defArgs st) (defBody st) (defScope st) .none kV doc pm an cdv ct), sl⟩ ∧
  PySem.W.codeIn K cdv x = true ∧ PySem.W.keepIn K (.ref f) = true
theorem Df.fun {K : PySem.W.Frag} {h : Heap} {mg : Str → Option Value} {x : Str} {st : Stmt} (d : Df K x st) (X : K.In h) (G : h.Ns mainGlobals mg) :
    ∃ (f : Addr) (fd : FuncData), mg x = some (.ref f) ∧ Fun K x x st f fd := by
  obtain ⟨f, oc, od, kV, doc, pm, an, cdv, ct, sl, a, l, c, k⟩ := d
  exact ⟨f, _, PySem.W.mg_of X G a, fun_mk (st := st) l c k⟩
theorem Df.mk {K : PySem.W.Frag} {x : Str} {st : Stmt} {f : Addr} {oc : Value} {od : Option Addr} {kV doc pm : Value} {an : Option Addr} {cdv ct : Value} {sl : Array (Option Value)} (a : PySem.W.nsIn K mainGlobals x = some (some (.ref f)))
    (l : K.lookup f = some ⟨oc, od, .func (PySem.W.fnOf x x (defArgs st) (defBody st) (defScope st) .none kV doc pm an cdv ct), sl⟩) (c : PySem.W.codeIn K cdv x = true) (k : PySem.W.keepIn K (.ref f) = true) : Df K x st :=
  ⟨f, oc, od, kV, doc, pm, an, cdv, ct, sl, a, l, c, k⟩
def Bnd (x : Str) (st : Stmt) (ps : List Str) : Prop := ∀ (kV doc pm : Value) (an : Option Addr) (cdv ct : Value) (us : List Value), us.length = ps.length →
  bindArgs (PySem.W.fnOf x x (defArgs st) (defBody st) (defScope st) .none kV doc pm an cdv ct) ⟨us, []⟩ = pure (ps.zip us)
theorem cal_of {P : Program} {w : World} {K : PySem.W.Frag} {h : Heap} {mg : Str → Option Value} {base : Heap} {x : Str} {st : Stmt} {k : Nat} {ps : List Str} {sp : Sp} (d : Df K x st) (X : K.In h) (G : h.Ns mainGlobals mg) (b : Bnd x st ps)
    (F : ∀ f fd, Fun K x x st f fd → FnOk P w K mg base CX0 k f fd ps sp) : Cal P w K mg base x k ps sp := by
  obtain ⟨f, fd, g, F1⟩ := d.fun X G
  exact ⟨f, fd, F f fd F1, g, F1.kp, F1.binds b⟩
/-- a whole number, a cell without parts that the top has written -/
def Ic (K : PySem.W.Frag) (x : Str) (i : Int) : Prop := ∃ t, PySem.W.nsIn K mainGlobals x = some (some (.int i t))
theorem Ic.mk {K : PySem.W.Frag} {x : Str} {i : Int} {t : Tok} (a : PySem.W.nsIn K mainGlobals x = some (some (.int i t))) : Ic K x i := ⟨t, a⟩
theorem Ic.gi {K : PySem.W.Frag} {h : Heap} {mg : Str → Option Value} {x : Str} {i : Int} (c : Ic K x i) (X : K.In h) (G : h.Ns mainGlobals mg) : GI mg x i := by
  obtain ⟨t, a⟩ := c
  exact ⟨t, PySem.W.mg_of X G a⟩
def Cc (K : PySem.W.Frag) (x : Str) (i : Int) : Prop := ∃ (p q : Addr) (o o2 : Obj) (t : Tok) (n n2 : Nat), PySem.W.nsIn K mainGlobals x = some (some (.ref p)) ∧ K.lookup p = some o ∧ o.cls = .type "tuple" ∧ o.data = .seq #[.int i t, .ref q] n ∧
  K.lookup q = some o2 ∧ o2.cls = .type "tuple" ∧ o2.data = .seq #[] n2
theorem Cc.mk {K : PySem.W.Frag} {x : Str} {i : Int} {p q : Addr} {oc oc2 : Value} {od od2 : Option Addr} {its its2 : Array Value} {n n2 : Nat} {sl sl2 : Array (Option Value)} {t : Tok} (a : PySem.W.nsIn K mainGlobals x = some (some (.ref p)))
    (l : K.lookup p = some ⟨oc, od, .seq its n, sl⟩) (c : oc = .type "tuple") (e : its = #[.int i t, .ref q]) (l2 : K.lookup q = some ⟨oc2, od2, .seq its2 n2, sl2⟩) (c2 : oc2 = .type "tuple") (e2 : its2 = #[]) : Cc K x i := by
  subst e e2
  exact ⟨p, q, _, _, t, n, n2, a, l, c, rfl, l2, c2, rfl⟩
theorem Cc.gd {K : PySem.W.Frag} {h : Heap} {mg : Str → Option Value} {x : Str} {i : Int} (c : Cc K x i) (X : K.In h) (G : h.Ns mainGlobals mg) : GD K mg x (.tuple [.int i, .tuple []]) := by
  obtain ⟨p, q, o, o2, t, n, n2, a, l, c, e, l2, c2, e2⟩ := c
  refine ⟨p, PySem.W.mg_of X G a, fun H => .tup (xs := [.int i, .ref q]) (.inr fun H' => .inr ⟨o, _, n, l, c, e, ?_, ?_⟩) (.cons (.int i) (.cons (.tup (xs := []) (.inr fun H' => .inr ⟨o2, _, n2, l2, c2, e2, ?_, .nil⟩) .nil) .nil))⟩
  · exact le_sz (Nat.le_of_ble_eq_true rfl)
  · exact .cons ⟨t, rfl⟩ (.cons rfl .nil)
  · exact Nat.zero_le _
theorem bnd1 {x y : Str} {st : Stmt} (h : ∀ (kV doc pm : Value) (an : Option Addr) (cdv ct u : Value), bindArgs (PySem.W.fnOf x x (defArgs st) (defBody st) (defScope st) .none kV doc pm an cdv ct) ⟨[u], []⟩ = pure [(y, u)]) : Bnd x st [y] :=
  fun kV doc pm an cdv ct us hl => match us, hl with
    | [u], _ => h kV doc pm an cdv ct u
theorem bnd2 {x y z : Str} {st : Stmt} (h : ∀ (kV doc pm : Value) (an : Option Addr) (cdv ct u v : Value), bindArgs (PySem.W.fnOf x x (defArgs st) (defBody st) (defScope st) .none kV doc pm an cdv ct) ⟨[u, v], []⟩ = pure [(y, u), (z, v)]) : Bnd x st [y, z] :=
  fun kV doc pm an cdv ct us hl => match us, hl with
    | [u, v], _ => h kV doc pm an cdv ct u v
theorem bnd3 {x y z y' : Str} {st : Stmt} (h : ∀ (kV doc pm : Value) (an : Option Addr) (cdv ct u v v' : Value), bindArgs (PySem.W.fnOf x x (defArgs st) (defBody st) (defScope st) .none kV doc pm an cdv ct) ⟨[u, v, v'], []⟩ = pure [(y, u), (z, v), (y', v')]) : Bnd x st [y, z, y'] :=
  fun kV doc pm an cdv ct us hl => match us, hl with
    | [u, v, v'], _ => h kV doc pm an cdv ct u v v'
theorem bnd4 {x y z y' z' : Str} {st : Stmt} (h : ∀ (kV doc pm : Value) (an : Option Addr) (cdv ct u v v' u' : Value), bindArgs (PySem.W.fnOf x x (defArgs st) (defBody st) (defScope st) .none kV doc pm an cdv ct) ⟨[u, v, v', u'], []⟩ = pure [(y, u), (z, v), (y', v'), (z', u')]) : Bnd x st [y, z, y', z'] :=
  fun kV doc pm an cdv ct us hl => match us, hl with
    | [u, v, v', u'], _ => h kV doc pm an cdv ct u v v' u'
theorem bnd5 {x y z y' z' x' : Str} {st : Stmt} (h : ∀ (kV doc pm : Value) (an : Option Addr) (cdv ct u v v' u' w' : Value), bindArgs (PySem.W.fnOf x x (defArgs st) (defBody st) (defScope st) .none kV doc pm an cdv ct) ⟨[u, v, v', u', w'], []⟩ = pure [(y, u), (z, v), (y', v'), (z', u'), (x', w')]) : Bnd x st [y, z, y', z', x'] :=
  fun kV doc pm an cdv ct us hl => match us, hl with
    | [u, v, v', u', w'], _ => h kV doc pm an cdv ct u v v' u' w'
theorem bnd6 {x y0 y1 y2 y3 y4 y5 : Str} {st : Stmt} (h : ∀ (kV doc pm : Value) (an : Option Addr) (cdv ct u0 u1 u2 u3 u4 u5 : Value), bindArgs (PySem.W.fnOf x x (defArgs st) (defBody st) (defScope st) .none kV doc pm an cdv ct) ⟨[u0, u1, u2, u3, u4, u5], []⟩ = pure [(y0, u0), (y1, u1), (y2, u2), (y3, u3), (y4, u4), (y5, u5)]) : Bnd x st [y0, y1, y2, y3, y4, y5] :=
  fun kV doc pm an cdv ct us hl => match us, hl with
    | [u0, u1, u2, u3, u4, u5], _ => h kV doc pm an cdv ct u0 u1 u2 u3 u4 u5
theorem bnd7 {x y0 y1 y2 y3 y4 y5 y6 : Str} {st : Stmt} (h : ∀ (kV doc pm : Value) (an : Option Addr) (cdv ct u0 u1 u2 u3 u4 u5 u6 : Value), bindArgs (PySem.W.fnOf x x (defArgs st) (defBody st) (defScope st) .none kV doc pm an cdv ct) ⟨[u0, u1, u2, u3, u4, u5, u6], []⟩ = pure [(y0, u0), (y1, u1), (y2, u2), (y3, u3), (y4, u4), (y5, u5), (y6, u6)]) : Bnd x st [y0, y1, y2, y3, y4, y5, y6] :=
  fun kV doc pm an cdv ct us hl => match us, hl with
    | [u0, u1, u2, u3, u4, u5, u6], _ => h kV doc pm an cdv ct u0 u1 u2 u3 u4 u5 u6
structure Left (K : PySem.W.Frag) : Prop where
  d_popped : Df K "popped" st_popped
  d_rows_for : Df K "rows_for" st_rows_for
  d_is_great : Df K "is_great" st_is_great
  d_do_row : Df K "do_row" st_do_row
  d_run : Df K "run" st_run
  d_law_numbers : Df K "_law_numbers" st_law_numbers
  d_law_take : Df K "_law_take" st_law_take
  d_law_like : Df K "_law_like" st_law_like
  d_law_laid : Df K "_law_laid" st_law_laid
  d_law_shape : Df K "_law_shape" st_law_shape
  d_law_chain : Df K "_law_chain" st_law_chain
  d_law_link : Df K "_law_link" st_law_link
  d_law_round : Df K "_law_round" st_law_round
  d_law_turn : Df K "_law_turn" st_law_turn
  d_law_flip : Df K "_law_flip" st_law_flip
  d_law_due : Df K "_law_due" st_law_due
  d_law_item : Df K "_law_item" st_law_item
  d_law : Df K "law" st_law
  f_len : PySem.W.nsIn K mainGlobals "len" = some none
  f_int : PySem.W.nsIn K mainGlobals "int" = some none
  f_bool : PySem.W.nsIn K mainGlobals "bool" = some none
  f_max : PySem.W.nsIn K mainGlobals "max" = some none
  f_list : PySem.W.nsIn K mainGlobals "list" = some none
  f_zip : PySem.W.nsIn K mainGlobals "zip" = some none
  f_tuple : PySem.W.nsIn K mainGlobals "tuple" = some none
  f_range : PySem.W.nsIn K mainGlobals "range" = some none
  f_isinstance : PySem.W.nsIn K mainGlobals "isinstance" = some none
  i_MOST_CALLS : Ic K "MOST_CALLS" 100000
  i_MOST_ROWS : Ic K "MOST_ROWS" 1000000
  i_MOST_CELLS : Ic K "MOST_CELLS" 256
  c_NO : Cc K "NO" 0
  c_YES : Cc K "YES" 1
theorem all_mk {l : PySem.W.OpenLaw} {w : World} {K : PySem.W.Frag} {h : Heap} {mg : Str → Option Value} {fa : Addr} (X : K.In h) (G : h.Ns mainGlobals mg) (hfa : mg "law" = some (.ref fa)) (Z : Left K) :
    ∃ fd : FuncData, (∀ (s : Shared) (v : Value), BindsTo s fd ⟨[v], []⟩ [("script", v)]) ∧ ∀ base : Heap, K.In base → base.Ns mainGlobals mg → FnG l.prog w K mg base CX0 4 fa fd ["script"] (sp_law K) := by
  have T : Top K mg := ⟨PySem.W.mg_none_of X G Z.f_len, PySem.W.mg_none_of X G Z.f_int, PySem.W.mg_none_of X G Z.f_bool, PySem.W.mg_none_of X G Z.f_max, PySem.W.mg_none_of X G Z.f_list, PySem.W.mg_none_of X G Z.f_zip, PySem.W.mg_none_of X G Z.f_tuple, PySem.W.mg_none_of X G Z.f_range, PySem.W.mg_none_of X G Z.f_isinstance, Z.i_MOST_CALLS.gi X G, Z.i_MOST_ROWS.gi X G, Z.i_MOST_CELLS.gi X G, Z.c_NO.gd X G, Z.c_YES.gd X G⟩
  obtain ⟨f, oc, od, kV, doc, pm, an, cdv, ct, sl, a, lk, c, k⟩ := Z.d_law
  have e := hfa.symm.trans (PySem.W.mg_of X G a)
  cases e
  refine ⟨PySem.W.fnOf "law" "law" (defArgs st_law) (defBody st_law) (defScope st_law) .none kV doc pm an cdv ct, fun s v => .of_eq rfl, fun base _ _ => ?_⟩
  have Cpopped := cal_of (P := l.prog) (w := w) (base := base) Z.d_popped X G (bnd2 fun _ _ _ _ _ _ _ _ => rfl) fun f fd F => ok_popped F T
  have Crows_for := cal_of (P := l.prog) (w := w) (base := base) Z.d_rows_for X G (bnd3 fun _ _ _ _ _ _ _ _ _ => rfl) fun f fd F => ok_rows_for F T
  have Cis_great := cal_of (P := l.prog) (w := w) (base := base) Z.d_is_great X G (bnd1 fun _ _ _ _ _ _ _ => rfl) fun f fd F => ok_is_great F T
  have Cdo_row := cal_of (P := l.prog) (w := w) (base := base) Z.d_do_row X G (bnd3 fun _ _ _ _ _ _ _ _ _ => rfl) fun f fd F => ok_do_row F T Cpopped Cis_great
  have Crun := cal_of (P := l.prog) (w := w) (base := base) Z.d_run X G (bnd4 fun _ _ _ _ _ _ _ _ _ _ => rfl) fun f fd F => ok_run F T Cpopped Crows_for Cdo_row
  have Claw_numbers := cal_of (P := l.prog) (w := w) (base := base) Z.d_law_numbers X G (bnd1 fun _ _ _ _ _ _ _ => rfl) fun f fd F => ok_law_numbers F T
  have Claw_take := cal_of (P := l.prog) (w := w) (base := base) Z.d_law_take X G (bnd2 fun _ _ _ _ _ _ _ _ => rfl) fun f fd F => ok_law_take F T
  have Claw_like := cal_of (P := l.prog) (w := w) (base := base) Z.d_law_like X G (bnd2 fun _ _ _ _ _ _ _ _ => rfl) fun f fd F => ok_law_like F T
  have Claw_laid := cal_of (P := l.prog) (w := w) (base := base) Z.d_law_laid X G (bnd2 fun _ _ _ _ _ _ _ _ => rfl) fun f fd F => ok_law_laid F T
  have Claw_shape := cal_of (P := l.prog) (w := w) (base := base) Z.d_law_shape X G (bnd1 fun _ _ _ _ _ _ _ => rfl) fun f fd F => ok_law_shape F T Claw_take
  have Claw_chain := cal_of (P := l.prog) (w := w) (base := base) Z.d_law_chain X G (bnd2 fun _ _ _ _ _ _ _ _ => rfl) fun f fd F => ok_law_chain F T
  have Claw_link := cal_of (P := l.prog) (w := w) (base := base) Z.d_law_link X G (bnd3 fun _ _ _ _ _ _ _ _ _ => rfl) fun f fd F => ok_law_link F T
  have Claw_round := cal_of (P := l.prog) (w := w) (base := base) Z.d_law_round X G (bnd6 fun _ _ _ _ _ _ _ _ _ _ _ _ => rfl) fun f fd F => ok_law_round F T Claw_link
  have Claw_turn := cal_of (P := l.prog) (w := w) (base := base) Z.d_law_turn X G (bnd6 fun _ _ _ _ _ _ _ _ _ _ _ _ => rfl) fun f fd F => ok_law_turn F T Claw_round
  have Claw_flip := cal_of (P := l.prog) (w := w) (base := base) Z.d_law_flip X G (bnd1 fun _ _ _ _ _ _ _ => rfl) fun f fd F => ok_law_flip F T Claw_link
  have Claw_due := cal_of (P := l.prog) (w := w) (base := base) Z.d_law_due X G (bnd7 fun _ _ _ _ _ _ _ _ _ _ _ _ _ => rfl) fun f fd F => ok_law_due F T Claw_chain
  have Claw_item := cal_of (P := l.prog) (w := w) (base := base) Z.d_law_item X G (bnd2 fun _ _ _ _ _ _ _ _ => rfl) fun f fd F => ok_law_item F T Claw_take
  exact FnG.of (ok_law (fun_mk (st := st_law) lk c k) T Claw_numbers Claw_take Claw_like Claw_laid Claw_shape Claw_chain Claw_turn Claw_flip Claw_due Claw_item Crun)
end T5
open PySem PySem.W PyProof.Rows
set_option maxHeartbeats 0 in
theorem PySem.Challenge.cw_asiffresh_k88_chains_gone_round_holds : PySem.Challenge.rw_asiffresh_k88_chains_gone_round.Holds := by
  w_on; o_law; k_head; (case hw => w_witness2)
  k_fill
  refine T3.walkG (l := PySem.Challenge.rw_asiffresh_k88_chains_gone_round) (n := 63) (k := 4) (x := "script") (CX := fun _ => L2.CX0) (sp := fun w => T5.sp_law _) rfl (by decide) rfl ⟨rfl, by decide, by decide⟩ (fun w h Y => PySem.W.kIn_of Y) ?F (fun _ _ a ns hl _ hS => ⟨ns, hS, hl, fun _ => rfl⟩) (fun _ _ _ _ _ h => h)
  case F =>
    intro w mg fa h KX G XP hmg
    refine T5.all_mk KX G hmg ?z
    case z =>
      clear hmg
      refine' ⟨?d1, ?d2, ?d3, ?d4, ?d5, ?d6, ?d7, ?d8, ?d9, ?d10, ?d11, ?d12, ?d13, ?d14, ?d15, ?d16, ?d17, ?d18, ?f1, ?f2, ?f3, ?f4, ?f5, ?f6, ?f7, ?f8, ?f9, ?i1, ?i2, ?i3, ?y1, ?y2⟩
      (case d1 => (refine' T5.Df.mk ?a ?l ?c ?k; (case a => k_is); (case l => k_is); (case c => k_is); (case k => k_is)))
      (case d2 => (refine' T5.Df.mk ?a ?l ?c ?k; (case a => k_is); (case l => k_is); (case c => k_is); (case k => k_is)))
      (case d3 => (refine' T5.Df.mk ?a ?l ?c ?k; (case a => k_is); (case l => k_is); (case c => k_is); (case k => k_is)))
      (case d4 => (refine' T5.Df.mk ?a ?l ?c ?k; (case a => k_is); (case l => k_is); (case c => k_is); (case k => k_is)))
      (case d5 => (refine' T5.Df.mk ?a ?l ?c ?k; (case a => k_is); (case l => k_is); (case c => k_is); (case k => k_is)))
      (case d6 => (refine' T5.Df.mk ?a ?l ?c ?k; (case a => k_is); (case l => k_is); (case c => k_is); (case k => k_is)))
      (case d7 => (refine' T5.Df.mk ?a ?l ?c ?k; (case a => k_is); (case l => k_is); (case c => k_is); (case k => k_is)))
      (case d8 => (refine' T5.Df.mk ?a ?l ?c ?k; (case a => k_is); (case l => k_is); (case c => k_is); (case k => k_is)))
      (case d9 => (refine' T5.Df.mk ?a ?l ?c ?k; (case a => k_is); (case l => k_is); (case c => k_is); (case k => k_is)))
      (case d10 => (refine' T5.Df.mk ?a ?l ?c ?k; (case a => k_is); (case l => k_is); (case c => k_is); (case k => k_is)))
      (case d11 => (refine' T5.Df.mk ?a ?l ?c ?k; (case a => k_is); (case l => k_is); (case c => k_is); (case k => k_is)))
      (case d12 => (refine' T5.Df.mk ?a ?l ?c ?k; (case a => k_is); (case l => k_is); (case c => k_is); (case k => k_is)))
      (case d13 => (refine' T5.Df.mk ?a ?l ?c ?k; (case a => k_is); (case l => k_is); (case c => k_is); (case k => k_is)))
      (case d14 => (refine' T5.Df.mk ?a ?l ?c ?k; (case a => k_is); (case l => k_is); (case c => k_is); (case k => k_is)))
      (case d15 => (refine' T5.Df.mk ?a ?l ?c ?k; (case a => k_is); (case l => k_is); (case c => k_is); (case k => k_is)))
      (case d16 => (refine' T5.Df.mk ?a ?l ?c ?k; (case a => k_is); (case l => k_is); (case c => k_is); (case k => k_is)))
      (case d17 => (refine' T5.Df.mk ?a ?l ?c ?k; (case a => k_is); (case l => k_is); (case c => k_is); (case k => k_is)))
      (case d18 => (refine' T5.Df.mk ?a ?l ?c ?k; (case a => k_is); (case l => k_is); (case c => k_is); (case k => k_is)))
      (case f1 => k_is)
      (case f2 => k_is)
      (case f3 => k_is)
      (case f4 => k_is)
      (case f5 => k_is)
      (case f6 => k_is)
      (case f7 => k_is)
      (case f8 => k_is)
      (case f9 => k_is)
      (case i1 => (refine' T5.Ic.mk ?a; (case a => k_is)))
      (case i2 => (refine' T5.Ic.mk ?a; (case a => k_is)))
      (case i3 => (refine' T5.Ic.mk ?a; (case a => k_is)))
      (case y1 => (refine' T5.Cc.mk ?a ?l ?c ?e ?l2 ?c2 ?e2; (case a => k_is); (case l => k_is); (case c => rfl); (case e => rfl); (case l2 => k_is); (case c2 => rfl); (case e2 => rfl)))
      (case y2 => (refine' T5.Cc.mk ?a ?l ?c ?e ?l2 ?c2 ?e2; (case a => k_is); (case l => k_is); (case c => rfl); (case e => rfl); (case l2 => k_is); (case c2 => rfl); (case e2 => rfl)))
#print axioms PySem.Challenge.cw_asiffresh_k88_chains_gone_round_holds
