import PyProof.Rows.All
import Wide.All
import OpenK.AllK
import Wide.FinOn
import HandS.ForMost
import HandS.Wide
import HandS.IsInst
import PyProof.ZipIter
import KE.KItemsList
import KE.KDictZip
import HandS.Base
import HandS.Call
import HandS.List
import HandS.Dict
import HandS.Iter
import HandS.Zip0
import HandS.Zip
import HandS.DictTup
import HandS.Style
import HandS.Small
import HandS.ListItems
import HandS.DictEq
import HandS.ListEq
import HandS.Conv
import PySem.Challenge.RW_asiffresh_k89_cells_compared_and_apart
set_option Elab.async false
set_option linter.all false
set_option maxRecDepth 100000
/-! defs that are called where no repr runs (FnG), the law's head over them, repr of data, keywords alone -/
namespace T3
open PySem PySem.Spec PyProof.Rows L2

/-- as FnOk, told where no repr is under way -/
structure FnG (P : Program) (w : World) (K : PySem.W.Frag) (mg : Str → Option Value) (base : Heap) (CX : CXT)
    (k : Nat) (f : Addr) (fd : FuncData) (ps : List Str) (sp : Sp) : Prop where
  len : ∀ vs H Q E, sp vs H Q E → vs.length = ps.length
  run : ∀ (A : Around) (outer : List Env) (s : Shared) (H : Hp) (args : Args) (us : List Value) (vs : List V) (Q : VK) (E : XK),
    A.guards = some [] → Room k A → Env0 P w K mg base A outer s H → BindsTo s fd args (ps.zip us) → Vals vs us →
    sp vs H Q E → codeAny (model P w) A (.call (.ref f) args) (CR CX outer P w H s Q E) s

section
variable {P : Program} {w : World} {K : PySem.W.Frag} {mg : Str → Option Value} {base : Heap} {CX : CXT}

theorem FnG.of {k : Nat} {f : Addr} {fd : FuncData} {ps : List Str} {sp : Sp} (F : FnOk P w K mg base CX k f fd ps sp) :
    FnG P w K mg base CX k f fd ps sp :=
  ⟨F.len, fun A o s H a us vs Q E _ => F.run A o s H a us vs Q E⟩

/-- a def by its body, where no repr is under way -/
theorem fnG_of {k : Nat} {f : Addr} {name qual : Str} {params : Arguments} {body : List Stmt} {scope : Scope}
    {dV kV doc pm cdv ct oc : Value} {an od : Option Addr} {osl : Array (Option Value)} {N ps : List Str} {sp : Sp}
    (lk : K.lookup f = some ⟨oc, od, .func (PySem.W.fnOf name qual params body scope dV kV doc pm an cdv ct), osl⟩)
    (hcd : PySem.W.codeIn K cdv qual = true) (S : FnScope N ps scope)
    (len : ∀ vs H Q E, sp vs H Q E → vs.length = ps.length)
    (hbody : ∀ (A : Around) (outer : List Env) (s : Shared) (H : Hp) (vs : List V) (Q : VK) (E : XK),
      A.guards = some [] → Room k (A.deeper (envOfC qual scope s.heap.objs.size f cdv)) → sp vs H Q E →
      ∃ t, PSs (cxOf CX P w K mg base N qual scope f cdv A outer s H E) body t ∧
        t { nx := fun _ H' => Q .non H', rt := Q } (start N vs) H) :
    FnG P w K mg base CX (k + 1) f (PySem.W.fnOf name qual params body scope dV kV doc pm an cdv ct) ps sp := by
  constructor
  · exact len
  intro A outer s H args us vs Q E hG room ev bd rel want
  have n1 := len vs H Q E want
  have here : ∀ b o, base.get? b = some o → s.heap.get? b = some o := fun b o e => (ev.bs b o e).1
  have KX : K.In s.heap := ev.mod.kin.keeps here
  have lim : s.heap.NoLimit := ev.mod.nolimit.keeps here
  have kinds : ∀ y ∈ ps.zip us, scope.names.lookup y.1 = some .local ∨
      (scope.names.lookup y.1 = some .cell ∧ ((cellsFrom (s.heap.objs.size + 1) scope.names []).lookup y.1).isSome = true) := by
    rintro ⟨x, v⟩ hy
    cases S.par x (List.of_mem_zip hy).1 with
    | inl q => exact .inl q
    | inr q => exact .inr ⟨q, PySem.W.cellsFrom_some _ _ _ (.inl q)⟩
  refine codeAny_call_function room.depth (KX _ _ lk) rfl S.co S.gen rfl (PySem.W.codeRec_of KX hcd) (bd _ _ _ _ ?_)
  refine wpAny_newFunctionEnv_cells S.kind kinds fun env he s1 x => ?_
  subst he
  refine ⟨lim.keeps x.toInCall.keep, codeAny_func ?_⟩
  obtain ⟨t, ht, hq⟩ := hbody A outer s H vs Q E hG (room.deeper _) want
  have I0 := inv_start (CX := CX) (E := E) S room.hd ev n1 rel x
  refine wpAny_mono (ht.run [] s1 (start N vs) H _ I0 hq) (fun fl s' hs => ?_) fun e s' hs => hs
  cases fl with
  | ret u =>
    obtain ⟨v, σ', H', J, rv, q⟩ := hs
    exact ⟨v, H', J.os, J.bare, J.base, J.hok, rv, q⟩
  | next =>
    obtain ⟨σ', H', J, q⟩ := hs
    exact ⟨V.non, H', J.os, J.bare, J.base, J.hok, rfl, q⟩
  | brk => exact False.elim (let ⟨_, _, _, q⟩ := hs; q)
  | cont => exact False.elim (let ⟨_, _, _, q⟩ := hs; q)

theorem FunG.ok {x qual : Str} {st : Stmt} {f : Addr} {fd : FuncData} {N ps : List Str} {k : Nat} {sp : Sp}
    (F : Fun K x qual st f fd) (S : FnScope N ps (defScope st)) (len : ∀ vs H Q E, sp vs H Q E → vs.length = ps.length)
    (hbody : ∀ (cdv : Value) (A : Around) (outer : List Env) (s : Shared) (H : Hp) (vs : List V) (Q : VK) (E : XK),
      A.guards = some [] → Room k (A.deeper (envOfC qual (defScope st) s.heap.objs.size f cdv)) → sp vs H Q E →
      ∃ t, PSs (cxOf CX0 P w K mg base N qual (defScope st) f cdv A outer s H E).nox (defBody st) t ∧
        t { nx := fun _ H' => Q .non H', rt := Q } (start N vs) H) :
    FnG P w K mg base CX0 (k + 1) f fd ps sp := by
  obtain ⟨oc, od, kV, doc, pm, an, cdv, ct, osl, rfl, lk, hcd⟩ := F.ex
  refine fnG_of lk hcd S len fun A outer s H vs Q E hG hr hsp => ?_
  obtain ⟨t, h, q⟩ := hbody cdv A outer s H vs Q E hG hr hsp
  exact ⟨t, h.nox, q⟩
end

section
variable {X : Cx} {CX : CXT} {k : Nat} {f : Addr} {fd : FuncData} {ps : List Str} {sp : Sp} {dvs : List V} {ds : List Value}
  {E : XK} {x : Str} {p pos : Pos} {e : Expr} {es : List Expr} {t : TA}

theorem runG {pins : List (Addr × Obj)} {σ : L2.St} {H : Hp} {s : Shared} {Q : VK} {us : List Value} {vs : List V}
    (F : FnG X.prog X.w X.K X.mg X.base CX k f fd ps sp) (hG : X.A.guards = some []) (hr : Room k X.A)
    (hb : Binds X.K fd ps ds) (hd : Vals dvs ds) (hx : Passes CX X E) (I : Inv X pins σ H s) (r : Vals vs us)
    (h : sp (vs ++ dvs) H Q E) : wpAny (model X.prog X.w) X.A (call (.ref f) us) (EP X pins σ Q) X.xe s := by
  have both : Vals (vs ++ dvs) (us ++ ds) := r.append hd
  have n1 : (us ++ ds).length = ps.length := by
    rw [← both.length]
    exact F.len _ _ _ _ h
  have go := F.run X.A X.stack s H ⟨us, []⟩ (us ++ ds) (vs ++ dvs) Q E hG hr I.env0 (hb s us I.kIn n1) both h
  refine wpAny_call (codeAny_mono go fun r s' hq => ?_)
  cases r with
  | error e => exact hx pins σ H s e s' I hq
  | ok fl =>
    cases fl with
    | ret u => exact I.after hq
    | next => exact False.elim hq
    | brk => exact False.elim hq
    | cont => exact False.elim hq

/-- f(e, ..) of a def that may show data -/
theorem pe_callG (F : FnG X.prog X.w X.K X.mg X.base CX k f fd ps sp) (hG : X.A.guards = some []) (hr : Room k X.A)
    (hg : Gl X x) (hm : X.mg x = some (.ref f)) (hk : PySem.W.keepIn X.K (.ref f) = true) (hb : Binds X.K fd ps ds)
    (hd : Vals dvs ds) (hx : Passes CX X E) (ha : PA X (e :: es) t) (hdb : (x == ("__debug__" : Str)) = false := by decide)
    (he : starEach (e :: es) X.env = (false, eval e X.env) :: starEach es X.env := by rfl)
    (hpl : (backTo pos (starEach es X.env)).any (·.1) = false := by rfl) :
    PE X (.Call (.Name x p) (e :: es) [] pos) (tCall sp dvs E t) := by
  constructor
  intro pins s σ H Q I h
  refine wpAny_Call_Name_kw (ld_glob I hg hm ?_ hdb)
  have go := ha.run pos pins s σ H _ I h
  refine PySem.W.callWith_K (h₀ := X.base) I.ok.mod.kin hk (thn go fun us s1 ⟨vs, H1, I1, r, q⟩ => ⟨I1.kIn, ?_⟩) he hpl
  exact runG F hG hr hb hd hx I1 r q

/-- f(k = v, ..), keywords alone -/
theorem pe_callK0 {ks : List Str} {g : List Value → List Value → List Value} {gV : List V → List V → List V} {kws : List Keyword} {tk : TA}
    (F : FnOk X.prog X.w X.K X.mg X.base CX k f fd ps sp) (hr : Room k X.A) (hg : Gl X x) (hm : X.mg x = some (.ref f))
    (hk : PySem.W.keepIn X.K (.ref f) = true) (hb : KBinds X.K fd ps ks g gV) (hx : Passes CX X E) (hkw : PK X kws tk)
    (hall : (backToKw pos (keywordEach kws X.env)).all (·.1.isSome) = true := by rfl)
    (hks : (backToKw pos (keywordEach kws X.env)).filterMap (·.1) = ks := by rfl)
    (hdb : (x == ("__debug__" : Str)) = false := by decide)
    (hpl : ((backTo pos (starEach [] X.env)).any (·.1) || (backToKw pos (keywordEach kws X.env)).any (·.1.isNone)) = false := by rfl) :
    PE X (.Call (.Name x p) [] kws pos) (tCallK sp gV E tNil tk) := by
  constructor
  intro pins s σ H Q I h
  refine wpAny_Call_Name_kw (ld_glob I hg hm ?_ hdb)
  refine PySem.W.callWith_KW0 (h₀ := X.base) I.ok.mod.kin hk hall ?_ hpl
  refine thn (hkw.run pos pins s σ H _ I h) fun ws s2 ⟨zs, H2, I2, rz, q2⟩ => ⟨I2.kIn, ?_⟩
  rw [hks]
  exact run_fnk F hr hb hx I2 (us := []) .nil rz q2

/-- repr of lists and tuples that hold data -/
def rRepr (K : PySem.W.Frag) : List V → Hp → VK → Prop := fun xs H Q => ∃ (a : Addr) (d : PyData), xs = [.ref a] ∧ Dp K H (.ref a) d ∧
  d.showable = true ∧ d.hasDict = false ∧ d.depth ≤ 100 ∧ d.shown.length ≤ sizeLine ∧ Q (.str d.shown) H
theorem call_reprD (hG : X.A.guards = some []) (hr : Room k X.A) : CallR X (.builtin "repr") (rRepr X.K) := by
  intro pins s σ H xs us Q I r h
  obtain ⟨a, d, rfl, dp, hs, hn, hd, hz, q⟩ := h
  obtain ⟨u, rfl, ru⟩ := vals1 r
  obtain ⟨as, rd⟩ := Dp.reads I d _ u dp ru
  cases (show u = Value.ref a from ru)
  have hu : X.A.units + 16 * k + 200 < cLine := hr.un
  refine repr_of_reads' rd hs (PyData.noDict_hsm hn) hG (by omega) (fun _ _ e => e) (fun h' u tk hk => ?_) hz
  exact ⟨.str _, H, I.kept hk, ⟨_, rfl⟩, q⟩
end
end T3
namespace T3
open PySem PySem.Spec PyProof.Rows L2
/-- the law's call at its head, over a promise that holds where no repr is under way -/
theorem lawG {P : Program} {w : World} {K : PySem.W.Frag} {mg mb : Str → Option Value} {CX : CXT} {k : Nat} {fa a : Addr} {fd : FuncData}
    {x : Str} {sp : Sp} {s₁ : Shared} {vs : List Value} {ns : List Int} (KX : K.In s₁.heap) (hns : s₁.heap.Ns mainGlobals mg)
    (hb : s₁.heap.Ns builtinsNs mb) (hbb : ∀ x : Str, x ≠ "__name__" → mb x = bootBuiltins x) (hlim : s₁.heap.NoLimit) (hg : s₁.gens = #[])
    (ha : s₁.heap.get? a = some { cls := .type "list", data := .seq vs.toArray }) (hi : IntsAre vs ns) (hl : ns.length ≤ sizeLine)
    (hr : Room k callerA) (F : ∀ base : Heap, K.In base → base.Ns mainGlobals mg → FnG P w K mg base CX k fa fd [x] sp)
    (hbind : ∀ (s : Shared) (u : Value), BindsTo s fd ⟨[u], []⟩ [(x, u)])
    (hsp : ∀ H : Hp, Only H → SqL K H a (ns.map V.int) → sp [.ref a] H (fun v _ => v = .bl true) fun _ _ _ => False)
    (hCX : ∀ H e s', CX [] H s₁ (fun _ _ _ => False) e s' → False) :
    codeAny (model P w) callerA (.call (.ref fa) ⟨[.ref a], []⟩)
      (fun r s' => r = .ok (.ret (.bool true)) ∧ OldK s₁.heap s'.heap ∧ s'.os = s₁.os ∧ AllBare s'.gens) s₁ := by
  have vv := vals_ints hi
  have n1 := hi.length
  -- from any abstract heap that tracks the script alone
  have main : ∀ H : Hp, Only H → SqL K H a (ns.map V.int) → HOk P w H s₁.heap → (∀ b, H b ≠ none → b = a) → (H a ≠ none → K.lookup a = none) →
      codeAny (model P w) callerA (.call (.ref fa) ⟨[.ref a], []⟩)
        (fun r s' => r = .ok (.ret (.bool true)) ∧ OldK s₁.heap s'.heap ∧ s'.os = s₁.os ∧ AllBare s'.gens) s₁ := by
    intro H only seq hok one own
    -- what is no list is not tracked
    have bare : ∀ {b : Addr} {o : Obj} {es : Array DictEntry} {ep : Nat}, s₁.heap.get? b = some o → o.data = .dict es ep → H b = none := by
      intro b o es ep e d
      cases q : H b with
      | none => rfl
      | some u =>
        have z : b = a := one b (by rw [q]; exact fun y => nomatch y)
        rw [z, ha] at e
        cases e
        exact absurd (show Data.seq vs.toArray _ = Data.dict es ep from d) (fun y => nomatch y)
    have space : ∀ {b : Addr} {m : Str → Option Value}, s₁.heap.Ns b m → (hidT s₁.heap H).Ns b m := by
      rintro b m ⟨o, es, ep, e, d, r⟩
      exact ⟨o, es, ep, hidT_get e (bare e d), d, r⟩
    have kin : K.In (hidT s₁.heap H) := by
      intro b o e
      refine hidT_get (KX b o e) ?_
      cases q : H b with
      | none => rfl
      | some u =>
        have z : b = a := one b (by rw [q]; exact fun y => nomatch y)
        subst z
        rw [own (by rw [q]; exact fun y => nomatch y)] at e
        cases e
    have md : Mod K mg (hidT s₁.heap H) := by
      obtain ⟨mc, l1, l2⟩ := hlim
      exact ⟨kin, space hns, ⟨mb, space hb, hbb⟩, ⟨mc, space l1, l2⟩⟩
    have ev : Env0 P w K mg (hidT s₁.heap H) callerA [] s₁ H := by
      refine ⟨rfl, md, fun b o e => of_hidT e, Nat.le_of_eq (hidT_size _ _), trivial, ?_, hok, .of_eq hg⟩
      intro b hb'
      exact absurd (show b ∈ ([] : List Addr) from hb') (by simp)
    have go := (F _ kin (space hns)).run callerA [] s₁ H ⟨[.ref a], []⟩ [.ref a] [.ref a] (fun v _ => v = .bl true) (fun _ _ _ => False)
      rfl hr ev (hbind s₁ (.ref a)) (.cons rfl .nil) (hsp H only seq)
    refine codeAny_mono go fun r s' h => ?_
    match r, h with
    | .error e, h => exact (hCX H e s' h).elim
    | .ok .next, h => exact False.elim h
    | .ok .brk, h => exact False.elim h
    | .ok .cont, h => exact False.elim h
    | .ok (.ret u), ⟨v, H', os, br, un, hok', r', q⟩ =>
      have qv : v = .bl true := q
      subst qv
      obtain rfl : u = Value.bool true := r'
      refine ⟨rfl, OldK.of_keep fun b o e => ?_, os, br⟩
      cases q : H b with
      | none =>
        refine un.keep b o e q ?_ (by simp)
        intro z
        exact absurd (show b ∈ ([] : List Addr) from z) (by simp)
      | some u =>
        cases only b with
        | inl z =>
          rw [q] at z
          cases z
        | inr z =>
          obtain ⟨ob, xs, z⟩ := z
          have z2 := un.frzs b ob _ z
          obtain ⟨e1, _⟩ := hok b _ z
          obtain ⟨e2, _⟩ := hok' b _ z2
          rw [e] at e1
          cases e1
          exact e2
  cases hk : K.lookup a with
  | some o =>
    have e := KX a o hk
    rw [ha] at e
    cases e
    refine main (fun _ => none) (fun _ => .inl rfl) (.inr ⟨_, vs.toArray, _, hk, rfl, rfl, rfl, ?_, by simpa using vv⟩) ?_ (fun b z => absurd rfl z) fun z => absurd rfl z
    · rw [List.size_toArray, n1]
      exact hl
    · intro b u z
      exact absurd (show (none : Option HO) = some u from z) (fun y => nomatch y)
  | none =>
    refine main (fun b => if b = a then some (.frz { cls := .type "list", data := .seq vs.toArray } (.lst (ns.map V.int))) else none) ?_
      (.inl (.inr ⟨{ cls := .type "list", data := .seq vs.toArray }, if_pos rfl⟩)) ?_ ?_ fun _ => hk
    · intro b
      by_cases hb' : b = a
      · exact .inr ⟨_, _, if_pos hb'⟩
      · exact .inl (if_neg hb')
    · intro b u z
      by_cases hb' : b = a
      · have z' := (if_pos hb').symm.trans z
        cases z'
        subst hb'
        refine ⟨ha, ?_, vs, _, vv, ha⟩
        rw [List.length_map]
        exact hl
      · have z' := (if_neg hb').symm.trans z
        cases z'
    · intro b z
      by_cases hb' : b = a
      · exact hb'
      · exact absurd (if_neg hb') z

/-- what k_head leaves, from such a promise of the law -/
theorem walkG {l : PySem.W.OpenLaw} {n k : Nat} {q : Program} {loose : List Str} {XP : (Str → Option Value) → Heap → Prop} {YP : World → Heap → Prop}
    {d : DefRec} {K : Params → PySem.W.Frag} {CX : World → CXT} {sp : World → Sp} {x : Str} (hn : l.most = some n) (hn2 : n ≤ sizeLine)
    (hdf : d.params.defaults = []) (hr : Room k callerA) (hY : ∀ (w : World) (h : Heap), YP w h → (K w.params).In h)
    (F : ∀ (w : World) (mg : Str → Option Value) (fa : Addr) (h : Heap), (K w.params).In h → h.Ns mainGlobals mg → XP mg h → mg d.name = some (.ref fa) →
      ∃ fd : FuncData, (∀ (s : Shared) (u : Value), BindsTo s fd ⟨[u], []⟩ [(x, u)]) ∧
        ∀ base : Heap, (K w.params).In base → base.Ns mainGlobals mg → FnG l.prog w (K w.params) mg base (CX w) k fa fd [x] (sp w))
    (hsp : ∀ (w : World) (H : Hp) (a : Addr) (ns : List Int), ns.length ≤ n → Only H → SqL (K w.params) H a (ns.map V.int) →
      sp w [.ref a] H (fun v _ => v = .bl true) fun _ _ _ => False)
    (hCX : ∀ (w : World) (H : Hp) (s : Shared) (e : Value) (s' : Shared), CX w [] H s (fun _ _ _ => False) e s' → False) :
    PySem.W.WalkO q loose XP YP l.row.toRowW d [] (fun f vs => PySem.call f vs) := by
  refine Att.attach_call hn hdf ?_
  intro w s₀ s₁ mg mb fa o pm cd doc a vs ns G Y ho hd hcd hmg hobj hints hlen hg
  have KX := hY w _ Y
  obtain ⟨fd, hb, hF⟩ := F w mg fa _ KX G.T.g G.X hmg
  refine lawG KX G.T.g G.T.b G.T.builtins G.T.nolimit hg hobj hints (Nat.le_trans hlen hn2) hr hF hb ?_ ?_
  · intro H hO hS
    exact hsp w H a ns hlen hO hS
  · intro H e s'
    exact hCX w H s₁ e s'
end T3
/-! readings that reckon by themselves: rules whose readings are told by cases of the values -/
namespace T3
open PySem PySem.Spec PyProof.Rows L2

section
variable {X : Cx}
/-! ### weaker readings -/
theorem PE.imp {e : Expr} {t t' : TE} (i : ∀ σ H Q, t' σ H Q → t σ H Q) (h : PE X e t) : PE X e t' :=
  ⟨fun pins s σ H Q I q => h.run pins s σ H Q I (i σ H Q q)⟩
theorem PT.imp {e : Expr} {t t' : TT} (i : ∀ σ H Q, t' σ H Q → t σ H Q) (h : PT X e t) : PT X e t' :=
  ⟨fun pins s σ H Q I q => h.run pins s σ H Q I (i σ H Q q)⟩
theorem PS.imp {e : Stmt} {t t' : TS} (i : ∀ D σ H, t' D σ H → t D σ H) (h : PS X e t) : PS X e t' :=
  ⟨fun pins s σ H D I q => h.run pins s σ H D I (i D σ H q)⟩
theorem PT.close {e : Expr} {t : TT} (h : PT X e t) : PT X e (fun σ H Q => ∃ Q0, t σ H Q0 ∧ ∀ b H', Q0 b H' → Q b H') := by
  constructor
  rintro pins s σ H Q I ⟨Q0, q, i⟩
  refine thn (h.run pins s σ H Q0 I q) ?_
  rintro b s' ⟨H', I', q'⟩
  exact ⟨H', I', i b H' q'⟩
theorem OpR.imp {f : Value → Value → Sem Value} {r r' : R2} (h : OpR X f r) (i : ∀ x y H Q, r' x y H Q → r x y H Q) : OpR X f r' :=
  fun pins s σ H x y v u Q I rx ry q => h pins s σ H x y v u Q I rx ry (i x y H Q q)
theorem CallR.imp {f : Value} {r r' : List V → Hp → VK → Prop} (h : CallR X f r) (i : ∀ x H Q, r' x H Q → r x H Q) : CallR X f r' :=
  fun pins s σ H xs us Q I rx q => h pins s σ H xs us Q I rx (i xs H Q q)
theorem OpR.or {f : Value → Value → Sem Value} {r r' : R2} (h : OpR X f r) (h' : OpR X f r') : OpR X f (fun x y H Q => r x y H Q ∨ r' x y H Q) := by
  intro pins s σ H x y v u Q I rx ry q
  cases q with
  | inl q => exact h pins s σ H x y v u Q I rx ry q
  | inr q => exact h' pins s σ H x y v u Q I rx ry q
theorem CallR.or {f : Value} {r r' : List V → Hp → VK → Prop} (h : CallR X f r) (h' : CallR X f r') : CallR X f (fun x H Q => r x H Q ∨ r' x H Q) := by
  intro pins s σ H xs us Q I rx q
  cases q with
  | inl q => exact h pins s σ H xs us Q I rx q
  | inr q => exact h' pins s σ H xs us Q I rx q

/-! ### names -/
def mVar (i : Nat) : TE := fun σ H Q => match σ[i]? with
  | some (some v) => Q v H
  | _ => False
theorem mv (i : Nat) {x : Str} {pos : Pos} (hN : X.N[i]? = some x := by rfl)
    (hv : Vis X.env.scope x := by first | exact Or.inl rfl | exact Or.inr (Or.inl rfl) | exact Or.inr (Or.inr rfl))
    (hd : (x == ("__debug__" : Str)) = false := by decide) (hcd : (x == ("__classdict__" : Str)) = false := by decide) :
    PE X (.Name x pos) (mVar i) := by
  refine PE.imp ?_ (pe_var hN hv hd hcd)
  intro σ H Q h
  unfold mVar at h
  split at h
  · rename_i v e
    exact ⟨v, e, h⟩
  · exact h.elim

/-! ### two-place operations -/
def mAdd : R2 := fun x y H Q => match x, y with
  | .int i, .int j => Q (.int (i + j)) H
  | .str a, .str b => a.length + b.length ≤ sizeLine ∧ Q (.str (a ++ b)) H
  | .ref a, .ref b => ∃ xs ys, H a = some (.lst xs) ∧ H b = some (.lst ys) ∧ xs.length + ys.length ≤ sizeLine ∧
      ∀ p, H p = none → Q (.ref p) (upd H p (.lst (xs ++ ys)))
  | _, _ => False
theorem opAdd : OpR X (binaryOp .Add) mAdd := by
  refine OpR.imp (OpR.or op_add (OpR.or op_add_str op_cat)) ?_
  intro x y H Q h
  cases x <;> cases y <;> first
    | exact h.elim
    | exact .inl ⟨_, _, rfl, rfl, h⟩
    | exact .inr (.inl ⟨_, _, rfl, rfl, h⟩)
    | (obtain ⟨xs, ys, h1, h2, h3, h4⟩ := h; exact .inr (.inr ⟨_, _, xs, ys, rfl, rfl, h1, h2, h3, h4⟩))
def mSub : R2 := fun x y H Q => match x, y with
  | .int i, .int j => Q (.int (i - j)) H
  | _, _ => False
theorem opSub : OpR X (binaryOp .Sub) mSub := by
  refine OpR.imp op_sub ?_
  intro x y H Q h
  cases x <;> cases y <;> first
    | exact h.elim
    | exact ⟨_, _, rfl, rfl, h⟩
/-- n times a text -/
theorem op_rep_str : OpR X (binaryOp .Mult) (fun x y H Q => ∃ a n, x = .str a ∧ y = .int n ∧ MulOk a n ∧ Q (.str (Txt.mul a n)) H) := by
  intro pins s σ H x y v u Q I rx ry h
  obtain ⟨a, n, rfl, rfl, hk, q⟩ := h
  obtain ⟨t, rfl⟩ := rx
  obtain ⟨t', rfl⟩ := ry
  refine SB.mul hk fun t2 k => ?_
  exact ⟨.str _, H, I.tok _, ⟨_, rfl⟩, q⟩
def mMul : R2 := fun x y H Q => match x, y with
  | .int i, .int j => ((-(2 ^ 64) < i ∧ i < 2 ^ 64) ∨ (-(2 ^ 64) < j ∧ j < 2 ^ 64)) ∧ Q (.int (i * j)) H
  | .str a, .int n => MulOk a n ∧ Q (.str (Txt.mul a n)) H
  | _, _ => False
theorem opMul : OpR X (binaryOp .Mult) mMul := by
  refine OpR.imp (OpR.or op_mul op_rep_str) ?_
  intro x y H Q h
  cases x <;> cases y <;> first
    | exact h.elim
    | exact .inl ⟨_, _, rfl, rfl, h.1, h.2⟩
    | exact .inr ⟨_, _, rfl, rfl, h.1, h.2⟩
def mDiv : R2 := fun x y H Q => match x, y with
  | .int i, .int j => (0 < j ∧ j < 2 ^ 62) ∧ Q (.int (i / j)) H
  | _, _ => False
theorem log_small {j : Int} (h0 : 0 < j) (h1 : j < 2 ^ 62) : j.natAbs.log2 < 9000 := by
  have h2 : j.natAbs < 2 ^ 62 := by omega
  have h3 : j.natAbs ≠ 0 := by omega
  have h4 : j.natAbs.log2 < 62 := (Nat.log2_lt h3).mpr h2
  omega
theorem opDiv : OpR X (binaryOp .FloorDiv) mDiv := by
  refine OpR.imp op_fdivW ?_
  intro x y H Q h
  cases x <;> cases y <;> first
    | exact h.elim
    | exact ⟨_, _, rfl, rfl, ⟨h.1.1, log_small h.1.1 h.1.2⟩, h.2⟩
def mMod : R2 := fun x y H Q => match x, y with
  | .int i, .int j => 0 < j ∧ Q (.int (i % j)) H
  | _, _ => False
theorem opMod : OpR X (binaryOp .Mod) mMod := by
  refine OpR.imp op_mod ?_
  intro x y H Q h
  cases x <;> cases y <;> first
    | exact h.elim
    | exact ⟨_, _, rfl, rfl, h⟩
def mPow : R2 := fun x y H Q => match x, y with
  | .int i, .int j => CPow i j ∧ Q (.int (i ^ j.toNat)) H
  | _, _ => False
theorem opPow : OpR X (binaryOp .Pow) mPow := by
  refine OpR.imp op_pow ?_
  intro x y H Q h
  cases x <;> cases y <;> first
    | exact h.elim
    | exact ⟨_, _, rfl, rfl, h⟩

/-! ### comparisons -/
def mEq : R2 := fun x y H Q => match x, y with
  | .int i, .int j => Q (.bl (decide (i = j))) H
  | .str a, .str b => Q (.bl (decide (a = b))) H
  | .bl a, .bl b => Q (.bl (decide (a = b))) H
  | _, _ => False
theorem opEq : OpR X (compareOp .Eq) mEq := by
  refine OpR.imp op_eq ?_
  intro x y H Q h
  cases x <;> cases y <;> first
    | exact h.elim
    | exact ⟨rfl, by simpa [mEq] using h⟩
def mNe : R2 := fun x y H Q => match x, y with
  | .int i, .int j => Q (.bl (!decide (i = j))) H
  | .str a, .str b => Q (.bl (!decide (a = b))) H
  | .bl a, .bl b => Q (.bl (!decide (a = b))) H
  | _, _ => False
theorem opNe : OpR X (compareOp .NotEq) mNe := by
  refine OpR.imp op_ne ?_
  intro x y H Q h
  cases x <;> cases y <;> first
    | exact h.elim
    | exact ⟨rfl, by simpa [mNe] using h⟩
def mCmp (p : Int → Int → Bool) : R2 := fun x y H Q => match x, y with
  | .int i, .int j => Q (.bl (p i j)) H
  | _, _ => False
theorem mCmp_of {f : Value → Value → Sem Value} {p : Int → Int → Bool} (h : OpR X f (rI0 fun i j => .bl (p i j))) : OpR X f (mCmp p) := by
  refine OpR.imp h ?_
  intro x y H Q h
  cases x <;> cases y <;> first
    | exact h.elim
    | exact ⟨_, _, rfl, rfl, h⟩
theorem opLt : OpR X (compareOp .Lt) (mCmp fun i j => decide (i < j)) := mCmp_of op_lt
theorem opLe : OpR X (compareOp .LtE) (mCmp fun i j => decide (i ≤ j)) := mCmp_of op_le
theorem opGt : OpR X (compareOp .Gt) (mCmp fun i j => decide (j < i)) := mCmp_of op_gt
theorem opGe : OpR X (compareOp .GtE) (mCmp fun i j => decide (j ≤ i)) := mCmp_of op_ge
/-- one sign in a text; a flat value in a list or tuple -/
def mIn (K : PySem.W.Frag) : R2 := fun x y H Q => match y with
  | .str z => ∃ c, x = .str ⟨#[c]⟩ ∧ Q (.bl (decide (c ∈ z.cps.toList))) H
  | .ref p => ∃ xs, (SqL K H p xs ∨ SqT K H p xs) ∧ flatV x = true ∧ xs.all flatV = true ∧ Q (.bl (inV x xs)) H
  | _ => False
theorem opIn : OpR X (compareOp .In) (mIn X.K) := by
  refine OpR.imp (OpR.or op_in_sign op_in_seq) ?_
  intro x y H Q h
  cases y with
  | str z =>
    obtain ⟨c, e, q⟩ := h
    exact .inl ⟨c, z, e, rfl, q⟩
  | ref p =>
    obtain ⟨xs, h1, h2, h3, q⟩ := h
    exact .inr ⟨p, xs, rfl, h1, h2, h3, q⟩
  | _ => exact h.elim

/-! ### subscripts, slices -/
def mIx (K : PySem.W.Frag) : R2 := fun x y H Q => match x, y with
  | .str z, .int i => z.length ≤ sizeLine ∧ ∃ c, atI z.cps.toList i = some c ∧ Q (.str ⟨#[c]⟩) H
  | .ref p, .int i => ∃ xs, (SqL K H p xs ∨ SqT K H p xs) ∧ ∃ v, atI xs i = some v ∧ Q v H
  | _, _ => False
theorem IxR.imp {r r' : R2} (h : IxR X r) (i : ∀ x y H Q, r' x y H Q → r x y H Q) : IxR X r' :=
  fun value slice pins s σ H x y v u Q I rx ry q => h value slice pins s σ H x y v u Q I rx ry (i x y H Q q)
theorem ixM : IxR X (mIx X.K) := by
  refine IxR.imp ix_seq ?_
  intro x y H Q h
  cases x <;> cases y <;> first
    | exact h.elim
    | (obtain ⟨h1, c, h2, q⟩ := h; exact .inr (.inr ⟨_, _, c, rfl, rfl, h1, h2, q⟩))
    | (obtain ⟨xs, h1, v, h2, q⟩ := h
       cases h1 with
       | inl h1 => exact .inl ⟨_, xs, _, v, rfl, rfl, h1, h2, q⟩
       | inr h1 => exact .inr (.inl ⟨_, xs, _, v, rfl, rfl, h1, h2, q⟩))
def mPart (t : TE) : TO := fun σ H Q => t σ H fun x H1 => match x with
  | .int i => Q (some i) H1
  | _ => False
theorem mono_pe {e : Expr} {t : TE} (h : PE X e t) : PE X e (fun σ H Q => ∃ Q0 : VK, t σ H Q0 ∧ ∀ v H', Q0 v H' → Q v H') := by
  constructor
  rintro pins s σ H Q I ⟨Q0, q, i⟩
  refine thn (h.run pins s σ H Q0 I q) ?_
  rintro b s' ⟨v, H', I', r, q'⟩
  exact ⟨v, H', I', r, i v H' q'⟩
theorem pom {e : Expr} {t : TE} (h : PE X e t) : PO X (some e) (mPart t) := by
  constructor
  intro pins s σ H Q I q
  refine (po_some (mono_pe h)).run pins s σ H Q I ⟨_, q, ?_⟩
  intro v H' q'
  cases v <;> first
    | exact q'.elim
    | exact ⟨_, rfl, q'⟩
def mSl (K : PySem.W.Frag) : V → Option Int → Option Int → Hp → VK → Prop := fun x lo hi H Q => match x with
  | .str z => z.length ≤ sizeLine ∧ Q (.str (cutS z lo hi)) H
  | .ref a => ∃ xs, SqL K H a xs ∧ ∀ p, H p = none → Q (.ref p) (upd H p (.lst (cutV xs lo hi)))
  | _ => False
theorem slM : SlR X (mSl X.K) := by
  intro pins s σ H x v vl vu lo hi sl Q I rx hs pl pu q
  refine (SlR.or sl_str sl_list) pins s σ H x v vl vu lo hi sl Q I rx hs pl pu ?_
  cases x with
  | str z => exact .inl ⟨z, rfl, q⟩
  | ref a =>
    obtain ⟨xs, h1, h2⟩ := q
    exact .inr ⟨a, xs, rfl, h1, h2⟩
  | _ => exact q.elim

/-! ### built-ins -/
def mLen (K : PySem.W.Frag) : List V → Hp → VK → Prop := fun xs H Q => match xs with
  | [.str z] => z.length ≤ sizeLine ∧ Q (.int z.length) H
  | [.ref p] => ∃ ys, (SqL K H p ys ∨ SqT K H p ys) ∧ Q (.int ys.length) H
  | _ => False
theorem callLen : CallR X (.builtin "len") (mLen X.K) := by
  refine CallR.imp (CallR.or call_len_str call_len_seq) ?_
  intro xs H Q h
  match xs, h with
  | [.str z], h => exact .inl ⟨z, rfl, h⟩
  | [.ref p], ⟨ys, h1, q⟩ => exact .inr ⟨p, ys, rfl, h1, q⟩
def mInt : List V → Hp → VK → Prop := fun xs H Q => match xs with
  | [.int i] => Q (.int i) H
  | [.bl k] => Q (.int (if k then 1 else 0)) H
  | _ => False
theorem callInt : CallR X (.type "int") mInt := by
  refine CallR.imp call_int1 ?_
  intro xs H Q h
  match xs, h with
  | [.int i], h => exact .inl ⟨i, rfl, h⟩
  | [.bl k], h => exact .inr ⟨k, rfl, h⟩
def mTwo (g : Int → Int → Int) : List V → Hp → VK → Prop := fun xs H Q => match xs with
  | [.int i, .int j] => Q (.int (g i j)) H
  | _ => False
theorem callMin (hc : X.calm = true) : CallR X (.builtin "min") (mTwo fun i j => if j < i then j else i) := by
  refine CallR.imp (call_min2 hc) ?_
  intro xs H Q h
  match xs, h with
  | [.int i, .int j], h => exact ⟨i, j, rfl, h⟩
theorem callMax (hc : X.calm = true) : CallR X (.builtin "max") (mTwo fun i j => if j > i then j else i) := by
  refine CallR.imp (call_max2 hc) ?_
  intro xs H Q h
  match xs, h with
  | [.int i, .int j], h => exact ⟨i, j, rfl, h⟩
/-- tuple(a list that stands) -/
def mTuple (K : PySem.W.Frag) : List V → Hp → VK → Prop := fun xs H Q => match xs with
  | [.ref p] => ∃ ys, SqL K H p ys ∧ ∀ l, H l = none → Q (.ref l) (upd H l (.tup ys))
  | _ => False
theorem callTuple : CallR X (.type "tuple") (mTuple X.K) := by
  refine CallR.imp call_tuple_of ?_
  intro xs H Q h
  match xs, h with
  | [.ref p], ⟨ys, h1, h2⟩ => exact ⟨p, ys, rfl, .inl ⟨h1, h2⟩⟩
/-- isinstance(x, a built-in class) -/
def mIsi (K : PySem.W.Frag) : List V → Hp → VK → Prop := fun xs H Q => match xs with
  | [.str _, .ty n] => ∃ b, kitB "str" n = some b ∧ Q (.bl b) H
  | [.int _, .ty n] => ∃ b, kitB "int" n = some b ∧ Q (.bl b) H
  | [.bl _, .ty n] => ∃ b, kitB "bool" n = some b ∧ Q (.bl b) H
  | [.ref a, .ty n] => ((∃ ys, H a = some (.tup ys)) ∧ ∃ b, kitB "tuple" n = some b ∧ Q (.bl b) H) ∨
      ((∃ ys, H a = some (.lst ys)) ∧ ∃ b, kitB "list" n = some b ∧ Q (.bl b) H)
  | _ => False
theorem callIsi : CallR X (.builtin "isinstance") (mIsi X.K) := by
  refine CallR.imp call_isi ?_
  intro xs H Q h
  match xs, h with
  | [.str z, .ty n], ⟨b, e, q⟩ => exact ⟨_, _, _, _, b, rfl, .ty n, .base (.str z), kit_ty e, q⟩
  | [.int z, .ty n], ⟨b, e, q⟩ => exact ⟨_, _, _, _, b, rfl, .ty n, .base (.int z), kit_ty e, q⟩
  | [.bl z, .ty n], ⟨b, e, q⟩ => exact ⟨_, _, _, _, b, rfl, .ty n, .base (.bl z), kit_ty e, q⟩
  | [.ref a, .ty n], .inl ⟨⟨ys, ha⟩, b, e, q⟩ => exact ⟨_, _, _, _, b, rfl, .ty n, .base (.tup ha), kit_ty e, q⟩
  | [.ref a, .ty n], .inr ⟨⟨ys, ha⟩, b, e, q⟩ => exact ⟨_, _, _, _, b, rfl, .ty n, .base (.lst ha), kit_ty e, q⟩

/-! ### tests -/
def mTest (t : TE) : TT := fun σ H Q => t σ H fun x H1 => match x with
  | .bl k => Q k H1
  | _ => False
theorem mcmp {op : CmpOp} {r : R2} {a b : Expr} {ta tb : TE} {pos : Pos} (ho : OpR X (compareOp op) r) (ha : PE X a ta) (hb : PE X b tb)
    (hm : behindInMarks op b = false := by first | rfl | exact nomark _) : PT X (.Compare a [op] [b] pos) (mTest (tOp r ta tb)) := by
  have ho' : OpR X (compareOp op) (fun x y H Q => ∃ Q0 : VK, r x y H Q0 ∧ ∀ v H', Q0 v H' → Q v H') := by
    rintro pins s σ H x y v u Q I rx ry ⟨Q0, q, i⟩
    refine thn (ho pins s σ H x y v u Q0 I rx ry q) ?_
    rintro b s' ⟨v, H', I', r, q'⟩
    exact ⟨v, H', I', r, i v H' q'⟩
  refine PT.imp ?_ (pt_cmpR ho' (mono_pe ha) (mono_pe hb) hm)
  intro σ H Q h
  refine ⟨_, h, fun x H1 h1 => ⟨_, h1, fun y H2 h2 => ⟨_, h2, fun z H3 h3 => ?_⟩⟩⟩
  cases z <;> first
    | exact h3.elim
    | exact ⟨_, rfl, h3⟩
/-- a value that is True or False, as a test -/
theorem mval {e : Expr} {t : TE} (h : PE X e t)
    (he : ∀ whole, isTrue e X.env whole = (do let v ← whole; standAt e.pos; holding [v] (truthy v)) := by intro _; rfl) : PT X e (mTest t) := by
  refine PT.imp ?_ (pt_val (mono_pe h) he)
  intro σ H Q h
  refine ⟨_, h, fun x H1 h1 => ?_⟩
  cases x <;> first
    | exact h1.elim
    | exact ⟨_, rfl, h1⟩
theorem mcmpE {op : CmpOp} {r : R2} {a b : Expr} {ta tb : TE} {pos : Pos} (ho : OpR X (compareOp op) r) (ha : PE X a ta) (hb : PE X b tb)
    (hm : behindInMarks op b = false := by first | rfl | exact nomark _) : PE X (.Compare a [op] [b] pos) (tOp r ta tb) := pe_cmpR ho ha hb hm

/-! ### statements -/
def mIf (c : TT) (t u : TS) : TS := fun D σ H => c σ H fun b H1 => (b = true → t D σ H1) ∧ (b = false → u D σ H1)
theorem mif {c : Expr} {a b : List Stmt} {tc : TT} {t u : TS} {pos : Pos} (hc : PT X c tc) (ha : PSs X a t) (hb : PSs X b u) : PS X (.If c a b pos) (mIf tc t u) := by
  refine PS.imp ?_ (ps_if (PT.close hc) ha hb)
  intro D σ H h
  refine ⟨_, h, ?_⟩
  intro b H' q
  cases b with
  | true => exact iteT (q.1 rfl)
  | false => exact iteF (q.2 rfl)
/-- the invariant and what falls -/
def mWhile (c : TT) (tb : TS) : TS := fun D σ H => ∃ (Pv : L2.St → Hp → Prop) (μ : L2.St → Hp → Nat), Pv σ H ∧ ∀ σ H, Pv σ H →
  c σ H fun b H1 => (b = true → tb { D with nx := fun σ' H' => Pv σ' H' ∧ μ σ' H' < μ σ H, ct := fun σ' H' => Pv σ' H' ∧ μ σ' H' < μ σ H, bk := D.nx } σ H1) ∧ (b = false → D.nx σ H1)
theorem mwhile {c : Expr} {body : List Stmt} {tc : TT} {tb : TS} {pos : Pos} (hp : PassesOwn (model X.prog X.w) X.A X.env X.xe) (hc : PT X c tc) (hb : PSs X body tb) :
    PS X (.While c body [] pos) (mWhile tc tb) := by
  refine PS.imp ?_ (ps_while hp (PT.close hc) hb)
  rintro D σ H ⟨Pv, μ, h0, hs⟩
  refine ⟨fun m σ H => m = μ σ H ∧ Pv σ H, ⟨_, rfl, h0⟩, ?_⟩
  rintro m σ H ⟨rfl, p⟩
  refine ⟨_, hs σ H p, ?_⟩
  intro b H1 q
  cases b with
  | true =>
    refine iteT ⟨_, ?_, q.1 rfl⟩
    rintro σ' H' ⟨p', l⟩
    exact ⟨_, l, rfl, p'⟩
  | false => exact iteF (q.2 rfl)
/-- for .. in range(n) -/
def mForR (ta : TE) (g : TG) (tb : TS) : TS := fun D σ H => ta σ H fun v H1 => match v with
  | .int j => (-(2 ^ 62) ≤ j ∧ j < 2 ^ 62) ∧ ∃ Pv : Nat → L2.St → Hp → Prop, Pv 0 σ H1 ∧
      (∀ (i : Nat) σ H, i < j.toNat → Pv i σ H → g (.int i) σ H fun σ2 H2 => tb { D with nx := Pv (i + 1), ct := Pv (i + 1), bk := D.nx } σ2 H2) ∧
      ∀ σ H, Pv j.toNat σ H → D.nx σ H
  | _ => False
theorem mforR {a : Expr} {ta : TE} {p pos pos' : Pos} {body : List Stmt} {tg : Expr} {g : TG} {tb : TS} (hp : PassesOwn (model X.prog X.w) X.A X.env X.xe) (hc : X.calm = true)
    (hg : Gl X "range") (hm : X.mg "range" = none) (ha : PE X a ta) (hG : PG X tg g) (hb : PSs X body tb)
    (hs : starEach [a] X.env = (false, eval a X.env) :: starEach [] X.env := by rfl)
    (hf : ∀ x, foldedSetIterable (.Call (.Name "range" p) [a] [] pos) X.env x = pure x := by intro _; rfl) :
    PS X (.For tg (.Call (.Name "range" p) [a] [] pos) body [] pos') (mForR ta g tb) := by
  have q := ps_for (pos := pos') hp hc (pi_range1 (tg := tg) (p := p) (pos := pos) hg hm (pa_cons (mono_pe ha) pa_nil hs) hs) hG hb hf
  refine PS.imp ?_ q
  intro D σ H h
  refine ⟨_, h, ?_⟩
  intro v H1 h1
  cases v with
  | int j =>
    obtain ⟨h2, Pv, p0, ps, pd⟩ := h1
    refine ⟨j, rfl, h2.1, h2.2, for_range (lo := 0) (n := j.toNat) Pv p0 ?_ pd⟩
    intro i σ H hi hP
    have z := ps i σ H hi hP
    rw [Int.zero_add]
    exact z
  | _ => exact h1.elim
/-- for .. in a list that stays -/
def mForL (K : PySem.W.Frag) (ta : TE) (g : TG) (tb : TS) : TS := fun D σ H => ta σ H fun v H1 => match v with
  | .ref a => ∃ xs, SqL K H1 a xs ∧ ∃ Pv : Nat → L2.St → Hp → Prop, Pv 0 σ H1 ∧ (∀ i σ H, i ≤ xs.length → Pv i σ H → SqL K H a xs) ∧
      (∀ (i : Nat) x σ H, xs[i]? = some x → Pv i σ H → g x σ H fun σ2 H2 => tb { D with nx := Pv (i + 1), ct := Pv (i + 1), bk := D.nx } σ2 H2) ∧
      ∀ σ H, Pv xs.length σ H → D.nx σ H
  | _ => False
theorem mforL {a : Expr} {ta : TE} {pos' : Pos} {body : List Stmt} {tg : Expr} {g : TG} {tb : TS} (hp : PassesOwn (model X.prog X.w) X.A X.env X.xe) (hc : X.calm = true)
    (ha : PE X a ta) (hG : PG X tg g) (hb : PSs X body tb) (hf : ∀ x, foldedSetIterable a X.env x = pure x := by intro _; rfl) :
    PS X (.For tg a body [] pos') (mForL X.K ta g tb) := by
  have q := ps_for (pos := pos') hp hc (pi_list (tg := tg) (mono_pe ha)) hG hb hf
  refine PS.imp ?_ q
  intro D σ H h
  refine ⟨_, h, ?_⟩
  intro v H1 h1
  cases v with
  | ref a =>
    obtain ⟨xs, h2, Pv, p0, pl, ps, pd⟩ := h1
    exact ⟨a, rfl, ⟨xs, h2⟩, for_list (xs := xs) Pv p0 pl ps pd⟩
  | _ => exact h1.elim
/-- for .. in a tuple -/
def mForT (K : PySem.W.Frag) (ta : TE) (g : TG) (tb : TS) : TS := fun D σ H => ta σ H fun v H1 => match v with
  | .ref a => ∃ xs, SqT K H1 a xs ∧ ∃ Pv : Nat → L2.St → Hp → Prop, Pv 0 σ H1 ∧ (∀ i σ H, i ≤ xs.length → Pv i σ H → SqT K H a xs) ∧
      (∀ (i : Nat) x σ H, xs[i]? = some x → Pv i σ H → g x σ H fun σ2 H2 => tb { D with nx := Pv (i + 1), ct := Pv (i + 1), bk := D.nx } σ2 H2) ∧
      ∀ σ H, Pv xs.length σ H → D.nx σ H
  | _ => False
theorem mforT {a : Expr} {ta : TE} {pos' : Pos} {body : List Stmt} {tg : Expr} {g : TG} {tb : TS} (hp : PassesOwn (model X.prog X.w) X.A X.env X.xe) (hc : X.calm = true)
    (ha : PE X a ta) (hG : PG X tg g) (hb : PSs X body tb) (hf : ∀ x, foldedSetIterable a X.env x = pure x := by intro _; rfl) :
    PS X (.For tg a body [] pos') (mForT X.K ta g tb) := by
  have q := ps_for (pos := pos') hp hc (pi_tup (tg := tg) (mono_pe ha)) hG hb hf
  refine PS.imp ?_ q
  intro D σ H h
  refine ⟨_, h, ?_⟩
  intro v H1 h1
  cases v with
  | ref a =>
    obtain ⟨xs, h2, Pv, p0, pl, ps, pd⟩ := h1
    exact ⟨a, rfl, ⟨xs, h2⟩, for_tup (xs := xs) Pv p0 pl ps pd⟩
  | _ => exact h1.elim
/-- o[i] = e, o a list -/
def mSetI : V → V → V → Hp → (Hp → Prop) → Prop := fun o i v H Q => match o, i with
  | .ref p, .int k => ∃ xs j, H p = some (.lst xs) ∧ ixN xs.length k = some j ∧ Q (upd H p (.lst (xs.set j v)))
  | _, _ => False
theorem setM : PSet X mSetI := by
  intro pins s σ H o i v o' i' v' Q I ro ri rv q
  refine set_list pins s σ H o i v o' i' v' Q I ro ri rv ?_
  cases o <;> cases i <;> first
    | exact q.elim
    | (obtain ⟨xs, j, h1, h2, h3⟩ := q; exact ⟨_, xs, _, j, rfl, rfl, h1, h2, h3⟩)
/-- x += e at a name -/
def mIp : TIp := fun x y H Q => match x, y with
  | .int i, .int j => Q (.int (i + j)) H
  | _, _ => False
theorem ipAdd : PIp X .Add mIp := by
  intro pins s σ H x y v u Q I rx ry q
  refine ip_add pins s σ H x y v u Q I rx ry ?_
  cases x <;> cases y <;> first
    | exact q.elim
    | exact ⟨_, _, rfl, rfl, q⟩
def mAug (i : Nat) (te : TE) (ti : TIp) : TS := fun D σ H => match σ[i]? with
  | some (some x) => te σ H fun y H1 => ti x y H1 fun z H2 => D.nx (σ.set i (some z)) H2
  | _ => False
theorem maug {i : Nat} {x : Str} {e : Expr} {te : TE} {op : Operator} {ti : TIp} {pos pos' : Pos} (hN : X.N.Nodup) (hi : X.N[i]? = some x) (hx : Loc X.env.scope x) (he : PE X e te) (ho : PIp X op ti)
    (hf : X.fn x = true ∨ X.env.scope.names.lookup x = some .local := by first | exact .inl rfl | exact .inr rfl | assumption) : PS X (.AugAssign (.Name x pos') op e pos) (mAug i te ti) := by
  refine PS.imp ?_ (ps_aug hN hi hx he ho hf)
  intro D σ H h
  unfold mAug at h
  split at h
  · rename_i v e
    exact ⟨v, e, h⟩
  · exact h.elim
/-- xs.append(e) -/
def mApp (to ta : TE) : TS := fun D σ H => to σ H fun x H1 => match x with
  | .ref l => (∃ xs, H1 l = some (.lst xs)) ∧ ta σ H1 fun y H2 => ∃ xs, H2 l = some (.lst xs) ∧ xs.length < sizeLine ∧ D.nx σ (upd H2 l (.lst (xs ++ [y])))
  | _ => False
end
end T3
namespace T3
open PySem PySem.Spec PyProof.Rows L2
section
variable {X : Cx}
/-! ### the module's constants -/
def GS (mg : Str → Option Value) (x z : Str) : Prop := ∃ t, mg x = some (.str z t)
def GT (K : PySem.W.Frag) (mg : Str → Option Value) (x : Str) (xs : List V) : Prop := ∃ p, mg x = some (.ref p) ∧ ∀ H, SqT K H p xs
theorem pe_gs {x z : Str} {pos : Pos} (hg : Gl X x) (h : GS X.mg x z) (hd : (x == ("__debug__" : Str)) = false := by decide) : PE X (.Name x pos) (tC (.str z)) := by
  obtain ⟨t, h⟩ := h
  exact pe_glob hg h ⟨t, rfl⟩ hd
def mGT (K : PySem.W.Frag) (xs : List V) : TE := fun _ H Q => ∀ p, (∀ H, SqT K H p xs) → Q (.ref p) H
theorem pe_gt {x : Str} {xs : List V} {pos : Pos} (hg : Gl X x) (h : GT X.K X.mg x xs) (hd : (x == ("__debug__" : Str)) = false := by decide) : PE X (.Name x pos) (mGT X.K xs) := by
  obtain ⟨p, h, hp⟩ := h
  exact PE.imp (fun σ H Q q => q p hp) (pe_glob hg h rfl hd)

/-! ### defs that are called -/
/-- the def of this name keeps this promise -/
def Cal (P : Program) (w : World) (K : PySem.W.Frag) (mg : Str → Option Value) (base : Heap) (x : Str) (k : Nat) (ps : List Str) (sp : Sp) : Prop :=
  ∃ (f : Addr) (fd : FuncData), FnOk P w K mg base CX0 k f fd ps sp ∧ mg x = some (.ref f) ∧ PySem.W.keepIn K (.ref f) = true ∧ Binds K fd ps []
def CalG (P : Program) (w : World) (K : PySem.W.Frag) (mg : Str → Option Value) (base : Heap) (x : Str) (k : Nat) (ps : List Str) (sp : Sp) : Prop :=
  ∃ (f : Addr) (fd : FuncData), FnG P w K mg base CX0 k f fd ps sp ∧ mg x = some (.ref f) ∧ PySem.W.keepIn K (.ref f) = true ∧ Binds K fd ps []
def CalK (P : Program) (w : World) (K : PySem.W.Frag) (mg : Str → Option Value) (base : Heap) (x : Str) (k : Nat) (ps : List Str) (sp : Sp) : Prop :=
  ∃ (f : Addr) (fd : FuncData), FnOk P w K mg base CX0 k f fd ps sp ∧ mg x = some (.ref f) ∧ PySem.W.keepIn K (.ref f) = true ∧
    KBinds K fd ps ps (fun us ws => us ++ ws) (fun us ws => us ++ ws)
def mCall (sp : Sp) (t : TA) : TE := fun σ H Q => t σ H fun vs H1 => sp vs H1 Q E0
theorem mono_pa {es : List Expr} {t : TA} (h : PA X es t) : PA X es (fun σ H Q => ∃ Q0 : List V → Hp → Prop, t σ H Q0 ∧ ∀ v H', Q0 v H' → Q v H') := by
  constructor
  rintro pos pins s σ H Q I ⟨Q0, q, i⟩
  refine thn (h.run pos pins s σ H Q0 I q) ?_
  rintro b s' ⟨v, H', I', r, q'⟩
  exact ⟨v, H', I', r, i v H' q'⟩
theorem pe_cal {x : Str} {k : Nat} {ps : List Str} {sp : Sp} {p pos : Pos} {e : Expr} {es : List Expr} {t : TA} (C : Cal X.prog X.w X.K X.mg X.base x k ps sp) (hr : Room k X.A) (hg : Gl X x) (ha : PA X (e :: es) t)
    (hdb : (x == ("__debug__" : Str)) = false := by decide) (he : starEach (e :: es) X.env = (false, eval e X.env) :: starEach es X.env := by rfl) (hpl : (backTo pos (starEach es X.env)).any (·.1) = false := by rfl) :
    PE X (.Call (.Name x p) (e :: es) [] pos) (mCall sp t) := by
  obtain ⟨f, fd, F, g, kp, b⟩ := C
  refine PE.imp ?_ (pe_call F hr hg g kp b .nil pass0 (mono_pa ha) hdb he hpl)
  intro σ H Q h
  refine ⟨_, h, fun v H' q => ?_⟩
  show sp (v ++ []) H' Q E0
  rw [List.append_nil]
  exact q
theorem pe_calG {x : Str} {k : Nat} {ps : List Str} {sp : Sp} {p pos : Pos} {e : Expr} {es : List Expr} {t : TA} (C : CalG X.prog X.w X.K X.mg X.base x k ps sp) (hG : X.A.guards = some []) (hr : Room k X.A) (hg : Gl X x) (ha : PA X (e :: es) t)
    (hdb : (x == ("__debug__" : Str)) = false := by decide) (he : starEach (e :: es) X.env = (false, eval e X.env) :: starEach es X.env := by rfl) (hpl : (backTo pos (starEach es X.env)).any (·.1) = false := by rfl) :
    PE X (.Call (.Name x p) (e :: es) [] pos) (mCall sp t) := by
  obtain ⟨f, fd, F, g, kp, b⟩ := C
  refine PE.imp ?_ (pe_callG F hG hr hg g kp b .nil pass0 (mono_pa ha) hdb he hpl)
  intro σ H Q h
  refine ⟨_, h, fun v H' q => ?_⟩
  show sp (v ++ []) H' Q E0
  rw [List.append_nil]
  exact q
theorem mono_pk {es : List Keyword} {t : TA} (h : PK X es t) : PK X es (fun σ H Q => ∃ Q0 : List V → Hp → Prop, t σ H Q0 ∧ ∀ v H', Q0 v H' → Q v H') := by
  constructor
  rintro pos pins s σ H Q I ⟨Q0, q, i⟩
  refine thn (h.run pos pins s σ H Q0 I q) ?_
  rintro b s' ⟨v, H', I', r, q'⟩
  exact ⟨v, H', I', r, i v H' q'⟩
theorem pe_calK {x : Str} {k : Nat} {ps : List Str} {sp : Sp} {p pos : Pos} {kws : List Keyword} {t : TA} (C : CalK X.prog X.w X.K X.mg X.base x k ps sp) (hr : Room k X.A) (hg : Gl X x) (ha : PK X kws t)
    (hall : (backToKw pos (keywordEach kws X.env)).all (·.1.isSome) = true := by rfl)
    (hks : (backToKw pos (keywordEach kws X.env)).filterMap (·.1) = ps := by rfl)
    (hdb : (x == ("__debug__" : Str)) = false := by decide)
    (hpl : ((backTo pos (starEach [] X.env)).any (·.1) || (backToKw pos (keywordEach kws X.env)).any (·.1.isNone)) = false := by rfl) :
    PE X (.Call (.Name x p) [] kws pos) (mCall sp t) := by
  obtain ⟨f, fd, F, g, kp, b⟩ := C
  exact PE.imp (fun σ H Q h => ⟨_, h, fun v H' q => q⟩) (pe_callK0 F hr hg g kp b pass0 (mono_pk ha) hall hks hdb hpl)
theorem kbinds1 {K : PySem.W.Frag} {x qual y : Str} {st : Stmt} {f : Addr} {fd : FuncData} (F : Fun K x qual st f fd)
    (h1 : ∀ (kV doc pm : Value) (an : Option Addr) (cdv ct u : Value), bindArgs (PySem.W.fnOf x qual (defArgs st) (defBody st) (defScope st) .none kV doc pm an cdv ct) ⟨[u], []⟩ = pure [(y, u)])
    (h2 : ∀ (kV doc pm : Value) (an : Option Addr) (cdv ct u : Value), bindArgs (PySem.W.fnOf x qual (defArgs st) (defBody st) (defScope st) .none kV doc pm an cdv ct) ⟨[], [(y, u)]⟩ = pure [(y, u)]) :
    KBinds K fd [y] [y] (fun us ws => us ++ ws) (fun us ws => us ++ ws) := by
  obtain ⟨oc, od, kV, doc, pm, an, cdv, ct, osl, rfl, lk, hcd⟩ := F.ex
  constructor
  · intro s us ws hk hl
    match us, ws, hl with
    | [], [v], _ => exact .of_eq (h2 kV doc pm an cdv ct v)
    | [u], [], _ => exact .of_eq (h1 kV doc pm an cdv ct u)
    | [], [], hl => exact absurd hl (by simp)
    | _ :: _ :: _, _, hl => exact absurd hl (by simp)
    | [_], _ :: _, hl => exact absurd hl (by simp)
    | [], _ :: _ :: _, hl => exact absurd hl (by simp)
  · intro vs us zs ws r rz
    exact r.append rz

/-! ### and, or -/
theorem PW.imp {e : Expr} {t t' : TT} (i : ∀ σ H Q, t' σ H Q → t σ H Q) (h : PW X e t) : PW X e t' :=
  ⟨fun wh pins s σ H Q I q => h.run wh pins s σ H Q I (i σ H Q q)⟩
def mAnd (t u : TT) : TT := fun σ H Q => t σ H fun c H1 => (c = true → u σ H1 Q) ∧ (c = false → Q false H1)
theorem mand {a b : Expr} {rest : List Expr} {pos : Pos} {tA tB : TT} (ha : PT X a tA) (hb : PW X (.BoolOp .And (b :: rest) pos) tB) : PW X (.BoolOp .And (a :: b :: rest) pos) (mAnd tA tB) := by
  refine PW.imp ?_ (pw_and (PT.close ha) hb)
  intro σ H Q h
  refine ⟨_, h, ?_⟩
  intro b H' q
  cases b with
  | true => exact iteT (q.1 rfl)
  | false => exact iteF (q.2 rfl)
def mOr (t u : TT) : TT := fun σ H Q => t σ H fun c H1 => (c = true → Q true H1) ∧ (c = false → u σ H1 Q)
theorem mor {a b : Expr} {rest : List Expr} {pos : Pos} {tA tB : TT} (ha : PT X a tA) (hb : PW X (.BoolOp .Or (b :: rest) pos) tB) : PW X (.BoolOp .Or (a :: b :: rest) pos) (mOr tA tB) := by
  refine PW.imp ?_ (pw_or (PT.close ha) hb)
  intro σ H Q h
  refine ⟨_, h, ?_⟩
  intro b H' q
  cases b with
  | true => exact iteT (q.1 rfl)
  | false => exact iteF (q.2 rfl)
def mAndV (ta tb : TE) : TE := fun σ H Q => ta σ H fun x H1 => match x with
  | .bl c => (c = true → tb σ H1 Q) ∧ (c = false → Q (.bl false) H1)
  | _ => False
theorem mandV {a b : Expr} {rest : List Expr} {pos : Pos} {ta tb : TE} (ha : PE X a ta) (hb : PE X (.BoolOp .And (b :: rest) pos) tb) : PE X (.BoolOp .And (a :: b :: rest) pos) (mAndV ta tb) := by
  refine PE.imp ?_ (pe_and (mono_pe ha) hb)
  intro σ H Q h
  refine ⟨_, h, ?_⟩
  intro v H' q
  cases v with
  | bl c =>
    refine ⟨c, rfl, ?_⟩
    cases c with
    | true => exact iteT (q.1 rfl)
    | false => exact iteF (q.2 rfl)
  | _ => exact q.elim

/-! ### e if c else f -/
def mIfE (c : TT) (ta tb : TE) : TE := fun σ H Q => c σ H fun b H1 => (b = true → ta σ H1 Q) ∧ (b = false → tb σ H1 Q)
theorem mifE {c a b : Expr} {tc : TT} {ta tb : TE} {pos : Pos} (hc : PT X c tc) (ha : PE X a ta) (hb : PE X b tb) : PE X (.IfExp c a b pos) (mIfE tc ta tb) := by
  refine PE.imp ?_ (pe_ifExp (PT.close hc) ha hb)
  intro σ H Q h
  refine ⟨_, h, ?_⟩
  intro b H' q
  cases b with
  | true => exact iteT (q.1 rfl)
  | false => exact iteF (q.2 rfl)
theorem unNeg : UnR X (unaryOp .USub) (fun x H Q => match x with | .int i => Q (.int (-i)) H | _ => False) := by
  intro pins s σ H x v Q I rx h
  refine un_neg pins s σ H x v Q I rx ?_
  cases x <;> first
    | exact h.elim
    | exact ⟨_, rfl, h⟩
theorem mapp {o e : Expr} {to ta : TE} {apos cpos pos : Pos} (ho : PE X o to) (ha : PE X e ta)
    (hbase : attributeBase o "append" X.env (eval o X.env) = eval o X.env := by rfl)
    (hfew : ((backTo cpos (starEach [e] X.env)).all (fun x => !x.1) && (backToKw cpos (keywordEach [] X.env)).all (fun x => x.1.isSome)
      && decide (([e] : List Expr).length + ([] : List Keyword).length + (if ([] : List Keyword).isEmpty then 0 else 1) < 30)) = true := by rfl)
    (hline : (apos.endLine == cpos.line) = true := by rfl) (hs : starEach [e] X.env = (false, eval e X.env) :: starEach [] X.env := by rfl)
    (hplain : (backTo cpos (starEach [] X.env)).any (·.1) = false := by rfl)
    (hsw : swapsWith (.Call (.Attribute o "append" apos) [e] [] cpos) none pos.line X.env = pure false := by rfl) :
    PS X (.Expr (.Call (.Attribute o "append" apos) [e] [] cpos) pos) (mApp to ta) := by
  refine PS.imp ?_ (ps_expr (pos := pos) (pe_bm PySem.F.plainAttrs_list PySem.F.slot_list_append PySem.F.type_list_append mt_append (mono_pe ho) (pa_cons (mono_pe ha) pa_nil hs) hbase hfew hline hs hplain) hsw)
  intro D σ H h
  refine ⟨_, h, ?_⟩
  intro v H1 h1
  cases v with
  | ref l =>
    obtain ⟨⟨xs, hx⟩, h2⟩ := h1
    refine ⟨.inl ⟨rfl, xs, SqL.of hx⟩, _, h2, ?_⟩
    rintro y H2 ⟨ys, e1, e2, q⟩
    exact ⟨l, ys, y, rfl, rfl, e1, e2, q⟩
  | _ => exact h1.elim
end
end T3
/-! data that never changes (Tp), comprehensions over lists -/
namespace T3
open PySem PySem.Spec PyProof.Rows L2
mutual
/-- None, bools, ints, texts, tuples of these -/
inductive Tp (H : Hp) : V → PyData → Prop
  | non : Tp H .non .none
  | bl (b : Bool) : Tp H (.bl b) (.bool b)
  | int (i : Int) : Tp H (.int i) (.int i)
  | str (x : Str) : Tp H (.str x) (.str x)
  | tup {a : Addr} {xs : List V} {ds : List PyData} : H a = some (.tup xs) → TpAll H xs ds → Tp H (.ref a) (.tuple ds)
inductive TpAll (H : Hp) : List V → List PyData → Prop
  | nil : TpAll H [] []
  | cons {v : V} {vs : List V} {d : PyData} {ds : List PyData} : Tp H v d → TpAll H vs ds → TpAll H (v :: vs) (d :: ds)
end
/-- tuples stay -/
def Ktp (H H' : Hp) : Prop := ∀ a xs, H a = some (.tup xs) → H' a = some (.tup xs)
theorem Ktp.refl (H : Hp) : Ktp H H := fun _ _ e => e
theorem Ktp.trans {H H1 H2 : Hp} (a : Ktp H H1) (b : Ktp H1 H2) : Ktp H H2 := fun x xs e => b x xs (a x xs e)
theorem Ktp.new {H : Hp} {p : Addr} {o : HO} (h : H p = none) : Ktp H (upd H p o) := fun a xs e => by
  rw [upd_ne (ne_of_none e h)]
  exact e
theorem Ktp.lst {H : Hp} {p : Addr} {ys zs : List V} (h : H p = some (.lst ys)) : Ktp H (upd H p (.lst zs)) := fun a xs e => by
  rw [upd_ne (ne_of e h (fun z => nomatch z))]
  exact e
theorem Ktp.same {H H' : Hp} (h : Same H H') : Ktp H H' := fun a xs e => h a _ e
mutual
theorem Tp.keep {H H' : Hp} (k : Ktp H H') : ∀ {v : V} {d : PyData}, Tp H v d → Tp H' v d
  | _, _, .non => .non
  | _, _, .bl b => .bl b
  | _, _, .int i => .int i
  | _, _, .str x => .str x
  | _, _, .tup h t => .tup (k _ _ h) (TpAll.keep k t)
theorem TpAll.keep {H H' : Hp} (k : Ktp H H') : ∀ {v : List V} {d : List PyData}, TpAll H v d → TpAll H' v d
  | _, _, .nil => .nil
  | _, _, .cons h t => .cons (Tp.keep k h) (TpAll.keep k t)
end
mutual
theorem Tp.dp {K : PySem.W.Frag} {H : Hp} : ∀ {v : V} {d : PyData}, Tp H v d → Dp K H v d
  | _, _, .non => .non
  | _, _, .bl b => .bl b
  | _, _, .int i => .int i
  | _, _, .str x => .str x
  | _, _, .tup h t => .tup (SqT.of h) (TpAll.dp t)
theorem TpAll.dp {K : PySem.W.Frag} {H : Hp} : ∀ {v : List V} {d : List PyData}, TpAll H v d → DpAll K H v d
  | _, _, .nil => .nil
  | _, _, .cons h t => .cons (Tp.dp h) (TpAll.dp t)
end
theorem TpAll.length {H : Hp} : ∀ {v : List V} {d : List PyData}, TpAll H v d → v.length = d.length
  | _, _, .nil => rfl
  | _, _, .cons _ t => by
    rw [List.length_cons, List.length_cons, t.length]
theorem TpAll.snoc {H : Hp} : ∀ {v : List V} {d : List PyData} {x : V} {e : PyData}, TpAll H v d → Tp H x e → TpAll H (v ++ [x]) (d ++ [e])
  | _, _, _, _, .nil, h => .cons h .nil
  | _, _, _, _, .cons a t, h => .cons a (TpAll.snoc t h)
theorem TpAll.get {H : Hp} : ∀ {v : List V} {d : List PyData} {i : Nat} {x : V}, TpAll H v d → v[i]? = some x → ∃ e, d[i]? = some e ∧ Tp H x e
  | _, _, _, _, .nil, h => by simp at h
  | _, _, 0, _, .cons a t, h => by
    simp at h
    subst h
    exact ⟨_, rfl, a⟩
  | _, _, i + 1, _, .cons a t, h => by
    obtain ⟨e, h1, h2⟩ := TpAll.get (i := i) t (by simpa using h)
    exact ⟨e, by simpa using h1, h2⟩
theorem TpAll.getD {H : Hp} : ∀ {v : List V} {d : List PyData} {i : Nat} {e : PyData}, TpAll H v d → d[i]? = some e → ∃ x, v[i]? = some x ∧ Tp H x e
  | _, _, _, _, .nil, h => by simp at h
  | _, _, 0, _, .cons a t, h => by
    simp at h
    subst h
    exact ⟨_, rfl, a⟩
  | _, _, i + 1, _, .cons a t, h => by
    obtain ⟨e, h1, h2⟩ := TpAll.getD (i := i) t (by simpa using h)
    exact ⟨e, by simpa using h1, h2⟩
/-- a pair -/
theorem Tp.two {H : Hp} {v : V} {d e : PyData} (h : Tp H v (.tuple [d, e])) : ∃ a x y, v = .ref a ∧ H a = some (.tup [x, y]) ∧ Tp H x d ∧ Tp H y e := by
  cases h with
  | tup ha t =>
    cases t with
    | cons t1 t2 =>
      cases t2 with
      | cons t3 t4 =>
        cases t4
        exact ⟨_, _, _, rfl, ha, t1, t3⟩
theorem Tp.int_eq {H : Hp} {v : V} {i : Int} (h : Tp H v (.int i)) : v = .int i := by
  cases h
  rfl
theorem Tp.str_eq {H : Hp} {v : V} {i : Str} (h : Tp H v (.str i)) : v = .str i := by
  cases h
  rfl

section
variable {X : Cx}
/-- [e for .. in a list that stays] -/
def mLc (K : PySem.W.Frag) (te : TE) (g : TG) (el : TE) (vs : List Nat) : TE := fun σ H Q => te σ H fun x H1 => match x with
  | .ref a => ∃ xs, SqL K H1 a xs ∧ ∀ D, H1 D = none → ∃ Pv : Nat → Hp → Prop, Pv 0 (upd H1 D (.lst [])) ∧ (∀ i H, i ≤ xs.length → Pv i H → SqL K H a xs) ∧
      (∀ i x H, xs[i]? = some x → Pv i H → g x (wipe σ vs) H fun σ2 H2 => wipe σ2 vs = wipe σ vs ∧ el σ2 H2 fun y H3 =>
        ∃ acc, H3 D = some (.lst acc) ∧ acc.length < sizeLine ∧ Pv (i + 1) (upd H3 D (.lst (acc ++ [y])))) ∧ ∀ H, Pv xs.length H → Q (.ref D) H
  | _ => False
theorem mlc {elt tg iter : Expr} {scope : Scope} {own : List (Str × Nat)} {pos : Pos} {g : TG} {te el : TE} (hc : X.calm = true) (hN : X.N.Nodup) (hi : PE X iter te) (ok : BlkOk X.N X.env.scope scope own)
    (hg : ∀ (s : Shared) (H : Hp) (C : Addr) (cl : List (Str × Addr)) (fp : List Addr), PG (X.blk s H scope (compEnvC scope cl C X.env) fp) tg g)
    (he : ∀ (s : Shared) (H : Hp) (C : Addr) (cl : List (Str × Addr)) (fp : List Addr), PE (X.blk s H scope (compEnvC scope cl C X.env) fp) elt el)
    (hs : ∀ x, foldedSetIterable iter X.env x = pure x := by intro _; rfl) : PE X (.ListComp elt [⟨tg, iter, [], 0⟩] scope pos) (mLc X.K te g el (own.map (·.2))) := by
  refine PE.imp ?_ (pe_lc hc hN (pi_list (mono_pe hi)) ok hg (fun _ _ _ _ _ => pts_nil) he hs)
  intro σ H Q h
  refine ⟨_, h, ?_⟩
  intro v H1 h1
  cases v with
  | ref a =>
    obtain ⟨xs, h2, h3⟩ := h1
    refine ⟨a, rfl, ⟨xs, h2⟩, fun D hD => ?_⟩
    obtain ⟨Pv, p0, pl, ps, pd⟩ := h3 D hD
    exact lc_list (xs := xs) Pv p0 pl ps pd
  | _ => exact h1.elim
end
end T3
namespace T3
open PySem PySem.Spec PyProof.Rows L2
section
variable {X : Cx} {t u : TS} {st : Stmt} {rest : List Stmt}
/-- a statement and the rest, what stands between them told once -/
def mCut (t u : TS) : TS := fun D σ H => ∃ M : L2.St → Hp → Prop, t { D with nx := M } σ H ∧ ∀ σ' H', M σ' H' → u D σ' H'
theorem mcut (h1 : PS X st t) (h2 : PSs X rest u) : PSs X (st :: rest) (mCut t u) := by
  constructor
  rintro pins s σ H D I ⟨M, hm, hu⟩
  refine wpAny_execs_cons (thn (h1.run pins s σ H { D with nx := M } I hm) ?_)
  intro f s1 q
  cases f with
  | next =>
    obtain ⟨σ', H', I', q'⟩ := q
    exact h2.run pins s1 σ' H' D I' (hu σ' H' q')
  | ret v => exact q
  | brk => exact q
  | cont => exact q
end
end T3
/-! data that is shown and compared -/
namespace T3
open PySem PySem.Spec PyProof.Rows L2
structure Gd (D B : Nat) (d : PyData) : Prop where
  sh : d.showable = true
  cl : d.canLay0 = true
  dp : d.depth ≤ D
  ln : d.shown.length ≤ B
theorem gd_all {D B : Nat} : ∀ {ds : List PyData}, (∀ d ∈ ds, Gd D B d) → PyData.showableAll ds = true ∧ PyData.canLayAll0 ds = true ∧ PyData.depthAll ds ≤ D ∧
    ((PyData.shownAll ds).map (·.length)).sum ≤ B * ds.length ∧ (PyData.shownAll ds).length = ds.length
  | [], _ => ⟨rfl, rfl, Nat.zero_le _, Nat.zero_le _, rfl⟩
  | d :: ds, h => by
    obtain ⟨a, b, c, e, f⟩ := gd_all (ds := ds) fun x hx => h x (List.mem_cons_of_mem _ hx)
    have g := h d List.mem_cons_self
    refine ⟨?_, ?_, ?_, ?_, ?_⟩
    · simp only [PyData.showableAll, g.sh, a, Bool.and_self]
    · simp only [PyData.canLayAll0, g.cl, b, Bool.and_self]
    · simp only [PyData.depthAll]
      exact Nat.max_le.mpr ⟨g.dp, c⟩
    · simp only [PyData.shownAll, List.map_cons, List.sum_cons, List.length_cons]
      have := g.ln
      rw [Nat.mul_add, Nat.mul_one]
      omega
    · simp only [PyData.shownAll, List.length_cons, f]
theorem gd_tup {D B n C : Nat} {ds : List PyData} (h : ∀ d ∈ ds, Gd D B d) (hn : ds.length ≤ n) (hC : B * n + 2 * n + 3 ≤ C) : Gd (D + 1) C (.tuple ds) := by
  obtain ⟨a, b, c, e, f⟩ := gd_all h
  refine ⟨?_, ?_, ?_, ?_⟩
  · simpa only [PyData.showable] using a
  · simpa only [PyData.canLay0] using b
  · simp only [PyData.depth]
    omega
  · simp only [PyData.shown]
    have h1 := tupleText_len_le (PyData.shownAll ds)
    rw [f] at h1
    have h2 : B * ds.length ≤ B * n := Nat.mul_le_mul_left _ hn
    omega
theorem gd_str {n : Nat} {x : Str} (h1 : x.length ≤ n) (h2 : ∀ c ∈ x.cps.toList, c < 128) : Gd 0 (10 * n + 2) (.str x) := by
  refine ⟨rfl, ?_, Nat.le_refl _, ?_⟩
  · simp only [PyData.canLay0, PyData.strOk]
    rw [← Array.all_toList, List.all_eq_true]
    intro c hc
    exact decide_eq_true (Nat.lt_of_lt_of_le (h2 c hc) (by decide))
  · simp only [PyData.shown]
    have := StrLaws.reprText_len x fun c hc => Nat.lt_of_lt_of_le (h2 c hc) (by decide)
    omega
theorem Gd.repr {D B : Nat} {d : PyData} (g : Gd D B d) (hD : D ≤ 100) (hB : B ≤ 1000000) : d.showable = true ∧ d.hasDict = false ∧ d.depth ≤ 100 ∧ d.shown.length ≤ sizeLine :=
  ⟨g.sh, PyData.hasDict_of_canLay d g.cl, Nat.le_trans g.dp hD, Nat.le_trans (Nat.le_trans g.ln hB) (by decide)⟩
theorem Gd.shaped {D B : Nat} {d : PyData} (g : Gd D B d) (hD : D ≤ 64) : SeqAt.shaped d = true := by
  unfold SeqAt.shaped
  rw [g.cl, decide_eq_true (Nat.le_trans g.dp hD)]
  rfl
theorem Gd.eqv {D B : Nat} {d : PyData} (g : Gd D B d) : PyData.eqv d d = true := SeqAt.eqv_refl d g.cl
end T3
set_option maxHeartbeats 2000000
/-! list(zip(a, b)) of two tuples -/
namespace T5
open PySem PySem.W PySem.Calls PyProof.Rows PyProof.V PySem.Spec
section
variable {prog : Program} {w : World} {A : Around} {E : Value → Shared → Prop} {s : Shared}
theorem next_item_held {z TI TO T i1 i2 l1 l2 : Addr} {f : Bool} {oT : Obj} {k1 k2 : Nat} {xs ys : Array Value} {x y : Value} {Q : Value → Shared → Prop} (D : ZipApart z TI TO i1 i2 l1 l2)
    (hz : IsZipHeld s.heap z TI TO T f) (hT : s.heap.get? T = some oT) (hTI : IsPair s.heap TI (.ref i1) (.ref i2))
    (h1 : s.heap.IsTupleIter i1 l1 k1) (h2 : s.heap.IsTupleIter i2 l2 k2) (hl1 : s.heap.IsTuple l1 xs) (hl2 : s.heap.IsTuple l2 ys) (hx : xs[k1]? = some x) (hy : ys[k2]? = some y)
    (hQ : ∀ h', IsZipHeld h' z TI TO T true → h'.IsTupleIter i1 l1 (k1 + 1) → h'.IsTupleIter i2 l2 (k2 + 1) → IsPair h' s.heap.objs.size x y → h'.objs.size = s.heap.objs.size + 1 →
      (∀ c o, c ≠ z → c ≠ i1 → c ≠ i2 → s.heap.get? c = some o → h'.get? c = some o) → Q (.ref s.heap.objs.size) { s with heap := h' }) :
    wpAny (model prog w) A (Builtin.«zip.__next__» ⟨[.ref z], []⟩) (fun fin s' => ∃ v, fin = .done (.ret v) ∧ Q v s') E s := by
  show wpAny _ _ (field (.ref z) 2 >>= _) _ _ _
  refine wpAny_bind (wpAny_field hz rfl (x := .bool false) rfl ?_)
  show wpAny _ _ (field (.ref z) 3 >>= _) _ _ _
  refine wpAny_bind (wpAny_field hz rfl (x := .ref TI) rfl ?_)
  refine wpAny_bind (wpAny_seqItems hTI rfl ?_)
  show wpAny _ _ (Builtin.SmallTypes.ownedTupleIsFree (.ref z) >>= _) _ _ _
  refine wpAny_bind (wpAny_tupleHeld_zip hz hT fun h₁ hz₁ hs₁ => ?_)
  simp only [Bool.false_eq_true, if_false]
  refine wpAny_bind ?_
  rw [← Array.forIn_toList]
  simp only [List.forIn_cons, List.forIn_nil]
  refine wpAny_bind (wpAny_bind (wpAny_holding ?_))
  show wpAny _ _ (Builtin.SmallTypes.nextOf (.ref i1) >>= _) _ _ _
  refine wpAny_bind (RZ.nextOf_tuple_item (s := { s with heap := h₁ }) (h1.extBut hs₁.extBut D.i1z) (hl1.extBut hs₁.extBut D.l1z) hx fun h₂ h1₂ hs₂ => wpAny_pure ?_)
  refine wpAny_pure ?_
  refine wpAny_bind (wpAny_bind (wpAny_holding ?_))
  show wpAny _ _ (Builtin.SmallTypes.nextOf (.ref i2) >>= _) _ _ _
  refine wpAny_bind (RZ.nextOf_tuple_item (s := { s with heap := h₂ }) ((h2.extBut hs₁.extBut D.i2z).extBut hs₂.extBut D.i12.symm) ((hl2.extBut hs₁.extBut D.l2z).extBut hs₂.extBut D.l2i1) hy fun h₃ h2₃ hs₃ => wpAny_pure ?_)
  refine wpAny_pure (wpAny_pure ?_)
  show wpAny _ _ (newTuple [x, y] >>= _) _ _ _
  refine wpAny_bind (wpAny_newTuple ?_)
  have hsz : h₃.objs.size = s.heap.objs.size := by rw [hs₃.1, hs₂.1, hs₁.1]
  have hz₃ : IsZipHeld h₃ z TI TO T true := hs₃.extBut _ _ D.i2z.symm (hs₂.extBut _ _ D.i1z.symm hz₁)
  have hk : ∀ c o, c ≠ z → c ≠ i1 → c ≠ i2 → s.heap.get? c = some o → h₃.get? c = some o := fun c o c1 c2 c3 e => hs₃.extBut _ _ c3 (hs₂.extBut _ _ c2 (hs₁.extBut _ _ c1 e))
  have h1₃ : h₃.IsTupleIter i1 l1 (k1 + 1) := h1₂.extBut hs₃.extBut D.i12
  refine wpAny_pure ⟨_, rfl, ?_⟩
  show Q (.ref h₃.objs.size) _
  have hp : IsPair (h₃.push { cls := .type "tuple", data := .seq #[x, y] }) h₃.objs.size x y := Heap.get?_push_size _ rfl
  have hz4 : (h₃.push { cls := .type "tuple", data := .seq #[x, y] }).objs.size = h₃.objs.size + 1 := Heap.size_push ..
  rw [hsz] at hp hz4 ⊢
  exact hQ _ (Heap.get?_push_of_some _ hz₃) (h1₃.at fun o e => Heap.get?_push_of_some _ e) (h2₃.at fun o e => Heap.get?_push_of_some _ e) hp hz4 fun c o c1 c2 c3 e => Heap.get?_push_of_some _ (hk c o c1 c2 c3 e)

theorem next_end_held {z TI TO T i1 i2 l1 l2 : Addr} {f : Bool} {oT : Obj} {k1 : Nat} {xs : Array Value} {Q : Fin → Shared → Prop} (hh : A.handled = none) (D : ZipApart z TI TO i1 i2 l1 l2)
    (hz : IsZipHeld s.heap z TI TO T f) (hT : s.heap.get? T = some oT) (hTI : IsPair s.heap TI (.ref i1) (.ref i2))
    (h1 : s.heap.IsTupleIter i1 l1 k1) (hl1 : s.heap.IsTuple l1 xs) (hx : xs[k1]? = none)
    (hE : ∀ h' e, (∀ c o, c ≠ z → c ≠ i1 → s.heap.get? c = some o → h'.get? c = some o) → (∃ o, h'.get? e = some o ∧ o.cls = .type "StopIteration") → E (.ref e) { s with heap := h' }) :
    wpAny (model prog w) A (Builtin.«zip.__next__» ⟨[.ref z], []⟩) Q E s := by
  show wpAny _ _ (field (.ref z) 2 >>= _) _ _ _
  refine wpAny_bind (wpAny_field hz rfl (x := .bool false) rfl ?_)
  show wpAny _ _ (field (.ref z) 3 >>= _) _ _ _
  refine wpAny_bind (wpAny_field hz rfl (x := .ref TI) rfl ?_)
  refine wpAny_bind (wpAny_seqItems hTI rfl ?_)
  show wpAny _ _ (Builtin.SmallTypes.ownedTupleIsFree (.ref z) >>= _) _ _ _
  refine wpAny_bind (wpAny_tupleHeld_zip hz hT fun h₁ hz₁ hs₁ => ?_)
  simp only [Bool.false_eq_true, if_false]
  refine wpAny_bind ?_
  rw [← Array.forIn_toList]
  simp only [List.forIn_cons, List.forIn_nil]
  refine wpAny_bind (wpAny_bind (wpAny_holding ?_))
  show wpAny _ _ (Builtin.SmallTypes.nextOf (.ref i1) >>= _) _ _ _
  refine wpAny_bind (RZ.nextOf_tuple_end (s := { s with heap := h₁ }) hh (h1.extBut hs₁.extBut D.i1z) (hl1.extBut hs₁.extBut D.l1z) hx fun h₂ e hs₂ he => ?_)
  exact hE h₂ e (fun c o c1 c2 x => hs₂ _ _ c2 (hs₁.extBut _ _ c1 x)) he

structure ZS (h : Heap) (z TI TO i1 i2 l1 l2 S : Addr) (xs ys : Array Value) (k : Nat) : Prop where
  pTI : IsPair h TI (.ref i1) (.ref i2)
  p1 : h.IsTupleIter i1 l1 k
  p2 : h.IsTupleIter i2 l2 k
  t1 : h.IsTuple l1 xs
  t2 : h.IsTuple l2 ys
  st : (IsZip h z TI TO .none ∧ ∃ a b, IsPair h TO a b) ∨ ∃ T f oT, IsZipHeld h z TI TO T f ∧ h.get? T = some oT ∧ T ≠ z ∧ T ≠ i1 ∧ T ≠ i2 ∧ T ≠ S
structure Ofs (z TI TO i1 i2 l1 l2 S : Addr) : Prop where
  z : z ≠ S
  TI : TI ≠ S
  TO : TO ≠ S
  i1 : i1 ≠ S
  i2 : i2 ≠ S
  l1 : l1 ≠ S
  l2 : l2 ≠ S
theorem ZS.keep {h h' : Heap} {z TI TO i1 i2 l1 l2 S : Addr} {xs ys : Array Value} {k : Nat} (q : ZS h z TI TO i1 i2 l1 l2 S xs ys k) (O : Ofs z TI TO i1 i2 l1 l2 S) (hk : ∀ b o, b ≠ S → h.get? b = some o → h'.get? b = some o) :
    ZS h' z TI TO i1 i2 l1 l2 S xs ys k := by
  refine ⟨hk _ _ O.TI q.pTI, q.p1.at fun o e => hk _ o O.i1 e, q.p2.at fun o e => hk _ o O.i2 e, let ⟨o, ho, r⟩ := q.t1; ⟨o, hk _ _ O.l1 ho, r⟩, let ⟨o, ho, r⟩ := q.t2; ⟨o, hk _ _ O.l2 ho, r⟩, ?_⟩
  rcases q.st with ⟨hz, a, b, hTO⟩ | ⟨T, f, oT, hz, hT, r1, r2, r3, r4⟩
  · exact .inl ⟨hk _ _ O.z hz, a, b, hk _ _ O.TO hTO⟩
  · exact .inr ⟨T, f, oT, hk _ _ O.z hz, hk _ _ r4 hT, r1, r2, r3, r4⟩
theorem nxt {z TI TO i1 i2 l1 l2 S : Addr} {k : Nat} {xs ys : Array Value} {x y : Value} {Q : Option Value → Shared → Prop} (D : ZipApart z TI TO i1 i2 l1 l2) (q : ZS s.heap z TI TO i1 i2 l1 l2 S xs ys k) (hS : S < s.heap.objs.size)
    (hx : xs[k]? = some x) (hy : ys[k]? = some y)
    (hQ : ∀ h', ZS h' z TI TO i1 i2 l1 l2 S xs ys (k + 1) → h'.get? s.heap.objs.size = some { cls := .type "tuple", data := .seq #[x, y] } → h'.objs.size = s.heap.objs.size + 1 →
      (∀ c o, c ≠ z → c ≠ TO → c ≠ i1 → c ≠ i2 → s.heap.get? c = some o → h'.get? c = some o) → Q (some (.ref s.heap.objs.size)) { s with heap := h' }) : wpAny (model prog w) A (pyNext (.ref z)) Q E s := by
  have lt : ∀ {c o}, s.heap.get? c = some o → s.heap.objs.size ≠ c := fun e => Nat.ne_of_gt (Heap.lt_size e)
  have n1 : s.heap.objs.size ≠ i1 := let ⟨_, e, _⟩ := q.p1; lt e
  have n2 : s.heap.objs.size ≠ i2 := let ⟨_, e, _⟩ := q.p2; lt e
  rcases q.st with ⟨hz, a, b, hTO⟩ | ⟨T, f, oT, hz, hT, r1, r2, r3, r4⟩
  · refine RZ.pyNext_zipT_item D hz q.pTI hTO q.p1 q.p2 q.t1 q.t2 hx hy fun h' a1 a2 a3 a4 a5 a6 hk => ?_
    exact hQ h' ⟨hk _ _ D.TIz D.TITO D.TIi1 D.TIi2 q.pTI, a3, a4, let ⟨o, ho, r⟩ := q.t1; ⟨o, hk _ _ D.l1z D.l1TO D.l1i1 D.l1i2 ho, r⟩, let ⟨o, ho, r⟩ := q.t2; ⟨o, hk _ _ D.l2z D.l2TO D.l2i1 D.l2i2 ho, r⟩,
      .inr ⟨s.heap.objs.size, false, _, a1, a5, lt hz, n1, n2, Nat.ne_of_gt hS⟩⟩ a5 a6 hk
  · have hTy : s.TypeIs (.ref z) "zip" := ⟨_, hz, rfl⟩
    unfold pyNext
    refine wpAny_bind (wpAny_attempt (wpAny_callSpecial?_slot (name := Str.ofString "__next__") hTy F.slot_zip_next
      (wpAny_call_entry F.slot_zip_next hTy F.entry_zip_next
        (next_item_held D hz hT q.pTI q.p1 q.p2 q.t1 q.t2 hx hy fun h' a1 a3 a4 a5 a6 hk => wpAny_pure ?_) (F.args_zip_next_1 _))))
    exact hQ h' ⟨hk _ _ D.TIz D.TIi1 D.TIi2 q.pTI, a3, a4, let ⟨o, ho, r⟩ := q.t1; ⟨o, hk _ _ D.l1z D.l1i1 D.l1i2 ho, r⟩, let ⟨o, ho, r⟩ := q.t2; ⟨o, hk _ _ D.l2z D.l2i1 D.l2i2 ho, r⟩,
      .inr ⟨T, true, oT, a1, hk _ _ r1 r2 r3 hT, r1, r2, r3, r4⟩⟩ a5 a6 fun c o c1 _ c3 c4 e => hk c o c1 c3 c4 e
theorem fin {z TI TO i1 i2 l1 l2 S : Addr} {k : Nat} {xs ys : Array Value} {Q : Option Value → Shared → Prop} (hh : A.handled = none) (D : ZipApart z TI TO i1 i2 l1 l2) (q : ZS s.heap z TI TO i1 i2 l1 l2 S xs ys k)
    (hx : xs[k]? = none) (hQ : ∀ h', (∀ c o, c ≠ z → c ≠ TO → c ≠ i1 → c ≠ i2 → s.heap.get? c = some o → h'.get? c = some o) → Q none { s with heap := h' }) : wpAny (model prog w) A (pyNext (.ref z)) Q E s := by
  rcases q.st with ⟨hz, a, b, hTO⟩ | ⟨T, f, oT, hz, hT, r1, r2, r3, r4⟩
  · exact RZ.pyNext_zipT_end hh D hz q.pTI hTO q.p1 q.p2 q.t1 q.t2 (.inl hx) fun h' hk => hQ h' hk
  · have hTy : s.TypeIs (.ref z) "zip" := ⟨_, hz, rfl⟩
    unfold pyNext
    refine wpAny_bind (wpAny_attempt (wpAny_callSpecial?_slot (name := Str.ofString "__next__") hTy F.slot_zip_next
      (wpAny_call_entry F.slot_zip_next hTy F.entry_zip_next (next_end_held hh D hz hT q.pTI q.p1 q.t1 hx fun h' e hk he => ?_) (F.args_zip_next_1 _))))
    obtain ⟨o, ho, hc⟩ := he
    refine wpAny_bind (wpAny_isInstance (T := "StopIteration") (b := true) ⟨o, ho, hc⟩ isSubtype_stop ?_)
    exact wpAny_pure (hQ _ fun c o c1 _ c3 _ e => hk c o c1 c3 e)

structure Made (xs ys : Array Value) (lo : Addr) (h : Heap) (as : List Addr) : Prop where
  rise : as.Pairwise (· < ·)
  above : ∀ a ∈ as, lo ≤ a
  pairs : ∀ (j : Nat) (a : Addr), as[j]? = some a → ∃ x y, xs[j]? = some x ∧ ys[j]? = some y ∧ h.get? a = some { cls := .type "tuple", data := .seq #[x, y] }
theorem Made.there {xs ys : Array Value} {lo : Addr} {h : Heap} {as : List Addr} (g : Made xs ys lo h as) {a : Addr} (ha : a ∈ as) : a < h.objs.size := by
  obtain ⟨j, hj⟩ := List.mem_iff_getElem?.mp ha
  obtain ⟨_, _, _, _, e⟩ := g.pairs j a hj
  exact Heap.lt_size e
theorem Made.low {xs ys : Array Value} {lo lo' : Addr} {h : Heap} {as : List Addr} (g : Made xs ys lo h as) (hl : lo' ≤ lo) : Made xs ys lo' h as := ⟨g.rise, fun a ha => Nat.le_trans hl (g.above a ha), g.pairs⟩
end
section
variable {prog : Program} {w : World} {A : Around} {s : Shared} {R : Result → Shared → Prop}
theorem loopZ {S z TI TO i1 i2 l1 l2 lo : Addr} {xs ys : Array Value} (hh : A.handled = none) (D : ZipApart z TI TO i1 i2 l1 l2) (O : Ofs z TI TO i1 i2 l1 l2 S) (hsz : xs.size = ys.size) (hn : xs.size ≤ sizeLine) (res : Value) {h₁ : Heap}
    (hlo : S < lo ∧ z < lo ∧ TO < lo ∧ i1 < lo ∧ i2 < lo)
    (hR : ∀ h' tk acc c as, (∀ b o, b ≠ S → b ≠ z → b ≠ TO → b ≠ i1 → b ≠ i2 → h₁.get? b = some o → h'.get? b = some o) → h'.get? S = some { cls := .type "list", dict := none, data := .seq acc c, slots := #[] } → as.length = xs.size → Made xs ys lo h' as →
      acc.toList = as.map Value.ref → R (.ok (.ret res)) { s with heap := h', toks := tk }) :
    ∀ (k i : Nat) (h : Heap) (tk c : Nat) (acc : Array Value) (as : List Addr), xs.size - i = k → i ≤ xs.size → ZS h z TI TO i1 i2 l1 l2 S xs ys i → (∀ b o, b ≠ S → b ≠ z → b ≠ TO → b ≠ i1 → b ≠ i2 → h₁.get? b = some o → h.get? b = some o) →
      h.get? S = some { cls := .type "list", dict := none, data := .seq acc c, slots := #[] } → acc.toList = as.map Value.ref → as.length = i → Made xs ys lo h as → lo ≤ h.objs.size →
      codeAny (model prog w) A (.builtin "list.extend.loop" ⟨[.ref S, .ref z, res], []⟩) R { s with heap := h, toks := tk } := by
  obtain ⟨lS, lz, lTO, li1, li2⟩ := hlo
  have neq : ∀ {a b : Addr}, a < lo → lo ≤ b → b ≠ a := fun h1 h2 => Nat.ne_of_gt (Nat.lt_of_lt_of_le h1 h2)
  intro k
  induction k with
  | zero =>
    intro i h tk c acc as hk hi hst hkeep hS hacc hal hG hIs
    refine codeAny_builtin PySem.F.entry_extend_loop ?_
    rw [Around.under_plainId PySem.F.plain_extend_loop _]
    show wpAny _ A.in1 (pyNext (.ref z) >>= _) _ _ _
    refine wpAny_bind (fin (s := { s with heap := h, toks := tk }) (A := A.in1) hh D hst (Array.getElem?_eq_none (by omega)) fun h' he => ?_)
    refine wpAny_pure (hR h' tk acc c as (fun b o h1 h2 h3 h4 h5 e => he b o h2 h3 h4 h5 (hkeep b o h1 h2 h3 h4 h5 e)) (he S _ O.z.symm O.TO.symm O.i1.symm O.i2.symm hS) (by omega) ⟨hG.rise, hG.above, fun j a hj => ?_⟩ hacc)
    obtain ⟨x, y, e1, e2, e3⟩ := hG.pairs j a hj
    have ha := hG.above a (List.mem_of_getElem? hj)
    exact ⟨x, y, e1, e2, he a _ (neq lz ha) (neq lTO ha) (neq li1 ha) (neq li2 ha) e3⟩
  | succ k ih =>
    intro i h tk c acc as hk hi hst hkeep hS hacc hal hG hIs
    have hlt : i < xs.size := by omega
    have hlt2 : i < ys.size := by omega
    have hszA : acc.size = i := by rw [← Array.length_toList, hacc, List.length_map, hal]
    refine codeAny_builtin PySem.F.entry_extend_loop ?_
    rw [Around.under_plainId PySem.F.plain_extend_loop _]
    show wpAny _ A.in1 (pyNext (.ref z) >>= _) _ _ _
    refine wpAny_bind (nxt (s := { s with heap := h, toks := tk }) D hst (Heap.lt_size hS) (Array.getElem?_eq_getElem hlt) (Array.getElem?_eq_getElem hlt2) fun h' hst' ht hz hkp => ?_)
    dsimp only at ht hz hkp ⊢
    have hS' := hkp S _ O.z.symm O.TO.symm O.i1.symm O.i2.symm hS
    have up : ∀ b o, b ≠ S → h'.get? b = some o → (h'.update S (Obj.mapSeq (·.push (Value.ref h.objs.size)))).get? b = some o := fun b o hb e => (Heap.get?_update_other _ _ (Ne.symm hb)).trans e
    have hSl : S < h.objs.size := Heap.lt_size hS
    show wpAny _ A.in1 (updateSeq S (·.push (Value.ref h.objs.size)) >>= _) _ _ _
    refine wpAny_bind ?_
    refine wpAny_updateSeq hS' rfl (wpAny_pure ⟨plainId_quiet PySem.F.plain_extend_loop _, ih (i + 1) _ tk _ (acc.push (Value.ref h.objs.size)) (as ++ [h.objs.size]) (by omega) hlt (hst'.keep O up)
      (fun b o h1 h2 h3 h4 h5 e => up b o h1 (hkp b o h2 h3 h4 h5 (hkeep b o h1 h2 h3 h4 h5 e))) (Heap.get?_update_self _ hS' rfl) (by rw [Array.toList_push, hacc, List.map_append]; rfl) (by rw [List.length_append, hal]; rfl) ⟨?_, ?_, ?_⟩ ?_⟩) (by rw [hszA]; omega) (by show (acc.push (Value.ref h.objs.size)).size ≤ sizeLine + 1; rw [Array.size_push, hszA]; omega)
    · refine List.pairwise_append.mpr ⟨hG.rise, List.pairwise_singleton _ _, fun a ha b hb => ?_⟩
      rw [List.mem_singleton.mp hb]
      exact hG.there ha
    · intro a ha
      rcases List.mem_append.mp ha with ha | ha
      · exact hG.above a ha
      · rw [List.mem_singleton.mp ha]; exact hIs
    · intro j b hj
      rcases Nat.lt_trichotomy j as.length with h1 | h1 | h1
      · rw [List.getElem?_append_left h1] at hj
        obtain ⟨x', y', e1, e2, e3⟩ := hG.pairs j b hj
        have hb := hG.above b (List.mem_of_getElem? hj)
        exact ⟨x', y', e1, e2, up b _ (neq lS hb) (hkp b _ (neq lz hb) (neq lTO hb) (neq li1 hb) (neq li2 hb) e3)⟩
      · subst h1
        have hb : h.objs.size = b := by simpa using hj
        subst hb
        subst hal
        exact ⟨xs[as.length], ys[as.length], Array.getElem?_eq_getElem _, Array.getElem?_eq_getElem _, up _ _ (Nat.ne_of_gt hSl) ht⟩
      · have hnone : (as ++ [h.objs.size])[j]? = none := List.getElem?_eq_none (by rw [List.length_append, List.length_singleton]; omega)
        rw [hnone] at hj; cases hj
    · have e : (h'.update S (Obj.mapSeq (·.push (Value.ref h.objs.size)))).get? h.objs.size = _ := up _ _ (Nat.ne_of_gt hSl) ht
      exact Nat.le_of_lt (Nat.lt_of_le_of_lt hIs (Heap.lt_size e))
end
section
theorem zip_no_len : typeLookup (.type "zip") "__len__" = pure none := am_miss_of_fast (by decide +kernel)
theorem zip_no_hint : typeLookup (.type "zip") "__length_hint__" = pure none := am_miss_of_fast (by decide +kernel)
variable {prog : Program} {w : World} {A : Around} {E : Value → Shared → Prop} {s : Shared}
theorem zip_hint {r : Addr} (hT : s.TypeIs (.ref r) "zip") {Q : Bool → Shared → Prop} (h : Q true s) : wpAny (model prog w) A (Builtin.List.listLengthHint (.ref r)) Q E s := by
  unfold Builtin.List.listLengthHint
  refine wpAny_bind (wpAny_specialOf hT zip_no_len ?_)
  show wpAny _ _ (specialOf (Value.ref r) (Str.ofString "__length_hint__") >>= _) _ _ _
  refine wpAny_bind (wpAny_specialOf hT zip_no_hint ?_)
  exact wpAny_pure h
theorem callZ {Q : Value → Shared → Prop} {z TI TO i1 i2 l1 l2 : Addr} {xs ys : Array Value} (hh : A.handled = none) (D : ZipApart z TI TO i1 i2 l1 l2) (hsz : xs.size = ys.size) (hn : xs.size ≤ sizeLine)
    (hz : IsZip s.heap z TI TO .none) (hTI : IsPair s.heap TI (.ref i1) (.ref i2)) (hTO : ∃ a b, IsPair s.heap TO a b) (q1 : s.heap.IsTupleIter i1 l1 0) (q2 : s.heap.IsTupleIter i2 l2 0) (hl1 : s.heap.IsTuple l1 xs) (hl2 : s.heap.IsTuple l2 ys)
    (hQ : ∀ h' tk acc c as, (∀ b o, b ≠ z → b ≠ TO → b ≠ i1 → b ≠ i2 → s.heap.get? b = some o → h'.get? b = some o) → h'.get? s.heap.objs.size = some { cls := .type "list", dict := none, data := .seq acc c, slots := #[] } → as.length = xs.size →
      Made xs ys (s.heap.objs.size + 1) h' as → acc.toList = as.map Value.ref → Q (.ref s.heap.objs.size) { s with heap := h', toks := tk }) :
    wpAny (model prog w) A (call (.type "list") [.ref z]) Q E s := by
  have lz := Heap.lt_size hz
  have li1 : i1 < s.heap.objs.size := let ⟨_, e, _⟩ := q1; Heap.lt_size e
  have li2 : i2 < s.heap.objs.size := let ⟨_, e, _⟩ := q2; Heap.lt_size e
  have ll1 : l1 < s.heap.objs.size := let ⟨_, e, _⟩ := hl1; Heap.lt_size e
  have ll2 : l2 < s.heap.objs.size := let ⟨_, e, _⟩ := hl2; Heap.lt_size e
  have lTI : TI < s.heap.objs.size := Heap.lt_size hTI
  have lTO : TO < s.heap.objs.size := let ⟨_, _, e⟩ := hTO; Heap.lt_size e
  have O : Ofs z TI TO i1 i2 l1 l2 s.heap.objs.size := ⟨Nat.ne_of_lt lz, Nat.ne_of_lt lTI, Nat.ne_of_lt lTO, Nat.ne_of_lt li1, Nat.ne_of_lt li2, Nat.ne_of_lt ll1, Nat.ne_of_lt ll2⟩
  refine callType_codes (Q₁ := fun obj s₁ => obj = .ref s.heap.objs.size ∧ s₁ = { s with heap := s.heap.push { cls := .type "list", data := .seq #[] } }) PySem.F.called_list (PySem.F.typeCall_list_1 _) PySem.F.entry_list_init
    (code_list_new _ ⟨rfl, rfl⟩) fun obj s₁ h₁ => ?_
  obtain ⟨rfl, rfl⟩ := h₁
  generalize hSd : s.heap.objs.size = S at *
  have hS : (s.heap.push { cls := .type "list", data := .seq #[] }).get? S = some { cls := .type "list", data := .seq #[] } := by
    rw [← hSd]
    exact Heap.get?_push_size _ rfl
  refine ⟨⟨_, hS, rfl⟩, PySem.F.args_list_init_2 _ _, ?_⟩
  show wpAny _ A.in1.in1 (do let old ← Builtin.List.listItems (.ref S); Builtin.List.listUpdate (.ref S) (fun _ => #[]); letGo old.toList.reverse; Builtin.List.listExtendWith (.ref S) (.ref z) .none) _ _ _
  refine wpAny_bind ?_
  unfold Builtin.List.listItems
  refine wpAny_bind (wpAny_seqItems hS rfl (wpAny_pure ?_))
  show wpAny _ A.in1.in1 (updateSeq S (fun _ => #[]) >>= fun _ => letGo (#[] : Array Value).toList.reverse >>= fun _ => Builtin.List.listExtendWith (.ref S) (.ref z) .none) _ _ _
  refine wpAny_bind (wpAny_updateSeq hS rfl ?_)
  have hS2 := Heap.get?_update_self (Obj.mapSeq (fun _ => (#[] : Array Value))) hS rfl
  refine wpAny_bind (wpAny_letGo ?_)
  unfold Builtin.List.listExtendWith
  have up : ∀ (h : Heap) (f : Obj → Obj), (∀ b o, s.heap.get? b = some o → h.get? b = some o) → ∀ b o, s.heap.get? b = some o → (h.update S f).get? b = some o := fun h f q b o e =>
    (Heap.get?_update_other _ _ (by rw [← hSd]; exact Ne.symm (Nat.ne_of_lt (Heap.lt_size e)))).trans (q b o e)
  have k1 : ∀ b o, s.heap.get? b = some o → (s.heap.push { cls := .type "list", data := .seq #[] }).get? b = some o := fun b o e => Heap.get?_push_of_some _ e
  have k2 := up _ (Obj.mapSeq (fun _ => (#[] : Array Value))) k1
  have hz2 := k2 _ _ hz
  refine wpAny_bind (wpAny_typeOf (T := "zip") ⟨_, hz2, rfl⟩ ?_)
  have h1 : Builtin.List.listSameRef (.ref S) (.ref z) = false := by simp [Builtin.List.listSameRef, O.z.symm]
  have h2 : (Value.type "zip" == Value.type "list") = false := by decide
  have h3 : (Value.type "zip" == Value.type "tuple") = false := by decide
  simp only [h1, h2, h3, Bool.or_false, Bool.false_eq_true, if_false]
  refine wpAny_bind (wpAny_pyIter_zip hz2 ?_)
  refine wpAny_bind (wpAny_holding (zip_hint ⟨_, hz2, rfl⟩ ?_))
  have key : ∀ (h : Heap) (c₁ tk : Nat), (∀ b o, b ≠ S → (s.heap.push { cls := .type "list", data := .seq #[] }).get? b = some o → h.get? b = some o) → (s.heap.objs.size + 1 ≤ h.objs.size) →
      h.get? S = some { cls := .type "list", data := .seq #[] c₁ } → codeAny (model prog w) A.in1 (.builtin "list.extend.loop" ⟨[.ref S, .ref z, .none], []⟩) (fun r s' => r = .ok (.ret .none) ∧ Q (.ref S) s') { s with heap := h, toks := tk } := by
    intro h c₁ tk hk hsz' hS₁
    have hk0 : ∀ b o, s.heap.get? b = some o → h.get? b = some o := fun b o e => hk b o (by rw [← hSd]; exact Nat.ne_of_lt (Heap.lt_size e)) (k1 b o e)
    refine loopZ (A := A.in1) (s := s) (R := fun r s' => r = .ok (.ret .none) ∧ Q (.ref S) s') (lo := S + 1) (h₁ := s.heap) hh D O hsz hn .none ⟨Nat.lt_succ_self _, Nat.lt_succ_of_lt lz, Nat.lt_succ_of_lt lTO, Nat.lt_succ_of_lt li1, Nat.lt_succ_of_lt li2⟩ (fun h' tk acc c as hk' hS' hl hG hacc => ⟨rfl, hQ h' tk acc c as (fun b o a1 a2 a3 a4 e => hk' b o (by rw [← hSd]; exact Nat.ne_of_lt (Heap.lt_size e)) a1 a2 a3 a4 e) hS' hl hG hacc⟩)
      xs.size 0 h tk c₁ #[] [] (Nat.sub_zero _) (Nat.zero_le _) ?_ (fun b o _ _ _ _ _ e => hk0 b o e) hS₁ rfl rfl ⟨List.Pairwise.nil, (fun _ ha => nomatch ha), (fun j a hj => by simp at hj)⟩ (by rw [hSd] at hsz'; exact hsz')
    · obtain ⟨a, b, hTO⟩ := hTO
      exact ⟨hk0 _ _ hTI, q1.at fun o e => hk0 _ o e, q2.at fun o e => hk0 _ o e, let ⟨o, ho, r⟩ := hl1; ⟨o, hk0 _ _ ho, r⟩, let ⟨o, ho, r⟩ := hl2; ⟨o, hk0 _ _ ho, r⟩, .inl ⟨hk0 _ _ hz, a, b, hk0 _ _ hTO⟩⟩
  refine wpAny_ite_split (fun _ => ?_) (fun hab => absurd rfl hab)
  refine wpAny_bind (wpAny_rule ?_)
  refine wpAny_bind ?_
  show wpAny _ _ (updateSeq S (·.push .none) >>= fun _ => updateSeq S (·.pop)) _ _ _
  refine wpAny_bind (wpAny_updateSeq hS2 rfl ?_)
  have hS3 := Heap.get?_update_self (Obj.mapSeq (·.push Value.none)) hS2 rfl
  refine wpAny_updateSeq (hz := by seq_fits) hS3 rfl ?_
  have hS4 := Heap.get?_update_self (Obj.mapSeq (·.pop)) hS3 rfl
  refine wpAny_pure ⟨plainId_quiet PySem.F.plain_extend_loop _, ?_⟩
  refine codeAny_mono (key _ _ _ (fun b o hb e => ?_) ?_ hS4) fun r s' h => ?_
  · exact (Heap.get?_update_other _ _ (Ne.symm hb)).trans ((Heap.get?_update_other _ _ (Ne.symm hb)).trans ((Heap.get?_update_other _ _ (Ne.symm hb)).trans e))
  · rw [hSd]
    exact Heap.lt_size hS4
  · obtain ⟨rfl, h⟩ := h
    exact ⟨rfl, h⟩
end
end T5
set_option maxHeartbeats 2000000
/-! list(zip(a, b)) as a reading -/
namespace T5
open PySem PySem.Spec PyProof.Rows L2 T3
def mZip (K : PySem.W.Frag) (t : TA) : TE := fun σ H Q => t σ H fun vs H1 => ∃ a b xs ys, vs = [.ref a, .ref b] ∧ SqT K H1 a xs ∧ SqT K H1 b ys ∧ xs.length = ys.length ∧
  ∀ (H' : Hp) (p : Addr) (ts : List Addr), (∀ b o, H1 b = some o → H' b = some o) → H1 p = none → ts.length = xs.length → H' p = some (.lst (ts.map V.ref)) →
    (∀ (j : Nat) (x y : V) (t : Addr), xs[j]? = some x → ys[j]? = some y → ts[j]? = some t → H' t = some (.tup [x, y])) → Q (.ref p) H'
section
variable {X : Cx} {e e2 : Expr} {ta : TA} {p p2 cpos pos : Pos}
theorem pe_listZip (hc : X.calm = true) (ha : PA X [e, e2] ta) (hg : Gl X "list") (hm : X.mg "list" = none) (hv : bootBuiltins "list" = some (.type "list")) (hgz : Gl X "zip") (hmz : X.mg "zip" = none)
    (hs1 : starEach [.Call (.Name "zip" p2) [e, e2] [] cpos] X.env = (false, eval (.Call (.Name "zip" p2) [e, e2] [] cpos) X.env) :: starEach [] X.env := by rfl)
    (hs : starEach [e, e2] X.env = (false, eval e X.env) :: starEach [e2] X.env := by rfl) (hpl : (backTo cpos (starEach [e2] X.env)).any (·.1) = false := by rfl) :
    PE X (.Call (.Name "list" p) [.Call (.Name "zip" p2) [e, e2] [] cpos] [] pos) (mZip X.K ta) := by
  refine ⟨fun pins s σ H Q I hq => ?_⟩
  refine wpAny_Call_Name_kw (ld_blt I hg hm hv ?_)
  refine PyProof.Rows.callWith_type1 ?_ hs1 rfl
  rw [hs1]
  show wpAny _ _ (spliced ((false, eval (.Call (.Name "zip" p2) [e, e2] [] cpos) X.env) :: backTo pos (starEach [] X.env))) _ _ s
  refine Calls.spliced_cons ?_
  refine Call_ (ld_blt I hgz hmz PyProof.Rows.boot_zip (PyProof.Rows.callWith_type1 (thn (ha.run cpos pins s σ H _ I hq) fun us s1 ⟨vs, H1, I1, r1, q1⟩ => ?_) hs hpl))
  obtain ⟨a, b, xs, ys, ex, hqx, hqy, hl, q⟩ := q1
  subst ex
  cases r1 with
  | cons r rr =>
    cases rr with
    | cons r' rr =>
      cases rr
      cases r
      cases r'
      obtain ⟨its, rv, p1, hz1⟩ := I1.tuple hqx
      obtain ⟨its2, rv2, p2', hz2⟩ := I1.tuple hqy
      obtain ⟨o1, ho1, _⟩ := id p1
      obtain ⟨o2, ho2, _⟩ := id p2'
      have l1 := rv.length
      have l2 := rv2.length
      refine RZ.call_zipT (show s1.heap.IsTuple a its.toArray from p1) (show s1.heap.IsTuple b its2.toArray from p2') fun h' hz hTI hTO h1 h2 hsz hk => ?_
      have I2 : Inv X pins σ H1 { s1 with heap := h' } := I1.kept (t' := s1.toks) hk
      refine Calls.spliced_nil ?_
      have t1 : h'.IsTuple a its.toArray := let ⟨o, ho, r⟩ := (show s1.heap.IsTuple a its.toArray from p1); ⟨o, hk _ _ ho, r⟩
      have t2 : h'.IsTuple b its2.toArray := let ⟨o, ho, r⟩ := (show s1.heap.IsTuple b its2.toArray from p2'); ⟨o, hk _ _ ho, r⟩
      refine callZ (s := { s1 with heap := h' }) (I1.ok.hd hc) (PySem.W.ktu_apart s1.heap.objs.size a b (Heap.lt_size ho1) (Heap.lt_size ho2)) (by simp only [List.size_toArray]; omega) (by simp only [List.size_toArray]; omega)
        hz hTI ⟨_, _, hTO⟩ h1 h2 t1 t2 fun h2' tk acc c as hk2 hS hla hG hacc => ?_
      have kk : ∀ b o, s1.heap.get? b = some o → h2'.get? b = some o := fun c o e => by
        have := Heap.lt_size e
        refine hk2 c o ?_ ?_ ?_ ?_ (hk c o e)
        · exact Nat.ne_of_lt (Nat.lt_of_lt_of_le this (Nat.le_add_right _ _))
        · exact Nat.ne_of_lt (Nat.lt_of_lt_of_le this (Nat.le_add_right _ _))
        · exact Nat.ne_of_lt this
        · exact Nat.ne_of_lt (Nat.lt_of_lt_of_le this (Nat.le_add_right _ _))
      have hsz' : ({ s1 with heap := h' } : Shared).heap.objs.size = s1.heap.objs.size + 5 := hsz
      rw [hsz'] at hS hG ⊢
      rw [List.size_toArray] at hla
      have I3 : Inv X pins σ H1 { s1 with heap := h2', toks := tk } := I1.kept (t' := tk) kk
      have nd : as.Nodup := List.Pairwise.imp (fun {a b} (h : a < b) => Nat.ne_of_lt h) hG.rise
      have fr : ∀ c, s1.heap.objs.size ≤ c → H1 c = none := fun c hc => I1.hok.fresh hc
      have rvs : Vals (as.map V.ref) acc.toList := by
        rw [hacc]
        exact LiI.vals_refs as
      have I4 : Inv X pins σ (upd H1 (s1.heap.objs.size + 5) (.lst (as.map V.ref))) { s1 with heap := h2', toks := tk } := by
        refine I3.take (h' := h2') (t' := tk) (fun b ob _ e => e) (I1.fpOk (Nat.le_add_right _ _) (fr _ (Nat.le_add_right _ _))) ⟨?_, acc.toList, c, rvs, ?_⟩
        · rw [List.length_map]
          omega
        · rw [Array.toArray_toList]
          exact hS
      obtain ⟨H2, I5, g, qt⟩ := DX.takeT (P := fun b vs => ∃ (j : Nat) (x y : V), as[j]? = some b ∧ xs[j]? = some x ∧ ys[j]? = some y ∧ vs = [x, y]) I1 as _ I4 nd fun b hb => by
        obtain ⟨j, hj⟩ := List.mem_iff_getElem?.mp hb
        obtain ⟨u, v, e1, e2, e3⟩ := hG.pairs j b hj
        have hbl := hG.above b hb
        have hbl2 : s1.heap.objs.size ≤ b := Nat.le_trans (Nat.le_add_right _ 6) hbl
        have hjx : j < xs.length := by
          have := (List.getElem?_eq_some_iff.mp hj).1
          omega
        have hjy : j < ys.length := by omega
        have ex : xs[j]? = some xs[j] := List.getElem?_eq_getElem hjx
        have ey : ys[j]? = some ys[j] := List.getElem?_eq_getElem hjy
        obtain ⟨u', hu, ru⟩ := rv.get ex
        obtain ⟨v', hv, rw'⟩ := rv2.get ey
        have eu : u' = u := Option.some.inj (hu.symm.trans (by simpa using e1))
        have ev : v' = v := Option.some.inj (hv.symm.trans (by simpa using e2))
        subst eu ev
        refine ⟨hbl2, ?_, [xs[j], ys[j]], ⟨j, _, _, hj, ex, ey, rfl⟩, fun H3 => ⟨(by rw [sizeLine_eq]; show 2 ≤ 16777216; omega), [u', v'], .cons ru (.cons rw' .nil), ⟨_, e3, rfl, 0, rfl⟩⟩⟩
        rw [upd_ne (Nat.ne_of_gt hbl)]
        exact fr b hbl2
      refine ⟨.ref (s1.heap.objs.size + 5), H2, I5, rfl, q H2 _ as (fun b o e => g b o ?_) (fr _ (Nat.le_add_right _ _)) (by omega) (g _ _ upd_same) fun j x y t hx hy ht => ?_⟩
      · rw [upd_ne (ne_of_none e (fr _ (Nat.le_add_right _ _)))]
        exact e
      · obtain ⟨vs, ⟨j', x', y', j1, j2, j3, ev⟩, hH⟩ := qt t (List.mem_of_getElem? ht)
        have eij : j = j' := (List.getElem?_inj (List.getElem?_eq_some_iff.mp ht).1 nd).mp (ht.trans j1.symm)
        subst eij
        rw [hx] at j2
        rw [hy] at j3
        cases j2
        cases j3
        rw [hH, ev]
end
end T5
set_option maxHeartbeats 2000000
/-! del xs[i:] -/
namespace T5
open PySem PySem.Spec PyProof.Rows L2 T3
theorem bounds_from {a n : Nat} (h : a ≤ n) : sliceBounds (some (a : Int)) none none n = ((a : Int), (n : Int), 1) := by
  simp only [sliceBounds, Option.getD_none]
  have h1 : ¬ ((a : Int) < 0) := by omega
  simp only [h1, if_false, show (1 : Int) > 0 by decide, if_true]
  congr 1
  omega
def sel (start stop step : Int) (i : Nat) : Bool :=
  if step > 0 then start ≤ i && i < stop && (i - start) % step == 0
  else stop < i && i ≤ start && (start - i) % (-step) == 0
theorem keep_pre (a n : Nat) : ∀ (xs : List Value) (k : Nat), k + xs.length = n → a ≤ n → ((xs.zipIdx k).filterMap fun (x, j) => if sel (a : Int) (n : Int) 1 j then none else some x) = xs.take (a - k)
  | [], k, _, _ => by simp
  | x :: xs, k, h, ha => by
    rw [List.length_cons] at h
    have ih := keep_pre a n xs (k + 1) (by omega) ha
    rw [List.zipIdx_cons, List.filterMap_cons]
    by_cases hk : k < a
    · have e : sel (a : Int) (n : Int) 1 k = false := by
        unfold sel
        simp
        omega
      simp only [e, Bool.false_eq_true, if_false]
      rw [ih, show a - k = (a - (k + 1)) + 1 by omega, List.take_succ_cons]
    · have e : sel (a : Int) (n : Int) 1 k = true := by
        unfold sel
        simp
        omega
      simp only [e, if_true]
      rw [ih, show a - k = 0 by omega, show a - (k + 1) = 0 by omega]
      simp
section
variable {prog : Program} {w : World} {A : Around} {E : Value → Shared → Prop} {s : Shared}
theorem delItem_from {l sl : Addr} {items : Array Value} {n : Nat} {vl vu : Value} {a : Nat} {Q : Unit → Shared → Prop}
    (e : s.heap.get? l = some { cls := .type "list", data := .seq items n })
    (hs : s.heap.IsSliceOf sl vl vu .none) (pl : IsPart vl (some (a : Int))) (pu : IsPart vu none) (hac : a ≤ items.size)
    (hsz : items.size ≤ sizeLine) (h : Q () { s with heap := s.heap.update l (Obj.mapSeq fun xs => (xs.toList.zipIdx.filterMap fun (x, k) => if sel (a : Int) (items.size : Int) 1 k then none else some x).toArray) }) :
    wpAny (model prog w) A (delItem (.ref l) (.ref sl)) Q E s := by
  have hl : s.heap.IsList l items := PySem.IsL.isList e
  obtain ⟨os, hos, hcs, hds⟩ := id hs
  have hTs : s.TypeIs (.ref sl) "slice" := ⟨os, hos, hcs⟩
  have hstep : ¬ ((rawPart none == rawInt 0) = true) := Bool.false_ne_true
  refine wpAny_delItem_slot hl.typeIs (by decide) F.slot_list_delitem (wpAny_call_entry F.slot_list_delitem hl.typeIs F.entry_list_delitem ?_ (F.args_list_delitem_2 _ _))
  show wpAny _ _ (Builtin.List.listSubscript? (.ref sl) >>= _) _ _ s
  refine wpAny_bind ?_
  unfold Builtin.List.listSubscript?
  refine wpAny_bind (wpAny_specialOf hTs slice_no_index ?_)
  simp only [Option.isNone_none, if_true]
  refine wpAny_pure ?_
  show wpAny _ _ (typeOf (.ref sl) >>= _) _ _ s
  refine wpAny_bind (wpAny_typeOf hTs ?_)
  first
    | rw [if_neg (by decide)]
    | refine PySem.W.KFB.if_not (by decide) ?_
  rw [listSliceParts_eq]
  refine wpAny_bind (wpAny_bind (wpAny_field hos hds (x := .none) rfl (wpAny_bind (wpAny_listPart .none ?_))))
  rw [if_neg hstep]
  refine wpAny_bind (wpAny_field hos hds (x := vl) rfl (wpAny_bind (wpAny_listPart pl ?_)))
  refine wpAny_bind (wpAny_field hos hds (x := vu) rfl (wpAny_bind (wpAny_listPart pu (wpAny_pure ?_))))
  refine wpAny_bind ?_
  unfold Builtin.List.listItems
  refine wpAny_bind (wpAny_seqItems e rfl (wpAny_pure ?_))
  refine wpAny_bind (wpAny_of_eq ((sliceIndices_raw (some (a : Int)) none none items.size (by simp)).trans (congrArg (pure : Int × Int × Int → Sem (Int × Int × Int)) (bounds_from hac))) ?_)
  refine wpAny_bind (wpAny_rule ?_)
  show wpAny _ _ (updateSeq l (fun xs => (xs.toList.zipIdx.filterMap fun (x, k) => if sel (a : Int) (items.size : Int) 1 k then none else some x).toArray) >>= _) _ _ s
  have hz' : ((fun xs : Array Value => (xs.toList.zipIdx.filterMap fun (x, k) => if sel (a : Int) (items.size : Int) 1 k then none else some x).toArray) items).size ≤ sizeLine + 1 := by
    show (List.filterMap (fun (x, k) => if sel (a : Int) (items.size : Int) 1 k then none else some x) (items.toList.zipIdx 0)).toArray.size ≤ sizeLine + 1
    rw [keep_pre a items.size items.toList 0 (by simp) hac, List.size_toArray, List.length_take, Array.length_toList]
    omega
  refine wpAny_bind (wpAny_updateSeq (hz := hsz) (_hz' := hz') e rfl ?_)
  refine wpAny_bind (wpAny_letGo ?_)
  exact wpAny_bind (wpAny_pure (wpAny_pure ⟨.none, rfl, h⟩))
end
section
variable {X : Cx} {o lo : Expr} {to : TE} {tl : TO} {tpos p3 pos : Pos}
/-- del xs[i:] -/
def mDelF (to : TE) (tl : TO) : TS := fun D σ H => to σ H fun x H1 => match x with
  | .ref l => tl σ H1 fun i H2 => ∃ (xs : List V) (a : Nat), i = some (a : Int) ∧ H2 l = some (.lst xs) ∧ a ≤ xs.length ∧ D.nx σ (upd H2 l (.lst (xs.take a)))
  | _ => False
theorem mdelF (ho : PE X o to) (hl : PO X (some lo) tl) : PS X (.Delete [.Subscript o (.Slice (some lo) none none p3) tpos] pos) (mDelF to tl) := by
  refine ⟨fun pins s σ H D I h => ?_⟩
  refine wpAny_Delete (wpAny_deleteEach_cons (wpAny_delete_Subscript (thn (ho.run pins s σ H _ I h) fun u s1 ⟨x, H1, I1, rx, q1⟩ => ?_)))
  cases x with
  | ref l =>
    cases (show u = Value.ref l from rx)
    refine wpAny_Slice (thn (hl.run pins s1 σ H1 _ I1 q1) fun vl s2 ⟨i, H2, I2, pl, xs, a, ei, hH, ha, q⟩ => ?_)
    subst ei
    refine thn (po_none.run pins s2 σ H2 (fun o H3 => o = none ∧ H3 = H2) I2 ⟨rfl, rfl⟩) fun vu s3 ⟨u, H3, I3, pu, eu, e3⟩ => ?_
    subst eu e3
    refine thn (po_none.run pins s3 σ H3 (fun o H4 => o = none ∧ H4 = H3) I3 ⟨rfl, rfl⟩) fun vs s4 ⟨w', H4, I4, ps, eo, e4⟩ => ?_
    subst eo e4
    have hvs : vs = .none := by
      cases ps
      rfl
    subst hvs
    have I5 : Inv X pins σ H4 { s4 with heap := s4.heap.push { cls := .type "slice", data := .fields #[vl, vu, .none] } } := I4.kept (t' := s4.toks) fun b ob q => Heap.get?_push_of_some _ q
    obtain ⟨z, its, n, r, hl, e⟩ := I5.lstM hH
    refine delItem_from e (Heap.IsSliceOf.new _ vl vu .none) pl pu (by rw [List.size_toArray, ← hl]; exact ha) (by rw [List.size_toArray]; omega) (wpAny_deleteEach_nil ⟨σ, _, I5.lset (its' := its.take a) (t' := s4.toks) hH e ?_ (r.take _) ?_, q⟩)
    · show (List.filterMap (fun (x, k) => if sel (a : Int) (its.toArray.size : Int) 1 k then none else some x) (its.toArray.toList.zipIdx 0)).toArray = (its.take a).toArray
      rw [keep_pre a its.toArray.size its.toArray.toList 0 (by simp) (by rw [List.size_toArray]; omega)]
      rfl
    · rw [List.length_take]
      omega
  | _ => exact q1.elim
end
end T5
set_option maxHeartbeats 2000000
/-! dicts with keys of tuples, equal: ==, != -/
namespace T5
open PySem PySem.W PySem.Calls PyProof.Rows PyProof.V PySem.Spec
section
variable {prog : Program} {w : World} {K : Type} [DecidableEq K] {knd : HeapKind prog w K} {A : Around} {E : Value → Shared → Prop} {s : Shared}
theorem samePairsH {nm : String} {a b : Addr} {xs ys : List (K × Addr × Value)} {Q : Bool → Shared → Prop} (ha : (a == sysModules) = false) (hb : (b == sysModules) = false)
    (da : s.heap.DictOfH knd a xs) (db : s.heap.DictOfH knd b ys) (hu : knd.room A) (hl : xs.length = ys.length) (hits : ∀ x ∈ xs, ∃ p, atKey ys x.1 = some p ∧ SeqAt.EqP prog w A s x.2.2 p.2 true) (h : Q true s) :
    wpAny (model prog w) A (Builtin.Dict.samePairs nm a b) Q E s := by
  obtain ⟨oa, es, ep, hoa, _, hda, hka, hisa, hna⟩ := da
  obtain ⟨ob, es', ep', hob, _, hdb, hkb, hisb, hnb⟩ := db
  have hla := size_of_entries hka
  have hlb := size_of_entries hkb
  unfold Builtin.Dict.samePairs Builtin.Dict.showsAll
  rw [if_neg (show ¬ (a == sysModules) = true by rw [ha]; exact Bool.false_ne_true), if_neg (show ¬ (b == sysModules) = true by rw [hb]; exact Bool.false_ne_true)]
  refine wpAny_bind (wpAny_pure (wpAny_bind (wpAny_pure ?_)))
  refine wpAny_bind (wpAny_dictEntries hoa hda ?_)
  dsimp only
  refine wpAny_bind (wpAny_dictEntries hob hdb ?_)
  have hsz : es.size = es'.size := by omega
  rw [if_neg (by rw [hsz]; simp)]
  refine wpAny_bind (wpAny_dictEpoch hoa hda ?_)
  refine wpAny_bind ?_
  rw [Std.Legacy.Range.forIn_eq_forIn_range']
  simp only [Std.Legacy.Range.size, Nat.sub_zero, Nat.add_sub_cancel, Nat.div_one]
  refine wpAny_forIn_list _
    (fun rest q s' => s' = s ∧ q = (none, ()) ∧ ∃ i, rest = List.range' i (es.size - i) ∧ i ≤ es.size)
    _ ?_ ?_ _ _ ⟨rfl, rfl, 0, by simp, Nat.zero_le _⟩
  · rintro x rest q s' ⟨rfl, rfl, i, hr, hi⟩
    have hlt : i < es.size := by
      rcases Nat.lt_or_ge i es.size with h | h
      · exact h
      · rw [Nat.sub_eq_zero_of_le h] at hr; simp at hr
    obtain ⟨rfl, hrest⟩ : x = i ∧ rest = List.range' (i + 1) (es.size - (i + 1)) := by
      have e : es.size - i = (es.size - (i + 1)) + 1 := by omega
      rw [e, List.range'_succ] at hr
      injection hr with h1 h2
      exact ⟨h1, h2⟩
    refine wpAny_bind (wpAny_dictEntries hoa hda ?_)
    rw [Array.getElem?_eq_getElem hlt]
    have hlt' : x < xs.length := by omega
    have hx : es[x] = entryOfKey knd xs[x] := by
      have e := entry_at hka x
      rw [Array.getElem?_eq_getElem hlt, List.getElem?_eq_getElem hlt'] at e
      exact Option.some.inj e
    have hm : xs[x] ∈ xs := List.getElem_mem hlt'
    obtain ⟨p, hp, heq⟩ := hits _ hm
    show wpAny _ _ (holding [es[x].key, es[x].val] _ >>= _) _ _ _
    rw [hx]
    refine wpAny_bind (wpAny_holding (wpAny_bind (wpAny_dictFind_heap (k := xs[x].1) (a := xs[x].2.1) hu (hisa _ hm) hob hdb hkb hisb hnb (fun hno => ?_) fun j q hj => ?_)))
    · rw [atKey_none_of_get hno] at hp
      cases hp
    · have hq := atKey_of_get hnb hj
      rw [hp] at hq
      cases hq
      have hjl : j < es'.size := by
        have := (List.getElem?_eq_some_iff.mp hj).1
        omega
      have ej : es'[j] = entryOfKey knd (xs[x].1, p) := by
        have e := entry_at hkb j
        rw [Array.getElem?_eq_getElem hjl, hj] at e
        exact Option.some.inj e
      refine wpAny_bind (wpAny_dictEntries hob hdb ?_)
      rw [Array.getElem?_eq_getElem hjl, ej]
      refine wpAny_holding (heq _ _ ?_)
      show wpAny _ _ (if (!true) = true then _ else _) _ _ _
      rw [if_neg (by decide)]
      refine wpAny_bind (wpAny_dictEpoch hoa hda ?_)
      rw [if_neg (by simp)]
      exact wpAny_pure ⟨rfl, rfl, x + 1, hrest, hlt⟩
  · rintro q s' ⟨rfl, rfl, i, hr, hi⟩
    exact wpAny_pure h
theorem eqH {a b : Addr} {xs ys : List (K × Addr × Value)} {Q : Value → Shared → Prop} (ha : (a == sysModules) = false) (hb : (b == sysModules) = false)
    (da : s.heap.DictOfH knd a xs) (db : s.heap.DictOfH knd b ys) (hu : knd.room A.in1) (hu2 : A.units < cLine) (hl : xs.length = ys.length) (hits : ∀ x ∈ xs, ∃ p, atKey ys x.1 = some p ∧ SeqAt.EqP prog w A.in1 s x.2.2 p.2 true) (h : Q (.bool true) s) :
    wpAny (model prog w) A (compareOp .Eq (.ref a) (.ref b)) Q E s := by
  refine wpAny_richCompare_same_room (op := .Eq) da.typeIs db.typeIs PySem.F.slot_dict_eq (wpAny_call_entry PySem.F.slot_dict_eq da.typeIs PySem.F.entry_dict_eq ?_ (PySem.F.args_dict_eq_2 _ _)) hu2
  show wpAny _ _ (Builtin.Dict.dictSlotArgs "__eq__" ⟨[.ref a, .ref b], []⟩ >>= _) _ _ s
  refine wpAny_bind ?_
  unfold Builtin.Dict.dictSlotArgs
  refine wpAny_bind (wpAny_notOrdered_dict da.typeIs ?_)
  show wpAny _ _ (pure (Value.ref a, Value.ref b)) _ _ s
  refine wpAny_pure ?_
  refine wpAny_bind (wpAny_isInstance (T := "dict") db.typeIs PySem.F.sub_dict_dict ?_)
  simp only [Bool.not_true, Bool.false_eq_true, if_false]
  refine wpAny_bind (wpAny_pure (wpAny_bind (wpAny_pure ?_)))
  refine wpAny_bind (samePairsH ha hb da db hu hl hits ?_)
  refine wpAny_pure ⟨_, rfl, ?_, ?_⟩
  · exact fun x => nomatch x
  · simpa using h
theorem neH {a b : Addr} {xs ys : List (K × Addr × Value)} {Q : Value → Shared → Prop} (ha : (a == sysModules) = false) (hb : (b == sysModules) = false)
    (da : s.heap.DictOfH knd a xs) (db : s.heap.DictOfH knd b ys) (hu : knd.room A.in1) (hu2 : A.units < cLine) (hl : xs.length = ys.length) (hits : ∀ x ∈ xs, ∃ p, atKey ys x.1 = some p ∧ SeqAt.EqP prog w A.in1 s x.2.2 p.2 true) (h : Q (.bool false) s) :
    wpAny (model prog w) A (compareOp .NotEq (.ref a) (.ref b)) Q E s := by
  refine wpAny_richCompare_same_room (op := .NotEq) da.typeIs db.typeIs PySem.F.slot_dict_ne (wpAny_call_entry PySem.F.slot_dict_ne da.typeIs PySem.F.entry_dict_ne ?_ (PySem.F.args_dict_ne_2 _ _)) hu2
  show wpAny _ _ (Builtin.Dict.dictSlotArgs "__ne__" ⟨[.ref a, .ref b], []⟩ >>= _) _ _ s
  refine wpAny_bind ?_
  unfold Builtin.Dict.dictSlotArgs
  refine wpAny_bind (wpAny_notOrdered_dict da.typeIs ?_)
  show wpAny _ _ (pure (Value.ref a, Value.ref b)) _ _ s
  refine wpAny_pure ?_
  refine wpAny_bind (wpAny_isInstance (T := "dict") db.typeIs PySem.F.sub_dict_dict ?_)
  simp only [Bool.not_true, Bool.false_eq_true, if_false]
  refine wpAny_bind (wpAny_pure (wpAny_bind (wpAny_pure ?_)))
  refine wpAny_bind (samePairsH ha hb da db hu hl hits ?_)
  refine wpAny_pure ⟨_, rfl, ?_, ?_⟩
  · exact fun x => nomatch x
  · simpa using h
end
end T5
namespace T5
open PySem PySem.Spec PyProof.Rows L2 T3
def mEqT (K : PySem.W.Frag) (r : Bool) : R2 := fun x y H Q => match x, y with
  | .ref a, .ref b => ∃ ks ls, H a = some (.dT ks) ∧ H b = some (.dT ls) ∧ ks.length = ls.length ∧ (∀ p ∈ ks, ∃ v, valV ls p.1 = some v ∧ ∃ d e, Dp K H p.2 d ∧ Dp K H v e ∧ SeqAt.shaped d = true ∧ SeqAt.shaped e = true ∧ PyData.eqv d e = true) ∧ Q (.bl r) H
  | _, _ => False
section
variable {X : Cx}
theorem kt_mem {H : Hp} {ks : List (List Key × V)} {xs : List (List Key × Addr × Value)} (r : KT H ks xs) : ∀ x ∈ xs, ∃ p ∈ ks, p.1 = x.1 ∧ RelV p.2 x.2.2 := by
  induction r with
  | nil => intro x hx; exact nomatch hx
  | @cons p q ps qs h t ih =>
    intro x hx
    rcases List.mem_cons.mp hx with e | hx
    · subst e
      exact ⟨p, List.mem_cons_self, h.1, h.2.2⟩
    · obtain ⟨p', hp, e1, e2⟩ := ih x hx
      exact ⟨p', List.mem_cons_of_mem _ hp, e1, e2⟩
theorem hitsT {pins : List (Addr × Obj)} {σ : L2.St} {H : Hp} {s : Shared} {ks ls : List (List Key × V)} {xs ys : List (List Key × Addr × Value)} (hu : X.A.units + 200 < cLine) (I : Inv X pins σ H s) (ra : KT H ks xs) (rb : KT H ls ys)
    (h : ∀ p ∈ ks, ∃ v, valV ls p.1 = some v ∧ ∃ d e, Dp X.K H p.2 d ∧ Dp X.K H v e ∧ SeqAt.shaped d = true ∧ SeqAt.shaped e = true ∧ PyData.eqv d e = true) :
    ∀ x ∈ xs, ∃ p, atKey ys x.1 = some p ∧ SeqAt.EqP X.prog X.w X.A.in1 s x.2.2 p.2 true := by
  intro x hx
  obtain ⟨p, hp, e1, r1⟩ := kt_mem ra x hx
  obtain ⟨v, hv, d, e, hd, he, sd, se, hq⟩ := h p hp
  rw [e1] at hv
  obtain ⟨w', hw, rw'⟩ := RelO.some_of (v := v) (o := (atKey ys x.1).map (·.2)) (by rw [← hv]; exact rb.val x.1)
  obtain ⟨q, hq1, hq2⟩ := Option.map_eq_some_iff.mp hw
  refine ⟨q, hq1, ?_⟩
  obtain ⟨as, r1⟩ := Dp.reads I d _ _ hd r1
  obtain ⟨bs, r2⟩ := Dp.reads I e _ _ he rw'
  have z := SeqAt.eqAt_reads d e X.A.in1 s x.2.2 w' as bs r1 r2 (SeqAt.canLay_of_shaped sd) (SeqAt.canLay_of_shaped se) (SeqAt.room_of_shaped sd (by show X.A.units + 1 + 64 < cLine; omega))
  rw [hq, ← hq2] at z
  exact z.eqP
theorem opEqT (hu : X.A.units + 200 < cLine) : OpR X (compareOp .Eq) (mEqT X.K true) := by
  intro pins s σ H x y v u Q I rx ry h
  cases x <;> cases y <;> first
    | exact h.elim
    | skip
  rename_i a b
  obtain ⟨ks, ls, ea, eb, hl, hp, q⟩ := h
  obtain rfl : v = Value.ref a := rx
  obtain rfl : u = Value.ref b := ry
  obtain ⟨_, ya, xa, ra, da⟩ := dt_of I.hok ea
  obtain ⟨_, yb, xb, rb, db⟩ := dt_of I.hok eb
  exact eqH ya yb da db (tupleKind_room_in1 (by omega)) (by omega) (by rw [← Paired.length ra, ← Paired.length rb]; exact hl) (hitsT hu I ra rb hp) ⟨.bl true, H, I, rfl, q⟩
theorem opNeT (hu : X.A.units + 200 < cLine) : OpR X (compareOp .NotEq) (mEqT X.K false) := by
  intro pins s σ H x y v u Q I rx ry h
  cases x <;> cases y <;> first
    | exact h.elim
    | skip
  rename_i a b
  obtain ⟨ks, ls, ea, eb, hl, hp, q⟩ := h
  obtain rfl : v = Value.ref a := rx
  obtain rfl : u = Value.ref b := ry
  obtain ⟨_, ya, xa, ra, da⟩ := dt_of I.hok ea
  obtain ⟨_, yb, xb, rb, db⟩ := dt_of I.hok eb
  exact neH ya yb da db (tupleKind_room_in1 (by omega)) (by omega) (by rw [← Paired.length ra, ← Paired.length rb]; exact hl) (hitsT hu I ra rb hp) ⟨.bl false, H, I, rfl, q⟩
end
end T5
set_option maxHeartbeats 2000000
/-! more readings that reckon: methods of lists, dicts with keys of tuples -/
namespace T5
open PySem PySem.Spec PyProof.Rows L2 T3
section
variable {X : Cx}
/-- xs.pop() -/
def mPop (to : TE) : TE := fun σ H Q => to σ H fun x H1 => match x with
  | .ref l => ∃ xs y, H1 l = some (.lst (xs ++ [y])) ∧ Q y (upd H1 l (.lst xs))
  | _ => False
theorem mpop {o : Expr} {to : TE} {apos cpos : Pos} (ho : PE X o to)
    (hbase : attributeBase o "pop" X.env (eval o X.env) = eval o X.env := by rfl) (hline : (apos.endLine == cpos.line) = true := by rfl) :
    PE X (.Call (.Attribute o "pop" apos) [] [] cpos) (mPop to) := by
  refine PE.imp ?_ (pe_bm0 PySem.F.plainAttrs_list PySem.F.slot_list_pop PySem.F.type_list_pop mt_pop (mono_pe ho) hbase hline)
  intro σ H Q h
  refine ⟨_, h, ?_⟩
  intro v H1 h1
  cases v with
  | ref l =>
    obtain ⟨xs, y, hx, q⟩ := h1
    refine ⟨.inl ⟨rfl, _, SqL.of hx⟩, l, _, y, rfl, rfl, hx, ?_, ?_⟩
    · simp
    · rw [List.dropLast_concat]
      exact q
  | _ => exact h1.elim
def rExtT (K : PySem.W.Frag) : V → List V → Hp → VK → Prop := fun x vs H Q => ∃ l b xs zs, x = .ref l ∧ vs = [.ref b] ∧ H l = some (.lst xs) ∧ SqT K H b zs ∧ xs.length + zs.length ≤ sizeLine ∧ Q .non (upd H l (.lst (xs ++ zs)))
theorem mt_extT : MtM X "list.extend" (rExtT X.K) := by
  intro pins s σ H x vs v us Q I rx rv h
  obtain ⟨l, b, xs, zs, rfl, rfl, hH, hB, hz, q⟩ := h
  cases rx
  obtain ⟨u, rfl, ru⟩ := rv.one
  cases ru
  obtain ⟨z, its, n, r, hl, e⟩ := I.lstM hH
  obtain ⟨its2, r2, p2, z2⟩ := I.tuple hB
  obtain ⟨o2, e2, c2, n2, d2⟩ := id p2
  have hl2 := r2.length
  have hsz : its.toArray.size + its2.toArray.size ≤ sizeLine := by rw [List.size_toArray, List.size_toArray]; omega
  have hlong : ¬ (!its.toArray.isEmpty && Builtin.List.listTooLong (its.toArray.size + its2.toArray.size)) = true := by
    rw [notLongL hsz, Bool.and_false]
    exact Bool.false_ne_true
  have ht : s.TypeIs (.ref b) "tuple" := ⟨_, e2, c2⟩
  have hne : l ≠ b := fun z => by
    subst z
    rw [e] at e2
    cases e2
    exact absurd (show Value.type "list" = Value.type "tuple" from c2) (by decide)
  refine wpAny_call_entry F.slot_list_extend ⟨_, e, rfl⟩ F.entry_list_extend ?_ (F.args_list_extend_2 _ _)
  show wpAny _ _ (Builtin.List.listExtendWith (.ref l) (.ref b) .none) _ _ _
  unfold Builtin.List.listExtendWith
  refine wpAny_bind (wpAny_typeOf ht ?_)
  have h3 : (Value.type "tuple" == Value.type "tuple") = true := by decide
  simp only [h3, Bool.or_true, if_true]
  refine wpAny_bind ?_
  unfold Builtin.List.listItems
  refine wpAny_bind (wpAny_seqItems e2 d2 (wpAny_pure ?_))
  refine wpAny_bind (wpAny_bind (wpAny_seqItems e rfl (wpAny_pure ?_)))
  first
    | rw [if_neg hlong]
    | (refine wpAny_ite_split (fun z => absurd z hlong) (fun _ => ?_))
  first | refine wpAny_bind (wpAny_pure ?_) | skip
  show wpAny _ _ (updateSeq l (fun x => x ++ its2.toArray) >>= _) _ _ _
  refine wpAny_bind (wpAny_updateSeq (hz := by rw [List.size_toArray] at hsz ⊢; omega) (_hz' := by rw [Array.size_append]; omega) e rfl ?_)
  refine wpAny_pure ⟨.none, rfl, .non, _, I.lset (its' := its ++ its2) (t' := s.toks) hH e (by simp) (r.append r2) ?_, rfl, q⟩
  rw [List.length_append]
  omega
/-- xs.extend(e) -/
def mExt (K : PySem.W.Frag) (to ta : TE) : TS := fun D σ H => to σ H fun x H1 => match x with
  | .ref l => (∃ xs, H1 l = some (.lst xs)) ∧ ta σ H1 fun y H2 => match y with
    | .ref b => ∃ xs zs, H2 l = some (.lst xs) ∧ (H2 b = some (.lst zs) ∨ SqT K H2 b zs) ∧ xs.length + zs.length ≤ sizeLine ∧ D.nx σ (upd H2 l (.lst (xs ++ zs)))
    | _ => False
  | _ => False
theorem mt_ext2 : MtM X "list.extend" (fun x vs H Q => rExtend x vs H Q ∨ rExtT X.K x vs H Q) := by
  intro pins s σ H x vs v us Q I rx rv h
  rcases h with h | h
  · exact mt_extend pins s σ H x vs v us Q I rx rv h
  · exact mt_extT pins s σ H x vs v us Q I rx rv h
theorem mext {o e : Expr} {to ta : TE} {apos cpos pos : Pos} (ho : PE X o to) (ha : PE X e ta)
    (hbase : attributeBase o "extend" X.env (eval o X.env) = eval o X.env := by rfl)
    (hfew : ((backTo cpos (starEach [e] X.env)).all (fun x => !x.1) && (backToKw cpos (keywordEach [] X.env)).all (fun x => x.1.isSome)
      && decide (([e] : List Expr).length + ([] : List Keyword).length + (if ([] : List Keyword).isEmpty then 0 else 1) < 30)) = true := by rfl)
    (hline : (apos.endLine == cpos.line) = true := by rfl) (hs : starEach [e] X.env = (false, eval e X.env) :: starEach [] X.env := by rfl)
    (hplain : (backTo cpos (starEach [] X.env)).any (·.1) = false := by rfl)
    (hsw : swapsWith (.Call (.Attribute o "extend" apos) [e] [] cpos) none pos.line X.env = pure false := by rfl) :
    PS X (.Expr (.Call (.Attribute o "extend" apos) [e] [] cpos) pos) (mExt X.K to ta) := by
  refine PS.imp ?_ (ps_expr (pos := pos) (pe_bm PySem.F.plainAttrs_list PySem.F.slot_list_extend PySem.F.type_list_extend mt_ext2 (mono_pe ho) (pa_cons (mono_pe ha) pa_nil hs) hbase hfew hline hs hplain) hsw)
  intro D σ H h
  refine ⟨_, h, ?_⟩
  intro v H1 h1
  cases v with
  | ref l =>
    obtain ⟨⟨xs, hx⟩, h2⟩ := h1
    refine ⟨.inl ⟨rfl, xs, SqL.of hx⟩, _, h2, ?_⟩
    intro y H2 h3
    cases y with
    | ref b =>
      obtain ⟨ys, zs, e1, e2 | e2, e3, q⟩ := h3
      · exact .inl ⟨l, b, ys, zs, rfl, rfl, e1, e2, e3, q⟩
      · exact .inr ⟨l, b, ys, zs, rfl, rfl, e1, e2, e3, q⟩
    | _ => exact h3.elim
  | _ => exact h1.elim
/-- a list's truth -/
def mTru (K : PySem.W.Frag) (t : TE) : TT := fun σ H Q => t σ H fun x H1 => match x with
  | .ref p => ∃ xs, (SqL K H1 p xs ∨ SqT K H1 p xs) ∧ Q (!xs.isEmpty) H1
  | _ => False
theorem mtru {e : Expr} {t : TE} (h : PE X e t)
    (he : ∀ whole, isTrue e X.env whole = (do let v ← whole; standAt e.pos; holding [v] (truthy v)) := by intro _; rfl) : PT X e (mTru X.K t) := by
  refine PT.imp ?_ (pt_truth (mono_pe h) he)
  intro σ H Q h
  refine ⟨_, h, fun x H1 h1 => ?_⟩
  cases x with
  | ref p =>
    obtain ⟨xs, h1 | h1, q⟩ := h1
    · exact ⟨_, .inl ⟨xs, h1, rfl⟩, q⟩
    · exact ⟨_, .inr (.inl ⟨xs, h1, rfl⟩), q⟩
  | _ => exact h1.elim
/-- xs[::-1] -/
def mRev (K : PySem.W.Frag) (te : TE) : TE := fun σ H Q => te σ H fun x H1 => match x with
  | .ref a => ∃ xs, SqL K H1 a xs ∧ ∀ p, H1 p = none → Q (.ref p) (upd H1 p (.lst xs.reverse))
  | _ => False
theorem mrev {e : Expr} {te : TE} {k : Nat} {p1 p2 p3 pos : Pos} (he : PE X e te) : PE X (.Subscript e (.Slice none none (some (.UnaryOp .USub (.Constant (.int 1) k p1) p2)) p3) pos) (mRev X.K te) := by
  refine PE.imp ?_ (pe_revL (mono_pe he))
  intro σ H Q h
  refine ⟨_, h, fun x H1 h1 => ?_⟩
  cases x with
  | ref a =>
    obtain ⟨xs, h2, h3⟩ := h1
    exact ⟨a, xs, rfl, h2, h3⟩
  | _ => exact h1.elim
/-- list(a list or tuple) -/
def mList (K : PySem.W.Frag) : List V → Hp → VK → Prop := fun xs H Q => match xs with
  | [.ref p] => ∃ ys, (SqL K H p ys ∨ SqT K H p ys) ∧ ∀ l, H l = none → Q (.ref l) (upd H l (.lst ys))
  | _ => False
theorem callList : CallR X (.type "list") (mList X.K) := by
  refine CallR.imp call_list_of ?_
  intro xs H Q h
  match xs, h with
  | [.ref p], ⟨ys, h1, h2⟩ => exact ⟨p, ys, rfl, h1, h2⟩
/-- isinstance, tuples that stand in the module too -/
def mIsi2 (K : PySem.W.Frag) : List V → Hp → VK → Prop := fun xs H Q => match xs with
  | [.int _, .ty n] => ∃ b, kitB "int" n = some b ∧ Q (.bl b) H
  | [.ref a, .ty n] => (∃ ys, SqT K H a ys) ∧ ∃ b, kitB "tuple" n = some b ∧ Q (.bl b) H
  | _ => False
theorem callIsi2 : CallR X (.builtin "isinstance") (mIsi2 X.K) := by
  refine CallR.imp call_isi ?_
  intro xs H Q h
  match xs, h with
  | [.int z, .ty n], ⟨b, e, q⟩ => exact ⟨_, _, _, _, b, rfl, .ty n, .base (.int z), kit_ty e, q⟩
  | [.ref a, .ty n], ⟨⟨ys, ha⟩, b, e, q⟩ =>
    rcases ha with (ha | ⟨o, ha⟩) | ⟨o, its, n', hk, hc, _⟩
    · exact ⟨_, _, _, _, b, rfl, .ty n, .base (.tup ha), kit_ty e, q⟩
    · exact ⟨_, _, _, _, b, rfl, .ty n, .fTuple ha, kit_ty e, q⟩
    · exact ⟨_, _, _, _, b, rfl, .ty n, .kTuple hk hc, kit_ty e, q⟩

/-! ### dicts, their keys tuples -/
def mDGet : TE → TE → TE := fun td ty σ H Q => td σ H fun x H1 => match x with
  | .ref a => ty σ H1 fun y H2 => match y with
    | .ref b => ∃ kvs k v, H2 a = some (.dT kvs) ∧ H2 b = some (.tup (k.map kV)) ∧ valV kvs k = some v ∧ Q v H2
    | _ => False
  | _ => False
theorem mdget {o i : Expr} {td ty : TE} {pos : Pos} (hu : X.A.units + 1 < cLine) (ho : PE X o td) (hi : PE X i ty) (hs : NoSl i := by intro _ _; rfl) : PE X (.Subscript o i pos) (mDGet td ty) := by
  refine PE.imp ?_ (pe_dget hu (mono_pe ho) (mono_pe hi) hs)
  intro σ H Q h
  refine ⟨_, h, fun x H1 h1 => ?_⟩
  cases x with
  | ref a =>
    refine ⟨_, h1, fun y H2 h2 => ?_⟩
    cases y with
    | ref b =>
      obtain ⟨kvs, k, v, e1, e2, e3, q⟩ := h2
      refine ⟨a, v, rfl, ?_, q⟩
      rw [← e3]
      exact DGet.t e1 e2
    | _ => exact h2.elim
  | _ => exact h1.elim
def mNotInT : R2 := fun x y H Q => match x, y with
  | .ref b, .ref a => ∃ kvs k, H a = some (.dT kvs) ∧ H b = some (.tup (k.map kV)) ∧ Q (.bl (!(valV kvs k).isSome)) H
  | _, _ => False
theorem opNotInT (hu : X.A.units + 1 < cLine) : OpR X (compareOp .NotIn) mNotInT := by
  intro pins s σ H x y v u Q I rx ry h
  cases x <;> cases y <;> first
    | exact h.elim
    | skip
  rename_i b a
  obtain ⟨kvs, k, e1, e2, q⟩ := h
  obtain rfl : v = Value.ref b := rx
  obtain rfl : u = Value.ref a := ry
  exact d_notIn (o := valV kvs k) (y := .ref b) hu I (DGet.t e1 e2) rfl fun s' I' => ⟨.bl (!(valV kvs k).isSome), H, I', rfl, q⟩
def mInT : R2 := fun x y H Q => match x, y with
  | .ref b, .ref a => ∃ kvs k, H a = some (.dT kvs) ∧ H b = some (.tup (k.map kV)) ∧ Q (.bl (valV kvs k).isSome) H
  | _, _ => False
theorem opInT (hu : X.A.units + 1 < cLine) : OpR X (compareOp .In) mInT := by
  intro pins s σ H x y v u Q I rx ry h
  cases x <;> cases y <;> first
    | exact h.elim
    | skip
  rename_i b a
  obtain ⟨kvs, k, e1, e2, q⟩ := h
  obtain rfl : v = Value.ref b := rx
  obtain rfl : u = Value.ref a := ry
  exact d_in (o := valV kvs k) (y := .ref b) hu I (DGet.t e1 e2) rfl fun s' I' => ⟨.bl (valV kvs k).isSome, H, I', rfl, q⟩
def mSetT : V → V → V → Hp → (Hp → Prop) → Prop := fun o i v H Q => match o, i with
  | .ref a, .ref b => ∃ kvs k, H a = some (.dT kvs) ∧ H b = some (.tup (k.map kV)) ∧ kvs.length < sizeLine ∧ Q (upd H a (.dT (putK kvs k v)))
  | _, _ => False
theorem setT (hu : X.A.units + 1 < cLine) : PSet X mSetT := by
  intro pins s σ H o i v o' i' v' Q I ro ri rv q
  refine set_dict hu pins s σ H o i v o' i' v' Q I ro ri rv ?_
  cases o <;> cases i <;> first
    | exact q.elim
    | (obtain ⟨kvs, k, h1, h2, h3, h4⟩ := q; exact ⟨_, _, rfl, DPut.t h1 h2 h3, h4⟩)

/-! ### lists made by a comprehension over a range -/
def mLcR (ta : TE) (g : TG) (el : TE) (vs : List Nat) : TE := fun σ H Q => ta σ H fun v H1 => match v with
  | .int j => (-(2 ^ 62) ≤ j ∧ j < 2 ^ 62) ∧ ∀ D, H1 D = none → ∃ Pv : Nat → Hp → Prop, Pv 0 (upd H1 D (.lst [])) ∧
      (∀ (i : Nat) H, i < j.toNat → Pv i H → g (.int i) (wipe σ vs) H fun σ2 H2 => wipe σ2 vs = wipe σ vs ∧ el σ2 H2 fun y H3 =>
        ∃ acc, H3 D = some (.lst acc) ∧ acc.length < sizeLine ∧ Pv (i + 1) (upd H3 D (.lst (acc ++ [y])))) ∧ ∀ H, Pv j.toNat H → Q (.ref D) H
  | _ => False
theorem mlcR {elt tg a : Expr} {scope : Scope} {own : List (Str × Nat)} {p pos pos' : Pos} {g : TG} {ta el : TE} (hc : X.calm = true) (hN : X.N.Nodup) (hgr : Gl X "range") (hm : X.mg "range" = none) (ha : PE X a ta) (ok : BlkOk X.N X.env.scope scope own)
    (hg : ∀ (s : Shared) (H : Hp) (C : Addr) (cl : List (Str × Addr)) (fp : List Addr), PG (X.blk s H scope (compEnvC scope cl C X.env) fp) tg g)
    (he : ∀ (s : Shared) (H : Hp) (C : Addr) (cl : List (Str × Addr)) (fp : List Addr), PE (X.blk s H scope (compEnvC scope cl C X.env) fp) elt el)
    (hsa : starEach [a] X.env = (false, eval a X.env) :: starEach [] X.env := by rfl)
    (hs : ∀ x, foldedSetIterable (.Call (.Name "range" p) [a] [] pos') X.env x = pure x := by intro _; rfl) : PE X (.ListComp elt [⟨tg, .Call (.Name "range" p) [a] [] pos', [], 0⟩] scope pos) (mLcR ta g el (own.map (·.2))) := by
  refine PE.imp ?_ (pe_lc hc hN (pi_range1 (tg := tg) (p := p) (pos := pos') hgr hm (pa_cons (mono_pe ha) pa_nil hsa) hsa) ok hg (fun _ _ _ _ _ => pts_nil) he hs)
  intro σ H Q h
  refine ⟨_, h, ?_⟩
  intro v H1 h1
  cases v with
  | int j =>
    obtain ⟨h2, h3⟩ := h1
    refine ⟨j, rfl, h2.1, h2.2, fun D hD => ?_⟩
    obtain ⟨Pv, p0, ps, pd⟩ := h3 D hD
    refine lc_range (lo := 0) (n := j.toNat) Pv p0 ?_ pd
    intro i H hi hP
    have z := ps i H hi hP
    rw [Int.zero_add]
    exact z
  | _ => exact h1.elim
end
end T5
set_option maxHeartbeats 2000000
/-! data that stays (Td), heaps that change at few places (Chg), cells, rows, the machine -/
namespace T5
open PySem PySem.Spec PyProof.Rows L2 T3
def Tt (K : PySem.W.Frag) (H : Hp) (a : Addr) (xs : List V) : Prop := H a = some (.tup xs) ∨ ∀ H', SqT K H' a xs
theorem Tt.sq {K : PySem.W.Frag} {H : Hp} {a : Addr} {xs : List V} (h : Tt K H a xs) : SqT K H a xs := h.elim SqT.of fun h => h H
theorem Tt.keep {K : PySem.W.Frag} {H H' : Hp} (k : Ktp H H') {a : Addr} {xs : List V} (h : Tt K H a xs) : Tt K H' a xs := h.elim (fun h => .inl (k _ _ h)) .inr
mutual
inductive Td (K : PySem.W.Frag) (H : Hp) : V → PyData → Prop
  | int (i : Int) : Td K H (.int i) (.int i)
  | str (x : Str) : Td K H (.str x) (.str x)
  | tup {a : Addr} {xs : List V} {ds : List PyData} : Tt K H a xs → TdAll K H xs ds → Td K H (.ref a) (.tuple ds)
inductive TdAll (K : PySem.W.Frag) (H : Hp) : List V → List PyData → Prop
  | nil : TdAll K H [] []
  | cons {v : V} {vs : List V} {d : PyData} {ds : List PyData} : Td K H v d → TdAll K H vs ds → TdAll K H (v :: vs) (d :: ds)
end
section
variable {K : PySem.W.Frag}
mutual
theorem Td.keep {H H' : Hp} (k : Ktp H H') : ∀ {v : V} {d : PyData}, Td K H v d → Td K H' v d
  | _, _, .int i => .int i
  | _, _, .str x => .str x
  | _, _, .tup h t => .tup (h.keep k) (TdAll.keep k t)
theorem TdAll.keep {H H' : Hp} (k : Ktp H H') : ∀ {v : List V} {d : List PyData}, TdAll K H v d → TdAll K H' v d
  | _, _, .nil => .nil
  | _, _, .cons h t => .cons (Td.keep k h) (TdAll.keep k t)
end
mutual
theorem Td.dp {H : Hp} : ∀ {v : V} {d : PyData}, Td K H v d → Dp K H v d
  | _, _, .int i => .int i
  | _, _, .str x => .str x
  | _, _, .tup h t => .tup h.sq (TdAll.dp t)
theorem TdAll.dp {H : Hp} : ∀ {v : List V} {d : List PyData}, TdAll K H v d → DpAll K H v d
  | _, _, .nil => .nil
  | _, _, .cons h t => .cons (Td.dp h) (TdAll.dp t)
end
theorem TdAll.length {H : Hp} : ∀ {v : List V} {d : List PyData}, TdAll K H v d → v.length = d.length
  | _, _, .nil => rfl
  | _, _, .cons _ t => by
    rw [List.length_cons, List.length_cons, t.length]
theorem TdAll.app {H : Hp} : ∀ {v w : List V} {d e : List PyData}, TdAll K H v d → TdAll K H w e → TdAll K H (v ++ w) (d ++ e)
  | _, _, _, _, .nil, h => h
  | _, _, _, _, .cons a t, h => .cons a (TdAll.app t h)
theorem TdAll.snoc {H : Hp} {v : List V} {d : List PyData} {x : V} {e : PyData} (h : TdAll K H v d) (g : Td K H x e) : TdAll K H (v ++ [x]) (d ++ [e]) := h.app (.cons g .nil)
theorem TdAll.rev {H : Hp} : ∀ {v : List V} {d : List PyData}, TdAll K H v d → TdAll K H v.reverse d.reverse
  | _, _, .nil => .nil
  | _, _, .cons a t => by
    rw [List.reverse_cons, List.reverse_cons]
    exact t.rev.snoc a
theorem TdAll.take {H : Hp} : ∀ {v : List V} {d : List PyData} (n : Nat), TdAll K H v d → TdAll K H (v.take n) (d.take n)
  | _, _, 0, _ => by
    rw [List.take_zero, List.take_zero]
    exact .nil
  | _, _, _ + 1, .nil => .nil
  | _, _, n + 1, .cons a t => .cons a (t.take n)
theorem TdAll.drop {H : Hp} : ∀ {v : List V} {d : List PyData} (n : Nat), TdAll K H v d → TdAll K H (v.drop n) (d.drop n)
  | _, _, 0, h => h
  | _, _, _ + 1, .nil => .nil
  | _, _, n + 1, .cons a t => t.drop n
theorem TdAll.get {H : Hp} : ∀ {v : List V} {d : List PyData} {i : Nat} {e : PyData}, TdAll K H v d → d[i]? = some e → ∃ x, v[i]? = some x ∧ Td K H x e
  | _, _, _, _, .nil, h => by simp at h
  | _, _, 0, _, .cons a t, h => by
    simp at h
    subst h
    exact ⟨_, rfl, a⟩
  | _, _, i + 1, _, .cons a t, h => by
    obtain ⟨e, h1, h2⟩ := TdAll.get (i := i) t (by simpa using h)
    exact ⟨e, by simpa using h1, h2⟩
theorem TdAll.getV {H : Hp} : ∀ {v : List V} {d : List PyData} {i : Nat} {x : V}, TdAll K H v d → v[i]? = some x → ∃ e, d[i]? = some e ∧ Td K H x e
  | _, _, _, _, .nil, h => by simp at h
  | _, _, 0, _, .cons a t, h => by
    simp at h
    subst h
    exact ⟨_, rfl, a⟩
  | _, _, i + 1, _, .cons a t, h => by
    obtain ⟨e, h1, h2⟩ := TdAll.getV (i := i) t (by simpa using h)
    exact ⟨e, by simpa using h1, h2⟩
theorem TdAll.split {H : Hp} : ∀ {v : List V} {d e : List PyData}, TdAll K H v (d ++ e) → ∃ v1 v2, v = v1 ++ v2 ∧ TdAll K H v1 d ∧ TdAll K H v2 e
  | v, [], e, h => ⟨[], v, rfl, .nil, h⟩
  | _, x :: d, e, .cons a t => by
    obtain ⟨v1, v2, rfl, h1, h2⟩ := TdAll.split (d := d) t
    exact ⟨_ :: v1, v2, rfl, .cons a h1, h2⟩
theorem TdAll.last {H : Hp} {v : List V} {d : List PyData} {e : PyData} (h : TdAll K H v (d ++ [e])) : ∃ v1 x, v = v1 ++ [x] ∧ TdAll K H v1 d ∧ Td K H x e := by
  obtain ⟨v1, v2, rfl, h1, h2⟩ := h.split
  cases h2 with
  | cons a t =>
    cases t
    exact ⟨v1, _, rfl, h1, a⟩
theorem Td.tuple {H : Hp} {v : V} {ds : List PyData} (h : Td K H v (.tuple ds)) : ∃ a xs, v = .ref a ∧ Tt K H a xs ∧ TdAll K H xs ds := by
  cases h with
  | tup h t => exact ⟨_, _, rfl, h, t⟩
theorem Td.int_eq {H : Hp} {v : V} {i : Int} (h : Td K H v (.int i)) : v = .int i := by
  cases h
  rfl
theorem Td.str_eq {H : Hp} {v : V} {i : Str} (h : Td K H v (.str i)) : v = .str i := by
  cases h
  rfl
theorem TdAll.ints {H : Hp} : ∀ {v : List V} {ns : List Int}, TdAll K H v (ns.map PyData.int) → v = ns.map V.int
  | _, [], .nil => rfl
  | _, n :: ns, .cons a t => by
    rw [a.int_eq, t.ints]
    rfl
theorem TdAll.ofInts {H : Hp} : ∀ ns : List Int, TdAll K H (ns.map V.int) (ns.map PyData.int)
  | [] => .nil
  | n :: ns => .cons (.int n) (TdAll.ofInts ns)
end

/-! ### heaps -/
def Fr (L : List Addr) (H H' : Hp) : Prop := ∀ a o, a ∉ L → H a = some o → H' a = some o
structure Chg (L : List Addr) (H H' : Hp) : Prop where
  fr : Fr L H H'
  kt : Ktp H H'
theorem Chg.refl (L : List Addr) (H : Hp) : Chg L H H := ⟨fun _ _ _ e => e, Ktp.refl H⟩
theorem Chg.trans {L : List Addr} {H H1 H2 : Hp} (a : Chg L H H1) (b : Chg L H1 H2) : Chg L H H2 := ⟨fun x o hx e => b.fr x o hx (a.fr x o hx e), a.kt.trans b.kt⟩
theorem Chg.new {L : List Addr} {H : Hp} {p : Addr} {o : HO} (h : H p = none) : Chg L H (upd H p o) := ⟨fun a u _ e => by
  rw [upd_ne (ne_of_none e h)]
  exact e, Ktp.new h⟩
theorem Chg.lst {L : List Addr} {H : Hp} {p : Addr} {ys zs : List V} (hp : p ∈ L) (h : H p = some (.lst ys)) : Chg L H (upd H p (.lst zs)) := ⟨fun a u ha e => by
  rw [upd_ne (fun z => ha (by rw [z]; exact hp))]
  exact e, Ktp.lst h⟩
theorem Chg.dt {L : List Addr} {H : Hp} {p : Addr} {ys zs : List (List Key × V)} (hp : p ∈ L) (h : H p = some (.dT ys)) : Chg L H (upd H p (.dT zs)) := ⟨fun a u ha e => by
  rw [upd_ne (fun z => ha (by rw [z]; exact hp))]
  exact e, fun a xs e => by
  rw [upd_ne (ne_of e h (fun z => nomatch z))]
  exact e⟩
theorem Chg.grow {L : List Addr} {H H' : Hp} (h : ∀ a o, H a = some o → H' a = some o) : Chg L H H' := ⟨fun a o _ e => h a o e, fun a xs e => h a _ e⟩
theorem Chg.mono {L L' : List Addr} {H H' : Hp} (h : Chg L H H') (l : ∀ a ∈ L, a ∈ L') : Chg L' H H' := ⟨fun a o ha e => h.fr a o (fun z => ha (l a z)) e, h.kt⟩
theorem Chg.get {L : List Addr} {H H' : Hp} {a : Addr} {o : HO} (h : Chg L H H') (ha : a ∉ L) (e : H a = some o) : H' a = some o := h.fr a o ha e
theorem Chg.old {H H' : Hp} {a : Addr} (h : Chg [] H H') (e : H' a = none) : H a = none := by
  cases q : H a with
  | none => rfl
  | some o =>
    rw [h.fr a o (by simp) q] at e
    cases e
/-- what is written at new places is no change of what was -/
theorem Chg.fresh {L : List Addr} {H0 H H' : Hp} (h : Chg [] H0 H) (g : Chg L H H') (hL : ∀ a ∈ L, H0 a = none) : Chg [] H0 H' := ⟨fun a o _ e => g.fr a o (fun z => by rw [hL a z] at e; cases e) (h.fr a o (by simp) e), h.kt.trans g.kt⟩

/-! ### cells and rows -/
inductive Cell where
  | mk (n : Int) (ps : List Cell) : Cell
mutual
def Cell.d : Cell → PyData
  | .mk n ps => .tuple [.int n, .tuple (Cell.ds ps)]
def Cell.ds : List Cell → List PyData
  | [] => []
  | c :: cs => c.d :: Cell.ds cs
end
mutual
def Cell.size : Cell → Nat
  | .mk _ ps => Cell.sizes ps + 1
def Cell.sizes : List Cell → Nat
  | [] => 0
  | c :: cs => c.size + Cell.sizes cs
end
theorem Cell.ds_map : ∀ cs : List Cell, Cell.ds cs = cs.map Cell.d
  | [] => rfl
  | c :: cs => by rw [Cell.ds, Cell.ds_map cs, List.map_cons]
theorem Cell.sizes_app : ∀ cs ds : List Cell, Cell.sizes (cs ++ ds) = Cell.sizes cs + Cell.sizes ds
  | [], ds => by rw [List.nil_append, Cell.sizes, Nat.zero_add]
  | c :: cs, ds => by rw [List.cons_append, Cell.sizes, Cell.sizes, Cell.sizes_app cs ds, Nat.add_assoc]
theorem Cell.size_pos : ∀ c : Cell, 0 < c.size
  | .mk _ ps => by
    rw [Cell.size]
    omega
theorem Cell.sizes_len : ∀ cs : List Cell, cs.length ≤ Cell.sizes cs
  | [] => Nat.zero_le _
  | c :: cs => by
    rw [Cell.sizes, List.length_cons]
    have := c.size_pos
    have := Cell.sizes_len cs
    omega
theorem Cell.sizes_one (c : Cell) : Cell.sizes [c] = c.size := by
  rw [Cell.sizes, Cell.sizes]
  rfl
mutual
theorem Cell.lay : ∀ c : Cell, c.d.canLay0 = true ∧ c.d.depth ≤ 2 * c.size
  | .mk n ps => by
    obtain ⟨h1, h2⟩ := Cell.lays ps
    rw [Cell.d, Cell.size]
    simp only [PyData.canLay0, PyData.canLayAll0, PyData.depth, PyData.depthAll, h1, Bool.and_self, true_and]
    omega
theorem Cell.lays : ∀ cs : List Cell, PyData.canLayAll0 (Cell.ds cs) = true ∧ PyData.depthAll (Cell.ds cs) ≤ 2 * Cell.sizes cs
  | [] => ⟨rfl, Nat.le_refl _⟩
  | c :: cs => by
    obtain ⟨h1, h2⟩ := Cell.lay c
    obtain ⟨h3, h4⟩ := Cell.lays cs
    rw [Cell.ds, Cell.sizes]
    simp only [PyData.canLayAll0, PyData.depthAll, h1, h3, Bool.and_self, true_and]
    omega
end
theorem Cell.shaped (c : Cell) (h : c.size ≤ 32) : SeqAt.shaped c.d = true := by
  obtain ⟨h1, h2⟩ := c.lay
  unfold SeqAt.shaped
  rw [h1, decide_eq_true (by omega)]
  rfl
inductive Row where
  | loc (i : Nat)
  | drop
  | keep
  | forget (n : Nat)
  | part (i : Nat)
  | make (n : Int) (k : Nat)
  | same
  | is (n : Int) (t : Nat)
  | go (t : Nat)
  | call (m f : Str) (k : Nat)
  | back
def Row.d : Row → PyData
  | .loc i => .tuple [.str "local", .int i]
  | .drop => .tuple [.str "drop"]
  | .keep => .tuple [.str "keep"]
  | .forget n => .tuple [.str "forget", .int n]
  | .part n => .tuple [.str "part", .int n]
  | .make n k => .tuple [.str "make", .int n, .int k]
  | .same => .tuple [.str "same"]
  | .is n t => .tuple [.str "is", .int n, .int t]
  | .go t => .tuple [.str "go", .int t]
  | .call m f k => .tuple [.str "call", .str m, .str f, .int k]
  | .back => .tuple [.str "back"]
def yn (b : Bool) : Cell := .mk (if b then 1 else 0) []
inductive Do : Row → List Cell → List Cell → List Cell → List Cell → Prop
  | loc {i : Nat} {c : Cell} {h s : List Cell} : h[i]? = some c → Do (.loc i) h s h (s ++ [c])
  | drop {c : Cell} {h s : List Cell} : Do .drop h (s ++ [c]) h s
  | keep {c : Cell} {h s : List Cell} : Do .keep h (s ++ [c]) (h ++ [c]) s
  | forget {n : Nat} {h s : List Cell} : n ≤ h.length → Do (.forget n) h s (h.take (h.length - n)) s
  | part {i : Nat} {n : Int} {ps : List Cell} {p : Cell} {h s : List Cell} : ps[i]? = some p → Do (.part i) h (s ++ [.mk n ps]) h (s ++ [p])
  | make {n : Int} {k : Nat} {cs h s : List Cell} : cs.length = k → (Cell.mk n cs).size ≤ 256 → Do (.make n k) h (s ++ cs) h (s ++ [.mk n cs])
  | same {a b : Cell} {h s : List Cell} : a.size ≤ 32 → b.size ≤ 32 → Do .same h (s ++ [a] ++ [b]) h (s ++ [yn (PyData.eqv b.d a.d)])
theorem Do.len {r : Row} {h s h' s' : List Cell} (q : Do r h s h' s') : h'.length + s'.length ≤ h.length + s.length + 1 := by
  cases q <;> simp only [List.length_append, List.length_take, List.length_cons, List.length_nil] <;> omega
structure Frame where
  rows : List Row
  «at» : Nat
  held : List Cell
  stack : List Cell
abbrev Built := Str → Str → Option (Nat × List Row)
/-- from here the machine ends with this cell in so many rows -/
inductive Go (B : Built) : List Frame → List Row → Nat → List Cell → List Cell → Cell → Nat → Prop
  | row {fs : List Frame} {rows : List Row} {i n : Nat} {r : Row} {h s h' s' : List Cell} {c : Cell} : rows[i]? = some r → Do r h s h' s' → Go B fs rows (i + 1) h' s' c n → Go B fs rows i h s c (n + 1)
  | go {fs : List Frame} {rows : List Row} {i t n : Nat} {h s : List Cell} {c : Cell} : rows[i]? = some (.go t) → Go B fs rows t h s c n → Go B fs rows i h s c (n + 1)
  | is {fs : List Frame} {rows : List Row} {i t n : Nat} {k m : Int} {ps h s : List Cell} {c : Cell} : rows[i]? = some (.is k t) → Go B fs rows (if m = k then i + 1 else t) h (s ++ [.mk m ps]) c n → Go B fs rows i h (s ++ [.mk m ps]) c (n + 1)
  | call {fs : List Frame} {rows rows' : List Row} {i k n : Nat} {m f : Str} {given h s : List Cell} {c : Cell} : rows[i]? = some (.call m f k) → B m f = some (k, rows') → given.length = k → Go B (fs ++ [⟨rows, i + 1, h, s⟩]) rows' 0 given [] c n → Go B fs rows i h (s ++ given) c (n + 1)
  | back {fs : List Frame} {rows rows' : List Row} {i i' n : Nat} {h s h' s' : List Cell} {c1 c : Cell} : rows[i]? = some .back → Go B fs rows' i' h' (s' ++ [c1]) c n → Go B (fs ++ [⟨rows', i', h', s'⟩]) rows i h (s ++ [c1]) c (n + 1)
  | done {rows : List Row} {i : Nat} {h s : List Cell} {c : Cell} : rows[i]? = some .back → Go B [] rows i h (s ++ [c]) c 1
/-! ### lists of cells in the heap -/
def LC (K : PySem.W.Frag) (H : Hp) (a : Addr) (cs : List Cell) : Prop := ∃ vs, H a = some (.lst vs) ∧ TdAll K H vs (cs.map Cell.d)
theorem LC.chg {K : PySem.W.Frag} {L : List Addr} {H H' : Hp} {a : Addr} {cs : List Cell} (h : LC K H a cs) (g : Chg L H H') (ha : a ∉ L) : LC K H' a cs := by
  obtain ⟨vs, h1, h2⟩ := h
  exact ⟨vs, g.get ha h1, h2.keep g.kt⟩
end T5
set_option maxHeartbeats 2000000
namespace T5
open PySem PySem.Spec PyProof.Rows L2 T3
def topS (i : Nat) : Stmt := PySem.Challenge.pw_asiffresh_k89_cells_compared_and_apart.main.body.getD i (.Pass ⟨0, 0, 0, 0⟩)
def GI (mg : Str → Option Value) (x : Str) (i : Int) : Prop := ∃ t, mg x = some (.int i t)
def GD (K : PySem.W.Frag) (mg : Str → Option Value) (x : Str) (d : PyData) : Prop := ∃ p, mg x = some (.ref p) ∧ ∀ H, Td K H (.ref p) d
section
variable {X : Cx}
theorem pe_gi {x : Str} {i : Int} {pos : Pos} (hg : Gl X x) (h : GI X.mg x i) (hd : (x == ("__debug__" : Str)) = false := by decide) : PE X (.Name x pos) (tC (.int i)) := by
  obtain ⟨t, h⟩ := h
  exact pe_glob hg h ⟨t, rfl⟩ hd
def mGD (K : PySem.W.Frag) (d : PyData) : TE := fun _ H Q => ∀ p, (∀ H, Td K H (.ref p) d) → Q (.ref p) H
theorem pe_gd {x : Str} {d : PyData} {pos : Pos} (hg : Gl X x) (h : GD X.K X.mg x d) (hd : (x == ("__debug__" : Str)) = false := by decide) : PE X (.Name x pos) (mGD X.K d) := by
  obtain ⟨p, h, hp⟩ := h
  exact PE.imp (fun σ H Q q => q p hp) (pe_glob hg h rfl hd)
end
theorem hu1 {k : Nat} {A : Around} (hr : Room k A) : A.units + 1 < cLine := by
  have := hr.un
  omega
theorem hu200 {k : Nat} {A : Around} (hr : Room k A) : A.units + 200 < cLine := by
  have := hr.un
  omega
/-- what the top has left -/
structure Top (K : PySem.W.Frag) (mg : Str → Option Value) : Prop where
  len : mg "len" = none
  int : mg "int" = none
  bool : mg "bool" = none
  max : mg "max" = none
  list : mg "list" = none
  zip : mg "zip" = none
  tuple : mg "tuple" = none
  range : mg "range" = none
  isinstance : mg "isinstance" = none
  MOST_CALLS : GI mg "MOST_CALLS" 100000
  MOST_ROWS : GI mg "MOST_ROWS" 1000000
  MOST_CELLS : GI mg "MOST_CELLS" 256
  NO : GD K mg "NO" (yn false).d
  YES : GD K mg "YES" (yn true).d
theorem cutV_from {xs : List V} {n : Nat} (h : n ≤ xs.length) : cutV xs (some (n : Int)) none = xs.drop n := by
  unfold cutV
  rw [HT.sIx_nat, HT.sIx_none]
  rw [show min n xs.length = n by omega]
  exact List.take_of_length_le (by rw [List.length_drop]; exact Nat.le_refl _)
abbrev st_popped : Stmt := topS 6
theorem sc_popped : FnScope ["stack", "many", "first", "row"] ["stack", "many"] (defScope st_popped) := ⟨rfl, rfl, rfl, by decide +kernel, rfl, by decide +kernel, by decide +kernel⟩
abbrev st_rows_for : Stmt := topS 13
theorem sc_rows_for : FnScope ["built", "pair", "many", "givens", "rows"] ["built", "pair", "many"] (defScope st_rows_for) := ⟨rfl, rfl, rfl, by decide +kernel, rfl, by decide +kernel, by decide +kernel⟩
abbrev st_is_great : Stmt := topS 14
theorem sc_is_great : FnScope ["cell", "todo", "many"] ["cell"] (defScope st_is_great) := ⟨rfl, rfl, rfl, by decide +kernel, rfl, by decide +kernel, by decide +kernel⟩
section
variable {P : Program} {w : World} {K : PySem.W.Frag} {mg : Str → Option Value} {base : Heap}
def sp_popped (K : PySem.W.Frag) : Sp := fun vs H Q _ => match vs with
  | [.ref st, .int m] => ∃ s0 gv : List Cell, m = gv.length ∧ LC K H st (s0 ++ gv) ∧ ∀ p H', H p = none → Chg [st] H H' → LC K H' p gv → LC K H' st s0 → Q (.ref p) H'
  | _ => False
theorem ok_popped {f : Addr} {fd : FuncData} (F : Fun K "popped" "popped" st_popped f fd) (T : Top K mg) : FnOk P w K mg base CX0 1 f fd ["stack", "many"] (sp_popped K) := by
  refine F.ok sc_popped (fun vs H Q E h => ?_) (fun cdv A outer s H vs Q E hr h => ?_)
  · match vs, h with
    | [.ref z, .int a], _ => rfl
  match vs, h with
  | [.ref st, .int m], h =>
  obtain ⟨s0, gv, rfl, ⟨vs, hs, tv⟩, q⟩ := h
  have lv := tv.length
  rw [List.length_map, List.length_append] at lv
  rw [List.map_append] at tv
  obtain ⟨v1, v2, rfl, t1, t2⟩ := tv.split
  have l1 := t1.length
  have l2 := t2.length
  rw [List.length_map] at l1 l2
  refine ⟨_, (pss_cons (ps_set (i := 2) sc_popped.nd rfl (.inl rfl) (pe_op opSub (pe_callB callLen (by rfl) T.len (by decide +kernel) (pa_cons (mv 0) pa_nil)) (mv 1)))
(pss_cons (ps_set (i := 3) sc_popped.nd rfl (.inl rfl) (pe_slice slM (mv 0) (pom (mv 2)) po_none))
(pss_cons (mdelF (mv 0) (pom (mv 2)))
(pss_one (ps_ret (mv 3))))))
  , ?_⟩
  have e0 : ((v1 ++ v2).length : Int) - (gv.length : Int) = ((v1.length : Nat) : Int) := by
    rw [List.length_append]
    omega
  have ec : cutV (v1 ++ v2) (some (((v1 ++ v2).length : Int) - (gv.length : Int))) none = v2 := by
    rw [e0, cutV_from (by rw [List.length_append]; omega), List.drop_left]
  refine ⟨v1 ++ v2, .inl (SqL.of hs), v1 ++ v2, SqL.of hs, fun p hp => ⟨v1 ++ v2, v1.length, congrArg some e0, ?_, by rw [List.length_append]; omega, ?_⟩⟩
  · show upd H p (.lst (cutV (v1 ++ v2) (some (((v1 ++ v2).length : Int) - (gv.length : Int))) none)) st = some (.lst (v1 ++ v2))
    rw [upd_ne (ne_of_none hs hp)]
    exact hs
  · show Q (.ref p) (upd (upd H p (.lst (cutV (v1 ++ v2) (some (((v1 ++ v2).length : Int) - (gv.length : Int))) none))) st (.lst ((v1 ++ v2).take v1.length)))
    rw [ec, List.take_left]
    have c : Chg [st] H (upd (upd H p (.lst v2)) st (.lst v1)) := (Chg.new hp).trans (Chg.lst (by simp) (by rw [upd_ne (ne_of_none hs hp)]; exact hs))
    refine q p _ hp c ⟨v2, ?_, t2.keep c.kt⟩ ⟨v1, upd_same, t1.keep c.kt⟩
    rw [upd_ne (ne_of_none hs hp).symm]
    exact upd_same

/-- the dict of what is built -/
def BT (K : PySem.W.Frag) (H : Hp) (d : Addr) (B : Built) : Prop := ∃ kvs, H d = some (.dT kvs) ∧ ∀ m f n rows, B m f = some (n, rows) → ∃ v, valV kvs [.inr m, .inr f] = some v ∧ Td K H v (.tuple [.int (n : Nat), .tuple (rows.map Row.d)])
theorem BT.chg {L : List Addr} {H H' : Hp} {d : Addr} {B : Built} (h : BT K H d B) (g : Chg L H H') (hd : d ∉ L) : BT K H' d B := by
  obtain ⟨kvs, h1, h2⟩ := h
  refine ⟨kvs, g.get hd h1, fun m f n rows e => ?_⟩
  obtain ⟨v, e1, e2⟩ := h2 m f n rows e
  exact ⟨v, e1, e2.keep g.kt⟩
def sp_rows_for (K : PySem.W.Frag) : Sp := fun vs H Q _ => match vs with
  | [.ref d, .ref p, .int k] => ∃ (B : Built) (m f : Str) (n : Nat) (rows : List Row), k = n ∧ BT K H d B ∧ H p = some (.tup [.str m, .str f]) ∧ B m f = some (n, rows) ∧ ∀ v, Td K H v (.tuple (rows.map Row.d)) → Q v H
  | _ => False
theorem ok_rows_for {f : Addr} {fd : FuncData} (F : Fun K "rows_for" "rows_for" st_rows_for f fd) (T : Top K mg) : FnOk P w K mg base CX0 1 f fd ["built", "pair", "many"] (sp_rows_for K) := by
  refine F.ok sc_rows_for (fun vs H Q E h => ?_) (fun cdv A outer s H vs Q E hr h => ?_)
  · match vs, h with
    | [.ref z, .ref y, .int a], _ => rfl
  match vs, h with
  | [.ref d, .ref p, .int k], h =>
  obtain ⟨B, m, f, n, rows, rfl, ⟨kvs, hd, hB⟩, hp, hb, q⟩ := h
  obtain ⟨v, e1, tv⟩ := hB m f n rows hb
  obtain ⟨a, xs, rfl, ta, txs⟩ := tv.tuple
  refine ⟨_, (pss_cons (mif (mcmp (opNotInT (hu1 hr)) (mv 1) (mv 0))
(pss_one ps_never)
pss_nil)
(pss_cons (ps_asg (mdget (hu1 hr) (mv 0) (mv 1)) (pg_tup rfl (pgs_cons (pg_name (i := 3) sc_rows_for.nd rfl (.inl rfl)) (pgs_cons (pg_name (i := 4) sc_rows_for.nd rfl (.inl rfl)) pgs_nil))))
(pss_cons (mif (mcmp opNe (mv 3) (mv 2))
(pss_one ps_never)
pss_nil)
(pss_one (ps_ret (mv 4))))))
  , ?_⟩
  have hp' : H p = some (.tup (([.inr m, .inr f] : List Key).map kV)) := hp
  refine ⟨kvs, _, hd, hp', ?_, ?_⟩
  · rw [e1]
    intro z
    cases z
  · intro _
    refine ⟨kvs, _, _, hd, hp', e1, a, xs, rfl, ta.sq, txs.length, ?_⟩
    cases txs with
    | cons t1 t2 =>
      cases t2 with
      | cons t3 t4 =>
        cases t4
        cases t1
        refine ⟨_, _, rfl, _, _, rfl, rfl, fun z => ?_, fun _ => q _ t3⟩
        simp at z
def sp_is_great (K : PySem.W.Frag) : Sp := fun vs H Q _ => match vs with
  | [v] => ∃ c : Cell, Td K H v c.d ∧ c.size ≤ 1000000 ∧ ∀ H', Chg [] H H' → Q (.bl (decide (256 < c.size))) H'
  | _ => False
theorem ok_is_great {f : Addr} {fd : FuncData} (F : Fun K "is_great" "is_great" st_is_great f fd) (T : Top K mg) : FnOk P w K mg base CX0 1 f fd ["cell"] (sp_is_great K) := by
  refine F.ok sc_is_great (fun vs H Q E h => ?_) (fun cdv A outer s H vs Q E hr h => ?_)
  · match vs, h with
    | [z], _ => rfl
  match vs, h with
  | [v], h =>
  obtain ⟨c, tv, hz, q⟩ := h
  refine ⟨_, (pss_cons (ps_par (i := 1) (j := 2) rfl sc_is_great.nd rfl rfl (by decide) rfl rfl (pa_cons (pe_lst (pa_cons (mv 0) pa_nil)) (pa_cons pe_int pa_nil)) (by rfl))
(pss_cons (mwhile PassesOwn.never (mtru (mv 1))
(pss_cons (maug (i := 2) sc_is_great.nd rfl (.inl rfl) pe_int ipAdd)
(pss_cons (mif (mcmp opGt (mv 2) (pe_gi (by rfl) T.MOST_CELLS))
(pss_one (ps_ret pe_bl))
pss_nil)
(pss_one (mext (mv 1) (pe_ix ixM (mpop (mv 1)) pe_int (fun _ _ => rfl)))))))
(pss_one (ps_ret pe_bl))))
  , ?_⟩
  refine ⟨(by rw [sizeLine_eq]; show 1 ≤ 16777216; omega), fun p hp => ⟨_, _, rfl, fun σ H1 => ∃ (cs : List Cell) (m : Nat) (p' : Addr), σ = [some v, some (.ref p'), some (.int m)] ∧ H p' = none ∧ LC K H1 p' cs ∧ Chg [] H H1 ∧ m + Cell.sizes cs = c.size ∧ m ≤ 256,
    fun σ H1 => c.size + 1 - (match σ with | [_, _, some (.int m)] => m.toNat | _ => 0), ?_, ?_⟩⟩
  · have c0 : Chg [] H (upd H p (.lst [v])) := Chg.new hp
    refine ⟨[c], 0, p, rfl, hp, ⟨[v], upd_same, .cons (tv.keep c0.kt) .nil⟩, c0, ?_, by decide⟩
    rw [Cell.sizes_one]
    omega
  · rintro σ H1 ⟨cs, m, p', rfl, hp', ⟨vs, hl, tl⟩, c1, hs, hm⟩
    refine ⟨vs, .inl (SqL.of hl), fun hb => ?_, fun hb => ?_⟩
    · -- a cell is there
      have hne : cs ≠ [] := fun z => by
        subst z
        cases tl
        cases hb
      obtain ⟨cs', d, rfl⟩ : ∃ cs' d, cs = cs' ++ [d] := ⟨cs.dropLast, cs.getLast hne, (List.dropLast_concat_getLast hne).symm⟩
      rw [List.map_append] at tl
      obtain ⟨v1, x, rfl, t1, tx⟩ := tl.last
      rw [Cell.sizes_app, Cell.sizes_one] at hs
      have hpos := d.size_pos
      refine ⟨fun hg => ?_, fun hg => ?_⟩
      · have hg' : (256 : Int) < (m : Int) + 1 := of_decide_eq_true hg
        have e : decide (256 < c.size) = true := decide_eq_true (by omega)
        have := q H1 c1
        rw [e] at this
        exact this
      · have hg' : ¬ (256 : Int) < (m : Int) + 1 := of_decide_eq_false hg
        obtain ⟨n, ps⟩ := d
        rw [Cell.d, Cell.ds_map] at tx
        obtain ⟨a, xs, rfl, ta, txs⟩ := tx.tuple
        cases txs with
        | cons t3 t4 =>
          cases t4 with
          | cons t5 t6 =>
            cases t6
            obtain ⟨b, ys, rfl, tb, tys⟩ := t5.tuple
            rw [Cell.size] at hs
            have l1 := Cell.sizes_len cs'
            have l2 := Cell.sizes_len ps
            have l3 := t1.length
            have l4 := tys.length
            rw [List.length_map] at l3 l4
            have k1 : Ktp H1 (upd H1 p' (.lst v1)) := Ktp.lst hl
            have k2 : Ktp (upd H1 p' (.lst v1)) (upd (upd H1 p' (.lst v1)) p' (.lst (v1 ++ ys))) := Ktp.lst upd_same
            have kk := k1.trans k2
            refine ⟨⟨_, hl⟩, _, _, hl, _, .inr (ta.keep k1).sq, _, rfl, ?_⟩
            refine ⟨v1, ys, upd_same, .inr (tb.keep k1).sq, by rw [sizeLine_eq]; omega, ?_⟩
            refine ⟨⟨cs' ++ ps, m + 1, p', rfl, hp', ⟨v1 ++ ys, upd_same, ?_⟩, c1.fresh ⟨fun a o ha e => ?_, kk⟩ (L := [p']) ?_, ?_, by omega⟩, ?_⟩
            · rw [List.map_append]
              exact (t1.app tys).keep kk
            · have hne' : a ≠ p' := fun z => ha (by rw [z]; simp)
              rw [upd_ne hne', upd_ne hne']
              exact e
            · intro a ha
              rw [List.mem_singleton.mp ha]
              exact hp'
            · rw [Cell.sizes_app]
              omega
            · show c.size + 1 - (((m : Int) + 1).toNat) < c.size + 1 - ((m : Int).toNat)
              omega
    · have hnil : cs = [] := by
        have l := tl.length
        rw [List.length_map] at l
        have hv : vs = [] := by
          cases vs with
          | nil => rfl
          | cons _ _ => cases hb
        rw [hv] at l
        exact List.eq_nil_of_length_eq_zero l.symm
      subst hnil
      have e : decide (256 < c.size) = false := decide_eq_false (by rw [Cell.sizes] at hs; omega)
      have := q H1 c1
      rw [e] at this
      exact this
end
end T5
set_option maxHeartbeats 2000000
namespace T5
open PySem PySem.Spec PyProof.Rows L2 T3
abbrev st_do_row : Stmt := topS 15
theorem sc_do_row : FnScope ["row", "held", "stack", "word"] ["row", "held", "stack"] (defScope st_do_row) := ⟨rfl, rfl, rfl, by decide +kernel, rfl, by decide +kernel, by decide +kernel⟩
section
variable {P : Program} {w : World} {K : PySem.W.Frag} {mg : Str → Option Value} {base : Heap}
def sp_do_row (K : PySem.W.Frag) : Sp := fun vs H Q _ => match vs with
  | [v, .ref h, .ref s] => ∃ (r : Row) (hs ss hs' ss' : List Cell), Td K H v r.d ∧ Do r hs ss hs' ss' ∧ h ≠ s ∧ LC K H h hs ∧ LC K H s ss ∧ hs.length + ss.length ≤ 10000000 ∧
      ∀ H', Chg [h, s] H H' → LC K H' h hs' → LC K H' s ss' → Q .non H'
  | _ => False
theorem ok_do_row {f : Addr} {fd : FuncData} (F : Fun K "do_row" "do_row" st_do_row f fd) (T : Top K mg) (Cpopped : Cal P w K mg base "popped" 1 ["stack", "many"] (sp_popped K)) (Cis_great : Cal P w K mg base "is_great" 1 ["cell"] (sp_is_great K)) :
    FnOk P w K mg base CX0 2 f fd ["row", "held", "stack"] (sp_do_row K) := by
  refine F.ok sc_do_row (fun vs H Q E h => ?_) (fun cdv A outer s H vs Q E hr h => ?_)
  · match vs, h with
    | [v, .ref z, .ref y], _ => rfl
  match vs, h with
  | [v, .ref hp, .ref sp], h =>
  obtain ⟨r, hs, ss, hs', ss', tv, dd, hne, ⟨hv, eh, th⟩, ⟨sv, es, ts⟩, hz, q⟩ := h
  have lh := th.length
  have ls := ts.length
  rw [List.length_map] at lh ls
  refine ⟨_, (pss_cons (ps_set (i := 3) sc_do_row.nd rfl (.inl rfl) (pe_ix ixM (mv 0) pe_int (fun _ _ => rfl)))
(pss_one (mif (mcmp opEq (mv 3) pe_str)
(pss_one (mapp (mv 2) (pe_ix ixM (mv 1) (pe_ix ixM (mv 0) pe_int (fun _ _ => rfl)) (fun _ _ => rfl))))
(pss_one (mif (mcmp opEq (mv 3) pe_str)
(pss_one (ps_expr (mpop (mv 2))))
(pss_one (mif (mcmp opEq (mv 3) pe_str)
(pss_one (mapp (mv 1) (mpop (mv 2))))
(pss_one (mif (mcmp opEq (mv 3) pe_str)
(pss_one (mdelF (mv 1) (pom (pe_op opSub (pe_callB callLen (by rfl) T.len (by decide +kernel) (pa_cons (mv 1) pa_nil)) (pe_ix ixM (mv 0) pe_int (fun _ _ => rfl))))))
(pss_one (mif (mcmp opEq (mv 3) pe_str)
(pss_one (mapp (mv 2) (pe_ix ixM (pe_ix ixM (mpop (mv 2)) pe_int (fun _ _ => rfl)) (pe_ix ixM (mv 0) pe_int (fun _ _ => rfl)) (fun _ _ => rfl))))
(pss_one (mif (mcmp opEq (mv 3) pe_str)
(pss_cons (mapp (mv 2) (pe_tup (pa_cons (pe_ix ixM (mv 0) pe_int (fun _ _ => rfl)) (pa_cons (pe_callTy callTuple (by rfl) T.tuple (by decide +kernel) (pa_cons (pe_cal Cpopped (hr.mono (by decide)) (by rfl) (pa_cons (mv 2) (pa_cons (pe_ix ixM (mv 0) pe_int (fun _ _ => rfl)) pa_nil))) pa_nil)) pa_nil))))
(pss_one (mif (mval (pe_cal Cis_great (hr.mono (by decide)) (by rfl) (pa_cons (pe_ix ixM (mv 2) (pe_un unNeg pe_int) (fun _ _ => rfl)) pa_nil)))
(pss_one ps_never)
pss_nil)))
(pss_one (mapp (mv 2) (mifE (mcmp (op_eqD hr.units) (mpop (mv 2)) (mpop (mv 2))) (pe_gd (by rfl) T.YES) (pe_gd (by rfl) T.NO)))))))))))))))))
  , ?_⟩
  have keepH : ∀ {H' : Hp}, Chg [sp] H H' → LC K H' hp hs := fun c => LC.chg ⟨hv, eh, th⟩ c (by simpa using hne)
  have keepS : ∀ {H' : Hp}, Chg [hp] H H' → LC K H' sp ss := fun c => LC.chg ⟨sv, es, ts⟩ c (by simpa using hne.symm)
  have eh' : ∀ o, upd H sp o hp = some (.lst hv) := fun o => by
    rw [upd_ne hne]
    exact eh
  cases dd with
  | @loc i c _ _ hc =>
    obtain ⟨a, xs, rfl, ta, txs⟩ := Td.tuple tv
    cases txs with
    | cons t1 t2 =>
      cases t1
      cases t2 with
      | cons t3 t4 =>
        cases t4
        cases t3
        obtain ⟨x, hx, tx⟩ := th.get (i := i) (by rw [List.getElem?_map, hc]; rfl)
        refine ⟨_, .inr ta.sq, _, rfl, fun _ => ?_, fun hb => absurd hb (by decide)⟩
        have c1 : Chg [hp, sp] H (upd H sp (.lst (sv ++ [x]))) := Chg.lst (by simp) es
        refine ⟨⟨_, es⟩, _, .inr ta.sq, _, rfl, hv, .inl (SqL.of eh), x, atI_nat hx, sv, es, by rw [sizeLine_eq]; omega, ?_⟩
        refine q _ c1 ⟨hv, eh' _, th.keep c1.kt⟩ ⟨_, upd_same, ?_⟩
        rw [List.map_append]
        exact (ts.snoc tx).keep c1.kt
  | @drop c _ s' =>
    obtain ⟨a, xs, rfl, ta, txs⟩ := Td.tuple tv
    cases txs with
    | cons t1 t2 =>
      cases t1
      cases t2
      rw [List.map_append] at ts
      obtain ⟨v1, x, rfl, ts1, tx⟩ := ts.last
      refine ⟨_, .inr ta.sq, _, rfl, fun hb => absurd hb (by decide), fun _ => ⟨fun _ => ?_, fun hb => absurd hb (by decide)⟩⟩
      have c1 : Chg [hp, sp] H (upd H sp (.lst v1)) := Chg.lst (by simp) es
      exact ⟨v1, x, es, q _ c1 ⟨hv, eh' _, th.keep c1.kt⟩ ⟨_, upd_same, ts1.keep c1.kt⟩⟩
  | @keep c _ s' =>
    obtain ⟨a, xs, rfl, ta, txs⟩ := Td.tuple tv
    cases txs with
    | cons t1 t2 =>
      cases t1
      cases t2
      rw [List.map_append] at ts
      obtain ⟨v1, x, rfl, ts1, tx⟩ := ts.last
      refine ⟨_, .inr ta.sq, _, rfl, fun hb => absurd hb (by decide), fun _ => ⟨fun hb => absurd hb (by decide), fun _ => ⟨fun _ => ?_, fun hb => absurd hb (by decide)⟩⟩⟩
      have c1 : Chg [hp, sp] H (upd H sp (.lst v1)) := Chg.lst (by simp) es
      have c2 : Chg [hp, sp] (upd H sp (.lst v1)) (upd (upd H sp (.lst v1)) hp (.lst (hv ++ [x]))) := Chg.lst (by simp) (eh' _)
      have c := c1.trans c2
      refine ⟨⟨_, eh⟩, v1, x, es, hv, eh' _, by rw [sizeLine_eq]; rw [List.length_append, List.length_singleton] at hz; omega, q _ c ⟨_, upd_same, ?_⟩ ⟨v1, ?_, ts1.keep c.kt⟩⟩
      · rw [List.map_append]
        exact (th.snoc tx).keep c.kt
      · rw [upd_ne hne.symm]
        exact upd_same
  | @forget n _ _ hn =>
    obtain ⟨a, xs, rfl, ta, txs⟩ := Td.tuple tv
    cases txs with
    | cons t1 t2 =>
      cases t1
      cases t2 with
      | cons t3 t4 =>
        cases t4
        cases t3
        refine ⟨_, .inr ta.sq, _, rfl, fun hb => absurd hb (by decide), fun _ => ⟨fun hb => absurd hb (by decide), fun _ => ⟨fun hb => absurd hb (by decide), fun _ => ⟨fun _ => ?_, fun hb => absurd hb (by decide)⟩⟩⟩⟩
        have c1 : Chg [hp, sp] H (upd H hp (.lst (hv.take (hs.length - n)))) := Chg.lst (by simp) eh
        refine ⟨hv, .inl (SqL.of eh), _, .inr ta.sq, _, rfl, hv, hs.length - n, congrArg some (by show (hv.length : Int) - (n : Int) = _; omega), eh, by omega, q _ c1 ⟨_, upd_same, ?_⟩ ⟨sv, ?_, ts.keep c1.kt⟩⟩
        · rw [List.map_take]
          exact (th.take _).keep c1.kt
        · rw [upd_ne hne.symm]
          exact es
  | @part i n ps p _ s' hp' =>
    obtain ⟨a, xs, rfl, ta, txs⟩ := Td.tuple tv
    cases txs with
    | cons t1 t2 =>
      cases t1
      cases t2 with
      | cons t3 t4 =>
        cases t4
        cases t3
        rw [List.map_append] at ts
        obtain ⟨v1, x, rfl, ts1, tx⟩ := ts.last
        rw [Cell.d, Cell.ds_map] at tx
        obtain ⟨a2, xs2, rfl, ta2, txs2⟩ := tx.tuple
        cases txs2 with
        | cons u1 u2 =>
          cases u2 with
          | cons u3 u4 =>
            cases u4
            obtain ⟨a3, xs3, rfl, ta3, txs3⟩ := u3.tuple
            obtain ⟨y, hy, ty⟩ := txs3.get (i := i) (by rw [List.getElem?_map, hp']; rfl)
            refine ⟨_, .inr ta.sq, _, rfl, fun hb => absurd hb (by decide), fun _ => ⟨fun hb => absurd hb (by decide), fun _ => ⟨fun hb => absurd hb (by decide), fun _ => ⟨fun hb => absurd hb (by decide), fun _ => ⟨fun _ => ?_, fun hb => absurd hb (by decide)⟩⟩⟩⟩⟩
            have c1 : Chg [hp, sp] H (upd H sp (.lst v1)) := Chg.lst (by simp) es
            have c2 : Chg [hp, sp] (upd H sp (.lst v1)) (upd (upd H sp (.lst v1)) sp (.lst (v1 ++ [y]))) := Chg.lst (by simp) upd_same
            have c := c1.trans c2
            refine ⟨⟨_, es⟩, v1, _, es, _, .inr (ta2.keep c1.kt).sq, _, rfl, _, .inr (ta.keep c1.kt).sq, _, rfl, _, .inr (ta3.keep c1.kt).sq, y, atI_nat hy, v1, upd_same, by rw [sizeLine_eq]; rw [List.length_append, List.length_singleton] at ls; omega, q _ c ⟨hv, ?_, th.keep c.kt⟩ ⟨_, upd_same, ?_⟩⟩
            · rw [upd_ne hne]
              exact eh' _
            · rw [List.map_append]
              exact (ts1.snoc ty).keep c.kt
  | @make n k cs _ s' hk hsz =>
    obtain ⟨a, xs, rfl, ta, txs⟩ := Td.tuple tv
    cases txs with
    | cons t1 t2 =>
      cases t1
      cases t2 with
      | cons t3 t4 =>
        cases t3
        cases t4 with
        | cons t5 t6 =>
          cases t6
          cases t5
          refine ⟨_, .inr ta.sq, _, rfl, fun hb => absurd hb (by decide), fun _ => ⟨fun hb => absurd hb (by decide), fun _ => ⟨fun hb => absurd hb (by decide), fun _ => ⟨fun hb => absurd hb (by decide), fun _ => ⟨fun hb => absurd hb (by decide), fun _ => ⟨fun _ => ?_, fun hb => absurd hb (by decide)⟩⟩⟩⟩⟩⟩
          rw [List.length_append] at hz
          refine ⟨⟨_, es⟩, _, .inr ta.sq, _, rfl, _, .inr ta.sq, _, rfl, s', cs, by rw [hk], ⟨sv, es, ts⟩, fun p H1 hp1 c1 lp lstk => ?_⟩
          obtain ⟨pv, ep, tp⟩ := lp
          obtain ⟨kv, ek, tk⟩ := lstk
          have hz1 := tk.length
          rw [List.length_map] at hz1
          refine ⟨pv, SqL.of ep, fun l hl => ?_⟩
          have c2 : Chg [hp, sp] H1 (upd H1 l (.tup pv)) := Chg.new hl
          refine ⟨(by rw [sizeLine_eq]; show 2 ≤ 16777216; omega), fun l2 hl2 => ?_⟩
          have c3 : Chg [hp, sp] (upd H1 l (.tup pv)) (upd (upd H1 l (.tup pv)) l2 (.tup [.int n, .ref l])) := Chg.new hl2
          have ek2 : upd H1 l (.tup pv) sp = some (.lst kv) := by
            rw [upd_ne (ne_of_none ek hl)]
            exact ek
          have ek3 : upd (upd H1 l (.tup pv)) l2 (.tup [.int n, .ref l]) sp = some (.lst kv) := by
            rw [upd_ne (ne_of_none ek2 hl2)]
            exact ek2
          have el3 : upd (upd H1 l (.tup pv)) l2 (.tup [.int n, .ref l]) l = some (.tup pv) := by
            rw [upd_ne (ne_of_none upd_same hl2)]
            exact upd_same
          have tnew : Td K (upd (upd H1 l (.tup pv)) l2 (.tup [.int n, .ref l])) (.ref l2) (Cell.mk n cs).d := by
            rw [Cell.d, Cell.ds_map]
            exact .tup (.inl upd_same) (.cons (.int n) (.cons (.tup (.inl el3) (tp.keep (c2.trans c3).kt)) .nil))
          have c4 : Chg [hp, sp] (upd (upd H1 l (.tup pv)) l2 (.tup [.int n, .ref l])) (upd (upd (upd H1 l (.tup pv)) l2 (.tup [.int n, .ref l])) sp (.lst (kv ++ [.ref l2]))) := Chg.lst (by simp) ek3
          have c := ((c1.mono (by simp)).trans (c2.trans c3)).trans c4
          refine ⟨kv, ek3, by rw [sizeLine_eq]; omega, ?_⟩
          refine ⟨kv ++ [.ref l2], .inl (SqL.of upd_same), .ref l2, ?_, Cell.mk n cs, tnew.keep c4.kt, by omega, fun H' c5 => ⟨fun hb => ?_, fun _ => ?_⟩⟩
          · exact atI_last _ _
          · have := of_decide_eq_true hb
            omega
          · have c6 := c.trans (c5.mono (by simp))
            have cH : LC K H1 hp hs := LC.chg ⟨hv, eh, th⟩ c1 (by simpa using hne)
            obtain ⟨hv1, eh1, th1⟩ := cH
            refine q H' c6 ?_ ?_
            · refine LC.chg (L := [sp]) ⟨hv1, eh1, th1⟩ (Chg.trans (H1 := upd (upd (upd H1 l (.tup pv)) l2 (.tup [.int n, .ref l])) sp (.lst (kv ++ [.ref l2]))) ?_ (c5.mono (by simp))) (by simpa using hne)
              exact ((Chg.new hl).trans (Chg.new hl2)).trans (Chg.lst (by simp) ek3)
            · refine LC.chg (L := []) ⟨kv ++ [.ref l2], upd_same, ?_⟩ c5 (by simp)
              rw [List.map_append]
              exact (tk.keep ((c2.trans c3).trans c4).kt).snoc (tnew.keep c4.kt)
  | @same x y _ s' hx hy =>
    obtain ⟨a, xs, rfl, ta, txs⟩ := Td.tuple tv
    cases txs with
    | cons t1 t2 =>
      cases t1
      cases t2
      rw [List.map_append, List.map_append] at ts
      obtain ⟨v1, u, rfl, ts1, tu⟩ := ts.last
      obtain ⟨v2, u2, rfl, ts2, tu2⟩ := ts1.last
      refine ⟨_, .inr ta.sq, _, rfl, fun hb => absurd hb (by decide), fun _ => ⟨fun hb => absurd hb (by decide), fun _ => ⟨fun hb => absurd hb (by decide), fun _ => ⟨fun hb => absurd hb (by decide), fun _ => ⟨fun hb => absurd hb (by decide), fun _ => ⟨fun hb => absurd hb (by decide), fun _ => ?_⟩⟩⟩⟩⟩⟩
      have c1 : Chg [hp, sp] H (upd H sp (.lst (v2 ++ [u2]))) := Chg.lst (by simp) es
      have c2 : Chg [hp, sp] (upd H sp (.lst (v2 ++ [u2]))) (upd (upd H sp (.lst (v2 ++ [u2]))) sp (.lst v2)) := Chg.lst (by simp) upd_same
      have c := c1.trans c2
      have fin : ∀ (p : Addr) (b : Bool), (∀ H', Td K H' (.ref p) (yn b).d) → b = PyData.eqv y.d x.d → ∃ xs, upd (upd H sp (.lst (v2 ++ [u2]))) sp (.lst v2) sp = some (.lst xs) ∧ xs.length < sizeLine ∧ Q .non (upd (upd (upd H sp (.lst (v2 ++ [u2]))) sp (.lst v2)) sp (.lst (xs ++ [.ref p]))) := by
        intro p b hp' hb
        refine ⟨v2, upd_same, ?_, ?_⟩
        · rw [sizeLine_eq]
          simp only [List.length_append, List.length_singleton] at ls hz
          omega
        · have c3 : Chg [hp, sp] (upd (upd H sp (.lst (v2 ++ [u2]))) sp (.lst v2)) (upd (upd (upd H sp (.lst (v2 ++ [u2]))) sp (.lst v2)) sp (.lst (v2 ++ [.ref p]))) := Chg.lst (by simp) upd_same
          have cc := c.trans c3
          refine q _ cc ⟨hv, ?_, th.keep cc.kt⟩ ⟨_, upd_same, ?_⟩
          · rw [upd_ne hne, upd_ne hne]
            exact eh' _
          · rw [List.map_append, ← hb]
            exact (ts2.keep cc.kt).snoc (hp' _)
      refine ⟨⟨_, es⟩, v2 ++ [u2], u, es, v2, u2, upd_same, y.d, x.d, (tu.keep c.kt).dp, (tu2.keep c.kt).dp, y.shaped hy, x.shaped hx, ?_⟩
      refine ⟨fun hb p hp' => fin p true hp' hb.symm, fun hb p hp' => fin p false hp' hb.symm⟩
end
end T5
set_option maxHeartbeats 2000000
/-! the machine's lists in the heap -/
namespace T5
open PySem PySem.Spec PyProof.Rows L2 T3
inductive FrA (K : PySem.W.Frag) (H : Hp) : List V → List Frame → List Addr → Prop
  | nil : FrA K H [] [] []
  | cons {t h s : Addr} {r : V} {f : Frame} {vs : List V} {fs : List Frame} {as : List Addr} : H t = some (.tup [r, .int (f.at : Nat), .ref h, .ref s]) → Td K H r (.tuple (f.rows.map Row.d)) → LC K H h f.held → LC K H s f.stack →
      FrA K H vs fs as → FrA K H (.ref t :: vs) (f :: fs) (h :: s :: as)
section
variable {K : PySem.W.Frag}
theorem FrA.chg {L : List Addr} {H H' : Hp} (g : Chg L H H') : ∀ {vs : List V} {fs : List Frame} {as : List Addr}, FrA K H vs fs as → (∀ a ∈ as, a ∉ L) → FrA K H' vs fs as
  | _, _, _, .nil, _ => .nil
  | _, _, _, .cons h1 h2 h3 h4 h5, hd => .cons (g.kt _ _ h1) (h2.keep g.kt) (h3.chg g (hd _ (by simp))) (h4.chg g (hd _ (by simp))) (FrA.chg g h5 fun a ha => hd a (by simp [ha]))
theorem FrA.snoc {H : Hp} {t h s : Addr} {r : V} {f : Frame} (h1 : H t = some (.tup [r, .int (f.at : Nat), .ref h, .ref s])) (h2 : Td K H r (.tuple (f.rows.map Row.d))) (h3 : LC K H h f.held) (h4 : LC K H s f.stack) :
    ∀ {vs : List V} {fs : List Frame} {as : List Addr}, FrA K H vs fs as → FrA K H (vs ++ [.ref t]) (fs ++ [f]) (as ++ [h, s])
  | _, _, _, .nil => .cons h1 h2 h3 h4 .nil
  | _, _, _, .cons g1 g2 g3 g4 g5 => .cons g1 g2 g3 g4 (FrA.snoc h1 h2 h3 h4 g5)
theorem FrA.last {H : Hp} {f : Frame} : ∀ {vs : List V} {fs : List Frame} {as : List Addr}, FrA K H vs (fs ++ [f]) as → ∃ vs' as' t h s r, vs = vs' ++ [.ref t] ∧ as = as' ++ [h, s] ∧ FrA K H vs' fs as' ∧
      H t = some (.tup [r, .int (f.at : Nat), .ref h, .ref s]) ∧ Td K H r (.tuple (f.rows.map Row.d)) ∧ LC K H h f.held ∧ LC K H s f.stack
  | _, [], _, .cons h1 h2 h3 h4 h5 => by
    cases h5
    exact ⟨[], [], _, _, _, _, rfl, rfl, .nil, h1, h2, h3, h4⟩
  | _, _ :: fs, _, .cons h1 h2 h3 h4 h5 => by
    obtain ⟨vs', as', t, h, s, r, rfl, rfl, g, e1, e2, e3, e4⟩ := FrA.last (fs := fs) h5
    exact ⟨_ :: vs', _ :: _ :: as', t, h, s, r, rfl, rfl, .cons h1 h2 h3 h4 g, e1, e2, e3, e4⟩
theorem FrA.len {H : Hp} : ∀ {vs : List V} {fs : List Frame} {as : List Addr}, FrA K H vs fs as → vs.length = fs.length
  | _, _, _, .nil => rfl
  | _, _, _, .cons h1 h2 h3 h4 h5 => by
    rw [List.length_cons, List.length_cons, h5.len]
theorem FrA.some {H : Hp} : ∀ {vs : List V} {fs : List Frame} {as : List Addr}, FrA K H vs fs as → ∀ a ∈ as, H a ≠ none
  | _, _, _, .cons h1 h2 h3 h4 h5, a, ha => by
    rcases List.mem_cons.mp ha with rfl | ha
    · obtain ⟨_, e, _⟩ := h3
      rw [e]
      exact fun z => nomatch z
    · rcases List.mem_cons.mp ha with rfl | ha
      · obtain ⟨_, e, _⟩ := h4
        rw [e]
        exact fun z => nomatch z
      · exact h5.some a ha
structure MS (K : PySem.W.Frag) (H0 H : Hp) (rv : V) (h st fr : Addr) (fvs : List V) (fs : List Frame) (rows : List Row) (hs ss : List Cell) (m : Nat) : Prop where
  tr : Td K H rv (.tuple (rows.map Row.d))
  lh : LC K H h hs
  ls : LC K H st ss
  lf : H fr = some (.lst fvs)
  fa : ∃ as, FrA K H fvs fs as ∧ (fr :: h :: st :: as).Nodup ∧ ∀ a ∈ fr :: h :: st :: as, H0 a = none
  ch : Chg [] H0 H
  ln : hs.length + ss.length ≤ m
  ls2 : ∀ f ∈ fs, f.held.length + f.stack.length ≤ m
  lfs : fs.length ≤ m
variable {H0 H H' : Hp} {rv : V} {h st fr : Addr} {fvs : List V} {fs : List Frame} {rows rows' : List Row} {hs ss hs' ss' : List Cell} {m m' : Nat}
theorem MS.mono (M : MS K H0 H rv h st fr fvs fs rows hs ss m) (l : m ≤ m') : MS K H0 H rv h st fr fvs fs rows hs ss m' :=
  ⟨M.tr, M.lh, M.ls, M.lf, M.fa, M.ch, Nat.le_trans M.ln l, fun f hf => Nat.le_trans (M.ls2 f hf) l, Nat.le_trans M.lfs l⟩
theorem MS.apart (M : MS K H0 H rv h st fr fvs fs rows hs ss m) : fr ≠ h ∧ fr ≠ st ∧ h ≠ st := by
  obtain ⟨as, _, nd, _⟩ := M.fa
  simp only [List.nodup_cons, List.mem_cons, not_or] at nd
  exact ⟨nd.1.1, nd.1.2.1, nd.2.1.1⟩
theorem MS.row (M : MS K H0 H rv h st fr fvs fs rows hs ss m) {r : Row} (d : Do r hs ss hs' ss') (g : Chg [h, st] H H') (l1 : LC K H' h hs') (l2 : LC K H' st ss') : MS K H0 H' rv h st fr fvs fs rows hs' ss' (m + 1) := by
  obtain ⟨a1, a2, a3⟩ := M.apart
  obtain ⟨as, fa, nd, fresh⟩ := M.fa
  have ndc := nd
  simp only [List.nodup_cons, List.mem_cons, not_or] at ndc
  refine ⟨M.tr.keep g.kt, l1, l2, g.get (by simp [a1, a2]) M.lf, ⟨as, fa.chg g fun a ha => ?_, nd, fresh⟩, M.ch.fresh g fun a ha => fresh a ?_, ?_, fun f hf => Nat.le_succ_of_le (M.ls2 f hf), Nat.le_succ_of_le M.lfs⟩
  · simp only [List.mem_cons, List.not_mem_nil, or_false, not_or]
    exact ⟨fun z => ndc.2.1.2 (by rw [← z]; exact ha), fun z => ndc.2.2.1 (by rw [← z]; exact ha)⟩
  · simp only [List.mem_cons, List.not_mem_nil, or_false] at ha ⊢
    rcases ha with rfl | rfl
    · exact .inr (.inl rfl)
    · exact .inr (.inr (.inl rfl))
  · have := d.len
    have := M.ln
    omega
theorem MS.call {s0 gv : List Cell} {p q t : Addr} {v : V} {i : Nat} (M : MS K H0 H rv h st fr fvs fs rows hs (s0 ++ gv) m) (g : Chg [st, fr] H H') (l1 : LC K H' st s0) (l2 : LC K H' p gv) (hp : H p = none) (hq : H q = none) (hpq : p ≠ q) (lq : LC K H' q [])
    (lf : H' fr = some (.lst (fvs ++ [.ref t]))) (ht : H' t = some (.tup [rv, .int (i : Nat), .ref h, .ref st])) (tv : Td K H' v (.tuple (rows'.map Row.d))) :
    MS K H0 H' v p q fr (fvs ++ [.ref t]) (fs ++ [⟨rows, i, hs, s0⟩]) rows' gv [] (m + 1) := by
  obtain ⟨a1, a2, a3⟩ := M.apart
  obtain ⟨as, fa, nd, fresh⟩ := M.fa
  have ndc := nd
  simp only [List.nodup_cons, List.mem_cons, not_or] at ndc
  have hh : H h ≠ none := by
    obtain ⟨_, e, _⟩ := M.lh
    rw [e]
    exact fun z => nomatch z
  have hst : H st ≠ none := by
    obtain ⟨_, e, _⟩ := M.ls
    rw [e]
    exact fun z => nomatch z
  have hfr : H fr ≠ none := by
    rw [M.lf]
    exact fun z => nomatch z
  have has := fa.some
  have lh' : LC K H' h hs := M.lh.chg g (by simp [a3, Ne.symm a1])
  have ln := M.ln
  rw [List.length_append] at ln
  refine ⟨tv, l2, lq, lf, ⟨as ++ [h, st], (fa.chg g fun a ha => ?_).snoc (f := ⟨rows, i, hs, s0⟩) ht (M.tr.keep g.kt) lh' l1, ?_, ?_⟩, M.ch.fresh g fun a ha => fresh a ?_, ?_, ?_, ?_⟩
  · simp only [List.mem_cons, List.not_mem_nil, or_false, not_or]
    exact ⟨fun z => ndc.2.2.1 (by rw [← z]; exact ha), fun z => ndc.1.2.2 (by rw [← z]; exact ha)⟩
  · have ne1 : ∀ {a b : Addr}, H a = none → H b ≠ none → a ≠ b := fun e e2 z => e2 (by rw [← z]; exact e)
    have nas : as.Nodup := ndc.2.2.2
    simp only [List.nodup_cons, List.mem_cons, List.mem_append, List.not_mem_nil, or_false, not_or]
    refine ⟨⟨(ne1 hp hfr).symm, (ne1 hq hfr).symm, ndc.1.2.2, a1, a2⟩, ⟨hpq, fun z => has p z hp, ne1 hp hh, ne1 hp hst⟩, ⟨fun z => has q z hq, ne1 hq hh, ne1 hq hst⟩, ?_⟩
    refine List.nodup_append.mpr ⟨nas, by simp [a3], ?_⟩
    intro a ha b hb z
    subst z
    simp only [List.mem_cons, List.not_mem_nil, or_false] at hb
    rcases hb with rfl | rfl
    · exact ndc.2.1.2 ha
    · exact ndc.2.2.1 ha
  · intro a ha
    simp only [List.mem_cons, List.mem_append, List.not_mem_nil, or_false] at ha
    rcases ha with rfl | rfl | rfl | ha | rfl | rfl
    · exact fresh _ (by simp)
    · exact M.ch.old hp
    · exact M.ch.old hq
    · exact fresh _ (by simp [ha])
    · exact fresh _ (by simp)
    · exact fresh _ (by simp)
  · simp only [List.mem_cons, List.not_mem_nil, or_false] at ha ⊢
    rcases ha with rfl | rfl
    · exact .inr (.inr (.inl rfl))
    · exact .inl rfl
  · simp only [List.length_nil]
    omega
  · intro f hf
    rcases List.mem_append.mp hf with hf | hf
    · exact Nat.le_succ_of_le (M.ls2 f hf)
    · rw [List.mem_singleton.mp hf]
      show hs.length + s0.length ≤ m + 1
      omega
  · rw [List.length_append, List.length_singleton]
    have := M.lfs
    omega
theorem MS.back {i : Nat} {c1 : Cell} (M : MS K H0 H rv h st fr fvs (fs ++ [⟨rows', i, hs', ss'⟩]) rows hs (ss ++ [c1]) m) :
    ∃ fvs' t h2 st2 r2 sv2 cv sv, fvs = fvs' ++ [.ref t] ∧ H st = some (.lst (sv ++ [cv])) ∧ Td K H cv c1.d ∧ H t = some (.tup [r2, .int (i : Nat), .ref h2, .ref st2]) ∧ fr ≠ st2 ∧ H st2 = some (.lst sv2) ∧ sv2.length = ss'.length ∧
      ∀ H', H' = upd (upd H fr (.lst fvs')) st2 (.lst (sv2 ++ [cv])) → MS K H0 H' r2 h2 st2 fr fvs' fs rows' hs' (ss' ++ [c1]) (m + 1) := by
  obtain ⟨a1, a2, a3⟩ := M.apart
  obtain ⟨as, fa, nd, fresh⟩ := M.fa
  obtain ⟨fvs', as', t, h2, st2, r2, rfl, rfl, fa', ht, tr2, lh2, ls2⟩ := fa.last
  obtain ⟨vs, es, ts⟩ := M.ls
  rw [List.map_append] at ts
  obtain ⟨sv, cv, rfl, ts1, tcv⟩ := ts.last
  obtain ⟨sv2, es2, ts2⟩ := ls2
  have l2 := ts2.length
  rw [List.length_map] at l2
  have ndc := nd
  simp only [List.nodup_cons, List.mem_cons, List.mem_append, List.not_mem_nil, or_false, not_or] at ndc
  obtain ⟨⟨-, -, n1, n2, n3⟩, ⟨-, n4, n5, n6⟩, ⟨n7, n8, n9⟩, n10⟩ := ndc
  rw [List.nodup_append] at n10
  obtain ⟨n11, n12, n13⟩ := n10
  have n14 : h2 ≠ st2 := by simpa using n12
  refine ⟨fvs', t, h2, st2, r2, sv2, cv, sv, rfl, es, tcv, ht, n3, es2, l2, ?_⟩
  rintro H' rfl
  have e1 : upd H fr (.lst fvs') st2 = some (.lst sv2) := by
    rw [upd_ne (Ne.symm n3)]
    exact es2
  have c1 : Chg [fr, st2] H (upd H fr (.lst fvs')) := Chg.lst (by simp) M.lf
  have c2 : Chg [fr, st2] (upd H fr (.lst fvs')) (upd (upd H fr (.lst fvs')) st2 (.lst (sv2 ++ [cv]))) := Chg.lst (by simp) e1
  have c := c1.trans c2
  have ml := M.ls2 ⟨rows', i, hs', ss'⟩ (by simp)
  have ml' : hs'.length + ss'.length ≤ m := ml
  refine ⟨tr2.keep c.kt, lh2.chg c (by simp [Ne.symm n2, n14]), ⟨sv2 ++ [cv], upd_same, ?_⟩, ?_, ⟨as', fa'.chg c fun a ha => ?_, ?_, ?_⟩, M.ch.fresh c fun a ha => fresh a ?_, ?_, fun f hf => Nat.le_succ_of_le (M.ls2 f (by simp [hf])), ?_⟩
  · rw [List.map_append]
    exact (ts2.keep c.kt).snoc (tcv.keep c.kt)
  · rw [upd_ne n3]
    exact upd_same
  · simp only [List.mem_cons, List.not_mem_nil, or_false, not_or]
    exact ⟨fun z => n1 (by rw [← z]; exact ha), fun z => n13 a ha st2 (by simp) z⟩
  · simp only [List.nodup_cons, List.mem_cons, not_or]
    exact ⟨⟨n2, n3, n1⟩, ⟨n14, fun z => n13 h2 z h2 (by simp) rfl⟩, fun z => n13 st2 z st2 (by simp) rfl, n11⟩
  · intro a ha
    simp only [List.mem_cons] at ha
    rcases ha with rfl | rfl | rfl | ha
    · exact fresh _ (by simp)
    · exact fresh _ (by simp)
    · exact fresh _ (by simp)
    · exact fresh _ (by simp [ha])
  · simp only [List.mem_cons, List.not_mem_nil, or_false] at ha
    rcases ha with rfl | rfl
    · simp
    · simp
  · rw [List.length_append, List.length_singleton]
    omega
  · have := M.lfs
    rw [List.length_append, List.length_singleton] at this
    omega
end
/-- a row that the machine does, not a row that turns its way -/
theorem Do.word {r : Row} {h s h' s' : List Cell} (q : Do r h s h' s') : ∃ (w : Str) (rest : List PyData), r.d = .tuple (.str w :: rest) ∧ w ≠ "call" ∧ w ≠ "is" ∧ w ≠ "go" ∧ w ≠ "back" := by
  cases q with
  | loc _ => exact ⟨_, _, rfl, by decide, by decide, by decide, by decide⟩
  | drop => exact ⟨_, _, rfl, by decide, by decide, by decide, by decide⟩
  | keep => exact ⟨_, _, rfl, by decide, by decide, by decide, by decide⟩
  | forget _ => exact ⟨_, _, rfl, by decide, by decide, by decide, by decide⟩
  | part _ => exact ⟨_, _, rfl, by decide, by decide, by decide, by decide⟩
  | make _ _ => exact ⟨_, _, rfl, by decide, by decide, by decide, by decide⟩
  | same _ _ => exact ⟨_, _, rfl, by decide, by decide, by decide, by decide⟩
end T5
set_option maxHeartbeats 4000000
namespace T5
open PySem PySem.Spec PyProof.Rows L2 T3
abbrev st_run : Stmt := topS 16
theorem sc_run : FnScope ["built", "module", "name", "cells", "rows", "at", "held", "stack", "frames", "calls", "done", "row", "word", "given", "called", "cell"] ["built", "module", "name", "cells"] (defScope st_run) := ⟨rfl, rfl, rfl, by decide +kernel, rfl, by decide +kernel, by decide +kernel⟩
section
variable {P : Program} {w : World} {K : PySem.W.Frag} {mg : Str → Option Value} {base : Heap}
theorem atI0 {xs : List V} {v : V} (h : xs[0]? = some v) : atI xs 0 = some v := atI_nat (j := 0) h
theorem atI1 {xs : List V} {v : V} (h : xs[1]? = some v) : atI xs 1 = some v := atI_nat (j := 1) h
theorem big1 {n : Nat} (h : n ≤ 1000) : n ≤ sizeLine := by
  rw [sizeLine_eq]
  omega
def sp_run (K : PySem.W.Frag) : Sp := fun vs H Q _ => match vs with
  | [.ref b, .str m, .str f, .ref c] => ∃ (B : Built) (rows : List Row) (cs : List Cell) (cv : List V) (cell : Cell) (n : Nat), BT K H b B ∧ Tt K H c cv ∧ TdAll K H cv (cs.map Cell.d) ∧ B m f = some (cs.length, rows) ∧ cs.length ≤ 1000 ∧
      Go B [] rows 0 cs [] cell n ∧ n ≤ 99999 ∧ ∀ v H', Chg [] H H' → Td K H' v cell.d → Q v H'
  | _ => False
theorem ok_run {f : Addr} {fd : FuncData} (F : Fun K "run" "run" st_run f fd) (T : Top K mg) (Cpopped : Cal P w K mg base "popped" 1 ["stack", "many"] (sp_popped K)) (Crows_for : Cal P w K mg base "rows_for" 1 ["built", "pair", "many"] (sp_rows_for K))
    (Cdo_row : Cal P w K mg base "do_row" 2 ["row", "held", "stack"] (sp_do_row K)) :
    FnOk P w K mg base CX0 3 f fd ["built", "module", "name", "cells"] (sp_run K) := by
  refine F.ok sc_run (fun vs H Q E h => ?_) (fun cdv A outer s H vs Q E hr h => ?_)
  · match vs, h with
    | [.ref b, .str m, .str f, .ref c], _ => rfl
  match vs, h with
  | [.ref b, .str m, .str f, .ref c], h =>
  obtain ⟨B, rows, cs, cv, cell, n0, hB, tc, tcs, hb, hcs, hgo, hn0, q⟩ := h
  have lc := tcs.length
  rw [List.length_map] at lc
  refine ⟨_, (pss_cons (ps_set (i := 4) sc_run.nd rfl (.inl rfl) (pe_cal Crows_for (hr.mono (by decide)) (by rfl) (pa_cons (mv 0) (pa_cons (pe_tup (pa_cons (mv 1) (pa_cons (mv 2) pa_nil))) (pa_cons (pe_callB callLen (by rfl) T.len (by decide +kernel) (pa_cons (mv 3) pa_nil)) pa_nil)))))
(pss_cons (ps_asg (pe_tup (pa_cons pe_int (pa_cons (pe_callTy callList (by rfl) T.list (by decide +kernel) (pa_cons (mv 3) pa_nil)) (pa_cons (pe_lst pa_nil) (pa_cons (pe_lst pa_nil) (pa_cons pe_int (pa_cons pe_int pa_nil))))))) (pg_tup rfl (pgs_cons (pg_name (i := 5) sc_run.nd rfl (.inl rfl)) (pgs_cons (pg_name (i := 6) sc_run.nd rfl (.inl rfl)) (pgs_cons (pg_name (i := 7) sc_run.nd rfl (.inl rfl)) (pgs_cons (pg_name (i := 8) sc_run.nd rfl (.inl rfl)) (pgs_cons (pg_name (i := 9) sc_run.nd rfl (.inl rfl)) (pgs_cons (pg_name (i := 10) sc_run.nd rfl (.inl rfl)) pgs_nil))))))))
(pss_one (mwhile PassesOwn.never (mval pe_bl)
(pss_cons (ps_set (i := 11) sc_run.nd rfl (.inl rfl) (pe_ix ixM (mv 4) (mv 5) (fun _ _ => rfl)))
(pss_cons (ps_set (i := 12) sc_run.nd rfl (.inl rfl) (pe_ix ixM (mv 11) pe_int (fun _ _ => rfl)))
(pss_cons (maug (i := 5) sc_run.nd rfl (.inl rfl) pe_int ipAdd)
(pss_cons (maug (i := 10) sc_run.nd rfl (.inl rfl) pe_int ipAdd)
(pss_cons (mif (mcmp opEq (mv 12) pe_str)
(pss_cons (ps_set (i := 13) sc_run.nd rfl (.inl rfl) (pe_cal Cpopped (hr.mono (by decide)) (by rfl) (pa_cons (mv 7) (pa_cons (pe_ix ixM (mv 11) pe_int (fun _ _ => rfl)) pa_nil))))
(pss_cons (ps_set (i := 14) sc_run.nd rfl (.inl rfl) (pe_cal Crows_for (hr.mono (by decide)) (by rfl) (pa_cons (mv 0) (pa_cons (pe_tup (pa_cons (pe_ix ixM (mv 11) pe_int (fun _ _ => rfl)) (pa_cons (pe_ix ixM (mv 11) pe_int (fun _ _ => rfl)) pa_nil))) (pa_cons (pe_callB callLen (by rfl) T.len (by decide +kernel) (pa_cons (mv 13) pa_nil)) pa_nil)))))
(pss_cons (mapp (mv 8) (pe_tup (pa_cons (mv 4) (pa_cons (mv 5) (pa_cons (mv 6) (pa_cons (mv 7) pa_nil))))))
(pss_cons (ps_asg (pe_tup (pa_cons (mv 14) (pa_cons pe_int (pa_cons (mv 13) (pa_cons (pe_lst pa_nil) pa_nil))))) (pg_tup rfl (pgs_cons (pg_name (i := 4) sc_run.nd rfl (.inl rfl)) (pgs_cons (pg_name (i := 5) sc_run.nd rfl (.inl rfl)) (pgs_cons (pg_name (i := 6) sc_run.nd rfl (.inl rfl)) (pgs_cons (pg_name (i := 7) sc_run.nd rfl (.inl rfl)) pgs_nil))))))
(pss_one (maug (i := 9) sc_run.nd rfl (.inl rfl) pe_int ipAdd))))))
pss_nil)
(pss_cons (mif (PW.pt (mor (mcmp opGt (mv 9) (pe_gi (by rfl) T.MOST_CALLS)) (pw_or1 (mcmp opGt (mv 10) (pe_gi (by rfl) T.MOST_ROWS)))))
(pss_one ps_never)
pss_nil)
(pss_one (mif (mcmp opEq (mv 12) pe_str)
(pss_one (ps_set (i := 5) sc_run.nd rfl (.inl rfl) (mifE (mcmp opEq (pe_ix ixM (pe_ix ixM (mv 7) (pe_un unNeg pe_int) (fun _ _ => rfl)) pe_int (fun _ _ => rfl)) (pe_ix ixM (mv 11) pe_int (fun _ _ => rfl))) (mv 5) (pe_ix ixM (mv 11) pe_int (fun _ _ => rfl)))))
(pss_one (mif (mcmp opEq (mv 12) pe_str)
(pss_one (ps_set (i := 5) sc_run.nd rfl (.inl rfl) (pe_ix ixM (mv 11) pe_int (fun _ _ => rfl))))
(pss_one (mif (mcmp opEq (mv 12) pe_str)
(pss_one ps_continue)
(pss_one (mif (mcmp opNe (mv 12) pe_str)
(pss_one (ps_expr (pe_cal Cdo_row (hr.mono (by decide)) (by rfl) (pa_cons (mv 11) (pa_cons (mv 6) (pa_cons (mv 7) pa_nil))))))
(pss_one (mif (mtru (mv 8))
(pss_cons (ps_set (i := 15) sc_run.nd rfl (.inl rfl) (pe_ix ixM (mv 7) (pe_un unNeg pe_int) (fun _ _ => rfl)))
(pss_cons (ps_asg (mpop (mv 8)) (pg_tup rfl (pgs_cons (pg_name (i := 4) sc_run.nd rfl (.inl rfl)) (pgs_cons (pg_name (i := 5) sc_run.nd rfl (.inl rfl)) (pgs_cons (pg_name (i := 6) sc_run.nd rfl (.inl rfl)) (pgs_cons (pg_name (i := 7) sc_run.nd rfl (.inl rfl)) pgs_nil))))))
(pss_one (mapp (mv 7) (mv 15)))))
(pss_one (ps_ret (pe_ix ixM (mv 7) (pe_un unNeg pe_int) (fun _ _ => rfl))))))))))))))))))))))))
  , ?_⟩
  refine ⟨(by rw [sizeLine_eq]; show 2 ≤ 16777216; omega), fun l hl => ⟨cv, .inr (tc.keep (Ktp.new hl)).sq, B, m, f, cs.length, rows, by rw [lc], hB.chg (L := []) (Chg.new hl) (by simp), upd_same, hb, fun rv hrv => ?_⟩⟩
  have c0 : Chg [] H (upd H l (.tup [.str m, .str f])) := Chg.new hl
  generalize upd H l (.tup [.str m, .str f]) = H1 at *
  have tc1 := tc.keep c0.kt
  have tcs1 := tcs.keep c0.kt
  refine ⟨cv, .inr tc1.sq, fun h hh => ⟨(by rw [sizeLine_eq]; exact Nat.zero_le _), fun st hst => ⟨(by rw [sizeLine_eq]; exact Nat.zero_le _), fun fr hfr => ⟨(by rw [sizeLine_eq]; show 6 ≤ 16777216; omega), fun t ht => ?_⟩⟩⟩⟩
  refine ⟨_, _, rfl, SqT.of upd_same, rfl, _, _, rfl, _, _, rfl, _, _, rfl, _, _, rfl, _, _, rfl, _, _, rfl, rfl, ?_⟩
  have e1 : upd H1 h (.lst cv) h = some (.lst cv) := upd_same
  have c1 : Chg [] H1 (upd H1 h (.lst cv)) := Chg.new hh
  generalize upd H1 h (.lst cv) = H2 at *
  have c2 : Chg [] H2 (upd H2 st (.lst [])) := Chg.new hst
  have e2 : upd H2 st (.lst []) st = some (.lst []) := upd_same
  generalize upd H2 st (.lst []) = H3 at *
  have c3 : Chg [] H3 (upd H3 fr (.lst [])) := Chg.new hfr
  have e3 : upd H3 fr (.lst []) fr = some (.lst []) := upd_same
  generalize upd H3 fr (.lst []) = H4 at *
  have c4 : Chg [] H4 (upd H4 t (.tup [.int 0, .ref h, .ref st, .ref fr, .int 1, .int 0])) := Chg.new ht
  have M0 : MS K H (upd H4 t (.tup [.int 0, .ref h, .ref st, .ref fr, .int 1, .int 0])) rv h st fr [] [] rows cs [] 1000 := by
    have ca := c1.trans (c2.trans (c3.trans c4))
    have cb := c2.trans (c3.trans c4)
    have h2 : H2 st = none := hst
    have n1 : h ≠ st := ne_of_none e1 hst
    have n2 : h ≠ fr := ne_of_none (c2.get (by simp) e1) hfr
    have n3 : st ≠ fr := ne_of_none e2 hfr
    refine ⟨hrv.keep ca.kt, ⟨cv, cb.get (by simp) e1, tcs1.keep ca.kt⟩, ⟨[], (c3.trans c4).get (by simp) e2, .nil⟩, c4.get (by simp) e3, ⟨[], .nil, ?_, ?_⟩, c0.trans ca, ?_, (fun f hf => nomatch hf), Nat.zero_le _⟩
    · simp [n1, n2.symm, n3.symm]
    · intro a ha
      simp only [List.mem_cons, List.not_mem_nil, or_false] at ha
      rcases ha with rfl | rfl | rfl
      · exact c0.old (c1.old (c2.old hfr))
      · exact c0.old hh
      · exact c0.old (c1.old hst)
    · simp only [List.length_nil]
      omega
  generalize upd H4 t (.tup [.int 0, .ref h, .ref st, .ref fr, .int 1, .int 0]) = H5 at *
  clear c1 c2 c3 c4 e1 e2 e3 hh hst hfr ht
  refine ⟨fun σ H' => ∃ (rv : V) (i : Nat) (h st fr : Addr) (calls done : Nat) (x1 x2 x3 x4 x5 : Option V) (fvs : List V) (fs : List Frame) (rows : List Row) (hs ss : List Cell) (n : Nat),
      σ = [some (.ref b), some (.str m), some (.str f), some (.ref c), some rv, some (.int i), some (.ref h), some (.ref st), some (.ref fr), some (.int calls), some (.int done), x1, x2, x3, x4, x5] ∧
      Go B fs rows i hs ss cell n ∧ done + n = n0 ∧ calls ≤ done + 1 ∧ MS K H H' rv h st fr fvs fs rows hs ss (1000 + done),
    fun σ H' => n0 - (match σ with | [_, _, _, _, _, _, _, _, _, _, some (.int d), _, _, _, _, _] => d.toNat | _ => 0), ⟨rv, 0, h, st, fr, 1, 0, none, none, none, none, none, [], [], rows, cs, [], n0, rfl, hgo, by omega, by omega, M0⟩, ?_⟩
  clear M0 hgo hb hcs tc1 tcs1 lc tc tcs hrv
  rintro σ H' ⟨rv, i, h, st, fr, calls, done, x1, x2, x3, x4, x5, fvs, fs, rows, hs, ss, n, rfl, hgo, hn, hcalls, M⟩
  refine ⟨fun _ => ?_, fun hb => nomatch hb⟩
  have hBH : BT K H' b B := hB.chg M.ch (by simp)
  obtain ⟨ra, rxs, rfl, ta, txs⟩ := M.tr.tuple
  have ln := M.ln
  have lfs := M.lfs
  have bound : done + 1 ≤ n0 ∧ n0 ≤ 99999 := by
    refine ⟨?_, hn0⟩
    cases hgo <;> omega
  have nolim : ∀ (d : Nat), d ≤ 99999 → ¬ (1000000 : Int) < (d : Int) := by
    intro d hd
    omega
  have step : ∀ d : Nat, done + 1 ≤ d → d ≤ n0 → n0 - ((d : Int)).toNat < n0 - ((done : Int)).toNat := by
    intro d h1 h2
    omega
  cases hgo with
  | @row _ _ _ n r _ _ hs' ss' _ hr' hd hgo =>
    obtain ⟨x, hx, tx⟩ := txs.get (i := i) (by rw [List.getElem?_map, hr']; rfl)
    obtain ⟨wd, rest, ed, w1, w2, w3, w4⟩ := hd.word
    have tx' := tx
    rw [ed] at tx
    obtain ⟨xa, xxs, rfl, txa, txxs⟩ := tx.tuple
    cases txxs with
    | cons t1 t2 =>
      cases t1
      refine ⟨_, .inr ta.sq, _, atI_nat hx, _, .inr txa.sq, .str wd, atI0 rfl, fun hb => absurd (of_decide_eq_true hb) w1, fun _ => ⟨fun hb => ?_, fun _ => ⟨fun hb => ?_, fun hb => ?_⟩⟩⟩
      · have := of_decide_eq_true hb
        omega
      · have := of_decide_eq_true hb
        omega
      · refine ⟨fun hb => absurd (of_decide_eq_true hb) w2, fun _ => ⟨fun hb => absurd (of_decide_eq_true hb) w3, fun _ => ⟨fun hb => absurd (of_decide_eq_true hb) w1, fun _ => ⟨fun _ => ?_, fun hb => ?_⟩⟩⟩⟩
        · refine ⟨r, hs, ss, hs', ss', tx', hd, M.apart.2.2, M.lh, M.ls, by omega, fun H'' g l1 l2 => ?_⟩
          exact ⟨⟨.ref ra, i + 1, h, st, fr, calls, done + 1, some (.ref xa), some (.str wd), x3, x4, x5, fvs, fs, rows, hs', ss', n, rfl, hgo, by omega, by omega, M.row hd g l1 l2⟩, step (done + 1) (by omega) (by omega)⟩
        · rw [decide_eq_false w4] at hb
          cases hb
  | @go _ _ _ t n _ _ _ hr' hgo =>
    obtain ⟨x, hx, tx⟩ := txs.get (i := i) (by rw [List.getElem?_map, hr']; rfl)
    obtain ⟨xa, xxs, rfl, txa, txxs⟩ := Td.tuple tx
    cases txxs with
    | cons t1 t2 =>
      cases t1
      cases t2 with
      | cons t3 t4 =>
        cases t3
        cases t4
        refine ⟨_, .inr ta.sq, _, atI_nat hx, _, .inr txa.sq, _, rfl, fun hb => absurd hb (by decide), fun _ => ⟨fun hb => ?_, fun _ => ⟨fun hb => ?_, fun hb => ?_⟩⟩⟩
        · have := of_decide_eq_true hb
          omega
        · have := of_decide_eq_true hb
          omega
        · refine ⟨fun hb => absurd hb (by decide), fun _ => ⟨fun _ => ?_, fun hb => absurd hb (by decide)⟩⟩
          exact ⟨_, .inr txa.sq, _, rfl, ⟨.ref ra, t, h, st, fr, calls, done + 1, some (.ref xa), some (.str "go"), x3, x4, x5, fvs, fs, rows, hs, ss, n, rfl, hgo, by omega, by omega, M.mono (by omega)⟩, step (done + 1) (by omega) (by omega)⟩
  | @is _ _ _ t n k mm ps _ s' _ hr' hgo =>
    obtain ⟨x, hx, tx⟩ := txs.get (i := i) (by rw [List.getElem?_map, hr']; rfl)
    obtain ⟨xa, xxs, rfl, txa, txxs⟩ := Td.tuple tx
    cases txxs with
    | cons t1 t2 =>
      cases t1
      cases t2 with
      | cons t3 t4 =>
        cases t3
        cases t4 with
        | cons t5 t6 =>
          cases t5
          cases t6
          obtain ⟨sv, es, ts⟩ := M.ls
          rw [List.map_append] at ts
          obtain ⟨v1, cx, rfl, ts1, tcx⟩ := ts.last
          obtain ⟨ca, cxs, rfl, tca, tcxs⟩ := Td.tuple tcx
          cases tcxs with
          | cons u1 u2 =>
            cases u1
            refine ⟨_, .inr ta.sq, _, atI_nat hx, _, .inr txa.sq, _, rfl, fun hb => absurd hb (by decide), fun _ => ⟨fun hb => ?_, fun _ => ⟨fun hb => ?_, fun hb => ?_⟩⟩⟩
            · have := of_decide_eq_true hb
              omega
            · have := of_decide_eq_true hb
              omega
            · refine ⟨fun _ => ?_, fun hb => absurd hb (by decide)⟩
              refine ⟨_, .inl (SqL.of es), _, atI_last _ _, _, .inr tca.sq, _, atI0 rfl, _, .inr txa.sq, _, rfl, fun hb => ?_, fun hb => ?_⟩
              · have e := of_decide_eq_true hb
                rw [if_pos e] at hgo
                exact ⟨⟨.ref ra, i + 1, h, st, fr, calls, done + 1, some (.ref xa), some (.str "is"), x3, x4, x5, fvs, fs, rows, hs, s' ++ [.mk mm ps], n, rfl, hgo, by omega, by omega, M.mono (by omega)⟩, step (done + 1) (by omega) (by omega)⟩
              · have e := of_decide_eq_false hb
                rw [if_neg e] at hgo
                exact ⟨_, .inr txa.sq, _, rfl, ⟨.ref ra, t, h, st, fr, calls, done + 1, some (.ref xa), some (.str "is"), x3, x4, x5, fvs, fs, rows, hs, s' ++ [.mk mm ps], n, rfl, hgo, by omega, by omega, M.mono (by omega)⟩, step (done + 1) (by omega) (by omega)⟩
  | @call _ _ rows' _ k n m2 f2 gv _ s0 _ hr' hB' hk hgo =>
    obtain ⟨x, hx, tx⟩ := txs.get (i := i) (by rw [List.getElem?_map, hr']; rfl)
    obtain ⟨xa, xxs, rfl, txa, txxs⟩ := Td.tuple tx
    cases txxs with
    | cons t1 t2 =>
      cases t1
      cases t2 with
      | cons t3 t4 =>
        cases t3
        cases t4 with
        | cons t5 t6 =>
          cases t5
          cases t6 with
          | cons t7 t8 =>
            cases t7
            cases t8
            refine ⟨_, .inr ta.sq, _, atI_nat hx, _, .inr txa.sq, _, rfl, fun _ => ?_, fun hb => absurd hb (by decide)⟩
            refine ⟨_, .inr txa.sq, _, rfl, s0, gv, by rw [hk], M.ls, fun p H1 hp c1 lp lst' => ?_⟩
            obtain ⟨pv, ep, tp⟩ := lp
            have lpv := tp.length
            rw [List.length_map] at lpv
            refine ⟨_, .inr (txa.keep c1.kt).sq, _, rfl, _, .inr (txa.keep c1.kt).sq, _, rfl, (by rw [sizeLine_eq]; show 2 ≤ 16777216; omega), fun l hl => ?_⟩
            have c2 : Chg [st, fr] H1 (upd H1 l (.tup [.str m2, .str f2])) := Chg.new hl
            have epp : upd H1 l (.tup [.str m2, .str f2]) p = some (.lst pv) := by
              rw [upd_ne (ne_of_none ep hl)]
              exact ep
            have hBl := (hBH.chg c1 (by intro z; rw [List.mem_singleton.mp z] at hBH; obtain ⟨_, e, _⟩ := hBH; obtain ⟨_, e2, _⟩ := M.ls; rw [e] at e2; cases e2)).chg (L := []) (Chg.new hl (o := .tup [.str m2, .str f2])) (by simp)
            refine ⟨pv, .inl (SqL.of epp), B, m2, f2, k, rows', by rw [lpv, hk], hBl, upd_same, hB', fun v tv => ?_⟩
            have lst2 : LC K (upd H1 l (.tup [.str m2, .str f2])) st s0 := LC.chg (L := []) lst' (Chg.new hl) (by simp)
            have lp2 : LC K (upd H1 l (.tup [.str m2, .str f2])) p gv := LC.chg (L := []) ⟨pv, ep, tp⟩ (Chg.new hl) (by simp)
            have c12 : Chg [st, fr] H' (upd H1 l (.tup [.str m2, .str f2])) := (c1.mono (by simp)).trans c2
            have efr : upd H1 l (.tup [.str m2, .str f2]) fr = some (.lst fvs) := by
              have e : H1 fr = some (.lst fvs) := c1.get (by simp [M.apart.2.1]) M.lf
              rw [upd_ne (ne_of_none e hl)]
              exact e
            generalize upd H1 l (.tup [.str m2, .str f2]) = H2 at *
            have lf0 : fvs.length = fs.length := by
              obtain ⟨as, fa, _⟩ := M.fa
              exact fa.len
            refine ⟨⟨_, efr⟩, (by rw [sizeLine_eq]; show 4 ≤ 16777216; omega), fun t ht => ⟨fvs, ?_, by rw [sizeLine_eq]; omega, ?_⟩⟩
            · rw [upd_ne (ne_of_none efr ht)]
              exact efr
            have c3 : Chg [st, fr] H2 (upd H2 t (.tup [.ref ra, .int ((i : Int) + 1), .ref h, .ref st])) := Chg.new ht
            have efr3 : upd H2 t (.tup [.ref ra, .int ((i : Int) + 1), .ref h, .ref st]) fr = some (.lst fvs) := by
              rw [upd_ne (ne_of_none efr ht)]
              exact efr
            have et3 : upd H2 t (.tup [.ref ra, .int ((i : Int) + 1), .ref h, .ref st]) t = some (.tup [.ref ra, .int ((i : Int) + 1), .ref h, .ref st]) := upd_same
            have lst3 : LC K (upd H2 t (.tup [.ref ra, .int ((i : Int) + 1), .ref h, .ref st])) st s0 := LC.chg (L := []) lst2 (Chg.new ht) (by simp)
            have lp3 : LC K (upd H2 t (.tup [.ref ra, .int ((i : Int) + 1), .ref h, .ref st])) p gv := LC.chg (L := []) lp2 (Chg.new ht) (by simp)
            have npf : p ≠ fr := fun z => by
              rw [z, M.lf] at hp
              cases hp
            have nsf : st ≠ fr := Ne.symm M.apart.2.1
            generalize upd H2 t (.tup [.ref ra, .int ((i : Int) + 1), .ref h, .ref st]) = H3 at *
            have c4 : Chg [st, fr] H3 (upd H3 fr (.lst (fvs ++ [.ref t]))) := Chg.lst (by simp) efr3
            have efr4 : upd H3 fr (.lst (fvs ++ [.ref t])) fr = some (.lst (fvs ++ [.ref t])) := upd_same
            have lst4 : LC K (upd H3 fr (.lst (fvs ++ [.ref t]))) st s0 := LC.chg (L := [fr]) lst3 (Chg.lst (by simp) efr3) (by simp [nsf])
            have lp4 : LC K (upd H3 fr (.lst (fvs ++ [.ref t]))) p gv := LC.chg (L := [fr]) lp3 (Chg.lst (by simp) efr3) (by simp [npf])
            have et4 := c4.kt _ _ et3
            generalize upd H3 fr (.lst (fvs ++ [.ref t])) = H4 at *
            refine ⟨(by rw [sizeLine_eq]; exact Nat.zero_le _), fun q' hq => ⟨(by rw [sizeLine_eq]; show 4 ≤ 16777216; omega), fun t5 ht5 => ?_⟩⟩
            refine ⟨_, _, rfl, SqT.of upd_same, rfl, _, _, rfl, _, _, rfl, _, _, rfl, _, _, rfl, rfl, ?_⟩
            have c5 : Chg [st, fr] H4 (upd H4 q' (.lst [])) := Chg.new hq
            have c5' : Chg [] H4 (upd H4 q' (.lst [])) := Chg.new hq
            have eq5 : upd H4 q' (.lst []) q' = some (.lst []) := upd_same
            have npq : p ≠ q' := by
              obtain ⟨_, e, _⟩ := lp4
              exact ne_of_none e hq
            generalize upd H4 q' (.lst []) = H5 at *
            have c6 : Chg [st, fr] H5 (upd H5 t5 (.tup [v, .int 0, .ref p, .ref q'])) := Chg.new ht5
            have c6' : Chg [] H5 (upd H5 t5 (.tup [v, .int 0, .ref p, .ref q'])) := Chg.new ht5
            generalize upd H5 t5 (.tup [v, .int 0, .ref p, .ref q']) = H6 at *
            have c56 := c5'.trans c6'
            have c16 := c12.trans (c3.trans (c4.trans (c5.trans c6)))
            have hq0 : H' q' = none := by
              cases z : H' q' with
              | none => rfl
              | some o =>
                exfalso
                by_cases z1 : q' = st
                · subst z1
                  obtain ⟨_, e, _⟩ := lst4
                  rw [hq] at e
                  cases e
                · by_cases z2 : q' = fr
                  · subst z2
                    rw [hq] at efr4
                    cases efr4
                  · have := (c12.trans (c3.trans c4)).get (by simp [z1, z2]) z
                    rw [hq] at this
                    cases this
            have M' := M.call (i := i + 1) c16 (lst4.chg c56 (by simp)) (lp4.chg c56 (by simp)) hp hq0 npq ⟨[], c6'.get (by simp) eq5, .nil⟩ (c56.get (by simp) efr4) (c56.get (by simp) et4) (tv.keep (c3.trans (c4.trans (c5.trans c6))).kt)
            refine ⟨fun hb => ?_, fun _ => ⟨fun hb => ?_, fun hb => ?_⟩⟩
            · have := of_decide_eq_true hb
              omega
            · have := of_decide_eq_true hb
              omega
            · refine ⟨fun hb => absurd hb (by decide), fun _ => ⟨fun hb => absurd hb (by decide), fun _ => ⟨fun _ => ?_, fun hb => absurd hb (by decide)⟩⟩⟩
              exact ⟨⟨v, 0, p, q', fr, calls + 1, done + 1, some (.ref xa), some (.str "call"), some (.ref p), some v, x5, fvs ++ [.ref t], fs ++ [⟨rows, i + 1, hs, s0⟩], rows', gv, [], n, rfl, hgo, by omega, by omega, M'⟩, step (done + 1) (by omega) (by omega)⟩
  | @back fs' _ rows' _ i' n _ s1 h' s' c1 _ hr' hgo =>
    obtain ⟨x, hx, tx⟩ := txs.get (i := i) (by rw [List.getElem?_map, hr']; rfl)
    obtain ⟨xa, xxs, rfl, txa, txxs⟩ := Td.tuple tx
    cases txxs with
    | cons t1 t2 =>
      cases t1
      cases t2
      obtain ⟨fvs', t, h2, st2, r2, sv2, cv2, sv, rfl, es, tcv, ht, nf2, es2, l2, M'⟩ := M.back
      have lf := M.lf
      refine ⟨_, .inr ta.sq, _, atI_nat hx, _, .inr txa.sq, _, rfl, fun hb => absurd hb (by decide), fun _ => ⟨fun hb => ?_, fun _ => ⟨fun hb => ?_, fun hb => ?_⟩⟩⟩
      · have := of_decide_eq_true hb
        omega
      · have := of_decide_eq_true hb
        omega
      · refine ⟨fun hb => absurd hb (by decide), fun _ => ⟨fun hb => absurd hb (by decide), fun _ => ⟨fun hb => absurd hb (by decide), fun _ => ⟨fun hb => absurd hb (by decide), fun _ => ?_⟩⟩⟩⟩
        refine ⟨_, .inl (SqL.of lf), fun _ => ?_, fun hb => ?_⟩
        · have k1 : upd H' fr (.lst fvs') t = some (.tup [r2, .int (i' : Nat), .ref h2, .ref st2]) := Ktp.lst lf _ _ ht
          have k2 : upd H' fr (.lst fvs') st2 = some (.lst sv2) := by
            rw [upd_ne (Ne.symm nf2)]
            exact es2
          refine ⟨_, .inl (SqL.of es), cv2, atI_last _ _, fvs', .ref t, lf, _, _, rfl, SqT.of k1, rfl, _, _, rfl, _, _, rfl, _, _, rfl, _, _, rfl, rfl, ⟨_, k2⟩, sv2, k2, ?_, ?_⟩
          · have := M.ls2 ⟨rows', i', h', s'⟩ (by simp)
            have z : h'.length + s'.length ≤ 1000 + done := this
            rw [sizeLine_eq]
            omega
          · exact ⟨⟨r2, i', h2, st2, fr, calls, done + 1, some (.ref xa), some (.str "back"), x3, x4, some cv2, fvs', fs', rows', h', s' ++ [c1], n, rfl, hgo, by omega, by omega, M' _ rfl⟩, step (done + 1) (by omega) (by omega)⟩
        · simp at hb
  | @done _ _ _ s1 _ hr' =>
    obtain ⟨x, hx, tx⟩ := txs.get (i := i) (by rw [List.getElem?_map, hr']; rfl)
    obtain ⟨xa, xxs, rfl, txa, txxs⟩ := Td.tuple tx
    cases txxs with
    | cons t1 t2 =>
      cases t1
      cases t2
      obtain ⟨sv, es, ts⟩ := M.ls
      rw [List.map_append] at ts
      obtain ⟨v1, cx, rfl, ts1, tcx⟩ := ts.last
      have lf := M.lf
      have hfv : fvs = [] := by
        obtain ⟨as, fa, _⟩ := M.fa
        cases fa
        rfl
      subst hfv
      refine ⟨_, .inr ta.sq, _, atI_nat hx, _, .inr txa.sq, _, rfl, fun hb => absurd hb (by decide), fun _ => ⟨fun hb => ?_, fun _ => ⟨fun hb => ?_, fun hb => ?_⟩⟩⟩
      · have := of_decide_eq_true hb
        omega
      · have := of_decide_eq_true hb
        omega
      · refine ⟨fun hb => absurd hb (by decide), fun _ => ⟨fun hb => absurd hb (by decide), fun _ => ⟨fun hb => absurd hb (by decide), fun _ => ⟨fun hb => absurd hb (by decide), fun _ => ?_⟩⟩⟩⟩
        refine ⟨_, .inl (SqL.of lf), (fun hb => nomatch hb), fun _ => ?_⟩
        exact ⟨_, .inl (SqL.of es), cx, atI_last _ _, q cx H' M.ch tcx⟩
end
end T5
set_option maxHeartbeats 4000000
namespace T5
open PySem PySem.Spec PyProof.Rows L2 T3
section
variable {X : Cx}
theorem msetLcR {i : Nat} {y : Str} {py : Pos} {elt tg a : Expr} {scope : Scope} {own : List (Str × Nat)} {p pos pos' spos : Pos} {g : TG} {ta el : TE} (hy : X.N[i]? = some y) (hyl : X.env.scope.names.lookup y = some .local)
    (hsw : swapsWith (.ListComp elt [⟨tg, .Call (.Name "range" p) [a] [] pos', [], 0⟩] scope pos) (some (.Name y py)) spos.line X.env = pure true)
    (hc : X.calm = true) (hN : X.N.Nodup) (hgr : Gl X "range") (hm : X.mg "range" = none) (ha : PE X a ta) (ok : BlkOk X.N X.env.scope scope own)
    (hg : ∀ (s : Shared) (H : Hp) (C : Addr) (cl : List (Str × Addr)) (fp : List Addr), PG (X.blk s H scope (compEnvC scope cl C X.env) fp) tg g)
    (he : ∀ (s : Shared) (H : Hp) (C : Addr) (cl : List (Str × Addr)) (fp : List Addr), PE (X.blk s H scope (compEnvC scope cl C X.env) fp) elt el)
    (hsa : starEach [a] X.env = (false, eval a X.env) :: starEach [] X.env := by rfl)
    (hs : ∀ x, foldedSetIterable (.Call (.Name "range" p) [a] [] pos') X.env x = pure x := by intro _; rfl) :
    PS X (.Assign [.Name y py] (.ListComp elt [⟨tg, .Call (.Name "range" p) [a] [] pos', [], 0⟩] scope pos) spos) (tAsg (mLcR ta g el (own.map (·.2))) (gName i)) := by
  refine PS.imp ?_ (ps_setLc hc hN hy hyl hsw (pi_range1 (tg := tg) (p := p) (pos := pos') hgr hm (pa_cons (mono_pe ha) pa_nil hsa) hsa) ok hg (fun _ _ _ _ _ => pts_nil) he hs)
  intro D σ H h
  refine ⟨_, h, ?_⟩
  intro v H1 h1
  cases v with
  | int j =>
    obtain ⟨h2, h3⟩ := h1
    refine ⟨j, rfl, h2.1, h2.2, fun D hD => ?_⟩
    obtain ⟨Pv, p0, ps, pd⟩ := h3 D hD
    refine lc_range (lo := 0) (n := j.toNat) Pv p0 ?_ pd
    intro i H hi hP
    have z := ps i H hi hP
    rw [Int.zero_add]
    exact z
  | _ => exact h1.elim
end
abbrev st_law_numbers : Stmt := topS 18
theorem sc_law_numbers : FnScope ["script", "great", "cell", "jar", "drawn", "k", "number"] ["script"] (defScope st_law_numbers) := ⟨rfl, rfl, rfl, by decide +kernel, rfl, by decide +kernel, by decide +kernel⟩
abbrev st_law_take : Stmt := topS 19
theorem sc_law_take : FnScope ["pool", "many"] ["pool", "many"] (defScope st_law_take) := ⟨rfl, rfl, rfl, by decide +kernel, rfl, by decide +kernel, by decide +kernel⟩
abbrev st_law_like : Stmt := topS 20
theorem sc_law_like : FnScope ["actual", "due", "waiting", "k", "one", "other"] ["actual", "due"] (defScope st_law_like) := ⟨rfl, rfl, rfl, by decide +kernel, rfl, by decide +kernel, by decide +kernel⟩
section
variable {P : Program} {w : World} {K : PySem.W.Frag} {mg : Str → Option Value} {base : Heap}
def Pool (H : Hp) (p : Addr) : Prop := ∃ ns : List Int, H p = some (.lst (ns.map V.int)) ∧ ∀ n ∈ ns, 0 ≤ n
theorem Pool.chg {L : List Addr} {H H' : Hp} {p : Addr} (h : Pool H p) (g : Chg L H H') (hp : p ∉ L) : Pool H' p := by
  obtain ⟨ns, h1, h2⟩ := h
  exact ⟨ns, g.get hp h1, h2⟩
def sp_law_numbers (K : PySem.W.Frag) : Sp := fun vs H Q _ => match vs with
  | [.ref a] => ∃ ns : List Int, SqL K H a (ns.map V.int) ∧ ns.length ≤ 63 ∧ ∀ d H', Chg [] H H' → H d = none → Pool H' d → Q (.ref d) H'
  | _ => False
theorem sqL_new {H : Hp} {a p : Addr} {xs : List V} {o : HO} (h : SqL K H a xs) (hp : H p = none) : SqL K (upd H p o) a xs := by
  rcases h with (h | ⟨ob, h⟩) | h
  · exact .inl (.inl (by rw [upd_ne (ne_of_none h hp)]; exact h))
  · exact .inl (.inr ⟨ob, by rw [upd_ne (ne_of_none h hp)]; exact h⟩)
  · exact .inr h
theorem sqL_chg {H H' : Hp} {a : Addr} {xs : List V} (h : SqL K H a xs) (g : Chg [] H H') : SqL K H' a xs := by
  rcases h with (h | ⟨ob, h⟩) | h
  · exact .inl (.inl (g.get (by simp) h))
  · exact .inl (.inr ⟨ob, g.get (by simp) h⟩)
  · exact .inr h
theorem ok_law_numbers {f : Addr} {fd : FuncData} (F : Fun K "_law_numbers" "_law_numbers" st_law_numbers f fd) (T : Top K mg) : FnOk P w K mg base CX0 1 f fd ["script"] (sp_law_numbers K) := by
  refine F.ok sc_law_numbers (fun vs H Q E h => ?_) (fun cdv A outer s H vs Q E hr h => ?_)
  · match vs, h with
    | [.ref a], _ => rfl
  match vs, h with
  | [.ref a], h =>
  obtain ⟨ns, hS, hlen, q⟩ := h
  refine ⟨_, (pss_cons (ps_set (i := 1) sc_law_numbers.nd rfl (.inl rfl) pe_int)
(pss_cons (mforL PassesOwn.never rfl (pe_slice slM (mv 0) po_none (pom pe_int)) (pg_name (i := 2) sc_law_numbers.nd rfl (.inl rfl))
(pss_one (mif (PW.pt (mand (mcmp opEq (mv 1) pe_int) (pw_and1 (mcmp opGe (mv 2) (pe_op opPow pe_int pe_int)))))
(pss_one (ps_set (i := 1) sc_law_numbers.nd rfl (.inl rfl) (mv 2)))
pss_nil)))
(pss_cons (ps_set (i := 3) sc_law_numbers.nd rfl (.inl rfl) pe_int)
(pss_cons (ps_set (i := 4) sc_law_numbers.nd rfl (.inl rfl) (pe_lst pa_nil))
(pss_cons (mforR PassesOwn.never rfl (by rfl) T.range pe_int (pg_name (i := 5) sc_law_numbers.nd rfl (.inl rfl))
(pss_cons (ps_set (i := 2) sc_law_numbers.nd rfl (.inl rfl) pe_int)
(pss_cons (mif (mcmp opGt (pe_callB callLen (by rfl) T.len (by decide +kernel) (pa_cons (mv 0) pa_nil)) pe_int)
(pss_one (ps_set (i := 2) sc_law_numbers.nd rfl (.inl rfl) (pe_op opMod (pe_callTy callInt (by rfl) T.int (by decide +kernel) (pa_cons (pe_ix ixM (mv 0) (pe_op opMod (mv 5) (pe_callB callLen (by rfl) T.len (by decide +kernel) (pa_cons (mv 0) pa_nil))) (fun _ _ => rfl)) pa_nil)) pe_int)))
pss_nil)
(pss_cons (ps_set (i := 3) sc_law_numbers.nd rfl (.inl rfl) (pe_op opMod (pe_callTy callInt (by rfl) T.int (by decide +kernel) (pa_cons (pe_op opAdd (pe_op opAdd (pe_op opAdd (pe_op opMul (mv 3) pe_int) (pe_op opMul (mv 2) pe_int)) (pe_op opMul (mv 5) pe_int)) pe_int) pa_nil)) pe_int))
(pss_cons (ps_set (i := 6) sc_law_numbers.nd rfl (.inl rfl) (pe_op opDiv (mv 3) pe_int))
(pss_cons (mif (mcmp opGt (mv 1) pe_int)
(pss_cons (ps_set (i := 6) sc_law_numbers.nd rfl (.inl rfl) (pe_op opMod (pe_callTy callInt (by rfl) T.int (by decide +kernel) (pa_cons (mv 1) pa_nil)) pe_int))
(pss_one (ps_set (i := 1) sc_law_numbers.nd rfl (.inl rfl) (pe_op opDiv (mv 1) pe_int))))
pss_nil)
(pss_one (mapp (mv 4) (mv 6)))))))))
(pss_one (ps_ret (mrev (mv 4)))))))))
  , ?_⟩
  have hcut : ∃ ms : List Int, cutV (ns.map V.int) none (some 63) = ms.map V.int := ⟨(ns.drop (HT.sIx (ns.map V.int).length 0 none)).take (HT.sIx (ns.map V.int).length (ns.map V.int).length (some 63) - HT.sIx (ns.map V.int).length 0 none), by
    unfold cutV
    rw [List.map_take, List.map_drop]⟩
  obtain ⟨ms, hms⟩ := hcut
  refine ⟨_, hS, fun p hp => ?_⟩
  have e1 : upd H p (.lst (cutV (ns.map V.int) none (some 63))) p = some (.lst (ms.map V.int)) := by
    rw [hms]
    exact upd_same
  have c1 : Chg [] H (upd H p (.lst (cutV (ns.map V.int) none (some 63)))) := Chg.new hp
  have hS1 := sqL_chg hS c1
  generalize upd H p (.lst (cutV (ns.map V.int) none (some 63))) = H1 at *
  refine ⟨_, SqL.of e1, fun i σ H' => ∃ (g : Int) (c : Option V), σ = [some (.ref a), some (.int g), c, none, none, none, none] ∧ H' = H1, ⟨0, none, rfl, rfl⟩, ?_, ?_, ?_⟩
  · rintro i σ H' _ ⟨g, c, rfl, rfl⟩
    exact SqL.of e1
  · rintro i x σ H' hx ⟨g, c, rfl, rfl⟩
    rw [List.getElem?_map] at hx
    obtain ⟨n, _, rfl⟩ := Option.map_eq_some_iff.mp hx
    exact ⟨fun _ => ⟨⟨by decide, by decide, by decide⟩, fun _ => ⟨n, _, rfl, rfl⟩, fun _ => ⟨g, _, rfl, rfl⟩⟩, fun _ => ⟨(fun h => nomatch h), fun _ => ⟨g, _, rfl, rfl⟩⟩⟩
  · rintro σ H' ⟨g, c, rfl, rfl⟩
    refine ⟨(by rw [sizeLine_eq]; exact Nat.zero_le _), fun d hd => ⟨⟨by decide, by decide⟩, fun i σ H2 => ∃ (g j : Int) (ds : List Int) (c k n : Option V), σ = [some (.ref a), some (.int g), c, some (.int j), some (.ref d), k, n] ∧ 0 ≤ j ∧ j < 2147483647 ∧
      H2 d = some (.lst (ds.map V.int)) ∧ Chg [] H' H2 ∧ (∀ n ∈ ds, 0 ≤ n) ∧ ds.length = i, ?_, ?_, ?_⟩⟩
    · exact ⟨g, 7, [], c, none, none, rfl, by decide, by decide, upd_same, Chg.new hd, (fun n hn => nomatch hn), rfl⟩
    · rintro i σ H2 hi ⟨g, j, ds, c, k, n, rfl, hj0, hj1, e2, c2, hds, hl⟩
      have hS2 := sqL_chg hS1 c2
      have hi' : i < 240 := hi
      have tail : ∀ (cl : Int), 0 ≤ cl → cl < 1000003 → ∃ (j' : Int), (j * 48271 + cl * 31 + (i : Int) * 7919 + 11) % 2147483647 = j' ∧ 0 ≤ j' ∧ j' < 2147483647 := fun cl _ _ => ⟨_, rfl, Int.emod_nonneg _ (by decide), Int.emod_lt_of_pos _ (by decide)⟩
      have fin : ∀ (g' j' num : Int) (cl : V), 0 ≤ num → 0 ≤ j' → j' < 2147483647 → ∃ xs, H2 d = some (.lst xs) ∧ xs.length < sizeLine ∧ ∃ (g j : Int) (ds : List Int) (c k n : Option V), [some (V.ref a), some (.int g'), some cl, some (.int j'), some (.ref d), some (.int (i : Int)), some (.int num)] = [some (.ref a), some (.int g), c, some (.int j), some (.ref d), k, n] ∧ 0 ≤ j ∧ j < 2147483647 ∧
          upd H2 d (.lst (xs ++ [.int num])) d = some (.lst (ds.map V.int)) ∧ Chg [] H' (upd H2 d (.lst (xs ++ [.int num]))) ∧ (∀ n ∈ ds, 0 ≤ n) ∧ ds.length = i + 1 := by
        intro g' j' num cl h1 h2 h3
        refine ⟨ds.map V.int, e2, by rw [sizeLine_eq, List.length_map]; omega, g', j', ds ++ [num], _, _, _, rfl, h2, h3, ?_, c2.fresh (L := [d]) (Chg.lst (by simp) e2) (fun x hx => by rw [List.mem_singleton.mp hx]; exact hd), ?_, by rw [List.length_append, hl]; rfl⟩
        · rw [List.map_append]
          exact upd_same
        · intro n hn
          rcases List.mem_append.mp hn with hn | hn
          · exact hds n hn
          · rw [List.mem_singleton.mp hn]
            exact h1
      have hcalc : ∀ cl : Int, 0 ≤ cl → cl < 1000003 → True := fun _ _ _ => trivial
      have rest : ∀ (cl j' : Int), 0 ≤ j' → j' < 2147483647 → 0 ≤ j' / 64 := fun cl j' h _ => Int.ediv_nonneg h (by decide)
      have m0 : ∀ z : Int, 0 ≤ z % 2147483647 := fun z => Int.emod_nonneg _ (by decide)
      have m1 : ∀ z : Int, z % 2147483647 < 2147483647 := fun z => Int.emod_lt_of_pos _ (by decide)
      have m2 : ∀ z : Int, 0 ≤ z % 9973 := fun z => Int.emod_nonneg _ (by decide)
      refine ⟨_, .inl hS2, fun hb => ?_, fun _ => ?_⟩
      · have hn0 : 0 < ns.length := by
          have := of_decide_eq_true hb
          rw [List.length_map] at this
          omega
        have hmod : ((i : Int) % ((ns.map V.int).length : Nat)) = ((i % ns.length : Nat) : Int) := by
          rw [List.length_map]
          rfl
        have hlt : i % ns.length < ns.length := Nat.mod_lt _ hn0
        have e3 : atI (ns.map V.int) ((i : Int) % ((ns.map V.int).length : Nat)) = some (.int ns[i % ns.length]) := by
          rw [hmod]
          refine atI_nat ?_
          rw [List.getElem?_map, List.getElem?_eq_getElem hlt]
          rfl
        refine ⟨_, .inl hS2, by rw [List.length_map]; omega, _, .inl hS2, _, e3, by decide, ?_⟩
        refine ⟨.inr ⟨by decide, by decide⟩, .inr ⟨by decide, by decide⟩, .inr ⟨by decide, by decide⟩, by decide, ⟨by decide, by decide⟩, fun _ => ?_, fun _ => ?_⟩
        · exact ⟨by decide, ⟨by decide, by decide⟩, ⟨_, e2⟩, fin _ _ _ _ (m2 _) (m0 _) (m1 _)⟩
        · exact ⟨⟨_, e2⟩, fin _ _ _ _ (Int.ediv_nonneg (m0 _) (by decide)) (m0 _) (m1 _)⟩
      · refine ⟨.inr ⟨by decide, by decide⟩, .inr ⟨by decide, by decide⟩, .inr ⟨by decide, by decide⟩, by decide, ⟨by decide, by decide⟩, fun _ => ?_, fun _ => ?_⟩
        · exact ⟨by decide, ⟨by decide, by decide⟩, ⟨_, e2⟩, fin _ _ _ _ (m2 _) (m0 _) (m1 _)⟩
        · exact ⟨⟨_, e2⟩, fin _ _ _ _ (Int.ediv_nonneg (m0 _) (by decide)) (m0 _) (m1 _)⟩
    · rintro σ H2 ⟨g, j, ds, c, k, n, rfl, hj0, hj1, e2, c2, hds, hl⟩
      refine ⟨_, SqL.of e2, fun p2 hp2 => q p2 _ ((c1.trans c2).trans (Chg.new hp2)) ((c1.trans c2).old hp2) ⟨ds.reverse, ?_, fun n hn => hds n (List.mem_reverse.mp hn)⟩⟩
      rw [List.map_reverse]
      exact upd_same

def sp_law_take : Sp := fun vs H Q _ => match vs with
  | [.ref p, .int m] => Pool H p ∧ ∃ n : Nat, m = n ∧ 0 < n ∧ ∀ (r : Nat) H', r < n → Chg [p] H H' → Pool H' p → Q (.int r) H'
  | _ => False
theorem ok_law_take {f : Addr} {fd : FuncData} (F : Fun K "_law_take" "_law_take" st_law_take f fd) (T : Top K mg) : FnOk P w K mg base CX0 1 f fd ["pool", "many"] sp_law_take := by
  refine F.ok sc_law_take (fun vs H Q E h => ?_) (fun cdv A outer s H vs Q E hr h => ?_)
  · match vs, h with
    | [.ref a, .int m], _ => rfl
  match vs, h with
  | [.ref p, .int m], h =>
  obtain ⟨⟨ns, hp, hns⟩, n, rfl, hn, q⟩ := h
  refine ⟨_, (pss_cons (mif (mcmp opEq (pe_callB callLen (by rfl) T.len (by decide +kernel) (pa_cons (mv 0) pa_nil)) pe_int)
(pss_one (ps_ret pe_int))
pss_nil)
(pss_one (ps_ret (pe_op opMod (pe_callTy callInt (by rfl) T.int (by decide +kernel) (pa_cons (mpop (mv 0)) pa_nil)) (mv 1)))))
  , ?_⟩
  refine ⟨_, .inl (SqL.of hp), fun _ => ?_, fun hb => ?_⟩
  · exact q 0 H hn (Chg.refl _ _) ⟨ns, hp, hns⟩
  · have hne : ns ≠ [] := fun z => by
      subst z
      exact absurd hb (by decide)
    obtain ⟨ms, x, rfl⟩ : ∃ ms x, ns = ms ++ [x] := ⟨ns.dropLast, ns.getLast hne, (List.dropLast_concat_getLast hne).symm⟩
    rw [List.map_append] at hp
    refine ⟨_, _, hp, by omega, ?_⟩
    have e : x % (n : Int) = ((x % (n : Int)).toNat : Int) := (Int.toNat_of_nonneg (Int.emod_nonneg _ (by omega))).symm
    have lt := Int.emod_lt_of_pos x (show (0 : Int) < (n : Int) by omega)
    have := q (x % (n : Int)).toNat (upd H p (.lst (ms.map V.int))) (by omega) (Chg.lst (by simp) hp) ⟨ms, upd_same, fun y hy => hns y (by simp [hy])⟩
    rw [← e] at this
    exact this
end
end T5
set_option maxHeartbeats 4000000
namespace T5
open PySem PySem.Spec PyProof.Rows L2 T3
inductive WA (K : PySem.W.Frag) (H : Hp) : List V → List Cell → Prop
  | nil : WA K H [] []
  | cons {t : Addr} {x y : V} {c : Cell} {vs : List V} {cs : List Cell} : H t = some (.tup [x, y]) → Td K H x c.d → Td K H y c.d → WA K H vs cs → WA K H (.ref t :: vs) (c :: cs)
section
variable {K : PySem.W.Frag} {H H' : Hp}
theorem WA.keep (k : Ktp H H') : ∀ {vs : List V} {cs : List Cell}, WA K H vs cs → WA K H' vs cs
  | _, _, .nil => .nil
  | _, _, .cons h1 h2 h3 h4 => .cons (k _ _ h1) (h2.keep k) (h3.keep k) (h4.keep k)
theorem WA.app : ∀ {vs ws : List V} {cs ds : List Cell}, WA K H vs cs → WA K H ws ds → WA K H (vs ++ ws) (cs ++ ds)
  | _, _, _, _, .nil, h => h
  | _, _, _, _, .cons h1 h2 h3 h4, h => .cons h1 h2 h3 (h4.app h)
theorem WA.last {c : Cell} : ∀ {vs : List V} {cs : List Cell}, WA K H vs (cs ++ [c]) → ∃ vs' t x y, vs = vs' ++ [.ref t] ∧ WA K H vs' cs ∧ H t = some (.tup [x, y]) ∧ Td K H x c.d ∧ Td K H y c.d
  | _, [], .cons h1 h2 h3 h4 => by
    cases h4
    exact ⟨[], _, _, _, rfl, .nil, h1, h2, h3⟩
  | _, _ :: cs, .cons h1 h2 h3 h4 => by
    obtain ⟨vs', t, x, y, rfl, g, e1, e2, e3⟩ := WA.last (cs := cs) h4
    exact ⟨_ :: vs', t, x, y, rfl, .cons h1 h2 h3 g, e1, e2, e3⟩
theorem WA.length : ∀ {vs : List V} {cs : List Cell}, WA K H vs cs → vs.length = cs.length
  | _, _, .nil => rfl
  | _, _, .cons _ _ _ h => by rw [List.length_cons, List.length_cons, h.length]
theorem WA.zip : ∀ {xs ys : List V} {ts : List Addr} {cs : List Cell}, TdAll K H xs (cs.map Cell.d) → TdAll K H ys (cs.map Cell.d) → ts.length = xs.length →
    (∀ (j : Nat) (x y : V) (t : Addr), xs[j]? = some x → ys[j]? = some y → ts[j]? = some t → H t = some (.tup [x, y])) → WA K H (ts.map V.ref) cs
  | _, _, [], [], .nil, .nil, _, _ => .nil
  | _, _, _ :: _, [], .nil, .nil, h, _ => by cases h
  | _, _, [], _ :: _, .cons _ _, _, h, _ => by cases h
  | x :: xs, y :: ys, t :: ts, c :: cs, .cons a1 a2, .cons b1 b2, h, q =>
    .cons (q 0 x y t rfl rfl rfl) a1 b1 (WA.zip a2 b2 (Nat.succ.inj h) fun j x y t h1 h2 h3 => q (j + 1) x y t h1 h2 h3)
theorem list_last {α : Type} {xs : List α} (h : xs ≠ []) : ∃ ys y, xs = ys ++ [y] := ⟨xs.dropLast, xs.getLast h, (List.dropLast_concat_getLast h).symm⟩
end
section
variable {P : Program} {w : World} {K : PySem.W.Frag} {mg : Str → Option Value} {base : Heap}
def sp_law_like (K : PySem.W.Frag) : Sp := fun vs H Q _ => match vs with
  | [v, u] => ∃ c : Cell, Td K H v c.d ∧ Td K H u c.d ∧ c.size ≤ 1000 ∧ ∀ H', Chg [] H H' → Q (.bl true) H'
  | _ => False
theorem ok_law_like {f : Addr} {fd : FuncData} (F : Fun K "_law_like" "_law_like" st_law_like f fd) (T : Top K mg) : FnOk P w K mg base CX0 1 f fd ["actual", "due"] (sp_law_like K) := by
  refine F.ok sc_law_like (fun vs H Q E h => ?_) (fun cdv A outer s H vs Q E hr h => ?_)
  · match vs, h with
    | [v, u], _ => rfl
  match vs, h with
  | [v, u], h =>
  obtain ⟨c, tv, tu, hz, q⟩ := h
  refine ⟨_, (pss_cons (ps_set (i := 2) sc_law_like.nd rfl (.inl rfl) (pe_lst (pa_cons (pe_tup (pa_cons (mv 0) (pa_cons (mv 1) pa_nil))) pa_nil)))
(pss_cons (mforR PassesOwn.never rfl (by rfl) T.range pe_int (pg_name (i := 3) sc_law_like.nd rfl (.inl rfl))
(pss_cons (mif (mcmp opEq (pe_callB callLen (by rfl) T.len (by decide +kernel) (pa_cons (mv 2) pa_nil)) pe_int)
(pss_one (ps_ret pe_bl))
pss_nil)
(pss_cons (ps_asg (mpop (mv 2)) (pg_tup rfl (pgs_cons (pg_name (i := 4) sc_law_like.nd rfl (.inl rfl)) (pgs_cons (pg_name (i := 5) sc_law_like.nd rfl (.inl rfl)) pgs_nil))))
(pss_cons (mif (PW.pt (mor (pt_not (mval (pe_callB callIsi2 (by rfl) T.isinstance (by decide +kernel) (pa_cons (mv 4) (pa_cons (pe_bltn (by rfl) T.tuple (by decide +kernel) (v := .ty "tuple") rfl) pa_nil))))) (mor (mcmp opNe (pe_callB callLen (by rfl) T.len (by decide +kernel) (pa_cons (mv 4) pa_nil)) pe_int) (mor (pt_not (mval (pe_callB callIsi2 (by rfl) T.isinstance (by decide +kernel) (pa_cons (pe_ix ixM (mv 4) pe_int (fun _ _ => rfl)) (pa_cons (pe_bltn (by rfl) T.tuple (by decide +kernel) (v := .ty "tuple") rfl) pa_nil))))) (pw_or1 (mcmp opNe (pe_callB callLen (by rfl) T.len (by decide +kernel) (pa_cons (pe_ix ixM (mv 4) pe_int (fun _ _ => rfl)) pa_nil)) (pe_callB callLen (by rfl) T.len (by decide +kernel) (pa_cons (pe_ix ixM (mv 5) pe_int (fun _ _ => rfl)) pa_nil))))))))
(pss_one (ps_ret pe_bl))
pss_nil)
(pss_cons (mif (PW.pt (mor (pt_not (mval (pe_callB callIsi2 (by rfl) T.isinstance (by decide +kernel) (pa_cons (pe_ix ixM (mv 4) pe_int (fun _ _ => rfl)) (pa_cons (pe_bltn (by rfl) T.int (by decide +kernel) (v := .ty "int") rfl) pa_nil))))) (mor (mval (pe_callB callIsi2 (by rfl) T.isinstance (by decide +kernel) (pa_cons (pe_ix ixM (mv 4) pe_int (fun _ _ => rfl)) (pa_cons (pe_bltn (by rfl) T.bool (by decide +kernel) (v := .ty "bool") rfl) pa_nil)))) (pw_or1 (mcmp opNe (pe_ix ixM (mv 4) pe_int (fun _ _ => rfl)) (pe_ix ixM (mv 5) pe_int (fun _ _ => rfl)))))))
(pss_one (ps_ret pe_bl))
pss_nil)
(pss_one (mext (mv 2) (pe_listZip rfl (pa_cons (pe_ix ixM (mv 4) pe_int (fun _ _ => rfl)) (pa_cons (pe_ix ixM (mv 5) pe_int (fun _ _ => rfl)) pa_nil)) (by rfl) T.list (by decide +kernel) (by rfl) T.zip))))))))
(pss_one (ps_ret pe_bl))))
  , ?_⟩
  refine ⟨(by rw [sizeLine_eq]; show 2 ≤ 16777216; omega), fun t ht => ⟨(by rw [sizeLine_eq]; show 1 ≤ 16777216; omega), fun p hp => ⟨⟨by decide, by decide⟩,
    fun i σ H1 => ∃ (p' : Addr) (k one other : Option V) (vs : List V) (cs : List Cell), σ = [some v, some u, some (.ref p'), k, one, other] ∧ H p' = none ∧ H1 p' = some (.lst vs) ∧ WA K H1 vs cs ∧ Chg [] H H1 ∧ i + Cell.sizes cs = c.size, ?_, ?_, ?_⟩⟩⟩
  · have c1 : Chg [] H (upd H t (.tup [v, u])) := Chg.new ht
    have c2 : Chg [] (upd H t (.tup [v, u])) (upd (upd H t (.tup [v, u])) p (.lst [.ref t])) := Chg.new hp
    have cc := c1.trans c2
    refine ⟨p, none, none, none, _, [c], rfl, c1.old hp, upd_same, .cons (c2.kt _ _ upd_same) (tv.keep cc.kt) (tu.keep cc.kt) .nil, cc, ?_⟩
    rw [Cell.sizes_one]
    omega
  · rintro i σ H1 hi ⟨p', k, one, other, vs, cs, rfl, hp', e1, wa, c1, hs⟩
    have lw := wa.length
    refine ⟨vs, .inl (SqL.of e1), fun hb => q H1 c1, fun hb => ?_⟩
    have hne : cs ≠ [] := fun z => by
      subst z
      cases wa
      exact absurd hb (by decide)
    obtain ⟨cs', d, rfl⟩ := list_last hne
    obtain ⟨vs', t', x, y, rfl, wa', et, tx, ty⟩ := wa.last
    obtain ⟨n, ps⟩ := d
    rw [Cell.d, Cell.ds_map] at tx ty
    rw [Cell.sizes_app, Cell.sizes_one, Cell.size] at hs
    obtain ⟨a, xs, rfl, ta, txs⟩ := tx.tuple
    obtain ⟨b, ys, rfl, tb, tys⟩ := ty.tuple
    cases txs with
    | cons x1 x2 =>
      cases x1
      cases x2 with
      | cons x3 x4 =>
        cases x4
        obtain ⟨a2, xs2, rfl, ta2, txs2⟩ := x3.tuple
        cases tys with
        | cons y1 y2 =>
          cases y1
          cases y2 with
          | cons y3 y4 =>
            cases y4
            obtain ⟨b2, ys2, rfl, tb2, tys2⟩ := y3.tuple
            have k1 : Ktp H1 (upd H1 p' (.lst vs')) := Ktp.lst e1
            have et' := k1 _ _ et
            have ta' := (ta.keep k1).sq
            have tb' := (tb.keep k1).sq
            have ta2' := (ta2.keep k1).sq
            have tb2' := (tb2.keep k1).sq
            have l1 := txs2.length
            have l2 := tys2.length
            rw [List.length_map] at l1 l2
            refine ⟨vs', _, e1, _, _, rfl, SqT.of et', rfl, _, _, rfl, _, _, rfl, rfl, ?_⟩
            refine ⟨⟨_, ta'⟩, true, rfl, (fun h => nomatch h), fun _ => ⟨_, .inr ta', (fun h => nomatch h), fun _ => ⟨_, .inr ta', _, atI1 rfl, ⟨_, ta2'⟩, true, rfl, (fun h => nomatch h), fun _ => ⟨_, .inr ta', _, atI1 rfl, _, .inr ta2', _, .inr tb', _, atI1 rfl, _, .inr tb2', fun h => ?_, fun _ => ?_⟩⟩⟩⟩
            · rw [decide_eq_true (show ((xs2.length : Nat) : Int) = ((ys2.length : Nat) : Int) by omega)] at h
              cases h
            refine ⟨_, .inr ta', _, atI0 rfl, true, rfl, (fun h => nomatch h), fun _ => ⟨_, .inr ta', _, atI0 rfl, false, rfl, (fun h => nomatch h), fun _ => ⟨_, .inr ta', _, atI0 rfl, _, .inr tb', _, atI0 rfl, fun h => ?_, fun _ => ?_⟩⟩⟩
            · rw [decide_eq_true (rfl : n = n)] at h
              cases h
            refine ⟨⟨_, upd_same⟩, _, .inr ta', _, atI1 rfl, _, .inr tb', _, atI1 rfl, a2, b2, xs2, ys2, rfl, ta2', tb2', by omega, fun H2 p2 ts g2 hp2 lts e2 hz2 => ?_⟩
            have c2 : Chg [] (upd H1 p' (.lst vs')) H2 := Chg.grow g2
            have e3 : H2 p' = some (.lst vs') := g2 _ _ upd_same
            have lz1 := Cell.sizes_len ps
            have lz2 := Cell.sizes_len cs'
            have lw' := wa'.length
            refine ⟨vs', ts.map V.ref, e3, .inl e2, by rw [sizeLine_eq, List.length_map]; omega, p', _, _, _, _, cs' ++ ps, rfl, hp', upd_same, ?_, ?_, ?_⟩
            · have k3 : Ktp H2 (upd H2 p' (.lst (vs' ++ ts.map V.ref))) := Ktp.lst e3
              exact (((wa'.keep k1).keep c2.kt).app (WA.zip ((txs2.keep k1).keep c2.kt) ((tys2.keep k1).keep c2.kt) lts hz2)).keep k3
            · refine c1.fresh (L := [p']) ((Chg.lst (by simp) e1).trans ((c2.mono (by simp)).trans (Chg.lst (by simp) e3))) fun a ha => ?_
              rw [List.mem_singleton.mp ha]
              exact hp'
            · rw [Cell.sizes_app]
              omega
  · rintro σ H1 ⟨p', k, one, other, vs, cs, rfl, hp', e1, wa, c1, hs⟩
    have : (2000 : Int).toNat = 2000 := rfl
    omega
end
end T5
set_option maxHeartbeats 4000000
namespace T5
open PySem PySem.Spec PyProof.Rows L2 T3
abbrev st_law_parents : Stmt := topS 21
theorem sc_law_parents : FnScope ["pool", "many", "way", "parents", "k", "draw"] ["pool", "many"] (defScope st_law_parents) := ⟨rfl, rfl, rfl, by decide +kernel, rfl, by decide +kernel, by decide +kernel⟩
abbrev st_law_cell : Stmt := topS 22
theorem sc_law_cell : FnScope ["numbers", "parents", "many", "parts", "cell", "j", "k"] ["numbers", "parents"] (defScope st_law_cell) := ⟨rfl, rfl, rfl, by decide +kernel, rfl, by decide +kernel, by decide +kernel⟩
def nv (k : Nat) : V := .int (k : Nat)
/-- each parent comes before -/
def Par (ps : List Nat) : Prop := ∀ k r, ps[k]? = some r → 0 < k → r < k
theorem Par.snoc {ps : List Nat} {r : Nat} (h : Par ps) (g : 0 < ps.length → r < ps.length) : Par (ps ++ [r]) := by
  intro k x e hk
  by_cases z : k < ps.length
  · rw [List.getElem?_append_left z] at e
    exact h k x e hk
  · rw [List.getElem?_append_right (by omega)] at e
    have z2 : k - ps.length = 0 := by
      have := (List.getElem?_eq_some_iff.mp e).1
      simp at this
      omega
    rw [z2] at e
    cases e
    have : k = ps.length := by omega
    rw [this]
    exact g (by omega)
section
variable {P : Program} {w : World} {K : PySem.W.Frag} {mg : Str → Option Value} {base : Heap}
def sp_law_parents : Sp := fun vs H Q _ => match vs with
  | [.ref p, .int m] => Pool H p ∧ ∃ n : Nat, m = n ∧ n ≤ 1000 ∧ ∀ (ps : List Nat) q H', ps.length = n → Par ps → Chg [p] H H' → Pool H' p → H q = none → H' q = some (.lst (ps.map nv)) → Q (.ref q) H'
  | _ => False
theorem ok_law_parents {f : Addr} {fd : FuncData} (F : Fun K "_law_parents" "_law_parents" st_law_parents f fd) (T : Top K mg) (Claw_take : Cal P w K mg base "_law_take" 1 ["pool", "many"] sp_law_take) :
    FnOk P w K mg base CX0 2 f fd ["pool", "many"] sp_law_parents := by
  refine F.ok sc_law_parents (fun vs H Q E h => ?_) (fun cdv A outer s H vs Q E hr h => ?_)
  · match vs, h with
    | [.ref a, .int m], _ => rfl
  match vs, h with
  | [.ref p, .int m], h =>
  obtain ⟨hp, n, rfl, hn, q⟩ := h
  refine ⟨_, (pss_cons (ps_set (i := 2) sc_law_parents.nd rfl (.inl rfl) (pe_cal Claw_take (hr.mono (by decide)) (by rfl) (pa_cons (mv 0) (pa_cons pe_int pa_nil))))
(pss_cons (ps_set (i := 3) sc_law_parents.nd rfl (.inl rfl) (pe_lst pa_nil))
(pss_cons (mforR PassesOwn.never rfl (by rfl) T.range (mv 1) (pg_name (i := 4) sc_law_parents.nd rfl (.inl rfl))
(pss_cons (ps_set (i := 5) sc_law_parents.nd rfl (.inl rfl) (pe_cal Claw_take (hr.mono (by decide)) (by rfl) (pa_cons (mv 0) (pa_cons pe_int pa_nil))))
(pss_one (mif (mcmp opEq (mv 2) pe_int)
(pss_one (mapp (mv 3) (pe_callB (callMax rfl) (by rfl) T.max (by decide +kernel) (pa_cons pe_int (pa_cons (pe_op opSub (pe_op opSub (mv 4) pe_int) (pe_op opMod (pe_callTy callInt (by rfl) T.int (by decide +kernel) (pa_cons (mv 5) pa_nil)) pe_int)) pa_nil)))))
(pss_one (mif (mcmp opEq (mv 2) pe_int)
(pss_one (mapp (mv 3) (pe_op opMod (pe_callTy callInt (by rfl) T.int (by decide +kernel) (pa_cons (mv 5) pa_nil)) (pe_callB (callMax rfl) (by rfl) T.max (by decide +kernel) (pa_cons pe_int (pa_cons (mv 4) pa_nil))))))
(pss_one (mapp (mv 3) (pe_op opDiv (pe_callB (callMax rfl) (by rfl) T.max (by decide +kernel) (pa_cons pe_int (pa_cons (pe_op opSub (mv 4) pe_int) pa_nil))) pe_int)))))))))
(pss_one (ps_ret (mv 3))))))
  , ?_⟩
  refine ⟨hp, 3, rfl, by decide, fun way H1 hway c1 hp1 => ⟨(by rw [sizeLine_eq]; exact Nat.zero_le _), fun q' hq => ⟨⟨by omega, by omega⟩,
    fun i σ H2 => ∃ (k d : Option V) (ps : List Nat), σ = [some (.ref p), some (.int (n : Nat)), some (.int (way : Nat)), some (.ref q'), k, d] ∧ ps.length = i ∧ Par ps ∧ Chg [p, q'] H1 H2 ∧ Chg [p] H H2 ∧ Pool H2 p ∧ H2 q' = some (.lst (ps.map nv)), ?_, ?_, ?_⟩⟩⟩
  · obtain ⟨ns, e, _⟩ := id hp1
    have ne : p ≠ q' := ne_of_none e hq
    exact ⟨none, none, [], rfl, rfl, (fun k r e => by simp at e), Chg.new hq, c1.trans (Chg.new hq), hp1.chg (L := []) (Chg.new hq) (by simp), upd_same⟩
  · rintro i σ H2 hi ⟨k, d, ps, rfl, hl, hpar, c2, c3, hp2, e2⟩
    have hi' : i < n := by omega
    obtain ⟨ns, ep, _⟩ := id hp1
    have ne : q' ≠ p := fun z => by
      rw [z] at hq
      rw [hq] at ep
      cases ep
    have hq0 : H q' = none := by
      cases z : H q' with
      | none => rfl
      | some o =>
        have := c1.get (by simp [ne]) z
        rw [hq] at this
        cases this
    refine ⟨hp2, 1000, rfl, by decide, fun dr H3 hdr c4 hp3 => ?_⟩
    have e3 : H3 q' = some (.lst (ps.map nv)) := c4.get (by simp [ne]) e2
    have fin : ∀ (z : Int), 0 ≤ z → (0 < i → z < (i : Int)) → ∃ xs, H3 q' = some (.lst xs) ∧ xs.length < sizeLine ∧ ∃ (k d : Option V) (ps : List Nat), [some (V.ref p), some (.int (n : Nat)), some (.int (way : Nat)), some (.ref q'), some (.int (i : Int)), some (.int (dr : Nat))] = [some (.ref p), some (.int (n : Nat)), some (.int (way : Nat)), some (.ref q'), k, d] ∧ ps.length = i + 1 ∧ Par ps ∧
        Chg [p, q'] H1 (upd H3 q' (.lst (xs ++ [.int z]))) ∧ Chg [p] H (upd H3 q' (.lst (xs ++ [.int z]))) ∧ Pool (upd H3 q' (.lst (xs ++ [.int z]))) p ∧ upd H3 q' (.lst (xs ++ [.int z])) q' = some (.lst (ps.map nv)) := by
      intro z hz0 hz1
      have ez : z = ((z.toNat : Nat) : Int) := (Int.toNat_of_nonneg hz0).symm
      have cl : Chg [q'] H3 (upd H3 q' (.lst (ps.map nv ++ [.int z]))) := Chg.lst (by simp) e3
      refine ⟨ps.map nv, e3, by rw [sizeLine_eq, List.length_map]; omega, _, _, ps ++ [z.toNat], rfl, by rw [List.length_append, hl]; rfl, hpar.snoc (fun hh => by have := hz1 (by omega); omega), (c2.trans (c4.mono (by simp))).trans (cl.mono (by simp)), ?_, hp3.chg cl (by simp [Ne.symm ne]), ?_⟩
      · refine ⟨fun a o ha e => ?_, (c3.trans c4).kt.trans cl.kt⟩
        have hne : a ≠ q' := fun z => by
          rw [z, hq0] at e
          cases e
        rw [upd_ne hne]
        exact (c3.trans c4).get ha e
      · rw [List.map_append]
        have : ([z.toNat].map nv) = [V.int z] := by
          show [V.int ((z.toNat : Nat) : Int)] = [V.int z]
          rw [← ez]
        rw [this]
        exact upd_same
    refine ⟨fun _ => ⟨⟨_, e3⟩, by decide, ?_⟩, fun _ => ⟨fun _ => ⟨⟨_, e3⟩, ?_, ?_⟩, fun _ => ⟨⟨_, e3⟩, ⟨by decide, by decide⟩, ?_⟩⟩⟩
    · refine fin _ ?_ fun h => ?_
      · show (0 : Int) ≤ if (i : Int) - 1 - (dr : Int) % 2 > 0 then (i : Int) - 1 - (dr : Int) % 2 else 0
        split <;> omega
      · show (if (i : Int) - 1 - (dr : Int) % 2 > 0 then (i : Int) - 1 - (dr : Int) % 2 else 0) < (i : Int)
        have : 0 ≤ (dr : Int) % 2 := Int.emod_nonneg _ (by decide)
        split <;> omega
    · show (0 : Int) < if (i : Int) > 1 then (i : Int) else 1
      split <;> omega
    · have hm : 0 < (if (i : Int) > 1 then (i : Int) else 1) := by split <;> omega
      refine fin _ (Int.emod_nonneg _ (Int.ne_of_gt hm)) fun h => ?_
      have h2 : (if (i : Int) > 1 then (i : Int) else 1) ≤ (i : Int) := by split <;> omega
      exact Int.lt_of_lt_of_le (Int.emod_lt_of_pos (dr : Int) hm) h2
    · refine fin _ (Int.ediv_nonneg ?_ (by decide)) fun h => ?_
      · show (0 : Int) ≤ if (i : Int) - 1 > 0 then (i : Int) - 1 else 0
        split <;> omega
      · show (if (i : Int) - 1 > 0 then (i : Int) - 1 else 0) / 3 < (i : Int)
        split <;> omega
  · rintro σ H2 ⟨k, d, ps, rfl, hl, hpar, c2, c3, hp2, e2⟩
    have hq0 : H q' = none := by
      cases z : H q' with
      | none => rfl
      | some o =>
        by_cases ne : q' = p
        · obtain ⟨ns, ep, _⟩ := id hp1
          rw [ne] at hq
          rw [hq] at ep
          cases ep
        · have := c1.get (by simp [ne]) z
          rw [hq] at this
          cases this
    exact q ps q' H2 (by rw [hl]; rfl) hpar c3 hp2 hq0 e2
/-- lists of lists of cells -/
inductive PLL (K : PySem.W.Frag) (H : Hp) : List Addr → List (List Cell) → Prop
  | nil : PLL K H [] []
  | cons {a : Addr} {c : List Cell} {as : List Addr} {cs : List (List Cell)} : LC K H a c → PLL K H as cs → PLL K H (a :: as) (c :: cs)
theorem PLL.chg {L : List Addr} {H H' : Hp} (g : Chg L H H') : ∀ {as : List Addr} {cs : List (List Cell)}, PLL K H as cs → (∀ a ∈ as, a ∉ L) → PLL K H' as cs
  | _, _, .nil, _ => .nil
  | _, _, .cons h1 h2, hd => .cons (h1.chg g (hd _ (by simp))) (PLL.chg g h2 fun a ha => hd a (by simp [ha]))
theorem PLL.snoc {H : Hp} {a : Addr} {c : List Cell} (h : LC K H a c) : ∀ {as : List Addr} {cs : List (List Cell)}, PLL K H as cs → PLL K H (as ++ [a]) (cs ++ [c])
  | _, _, .nil => .cons h .nil
  | _, _, .cons h1 h2 => .cons h1 (PLL.snoc h h2)
theorem PLL.get {H : Hp} : ∀ {as : List Addr} {cs : List (List Cell)} {i : Nat} {a : Addr}, PLL K H as cs → as[i]? = some a → ∃ c, cs[i]? = some c ∧ LC K H a c
  | _, _, _, _, .nil, h => by simp at h
  | _, _, 0, _, .cons h1 h2, h => by
    simp at h
    subst h
    exact ⟨_, rfl, h1⟩
  | _, _, i + 1, _, .cons h1 h2, h => by
    obtain ⟨c, e1, e2⟩ := PLL.get (i := i) h2 (by simpa using h)
    exact ⟨c, by simpa using e1, e2⟩
theorem PLL.length {H : Hp} : ∀ {as : List Addr} {cs : List (List Cell)}, PLL K H as cs → as.length = cs.length
  | _, _, .nil => rfl
  | _, _, .cons _ h => by rw [List.length_cons, List.length_cons, h.length]
theorem PLL.set {H H' : Hp} {a : Addr} {c : List Cell} (g : Chg [a] H H') (hl : LC K H' a c) : ∀ {as : List Addr} {cs : List (List Cell)} {i : Nat}, PLL K H as cs → as.Nodup → as[i]? = some a → PLL K H' as (cs.set i c)
  | _, _, _, .nil, _, h => by simp at h
  | a' :: as, c' :: cs, 0, .cons h1 h2, nd, h => by
    simp at h
    subst h
    rw [List.nodup_cons] at nd
    exact .cons hl (h2.chg g fun b hb z => nd.1 (by rw [List.mem_singleton.mp z] at hb; exact hb))
  | a' :: as, c' :: cs, i + 1, .cons h1 h2, nd, h => by
    rw [List.nodup_cons] at nd
    have h' : as[i]? = some a := by simpa using h
    exact .cons (h1.chg g (fun z => nd.1 (by rw [List.mem_singleton.mp z]; exact List.mem_of_getElem? h'))) (PLL.set g hl h2 nd.2 h')
theorem sum_set : ∀ (cs : List (List Cell)) (i n : Nat) (c : List Cell) (d : List Cell), cs[i]? = some d → i < n → Cell.sizes c = Cell.sizes d + k0 → (((cs.set i c).take n).map Cell.sizes).sum = ((cs.take n).map Cell.sizes).sum + k0
  | [], i, n, c, d, h, _, _ => by simp at h
  | x :: cs, 0, n + 1, c, d, h, _, hz => by
    simp at h
    subst h
    simp only [List.set_cons_zero, List.take_succ_cons, List.map_cons, List.sum_cons]
    omega
  | x :: cs, i + 1, n + 1, c, d, h, hn, hz => by
    simp only [List.set_cons_succ, List.take_succ_cons, List.map_cons, List.sum_cons]
    rw [sum_set cs i n c d (by simpa using h) (by omega) hz]
    omega
theorem sum_take : ∀ (cs : List (List Cell)) (n : Nat) (d : List Cell), cs[n]? = some d → ((cs.take (n + 1)).map Cell.sizes).sum = ((cs.take n).map Cell.sizes).sum + Cell.sizes d
  | [], n, d, h => by simp at h
  | x :: cs, 0, d, h => by
    simp at h
    subst h
    simp
  | x :: cs, n + 1, d, h => by
    simp only [List.take_succ_cons, List.map_cons, List.sum_cons]
    rw [sum_take cs n d (by simpa using h)]
    omega
theorem sum_mono : ∀ (cs : List (List Cell)) (n m : Nat), n ≤ m → ((cs.take n).map Cell.sizes).sum ≤ ((cs.take m).map Cell.sizes).sum
  | [], n, m, _ => by simp
  | x :: cs, 0, m, _ => by simp
  | x :: cs, n + 1, 0, h => by omega
  | x :: cs, n + 1, m + 1, h => by
    simp only [List.take_succ_cons, List.map_cons, List.sum_cons]
    have := sum_mono cs n m (by omega)
    omega
theorem sizes_rev : ∀ cs : List Cell, Cell.sizes cs.reverse = Cell.sizes cs
  | [] => rfl
  | c :: cs => by
    rw [List.reverse_cons, Cell.sizes_app, Cell.sizes_one, sizes_rev cs, Cell.sizes, Nat.add_comm]
def sp_law_cell : PySem.W.Frag → Sp := fun K vs H Q _ => match vs with
  | [.ref a, .ref b] => ∃ (ns : List Int) (ps : List Nat), H a = some (.lst (ns.map V.int)) ∧ H b = some (.lst (ps.map nv)) ∧ ns.length = ps.length ∧ 0 < ns.length ∧ ns.length ≤ 1000 ∧ Par ps ∧
      ∀ v H' (c : Cell), Chg [] H H' → Td K H' v c.d → c.size = ns.length → Q v H'
  | _ => False
theorem ok_law_cell {f : Addr} {fd : FuncData} (F : Fun K "_law_cell" "_law_cell" st_law_cell f fd) (T : Top K mg) : FnOk P w K mg base CX0 1 f fd ["numbers", "parents"] (sp_law_cell K) := by
  refine F.ok sc_law_cell (fun vs H Q E h => ?_) (fun cdv A outer s H vs Q E hr h => ?_)
  · match vs, h with
    | [.ref a, .ref m], _ => rfl
  match vs, h with
  | [.ref a, .ref b], h =>
  obtain ⟨ns, ps, ha, hb, hl, h0, hz, hpar, q⟩ := h
  refine ⟨_, (pss_cons (ps_set (i := 2) sc_law_cell.nd rfl (.inl rfl) (pe_callB callLen (by rfl) T.len (by decide +kernel) (pa_cons (mv 0) pa_nil)))
(pss_cons (msetLcR (i := 3) rfl rfl (sw_true rfl rfl rfl (by decide +kernel)) (own := [("k", 6)]) (g := (gName 6)) (el := (tLst tNil)) (by rfl) sc_law_cell.nd (by rfl) T.range (mv 2) (blkOk_by (own := [("k", 6)]) (N := ["numbers", "parents", "many", "parts", "cell", "j", "k"]) (sc := defScope st_law_cell) (by decide +kernel)) (fun _ _ _ _ _ => (pg_name (i := 6) sc_law_cell.nd rfl (.inl rfl))) (fun _ _ _ _ _ => (pe_lst pa_nil)))
(pss_cons (ps_set (i := 4) sc_law_cell.nd rfl (.inl rfl) (pe_tup (pa_cons (pe_ix ixM (mv 0) pe_int (fun _ _ => rfl)) (pa_cons (pe_tup pa_nil) pa_nil))))
(pss_cons (mforR PassesOwn.never rfl (by rfl) T.range (mv 2) (pg_name (i := 5) sc_law_cell.nd rfl (.inl rfl))
(pss_cons (ps_set (i := 6) sc_law_cell.nd rfl (.inl rfl) (pe_op opSub (pe_op opSub (mv 2) pe_int) (mv 5)))
(pss_cons (ps_set (i := 4) sc_law_cell.nd rfl (.inl rfl) (pe_tup (pa_cons (pe_ix ixM (mv 0) (mv 6) (fun _ _ => rfl)) (pa_cons (pe_callTy callTuple (by rfl) T.tuple (by decide +kernel) (pa_cons (mrev (pe_ix ixM (mv 3) (mv 6) (fun _ _ => rfl))) pa_nil)) pa_nil))))
(pss_one (mif (mcmp opGt (mv 6) pe_int)
(pss_one (mapp (pe_ix ixM (mv 3) (pe_ix ixM (mv 1) (mv 6) (fun _ _ => rfl)) (fun _ _ => rfl)) (mv 4)))
pss_nil)))))
(pss_one (ps_ret (mv 4)))))))
  , ?_⟩
  have hlen : (ns.map V.int).length = ns.length := List.length_map _
  refine ⟨_, .inl (SqL.of ha), ⟨by omega, by omega⟩, fun D hD => ⟨fun i H1 => ∃ (as : List Addr), H1 D = some (.lst (as.map V.ref)) ∧ Chg [] H H1 ∧ PLL K H1 as (List.replicate i []) ∧ (D :: as).Nodup ∧ (∀ x ∈ D :: as, H x = none) ∧ as.length = i, ?_, ?_, ?_⟩⟩
  · exact ⟨[], upd_same, Chg.new hD, .nil, by simp, by simpa using hD, rfl⟩
  · rintro i H1 hi ⟨as, e1, c1, pa, nd, fr, la⟩
    refine ⟨rfl, (by rw [sizeLine_eq]; exact Nat.zero_le _), fun p hp => ?_⟩
    have e2 : upd H1 p (.lst []) D = some (.lst (as.map V.ref)) := by
      rw [upd_ne (ne_of_none e1 hp)]
      exact e1
    have hi' : i < ns.length := by omega
    have c2 : Chg [] H1 (upd H1 p (.lst [])) := Chg.new hp
    have e2p : upd H1 p (.lst []) p = some (.lst []) := upd_same
    have pa2 := pa.chg c2 (by simp)
    have npD : p ≠ D := fun z => by
      rw [z, e1] at hp
      cases hp
    have has : ∀ x ∈ as, H1 x ≠ none := fun x hx => by
      obtain ⟨j, hj⟩ := List.mem_iff_getElem?.mp hx
      obtain ⟨_, _, _, e, _⟩ := pa.get hj
      rw [e]
      exact fun z => nomatch z
    have npa : p ∉ as := fun z => has p z hp
    generalize upd H1 p (.lst []) = H2 at *
    have cl : Chg [D] H2 (upd H2 D (.lst (as.map V.ref ++ [.ref p]))) := Chg.lst (by simp) e2
    rw [List.nodup_cons] at nd
    refine ⟨_, e2, by rw [sizeLine_eq, List.length_map]; omega, as ++ [p], ?_, (c1.trans c2).fresh cl (fun x hx => fr x (by rw [List.mem_singleton.mp hx]; simp)), ?_, ?_, ?_, by rw [List.length_append, la]; rfl⟩
    · rw [List.map_append]
      exact upd_same
    · rw [List.replicate_succ']
      refine PLL.snoc ⟨[], cl.get (by simp [npD]) e2p, .nil⟩ (pa2.chg cl fun x hx z => nd.1 (by rw [List.mem_singleton.mp z] at hx; exact hx))
    · rw [List.nodup_cons]
      refine ⟨by simp [nd.1, Ne.symm npD], ?_⟩
      rw [List.nodup_append]
      exact ⟨nd.2, by simp, fun x hx y hy z => npa (by rw [List.mem_singleton.mp hy] at z; rw [← z]; exact hx)⟩
    · intro x hx
      simp only [List.mem_cons, List.mem_append, List.not_mem_nil, or_false] at hx
      rcases hx with rfl | hx | rfl
      · exact fr _ (by simp)
      · exact fr _ (by simp [hx])
      · exact c1.old hp
  · rintro H1 ⟨as, e1, c1, pa, nd, fr, la⟩
    have la' : as.length = ns.length := by omega
    have ha1 := c1.get (by simp) ha
    have hb1 := c1.get (by simp) hb
    have a0 : (ns.map V.int)[0]? = some (.int ns[0]) := by
      rw [List.getElem?_map, List.getElem?_eq_getElem h0]
      rfl
    refine ⟨_, .inl (SqL.of ha1), _, atI0 a0, (by rw [sizeLine_eq]; exact Nat.zero_le _), fun t0 ht0 => ⟨(by rw [sizeLine_eq]; show 2 ≤ 16777216; omega), fun t1 ht1 => ?_⟩⟩
    have c12 : Chg [] H1 (upd (upd H1 t0 (.tup [])) t1 (.tup [.int ns[0], .ref t0])) := (Chg.new ht0).trans (Chg.new ht1)
    have e2 := c12.get (by simp) e1
    have pa2 := pa.chg c12 (by simp)
    have c2 := c1.trans c12
    generalize upd (upd H1 t0 (.tup [])) t1 (.tup [.int ns[0], .ref t0]) = H2 at *
    refine ⟨⟨by omega, by omega⟩, fun i σ H3 => ∃ (cv : V) (jj kk : Option V) (pcs : List (List Cell)), σ = [some (.ref a), some (.ref b), some (.int ((ns.map V.int).length : Nat)), some (.ref D), some cv, jj, kk] ∧ H3 D = some (.lst (as.map V.ref)) ∧ Chg [] H H3 ∧ PLL K H3 as pcs ∧
      i ≤ ns.length ∧ (i < ns.length → ((pcs.take (ns.length - i)).map Cell.sizes).sum = i) ∧ (i = ns.length → ∃ c : Cell, Td K H3 cv c.d ∧ c.size = ns.length), ?_, ?_, ?_⟩
    · refine ⟨_, none, none, _, rfl, e2, c2, pa2, Nat.zero_le _, fun _ => ?_, fun z => by omega⟩
      have : ∀ m : Nat, ((List.replicate m ([] : List Cell)).map Cell.sizes).sum = 0 := by
        intro m
        induction m with
        | zero => rfl
        | succ m ih =>
          rw [List.replicate_succ, List.map_cons, List.sum_cons, ih]
          rfl
      rw [List.take_replicate]
      exact this _
    · rintro i σ H3 hi ⟨cv, jj, kk, pcs, rfl, e3, c3, pa3, hin, hsum, _⟩
      have hi' : i < ns.length := by omega
      replace hsum := hsum hi'
      have lp := pa3.length
      have ek : ((ns.map V.int).length : Int) - 1 - (i : Int) = ((ns.length - 1 - i : Nat) : Int) := by omega
      have hk : ns.length - 1 - i < ns.length := by omega
      have ha3 := c3.get (by simp) ha
      have hb3 := c3.get (by simp) hb
      have an : atI (ns.map V.int) (((ns.map V.int).length : Int) - 1 - (i : Int)) = some (.int ns[ns.length - 1 - i]) := by
        rw [ek]
        refine atI_nat ?_
        rw [List.getElem?_map, List.getElem?_eq_getElem hk]
        rfl
      obtain ⟨ak, hak⟩ : ∃ ak, as[ns.length - 1 - i]? = some ak := ⟨_, List.getElem?_eq_getElem (by omega)⟩
      have ap : atI (as.map V.ref) (((ns.map V.int).length : Int) - 1 - (i : Int)) = some (.ref ak) := by
        rw [ek]
        refine atI_nat ?_
        rw [List.getElem?_map, hak]
        rfl
      obtain ⟨pk, hpk, vk, evk, tvk⟩ := pa3.get hak
      refine ⟨_, .inl (SqL.of ha3), _, an, _, .inl (SqL.of e3), _, ap, vk, SqL.of evk, fun r hr => ⟨_, SqL.of upd_same, fun t2 ht2 => ⟨(by rw [sizeLine_eq]; show 2 ≤ 16777216; omega), fun t3 ht3 => ?_⟩⟩⟩
      have cA : Chg [] H3 (upd H3 r (.lst vk.reverse)) := Chg.new hr
      have cB : Chg [] (upd H3 r (.lst vk.reverse)) (upd (upd H3 r (.lst vk.reverse)) t2 (.tup vk.reverse)) := Chg.new ht2
      have eB : upd (upd H3 r (.lst vk.reverse)) t2 (.tup vk.reverse) t2 = some (.tup vk.reverse) := upd_same
      generalize upd (upd H3 r (.lst vk.reverse)) t2 (.tup vk.reverse) = H5 at *
      have cC : Chg [] H5 (upd H5 t3 (.tup [.int ns[ns.length - 1 - i], .ref t2])) := Chg.new ht3
      have eC : upd H5 t3 (.tup [.int ns[ns.length - 1 - i], .ref t2]) t3 = some (.tup [.int ns[ns.length - 1 - i], .ref t2]) := upd_same
      generalize upd H5 t3 (.tup [.int ns[ns.length - 1 - i], .ref t2]) = H6 at *
      have c36 := cA.trans (cB.trans cC)
      have tc : Td K H6 (.ref t3) (Cell.mk ns[ns.length - 1 - i] pk.reverse).d := by
        rw [Cell.d, Cell.ds_map, List.map_reverse]
        exact .tup (.inl eC) (.cons (.int _) (.cons (.tup (.inl (cC.kt _ _ eB)) (tvk.rev.keep c36.kt)) .nil))
      have sz : (Cell.mk ns[ns.length - 1 - i] pk.reverse).size = Cell.sizes pk + 1 := by
        rw [Cell.size, sizes_rev]
      have e6 := c36.get (by simp) e3
      have pa6 := pa3.chg c36 (by simp)
      have c6 := c3.trans c36
      have hst := sum_take pcs (ns.length - 1 - i) pk hpk
      rw [show ns.length - 1 - i + 1 = ns.length - i by omega] at hst
      refine ⟨fun hgt => ?_, fun hgt => ?_⟩
      · have hk0 := of_decide_eq_true hgt
        have hk1 : 0 < ns.length - 1 - i := by omega
        obtain ⟨r, hr'⟩ : ∃ r, ps[ns.length - 1 - i]? = some r := ⟨_, List.getElem?_eq_getElem (by omega)⟩
        have hlt := hpar _ _ hr' hk1
        have apr : atI (ps.map nv) (((ns.map V.int).length : Int) - 1 - (i : Int)) = some (.int (r : Nat)) := by
          rw [ek]
          refine atI_nat ?_
          rw [List.getElem?_map, hr']
          rfl
        obtain ⟨ar, har⟩ : ∃ ar, as[r]? = some ar := ⟨_, List.getElem?_eq_getElem (by omega)⟩
        have apa : atI (as.map V.ref) ((r : Nat) : Int) = some (.ref ar) := by
          refine atI_nat ?_
          rw [List.getElem?_map, har]
          rfl
        obtain ⟨pr, hpr, vr, evr, tvr⟩ := pa6.get har
        have ndc := nd
        rw [List.nodup_cons] at ndc
        have cl : Chg [ar] H6 (upd H6 ar (.lst (vr ++ [.ref t3]))) := Chg.lst (by simp) evr
        have nar : ar ∈ as := List.mem_of_getElem? har
        have nDar : D ≠ ar := fun z => ndc.1 (by rw [z]; exact nar)
        have hb6 := c6.get (by simp) hb
        have lr := tvr.length
        rw [List.length_map] at lr
        have lr2 := Cell.sizes_len pr
        have hbound : Cell.sizes pr ≤ i := by
          have := sum_set pcs r (ns.length - i) pr pr hpr (by omega) (k0 := 0) rfl
          have h2 := sum_take pcs r pr hpr
          have h3 : ((pcs.take (r + 1)).map Cell.sizes).sum ≤ ((pcs.take (ns.length - i)).map Cell.sizes).sum := by
            exact sum_mono pcs _ _ (by omega)
          omega
        refine ⟨_, .inl (SqL.of hb6), _, apr, _, .inl (SqL.of e6), _, apa, ⟨_, evr⟩, vr, evr, by rw [sizeLine_eq]; omega, _, _, _, pcs.set r (pr ++ [Cell.mk ns[ns.length - 1 - i] pk.reverse]), rfl, cl.get (by simp [nDar]) e6, c6.fresh cl (fun x hx => fr x (by rw [List.mem_singleton.mp hx]; simp [nar])), ?_, by omega, fun _ => ?_, fun z => by omega⟩
        · refine PLL.set cl ⟨_, upd_same, ?_⟩ pa6 ndc.2 har
          rw [List.map_append]
          exact (tvr.keep cl.kt).snoc (tc.keep cl.kt)
        · rw [show ns.length - (i + 1) = ns.length - 1 - i by omega]
          rw [sum_set pcs r (ns.length - 1 - i) (pr ++ [Cell.mk ns[ns.length - 1 - i] pk.reverse]) pr hpr hlt (k0 := Cell.sizes pk + 1) (by rw [Cell.sizes_app, Cell.sizes_one, sz])]
          omega
      · have hk0 := of_decide_eq_false hgt
        have hlast : i + 1 = ns.length := by omega
        have hz0 : ns.length - 1 - i = 0 := by omega
        refine ⟨_, _, _, pcs, rfl, e6, c6, pa6, by omega, fun z => by omega, fun _ => ⟨_, tc, ?_⟩⟩
        · rw [sz]
          rw [hz0, List.take_zero] at hst
          simp only [List.map_nil, List.sum_nil] at hst
          omega
    · rintro σ H3 ⟨cv, jj, kk, pcs, rfl, e3, c3, pa3, hin, hsum, hfin⟩
      obtain ⟨c, tc, hc⟩ := hfin (by omega)
      exact q _ _ c c3 tc hc
end
end T5
set_option maxHeartbeats 4000000
namespace T5
open PySem PySem.Spec PyProof.Rows L2 T3
abbrev st_law_beside : Stmt := topS 23
theorem sc_law_beside : FnScope ["pool", "numbers", "parents", "way", "many", "one", "other", "kept"] ["pool", "numbers", "parents", "way"] (defScope st_law_beside) := ⟨rfl, rfl, rfl, by decide +kernel, rfl, by decide +kernel, by decide +kernel⟩
theorem ix_nat {n k : Nat} (h : k < n) : ixN n (k : Int) = some k := by
  unfold ixN
  rw [if_pos (by omega), if_pos (by omega), Int.toNat_natCast]
theorem Par.cut {ps : List Nat} (h : Par ps) : Par ps.dropLast := by
  intro k r e hk
  rw [List.getElem?_dropLast] at e
  split at e
  · exact h k r e hk
  · cases e
theorem Par.put {ps : List Nat} {i r : Nat} (h : Par ps) (g : 0 < i → r < i) : Par (ps.set i r) := by
  intro k x e hk
  by_cases z : i = k
  · subst z
    rw [List.getElem?_set_self' ] at e
    cases q : ps[i]? with
    | none =>
      rw [q] at e
      cases e
    | some y =>
      rw [q] at e
      cases e
      exact g hk
  · rw [List.getElem?_set_ne z] at e
    exact h k x e hk
section
variable {P : Program} {w : World} {K : PySem.W.Frag} {mg : Str → Option Value} {base : Heap}
def sp_law_beside (K : PySem.W.Frag) : Sp := fun vs H Q _ => match vs with
  | [.ref p, .ref a, .ref b, .int _] => ∃ (ns : List Int) (ps : List Nat), Pool H p ∧ H a = some (.lst (ns.map V.int)) ∧ H b = some (.lst (ps.map nv)) ∧ ns.length = ps.length ∧ 2 ≤ ns.length ∧ ns.length ≤ 31 ∧ Par ps ∧ p ≠ a ∧ p ≠ b ∧
      ∀ v H' (c : Cell), Chg [p] H H' → Pool H' p → Td K H' v c.d → c.size ≤ 32 → Q v H'
  | _ => False
theorem ok_law_beside {f : Addr} {fd : FuncData} (F : Fun K "_law_beside" "_law_beside" st_law_beside f fd) (T : Top K mg) (Claw_take : Cal P w K mg base "_law_take" 1 ["pool", "many"] sp_law_take)
    (Claw_cell : Cal P w K mg base "_law_cell" 1 ["numbers", "parents"] (sp_law_cell K)) :
    FnOk P w K mg base CX0 2 f fd ["pool", "numbers", "parents", "way"] (sp_law_beside K) := by
  refine F.ok sc_law_beside (fun vs H Q E h => ?_) (fun cdv A outer s H vs Q E hr h => ?_)
  · match vs, h with
    | [.ref a, .ref b, .ref c, .int m], _ => rfl
  match vs, h with
  | [.ref p, .ref a, .ref b, .int wy], h =>
  obtain ⟨ns, ps, hp, ha, hb, hl, h2, h31, hpar, npa, npb, q⟩ := h
  refine ⟨_, (pss_cons (ps_set (i := 4) sc_law_beside.nd rfl (.inl rfl) (pe_callB callLen (by rfl) T.len (by decide +kernel) (pa_cons (mv 1) pa_nil)))
(pss_cons (ps_set (i := 5) sc_law_beside.nd rfl (.inl rfl) (pe_cal Claw_take (hr.mono (by decide)) (by rfl) (pa_cons (mv 0) (pa_cons (mv 4) pa_nil))))
(pss_cons (ps_set (i := 6) sc_law_beside.nd rfl (.inl rfl) (pe_cal Claw_take (hr.mono (by decide)) (by rfl) (pa_cons (mv 0) (pa_cons (mv 4) pa_nil))))
(pss_cons (ps_set (i := 1) sc_law_beside.nd rfl (.inl rfl) (pe_callTy callList (by rfl) T.list (by decide +kernel) (pa_cons (mv 1) pa_nil)))
(pss_cons (ps_set (i := 2) sc_law_beside.nd rfl (.inl rfl) (pe_callTy callList (by rfl) T.list (by decide +kernel) (pa_cons (mv 2) pa_nil)))
(pss_cons (mif (mcmp opEq (mv 3) pe_int)
(pss_one (ps_asg (pe_op opAdd (pe_ix ixM (mv 1) (mv 5) (fun _ _ => rfl)) pe_int) (pg_sub (mv 1) (mv 5) setM)))
pss_nil)
(pss_cons (mif (mcmp opEq (mv 3) pe_int)
(pss_cons (mapp (mv 1) (pe_cal Claw_take (hr.mono (by decide)) (by rfl) (pa_cons (mv 0) (pa_cons pe_int pa_nil))))
(pss_one (mapp (mv 2) (mv 5))))
pss_nil)
(pss_cons (mif (mcmp opEq (mv 3) pe_int)
(pss_cons (ps_set (i := 7) sc_law_beside.nd rfl (.inl rfl) (pe_ix ixM (mv 1) (mv 5) (fun _ _ => rfl)))
(pss_cons (ps_asg (pe_ix ixM (mv 1) (mv 6) (fun _ _ => rfl)) (pg_sub (mv 1) (mv 5) setM))
(pss_one (ps_asg (mv 7) (pg_sub (mv 1) (mv 6) setM)))))
pss_nil)
(pss_cons (mif (mcmp opEq (mv 3) pe_int)
(pss_cons (ps_expr (mpop (mv 1)))
(pss_one (ps_expr (mpop (mv 2)))))
pss_nil)
(pss_cons (mif (mcmp opEq (mv 3) pe_int)
(pss_one (ps_asg (pe_op opMod (pe_callTy callInt (by rfl) T.int (by decide +kernel) (pa_cons (mv 5) pa_nil)) (pe_op opSub (mv 4) pe_int)) (pg_sub (mv 2) (pe_op opSub (mv 4) pe_int) setM)))
pss_nil)
(pss_one (ps_ret (pe_cal Claw_cell (hr.mono (by decide)) (by rfl) (pa_cons (mv 1) (pa_cons (mv 2) pa_nil)))))))))))))))
  , ?_⟩
  have hlen : (ns.map V.int).length = ns.length := List.length_map _
  refine ⟨_, .inl (SqL.of ha), hp, _, rfl, by omega, fun one H1 hone c1 hp1 => ⟨hp1, _, rfl, by omega, fun oth H2 hoth c2 hp2 => ?_⟩⟩
  have c12 := c1.trans c2
  have ha2 := c12.get (by simp [Ne.symm npa]) ha
  have hb2 := c12.get (by simp [Ne.symm npb]) hb
  refine ⟨_, .inl (SqL.of ha2), fun na hna => ?_⟩
  have c3 : Chg [] H2 (upd H2 na (.lst (ns.map V.int))) := Chg.new hna
  have e3 : upd H2 na (.lst (ns.map V.int)) na = some (.lst (ns.map V.int)) := upd_same
  have hp3 := hp2.chg c3 (by simp)
  have hb3 := c3.get (by simp) hb2
  have nap : na ≠ p := fun z => by
    obtain ⟨_, e, _⟩ := hp2
    rw [z, e] at hna
    cases hna
  have hna0 : H na = none := by
    cases z : H na with
    | none => rfl
    | some o =>
      have := c12.get (by simp [nap]) z
      rw [hna] at this
      cases this
  generalize upd H2 na (.lst (ns.map V.int)) = H3 at *
  refine ⟨_, .inl (SqL.of hb3), fun nb hnb => ?_⟩
  have c4 : Chg [] H3 (upd H3 nb (.lst (ps.map nv))) := Chg.new hnb
  have e4 := c4.get (by simp) e3
  have e4b : upd H3 nb (.lst (ps.map nv)) nb = some (.lst (ps.map nv)) := upd_same
  have hp4 := hp3.chg c4 (by simp)
  have nbp : nb ≠ p := fun z => by
    obtain ⟨_, e, _⟩ := hp3
    rw [z, e] at hnb
    cases hnb
  have nab : na ≠ nb := ne_of_none e3 hnb
  have hnb0 : H nb = none := by
    cases z : H nb with
    | none => rfl
    | some o =>
      have := (c12.trans (c3.mono (by simp))).get (by simp [nbp]) z
      rw [hnb] at this
      cases this
  have c14 : Chg [p] H (upd H3 nb (.lst (ps.map nv))) := (c12.trans (c3.mono (by simp))).trans (c4.mono (by simp))
  generalize upd H3 nb (.lst (ps.map nv)) = H4 at *
  clear c1 c2 c3 c4 c12 ha2 hb2 hb3 e3 hna hnb hp1 hp2 hp3
  rw [hlen] at hone hoth
  -- what is written at the two copies
  have putN : ∀ {H5 : Hp} {xs ys : List V} {x : Addr}, (x = na ∨ x = nb) → Chg [p] H H5 → H5 x = some (.lst xs) → Chg [p] H (upd H5 x (.lst ys)) := by
    intro H5 xs ys x hx c e
    refine ⟨fun y o hy ey => ?_, c.kt.trans (Ktp.lst e)⟩
    have hne : y ≠ x := fun z => by
      rw [z] at ey
      rcases hx with rfl | rfl
      · rw [hna0] at ey
        cases ey
      · rw [hnb0] at ey
        cases ey
    rw [upd_ne hne]
    exact c.get hy ey
  have pool : ∀ {H5 : Hp} {o : HO} {x : Addr}, (x = na ∨ x = nb) → Pool H5 p → Pool (upd H5 x o) p := by
    rintro H5 o x hx ⟨ms, e, hm⟩
    refine ⟨ms, ?_, hm⟩
    rw [upd_ne (by rcases hx with rfl | rfl <;> first | exact Ne.symm nap | exact Ne.symm nbp)]
    exact e
  have atn : ∀ k, (hk : k < ns.length) → atI (ns.map V.int) (k : Int) = some (.int ns[k]) := fun k hk => atI_nat (by
    rw [List.getElem?_map, List.getElem?_eq_getElem hk]
    rfl)
  have fin : ∀ {H5 : Hp} (ms : List Int) (rs : List Nat), H5 na = some (.lst (ms.map V.int)) → H5 nb = some (.lst (rs.map nv)) → ms.length = rs.length → 0 < ms.length → ms.length ≤ 32 → Par rs → Chg [p] H H5 → Pool H5 p →
      ∃ (ns : List Int) (ps : List Nat), H5 na = some (.lst (ns.map V.int)) ∧ H5 nb = some (.lst (ps.map nv)) ∧ ns.length = ps.length ∧ 0 < ns.length ∧ ns.length ≤ 1000 ∧ Par ps ∧
      ∀ v H' (c : Cell), Chg [] H5 H' → Td K H' v c.d → c.size = ns.length → Q v H' := by
    intro H5 ms rs x1 x2 x3 x4 x5 x6 x7 x8
    exact ⟨ms, rs, x1, x2, x3, x4, by omega, x6, fun v H' c y1 y2 y3 => q v H' c (x7.trans (y1.mono (by simp))) (x8.chg y1 (by simp)) y2 (by omega)⟩
  refine ⟨fun hb1 => ?_, fun hb1 => ⟨fun hb2 => ?_, fun hb2 => ⟨fun hb3 => ?_, fun hb3 => ⟨fun hb4 => ?_, fun hb4 => ⟨fun hb5 => ?_, fun hb5 => ?_⟩⟩⟩⟩⟩
  · obtain rfl := of_decide_eq_true hb1
    refine ⟨_, .inl (SqL.of e4), _, atn _ hone, _, one, e4, ix_nat (by rw [hlen]; exact hone), (fun h => nomatch h), fun _ => ⟨(fun h => nomatch h), fun _ => ⟨(fun h => nomatch h), fun _ => ⟨(fun h => nomatch h), fun _ => ?_⟩⟩⟩⟩
    refine fin (ns.set one (ns[one] + 1)) ps ?_ ?_ (by rw [List.length_set]; exact hl) (by rw [List.length_set]; omega) (by rw [List.length_set]; omega) hpar (putN (.inl rfl) c14 e4) (pool (.inl rfl) hp4)
    · rw [List.map_set]
      exact upd_same
    · rw [upd_ne (Ne.symm nab)]
      exact e4b
  · obtain rfl := of_decide_eq_true hb2
    refine ⟨⟨_, e4⟩, hp4, 5, rfl, by decide, fun nn H5 hnn c5 hp5 => ⟨_, c5.get (by simp [nap]) e4, by rw [sizeLine_eq, hlen]; omega, ?_⟩⟩
    · have c6 := putN (ys := ns.map V.int ++ [.int (nn : Nat)]) (.inl rfl) (c14.trans c5) (c5.get (by simp [nap]) e4)
      have e6 : upd H5 na (.lst (ns.map V.int ++ [.int (nn : Nat)])) nb = some (.lst (ps.map nv)) := by
        rw [upd_ne (Ne.symm nab)]
        exact c5.get (by simp [nbp]) e4b
      refine ⟨⟨_, e6⟩, _, e6, by rw [sizeLine_eq, List.length_map]; omega, (fun h => nomatch h), fun _ => ⟨(fun h => nomatch h), fun _ => ⟨(fun h => nomatch h), fun _ => ?_⟩⟩⟩
      refine fin (ns ++ [(nn : Int)]) (ps ++ [one]) ?_ ?_ (by rw [List.length_append, List.length_append, hl]; rfl) (by rw [List.length_append]; omega) (by rw [List.length_append, List.length_singleton]; omega) (hpar.snoc fun _ => by omega) (putN (.inr rfl) c6 e6) (pool (.inr rfl) (pool (.inl rfl) hp5))
      · rw [upd_ne nab, List.map_append]
        exact upd_same
      · rw [List.map_append]
        exact upd_same
  · obtain rfl := of_decide_eq_true hb3
    have e5 : upd H4 na (.lst ((ns.map V.int).set one (.int ns[oth]))) na = some (.lst ((ns.map V.int).set one (.int ns[oth]))) := upd_same
    refine ⟨_, .inl (SqL.of e4), _, atn _ hone, _, .inl (SqL.of e4), _, atn _ hoth, _, one, e4, ix_nat (by rw [hlen]; exact hone), _, oth, e5, ix_nat (by rw [List.length_set, hlen]; exact hoth), (fun h => nomatch h), fun _ => ⟨(fun h => nomatch h), fun _ => ?_⟩⟩
    have c5 := putN (ys := (ns.map V.int).set one (.int ns[oth])) (.inl rfl) c14 e4
    refine fin ((ns.set one ns[oth]).set oth ns[one]) ps ?_ ?_ (by rw [List.length_set, List.length_set]; exact hl) (by rw [List.length_set, List.length_set]; omega) (by rw [List.length_set, List.length_set]; omega) hpar (putN (.inl rfl) c5 e5) (pool (.inl rfl) (pool (.inl rfl) hp4))
    · rw [List.map_set, List.map_set]
      exact upd_same
    · rw [upd_ne (Ne.symm nab), upd_ne (Ne.symm nab)]
      exact e4b
  · obtain rfl := of_decide_eq_true hb4
    obtain ⟨ns', x, rfl⟩ := list_last (xs := ns) (fun z => by rw [z] at h2; simp at h2)
    obtain ⟨ps', y, rfl⟩ := list_last (xs := ps) (fun z => by rw [z] at hl; simp at hl)
    rw [List.map_append] at e4 e4b
    have e5 : upd H4 na (.lst (ns'.map V.int)) nb = some (.lst (ps'.map nv ++ [nv y])) := by
      rw [upd_ne (Ne.symm nab)]
      exact e4b
    refine ⟨_, _, e4, _, _, e5, (fun h => nomatch h), fun _ => ?_⟩
    have c5 := putN (ys := ns'.map V.int) (.inl rfl) c14 e4
    have hpc := hpar.cut
    rw [List.dropLast_concat] at hpc
    simp only [List.length_append, List.length_singleton] at hl h2 h31
    refine fin ns' ps' ?_ ?_ (by omega) (by omega) (by omega) hpc (putN (.inr rfl) c5 e5) (pool (.inr rfl) (pool (.inl rfl) hp4))
    · rw [upd_ne nab]
      exact upd_same
    · exact upd_same
  · obtain rfl := of_decide_eq_true hb5
    have en : ((ns.map V.int).length : Int) - 1 = ((ns.length - 1 : Nat) : Int) := by omega
    refine ⟨by omega, _, ns.length - 1, e4b, by rw [en]; exact ix_nat (by rw [List.length_map]; omega), ?_⟩
    have em : (one : Int) % (((ns.map V.int).length : Int) - 1) = ((one % (ns.length - 1) : Nat) : Int) := by
      rw [en]
      rfl
    rw [em]
    refine fin ns (ps.set (ns.length - 1) (one % (ns.length - 1))) ?_ ?_ (by rw [List.length_set]; exact hl) (by omega) (by omega) (hpar.put fun h => Nat.mod_lt _ h) (putN (.inr rfl) c14 e4b) (pool (.inr rfl) hp4)
    · rw [upd_ne nab]
      exact e4
    · rw [List.map_set]
      exact upd_same
  · exact fin ns ps e4 e4b hl (by omega) (by omega) hpar c14 hp4
end
end T5
set_option maxHeartbeats 4000000
/-! rows in a line; lists of rows in the heap -/
namespace T5
open PySem PySem.Spec PyProof.Rows L2 T3
inductive Exs : List Row → List Cell → List Cell → List Cell → List Cell → Prop
  | nil {h s : List Cell} : Exs [] h s h s
  | cons {r : Row} {rs : List Row} {h s h1 s1 h2 s2 : List Cell} : Do r h s h1 s1 → Exs rs h1 s1 h2 s2 → Exs (r :: rs) h s h2 s2
theorem Exs.one {r : Row} {h s h1 s1 : List Cell} (d : Do r h s h1 s1) : Exs [r] h s h1 s1 := .cons d .nil
theorem Exs.app {rs : List Row} {h1 s1 h2 s2 : List Cell} : ∀ {qs : List Row} {h s : List Cell}, Exs qs h s h1 s1 → Exs rs h1 s1 h2 s2 → Exs (qs ++ rs) h s h2 s2
  | [], _, _, .nil, g => g
  | _ :: _, _, _, .cons d e, g => .cons d (e.app g)
/-- rows in a line, then the rest -/
theorem Exs.go {B : Built} {fs : List Frame} {rows : List Row} {c : Cell} {n : Nat} {h' s' : List Cell} : ∀ {qs : List Row} {h s : List Cell} {i : Nat}, Exs qs h s h' s' → (∀ j r, qs[j]? = some r → rows[i + j]? = some r) → Go B fs rows (i + qs.length) h' s' c n → Go B fs rows i h s c (n + qs.length)
  | [], _, _, i, .nil, _, g => g
  | r :: qs, h, s, i, .cons d e, hr, g => by
    have ih := e.go (B := B) (fs := fs) (rows := rows) (c := c) (n := n) (i := i + 1) (fun j r' hj => by
      have := hr (j + 1) r' (by simpa using hj)
      rw [show i + 1 + j = i + (j + 1) by omega]
      exact this) (by
      rw [show i + 1 + qs.length = i + (r :: qs).length by rw [List.length_cons]; omega]
      exact g)
    exact .row (by simpa using hr 0 r rfl) d ih
mutual
def Cell.post : Cell → List Row
  | .mk n ps => Cell.posts ps ++ [.make n ps.length]
def Cell.posts : List Cell → List Row
  | [] => []
  | c :: cs => c.post ++ Cell.posts cs
end
theorem Cell.posts_app : ∀ cs ds : List Cell, Cell.posts (cs ++ ds) = Cell.posts cs ++ Cell.posts ds
  | [], ds => rfl
  | c :: cs, ds => by rw [List.cons_append, Cell.posts, Cell.posts, Cell.posts_app cs ds, List.append_assoc]
theorem Cell.posts_one (c : Cell) : Cell.posts [c] = c.post := by rw [Cell.posts, Cell.posts, List.append_nil]
mutual
theorem Cell.post_len : ∀ c : Cell, c.post.length = c.size
  | .mk n ps => by
    rw [Cell.post, Cell.size, List.length_append, Cell.posts_len ps]
    rfl
theorem Cell.posts_len : ∀ cs : List Cell, (Cell.posts cs).length = Cell.sizes cs
  | [] => rfl
  | c :: cs => by rw [Cell.posts, Cell.sizes, List.length_append, Cell.post_len c, Cell.posts_len cs]
end
mutual
theorem Cell.post_exs : ∀ (c : Cell) (h s : List Cell), c.size ≤ 256 → Exs c.post h s h (s ++ [c])
  | .mk n ps, h, s, hz => by
    rw [Cell.size] at hz
    rw [Cell.post]
    exact (Cell.posts_exs ps h s (by omega)).app (.one (.make rfl (by rw [Cell.size]; omega)))
theorem Cell.posts_exs : ∀ (cs : List Cell) (h s : List Cell), Cell.sizes cs ≤ 256 → Exs (Cell.posts cs) h s h (s ++ cs)
  | [], h, s, _ => by
    rw [List.append_nil]
    exact .nil
  | c :: cs, h, s, hz => by
    rw [Cell.sizes] at hz
    rw [Cell.posts]
    have := (Cell.post_exs c h s (by omega)).app (Cell.posts_exs cs h (s ++ [c]) (by omega))
    rw [List.append_assoc] at this
    exact this
end
inductive PathTo (c : Cell) : List Row → Cell → Prop
  | nil : PathTo c [] c
  | snoc {path : List Row} {n : Int} {ps : List Cell} {p : Cell} {i : Nat} : PathTo c path (.mk n ps) → ps[i]? = some p → PathTo c (path ++ [.part i]) p
theorem Cell.size_get : ∀ {ps : List Cell} {i : Nat} {p : Cell}, ps[i]? = some p → p.size ≤ Cell.sizes ps
  | [], i, p, h => by simp at h
  | q :: ps, 0, p, h => by
    simp at h
    subst h
    rw [Cell.sizes]
    omega
  | q :: ps, i + 1, p, h => by
    have := Cell.size_get (ps := ps) (i := i) (by simpa using h)
    rw [Cell.sizes]
    omega
theorem PathTo.size {c d : Cell} {path : List Row} (h : PathTo c path d) : d.size ≤ c.size := by
  induction h with
  | nil => exact Nat.le_refl _
  | snoc _ hp ih =>
    rw [Cell.size] at ih
    have := Cell.size_get hp
    omega
theorem PathTo.exs {c d : Cell} {path : List Row} (q : PathTo c path d) (h s : List Cell) : Exs path h (s ++ [c]) h (s ++ [d]) := by
  induction q with
  | nil => exact .nil
  | snoc _ hp ih => exact ih.app (.one (.part hp))
/-- the first m of what is held -/
theorem locs_exs (h : List Cell) : ∀ (m : Nat) (s : List Cell), m ≤ h.length → Exs ((List.range m).map Row.loc) h s h (s ++ h.take m)
  | 0, s, _ => by
    rw [List.take_zero, List.append_nil]
    exact .nil
  | m + 1, s, hm => by
    rw [List.range_succ, List.map_append]
    have hg : h[m]? = some h[m] := List.getElem?_eq_getElem (by omega)
    have e : s ++ h.take (m + 1) = s ++ h.take m ++ [h[m]] := by
      rw [List.take_succ, hg, List.append_assoc]
      rfl
    rw [e]
    exact (locs_exs h m s (by omega)).app (.one (.loc hg))
/-- what stands at these places -/
theorem picks_exs (h : List Cell) : ∀ (ks : List Nat) (cs s : List Cell), ks.map (fun k => h[k]?) = cs.map some → Exs (ks.map Row.loc) h s h (s ++ cs)
  | [], [], s, _ => by
    rw [List.append_nil]
    exact .nil
  | [], _ :: _, s, e => by cases e
  | _ :: _, [], s, e => by cases e
  | k :: ks, c :: cs, s, e => by
    rw [List.map_cons, List.map_cons] at e
    injection e with e1 e2
    have := picks_exs h ks cs (s ++ [c]) e2
    rw [List.append_assoc] at this
    exact .cons (.loc e1) this

/-! ### in the heap -/
def LR (K : PySem.W.Frag) (H : Hp) (a : Addr) (rs : List Row) : Prop := ∃ vs, H a = some (.lst vs) ∧ TdAll K H vs (rs.map Row.d)
theorem LR.chg {K : PySem.W.Frag} {L : List Addr} {H H' : Hp} {a : Addr} {rs : List Row} (h : LR K H a rs) (g : Chg L H H') (ha : a ∉ L) : LR K H' a rs := by
  obtain ⟨vs, h1, h2⟩ := h
  exact ⟨vs, g.get ha h1, h2.keep g.kt⟩
theorem le_sz {n : Nat} (h : n ≤ 1000000) : n ≤ sizeLine := by
  rw [sizeLine_eq]
  omega
theorem lt_sz {n : Nat} (h : n ≤ 1000000) : n < sizeLine := by
  rw [sizeLine_eq]
  omega
section
variable {K : PySem.W.Frag} {H : Hp} {Q : VK}
/-- a tuple that is laid -/
theorem tupI {xs : List V} {ds : List PyData} (h : TdAll K H xs ds) (q : ∀ v H', Chg [] H H' → Td K H' v (.tuple ds) → Q v H') : ∀ l, H l = none → Q (.ref l) (upd H l (.tup xs)) := by
  intro l hl
  have c : Chg [] H (upd H l (.tup xs)) := Chg.new hl
  exact q _ _ c (.tup (.inl upd_same) (h.keep c.kt))
theorem rowsI {vs : List V} {rs : List Row} (h : TdAll K H vs (rs.map Row.d)) (q : ∀ p H', H p = none → Chg [] H H' → LR K H' p rs → Q (.ref p) H') : ∀ l, H l = none → Q (.ref l) (upd H l (.lst vs)) := by
  intro l hl
  have c : Chg [] H (upd H l (.lst vs)) := Chg.new hl
  exact q _ _ hl c ⟨vs, upd_same, h.keep c.kt⟩
theorem cellsI {vs : List V} {cs : List Cell} (h : TdAll K H vs (cs.map Cell.d)) (q : ∀ p H', H p = none → Chg [] H H' → LC K H' p cs → Q (.ref p) H') : ∀ l, H l = none → Q (.ref l) (upd H l (.lst vs)) := by
  intro l hl
  have c : Chg [] H (upd H l (.lst vs)) := Chg.new hl
  exact q _ _ hl c ⟨vs, upd_same, h.keep c.kt⟩
theorem catI {a b : Addr} {r1 r2 : List Row} (h1 : LR K H a r1) (h2 : LR K H b r2) (hz : r1.length + r2.length ≤ 1000000) (q : ∀ p H', H p = none → Chg [] H H' → LR K H' p (r1 ++ r2) → Q (.ref p) H') : mAdd (.ref a) (.ref b) H Q := by
  obtain ⟨v1, e1, t1⟩ := h1
  obtain ⟨v2, e2, t2⟩ := h2
  have l1 := t1.length
  have l2 := t2.length
  rw [List.length_map] at l1 l2
  refine ⟨v1, v2, e1, e2, le_sz (by omega), rowsI (rs := r1 ++ r2) ?_ q⟩
  rw [List.map_append]
  exact t1.app t2
theorem catC {a b : Addr} {r1 r2 : List Cell} (h1 : LC K H a r1) (h2 : LC K H b r2) (hz : r1.length + r2.length ≤ 1000000) (q : ∀ p H', H p = none → Chg [] H H' → LC K H' p (r1 ++ r2) → Q (.ref p) H') : mAdd (.ref a) (.ref b) H Q := by
  obtain ⟨v1, e1, t1⟩ := h1
  obtain ⟨v2, e2, t2⟩ := h2
  have l1 := t1.length
  have l2 := t2.length
  rw [List.length_map] at l1 l2
  refine ⟨v1, v2, e1, e2, le_sz (by omega), cellsI (cs := r1 ++ r2) ?_ q⟩
  rw [List.map_append]
  exact t1.app t2
/-- one is put at a list's end -/
theorem LR.push {a : Addr} {rs : List Row} {v : V} {r : Row} {L : List Addr} (h : LR K H a rs) (t : Td K H v r.d) (ha : a ∈ L) : ∃ vs, H a = some (.lst vs) ∧ vs.length = rs.length ∧ Chg L H (upd H a (.lst (vs ++ [v]))) ∧ LR K (upd H a (.lst (vs ++ [v]))) a (rs ++ [r]) := by
  obtain ⟨vs, e, tv⟩ := h
  have l := tv.length
  rw [List.length_map] at l
  have c : Chg L H (upd H a (.lst (vs ++ [v]))) := Chg.lst ha e
  refine ⟨vs, e, l, c, _, upd_same, ?_⟩
  rw [List.map_append]
  exact (tv.keep c.kt).snoc (t.keep c.kt)
theorem LC.push {a : Addr} {rs : List Cell} {v : V} {r : Cell} {L : List Addr} (h : LC K H a rs) (t : Td K H v r.d) (ha : a ∈ L) : ∃ vs, H a = some (.lst vs) ∧ vs.length = rs.length ∧ Chg L H (upd H a (.lst (vs ++ [v]))) ∧ LC K (upd H a (.lst (vs ++ [v]))) a (rs ++ [r]) := by
  obtain ⟨vs, e, tv⟩ := h
  have l := tv.length
  rw [List.length_map] at l
  have c : Chg L H (upd H a (.lst (vs ++ [v]))) := Chg.lst ha e
  refine ⟨vs, e, l, c, _, upd_same, ?_⟩
  rw [List.map_append]
  exact (tv.keep c.kt).snoc (t.keep c.kt)
end
section
variable {X : Cx}
/-- a tuple of data -/
def mTupD (K : PySem.W.Frag) (t : TA) : TE := fun σ H Q => t σ H fun xs H1 => ∃ ds, TdAll K H1 xs ds ∧ xs.length ≤ sizeLine ∧ ∀ v H', Chg [] H1 H' → Td K H' v (.tuple ds) → Q v H'
theorem mtupD {es : List Expr} {t : TA} {x1 : Nat} {pos : Pos} (h : PA X es t) : PE X (.Tuple es x1 pos) (mTupD X.K t) := by
  refine PE.imp ?_ (pe_tup (x1 := x1) (pos := pos) (mono_pa h))
  intro σ H Q h
  refine ⟨_, h, ?_⟩
  rintro xs H1 ⟨ds, td, hl, q⟩
  exact ⟨hl, tupI td q⟩
/-- a list of rows -/
def mLstR (K : PySem.W.Frag) (t : TA) : TE := fun σ H Q => t σ H fun xs H1 => ∃ rs : List Row, TdAll K H1 xs (rs.map Row.d) ∧ xs.length ≤ sizeLine ∧ ∀ p H', H1 p = none → Chg [] H1 H' → LR K H' p rs → Q (.ref p) H'
theorem mlstR {es : List Expr} {t : TA} {pos : Pos} (h : PA X es t) : PE X (.List es pos) (mLstR X.K t) := by
  refine PE.imp ?_ (pe_lst (pos := pos) (mono_pa h))
  intro σ H Q h
  refine ⟨_, h, ?_⟩
  rintro xs H1 ⟨ds, td, hl, q⟩
  exact ⟨hl, rowsI td q⟩
def mLstC (K : PySem.W.Frag) (t : TA) : TE := fun σ H Q => t σ H fun xs H1 => ∃ rs : List Cell, TdAll K H1 xs (rs.map Cell.d) ∧ xs.length ≤ sizeLine ∧ ∀ p H', H1 p = none → Chg [] H1 H' → LC K H' p rs → Q (.ref p) H'
theorem mlstC {es : List Expr} {t : TA} {pos : Pos} (h : PA X es t) : PE X (.List es pos) (mLstC X.K t) := by
  refine PE.imp ?_ (pe_lst (pos := pos) (mono_pa h))
  intro σ H Q h
  refine ⟨_, h, ?_⟩
  rintro xs H1 ⟨ds, td, hl, q⟩
  exact ⟨hl, cellsI td q⟩
def mCatR (K : PySem.W.Frag) : R2 := fun x y H Q => match x, y with
  | .ref a, .ref b => ∃ r1 r2, LR K H a r1 ∧ LR K H b r2 ∧ r1.length + r2.length ≤ 1000000 ∧ ∀ p H', H p = none → Chg [] H H' → LR K H' p (r1 ++ r2) → Q (.ref p) H'
  | _, _ => False
theorem opCatR : OpR X (binaryOp .Add) (mCatR X.K) := by
  refine OpR.imp opAdd ?_
  intro x y H Q h
  cases x <;> cases y <;> first
    | exact h.elim
    | (obtain ⟨r1, r2, h1, h2, h3, h4⟩ := h; exact catI h1 h2 h3 h4)
def mCatC (K : PySem.W.Frag) : R2 := fun x y H Q => match x, y with
  | .ref a, .ref b => ∃ r1 r2, LC K H a r1 ∧ LC K H b r2 ∧ r1.length + r2.length ≤ 1000000 ∧ ∀ p H', H p = none → Chg [] H H' → LC K H' p (r1 ++ r2) → Q (.ref p) H'
  | _, _ => False
theorem opCatC : OpR X (binaryOp .Add) (mCatC X.K) := by
  refine OpR.imp opAdd ?_
  intro x y H Q h
  cases x <;> cases y <;> first
    | exact h.elim
    | (obtain ⟨r1, r2, h1, h2, h3, h4⟩ := h; exact catC h1 h2 h3 h4)
end
end T5
set_option maxHeartbeats 4000000
namespace T5
open PySem PySem.Spec PyProof.Rows L2 T3
abbrev st_law_making : Stmt := topS 24
theorem sc_law_making : FnScope ["cell", "waiting", "told", "k", "one"] ["cell"] (defScope st_law_making) := ⟨rfl, rfl, rfl, by decide +kernel, rfl, by decide +kernel, by decide +kernel⟩
abbrev st_law_path : Stmt := topS 25
theorem sc_law_path : FnScope ["pool", "cell", "told", "k", "n"] ["pool", "cell"] (defScope st_law_path) := ⟨rfl, rfl, rfl, by decide +kernel, rfl, by decide +kernel, by decide +kernel⟩
abbrev st_law_mix : Stmt := topS 28
theorem sc_law_mix : FnScope ["picks", "told", "k"] ["picks"] (defScope st_law_mix) := ⟨rfl, rfl, rfl, by decide +kernel, rfl, by decide +kernel, by decide +kernel⟩
section
variable {P : Program} {w : World} {K : PySem.W.Frag} {mg : Str → Option Value} {base : Heap}
def sp_law_making (K : PySem.W.Frag) : Sp := fun vs H Q _ => match vs with
  | [v] => ∃ c : Cell, Td K H v c.d ∧ c.size ≤ 250 ∧ ∀ p H', Chg [] H H' → H p = none → LR K H' p c.post → Q (.ref p) H'
  | _ => False
theorem ok_law_making {f : Addr} {fd : FuncData} (F : Fun K "_law_making" "_law_making" st_law_making f fd) (T : Top K mg) : FnOk P w K mg base CX0 1 f fd ["cell"] (sp_law_making K) := by
  refine F.ok sc_law_making (fun vs H Q E h => ?_) (fun cdv A outer s H vs Q E hr h => ?_)
  · match vs, h with
    | [v], _ => rfl
  match vs, h with
  | [v], h =>
  obtain ⟨c, tv, hz, q⟩ := h
  refine ⟨_, (pss_cons (ps_set (i := 1) sc_law_making.nd rfl (.inl rfl) (mlstC (pa_cons (mv 0) pa_nil)))
(pss_cons (ps_set (i := 2) sc_law_making.nd rfl (.inl rfl) (mlstR pa_nil))
(pss_cons (mforR PassesOwn.never rfl (by rfl) T.range pe_int (pg_name (i := 3) sc_law_making.nd rfl (.inl rfl))
(pss_one (mif (mcmp opGt (pe_callB callLen (by rfl) T.len (by decide +kernel) (pa_cons (mv 1) pa_nil)) pe_int)
(pss_cons (ps_set (i := 4) sc_law_making.nd rfl (.inl rfl) (mpop (mv 1)))
(pss_cons (mapp (mv 2) (mtupD (pa_cons pe_str (pa_cons (pe_ix ixM (mv 4) pe_int (fun _ _ => rfl)) (pa_cons (pe_callB callLen (by rfl) T.len (by decide +kernel) (pa_cons (pe_ix ixM (mv 4) pe_int (fun _ _ => rfl)) pa_nil)) pa_nil)))))
(pss_one (ps_set (i := 1) sc_law_making.nd rfl (.inl rfl) (pe_op opCatC (mv 1) (pe_callTy callList (by rfl) T.list (by decide +kernel) (pa_cons (pe_ix ixM (mv 4) pe_int (fun _ _ => rfl)) pa_nil)))))))
pss_nil)))
(pss_one (ps_ret (mrev (mv 2)))))))
  , ?_⟩
  refine ⟨[c], .cons tv .nil, le_sz (Nat.le_of_ble_eq_true rfl), fun p H1 hp c1 lp => ⟨[], .nil, le_sz (Nat.le_of_ble_eq_true rfl), fun t H2 ht c2 lt => ⟨⟨by decide, by decide⟩,
    fun i σ H3 => ∃ (p' : Addr) (k o : Option V) (cs : List Cell) (tr : List Row), σ = [some v, some (.ref p'), some (.ref t), k, o] ∧ H p' = none ∧ LC K H3 p' cs ∧ LR K H3 t tr ∧ p' ≠ t ∧ Chg [] H H3 ∧ Cell.posts cs ++ tr.reverse = c.post ∧ (cs ≠ [] → tr.length = i), ?_, ?_, ?_⟩⟩⟩
  · obtain ⟨_, e, _⟩ := id lp
    refine ⟨p, none, none, [c], [], rfl, hp, lp.chg c2 (by simp), lt, ne_of_none e ht, c1.trans c2, ?_, fun _ => rfl⟩
    rw [Cell.posts_one, List.reverse_nil, List.append_nil]
  · rintro i σ H3 hi ⟨p', k, o, cs, tr, rfl, hp', ⟨vs, e3, tvs⟩, lt3, hne, c3, hpost, hcount⟩
    have lv := tvs.length
    rw [List.length_map] at lv
    have hlen := congrArg List.length hpost
    rw [List.length_append, Cell.posts_len, List.length_reverse, Cell.post_len] at hlen
    have hcs := Cell.sizes_len cs
    have ht0 : H t = none := c1.old ht
    refine ⟨vs, .inl (SqL.of e3), fun hb => ?_, fun hb => ?_⟩
    · have hne' : cs ≠ [] := fun z => by
        subst z
        cases tvs
        exact absurd hb (by decide)
      have htr := hcount hne'
      obtain ⟨cs', d, rfl⟩ := list_last hne'
      rw [List.map_append] at tvs
      obtain ⟨v1, x, rfl, t1, tx⟩ := tvs.last
      obtain ⟨n, ps⟩ := d
      rw [Cell.d, Cell.ds_map] at tx
      obtain ⟨a, xs, rfl, ta, txs⟩ := tx.tuple
      cases txs with
      | cons x1 x2 =>
        cases x1
        cases x2 with
        | cons x3 x4 =>
          cases x4
          obtain ⟨a2, xs2, rfl, ta2, txs2⟩ := x3.tuple
          have l2 := txs2.length
          rw [List.length_map] at l2
          refine ⟨v1, _, e3, ?_⟩
          have cA : Chg [p'] H3 (upd H3 p' (.lst v1)) := Chg.lst (by simp) e3
          have eA : upd H3 p' (.lst v1) p' = some (.lst v1) := upd_same
          have lt4 := lt3.chg cA (by simp [Ne.symm hne])
          have t14 := t1.keep cA.kt
          have ta4 := ta.keep cA.kt
          have ta24 := ta2.keep cA.kt
          have txs24 := txs2.keep cA.kt
          have c4 := c3.fresh cA (fun x hx => by rw [List.mem_singleton.mp hx]; exact hp')
          generalize upd H3 p' (.lst v1) = H4 at *
          obtain ⟨tvs, et, _⟩ := id lt4
          refine ⟨⟨_, et⟩, _, .inr ta4.sq, _, atI0 rfl, _, .inr ta4.sq, _, atI1 rfl, _, .inr ta24.sq, _, .cons (.str _) (.cons (.int _) (.cons (.int _) .nil)), le_sz (Nat.le_of_ble_eq_true rfl), fun v5 H5 c5 t5 => ?_⟩
          have t5' : Td K H5 v5 (Row.make n ps.length).d := by
            rw [← l2]
            exact t5
          obtain ⟨ws, ew, lw, cw, lrw⟩ := (lt4.chg c5 (by simp)).push (L := [t]) t5' (by simp)
          refine ⟨ws, ew, lt_sz (by omega), ?_⟩
          have c6 := (c4.trans c5).fresh cw (fun x hx => by rw [List.mem_singleton.mp hx]; exact ht0)
          have e6 := cw.get (by simp [hne]) (c5.get (by simp) eA)
          have k56 := c5.kt.trans cw.kt
          have ta6 := ta4.keep k56
          have ta26 := ta24.keep k56
          have txs26 := txs24.keep k56
          have t16 := t14.keep k56
          generalize upd H5 t (.lst (ws ++ [v5])) = H6 at *
          refine ⟨_, .inr ta6.sq, _, atI1 rfl, xs2, .inr ta26.sq, fun l hl => ?_⟩
          have c7 : Chg [] H6 (upd H6 l (.lst xs2)) := Chg.new hl
          have ll : LC K (upd H6 l (.lst xs2)) l ps := ⟨_, upd_same, txs26.keep c7.kt⟩
          generalize upd H6 l (.lst xs2) = H7 at *
          refine ⟨cs', ps, ⟨v1, c7.get (by simp) e6, t16.keep c7.kt⟩, ll, by rw [Cell.sizes_app, Cell.sizes_one, Cell.size] at hlen; have := Cell.sizes_len ps; have := Cell.sizes_len cs'; omega, fun r H8 hr' c8 lr => ?_⟩
          obtain ⟨_, et6, _⟩ := id lrw
          refine ⟨r, _, _, cs' ++ ps, tr ++ [.make n ps.length], rfl, c6.old (c7.old hr'), lr, (lrw.chg c7 (by simp)).chg c8 (by simp), ?_, c6.trans (c7.trans c8), ?_, fun _ => by rw [List.length_append, htr]; rfl⟩
          · exact (ne_of_none (c7.get (by simp) et6) hr').symm
          · rw [← hpost, Cell.posts_app, Cell.posts_app, Cell.posts_one, Cell.post, List.reverse_append, List.reverse_singleton]
            simp only [List.append_assoc]
            first | rfl | skip
    · have hnil : cs = [] := by
        cases cs with
        | nil => rfl
        | cons y ys =>
          have : ¬ (0 : Int) < (vs.length : Int) := of_decide_eq_false hb
          rw [List.length_cons] at lv
          omega
      exact ⟨p', _, _, cs, tr, rfl, hp', ⟨vs, e3, tvs⟩, lt3, hne, c3, hpost, fun z => absurd hnil z⟩
  · rintro σ H3 ⟨p', k, o, cs, tr, rfl, hp', lp3, ⟨ws, ew, tw⟩, hne, c3, hpost, hcount⟩
    have hlen := congrArg List.length hpost
    rw [List.length_append, Cell.posts_len, List.length_reverse, Cell.post_len] at hlen
    have hnil : cs = [] := by
      by_cases z : cs = []
      · exact z
      · have := hcount z
        have h300 : (300 : Int).toNat = 300 := rfl
        omega
    subst hnil
    have hpost' : tr.reverse = c.post := hpost
    refine ⟨ws, SqL.of ew, fun r hr' => ?_⟩
    have c4 : Chg [] H3 (upd H3 r (.lst ws.reverse)) := Chg.new hr'
    refine q r _ (c3.trans c4) (c3.old hr') ⟨_, upd_same, ?_⟩
    rw [← hpost', List.map_reverse]
    exact (tw.keep c4.kt).rev

def sp_law_path (K : PySem.W.Frag) : Sp := fun vs H Q _ => match vs with
  | [.ref p, v] => Pool H p ∧ ∃ c : Cell, Td K H v c.d ∧ c.size ≤ 250 ∧ ∀ q H' a u path c', Chg [p] H H' → Pool H' p → H' q = some (.lst [.ref a, u]) → q ≠ p → a ≠ p → a ≠ q → LR K H' a path → path.length ≤ 12 → Td K H' u c'.d → PathTo c path c' → Q (.ref q) H'
  | _ => False
theorem ok_law_path {f : Addr} {fd : FuncData} (F : Fun K "_law_path" "_law_path" st_law_path f fd) (T : Top K mg) (Claw_take : Cal P w K mg base "_law_take" 1 ["pool", "many"] sp_law_take) : FnOk P w K mg base CX0 2 f fd ["pool", "cell"] (sp_law_path K) := by
  refine F.ok sc_law_path (fun vs H Q E h => ?_) (fun cdv A outer s H vs Q E hr h => ?_)
  · match vs, h with
    | [.ref p, v], _ => rfl
  match vs, h with
  | [.ref p, v], h =>
  obtain ⟨hp, c, tv, hz, q⟩ := h
  refine ⟨_, (pss_cons (ps_set (i := 2) sc_law_path.nd rfl (.inl rfl) (mlstR pa_nil))
(pss_cons (mforR PassesOwn.never rfl (by rfl) T.range (pe_cal Claw_take (hr.mono (by decide)) (by rfl) (pa_cons (mv 0) (pa_cons pe_int pa_nil))) (pg_name (i := 3) sc_law_path.nd rfl (.inl rfl))
(pss_one (mif (mcmp opGt (pe_callB callLen (by rfl) T.len (by decide +kernel) (pa_cons (pe_ix ixM (mv 1) pe_int (fun _ _ => rfl)) pa_nil)) pe_int)
(pss_cons (ps_set (i := 4) sc_law_path.nd rfl (.inl rfl) (pe_cal Claw_take (hr.mono (by decide)) (by rfl) (pa_cons (mv 0) (pa_cons (pe_callB callLen (by rfl) T.len (by decide +kernel) (pa_cons (pe_ix ixM (mv 1) pe_int (fun _ _ => rfl)) pa_nil)) pa_nil))))
(pss_cons (mapp (mv 2) (mtupD (pa_cons pe_str (pa_cons (mv 4) pa_nil))))
(pss_one (ps_set (i := 1) sc_law_path.nd rfl (.inl rfl) (pe_ix ixM (pe_ix ixM (mv 1) pe_int (fun _ _ => rfl)) (mv 4) (fun _ _ => rfl))))))
pss_nil)))
(pss_one (ps_ret (pe_lst (pa_cons (mv 2) (pa_cons (mv 1) pa_nil)))))))
  , ?_⟩
  refine ⟨[], .nil, le_sz (Nat.le_of_ble_eq_true rfl), fun t H1 ht c1 lt => ⟨hp.chg c1 (by simp), 13, rfl, by decide, fun many H2 hmany c2 hp2 => ⟨⟨by omega, by omega⟩,
    fun i σ H3 => ∃ (u : V) (k n : Option V) (d : Cell) (path : List Row), σ = [some (.ref p), some u, some (.ref t), k, n] ∧ LR K H3 t path ∧ path.length ≤ i ∧ Pool H3 p ∧ Chg [p] H H3 ∧ Td K H3 u d.d ∧ PathTo c path d, ?_, ?_, ?_⟩⟩⟩
  · obtain ⟨_, ep, _⟩ := id hp
    have ntp : t ≠ p := fun z => by
      rw [z, ep] at ht
      cases ht
    exact ⟨v, none, none, c, [], rfl, lt.chg c2 (by simp [ntp]), Nat.le_refl _, hp2, (c1.mono (by simp)).trans c2, (tv.keep c1.kt).keep c2.kt, .nil⟩
  · rintro i σ H3 hi ⟨u, k, n, d, path, rfl, lt3, hlen, hp3, c3, tu, pt⟩
    obtain ⟨_, ep, _⟩ := id hp
    have ntp : t ≠ p := fun z => by
      rw [z, ep] at ht
      cases ht
    have hsz := pt.size
    obtain ⟨nn, ps⟩ := d
    rw [Cell.d, Cell.ds_map] at tu
    obtain ⟨a, xs, rfl, ta, txs⟩ := tu.tuple
    cases txs with
    | cons x1 x2 =>
      cases x1
      cases x2 with
      | cons x3 x4 =>
        cases x4
        obtain ⟨a2, xs2, rfl, ta2, txs2⟩ := x3.tuple
        have l2 := txs2.length
        rw [List.length_map] at l2
        refine ⟨_, .inr ta.sq, _, atI1 rfl, _, .inr ta2.sq, fun hb => ?_, fun hb => ?_⟩
        · have hpos : 0 < xs2.length := by
            have := of_decide_eq_true hb
            omega
          refine ⟨_, .inr ta.sq, _, atI1 rfl, _, .inr ta2.sq, hp3, _, rfl, hpos, fun r H4 hr4 c4 hp4 => ?_⟩
          obtain ⟨pp, hpp⟩ : ∃ pp, ps[r]? = some pp := ⟨_, List.getElem?_eq_getElem (by omega)⟩
          obtain ⟨y, hy, ty⟩ := txs2.get (i := r) (by rw [List.getElem?_map, hpp]; rfl)
          have lt4 := lt3.chg c4 (by simp [ntp])
          obtain ⟨_, et, _⟩ := id lt4
          refine ⟨⟨_, et⟩, _, .cons (.str _) (.cons (.int _) .nil), le_sz (Nat.le_of_ble_eq_true rfl), fun v5 H5 c5 t5 => ?_⟩
          obtain ⟨ws, ew, lw, cw, lrw⟩ := (lt4.chg c5 (by simp)).push (L := [t]) (r := .part r) t5 (by simp)
          have k36 := c4.kt.trans (c5.kt.trans cw.kt)
          have ht0 : H t = none := ht
          have c6 : Chg [p] H (upd H5 t (.lst (ws ++ [v5]))) := by
            refine ⟨fun x o hx ex => ?_, c3.kt.trans k36⟩
            have hxt : x ≠ t := fun z => by
              rw [z, ht0] at ex
              cases ex
            exact cw.get (by simp [hxt]) (c5.get (by simp) (c4.get hx (c3.get hx ex)))
          refine ⟨ws, ew, lt_sz (by omega), _, .inr (ta.keep k36).sq, _, atI1 rfl, _, .inr (ta2.keep k36).sq, y, atI_nat hy, ?_⟩
          exact ⟨y, _, _, pp, path ++ [.part r], rfl, lrw, by rw [List.length_append, List.length_singleton]; omega, (hp4.chg c5 (by simp)).chg cw (by simp [Ne.symm ntp]), c6, ty.keep k36, pt.snoc hpp⟩
        · refine ⟨_, _, _, .mk nn ps, path, rfl, lt3, by omega, hp3, c3, ?_, pt⟩
          rw [Cell.d, Cell.ds_map]
          exact .tup ta (.cons (.int _) (.cons (.tup ta2 txs2) .nil))
  · rintro σ H3 ⟨u, k, n, d, path, rfl, lt3, hlen, hp3, c3, tu, pt⟩
    refine ⟨le_sz (Nat.le_of_ble_eq_true rfl), fun r hr' => ?_⟩
    have c4 : Chg [] H3 (upd H3 r (.lst [.ref t, u])) := Chg.new hr'
    obtain ⟨_, ep, _⟩ := id hp3
    obtain ⟨_, et, _⟩ := id lt3
    obtain ⟨_, ep0, _⟩ := id hp
    have ntp : t ≠ p := fun z => by
      rw [z, ep0] at ht
      cases ht
    exact q r _ t u path d (c3.trans (c4.mono (by simp))) (hp3.chg c4 (by simp)) upd_same (ne_of_none ep hr').symm ntp (ne_of_none et hr') (lt3.chg c4 (by simp)) (by omega) (tu.keep c4.kt) pt

def mixRows (picks : List Nat) : List Row := [.make 9 0] ++ picks.map Row.loc ++ [.make 7 picks.length, .back]
def sp_law_mix (K : PySem.W.Frag) : Sp := fun vs H Q _ => match vs with
  | [.ref a] => ∃ picks : List Nat, H a = some (.lst (picks.map nv)) ∧ picks.length ≤ 100 ∧ ∀ p H', Chg [] H H' → H p = none → LR K H' p (mixRows picks) → Q (.ref p) H'
  | _ => False
theorem ok_law_mix {f : Addr} {fd : FuncData} (F : Fun K "_law_mix" "_law_mix" st_law_mix f fd) (T : Top K mg) : FnOk P w K mg base CX0 1 f fd ["picks"] (sp_law_mix K) := by
  refine F.ok sc_law_mix (fun vs H Q E h => ?_) (fun cdv A outer s H vs Q E hr h => ?_)
  · match vs, h with
    | [.ref a], _ => rfl
  match vs, h with
  | [.ref a], h =>
  obtain ⟨picks, ha, hz, q⟩ := h
  refine ⟨_, (pss_cons (ps_set (i := 1) sc_law_mix.nd rfl (.inl rfl) (mlstR (pa_cons (mtupD (pa_cons pe_str (pa_cons pe_int (pa_cons pe_int pa_nil)))) pa_nil)))
(pss_cons (mforL PassesOwn.never rfl (mv 0) (pg_name (i := 2) sc_law_mix.nd rfl (.inl rfl))
(pss_one (mapp (mv 1) (mtupD (pa_cons pe_str (pa_cons (mv 2) pa_nil))))))
(pss_one (ps_ret (pe_op opCatR (mv 1) (mlstR (pa_cons (mtupD (pa_cons pe_str (pa_cons pe_int (pa_cons (pe_callB callLen (by rfl) T.len (by decide +kernel) (pa_cons (mv 0) pa_nil)) pa_nil)))) (pa_cons (mtupD (pa_cons pe_str pa_nil)) pa_nil))))))))
  , ?_⟩
  refine ⟨_, .cons (.str _) (.cons (.int _) (.cons (.int _) .nil)), le_sz (Nat.le_of_ble_eq_true rfl), fun v1 H1 c1 t1 => ⟨[.make 9 0], .cons t1 .nil, le_sz (Nat.le_of_ble_eq_true rfl), fun t H2 ht c2 lt => ?_⟩⟩
  have ha2 := c2.get (by simp) (c1.get (by simp) ha)
  have ht0 := c1.old ht
  refine ⟨_, SqL.of ha2, fun i σ H3 => ∃ (k : Option V), σ = [some (.ref a), some (.ref t), k] ∧ LR K H3 t ([.make 9 0] ++ (picks.take i).map Row.loc) ∧ Chg [] H H3, ⟨none, rfl, by rw [List.take_zero]; exact lt, c1.trans c2⟩, ?_, ?_, ?_⟩
  · rintro i σ H3 hi ⟨k, rfl, lt3, c3⟩
    exact SqL.of (c3.get (by simp) ha)
  · rintro i x σ H3 hx ⟨k, rfl, lt3, c3⟩
    rw [List.getElem?_map] at hx
    obtain ⟨n, hn, rfl⟩ := Option.map_eq_some_iff.mp hx
    obtain ⟨_, et, _⟩ := id lt3
    refine ⟨⟨_, et⟩, _, .cons (.str _) (.cons (.int _) .nil), le_sz (Nat.le_of_ble_eq_true rfl), fun v4 H4 c4 t4 => ?_⟩
    obtain ⟨ws, ew, lw, cw, lrw⟩ := (lt3.chg c4 (by simp)).push (L := [t]) (r := .loc n) t4 (by simp)
    rw [List.length_append, List.length_map, List.length_take] at lw
    have hi : i < picks.length := (List.getElem?_eq_some_iff.mp hn).1
    refine ⟨ws, ew, lt_sz (by simp at lw; omega), _, rfl, ?_, (c3.trans c4).fresh cw fun x hx => by rw [List.mem_singleton.mp hx]; exact ht0⟩
    rw [List.take_succ, hn, List.map_append, ← List.append_assoc]
    exact lrw
  · rintro σ H3 ⟨k, rfl, lt3, c3⟩
    rw [List.length_map, List.take_length] at lt3
    refine ⟨_, .inl (SqL.of (c3.get (by simp) ha)), _, .cons (.str _) (.cons (.int _) (.cons (.int _) .nil)), le_sz (Nat.le_of_ble_eq_true rfl), fun v4 H4 c4 t4 => ⟨_, .cons (.str _) .nil, le_sz (Nat.le_of_ble_eq_true rfl), fun v5 H5 c5 t5 =>
      ⟨[.make 7 picks.length, .back], .cons ?_ (.cons t5 .nil), le_sz (Nat.le_of_ble_eq_true rfl), fun r H6 hr' c6 lr => ⟨_, _, ((lt3.chg c4 (by simp)).chg c5 (by simp)).chg c6 (by simp), lr, by simp only [List.length_append, List.length_map, List.length_cons, List.length_nil]; omega, fun r2 H7 hr2 c7 lr2 => ?_⟩⟩⟩⟩
    · have := t4.keep c5.kt
      rw [List.length_map] at this
      exact this
    · have cc := c3.trans (c4.trans (c5.trans c6))
      exact q r2 H7 (cc.trans c7) (cc.old hr2) lr2
end
end T5
set_option maxHeartbeats 4000000
namespace T5
open PySem PySem.Spec PyProof.Rows L2 T3
abbrev st_law_pile : Stmt := topS 26
theorem sc_law_pile : FnScope ["pool", "many", "told", "kept", "k", "n"] ["pool", "many"] (defScope st_law_pile) := ⟨rfl, rfl, rfl, by decide +kernel, rfl, by decide +kernel, by decide +kernel⟩
abbrev st_law_go : Stmt := topS 27
theorem sc_law_go : FnScope ["making", "turned", "path", "sent", "many", "compared", "told", "k"] ["making", "turned", "path", "sent", "many"] (defScope st_law_go) := ⟨rfl, rfl, rfl, by decide +kernel, rfl, by decide +kernel, by decide +kernel⟩
def goRows (mk : List Row) (turned : Bool) (path : List Row) (sent : List Nat) (many : Nat) : List Row :=
  (if turned then mk ++ [.loc 0] else [.loc 0] ++ mk) ++ [.same, .keep, .loc 0] ++ path ++ [.keep] ++ sent.map (fun k => Row.loc (1 + k)) ++ [.call "Own" "mix" sent.length, .keep] ++ (List.range many).map (fun k => Row.loc (1 + k)) ++
    [.call "Own" "pile" many, .keep] ++ (List.range 4).map (fun k => Row.loc (1 + many + k)) ++ [.make 5 4, .back]
section
variable {P : Program} {w : World} {K : PySem.W.Frag} {mg : Str → Option Value} {base : Heap}
/-- a change at new places and at p -/
theorem Chg.at2 {H0 H H' : Hp} {L M : List Addr} (h : Chg L H0 H) (g : Chg M H H') (hM : ∀ x ∈ M, x ∈ L ∨ H0 x = none) : Chg L H0 H' := by
  refine ⟨fun a o ha e => g.fr a o (fun z => ?_) (h.fr a o ha e), h.kt.trans g.kt⟩
  rcases hM a z with q | q
  · exact ha q
  · rw [q] at e
    cases e
def sp_law_pile (K : PySem.W.Frag) : Sp := fun vs H Q _ => match vs with
  | [.ref p, .int m] => Pool H p ∧ ∃ n : Nat, m = n ∧ n ≤ 100 ∧ ∀ q H' a b body kc, Chg [p] H H' → Pool H' p → H q = none → H' q = some (.lst [.ref a, .ref b]) → H a = none → H b = none → LR K H' a (body ++ [.make 8 (n + kc.length), .back]) → LC K H' b kc → body.length ≤ 1000 → kc.length ≤ 13 → Cell.sizes kc ≤ 13 →
      a ≠ p → b ≠ p → q ≠ p → (∀ h : List Cell, h.length = n → Exs body h [] (h ++ kc) (h ++ kc)) → Q (.ref q) H'
  | _ => False
theorem ok_law_pile {f : Addr} {fd : FuncData} (F : Fun K "_law_pile" "_law_pile" st_law_pile f fd) (T : Top K mg) (Claw_take : Cal P w K mg base "_law_take" 1 ["pool", "many"] sp_law_take) : FnOk P w K mg base CX0 2 f fd ["pool", "many"] (sp_law_pile K) := by
  refine F.ok sc_law_pile (fun vs H Q E h => ?_) (fun cdv A outer s H vs Q E hr h => ?_)
  · match vs, h with
    | [.ref p, .int m], _ => rfl
  match vs, h with
  | [.ref p, .int m], h =>
  obtain ⟨hp, n, rfl, hn, q⟩ := h
  refine ⟨_, (pss_cons (ps_set (i := 2) sc_law_pile.nd rfl (.inl rfl) (mlstR pa_nil))
(pss_cons (ps_set (i := 3) sc_law_pile.nd rfl (.inl rfl) (mlstR pa_nil))
(pss_cons (mforR PassesOwn.never rfl (by rfl) T.range (pe_op opAdd pe_int (pe_cal Claw_take (hr.mono (by decide)) (by rfl) (pa_cons (mv 0) (pa_cons pe_int pa_nil)))) (pg_name (i := 4) sc_law_pile.nd rfl (.inl rfl))
(pss_one (mif (PW.pt (mand (mcmp opGt (pe_callB callLen (by rfl) T.len (by decide +kernel) (pa_cons (mv 3) pa_nil)) pe_int) (pw_and1 (mcmp opEq (pe_cal Claw_take (hr.mono (by decide)) (by rfl) (pa_cons (mv 0) (pa_cons pe_int pa_nil))) pe_int))))
(pss_cons (ps_set (i := 5) sc_law_pile.nd rfl (.inl rfl) (pe_op opAdd pe_int (pe_cal Claw_take (hr.mono (by decide)) (by rfl) (pa_cons (mv 0) (pa_cons (pe_callB callLen (by rfl) T.len (by decide +kernel) (pa_cons (mv 3) pa_nil)) pa_nil)))))
(pss_cons (mapp (mv 2) (mtupD (pa_cons pe_str (pa_cons (mv 5) pa_nil))))
(pss_one (ps_set (i := 3) sc_law_pile.nd rfl (.inl rfl) (pe_slice slM (mv 3) po_none (pom (pe_op opSub (pe_callB callLen (by rfl) T.len (by decide +kernel) (pa_cons (mv 3) pa_nil)) (mv 5))))))))
(pss_cons (ps_set (i := 2) sc_law_pile.nd rfl (.inl rfl) (pe_op opCatR (mv 2) (mlstR (pa_cons (mtupD (pa_cons pe_str (pa_cons (pe_op opAdd pe_int (mv 4)) (pa_cons pe_int pa_nil)))) (pa_cons (mtupD (pa_cons pe_str pa_nil)) pa_nil)))))
(pss_one (mapp (mv 3) (mtupD (pa_cons (pe_op opAdd pe_int (mv 4)) (pa_cons (mtupD pa_nil) pa_nil)))))))))
(pss_cons (mforR PassesOwn.never rfl (by rfl) T.range (pe_op opAdd (mv 1) (pe_callB callLen (by rfl) T.len (by decide +kernel) (pa_cons (mv 3) pa_nil))) (pg_name (i := 4) sc_law_pile.nd rfl (.inl rfl))
(pss_one (mapp (mv 2) (mtupD (pa_cons pe_str (pa_cons (mv 4) pa_nil))))))
(pss_one (ps_ret (pe_lst (pa_cons (pe_op opCatR (mv 2) (mlstR (pa_cons (mtupD (pa_cons pe_str (pa_cons pe_int (pa_cons (pe_op opAdd (mv 1) (pe_callB callLen (by rfl) T.len (by decide +kernel) (pa_cons (mv 3) pa_nil))) pa_nil)))) (pa_cons (mtupD (pa_cons pe_str pa_nil)) pa_nil)))) (pa_cons (mv 3) pa_nil)))))))))
  , ?_⟩
  refine ⟨[], .nil, le_sz (Nat.le_of_ble_eq_true rfl), fun t H1 ht c1 lt => ⟨[], .nil, le_sz (Nat.le_of_ble_eq_true rfl), fun kp H2 hkp c2 lkp => ⟨hp.chg (c1.trans c2) (by simp), 13, rfl, by decide, fun many H3 hmany c3 hp3 => ?_⟩⟩⟩
  obtain ⟨_, ep, _⟩ := id hp
  have ht0 : H t = none := ht
  have hkp0 : H kp = none := c1.old hkp
  have ntp : t ≠ p := fun z => by
    rw [z, ep] at ht0
    cases ht0
  have nkp : kp ≠ p := fun z => by
    rw [z, ep] at hkp0
    cases hkp0
  have ntk : t ≠ kp := by
    obtain ⟨_, e, _⟩ := id lt
    exact ne_of_none e hkp
  have c03 : Chg [p] H H3 := ((c1.trans c2).mono (by simp)).trans c3
  have lt3 : LR K H3 t [] := (lt.chg c2 (by simp)).chg c3 (by simp [ntp])
  have lk3 : LC K H3 kp [] := lkp.chg c3 (by simp [nkp])
  refine ⟨⟨by omega, by omega⟩, fun i σ H4 => ∃ (t' kp' : Addr) (k nn : Option V) (tr : List Row) (kc : List Cell), σ = [some (.ref p), some (.int (n : Nat)), some (.ref t'), some (.ref kp'), k, nn] ∧ H t' = none ∧ H kp' = none ∧ t' ≠ p ∧ kp' ≠ p ∧ t' ≠ kp' ∧ LR K H4 t' tr ∧ LC K H4 kp' kc ∧ Pool H4 p ∧ Chg [p] H H4 ∧
      tr.length ≤ 2 * i ∧ kc.length ≤ i ∧ Cell.sizes kc = kc.length ∧ (∀ h : List Cell, h.length = n → Exs tr h [] (h ++ kc) []), ?_, ?_, ?_⟩
  · exact ⟨t, kp, none, none, [], [], rfl, ht0, hkp0, ntp, nkp, ntk, lt3, lk3, hp3, c03, Nat.le_refl _, Nat.le_refl _, rfl, fun h _ => by rw [List.append_nil]; exact .nil⟩
  · rintro i σ H4 hi ⟨t', kp', k, nn, tr, kc, rfl, ht', hkp', ntp', nkp', ntk', lt4, ⟨kvs, ek, tk⟩, hp4, c4, hlt, hlk, hsz, hex⟩
    have hi' : i < 13 := by omega
    have lk := tk.length
    rw [List.length_map] at lk
    have cut : ∀ (r : Nat), r < kc.length → kvs.length = kc.length → cutV kvs none (some ((kvs.length : Int) - (1 + (r : Int)))) = kvs.take (kc.length - (1 + r)) := by
      intro r hr e
      have e2 : ((kvs.length : Int) - (1 + (r : Int))) = ((kc.length - (1 + r) : Nat) : Int) := by omega
      unfold cutV
      rw [e2, HT.sIx_nat, HT.sIx_none, List.drop_zero, Nat.sub_zero, Nat.min_eq_left (by omega)]
    refine ⟨_, .inl (SqL.of ek), fun hb => ?_, fun hb => ?_⟩
    · have hpos : 0 < kvs.length := by
        have := of_decide_eq_true hb
        omega
      refine ⟨hp4, 3, rfl, by decide, fun r H5 hr5 c5 hp5 => ?_⟩
      have c5' := c4.trans c5
      have ek5 := c5.get (by simp [nkp']) ek
      have lt5 := lt4.chg c5 (by simp [ntp'])
      have tk5 := tk.keep c5.kt
      refine ⟨fun hb2 => ?_, fun hb2 => ?_⟩
      · refine ⟨_, .inl (SqL.of ek5), hp5, _, rfl, hpos, fun r' H6 hr' c6 hp6 => ?_⟩
        have lt6 := lt5.chg c6 (by simp [ntp'])
        obtain ⟨_, et6, _⟩ := id lt6
        refine ⟨⟨_, et6⟩, _, .cons (.str _) (.cons (.int _) .nil), le_sz (Nat.le_of_ble_eq_true rfl), fun v7 H7 c7 t7 => ?_⟩
        have t7' : Td K H7 v7 (Row.forget (1 + r')).d := t7
        obtain ⟨ws, ew, lw, cw, lrw⟩ := (lt6.chg c7 (by simp)).push (L := [t']) t7' (by simp)
        refine ⟨ws, ew, lt_sz (by omega), ?_⟩
        have ek8 := cw.get (by simp [Ne.symm ntk']) (c7.get (by simp) (c6.get (by simp [nkp']) ek5))
        have tk8 := ((tk5.keep c6.kt).keep c7.kt).keep cw.kt
        have hp8 := (hp6.chg c7 (by simp)).chg cw (by simp [Ne.symm ntp'])
        have c8 : Chg [p] H (upd H7 t' (.lst (ws ++ [v7]))) := ((c5'.trans c6).trans (c7.mono (by simp))).at2 cw (fun x hx => .inr (by rw [List.mem_singleton.mp hx]; exact ht'))
        generalize upd H7 t' (.lst (ws ++ [v7])) = H8 at *
        refine ⟨kvs, .inl (SqL.of ek8), kvs, SqL.of ek8, fun l hl => ?_⟩
        have ec := cut r' (by omega) lk
        have c9 : Chg [] H8 (upd H8 l (.lst (cutV kvs none (some ((kvs.length : Int) - (1 + (r' : Int))))))) := Chg.new hl
        have e9 : upd H8 l (.lst (cutV kvs none (some ((kvs.length : Int) - (1 + (r' : Int)))))) l = some (.lst (kvs.take (kc.length - (1 + r')))) := by
          rw [ec]
          exact upd_same
        obtain ⟨_, ep8, _⟩ := id hp8
        obtain ⟨_, et8, _⟩ := id lrw
        have nlp : l ≠ p := (ne_of_none ep8 hl).symm
        have nlt : t' ≠ l := ne_of_none et8 hl
        have hl0 : H l = none := by
          cases z : H l with
          | none => rfl
          | some o =>
            have := c8.get (by simp [nlp]) z
            rw [hl] at this
            cases this
        refine ⟨t', l, _, _, tr ++ [Row.forget (1 + r')], kc.take (kc.length - (1 + r')), rfl, ht', hl0, ntp', nlp, nlt, lrw.chg c9 (by simp), ⟨_, e9, ?_⟩, hp8.chg c9 (by simp), c8.trans (c9.mono (by simp)), ?_, ?_, ?_, fun h hh => ?_⟩
        · rw [List.map_take]
          exact (tk8.take _).keep c9.kt
        · rw [List.length_append, List.length_singleton]
          omega
        · rw [List.length_take]
          omega
        · have e := Cell.sizes_app (kc.take (kc.length - (1 + r'))) (kc.drop (kc.length - (1 + r')))
          rw [List.take_append_drop] at e
          have l1 := Cell.sizes_len (kc.take (kc.length - (1 + r')))
          have l2 := Cell.sizes_len (kc.drop (kc.length - (1 + r')))
          rw [List.length_take] at l1 ⊢
          rw [List.length_drop] at l2
          omega
        · have hd : Do (.forget (1 + r')) (h ++ kc) [] ((h ++ kc).take ((h ++ kc).length - (1 + r'))) [] := .forget (by rw [List.length_append]; omega)
          have et : (h ++ kc).take ((h ++ kc).length - (1 + r')) = h ++ kc.take (kc.length - (1 + r')) := by
            rw [List.take_append, List.length_append, List.take_of_length_le (by omega)]
            congr 2
            omega
          rw [et] at hd
          exact (hex h hh).app (.one hd)
      · refine ⟨_, .cons (.str _) (.cons (.int _) (.cons (.int _) .nil)), le_sz (Nat.le_of_ble_eq_true rfl), fun v6 H6 c6 t6 => ⟨_, .cons (.str _) .nil, le_sz (Nat.le_of_ble_eq_true rfl), fun v7 H7 c7 t7 => ⟨[.make (60 + (i : Int)) 0, .keep], .cons (t6.keep c7.kt) (.cons t7 .nil), le_sz (Nat.le_of_ble_eq_true rfl), fun l8 H8 h8 c8 lr8 =>
          ⟨tr, _, ((lt5.chg c6 (by simp)).chg c7 (by simp)).chg c8 (by simp), lr8, by simp only [List.length_cons, List.length_nil]; omega, fun t9 H9 h9 c9 lr9 => ?_⟩⟩⟩⟩
        have c59 := c6.trans (c7.trans (c8.trans c9))
        have ek9 := c59.get (by simp) ek5
        obtain ⟨_, ep9, _⟩ := id (hp5.chg c59 (by simp))
        have c49 : Chg [p] H H9 := c5'.trans (c59.mono (by simp))
        have h9p : t9 ≠ p := fun z => by
          obtain ⟨_, e, _⟩ := hp5.chg (c6.trans (c7.trans c8)) (by simp)
          rw [z, e] at h9
          cases h9
        have h90 : H t9 = none := by
          cases z : H t9 with
          | none => rfl
          | some o =>
            have := (c5'.trans ((c6.trans (c7.trans c8)).mono (by simp))).get (by simp [h9p]) z
            rw [h9] at this
            cases this
        have h9k : t9 ≠ kp' := fun z => by
          have e := (c6.trans (c7.trans c8)).get (by simp) ek5
          rw [← z, h9] at e
          cases e
        refine ⟨⟨_, ek9⟩, _, .nil, le_sz (Nat.le_of_ble_eq_true rfl), fun v10 H10 c10 t10 => ⟨_, .cons (.int _) (.cons t10 .nil), le_sz (Nat.le_of_ble_eq_true rfl), fun v11 H11 c11 t11 => ?_⟩⟩
        have lk11 : LC K H11 kp' kc := ⟨kvs, (c10.trans c11).get (by simp) ek9, (tk5.keep c59.kt).keep (c10.trans c11).kt⟩
        obtain ⟨ws, ew, lw, cw, lcw⟩ := lk11.push (L := [kp']) (r := .mk (60 + (i : Int)) []) (by rw [Cell.d, Cell.ds]; exact t11) (by simp)
        have hmod : ∀ h : List Cell, h.length = n → Exs (tr ++ [.make (60 + (i : Int)) 0, .keep]) h [] (h ++ (kc ++ [.mk (60 + (i : Int)) []])) [] := by
          intro h hh
          refine (hex h hh).app (.cons (.make (cs := []) (s := []) rfl (by rw [Cell.size, Cell.sizes]; decide)) ?_)
          rw [← List.append_assoc]
          exact .one (.keep (s := []))
        refine ⟨ws, ew, lt_sz (by omega), t9, kp', _, _, tr ++ [Row.make (60 + (i : Int)) 0, Row.keep], kc ++ [Cell.mk (60 + (i : Int)) []], rfl, h90, hkp', h9p, nkp', h9k, ((lr9.chg c10 (by simp)).chg c11 (by simp)).chg cw (by simp [h9k]), lcw,
          ((hp5.chg c59 (by simp)).chg (c10.trans c11) (by simp)).chg cw (by simp [Ne.symm nkp']), (c49.trans ((c10.trans c11).mono (by simp))).at2 cw (fun x hx => .inr (by rw [List.mem_singleton.mp hx]; exact hkp')), ?_, ?_, ?_, hmod⟩
        · simp only [List.length_append, List.length_cons, List.length_nil]
          omega
        · simp only [List.length_append, List.length_cons, List.length_nil]
          omega
        · rw [Cell.sizes_app, Cell.sizes_one, Cell.size, Cell.sizes, List.length_append, hsz]
          rfl
    · refine ⟨(fun h => nomatch h), fun _ => ?_⟩
      have c5' := c4
      have ek5 := ek
      have lt5 := lt4
      have tk5 := tk
      have hp5 := hp4
      · refine ⟨_, .cons (.str _) (.cons (.int _) (.cons (.int _) .nil)), le_sz (Nat.le_of_ble_eq_true rfl), fun v6 H6 c6 t6 => ⟨_, .cons (.str _) .nil, le_sz (Nat.le_of_ble_eq_true rfl), fun v7 H7 c7 t7 => ⟨[.make (60 + (i : Int)) 0, .keep], .cons (t6.keep c7.kt) (.cons t7 .nil), le_sz (Nat.le_of_ble_eq_true rfl), fun l8 H8 h8 c8 lr8 =>
          ⟨tr, _, ((lt5.chg c6 (by simp)).chg c7 (by simp)).chg c8 (by simp), lr8, by simp only [List.length_cons, List.length_nil]; omega, fun t9 H9 h9 c9 lr9 => ?_⟩⟩⟩⟩
        have c59 := c6.trans (c7.trans (c8.trans c9))
        have ek9 := c59.get (by simp) ek5
        obtain ⟨_, ep9, _⟩ := id (hp5.chg c59 (by simp))
        have c49 : Chg [p] H H9 := c5'.trans (c59.mono (by simp))
        have h9p : t9 ≠ p := fun z => by
          obtain ⟨_, e, _⟩ := hp5.chg (c6.trans (c7.trans c8)) (by simp)
          rw [z, e] at h9
          cases h9
        have h90 : H t9 = none := by
          cases z : H t9 with
          | none => rfl
          | some o =>
            have := (c5'.trans ((c6.trans (c7.trans c8)).mono (by simp))).get (by simp [h9p]) z
            rw [h9] at this
            cases this
        have h9k : t9 ≠ kp' := fun z => by
          have e := (c6.trans (c7.trans c8)).get (by simp) ek5
          rw [← z, h9] at e
          cases e
        refine ⟨⟨_, ek9⟩, _, .nil, le_sz (Nat.le_of_ble_eq_true rfl), fun v10 H10 c10 t10 => ⟨_, .cons (.int _) (.cons t10 .nil), le_sz (Nat.le_of_ble_eq_true rfl), fun v11 H11 c11 t11 => ?_⟩⟩
        have lk11 : LC K H11 kp' kc := ⟨kvs, (c10.trans c11).get (by simp) ek9, (tk5.keep c59.kt).keep (c10.trans c11).kt⟩
        obtain ⟨ws, ew, lw, cw, lcw⟩ := lk11.push (L := [kp']) (r := .mk (60 + (i : Int)) []) (by rw [Cell.d, Cell.ds]; exact t11) (by simp)
        have hmod : ∀ h : List Cell, h.length = n → Exs (tr ++ [.make (60 + (i : Int)) 0, .keep]) h [] (h ++ (kc ++ [.mk (60 + (i : Int)) []])) [] := by
          intro h hh
          refine (hex h hh).app (.cons (.make (cs := []) (s := []) rfl (by rw [Cell.size, Cell.sizes]; decide)) ?_)
          rw [← List.append_assoc]
          exact .one (.keep (s := []))
        refine ⟨ws, ew, lt_sz (by omega), t9, kp', _, _, tr ++ [Row.make (60 + (i : Int)) 0, Row.keep], kc ++ [Cell.mk (60 + (i : Int)) []], rfl, h90, hkp', h9p, nkp', h9k, ((lr9.chg c10 (by simp)).chg c11 (by simp)).chg cw (by simp [h9k]), lcw,
          ((hp5.chg c59 (by simp)).chg (c10.trans c11) (by simp)).chg cw (by simp [Ne.symm nkp']), (c49.trans ((c10.trans c11).mono (by simp))).at2 cw (fun x hx => .inr (by rw [List.mem_singleton.mp hx]; exact hkp')), ?_, ?_, ?_, hmod⟩
        · simp only [List.length_append, List.length_cons, List.length_nil]
          omega
        · simp only [List.length_append, List.length_cons, List.length_nil]
          omega
        · rw [Cell.sizes_app, Cell.sizes_one, Cell.size, Cell.sizes, List.length_append, hsz]
          rfl
  · rintro σ H4 ⟨t', kp', k, nn, tr, kc, rfl, ht', hkp', ntp', nkp', ntk', lt4, ⟨kvs, ek, tk⟩, hp4, c4, hlt, hlk, hsz, hex⟩
    have lk := tk.length
    rw [List.length_map] at lk
    have hm13 : ((1 : Int) + (many : Int)).toNat ≤ 13 := by omega
    refine ⟨_, .inl (SqL.of ek), ⟨by omega, by omega⟩, fun i σ H5 => ∃ (k : Option V), σ = [some (.ref p), some (.int (n : Nat)), some (.ref t'), some (.ref kp'), k, nn] ∧ LR K H5 t' (tr ++ (List.range i).map Row.loc) ∧ LC K H5 kp' kc ∧ Pool H5 p ∧ Chg [p] H H5, ?_, ?_, ?_⟩
    · exact ⟨_, rfl, by rw [List.range_zero, List.map_nil, List.append_nil]; exact lt4, ⟨kvs, ek, tk⟩, hp4, c4⟩
    · rintro i σ H5 hi ⟨k, rfl, lt5, lk5, hp5, c5⟩
      obtain ⟨_, et5, _⟩ := id lt5
      refine ⟨⟨_, et5⟩, _, .cons (.str _) (.cons (.int _) .nil), le_sz (Nat.le_of_ble_eq_true rfl), fun v6 H6 c6 t6 => ?_⟩
      obtain ⟨ws, ew, lw, cw, lrw⟩ := (lt5.chg c6 (by simp)).push (L := [t']) (r := .loc i) t6 (by simp)
      rw [List.length_append, List.length_map, List.length_range] at lw
      refine ⟨ws, ew, lt_sz (by omega), _, rfl, ?_, (lk5.chg c6 (by simp)).chg cw (by simp [Ne.symm ntk']), (hp5.chg c6 (by simp)).chg cw (by simp [Ne.symm ntp']), (c5.trans (c6.mono (by simp))).at2 cw (fun x hx => .inr (by rw [List.mem_singleton.mp hx]; exact ht'))⟩
      rw [List.range_succ, List.map_append, ← List.append_assoc]
      exact lrw
    · rintro σ H5 ⟨k, rfl, lt5, lk5, hp5, c5⟩
      have ei : (((n : Nat) : Int) + (kvs.length : Int)).toNat = n + kc.length := by omega
      rw [ei] at lt5
      obtain ⟨kv5, ek5, tk5⟩ := id lk5
      have lk5' := tk5.length
      rw [List.length_map] at lk5'
      refine ⟨_, .inl (SqL.of ek5), _, .cons (.str _) (.cons (.int _) (.cons (.int _) .nil)), le_sz (Nat.le_of_ble_eq_true rfl), fun v6 H6 c6 t6 => ⟨_, .cons (.str _) .nil, le_sz (Nat.le_of_ble_eq_true rfl), fun v7 H7 c7 t7 => ⟨[.make 8 (n + kc.length), .back], .cons ?_ (.cons t7 .nil), le_sz (Nat.le_of_ble_eq_true rfl), fun l8 H8 h8 c8 lr8 =>
        ⟨_, _, ((lt5.chg c6 (by simp)).chg c7 (by simp)).chg c8 (by simp), lr8, by simp only [List.length_append, List.length_map, List.length_range, List.length_cons, List.length_nil]; omega, fun t9 H9 h9 c9 lr9 => ?_⟩⟩⟩⟩
      · have e : ((n : Nat) : Int) + (kv5.length : Int) = ((n + kc.length : Nat) : Int) := by omega
        rw [e] at t6
        exact t6.keep c7.kt
      · have c59 := c6.trans (c7.trans (c8.trans c9))
        have hp9 := hp5.chg c59 (by simp)
        have lk9 := lk5.chg c59 (by simp)
        have c09 := c5.trans (c59.mono (by simp))
        have h9p : t9 ≠ p := fun z => by
          obtain ⟨_, e, _⟩ := hp5.chg (c6.trans (c7.trans c8)) (by simp)
          rw [z, e] at h9
          cases h9
        have h90 : H t9 = none := by
          cases z : H t9 with
          | none => rfl
          | some o =>
            have := (c5.trans ((c6.trans (c7.trans c8)).mono (by simp))).get (by simp [h9p]) z
            rw [h9] at this
            cases this
        refine ⟨le_sz (Nat.le_of_ble_eq_true rfl), fun r hr' => ?_⟩
        have c10 : Chg [] H9 (upd H9 r (.lst [.ref t9, .ref kp'])) := Chg.new hr'
        obtain ⟨_, ep9, _⟩ := id hp9
        have nrp : r ≠ p := (ne_of_none ep9 hr').symm
        have hr0 : H r = none := by
          cases z : H r with
          | none => rfl
          | some o =>
            have := c09.get (by simp [nrp]) z
            rw [hr'] at this
            cases this
        have lr10 := lr9.chg c10 (by simp)
        refine q r _ t9 kp' (tr ++ (List.range (n + kc.length)).map Row.loc) kc (c09.trans (c10.mono (by simp))) (hp9.chg c10 (by simp)) hr0 upd_same h90 hkp' lr10 (lk9.chg c10 (by simp)) ?_ (by omega) (by omega) h9p nkp' nrp fun h hh => ?_
        · rw [List.length_append, List.length_map, List.length_range]
          omega
        · have z := locs_exs (h ++ kc) (n + kc.length) [] (by rw [List.length_append]; omega)
          rw [List.take_of_length_le (by rw [List.length_append]; omega), List.nil_append] at z
          exact (hex h hh).app z
end
end T5
set_option maxHeartbeats 4000000
namespace T5
open PySem PySem.Spec PyProof.Rows L2 T3
section
variable {P : Program} {w : World} {K : PySem.W.Frag} {mg : Str → Option Value} {base : Heap}
def cmpRows (mk : List Row) (turned : Bool) : List Row := if turned then mk ++ [.loc 0] else [.loc 0] ++ mk
theorem cmp_len (mk : List Row) (turned : Bool) : (cmpRows mk turned).length = mk.length + 1 := by
  unfold cmpRows
  split
  · rw [List.length_append]
    rfl
  · rw [List.length_append, Nat.add_comm]
    rfl
def sp_law_go (K : PySem.W.Frag) : Sp := fun vs H Q _ => match vs with
  | [.ref mk, .bl tr, .ref pt, .ref se, .int m] => ∃ (mkR pR : List Row) (ss : List Nat) (n : Nat), LR K H mk mkR ∧ LR K H pt pR ∧ H se = some (.lst (ss.map nv)) ∧ m = n ∧ n ≤ 100 ∧ mkR.length ≤ 1000 ∧ pR.length ≤ 1000 ∧ ss.length ≤ 1000 ∧
      ∀ p H', Chg [] H H' → H p = none → LR K H' p (goRows mkR tr pR ss n) → Q (.ref p) H'
  | _ => False
theorem ok_law_go {f : Addr} {fd : FuncData} (F : Fun K "_law_go" "_law_go" st_law_go f fd) (T : Top K mg) : FnOk P w K mg base CX0 1 f fd ["making", "turned", "path", "sent", "many"] (sp_law_go K) := by
  refine F.ok sc_law_go (fun vs H Q E h => ?_) (fun cdv A outer s H vs Q E hr h => ?_)
  · match vs, h with
    | [.ref a, .bl b, .ref c, .ref d, .int m], _ => rfl
  match vs, h with
  | [.ref mk, .bl tr, .ref pt, .ref se, .int m], h =>
  obtain ⟨mkR, pR, ss, n, lm, lp, hse, rfl, hn, b1, b2, b3, q⟩ := h
  refine ⟨_, (pss_cons (ps_set (i := 5) sc_law_go.nd rfl (.inl rfl) (pe_op opCatR (mlstR (pa_cons (mtupD (pa_cons pe_str (pa_cons pe_int pa_nil))) pa_nil)) (mv 0)))
(mcut (mif (mval (mv 1))
(pss_one (ps_set (i := 5) sc_law_go.nd rfl (.inl rfl) (pe_op opCatR (mv 0) (mlstR (pa_cons (mtupD (pa_cons pe_str (pa_cons pe_int pa_nil))) pa_nil)))))
pss_nil)
(pss_cons (ps_set (i := 6) sc_law_go.nd rfl (.inl rfl) (pe_op opCatR (pe_op opCatR (pe_op opCatR (mv 5) (mlstR (pa_cons (mtupD (pa_cons pe_str pa_nil)) (pa_cons (mtupD (pa_cons pe_str pa_nil)) (pa_cons (mtupD (pa_cons pe_str (pa_cons pe_int pa_nil))) pa_nil))))) (mv 2)) (mlstR (pa_cons (mtupD (pa_cons pe_str pa_nil)) pa_nil))))
(pss_cons (mforL PassesOwn.never rfl (mv 3) (pg_name (i := 7) sc_law_go.nd rfl (.inl rfl))
(pss_one (mapp (mv 6) (mtupD (pa_cons pe_str (pa_cons (pe_op opAdd pe_int (mv 7)) pa_nil))))))
(pss_cons (ps_set (i := 6) sc_law_go.nd rfl (.inl rfl) (pe_op opCatR (mv 6) (mlstR (pa_cons (mtupD (pa_cons pe_str (pa_cons pe_str (pa_cons pe_str (pa_cons (pe_callB callLen (by rfl) T.len (by decide +kernel) (pa_cons (mv 3) pa_nil)) pa_nil))))) (pa_cons (mtupD (pa_cons pe_str pa_nil)) pa_nil)))))
(pss_cons (mforR PassesOwn.never rfl (by rfl) T.range (mv 4) (pg_name (i := 7) sc_law_go.nd rfl (.inl rfl))
(pss_one (mapp (mv 6) (mtupD (pa_cons pe_str (pa_cons (pe_op opAdd pe_int (mv 7)) pa_nil))))))
(pss_cons (ps_set (i := 6) sc_law_go.nd rfl (.inl rfl) (pe_op opCatR (mv 6) (mlstR (pa_cons (mtupD (pa_cons pe_str (pa_cons pe_str (pa_cons pe_str (pa_cons (mv 4) pa_nil))))) (pa_cons (mtupD (pa_cons pe_str pa_nil)) pa_nil)))))
(pss_cons (mforR PassesOwn.never rfl (by rfl) T.range pe_int (pg_name (i := 7) sc_law_go.nd rfl (.inl rfl))
(pss_one (mapp (mv 6) (mtupD (pa_cons pe_str (pa_cons (pe_op opAdd (pe_op opAdd pe_int (mv 4)) (mv 7)) pa_nil))))))
(pss_one (ps_ret (pe_op opCatR (mv 6) (mlstR (pa_cons (mtupD (pa_cons pe_str (pa_cons pe_int (pa_cons pe_int pa_nil)))) (pa_cons (mtupD (pa_cons pe_str pa_nil)) pa_nil))))))))))))))
  , ?_⟩
  refine ⟨_, .cons (.str _) (.cons (.int _) .nil), le_sz (Nat.le_of_ble_eq_true rfl), fun v1 H1 c1 t1 => ⟨[.loc 0], .cons t1 .nil, le_sz (Nat.le_of_ble_eq_true rfl), fun l1 H2 h2 c2 lr2 => ⟨_, mkR, lr2, (lm.chg c1 (by simp)).chg c2 (by simp), by simp only [List.length_cons, List.length_nil]; omega, fun cp H3 h3 c3 lr3 => ?_⟩⟩⟩
  have c13 := c1.trans (c2.trans c3)
  refine ⟨fun σ H' => ∃ cp', σ = [some (.ref mk), some (.bl tr), some (.ref pt), some (.ref se), some (.int (n : Nat)), some (.ref cp'), none, none] ∧ LR K H' cp' (cmpRows mkR tr) ∧ Chg [] H H', ?_, ?_⟩
  · cases tr with
    | false => exact ⟨(fun h => nomatch h), fun _ => ⟨cp, rfl, lr3, c13⟩⟩
    | true =>
      refine ⟨fun _ => ?_, (fun h => nomatch h)⟩
      refine ⟨_, .cons (.str _) (.cons (.int _) .nil), le_sz (Nat.le_of_ble_eq_true rfl), fun v4 H4 c4 t4 => ⟨[.loc 0], .cons t4 .nil, le_sz (Nat.le_of_ble_eq_true rfl), fun l5 H5 h5 c5 lr5 => ⟨mkR, _, lm.chg (c13.trans (c4.trans c5)) (by simp), lr5, by simp only [List.length_cons, List.length_nil]; omega, fun cp2 H6 h6 c6 lr6 => ?_⟩⟩⟩
      exact ⟨cp2, rfl, lr6, c13.trans (c4.trans (c5.trans c6))⟩
  clear c1 c2 c3 c13 t1 lr2 lr3
  rintro σ H3 ⟨cp', rfl, lcp, c3⟩
  have hcmp := cmp_len mkR tr
  have eg : goRows mkR tr pR ss n = cmpRows mkR tr ++ [.same, .keep, .loc 0] ++ pR ++ [.keep] ++ ss.map (fun k => Row.loc (1 + k)) ++ [.call "Own" "mix" ss.length, .keep] ++ (List.range n).map (fun k => Row.loc (1 + k)) ++
    [.call "Own" "pile" n, .keep] ++ (List.range 4).map (fun k => Row.loc (1 + n + k)) ++ [.make 5 4, .back] := rfl
  refine ⟨_, .cons (.str _) .nil, le_sz (Nat.le_of_ble_eq_true rfl), fun v4 H4 c4 t4 => ⟨_, .cons (.str _) .nil, le_sz (Nat.le_of_ble_eq_true rfl), fun v5 H5 c5 t5 => ⟨_, .cons (.str _) (.cons (.int _) .nil), le_sz (Nat.le_of_ble_eq_true rfl), fun v6 H6 c6 t6 =>
    ⟨[.same, .keep, .loc 0], .cons ((t4.keep c5.kt).keep c6.kt) (.cons (t5.keep c6.kt) (.cons t6 .nil)), le_sz (Nat.le_of_ble_eq_true rfl), fun l7 H7 h7 c7 lr7 => ?_⟩⟩⟩⟩
  have c37 := c4.trans (c5.trans (c6.trans c7))
  refine ⟨_, _, lcp.chg c37 (by simp), lr7, by rw [hcmp]; simp only [List.length_cons, List.length_nil]; omega, fun p8 H8 h8 c8 lr8 => ?_⟩
  have c08 := c3.trans (c37.trans c8)
  refine ⟨_, _, lr8, lp.chg c08 (by simp), by simp only [List.length_append, hcmp, List.length_cons, List.length_nil]; omega, fun p9 H9 h9 c9 lr9 => ?_⟩
  refine ⟨_, .cons (.str _) .nil, le_sz (Nat.le_of_ble_eq_true rfl), fun v10 H10 c10 t10 => ⟨[.keep], .cons t10 .nil, le_sz (Nat.le_of_ble_eq_true rfl), fun l11 H11 h11 c11 lr11 =>
    ⟨_, _, (lr9.chg c10 (by simp)).chg c11 (by simp), lr11, by simp only [List.length_append, hcmp, List.length_cons, List.length_nil]; omega, fun t H12 ht c12 lt => ?_⟩⟩⟩
  have c011 := c08.trans (c9.trans (c10.trans c11))
  have c012 := c011.trans c12
  have ht0 : H t = none := c011.old ht
  clear c3 c4 c5 c6 c7 c8 c9 c10 c11 c12 c37 c08 c011 lr7 lr8 lr9 lr11 t4 t5 t6 t10 lcp
  obtain ⟨R1, hR1⟩ : ∃ R1, R1 = cmpRows mkR tr ++ [.same, .keep, .loc 0] ++ pR ++ [.keep] := ⟨_, rfl⟩
  have lR1 : R1.length ≤ 3000 := by
    rw [hR1]
    simp only [List.length_append, hcmp, List.length_cons, List.length_nil]
    omega
  rw [← hR1] at lt eg
  clear hR1
  refine ⟨_, SqL.of (c012.get (by simp) hse), fun i σ H' => ∃ k, σ = [some (.ref mk), some (.bl tr), some (.ref pt), some (.ref se), some (.int (n : Nat)), some (.ref cp'), some (.ref t), k] ∧ LR K H' t (R1 ++ (ss.take i).map (fun k => Row.loc (1 + k))) ∧ Chg [] H H', ?_, ?_, ?_, ?_⟩
  · exact ⟨_, rfl, by rw [List.take_zero, List.map_nil, List.append_nil]; exact lt, c012⟩
  · rintro i σ H' _ ⟨k, rfl, _, c⟩
    exact SqL.of (c.get (by simp) hse)
  · rintro i x σ H' hx ⟨k, rfl, lt', c⟩
    rw [List.getElem?_map] at hx
    obtain ⟨y, hy, rfl⟩ := Option.map_eq_some_iff.mp hx
    obtain ⟨_, et, _⟩ := id lt'
    refine ⟨⟨_, et⟩, _, .cons (.str _) (.cons (.int _) .nil), le_sz (Nat.le_of_ble_eq_true rfl), fun v4 H4 c4 t4 => ?_⟩
    obtain ⟨ws, ew, lw, cw, lrw⟩ := (lt'.chg c4 (by simp)).push (L := [t]) (r := .loc (1 + y)) t4 (by simp)
    have hi : i < ss.length := (List.getElem?_eq_some_iff.mp hy).1
    rw [List.length_append, List.length_map, List.length_take] at lw
    refine ⟨ws, ew, lt_sz (by omega), _, rfl, ?_, (c.trans c4).at2 cw (fun x hx => .inr (by rw [List.mem_singleton.mp hx]; exact ht0))⟩
    rw [List.take_succ, hy, List.map_append, ← List.append_assoc]
    exact lrw
  clear lt c012
  rintro σ H3 ⟨k0, rfl, lt, c3⟩
  rw [List.length_map, List.take_length] at lt
  refine ⟨_, .inl (SqL.of (c3.get (by simp) hse)), _, .cons (.str _) (.cons (.str _) (.cons (.str _) (.cons (.int _) .nil))), le_sz (Nat.le_of_ble_eq_true rfl), fun v4 H4 c4 t4 => ⟨_, .cons (.str _) .nil, le_sz (Nat.le_of_ble_eq_true rfl), fun v5 H5 c5 t5 =>
    ⟨[.call "Own" "mix" ss.length, .keep], .cons ?_ (.cons t5 .nil), le_sz (Nat.le_of_ble_eq_true rfl), fun l6 H6 h6 c6 lr6 => ⟨_, _, ((lt.chg c4 (by simp)).chg c5 (by simp)).chg c6 (by simp), lr6, by simp only [List.length_append, List.length_map, List.length_cons, List.length_nil]; omega, fun t2 H7 ht2 c7 lt2 => ?_⟩⟩⟩⟩
  · have := t4.keep c5.kt
    rw [List.length_map] at this
    exact this
  have c06 := c3.trans (c4.trans (c5.trans c6))
  have c07 := c06.trans c7
  have ht20 : H t2 = none := c06.old ht2
  clear c3 c4 c5 c6 c7 c06 lr6 t4 t5 lt
  obtain ⟨R2, hR2⟩ : ∃ R2, R2 = R1 ++ ss.map (fun k => Row.loc (1 + k)) ++ [.call "Own" "mix" ss.length, .keep] := ⟨_, rfl⟩
  have lR2 : R2.length ≤ 5000 := by
    rw [hR2]
    simp only [List.length_append, List.length_map, List.length_cons, List.length_nil]
    omega
  rw [← hR2] at lt2 eg
  clear hR2
  refine ⟨⟨by omega, by omega⟩, fun i σ H' => ∃ k, σ = [some (.ref mk), some (.bl tr), some (.ref pt), some (.ref se), some (.int (n : Nat)), some (.ref cp'), some (.ref t2), k] ∧ LR K H' t2 (R2 ++ (List.range i).map (fun k => Row.loc (1 + k))) ∧ Chg [] H H', ?_, ?_, ?_⟩
  · exact ⟨_, rfl, by rw [List.range_zero, List.map_nil, List.append_nil]; exact lt2, c07⟩
  · rintro i σ H' hi ⟨k, rfl, lt', c⟩
    obtain ⟨_, et, _⟩ := id lt'
    refine ⟨⟨_, et⟩, _, .cons (.str _) (.cons (.int _) .nil), le_sz (Nat.le_of_ble_eq_true rfl), fun v4 H4 c4 t4 => ?_⟩
    obtain ⟨ws, ew, lw, cw, lrw⟩ := (lt'.chg c4 (by simp)).push (L := [t2]) (r := .loc (1 + i)) t4 (by simp)
    rw [List.length_append, List.length_map, List.length_range] at lw
    refine ⟨ws, ew, lt_sz (by omega), _, rfl, ?_, (c.trans c4).at2 cw (fun x hx => .inr (by rw [List.mem_singleton.mp hx]; exact ht20))⟩
    rw [List.range_succ, List.map_append, ← List.append_assoc]
    exact lrw
  clear lt2 c07
  rintro σ H3 ⟨k1, rfl, lt, c3⟩
  rw [Int.toNat_natCast] at lt
  refine ⟨_, .cons (.str _) (.cons (.str _) (.cons (.str _) (.cons (.int _) .nil))), le_sz (Nat.le_of_ble_eq_true rfl), fun v4 H4 c4 t4 => ⟨_, .cons (.str _) .nil, le_sz (Nat.le_of_ble_eq_true rfl), fun v5 H5 c5 t5 =>
    ⟨[.call "Own" "pile" n, .keep], .cons (t4.keep c5.kt) (.cons t5 .nil), le_sz (Nat.le_of_ble_eq_true rfl), fun l6 H6 h6 c6 lr6 => ⟨_, _, ((lt.chg c4 (by simp)).chg c5 (by simp)).chg c6 (by simp), lr6, by simp only [List.length_append, List.length_map, List.length_range, List.length_cons, List.length_nil]; omega, fun t3 H7 ht3 c7 lt3 => ?_⟩⟩⟩⟩
  have c06 := c3.trans (c4.trans (c5.trans c6))
  have c07 := c06.trans c7
  have ht30 : H t3 = none := c06.old ht3
  clear c3 c4 c5 c6 c7 c06 lr6 t4 t5 lt
  obtain ⟨R3, hR3⟩ : ∃ R3, R3 = R2 ++ (List.range n).map (fun k => Row.loc (1 + k)) ++ [.call "Own" "pile" n, .keep] := ⟨_, rfl⟩
  have lR3 : R3.length ≤ 6000 := by
    rw [hR3]
    simp only [List.length_append, List.length_map, List.length_range, List.length_cons, List.length_nil]
    omega
  rw [← hR3] at lt3 eg
  clear hR3
  refine ⟨⟨by decide, by decide⟩, fun i σ H' => ∃ k, σ = [some (.ref mk), some (.bl tr), some (.ref pt), some (.ref se), some (.int (n : Nat)), some (.ref cp'), some (.ref t3), k] ∧ LR K H' t3 (R3 ++ (List.range i).map (fun k => Row.loc (1 + n + k))) ∧ Chg [] H H', ?_, ?_, ?_⟩
  · exact ⟨_, rfl, by rw [List.range_zero, List.map_nil, List.append_nil]; exact lt3, c07⟩
  · rintro i σ H' hi ⟨k, rfl, lt', c⟩
    have hi4 : i < 4 := hi
    obtain ⟨_, et, _⟩ := id lt'
    refine ⟨⟨_, et⟩, _, .cons (.str _) (.cons (.int _) .nil), le_sz (Nat.le_of_ble_eq_true rfl), fun v4 H4 c4 t4 => ?_⟩
    obtain ⟨ws, ew, lw, cw, lrw⟩ := (lt'.chg c4 (by simp)).push (L := [t3]) (r := .loc (1 + n + i)) t4 (by simp)
    rw [List.length_append, List.length_map, List.length_range] at lw
    refine ⟨ws, ew, lt_sz (by omega), _, rfl, ?_, (c.trans c4).at2 cw (fun x hx => .inr (by rw [List.mem_singleton.mp hx]; exact ht30))⟩
    rw [List.range_succ, List.map_append, ← List.append_assoc]
    exact lrw
  clear lt3 c07
  rintro σ H3 ⟨k2, rfl, lt, c3⟩
  have lt : LR K H3 t3 (R3 ++ (List.range 4).map (fun k => Row.loc (1 + n + k))) := lt
  refine ⟨_, .cons (.str _) (.cons (.int _) (.cons (.int _) .nil)), le_sz (Nat.le_of_ble_eq_true rfl), fun v4 H4 c4 t4 => ⟨_, .cons (.str _) .nil, le_sz (Nat.le_of_ble_eq_true rfl), fun v5 H5 c5 t5 =>
    ⟨[.make 5 4, .back], .cons (t4.keep c5.kt) (.cons t5 .nil), le_sz (Nat.le_of_ble_eq_true rfl), fun l6 H6 h6 c6 lr6 => ⟨_, _, ((lt.chg c4 (by simp)).chg c5 (by simp)).chg c6 (by simp), lr6, by simp only [List.length_append, List.length_map, List.length_range, List.length_cons, List.length_nil]; omega, fun t5 H7 ht5 c7 lt5 => ?_⟩⟩⟩⟩
  have c06 := c3.trans (c4.trans (c5.trans c6))
  refine q t5 H7 (c06.trans c7) (c06.old ht5) ?_
  rw [eg]
  exact lt5
end
end T5
set_option maxHeartbeats 2000000
/-! the program runs -/
namespace T5
open PySem PySem.Spec PyProof.Rows L2 T3
mutual
theorem Cell.symm : ∀ a b : Cell, PyData.eqv a.d b.d = PyData.eqv b.d a.d
  | .mk n ps, .mk m qs => by
    have h : (n == m) = (m == n) := by
      by_cases h : n = m
      · subst h
        rfl
      · have h2 : ¬ m = n := fun e => h e.symm
        rw [beq_eq_false_iff_ne.mpr h, beq_eq_false_iff_ne.mpr h2]
    show ((n == m) && (PyData.eqvAll (Cell.ds ps) (Cell.ds qs) && true)) = ((m == n) && (PyData.eqvAll (Cell.ds qs) (Cell.ds ps) && true))
    rw [h, Cell.symms ps qs]
theorem Cell.symms : ∀ a b : List Cell, PyData.eqvAll (Cell.ds a) (Cell.ds b) = PyData.eqvAll (Cell.ds b) (Cell.ds a)
  | [], [] => rfl
  | [], _ :: _ => by simp [Cell.ds, PyData.eqvAll]
  | _ :: _, [] => by simp [Cell.ds, PyData.eqvAll]
  | a :: as, b :: bs => by
    show (PyData.eqv a.d b.d && PyData.eqvAll (Cell.ds as) (Cell.ds bs)) = (PyData.eqv b.d a.d && PyData.eqvAll (Cell.ds bs) (Cell.ds as))
    rw [Cell.symm a b, Cell.symms as bs]
end
section
variable {B : Built} {fs : List Frame} {rows rows' pre qs suf : List Row} {h s h' s' given : List Cell} {c : Cell} {N k : Nat}
def GoB (B : Built) (fs : List Frame) (rows : List Row) (i : Nat) (h s : List Cell) (c : Cell) (N : Nat) : Prop := ∃ n, n ≤ N ∧ Go B fs rows i h s c n
theorem segGo (e : rows = pre ++ qs ++ suf) (x : Exs qs h s h' s') (g : GoB B fs rows (pre ++ qs).length h' s' c N) : GoB B fs rows pre.length h s c (N + qs.length) := by
  obtain ⟨n, hn, g⟩ := g
  rw [List.length_append] at g
  refine ⟨n + qs.length, by omega, x.go (fun j r hj => ?_) g⟩
  rw [e, List.append_assoc, List.getElem?_append_right (by omega), Nat.add_sub_cancel_left, List.getElem?_append_left (List.getElem?_eq_some_iff.mp hj).1]
  exact hj
theorem callGo {m f : Str} (e : rows = pre ++ [.call m f k] ++ suf) (hb : B m f = some (k, rows')) (hk : given.length = k) (g : GoB B (fs ++ [⟨rows, (pre ++ [Row.call m f k]).length, h, s⟩]) rows' 0 given [] c N) : GoB B fs rows pre.length h (s ++ given) c (N + 1) := by
  obtain ⟨n, hn, g⟩ := g
  rw [List.length_append] at g
  refine ⟨n + 1, by omega, .call (m := m) (f := f) (k := k) ?_ hb hk g⟩
  rw [e, List.append_assoc, List.getElem?_append_right (Nat.le_refl _), Nat.sub_self]
  rfl
theorem subGo {F : Frame} {hx sx : List Cell} {r : Cell} (e : rows' = qs ++ [.back]) (x : Exs qs given [] hx (sx ++ [r])) (g : GoB B fs F.rows F.at F.held (F.stack ++ [r]) c N) : GoB B (fs ++ [F]) rows' 0 given [] c (N + 1 + qs.length) := by
  obtain ⟨n, hn, g⟩ := g
  have gb : Go B (fs ++ [F]) rows' (0 + qs.length) hx (sx ++ [r]) c (n + 1) := by
    refine .back (rows' := F.rows) (i' := F.at) (h' := F.held) (s' := F.stack) ?_ g
    rw [e, Nat.zero_add, List.getElem?_append_right (Nat.le_refl _), Nat.sub_self]
    rfl
  refine ⟨n + 1 + qs.length, by omega, x.go (fun j r hj => ?_) gb⟩
  rw [e, Nat.zero_add, List.getElem?_append_left (List.getElem?_eq_some_iff.mp hj).1]
  exact hj
theorem endGo {hx sx : List Cell} {r : Cell} (e : rows = pre ++ [.back] ++ suf) : GoB B [] rows pre.length hx (sx ++ [r]) r 1 := by
  refine ⟨1, Nat.le_refl _, .done ?_⟩
  rw [e, List.append_assoc, List.getElem?_append_right (Nat.le_refl _), Nat.sub_self]
  rfl
end
theorem mix_exs (picks : List Nat) (sc mc : List Cell) (hp : picks.map (fun k => sc[k]?) = mc.map some) (hm : Cell.sizes mc ≤ 200) : Exs ([.make 9 0] ++ picks.map Row.loc ++ [.make 7 picks.length]) sc [] sc ([.mk 9 []] ++ [.mk 7 mc]) := by
  have hl : mc.length = picks.length := by
    have := congrArg List.length hp
    rw [List.length_map, List.length_map] at this
    omega
  refine ((Exs.one ?_).app (picks_exs sc picks mc [.mk 9 []] hp)).app (.one (.make (s := [.mk 9 []]) hl (by rw [Cell.size]; omega)))
  exact .make (cs := []) (s := []) rfl (by rw [Cell.size, Cell.sizes]; decide)
theorem plain_go (B : Built) (c other c' : Cell) (things : List Cell) (turned : Bool) (path : List Row) (sent picks : List Nat) (wide : Nat) (body : List Row) (kc sc mc : List Cell)
    (hB1 : B "Own" "mix" = some (sent.length, mixRows picks)) (hB3 : B "Own" "pile" = some (wide, body ++ [.make 8 (wide + kc.length), .back])) (hw : things.length = wide) (hc : c.size ≤ 32) (ho : other.size ≤ 32) (hp : PathTo other path c')
    (hs : sent.map (fun k => things[k]?) = sc.map some) (hpk : picks.map (fun k => sc[k]?) = mc.map some) (hbody : ∀ h : List Cell, h.length = wide → Exs body h [] (h ++ kc) (h ++ kc)) (hm : Cell.sizes mc ≤ 100) (hk : Cell.sizes things + Cell.sizes kc ≤ 100)
    (l1 : path.length ≤ 1000) (l2 : sent.length ≤ 1000) (l3 : picks.length ≤ 1000) (l4 : body.length ≤ 10000) (l5 : wide ≤ 1000) :
    ∃ n, n ≤ 99999 ∧ Go B [] (goRows c.post turned path sent wide) 0 (other :: things) [] (.mk 5 [yn (PyData.eqv c.d other.d), c', .mk 7 mc, .mk 8 (things ++ kc)]) n := by
  have hsl : sc.length = sent.length := by
    have := congrArg List.length hs
    rw [List.length_map, List.length_map] at this
    omega
  have hsz' := hp.size
  -- the comparison
  have x1 : Exs (cmpRows c.post turned ++ [.same]) (other :: things) [] (other :: things) [yn (PyData.eqv c.d other.d)] := by
    cases turned with
    | false =>
      refine Exs.app (s1 := [other] ++ [c]) ?_ (.one (.same (s := []) ho hc))
      exact Exs.app (.one (.loc (s := []) rfl)) (c.post_exs _ _ (by omega))
    | true =>
      rw [Cell.symm c other]
      refine Exs.app (s1 := [c] ++ [other]) ?_ (.one (.same (s := []) hc ho))
      exact Exs.app (c.post_exs _ [] (by omega)) (.one (.loc (s := [c]) rfl))
  have x2 : Exs (cmpRows c.post turned ++ [.same, .keep, .loc 0] ++ path ++ [.keep]) (other :: things) [] (other :: things ++ [yn (PyData.eqv c.d other.d)] ++ [c']) [] := by
    have e : cmpRows c.post turned ++ [.same, .keep, .loc 0] ++ path ++ [.keep] = cmpRows c.post turned ++ [.same] ++ [.keep] ++ [.loc 0] ++ path ++ [.keep] := by
      simp only [List.append_assoc, List.cons_append, List.nil_append]
    rw [e]
    refine Exs.app (Exs.app (Exs.app (Exs.app x1 (.one (.keep (s := [])))) (.one (.loc (s := []) rfl))) (hp.exs _ [])) (.one (.keep (s := [])))
  generalize hb : yn (PyData.eqv c.d other.d) = bb at *
  have x3 : Exs (sent.map (fun k => Row.loc (1 + k))) (other :: things ++ [bb] ++ [c']) [] (other :: things ++ [bb] ++ [c']) ([] ++ sc) := by
    have e : sent.map (fun k => Row.loc (1 + k)) = (sent.map (fun k => 1 + k)).map Row.loc := by rw [List.map_map] <;> rfl
    rw [e]
    refine picks_exs _ _ sc [] ?_
    rw [List.map_map, ← hs]
    refine List.map_congr_left fun k hk => ?_
    have hlt : k < things.length := by
      obtain ⟨j, hj⟩ := List.mem_iff_getElem?.mp hk
      have z := congrArg (fun l => l[j]?) hs
      simp only [List.getElem?_map, hj, Option.map_some] at z
      cases q : things[k]? with
      | some y => exact (List.getElem?_eq_some_iff.mp q).1
      | none =>
        rw [q] at z
        cases q2 : sc[j]? with
        | none => rw [q2] at z; cases z
        | some y => rw [q2] at z; cases z
    show (other :: things ++ [bb] ++ [c'])[1 + k]? = things[k]?
    rw [List.append_assoc, List.cons_append, Nat.add_comm, List.getElem?_cons_succ, List.getElem?_append_left hlt]
  generalize hH : other :: things ++ [bb] ++ [c'] = h2 at *
  have hh2 : h2.length = wide + 3 := by
    rw [← hH]
    simp only [List.length_append, List.length_cons, List.length_nil]
    omega
  have x4 := mix_exs picks sc mc hpk (by omega)
  have x5 : Exs [.keep] h2 ([] ++ [.mk 7 mc]) (h2 ++ [.mk 7 mc]) [] := .one .keep
  have x6 : Exs ((List.range wide).map (fun k => Row.loc (1 + k))) (h2 ++ [.mk 7 mc]) [] (h2 ++ [.mk 7 mc]) ([] ++ things) := by
    have e : (List.range wide).map (fun k => Row.loc (1 + k)) = ((List.range wide).map (fun k => 1 + k)).map Row.loc := by rw [List.map_map] <;> rfl
    rw [e]
    refine picks_exs _ _ things [] ?_
    rw [List.map_map]
    refine List.ext_getElem? fun j => ?_
    rw [List.getElem?_map, List.getElem?_map]
    by_cases hj : j < wide
    · rw [List.getElem?_range hj]
      show some ((h2 ++ [Cell.mk 7 mc])[1 + j]?) = (things[j]?).map some
      rw [← hH, List.append_assoc, List.append_assoc, List.cons_append, Nat.add_comm, List.getElem?_cons_succ, List.getElem?_append_left (by omega)]
      cases q : things[j]? with
      | some y => rfl
      | none =>
        rw [List.getElem?_eq_none_iff] at q
        omega
    · rw [List.getElem?_eq_none (by rw [List.length_range]; omega), List.getElem?_eq_none (by omega)]
      rfl
  have x7 : Exs (body ++ [.make 8 (wide + kc.length)]) things [] (things ++ kc) ([] ++ [.mk 8 (things ++ kc)]) :=
    (hbody things hw).app (.one (.make (s := []) (by show (things ++ kc).length = _; rw [List.length_append, hw]) (by rw [Cell.size]; show Cell.sizes (things ++ kc) + 1 ≤ 256; rw [Cell.sizes_app]; omega)))
  generalize hM : Cell.mk 7 mc = mx at *
  generalize hP : Cell.mk 8 (things ++ kc) = px at *
  have x8 : Exs [.keep] (h2 ++ [mx]) ([] ++ [px]) (h2 ++ [mx] ++ [px]) [] := .one .keep
  have x9 : Exs ((List.range 4).map (fun k => Row.loc (1 + wide + k)) ++ [.make 5 4]) (h2 ++ [mx] ++ [px]) [] (h2 ++ [mx] ++ [px]) ([] ++ [.mk 5 [bb, c', mx, px]]) := by
    refine Exs.app (h1 := h2 ++ [mx] ++ [px]) (s1 := [] ++ [bb, c', mx, px]) ?_ (.one (.make (s := []) rfl ?_))
    · have e : (List.range 4).map (fun k => Row.loc (1 + wide + k)) = [1 + wide, 1 + wide + 1, 1 + wide + 2, 1 + wide + 3].map Row.loc := rfl
      rw [e]
      refine picks_exs _ _ [bb, c', mx, px] [] ?_
      have eh : h2 ++ [mx] ++ [px] = (other :: things) ++ [bb, c', mx, px] := by
        rw [← hH]
        simp only [List.append_assoc, List.cons_append, List.nil_append]
      rw [eh]
      have hl : (other :: things).length = 1 + wide := by
        rw [List.length_cons, hw, Nat.add_comm]
      have g : ∀ j, ((other :: things) ++ [bb, c', mx, px])[1 + wide + j]? = [bb, c', mx, px][j]? := fun j => by
        rw [List.getElem?_append_right (by omega), hl, Nat.add_sub_cancel_left]
      have g0 := g 0
      have g1 := g 1
      have g2 := g 2
      have g3 := g 3
      rw [Nat.add_zero] at g0
      simp only [List.map_cons, List.map_nil, g0, g1, g2, g3]
      rfl
    · have z1 : bb.size = 1 := by
        rw [← hb, yn, Cell.size, Cell.sizes]
      have z2 : mx.size ≤ 101 := by
        rw [← hM, Cell.size]
        omega
      have z3 : px.size ≤ 101 := by
        rw [← hP, Cell.size, Cell.sizes_app]
        omega
      rw [Cell.size, Cell.sizes, Cell.sizes, Cell.sizes, Cell.sizes, Cell.sizes]
      omega
  -- all of it
  have main : GoB B [] (goRows c.post turned path sent wide) ([] : List Row).length (other :: things) [] (.mk 5 [bb, c', mx, px]) 99999 := by
    have eR : goRows c.post turned path sent wide = [] ++ (cmpRows c.post turned ++ [.same, .keep, .loc 0] ++ path ++ [.keep]) ++ (sent.map (fun k => Row.loc (1 + k)) ++ ([.call "Own" "mix" sent.length] ++ ([.keep] ++ ((List.range wide).map (fun k => Row.loc (1 + k)) ++ ([.call "Own" "pile" wide] ++ ([.keep] ++ (((List.range 4).map (fun k => Row.loc (1 + wide + k)) ++ [.make 5 4]) ++ ([.back] ++ [])))))))) := by
      unfold goRows cmpRows
      simp only [List.append_assoc, List.cons_append, List.nil_append]
    have bnd : ∀ {B fs rows i h s c N M}, GoB B fs rows i h s c N → N ≤ M → GoB B fs rows i h s c M := fun ⟨n, h1, h2⟩ h => ⟨n, by omega, h2⟩
    generalize goRows c.post turned path sent wide = R at *
    generalize hq1 : cmpRows c.post turned ++ [.same, .keep, .loc 0] ++ path ++ [.keep] = q1 at *
    generalize hq2 : sent.map (fun k => Row.loc (1 + k)) = q2 at *
    generalize hq4 : (List.range wide).map (fun k => Row.loc (1 + k)) = q4 at *
    generalize hq6 : (List.range 4).map (fun k => Row.loc (1 + wide + k)) ++ [.make 5 4] = q6 at *
    have z1 : q1.length ≤ 2000 := by
      have := c.post_len
      rw [← hq1]
      simp only [List.length_append, cmp_len, List.length_cons, List.length_nil]
      omega
    have z2 : q2.length ≤ 1000 := by
      rw [← hq2, List.length_map]
      omega
    have z4 : q4.length ≤ 1000 := by
      rw [← hq4, List.length_map, List.length_range]
      omega
    have z6 : q6.length ≤ 5 := by
      rw [← hq6, List.length_append, List.length_map, List.length_range]
      exact Nat.le_refl _
    have zp : ([Row.make 9 0] ++ picks.map Row.loc ++ [Row.make 7 picks.length]).length ≤ 1002 := by
      simp only [List.length_append, List.length_map, List.length_cons, List.length_nil]
      omega
    have zb : (body ++ [Row.make 8 (wide + kc.length)]).length ≤ 10001 := by
      simp only [List.length_append, List.length_cons, List.length_nil]
      omega
    have a1 : R = ([] ++ q1) ++ q2 ++ ([.call "Own" "mix" sent.length] ++ ([.keep] ++ (q4 ++ ([.call "Own" "pile" wide] ++ ([.keep] ++ (q6 ++ ([.back] ++ []))))))) := by
      rw [eR]
      simp only [List.append_assoc]
    have a2 : R = ([] ++ q1 ++ q2) ++ [.call "Own" "mix" sent.length] ++ ([.keep] ++ (q4 ++ ([.call "Own" "pile" wide] ++ ([.keep] ++ (q6 ++ ([.back] ++ [])))))) := by
      rw [eR]
      simp only [List.append_assoc]
    have a3 : R = ([] ++ q1 ++ q2 ++ [.call "Own" "mix" sent.length]) ++ [.keep] ++ (q4 ++ ([.call "Own" "pile" wide] ++ ([.keep] ++ (q6 ++ ([.back] ++ []))))) := by
      rw [eR]
      simp only [List.append_assoc]
    have a4 : R = ([] ++ q1 ++ q2 ++ [.call "Own" "mix" sent.length] ++ [.keep]) ++ q4 ++ ([.call "Own" "pile" wide] ++ ([.keep] ++ (q6 ++ ([.back] ++ [])))) := by
      rw [eR]
      simp only [List.append_assoc]
    have a5 : R = ([] ++ q1 ++ q2 ++ [.call "Own" "mix" sent.length] ++ [.keep] ++ q4) ++ [.call "Own" "pile" wide] ++ ([.keep] ++ (q6 ++ ([.back] ++ []))) := by
      rw [eR]
      simp only [List.append_assoc]
    have a6 : R = ([] ++ q1 ++ q2 ++ [.call "Own" "mix" sent.length] ++ [.keep] ++ q4 ++ [.call "Own" "pile" wide]) ++ [.keep] ++ (q6 ++ ([.back] ++ [])) := by
      rw [eR]
      simp only [List.append_assoc]
    have a7 : R = ([] ++ q1 ++ q2 ++ [.call "Own" "mix" sent.length] ++ [.keep] ++ q4 ++ [.call "Own" "pile" wide] ++ [.keep]) ++ q6 ++ ([.back] ++ []) := by
      rw [eR]
      simp only [List.append_assoc]
    have a8 : R = ([] ++ q1 ++ q2 ++ [.call "Own" "mix" sent.length] ++ [.keep] ++ q4 ++ [.call "Own" "pile" wide] ++ [.keep] ++ q6) ++ [.back] ++ [] := by
      rw [eR]
      simp only [List.append_assoc]
    refine bnd (segGo eR x2 (segGo a1 x3 (callGo a2 hB1 hsl (subGo (F := ⟨R, _, h2, []⟩) (qs := [.make 9 0] ++ picks.map Row.loc ++ [.make 7 picks.length]) ?_ x4 (segGo a3 x5 (segGo a4 x6 (callGo a5 hB3 hw (subGo (F := ⟨R, _, h2 ++ [mx], []⟩) (qs := body ++ [.make 8 (wide + kc.length)]) ?_ x7 (segGo a6 x8 (segGo a7 x9 (endGo a8))))))))))) ?_
    · unfold mixRows
      simp only [List.append_assoc, List.cons_append, List.nil_append]
    · simp only [List.append_assoc, List.cons_append, List.nil_append]
    · simp only [List.length_cons, List.length_nil] at *
      omega
  obtain ⟨n, h1, h2⟩ := main
  exact ⟨n, h1, h2⟩
end T5
set_option maxHeartbeats 2000000
/-! what the law's own walk needs -/
namespace T5
open PySem PySem.Spec PyProof.Rows L2 T3
section
variable {X : Cx}
/-- tuple(a list of rows), tuple(a list of cells) -/
def mTupR (K : PySem.W.Frag) : List V → Hp → VK → Prop := fun xs H Q => match xs with
  | [.ref p] => ∃ rs, LR K H p rs ∧ ∀ v H', Chg [] H H' → Td K H' v (.tuple (rs.map Row.d)) → Q v H'
  | _ => False
theorem callTupR : CallR X (.type "tuple") (mTupR X.K) := by
  refine CallR.imp callTuple ?_
  intro xs H Q h
  match xs, h with
  | [.ref p], ⟨rs, ⟨vs, e, t⟩, q⟩ => exact ⟨vs, SqL.of e, tupI t q⟩
def mTupC (K : PySem.W.Frag) : List V → Hp → VK → Prop := fun xs H Q => match xs with
  | [.ref p] => ∃ rs, LC K H p rs ∧ ∀ v H', Chg [] H H' → Td K H' v (.tuple (rs.map Cell.d)) → Q v H'
  | _ => False
theorem callTupC : CallR X (.type "tuple") (mTupC X.K) := by
  refine CallR.imp callTuple ?_
  intro xs H Q h
  match xs, h with
  | [.ref p], ⟨rs, ⟨vs, e, t⟩, q⟩ => exact ⟨vs, SqL.of e, tupI t q⟩
/-- a list of small numbers that begins empty -/
def mNil : TE := fun σ H Q => ∀ p H', H p = none → Chg [] H H' → H' p = some (.lst []) → Q (.ref p) H'
theorem mnil {pos : Pos} : PE X (.List [] pos) mNil := by
  refine PE.imp ?_ (pe_lst (pos := pos) pa_nil)
  intro σ H Q q
  exact ⟨Nat.zero_le _, fun p hp => q p _ hp (Chg.new hp) upd_same⟩
/-- {} -/
def mDNew : TE := fun σ H Q => ∀ p H', H p = none → Chg [] H H' → H' p = some (.dT []) → Q (.ref p) H'
theorem mdnew {pos : Pos} : PE X (.Dict [] [] pos) mDNew := by
  refine PE.imp ?_ (pe_dnewT (pos := pos))
  intro σ H Q q
  exact fun p hp => q p _ hp (Chg.new hp) upd_same
end
def Row.okc : Row → Bool
  | .call m f _ => PyData.strOk m && PyData.strOk f
  | _ => true
theorem Row.lay (r : Row) (h : r.okc = true) : r.d.canLay0 = true ∧ r.d.depth ≤ 1 := by
  cases r with
  | call m f k =>
    have h' : (PyData.strOk m && PyData.strOk f) = true := h
    rw [Bool.and_eq_true] at h'
    simp only [Row.d, PyData.canLay0, PyData.canLayAll0, PyData.depth, PyData.depthAll, Bool.and_true, h'.1, h'.2]
    exact ⟨by decide +kernel, by decide⟩
  | _ =>
    simp only [Row.d, PyData.canLay0, PyData.canLayAll0, PyData.depth, PyData.depthAll, Bool.and_true]
    exact ⟨by decide +kernel, by decide⟩
theorem rows_lay : ∀ rs : List Row, (∀ r ∈ rs, r.okc = true) → PyData.canLayAll0 (rs.map Row.d) = true ∧ PyData.depthAll (rs.map Row.d) ≤ 1
  | [], _ => ⟨rfl, Nat.zero_le _⟩
  | r :: rs, h => by
    obtain ⟨a, b⟩ := r.lay (h r (by simp))
    obtain ⟨c, d⟩ := rows_lay rs fun x hx => h x (by simp [hx])
    rw [List.map_cons]
    simp only [PyData.canLayAll0, PyData.depthAll, a, c, Bool.and_self, true_and]
    omega
def entD (n : Nat) (rs : List Row) : PyData := .tuple [.int (n : Nat), .tuple (rs.map Row.d)]
theorem ent_shaped (n : Nat) (rs : List Row) (h : ∀ r ∈ rs, r.okc = true) : SeqAt.shaped (entD n rs) = true := by
  obtain ⟨a, b⟩ := rows_lay rs h
  unfold SeqAt.shaped entD
  simp only [PyData.canLay0, PyData.canLayAll0, PyData.depth, PyData.depthAll, a, Bool.and_self, Bool.true_and]
  exact decide_eq_true (by omega)
theorem ent_eqv (n : Nat) (rs : List Row) (h : ∀ r ∈ rs, r.okc = true) : PyData.eqv (entD n rs) (entD n rs) = true := SeqAt.eqv_refl _ (SeqAt.canLay_of_shaped (ent_shaped n rs h))
theorem okc_mem {rs : List Row} (h : rs.all Row.okc = true) : ∀ r ∈ rs, r.okc = true := fun r hr => List.all_eq_true.mp h r hr
mutual
theorem Cell.post_okc : ∀ c : Cell, c.post.all Row.okc = true
  | .mk n ps => by
    rw [Cell.post, List.all_append, Cell.posts_okc ps]
    rfl
theorem Cell.posts_okc : ∀ cs : List Cell, (Cell.posts cs).all Row.okc = true
  | [] => rfl
  | c :: cs => by rw [Cell.posts, List.all_append, Cell.post_okc c, Cell.posts_okc cs] <;> rfl
end
theorem path_okc {c d : Cell} {path : List Row} (h : PathTo c path d) : path.all Row.okc = true := by
  induction h with
  | nil => rfl
  | snoc _ _ ih =>
    rw [List.all_append, ih]
    rfl
theorem exs_okc {h s h' s' : List Cell} : ∀ {rs : List Row}, Exs rs h s h' s' → rs.all Row.okc = true
  | [], _ => rfl
  | r :: rs, .cons d e => by
    rw [List.all_cons, exs_okc e]
    cases d <;> rfl
theorem loc_okc {α : Type} (f : α → Nat) (l : List α) : (l.map fun k => Row.loc (f k)).all Row.okc = true := by
  rw [List.all_map]
  exact List.all_eq_true.mpr fun _ _ => rfl
theorem mix_okc (picks : List Nat) : (mixRows picks).all Row.okc = true := by
  unfold mixRows
  rw [List.all_append, List.all_append, loc_okc (fun k => k)]
  rfl
theorem go_okc (mk : List Row) (turned : Bool) (path : List Row) (sent : List Nat) (many : Nat) (h1 : mk.all Row.okc = true) (h2 : path.all Row.okc = true) : (goRows mk turned path sent many).all Row.okc = true := by
  unfold goRows
  have o1 : [Row.call "Own" "mix" sent.length, Row.keep].all Row.okc = true := by
    have z : (PyData.strOk "Own" && PyData.strOk "mix") = true := by decide +kernel
    show ((PyData.strOk "Own" && PyData.strOk "mix") && (true && true)) = true
    rw [z]
    rfl
  have o2 : [Row.call "Own" "pile" many, Row.keep].all Row.okc = true := by
    have z : (PyData.strOk "Own" && PyData.strOk "pile") = true := by decide +kernel
    show ((PyData.strOk "Own" && PyData.strOk "pile") && (true && true)) = true
    rw [z]
    rfl
  simp only [List.all_append, loc_okc (fun k => 1 + k), loc_okc (fun k => 1 + many + k), h2, o1, o2, Bool.and_true]
  cases turned
  · simp only [Bool.false_eq_true, if_false, List.all_append, h1]
    decide +kernel
  · simp only [if_true, List.all_append, h1]
    decide +kernel
theorem pile_okc (body : List Row) (k : Nat) (h : body.all Row.okc = true) : (body ++ [Row.make 8 k, Row.back]).all Row.okc = true := by
  rw [List.all_append, h]
  rfl

/-! ### the dict of the three defs -/
abbrev kk (f : Str) : List Key := [.inr "Own", .inr f]
def FullD (K : PySem.W.Frag) (H : Hp) (d : Addr) (e1 e2 e3 : PyData) : Prop :=
  ∃ v1 v2 v3, H d = some (.dT [(kk "mix", v1), (kk "go", v2), (kk "pile", v3)]) ∧ Td K H v1 e1 ∧ Td K H v2 e2 ∧ Td K H v3 e3
theorem FullD.chg {K : PySem.W.Frag} {L : List Addr} {H H' : Hp} {d : Addr} {e1 e2 e3 : PyData} (h : FullD K H d e1 e2 e3) (g : Chg L H H') (hd : d ∉ L) : FullD K H' d e1 e2 e3 := by
  obtain ⟨v1, v2, v3, e, t1, t2, t3⟩ := h
  exact ⟨v1, v2, v3, g.get hd e, t1.keep g.kt, t2.keep g.kt, t3.keep g.kt⟩
def Bd (n1 n2 n3 : Nat) (r1 r2 r3 : List Row) : Built := fun m f => if m = "Own" then (if f = "mix" then some (n1, r1) else if f = "go" then some (n2, r2) else if f = "pile" then some (n3, r3) else none) else none
theorem key_eq {m f g : Str} (h1 : m = "Own") (h2 : f = g) : ([.inr m, .inr f] : List Key) = kk g := by rw [h1, h2]
theorem vals3 (v1 v2 v3 : V) : valV [(kk "mix", v1), (kk "go", v2), (kk "pile", v3)] (kk "mix") = some v1 ∧ valV [(kk "mix", v1), (kk "go", v2), (kk "pile", v3)] (kk "go") = some v2 ∧ valV [(kk "mix", v1), (kk "go", v2), (kk "pile", v3)] (kk "pile") = some v3 := by
  have n1 : ¬ kk "mix" = kk "go" := by decide +kernel
  have n2 : ¬ kk "mix" = kk "pile" := by decide +kernel
  have n3 : ¬ kk "go" = kk "pile" := by decide +kernel
  refine ⟨valV_pos rfl, ?_, ?_⟩
  · rw [valV_neg n1]
    exact valV_pos rfl
  · rw [valV_neg n2, valV_neg n3]
    exact valV_pos rfl
theorem FullD.bt {K : PySem.W.Frag} {H : Hp} {d : Addr} {n1 n2 n3 : Nat} {r1 r2 r3 : List Row} (h : FullD K H d (entD n1 r1) (entD n2 r2) (entD n3 r3)) : BT K H d (Bd n1 n2 n3 r1 r2 r3) := by
  obtain ⟨v1, v2, v3, e, t1, t2, t3⟩ := h
  obtain ⟨a1, a2, a3⟩ := vals3 v1 v2 v3
  refine ⟨_, e, fun m f n rows hb => ?_⟩
  unfold Bd at hb
  split at hb
  · rename_i hm
    split at hb
    · rename_i hf
      cases hb
      rw [key_eq hm hf]
      exact ⟨v1, a1, t1⟩
    · split at hb
      · rename_i hf
        cases hb
        rw [key_eq hm hf]
        exact ⟨v2, a2, t2⟩
      · split at hb
        · rename_i hf
          cases hb
          rw [key_eq hm hf]
          exact ⟨v3, a3, t3⟩
        · cases hb
  · cases hb
theorem FullD.same {K : PySem.W.Frag} {H : Hp} {a b : Addr} {n1 n2 n3 : Nat} {r1 r2 r3 : List Row} (h1 : ∀ r ∈ r1, r.okc = true) (h2 : ∀ r ∈ r2, r.okc = true) (h3 : ∀ r ∈ r3, r.okc = true)
    (h : FullD K H a (entD n1 r1) (entD n2 r2) (entD n3 r3)) (g : FullD K H b (entD n1 r1) (entD n2 r2) (entD n3 r3)) :
    ∃ ks ls, H a = some (.dT ks) ∧ H b = some (.dT ls) ∧ ks.length = ls.length ∧ (∀ p ∈ ks, ∃ v, valV ls p.1 = some v ∧ ∃ d e, Dp K H p.2 d ∧ Dp K H v e ∧ SeqAt.shaped d = true ∧ SeqAt.shaped e = true ∧ PyData.eqv d e = true) := by
  obtain ⟨v1, v2, v3, e, t1, t2, t3⟩ := h
  obtain ⟨u1, u2, u3, e', s1, s2, s3⟩ := g
  obtain ⟨a1, a2, a3⟩ := vals3 u1 u2 u3
  refine ⟨_, _, e, e', rfl, fun p hp => ?_⟩
  simp only [List.mem_cons, List.not_mem_nil, or_false] at hp
  rcases hp with rfl | rfl | rfl
  · exact ⟨u1, a1, _, _, t1.dp, s1.dp, ent_shaped _ _ h1, ent_shaped _ _ h1, ent_eqv _ _ h1⟩
  · exact ⟨u2, a2, _, _, t2.dp, s2.dp, ent_shaped _ _ h2, ent_shaped _ _ h2, ent_eqv _ _ h2⟩
  · exact ⟨u3, a3, _, _, t3.dp, s3.dp, ent_shaped _ _ h3, ent_shaped _ _ h3, ent_eqv _ _ h3⟩
theorem put1 (v1 : V) : putK ([] : List (List Key × V)) (kk "mix") v1 = [(kk "mix", v1)] := putK_new _ rfl
theorem nkey1 : ¬ kk "mix" = kk "go" := by decide +kernel
theorem nkey2 : ¬ kk "mix" = kk "pile" := by decide +kernel
theorem nkey3 : ¬ kk "go" = kk "pile" := by decide +kernel
theorem put2 (v1 v2 : V) : putK [(kk "mix", v1)] (kk "go") v2 = [(kk "mix", v1), (kk "go", v2)] := putK_new _ (by
  rw [valV_neg nkey1]
  rfl)
theorem put3 (v1 v2 v3 : V) : putK [(kk "mix", v1), (kk "go", v2)] (kk "pile") v3 = [(kk "mix", v1), (kk "go", v2), (kk "pile", v3)] := putK_new _ (by
  rw [valV_neg nkey2, valV_neg nkey3]
  rfl)
end T5
set_option maxHeartbeats 8000000
namespace T5
open PySem PySem.Spec PyProof.Rows L2 T3
abbrev st_law : Stmt := topS 29
theorem sc_law : FnScope ["script", "pool", "many", "parents", "numbers", "k", "cell", "turned", "wide", "things", "sent", "picks", "pile", "mixed", "piled", "way", "other", "path", "built", "before", "table", "due"] ["script"] (defScope st_law) := ⟨rfl, rfl, rfl, by decide +kernel, rfl, by decide +kernel, by decide +kernel⟩
section
variable {P : Program} {w : World} {K : PySem.W.Frag} {mg : Str → Option Value} {base : Heap}
theorem Chg.none {L : List Addr} {H H' : Hp} {a : Addr} (h : Chg L H H') (e : H' a = none) (ha : a ∉ L) : H a = none := by
  cases q : H a with
  | none => rfl
  | some o =>
    rw [h.fr a o ha q] at e
    cases e
theorem pool_ne {H : Hp} {p a : Addr} (h : Pool H p) (e : H a = none) : a ≠ p := by
  rintro rfl
  obtain ⟨_, e2, _⟩ := h
  rw [e] at e2
  cases e2
def dd : Cell := .mk 0 []
def sp_law (K : PySem.W.Frag) : Sp := fun vs H Q _ => match vs with
  | [.ref a] => ∃ ns : List Int, SqL K H a (ns.map V.int) ∧ ns.length ≤ 63 ∧ ∀ H', Q (.bl true) H'
  | _ => False
theorem ok_law {f : Addr} {fd : FuncData} (F : Fun K "law" "law" st_law f fd) (T : Top K mg)
    (Claw_numbers : Cal P w K mg base "_law_numbers" 1 ["script"] (sp_law_numbers K)) (Claw_take : Cal P w K mg base "_law_take" 1 ["pool", "many"] sp_law_take) (Claw_like : Cal P w K mg base "_law_like" 1 ["actual", "due"] (sp_law_like K))
    (Claw_parents : Cal P w K mg base "_law_parents" 2 ["pool", "many"] sp_law_parents) (Claw_cell : Cal P w K mg base "_law_cell" 1 ["numbers", "parents"] (sp_law_cell K)) (Claw_beside : Cal P w K mg base "_law_beside" 2 ["pool", "numbers", "parents", "way"] (sp_law_beside K))
    (Claw_making : Cal P w K mg base "_law_making" 1 ["cell"] (sp_law_making K)) (Claw_path : Cal P w K mg base "_law_path" 2 ["pool", "cell"] (sp_law_path K)) (Claw_pile : Cal P w K mg base "_law_pile" 2 ["pool", "many"] (sp_law_pile K))
    (Claw_go : Cal P w K mg base "_law_go" 1 ["making", "turned", "path", "sent", "many"] (sp_law_go K)) (Claw_mix : Cal P w K mg base "_law_mix" 1 ["picks"] (sp_law_mix K)) (Crun : Cal P w K mg base "run" 3 ["built", "module", "name", "cells"] (sp_run K)) :
    FnOk P w K mg base CX0 4 f fd ["script"] (sp_law K) := by
  refine F.ok sc_law (fun vs H Q E h => ?_) (fun cdv A outer s H vs Q E hr h => ?_)
  · match vs, h with
    | [.ref a], _ => rfl
  match vs, h with
  | [.ref a], h =>
  obtain ⟨is, hS, hlen, q⟩ := h
  refine ⟨_, (pss_cons (ps_set (i := 1) sc_law.nd rfl (.inl rfl) (pe_cal Claw_numbers (hr.mono (by decide)) (by rfl) (pa_cons (mv 0) pa_nil)))
(pss_cons (ps_set (i := 2) sc_law.nd rfl (.inl rfl) (pe_op opAdd pe_int (pe_cal Claw_take (hr.mono (by decide)) (by rfl) (pa_cons (mv 1) (pa_cons pe_int pa_nil)))))
(pss_cons (ps_set (i := 3) sc_law.nd rfl (.inl rfl) (pe_cal Claw_parents (hr.mono (by decide)) (by rfl) (pa_cons (mv 1) (pa_cons (mv 2) pa_nil))))
(pss_cons (ps_set (i := 4) sc_law.nd rfl (.inl rfl) mnil)
(pss_cons (mforR PassesOwn.never rfl (by rfl) T.range (mv 2) (pg_name (i := 5) sc_law.nd rfl (.inl rfl))
(pss_one (mapp (mv 4) (pe_cal Claw_take (hr.mono (by decide)) (by rfl) (pa_cons (mv 1) (pa_cons pe_int pa_nil))))))
(pss_cons (ps_set (i := 6) sc_law.nd rfl (.inl rfl) (pe_cal Claw_cell (hr.mono (by decide)) (by rfl) (pa_cons (mv 4) (pa_cons (mv 3) pa_nil))))
(pss_cons (ps_set (i := 7) sc_law.nd rfl (.inl rfl) (mcmpE opEq (pe_cal Claw_take (hr.mono (by decide)) (by rfl) (pa_cons (mv 1) (pa_cons pe_int pa_nil))) pe_int))
(pss_cons (ps_set (i := 8) sc_law.nd rfl (.inl rfl) (pe_op opAdd pe_int (pe_cal Claw_take (hr.mono (by decide)) (by rfl) (pa_cons (mv 1) (pa_cons pe_int pa_nil)))))
(pss_cons (ps_set (i := 9) sc_law.nd rfl (.inr rfl) (mlstC pa_nil))
(pss_cons (mforR PassesOwn.never rfl (by rfl) T.range (mv 8) (pg_name (i := 5) sc_law.nd rfl (.inl rfl))
(pss_one (mapp (mv 9) (pe_ix ixM (mlstC (pa_cons (mtupD (pa_cons (pe_op opAdd pe_int (mv 5)) (pa_cons (mtupD (pa_cons (mtupD (pa_cons (mv 5) (pa_cons (mtupD pa_nil) pa_nil))) pa_nil)) pa_nil))) (pa_cons (mtupD (pa_cons (pe_op opAdd pe_int (mv 5)) (pa_cons (mtupD pa_nil) pa_nil))) pa_nil))) (pe_cal Claw_take (hr.mono (by decide)) (by rfl) (pa_cons (mv 1) (pa_cons pe_int pa_nil))) (fun _ _ => rfl)))))
(pss_cons (ps_set (i := 10) sc_law.nd rfl (.inr rfl) mnil)
(pss_cons (mforR PassesOwn.never rfl (by rfl) T.range (pe_op opAdd pe_int (pe_cal Claw_take (hr.mono (by decide)) (by rfl) (pa_cons (mv 1) (pa_cons pe_int pa_nil)))) (pg_name (i := 5) sc_law.nd rfl (.inl rfl))
(pss_one (mapp (mv 10) (pe_cal Claw_take (hr.mono (by decide)) (by rfl) (pa_cons (mv 1) (pa_cons (mv 8) pa_nil))))))
(pss_cons (ps_set (i := 11) sc_law.nd rfl (.inl rfl) mnil)
(pss_cons (mforR PassesOwn.never rfl (by rfl) T.range (pe_op opAdd pe_int (pe_cal Claw_take (hr.mono (by decide)) (by rfl) (pa_cons (mv 1) (pa_cons pe_int pa_nil)))) (pg_name (i := 5) sc_law.nd rfl (.inl rfl))
(pss_one (mapp (mv 11) (pe_cal Claw_take (hr.mono (by decide)) (by rfl) (pa_cons (mv 1) (pa_cons (pe_callB callLen (by rfl) T.len (by decide +kernel) (pa_cons (mv 10) pa_nil)) pa_nil))))))
(pss_cons (ps_set (i := 12) sc_law.nd rfl (.inl rfl) (pe_cal Claw_pile (hr.mono (by decide)) (by rfl) (pa_cons (mv 1) (pa_cons (mv 8) pa_nil))))
(pss_cons (ps_set (i := 13) sc_law.nd rfl (.inl rfl) (mtupD (pa_cons pe_int (pa_cons (pe_callTy callTupC (by rfl) T.tuple (by decide +kernel) (pa_cons (mlc (own := [("k", 5)]) (g := (gName 5)) (el := (tOp (mIx K) (mVar 9) (tOp (mIx K) (mVar 10) (mVar 5)))) (by rfl) sc_law.nd (mv 11) (blkOk_by (own := [("k", 5)]) (N := ["script", "pool", "many", "parents", "numbers", "k", "cell", "turned", "wide", "things", "sent", "picks", "pile", "mixed", "piled", "way", "other", "path", "built", "before", "table", "due"]) (sc := defScope st_law) (by decide +kernel)) (fun _ _ _ _ _ => (pg_name (i := 5) sc_law.nd rfl (.inl rfl))) (fun _ _ _ _ _ => (pe_ix ixM (mv 9) (pe_ix ixM (mv 10) (mv 5) (fun _ _ => rfl)) (fun _ _ => rfl)))) pa_nil)) pa_nil))))
(pss_cons (ps_set (i := 14) sc_law.nd rfl (.inl rfl) (mtupD (pa_cons pe_int (pa_cons (pe_callTy callTupC (by rfl) T.tuple (by decide +kernel) (pa_cons (pe_op opCatC (mv 9) (pe_ix ixM (mv 12) pe_int (fun _ _ => rfl))) pa_nil)) pa_nil))))
(pss_cons (mforR PassesOwn.never rfl (by rfl) T.range pe_int (pg_name (i := 15) sc_law.nd rfl (.inl rfl))
(pss_cons (ps_set (i := 16) sc_law.nd rfl (.inl rfl) (pe_cal Claw_beside (hr.mono (by decide)) (by rfl) (pa_cons (mv 1) (pa_cons (mv 4) (pa_cons (mv 3) (pa_cons (mv 15) pa_nil))))))
(pss_cons (ps_set (i := 17) sc_law.nd rfl (.inl rfl) (pe_cal Claw_path (hr.mono (by decide)) (by rfl) (pa_cons (mv 1) (pa_cons (mv 16) pa_nil))))
(pss_cons (ps_set (i := 18) sc_law.nd rfl (.inl rfl) mdnew)
(pss_cons (ps_set (i := 19) sc_law.nd rfl (.inl rfl) mdnew)
(pss_cons (mforL PassesOwn.never rfl (pe_lst (pa_cons (mv 18) (pa_cons (mv 19) pa_nil))) (pg_name (i := 20) sc_law.nd rfl (.inl rfl))
(pss_cons (ps_asg (mtupD (pa_cons (pe_callB callLen (by rfl) T.len (by decide +kernel) (pa_cons (mv 10) pa_nil)) (pa_cons (pe_callTy callTupR (by rfl) T.tuple (by decide +kernel) (pa_cons (pe_cal Claw_mix (hr.mono (by decide)) (by rfl) (pa_cons (mv 11) pa_nil)) pa_nil)) pa_nil))) (pg_sub (mv 20) (pe_tup (pa_cons pe_str (pa_cons pe_str pa_nil))) (setT (hu1 hr))))
(pss_cons (ps_asg (mtupD (pa_cons (pe_op opAdd pe_int (mv 8)) (pa_cons (pe_callTy callTupR (by rfl) T.tuple (by decide +kernel) (pa_cons (pe_cal Claw_go (hr.mono (by decide)) (by rfl) (pa_cons (pe_cal Claw_making (hr.mono (by decide)) (by rfl) (pa_cons (mv 6) pa_nil)) (pa_cons (mv 7) (pa_cons (pe_ix ixM (mv 17) pe_int (fun _ _ => rfl)) (pa_cons (mv 10) (pa_cons (mv 8) pa_nil)))))) pa_nil)) pa_nil))) (pg_sub (mv 20) (pe_tup (pa_cons pe_str (pa_cons pe_str pa_nil))) (setT (hu1 hr))))
(pss_one (ps_asg (mtupD (pa_cons (mv 8) (pa_cons (pe_callTy callTupR (by rfl) T.tuple (by decide +kernel) (pa_cons (pe_ix ixM (mv 12) pe_int (fun _ _ => rfl)) pa_nil)) pa_nil))) (pg_sub (mv 20) (pe_tup (pa_cons pe_str (pa_cons pe_str pa_nil))) (setT (hu1 hr))))))))
(pss_cons (ps_set (i := 21) sc_law.nd rfl (.inl rfl) (mtupD (pa_cons pe_int (pa_cons (mtupD (pa_cons (mtupD (pa_cons (pe_callTy callInt (by rfl) T.int (by decide +kernel) (pa_cons (mcmpE (op_eqD hr.units) (mv 6) (mv 16)) pa_nil)) (pa_cons (mtupD pa_nil) pa_nil))) (pa_cons (pe_ix ixM (mv 17) pe_int (fun _ _ => rfl)) (pa_cons (mv 13) (pa_cons (mv 14) pa_nil))))) pa_nil))))
(pss_cons (mif (pt_not (mval (pe_cal Claw_like (hr.mono (by decide)) (by rfl) (pa_cons (pe_cal Crun (hr.mono (by decide)) (by rfl) (pa_cons (mv 18) (pa_cons pe_str (pa_cons pe_str (pa_cons (pe_callTy callTupC (by rfl) T.tuple (by decide +kernel) (pa_cons (pe_op opCatC (mlstC (pa_cons (mv 16) pa_nil)) (mv 9)) pa_nil)) pa_nil))))) (pa_cons (mv 21) pa_nil)))))
(pss_one (ps_ret pe_bl))
pss_nil)
(pss_one (mif (mcmp (opNeT (hu200 hr)) (mv 18) (mv 19))
(pss_one (ps_ret pe_bl))
pss_nil))))))))))
(pss_one (ps_ret pe_bl))))))))))))))))))))
  , ?_⟩
  refine ⟨is, hS, hlen, fun p H1 c1 hp0 hp1 => ⟨hp1, 30, rfl, by decide, fun r0 H2 hr0 c2 hp2 => ⟨hp2, 2 + r0, rfl, by omega, fun ps pl H3 hps hpar c3 hp3 hpl epl => ?_⟩⟩⟩
  have npl : pl ≠ p := pool_ne hp2 hpl
  clear hS hp0 c1 c2 c3 hpl hp1 hp2
  refine fun nl H4 hnl c4 enl => ⟨⟨by omega, by omega⟩, fun i σ H' => ∃ (k : Option V) (ns : List Int), σ = [some (.ref a), some (.ref p), some (.int (2 + (r0 : Int))), some (.ref pl), some (.ref nl), k, none, none, none, none, none, none, none, none, none, none, none, none, none, none, none, none] ∧ H' nl = some (.lst (ns.map V.int)) ∧ ns.length = i ∧ Chg [p] H3 H' ∧ Pool H' p, ?_, ?_, ?_⟩
  · exact ⟨none, [], rfl, enl, rfl, c4.mono (by simp), hp3.chg c4 (by simp)⟩
  · rintro i σ H' hi ⟨k, ns, rfl, e, hl, c, hp⟩
    have nnl : nl ≠ p := pool_ne hp3 hnl
    refine ⟨⟨_, e⟩, hp, 5, rfl, by decide, fun r Ha hr ca hpa => ?_⟩
    have ea := ca.get (by simp [nnl]) e
    have cw : Chg [nl] Ha (upd Ha nl (.lst (ns.map V.int ++ [.int (r : Nat)]))) := Chg.lst (by simp) ea
    refine ⟨_, ea, lt_sz (by rw [List.length_map]; omega), _, ns ++ [(r : Int)], rfl, ?_, by rw [List.length_append, hl]; rfl, (c.trans ca).at2 cw (fun x hx => .inr (by rw [List.mem_singleton.mp hx]; exact hnl)), hpa.chg cw (by simp [Ne.symm nnl])⟩
    rw [List.map_append]
    exact upd_same
  rintro σ H5 ⟨k, ns, rfl, enl5, hl, c5, hp5⟩
  have nnl : nl ≠ p := pool_ne hp3 hnl
  have hnl2 : ns.length = 2 + r0 := by omega
  have epl5 := c5.get (by simp [npl]) epl
  clear c4 enl hnl hp3 c5 epl hl
  refine ⟨ns, ps, enl5, epl5, by omega, by omega, by omega, hpar, fun cv H6 c c6 tc hc => ⟨hp5.chg c6 (by simp), 2, rfl, by decide, fun r1 H7 hr1 c7 hp7 => ⟨hp7, 4, rfl, by decide, fun r2 H8 hr2 c8 hp8 => ?_⟩⟩⟩
  have c58 := (c6.mono (L' := [p]) (by simp)).trans (c7.trans c8)
  have tcv := (tc.keep c7.kt).keep c8.kt
  have enl8 := c58.get (by simp [nnl]) enl5
  have epl8 := c58.get (by simp [npl]) epl5
  clear c6 c7 c8 c58 tc enl5 epl5 hp5 hp7
  generalize (decide ((r1 : Int) = 1)) = tb at *
  refine ⟨[], .nil, le_sz (Nat.le_of_ble_eq_true rfl), fun tl H9 htl c9 ltl => ⟨⟨by omega, by omega⟩, fun i σ H' => ∃ (k : Option V) (th : List Cell), σ = [some (.ref a), some (.ref p), some (.int (2 + (r0 : Int))), some (.ref pl), some (.ref nl), k, some cv, some (.bl tb), some (.int (2 + (r2 : Int))), some (.ref tl), none, none, none, none, none, none, none, none, none, none, none, none] ∧ LC K H' tl th ∧ th.length = i ∧ (∀ x ∈ th, x.size ≤ 2) ∧ Chg [p] H8 H' ∧ Pool H' p, ?_, ?_, ?_⟩⟩
  · exact ⟨_, [], rfl, ltl, rfl, (fun x hx => nomatch hx), c9.mono (by simp), hp8.chg c9 (by simp)⟩
  · rintro i σ H' hi ⟨k, th, rfl, lt, hl, hsz, c', hp⟩
    have ntl : tl ≠ p := pool_ne hp8 htl
    obtain ⟨_, et, _⟩ := id lt
    refine ⟨⟨_, et⟩, _, .nil, le_sz (Nat.le_of_ble_eq_true rfl), fun v1 Ha ca t1 => ⟨_, .cons (.int _) (.cons t1 .nil), le_sz (Nat.le_of_ble_eq_true rfl), fun v2 Hb cb t2 => ⟨_, .cons t2 .nil, le_sz (Nat.le_of_ble_eq_true rfl), fun v3 Hc cc t3 => ⟨_, .cons (.int _) (.cons t3 .nil), le_sz (Nat.le_of_ble_eq_true rfl), fun v4 Hd cd t4 =>
      ⟨_, .nil, le_sz (Nat.le_of_ble_eq_true rfl), fun v5 He ce t5 => ⟨_, .cons (.int _) (.cons t5 .nil), le_sz (Nat.le_of_ble_eq_true rfl), fun v6 Hf cf t6 => ?_⟩⟩⟩⟩⟩⟩
    have tA : Td K Hd v4 (Cell.mk (10 + (i : Int)) [Cell.mk (i : Int) []]).d := by
      simp only [Cell.d, Cell.ds]
      exact t4
    have tB : Td K Hf v6 (Cell.mk (20 + (i : Int)) []).d := by
      simp only [Cell.d, Cell.ds]
      exact t6
    have caf := ca.trans (cb.trans (cc.trans (cd.trans (ce.trans cf))))
    have hpf := hp.chg caf (by simp)
    refine ⟨[Cell.mk (10 + (i : Int)) [Cell.mk (i : Int) []], Cell.mk (20 + (i : Int)) []], .cons ((tA.keep ce.kt).keep cf.kt) (.cons tB .nil), le_sz (Nat.le_of_ble_eq_true rfl), fun lp Hg hlp cg lcg => ⟨hpf.chg cg (by simp), 2, rfl, by decide, fun r Hh hr ch hph => ?_⟩⟩
    have nlp : lp ≠ p := pool_ne hpf hlp
    obtain ⟨ws, ew, tw⟩ := lcg.chg ch (by simp [nlp])
    obtain ⟨cc', hcc, hsz'⟩ : ∃ cc', [Cell.mk (10 + (i : Int)) [Cell.mk (i : Int) []], Cell.mk (20 + (i : Int)) []][r]? = some cc' ∧ cc'.size ≤ 2 := by
      match r, hr with
      | 0, _ => exact ⟨_, rfl, by rw [Cell.size, Cell.sizes, Cell.sizes, Cell.size, Cell.sizes]; decide⟩
      | 1, _ => exact ⟨_, rfl, by rw [Cell.size, Cell.sizes]; decide⟩
    obtain ⟨x, hx, tx⟩ := tw.get (i := r) (by rw [List.getElem?_map, hcc]; rfl)
    have lth := ((lt.chg caf (by simp)).chg cg (by simp)).chg ch (by simp [ntl])
    obtain ⟨us, eu, lu, cw, lcw⟩ := lth.push (L := [tl]) tx (by simp)
    refine ⟨_, .inl (SqL.of ew), x, atI_nat hx, us, eu, lt_sz (by omega), _, th ++ [cc'], rfl, lcw, by rw [List.length_append, hl]; rfl, fun y hy => ?_, ((c'.trans ((caf.trans cg).mono (by simp))).trans ch).at2 cw (fun x hx => .inr (by rw [List.mem_singleton.mp hx]; exact htl)), hph.chg cw (by simp [Ne.symm ntl])⟩
    rcases List.mem_append.mp hy with hy | hy
    · exact hsz y hy
    · rw [List.mem_singleton.mp hy]
      exact hsz'
  rintro σ H10 ⟨k, th, rfl, ltl10, hl, hthz, c10, hp10⟩
  have ntl : tl ≠ p := pool_ne hp8 htl
  have hth : th.length = 2 + r2 := by omega
  have enl10 := c10.get (by simp [nnl]) enl8
  have epl10 := c10.get (by simp [npl]) epl8
  have tcv10 := tcv.keep c10.kt
  clear c9 ltl c10 hl htl hp8 enl8 epl8 tcv
  refine fun sl H11 hsl c11 esl => ⟨hp10.chg c11 (by simp), 6, rfl, by decide, fun r3 H12 hr3 c12 hp12 => ⟨⟨by omega, by omega⟩, fun i σ H' => ∃ (k : Option V) (ss : List Nat), σ = [some (.ref a), some (.ref p), some (.int (2 + (r0 : Int))), some (.ref pl), some (.ref nl), k, some cv, some (.bl tb), some (.int (2 + (r2 : Int))), some (.ref tl), some (.ref sl), none, none, none, none, none, none, none, none, none, none, none] ∧ H' sl = some (.lst (ss.map nv)) ∧ ss.length = i ∧ (∀ x ∈ ss, x < 2 + r2) ∧ Chg [p] H10 H' ∧ Pool H' p, ?_, ?_, ?_⟩⟩
  · exact ⟨_, [], rfl, c12.get (by simp [pool_ne hp10 hsl]) esl, rfl, (fun x hx => nomatch hx), (c11.mono (by simp)).trans c12, hp12⟩
  · rintro i σ H' hi ⟨k, ss, rfl, e, hl, hss, c', hp⟩
    have nsl : sl ≠ p := pool_ne hp10 hsl
    refine ⟨⟨_, e⟩, hp, 2 + r2, rfl, by omega, fun r Ha hr ca hpa => ?_⟩
    have ea := ca.get (by simp [nsl]) e
    have cw : Chg [sl] Ha (upd Ha sl (.lst (ss.map nv ++ [.int (r : Nat)]))) := Chg.lst (by simp) ea
    refine ⟨_, ea, lt_sz (by rw [List.length_map]; omega), _, ss ++ [r], rfl, ?_, by rw [List.length_append, hl]; rfl, fun y hy => ?_, (c'.trans ca).at2 cw (fun x hx => .inr (by rw [List.mem_singleton.mp hx]; exact hsl)), hpa.chg cw (by simp [Ne.symm nsl])⟩
    · rw [List.map_append]
      exact upd_same
    · rcases List.mem_append.mp hy with hy | hy
      · exact hss y hy
      · rw [List.mem_singleton.mp hy]
        exact hr
  rintro σ H13 ⟨k, ss, rfl, esl13, hl, hss, c13, hp13⟩
  have nsl : sl ≠ p := pool_ne hp10 hsl
  have hssl : 0 < ss.length ∧ ss.length ≤ 7 := by omega
  have enl13 := c13.get (by simp [nnl]) enl10
  have epl13 := c13.get (by simp [npl]) epl10
  have tcv13 := tcv10.keep c13.kt
  have ltl13 := ltl10.chg c13 (by simp [ntl])
  clear c11 c12 hp12 esl hsl c13 hl hp10 enl10 epl10 tcv10 ltl10
  refine fun kl H14 hkl c14 ekl => ⟨hp13.chg c14 (by simp), 7, rfl, by decide, fun r4 H15 hr4 c15 hp15 => ⟨⟨by omega, by omega⟩, fun i σ H' => ∃ (k : Option V) (pk : List Nat), σ = [some (.ref a), some (.ref p), some (.int (2 + (r0 : Int))), some (.ref pl), some (.ref nl), k, some cv, some (.bl tb), some (.int (2 + (r2 : Int))), some (.ref tl), some (.ref sl), some (.ref kl), none, none, none, none, none, none, none, none, none, none] ∧ H' kl = some (.lst (pk.map nv)) ∧ pk.length = i ∧ (∀ x ∈ pk, x < ss.length) ∧ Chg [p] H13 H' ∧ Pool H' p, ?_, ?_, ?_⟩⟩
  · exact ⟨_, [], rfl, c15.get (by simp [pool_ne hp13 hkl]) ekl, rfl, (fun x hx => nomatch hx), (c14.mono (by simp)).trans c15, hp15⟩
  · rintro i σ H' hi ⟨k, pk, rfl, e, hl, hpk, c', hp⟩
    have nkl : kl ≠ p := pool_ne hp13 hkl
    have es := c'.get (by simp [nsl]) esl13
    refine ⟨⟨_, e⟩, _, .inl (SqL.of es), hp, _, rfl, by rw [List.length_map]; omega, fun r Ha hr ca hpa => ?_⟩
    rw [List.length_map] at hr
    have ea := ca.get (by simp [nkl]) e
    have cw : Chg [kl] Ha (upd Ha kl (.lst (pk.map nv ++ [.int (r : Nat)]))) := Chg.lst (by simp) ea
    refine ⟨_, ea, lt_sz (by rw [List.length_map]; omega), _, pk ++ [r], rfl, ?_, by rw [List.length_append, hl]; rfl, fun y hy => ?_, (c'.trans ca).at2 cw (fun x hx => .inr (by rw [List.mem_singleton.mp hx]; exact hkl)), hpa.chg cw (by simp [Ne.symm nkl])⟩
    · rw [List.map_append]
      exact upd_same
    · rcases List.mem_append.mp hy with hy | hy
      · exact hpk y hy
      · rw [List.mem_singleton.mp hy]
        exact hr
  rintro σ H15 ⟨k, pk, rfl, ekl15, hl, hpk, c15, hp15⟩
  have nkl : kl ≠ p := pool_ne hp13 hkl
  have hpkl : pk.length ≤ 7 := by omega
  have enl15 := c15.get (by simp [nnl]) enl13
  have epl15 := c15.get (by simp [npl]) epl13
  have esl15 := c15.get (by simp [nsl]) esl13
  have tcv15 := tcv13.keep c15.kt
  have ltl15 := ltl13.chg c15 (by simp [ntl])
  clear c14 ekl hkl c15 hl hp13 enl13 epl13 tcv13 ltl13 esl13
  refine ⟨hp15, 2 + r2, rfl, by omega, fun ql H16 pa pb body kc c16 hp16 hql eql hpa hpb lpa lpb hbl hkl hks npa npb nql hbody => ?_⟩
  have enl16 := c16.get (by simp [nnl]) enl15
  have epl16 := c16.get (by simp [npl]) epl15
  have esl16 := c16.get (by simp [nsl]) esl15
  have ekl16 := c16.get (by simp [nkl]) ekl15
  have tcv16 := tcv15.keep c16.kt
  have ltl16 := ltl15.chg c16 (by simp [ntl])
  clear c16 hp15 enl15 epl15 tcv15 ltl15 esl15 ekl15 hql hpa hpb
  -- what is picked
  obtain ⟨ff, hff⟩ : ∃ ff : Nat → Cell, ff = fun k => th.getD (ss.getD k 0) dd := ⟨_, rfl⟩
  have fget : ∀ k, k < ss.length → th[ss.getD k 0]? = some (ff k) := by
    intro k hk
    have h1 : ss.getD k 0 < 2 + r2 := by
      rw [List.getD_eq_getElem?_getD, List.getElem?_eq_getElem hk]
      exact hss _ (List.getElem_mem hk)
    rw [hff]
    show th[ss.getD k 0]? = some (th.getD (ss.getD k 0) dd)
    rw [List.getD_eq_getElem?_getD (l := th), List.getElem?_eq_getElem (by omega)]
    rfl
  obtain ⟨tvs, etl, ttl⟩ := id ltl16
  refine ⟨_, SqL.of ekl16, fun D hD => ⟨fun i H' => LC K H' D ((pk.take i).map ff) ∧ Chg [] H16 H', ⟨⟨[], upd_same, .nil⟩, Chg.new hD⟩, ?_, ?_, ?_⟩⟩
  · rintro i H' _ ⟨_, c⟩
    exact SqL.of (c.get (by simp) ekl16)
  · rintro i x H' hx ⟨lD, c⟩
    rw [List.getElem?_map] at hx
    obtain ⟨n, hn, rfl⟩ := Option.map_eq_some_iff.mp hx
    have hnl := hpk n (List.mem_of_getElem? hn)
    have g1 := fget n hnl
    have es := c.get (by simp) esl16
    have et := c.get (by simp) etl
    obtain ⟨y, hy, ty⟩ := (ttl.keep c.kt).get (i := ss.getD n 0) (by rw [List.getElem?_map, g1]; rfl)
    have as1 : atI (ss.map nv) ((n : Nat) : Int) = some (.int ((ss.getD n 0 : Nat) : Int)) := atI_nat (by
      rw [List.getElem?_map, List.getD_eq_getElem?_getD, List.getElem?_eq_getElem hnl]
      rfl)
    obtain ⟨ws, ew, lw, cw, lrw⟩ := lD.push (L := [D]) ty (by simp)
    rw [List.length_map, List.length_take] at lw
    refine ⟨rfl, _, .inl (SqL.of es), _, as1, _, .inl (SqL.of et), y, atI_nat hy, ws, ew, lt_sz (by omega), ?_, c.at2 cw (fun x hx => .inr (by rw [List.mem_singleton.mp hx]; exact hD))⟩
    rw [List.take_succ, hn, List.map_append]
    exact lrw
  rintro Hm ⟨lm, cm⟩
  rw [List.length_map, List.take_length] at lm
  obtain ⟨mc, hmc⟩ : ∃ mc, mc = pk.map ff := ⟨_, rfl⟩
  rw [← hmc] at lm
  refine ⟨mc, lm, fun v17 H17 c17 t17 => ⟨_, .cons (.int _) (.cons t17 .nil), le_sz (Nat.le_of_ble_eq_true rfl), fun mxv H18 c18 tmx => ?_⟩⟩
  have tmx' : Td K H18 mxv (Cell.mk 7 mc).d := by
    rw [Cell.d, Cell.ds_map]
    exact tmx
  have ca := cm.trans (c17.trans c18)
  refine ⟨_, .inl (SqL.of (ca.get (by simp) eql)), _, atI1 rfl, th, kc, ltl16.chg ca (by simp), lpb.chg ca (by simp), by omega, fun l19 H19 h19 c19 lr19 => ⟨_, lr19, fun v20 H20 c20 t20 => ⟨_, .cons (.int _) (.cons t20 .nil), le_sz (Nat.le_of_ble_eq_true rfl), fun pxv Hz c21 tpx => ?_⟩⟩⟩
  have tpx' : Td K Hz pxv (Cell.mk 8 (th ++ kc)).d := by
    rw [Cell.d, Cell.ds_map]
    exact tpx
  have cb := c19.trans (c20.trans c21)
  have cz := ca.trans cb
  have tmxz := tmx'.keep cb.kt
  have hpz := hp16.chg cz (by simp)
  have enlz := cz.get (by simp) enl16
  have eplz := cz.get (by simp) epl16
  have eslz := cz.get (by simp) esl16
  have eklz := cz.get (by simp) ekl16
  have eqlz := cz.get (by simp) eql
  have tcvz := tcv16.keep cz.kt
  have ltlz := ltl16.chg cz (by simp)
  have lpaz := lpa.chg cz (by simp)
  clear cm c17 c18 ca c19 c20 c21 cb cz lm lr19 t17 t20 tmx tmx' tpx hp16 enl16 epl16 esl16 ekl16 eql tcv16 ltl16 lpa lpb etl ttl
  have hmcl : mc.length = pk.length := by rw [hmc, List.length_map]
  have hthz2 : ∀ k, (ff k).size ≤ 2 := by
    intro k
    rw [hff]
    show (th.getD (ss.getD k 0) dd).size ≤ 2
    rw [List.getD_eq_getElem?_getD]
    cases q : th[ss.getD k 0]? with
    | none =>
      show dd.size ≤ 2
      rw [dd, Cell.size, Cell.sizes]
      decide
    | some y => exact hthz y (List.mem_of_getElem? q)
  have sz2 : ∀ cs : List Cell, (∀ x ∈ cs, x.size ≤ 2) → Cell.sizes cs ≤ 2 * cs.length := by
    intro cs
    induction cs with
    | nil => intro _; exact Nat.le_refl _
    | cons x xs ih =>
      intro h
      have h1 := h x (by simp)
      have h2 := ih fun y hy => h y (by simp [hy])
      rw [Cell.sizes, List.length_cons]
      omega
  have hthS := sz2 th hthz
  have hmcS := sz2 mc (by
    rw [hmc]
    intro x hx
    obtain ⟨k, _, rfl⟩ := List.mem_map.mp hx
    exact hthz2 k)
  obtain ⟨sc, hsc⟩ : ∃ sc, sc = ss.map fun k => th.getD k dd := ⟨_, rfl⟩
  have hs1 : ss.map (fun k => th[k]?) = sc.map some := by
    rw [hsc, List.map_map]
    refine List.map_congr_left fun k hk => ?_
    have := hss k hk
    show th[k]? = some (th.getD k dd)
    rw [List.getD_eq_getElem?_getD, List.getElem?_eq_getElem (by omega)]
    rfl
  have hs2 : pk.map (fun k => sc[k]?) = mc.map some := by
    rw [hmc, List.map_map]
    refine List.map_congr_left fun k hk => ?_
    have hk' := hpk k hk
    show sc[k]? = some (ff k)
    rw [hsc, List.getElem?_map, List.getElem?_eq_getElem hk', hff]
    show some (th.getD ss[k] dd) = some (th.getD (ss.getD k 0) dd)
    rw [List.getD_eq_getElem?_getD (l := ss), List.getElem?_eq_getElem hk']
    rfl
  refine ⟨⟨by decide, by decide⟩, fun i σ H' => ∃ (k o1 o2 o3 o4 o5 o6 o7 : Option V), σ = [some (.ref a), some (.ref p), some (.int (2 + (r0 : Int))), some (.ref pl), some (.ref nl), k, some cv, some (.bl tb), some (.int (2 + (r2 : Int))), some (.ref tl), some (.ref sl), some (.ref kl), some (.ref ql), some mxv, some pxv, o1, o2, o3, o4, o5, o6, o7] ∧ Pool H' p ∧ Chg [p] Hz H', ?_, ?_, ?_⟩
  · exact ⟨_, none, none, none, none, none, none, none, rfl, hpz, Chg.refl _ _⟩
  · rintro i σ H' hi ⟨k, o1, o2, o3, o4, o5, o6, o7, rfl, hp, c0⟩
    refine ⟨ns, ps, hp, c0.get (by simp [nnl]) enlz, c0.get (by simp [npl]) eplz, by omega, by omega, by omega, hpar, Ne.symm nnl, Ne.symm npl, fun ov Ha co ca hpa tov hco => ⟨hpa, co, tov, by omega, fun qp Hb ap u path c' cb hpb' eqp nqp nap naq lap hplen tu pto => fun b1 Hc hb1 cc eb1 => fun b2 Hd hb2 cd eb2 => ⟨le_sz (Nat.le_of_ble_eq_true rfl), fun lb hlb => ?_⟩⟩⟩
    have cx := c0.trans (ca.trans cb)
    have nb1 : b1 ≠ p := pool_ne hpb' hb1
    have hb20 : Hb b2 = none := cc.none hb2 (by simp)
    have nb2 : b2 ≠ p := pool_ne hpb' hb20
    have n12 : b1 ≠ b2 := ne_of_none eb1 hb2
    have cl : Chg [] Hd (upd Hd lb (.lst [.ref b1, .ref b2])) := Chg.new hlb
    have elb : upd Hd lb (.lst [.ref b1, .ref b2]) lb = some (.lst [.ref b1, .ref b2]) := upd_same
    have eb1d := cl.get (by simp) (cd.get (by simp) eb1)
    have eb2d := cl.get (by simp) eb2
    have nlb1 : lb ≠ b1 := (ne_of_none (cd.get (by simp) eb1) hlb).symm
    have nlb2 : lb ≠ b2 := (ne_of_none eb2 hlb).symm
    have cbe := cc.trans (cd.trans cl)
    generalize upd Hd lb (.lst [.ref b1, .ref b2]) = He at *
    have hpe := hpb'.chg cbe (by simp)
    have cxe := cx.trans (cbe.mono (L' := [p]) (by simp))
    have fresh1 : Hz b1 = none := cx.none hb1 (by simp [nb1])
    have fresh2 : Hz b2 = none := cx.none hb20 (by simp [nb2])
    obtain ⟨e1, he1⟩ : ∃ e, e = entD ss.length (mixRows pk) := ⟨_, rfl⟩
    obtain ⟨e2, he2⟩ : ∃ e, e = entD (1 + (2 + r2)) (goRows c.post tb path ss (2 + r2)) := ⟨_, rfl⟩
    obtain ⟨e3, he3⟩ : ∃ e, e = entD (2 + r2) (body ++ [.make 8 (2 + r2 + kc.length), .back]) := ⟨_, rfl⟩
    refine ⟨_, SqL.of elb, fun j σ H'' => ∃ (k x20 o7 : Option V), σ = [some (.ref a), some (.ref p), some (.int (2 + (r0 : Int))), some (.ref pl), some (.ref nl), k, some cv, some (.bl tb), some (.int (2 + (r2 : Int))), some (.ref tl), some (.ref sl), some (.ref kl), some (.ref ql), some mxv, some pxv, some (.int (i : Int)), some ov, some (.ref qp), some (.ref b1), some (.ref b2), x20, o7] ∧ H'' lb = some (.lst [.ref b1, .ref b2]) ∧ (j = 0 → H'' b1 = some (.dT []) ∧ H'' b2 = some (.dT [])) ∧ (j = 1 → FullD K H'' b1 e1 e2 e3 ∧ H'' b2 = some (.dT [])) ∧ (j = 2 → FullD K H'' b1 e1 e2 e3 ∧ FullD K H'' b2 e1 e2 e3) ∧ Chg [b1, b2] He H'', ?_, ?_, ?_, ?_⟩
    · exact ⟨_, _, _, rfl, elb, fun _ => ⟨eb1d, eb2d⟩, (fun z => nomatch z), (fun z => nomatch z), Chg.refl _ _⟩
    · rintro j σ H'' _ ⟨_, _, _, rfl, e, _⟩
      exact SqL.of e
    · rintro j x σ H'' hx ⟨k, x20, o7, rfl, elb'', f0, f1, f2, c2⟩
      have cur : ∃ d, x = .ref d ∧ (d = b1 ∨ d = b2) ∧ H'' d = some (.dT []) ∧ ∀ H3, Chg [d] H'' H3 → FullD K H3 d e1 e2 e3 → (j + 1 = 0 → H3 b1 = some (.dT []) ∧ H3 b2 = some (.dT [])) ∧ (j + 1 = 1 → FullD K H3 b1 e1 e2 e3 ∧ H3 b2 = some (.dT [])) ∧ (j + 1 = 2 → FullD K H3 b1 e1 e2 e3 ∧ FullD K H3 b2 e1 e2 e3) := by
        match j, hx with
        | 0, hx =>
          cases hx
          obtain ⟨g1, g2⟩ := f0 rfl
          exact ⟨b1, rfl, .inl rfl, g1, fun H3 c3 F3 => ⟨(fun z => nomatch z), (fun _ => ⟨F3, c3.get (by simp [Ne.symm n12]) g2⟩), (fun z => nomatch z)⟩⟩
        | 1, hx =>
          cases hx
          obtain ⟨g1, g2⟩ := f1 rfl
          exact ⟨b2, rfl, .inr rfl, g2, fun H3 c3 F3 => ⟨(fun z => nomatch z), (fun z => nomatch z), (fun _ => ⟨g1.chg c3 (by simp [n12]), F3⟩)⟩⟩
        | n + 2, hx => simp at hx
      obtain ⟨d, rfl, hd12, ed, finD⟩ := cur
      have cH : Chg [p] Hz H'' := cxe.at2 c2 (fun x hx => by
        simp only [List.mem_cons, List.not_mem_nil, or_false] at hx
        rcases hx with rfl | rfl
        · exact .inr fresh1
        · exact .inr fresh2)
      have ndp : d ≠ p := by
        rcases hd12 with rfl | rfl
        · exact nb1
        · exact nb2
      have hd0 : Hb d = none := by
        rcases hd12 with rfl | rfl
        · exact hb1
        · exact hb20
      have ldb : lb ≠ d := by
        rcases hd12 with rfl | rfl
        · exact nlb1
        · exact nlb2
      have cbH : Chg [] Hb H'' := cbe.at2 c2 (fun x hx => by
        simp only [List.mem_cons, List.not_mem_nil, or_false] at hx
        rcases hx with rfl | rfl
        · exact .inr hb1
        · exact .inr hb20)
      have esH := cH.get (by simp [nsl]) eslz
      have ekH := cH.get (by simp [nkl]) eklz
      refine ⟨_, .inl (SqL.of esH), pk, ekH, by omega, fun m1 Hf cf hm1 lm1 => ⟨_, lm1, fun v1 Hg cg t1 => ⟨_, .cons (.int _) (.cons t1 .nil), le_sz (Nat.le_of_ble_eq_true rfl), fun w1 Hh ch tw1 => ⟨le_sz (Nat.le_of_ble_eq_true rfl), fun k1 hk1 => ?_⟩⟩⟩⟩
      have ndq : qp ≠ d := ne_of_none eqp hd0
      have nda : ap ≠ d := by
        obtain ⟨_, e, _⟩ := id lap
        exact ne_of_none e hd0
      have hdz : Hz d = none := by
        rcases hd12 with rfl | rfl
        · exact fresh1
        · exact fresh2
      have one : ∀ x ∈ [d], x ∈ [p] ∨ Hz x = none := fun x hx => .inr (by rw [List.mem_singleton.mp hx]; exact hdz)
      have oneB : ∀ x ∈ [d], x ∈ ([] : List Addr) ∨ Hb x = none := fun x hx => .inr (by rw [List.mem_singleton.mp hx]; exact hd0)
      have tw1' : Td K Hh w1 e1 := by
        rw [he1, entD]
        rw [List.length_map] at tw1
        exact tw1
      have q1 : Chg [] H'' Hh := cf.trans (cg.trans ch)
      have q2 : Chg [] Hh (upd Hh k1 (.tup [.str "Own", .str "mix"])) := Chg.new hk1
      have ed1 := q2.get (by simp) (q1.get (by simp) ed)
      refine ⟨[], kk "mix", ed1, upd_same, lt_sz (Nat.zero_le _), ?_⟩
      have q3 : Chg [d] (upd Hh k1 (.tup [.str "Own", .str "mix"])) (upd (upd Hh k1 (.tup [.str "Own", .str "mix"])) d (.dT (putK [] (kk "mix") w1))) := Chg.dt (by simp) ed1
      have ed2 : upd (upd Hh k1 (.tup [.str "Own", .str "mix"])) d (.dT (putK [] (kk "mix") w1)) d = some (.dT [(kk "mix", w1)]) := by
        rw [put1]
        exact upd_same
      have tw1i := (tw1'.keep q2.kt).keep q3.kt
      have D1 : Chg [d] H'' (upd (upd Hh k1 (.tup [.str "Own", .str "mix"])) d (.dT (putK [] (kk "mix") w1))) := (q1.mono (by simp)).trans ((q2.mono (by simp)).trans q3)
      generalize upd (upd Hh k1 (.tup [.str "Own", .str "mix"])) d (.dT (putK [] (kk "mix") w1)) = Hi at *
      have Z1 := cH.at2 D1 one
      have B1 := cbH.at2 D1 oneB
      -- the second
      refine ⟨c, tcvz.keep Z1.kt, by omega, fun mk1 Hj cj hmk lmk => ⟨_, .inl (SqL.of ((B1.trans cj).get (by simp) eqp)), _, atI0 rfl, c.post, path, ss, 2 + r2, lmk, lap.chg (B1.trans cj) (by simp), (Z1.trans (cj.mono (by simp))).get (by simp [nsl]) eslz, rfl, by omega, by rw [Cell.post_len]; omega, by omega, by omega,
        fun g1 Hk ck hg1 lg1 => ⟨_, lg1, fun v2 Hl cl2 t2 => ⟨_, .cons (.int _) (.cons t2 .nil), le_sz (Nat.le_of_ble_eq_true rfl), fun w2 Hm cm tw2 => ⟨le_sz (Nat.le_of_ble_eq_true rfl), fun k2 hk2 => ?_⟩⟩⟩⟩⟩
      have tw2' : Td K Hm w2 e2 := by
        rw [he2, entD]
        exact tw2
      have q4 : Chg [] Hi Hm := cj.trans (ck.trans (cl2.trans cm))
      have q5 : Chg [] Hm (upd Hm k2 (.tup [.str "Own", .str "go"])) := Chg.new hk2
      have ed3 := q5.get (by simp) (q4.get (by simp) ed2)
      refine ⟨_, kk "go", ed3, upd_same, lt_sz (Nat.le_of_ble_eq_true rfl), ?_⟩
      have q6 : Chg [d] (upd Hm k2 (.tup [.str "Own", .str "go"])) (upd (upd Hm k2 (.tup [.str "Own", .str "go"])) d (.dT (putK [(kk "mix", w1)] (kk "go") w2))) := Chg.dt (by simp) ed3
      have ed4 : upd (upd Hm k2 (.tup [.str "Own", .str "go"])) d (.dT (putK [(kk "mix", w1)] (kk "go") w2)) d = some (.dT [(kk "mix", w1), (kk "go", w2)]) := by
        rw [put2]
        exact upd_same
      have tw1m := ((tw1i.keep q4.kt).keep q5.kt).keep q6.kt
      have tw2m := (tw2'.keep q5.kt).keep q6.kt
      have D2 : Chg [d] H'' (upd (upd Hm k2 (.tup [.str "Own", .str "go"])) d (.dT (putK [(kk "mix", w1)] (kk "go") w2))) := D1.trans ((q4.mono (by simp)).trans ((q5.mono (by simp)).trans q6))
      generalize upd (upd Hm k2 (.tup [.str "Own", .str "go"])) d (.dT (putK [(kk "mix", w1)] (kk "go") w2)) = Hn at *
      have Z2 := cH.at2 D2 one
      have B2 := cbH.at2 D2 oneB
      -- the third
      refine ⟨_, .inl (SqL.of (Z2.get (by simp [nql]) eqlz)), _, atI0 rfl, _, lpaz.chg Z2 (by simp [npa]), fun v3 Ho c3o t3 => ⟨_, .cons (.int _) (.cons t3 .nil), le_sz (Nat.le_of_ble_eq_true rfl), fun w3 Hq cq tw3 => ⟨le_sz (Nat.le_of_ble_eq_true rfl), fun k3 hk3 => ?_⟩⟩⟩
      have tw3' : Td K Hq w3 e3 := by
        rw [he3, entD]
        exact tw3
      have q7 : Chg [] Hn Hq := c3o.trans cq
      have q8 : Chg [] Hq (upd Hq k3 (.tup [.str "Own", .str "pile"])) := Chg.new hk3
      have ed5 := q8.get (by simp) (q7.get (by simp) ed4)
      refine ⟨_, kk "pile", ed5, upd_same, lt_sz (Nat.le_of_ble_eq_true rfl), ?_⟩
      have q9 : Chg [d] (upd Hq k3 (.tup [.str "Own", .str "pile"])) (upd (upd Hq k3 (.tup [.str "Own", .str "pile"])) d (.dT (putK [(kk "mix", w1), (kk "go", w2)] (kk "pile") w3))) := Chg.dt (by simp) ed5
      have ed6 : upd (upd Hq k3 (.tup [.str "Own", .str "pile"])) d (.dT (putK [(kk "mix", w1), (kk "go", w2)] (kk "pile") w3)) d = some (.dT [(kk "mix", w1), (kk "go", w2), (kk "pile", w3)]) := by
        rw [put3]
        exact upd_same
      have tw1q := ((tw1m.keep q7.kt).keep q8.kt).keep q9.kt
      have tw2q := ((tw2m.keep q7.kt).keep q8.kt).keep q9.kt
      have tw3q := (tw3'.keep q8.kt).keep q9.kt
      have D3 : Chg [d] H'' (upd (upd Hq k3 (.tup [.str "Own", .str "pile"])) d (.dT (putK [(kk "mix", w1), (kk "go", w2)] (kk "pile") w3))) := D2.trans ((q7.mono (by simp)).trans ((q8.mono (by simp)).trans q9))
      generalize upd (upd Hq k3 (.tup [.str "Own", .str "pile"])) d (.dT (putK [(kk "mix", w1), (kk "go", w2)] (kk "pile") w3)) = Hr at *
      obtain ⟨g0, g1', g2⟩ := finD Hr D3 ⟨w1, w2, w3, ed6, tw1q, tw2q, tw3q⟩
      exact ⟨_, _, _, rfl, D3.get (by simp [ldb]) elb'', g0, g1', g2, c2.trans (D3.mono (by simpa using hd12))⟩
    · rintro σ HF ⟨k, x20, o7, rfl, elbF, f0, f1, f2, c2⟩
      obtain ⟨F1, F2⟩ := f2 rfl
      have cH : Chg [p] Hz HF := cxe.at2 c2 (fun x hx => by
        simp only [List.mem_cons, List.not_mem_nil, or_false] at hx
        rcases hx with rfl | rfl
        · exact .inr fresh1
        · exact .inr fresh2)
      have cbH : Chg [] Hb HF := cbe.at2 c2 (fun x hx => by
        simp only [List.mem_cons, List.not_mem_nil, or_false] at hx
        rcases hx with rfl | rfl
        · exact .inr hb1
        · exact .inr hb20)
      have tcvF := tcvz.keep cH.kt
      have tovF := (tov.keep cb.kt).keep cbH.kt
      have tuF := tu.keep cbH.kt
      have hpF := hpb'.chg cbH (by simp)
      refine ⟨c.d, co.d, tcvF.dp, tovF.dp, c.shaped (by omega), co.shaped (by omega), _, .nil, le_sz (Nat.le_of_ble_eq_true rfl), fun v1 Hg cg t1 => ⟨_, .cons (.int _) (.cons t1 .nil), le_sz (Nat.le_of_ble_eq_true rfl), fun vA Hh ch tA => ?_⟩⟩
      have tA' : Td K Hh vA (yn (PyData.eqv c.d co.d)).d := by
        rw [yn, Cell.d, Cell.ds]
        exact tA
      have cgh := cg.trans ch
      refine ⟨_, .inl (SqL.of ((cbH.trans cgh).get (by simp) eqp)), _, atI1 rfl, _, .cons tA' (.cons (tuF.keep cgh.kt) (.cons ((tmxz.keep cH.kt).keep cgh.kt) (.cons ((tpx'.keep cH.kt).keep cgh.kt) .nil))), le_sz (Nat.le_of_ble_eq_true rfl), fun vB Hi ci tB => ⟨_, .cons (.int _) (.cons tB .nil), le_sz (Nat.le_of_ble_eq_true rfl), fun dv Hj cj td => ?_⟩⟩
      obtain ⟨res, hres⟩ : ∃ res, res = Cell.mk 5 [yn (PyData.eqv c.d co.d), c', Cell.mk 7 mc, Cell.mk 8 (th ++ kc)] := ⟨_, rfl⟩
      have td' : Td K Hj dv res.d := by
        rw [hres, Cell.d, Cell.ds_map]
        exact td
      have cFj := cgh.trans (ci.trans cj)
      refine ⟨[co], .cons (tovF.keep cFj.kt) .nil, le_sz (Nat.le_of_ble_eq_true rfl), fun l1 Hk hl1 ck lk => ⟨[co], th, lk, ((ltlz.chg cH (by simp [ntl])).chg cFj (by simp)).chg ck (by simp), by rw [hth]; simp only [List.length_cons, List.length_nil]; omega, fun l2 Hl hl2 cl ll => ⟨_, ll, fun tv Hm cm ttv => ?_⟩⟩⟩
      obtain ⟨ca', cxs, rfl, tca, tcxs⟩ := ttv.tuple
      have cFm := cFj.trans (ck.trans (cl.trans cm))
      have okg : ∀ r ∈ goRows c.post tb path ss (2 + r2), r.okc = true := okc_mem (go_okc _ _ _ _ _ c.post_okc (path_okc pto))
      have okm : ∀ r ∈ mixRows pk, r.okc = true := okc_mem (mix_okc pk)
      have okp : ∀ r ∈ body ++ [Row.make 8 (2 + r2 + kc.length), Row.back], r.okc = true := okc_mem (pile_okc _ _ (exs_okc (hbody (List.replicate (2 + r2) dd) (List.length_replicate ..))))
      have bd1 : Bd ss.length (1 + (2 + r2)) (2 + r2) (mixRows pk) (goRows c.post tb path ss (2 + r2)) (body ++ [Row.make 8 (2 + r2 + kc.length), Row.back]) "Own" "mix" = some (ss.length, mixRows pk) := by
        unfold Bd
        rw [if_pos rfl, if_pos rfl]
      have bd2 : Bd ss.length (1 + (2 + r2)) (2 + r2) (mixRows pk) (goRows c.post tb path ss (2 + r2)) (body ++ [Row.make 8 (2 + r2 + kc.length), Row.back]) "Own" "go" = some (1 + (2 + r2), goRows c.post tb path ss (2 + r2)) := by
        unfold Bd
        rw [if_pos rfl, if_neg (by decide), if_pos rfl]
      have bd3 : Bd ss.length (1 + (2 + r2)) (2 + r2) (mixRows pk) (goRows c.post tb path ss (2 + r2)) (body ++ [Row.make 8 (2 + r2 + kc.length), Row.back]) "Own" "pile" = some (2 + r2, body ++ [Row.make 8 (2 + r2 + kc.length), Row.back]) := by
        unfold Bd
        rw [if_pos rfl, if_neg (by decide), if_neg (by decide), if_pos rfl]
      obtain ⟨n, hn, go⟩ := plain_go _ c co c' th tb path ss pk (2 + r2) body kc sc mc bd1 bd3 hth (by omega) hco pto hs1 hs2 hbody (by omega) (by omega) (by omega) (by omega) (by omega) (by omega) (by omega)
      rw [← hres] at go
      rw [he1, he2, he3] at F1 F2
      have hcl : (co :: th).length = 1 + (2 + r2) := by rw [List.length_cons, hth, Nat.add_comm]
      refine ⟨_, _, co :: th, cxs, res, n, (F1.chg cFm (by simp)).bt, tca, tcxs, by rw [hcl]; exact bd2, by rw [hcl]; omega, go, hn, fun rv Hn' cn trv => ⟨res, trv, td'.keep ((ck.trans (cl.trans cm)).trans cn).kt, ?_, fun Ho co' => ⟨(fun h => nomatch h), fun _ => ?_⟩⟩⟩
      · have z1 : (yn (PyData.eqv c.d co.d)).size = 1 := by rw [yn, Cell.size, Cell.sizes]
        have z2 := pto.size
        have z3 : (Cell.mk 7 mc).size = Cell.sizes mc + 1 := by rw [Cell.size]
        have z4 : (Cell.mk 8 (th ++ kc)).size = Cell.sizes th + Cell.sizes kc + 1 := by rw [Cell.size, Cell.sizes_app]
        rw [hres, Cell.size, Cell.sizes, Cell.sizes, Cell.sizes, Cell.sizes, Cell.sizes, z1, z3, z4]
        omega
      · have cFo := cFm.trans (cn.trans co')
        obtain ⟨ks, ls, x1, x2, x3, x4⟩ := FullD.same okm okg okp (F1.chg cFo (by simp)) (F2.chg cFo (by simp))
        exact ⟨ks, ls, x1, x2, x3, x4, (fun h => nomatch h), fun _ => ⟨_, _, _, _, _, _, _, _, rfl, hpF.chg cFo (by simp), cH.trans (cFo.mono (by simp))⟩⟩
  · rintro σ H' ⟨k, o1, o2, o3, o4, o5, o6, o7, rfl, hp, c0⟩
    exact q H'
end
end T5
namespace T5
open PySem PySem.Spec PyProof.Rows L2 T3
/-- a def of the text as it stands behind the top -/
def Df (K : PySem.W.Frag) (x : Str) (st : Stmt) : Prop := ∃ (f : Addr) (oc : Value) (od : Option Addr) (kV doc pm : Value) (an : Option Addr) (cdv ct : Value) (sl : Array (Option Value)),
  PySem.W.nsIn K mainGlobals x = some (some (.ref f)) ∧ K.lookup f = some ⟨oc, od, .func (PySem.W.fnOf x x (defArgs st) (defBody st) (defScope st) .none kV doc pm an cdv ct), sl⟩ ∧
  PySem.W.codeIn K cdv x = true ∧ PySem.W.keepIn K (.ref f) = true
theorem Df.fun {K : PySem.W.Frag} {h : Heap} {mg : Str → Option Value} {x : Str} {st : Stmt} (d : Df K x st) (X : K.In h) (G : h.Ns mainGlobals mg) :
    ∃ (f : Addr) (fd : FuncData), mg x = some (.ref f) ∧ Fun K x x st f fd := by
  obtain ⟨f, oc, od, kV, doc, pm, an, cdv, ct, sl, a, l, c, k⟩ := d
  exact ⟨f, _, PySem.W.mg_of X G a, fun_mk (st := st) l c k⟩
theorem Df.mk {K : PySem.W.Frag} {x : Str} {st : Stmt} {f : Addr} {oc : Value} {od : Option Addr} {kV doc pm : Value} {an : Option Addr} {cdv ct : Value} {sl : Array (Option Value)} (a : PySem.W.nsIn K mainGlobals x = some (some (.ref f)))
    (l : K.lookup f = some ⟨oc, od, .func (PySem.W.fnOf x x (defArgs st) (defBody st) (defScope st) .none kV doc pm an cdv ct), sl⟩) (c : PySem.W.codeIn K cdv x = true) (k : PySem.W.keepIn K (.ref f) = true) : Df K x st :=
  ⟨f, oc, od, kV, doc, pm, an, cdv, ct, sl, a, l, c, k⟩
def Bnd (x : Str) (st : Stmt) (ps : List Str) : Prop := ∀ (kV doc pm : Value) (an : Option Addr) (cdv ct : Value) (us : List Value), us.length = ps.length →
  bindArgs (PySem.W.fnOf x x (defArgs st) (defBody st) (defScope st) .none kV doc pm an cdv ct) ⟨us, []⟩ = pure (ps.zip us)
theorem cal_of {P : Program} {w : World} {K : PySem.W.Frag} {h : Heap} {mg : Str → Option Value} {base : Heap} {x : Str} {st : Stmt} {k : Nat} {ps : List Str} {sp : Sp} (d : Df K x st) (X : K.In h) (G : h.Ns mainGlobals mg) (b : Bnd x st ps)
    (F : ∀ f fd, Fun K x x st f fd → FnOk P w K mg base CX0 k f fd ps sp) : Cal P w K mg base x k ps sp := by
  obtain ⟨f, fd, g, F1⟩ := d.fun X G
  exact ⟨f, fd, F f fd F1, g, F1.kp, F1.binds b⟩
/-- a whole number, a cell without parts that the top has written -/
def Ic (K : PySem.W.Frag) (x : Str) (i : Int) : Prop := ∃ t, PySem.W.nsIn K mainGlobals x = some (some (.int i t))
theorem Ic.mk {K : PySem.W.Frag} {x : Str} {i : Int} {t : Tok} (a : PySem.W.nsIn K mainGlobals x = some (some (.int i t))) : Ic K x i := ⟨t, a⟩
theorem Ic.gi {K : PySem.W.Frag} {h : Heap} {mg : Str → Option Value} {x : Str} {i : Int} (c : Ic K x i) (X : K.In h) (G : h.Ns mainGlobals mg) : GI mg x i := by
  obtain ⟨t, a⟩ := c
  exact ⟨t, PySem.W.mg_of X G a⟩
def Cc (K : PySem.W.Frag) (x : Str) (i : Int) : Prop := ∃ (p q : Addr) (o o2 : Obj) (t : Tok) (n n2 : Nat), PySem.W.nsIn K mainGlobals x = some (some (.ref p)) ∧ K.lookup p = some o ∧ o.cls = .type "tuple" ∧ o.data = .seq #[.int i t, .ref q] n ∧
  K.lookup q = some o2 ∧ o2.cls = .type "tuple" ∧ o2.data = .seq #[] n2
theorem Cc.mk {K : PySem.W.Frag} {x : Str} {i : Int} {p q : Addr} {oc oc2 : Value} {od od2 : Option Addr} {its its2 : Array Value} {n n2 : Nat} {sl sl2 : Array (Option Value)} {t : Tok} (a : PySem.W.nsIn K mainGlobals x = some (some (.ref p)))
    (l : K.lookup p = some ⟨oc, od, .seq its n, sl⟩) (c : oc = .type "tuple") (e : its = #[.int i t, .ref q]) (l2 : K.lookup q = some ⟨oc2, od2, .seq its2 n2, sl2⟩) (c2 : oc2 = .type "tuple") (e2 : its2 = #[]) : Cc K x i := by
  subst e e2
  exact ⟨p, q, _, _, t, n, n2, a, l, c, rfl, l2, c2, rfl⟩
theorem Cc.gd {K : PySem.W.Frag} {h : Heap} {mg : Str → Option Value} {x : Str} {i : Int} (c : Cc K x i) (X : K.In h) (G : h.Ns mainGlobals mg) : GD K mg x (.tuple [.int i, .tuple []]) := by
  obtain ⟨p, q, o, o2, t, n, n2, a, l, c, e, l2, c2, e2⟩ := c
  refine ⟨p, PySem.W.mg_of X G a, fun H => .tup (xs := [.int i, .ref q]) (.inr fun H' => .inr ⟨o, _, n, l, c, e, ?_, ?_⟩) (.cons (.int i) (.cons (.tup (xs := []) (.inr fun H' => .inr ⟨o2, _, n2, l2, c2, e2, ?_, .nil⟩) .nil) .nil))⟩
  · exact le_sz (Nat.le_of_ble_eq_true rfl)
  · exact .cons ⟨t, rfl⟩ (.cons rfl .nil)
  · exact Nat.zero_le _
theorem bnd1 {x y : Str} {st : Stmt} (h : ∀ (kV doc pm : Value) (an : Option Addr) (cdv ct u : Value), bindArgs (PySem.W.fnOf x x (defArgs st) (defBody st) (defScope st) .none kV doc pm an cdv ct) ⟨[u], []⟩ = pure [(y, u)]) : Bnd x st [y] :=
  fun kV doc pm an cdv ct us hl => match us, hl with
    | [u], _ => h kV doc pm an cdv ct u
theorem bnd2 {x y z : Str} {st : Stmt} (h : ∀ (kV doc pm : Value) (an : Option Addr) (cdv ct u v : Value), bindArgs (PySem.W.fnOf x x (defArgs st) (defBody st) (defScope st) .none kV doc pm an cdv ct) ⟨[u, v], []⟩ = pure [(y, u), (z, v)]) : Bnd x st [y, z] :=
  fun kV doc pm an cdv ct us hl => match us, hl with
    | [u, v], _ => h kV doc pm an cdv ct u v
theorem bnd3 {x y z y' : Str} {st : Stmt} (h : ∀ (kV doc pm : Value) (an : Option Addr) (cdv ct u v v' : Value), bindArgs (PySem.W.fnOf x x (defArgs st) (defBody st) (defScope st) .none kV doc pm an cdv ct) ⟨[u, v, v'], []⟩ = pure [(y, u), (z, v), (y', v')]) : Bnd x st [y, z, y'] :=
  fun kV doc pm an cdv ct us hl => match us, hl with
    | [u, v, v'], _ => h kV doc pm an cdv ct u v v'
theorem bnd4 {x y z y' z' : Str} {st : Stmt} (h : ∀ (kV doc pm : Value) (an : Option Addr) (cdv ct u v v' u' : Value), bindArgs (PySem.W.fnOf x x (defArgs st) (defBody st) (defScope st) .none kV doc pm an cdv ct) ⟨[u, v, v', u'], []⟩ = pure [(y, u), (z, v), (y', v'), (z', u')]) : Bnd x st [y, z, y', z'] :=
  fun kV doc pm an cdv ct us hl => match us, hl with
    | [u, v, v', u'], _ => h kV doc pm an cdv ct u v v' u'
theorem bnd5 {x y z y' z' x' : Str} {st : Stmt} (h : ∀ (kV doc pm : Value) (an : Option Addr) (cdv ct u v v' u' w' : Value), bindArgs (PySem.W.fnOf x x (defArgs st) (defBody st) (defScope st) .none kV doc pm an cdv ct) ⟨[u, v, v', u', w'], []⟩ = pure [(y, u), (z, v), (y', v'), (z', u'), (x', w')]) : Bnd x st [y, z, y', z', x'] :=
  fun kV doc pm an cdv ct us hl => match us, hl with
    | [u, v, v', u', w'], _ => h kV doc pm an cdv ct u v v' u' w'
structure Left (K : PySem.W.Frag) : Prop where
  d_popped : Df K "popped" st_popped
  d_rows_for : Df K "rows_for" st_rows_for
  d_is_great : Df K "is_great" st_is_great
  d_do_row : Df K "do_row" st_do_row
  d_run : Df K "run" st_run
  d_law_numbers : Df K "_law_numbers" st_law_numbers
  d_law_take : Df K "_law_take" st_law_take
  d_law_like : Df K "_law_like" st_law_like
  d_law_parents : Df K "_law_parents" st_law_parents
  d_law_cell : Df K "_law_cell" st_law_cell
  d_law_beside : Df K "_law_beside" st_law_beside
  d_law_making : Df K "_law_making" st_law_making
  d_law_path : Df K "_law_path" st_law_path
  d_law_pile : Df K "_law_pile" st_law_pile
  d_law_go : Df K "_law_go" st_law_go
  d_law_mix : Df K "_law_mix" st_law_mix
  d_law : Df K "law" st_law
  f_len : PySem.W.nsIn K mainGlobals "len" = some none
  f_int : PySem.W.nsIn K mainGlobals "int" = some none
  f_bool : PySem.W.nsIn K mainGlobals "bool" = some none
  f_max : PySem.W.nsIn K mainGlobals "max" = some none
  f_list : PySem.W.nsIn K mainGlobals "list" = some none
  f_zip : PySem.W.nsIn K mainGlobals "zip" = some none
  f_tuple : PySem.W.nsIn K mainGlobals "tuple" = some none
  f_range : PySem.W.nsIn K mainGlobals "range" = some none
  f_isinstance : PySem.W.nsIn K mainGlobals "isinstance" = some none
  i_MOST_CALLS : Ic K "MOST_CALLS" 100000
  i_MOST_ROWS : Ic K "MOST_ROWS" 1000000
  i_MOST_CELLS : Ic K "MOST_CELLS" 256
  c_NO : Cc K "NO" 0
  c_YES : Cc K "YES" 1
theorem all_mk {l : PySem.W.OpenLaw} {w : World} {K : PySem.W.Frag} {h : Heap} {mg : Str → Option Value} {fa : Addr} (X : K.In h) (G : h.Ns mainGlobals mg) (hfa : mg "law" = some (.ref fa)) (Z : Left K) :
    ∃ fd : FuncData, (∀ (s : Shared) (v : Value), BindsTo s fd ⟨[v], []⟩ [("script", v)]) ∧ ∀ base : Heap, K.In base → base.Ns mainGlobals mg → FnG l.prog w K mg base CX0 4 fa fd ["script"] (sp_law K) := by
  have T : Top K mg := ⟨PySem.W.mg_none_of X G Z.f_len, PySem.W.mg_none_of X G Z.f_int, PySem.W.mg_none_of X G Z.f_bool, PySem.W.mg_none_of X G Z.f_max, PySem.W.mg_none_of X G Z.f_list, PySem.W.mg_none_of X G Z.f_zip, PySem.W.mg_none_of X G Z.f_tuple, PySem.W.mg_none_of X G Z.f_range, PySem.W.mg_none_of X G Z.f_isinstance, Z.i_MOST_CALLS.gi X G, Z.i_MOST_ROWS.gi X G, Z.i_MOST_CELLS.gi X G, Z.c_NO.gd X G, Z.c_YES.gd X G⟩
  obtain ⟨f, oc, od, kV, doc, pm, an, cdv, ct, sl, a, lk, c, k⟩ := Z.d_law
  have e := hfa.symm.trans (PySem.W.mg_of X G a)
  cases e
  refine ⟨PySem.W.fnOf "law" "law" (defArgs st_law) (defBody st_law) (defScope st_law) .none kV doc pm an cdv ct, fun s v => .of_eq rfl, fun base _ _ => ?_⟩
  have Cpopped := cal_of (P := l.prog) (w := w) (base := base) Z.d_popped X G (bnd2 fun _ _ _ _ _ _ _ _ => rfl) fun f fd F => ok_popped F T
  have Crows_for := cal_of (P := l.prog) (w := w) (base := base) Z.d_rows_for X G (bnd3 fun _ _ _ _ _ _ _ _ _ => rfl) fun f fd F => ok_rows_for F T
  have Cis_great := cal_of (P := l.prog) (w := w) (base := base) Z.d_is_great X G (bnd1 fun _ _ _ _ _ _ _ => rfl) fun f fd F => ok_is_great F T
  have Cdo_row := cal_of (P := l.prog) (w := w) (base := base) Z.d_do_row X G (bnd3 fun _ _ _ _ _ _ _ _ _ => rfl) fun f fd F => ok_do_row F T Cpopped Cis_great
  have Crun := cal_of (P := l.prog) (w := w) (base := base) Z.d_run X G (bnd4 fun _ _ _ _ _ _ _ _ _ _ => rfl) fun f fd F => ok_run F T Cpopped Crows_for Cdo_row
  have Claw_numbers := cal_of (P := l.prog) (w := w) (base := base) Z.d_law_numbers X G (bnd1 fun _ _ _ _ _ _ _ => rfl) fun f fd F => ok_law_numbers F T
  have Claw_take := cal_of (P := l.prog) (w := w) (base := base) Z.d_law_take X G (bnd2 fun _ _ _ _ _ _ _ _ => rfl) fun f fd F => ok_law_take F T
  have Claw_like := cal_of (P := l.prog) (w := w) (base := base) Z.d_law_like X G (bnd2 fun _ _ _ _ _ _ _ _ => rfl) fun f fd F => ok_law_like F T
  have Claw_parents := cal_of (P := l.prog) (w := w) (base := base) Z.d_law_parents X G (bnd2 fun _ _ _ _ _ _ _ _ => rfl) fun f fd F => ok_law_parents F T Claw_take
  have Claw_cell := cal_of (P := l.prog) (w := w) (base := base) Z.d_law_cell X G (bnd2 fun _ _ _ _ _ _ _ _ => rfl) fun f fd F => ok_law_cell F T
  have Claw_beside := cal_of (P := l.prog) (w := w) (base := base) Z.d_law_beside X G (bnd4 fun _ _ _ _ _ _ _ _ _ _ => rfl) fun f fd F => ok_law_beside F T Claw_take Claw_cell
  have Claw_making := cal_of (P := l.prog) (w := w) (base := base) Z.d_law_making X G (bnd1 fun _ _ _ _ _ _ _ => rfl) fun f fd F => ok_law_making F T
  have Claw_path := cal_of (P := l.prog) (w := w) (base := base) Z.d_law_path X G (bnd2 fun _ _ _ _ _ _ _ _ => rfl) fun f fd F => ok_law_path F T Claw_take
  have Claw_pile := cal_of (P := l.prog) (w := w) (base := base) Z.d_law_pile X G (bnd2 fun _ _ _ _ _ _ _ _ => rfl) fun f fd F => ok_law_pile F T Claw_take
  have Claw_go := cal_of (P := l.prog) (w := w) (base := base) Z.d_law_go X G (bnd5 fun _ _ _ _ _ _ _ _ _ _ _ => rfl) fun f fd F => ok_law_go F T
  have Claw_mix := cal_of (P := l.prog) (w := w) (base := base) Z.d_law_mix X G (bnd1 fun _ _ _ _ _ _ _ => rfl) fun f fd F => ok_law_mix F T
  exact FnG.of (ok_law (fun_mk (st := st_law) lk c k) T Claw_numbers Claw_take Claw_like Claw_parents Claw_cell Claw_beside Claw_making Claw_path Claw_pile Claw_go Claw_mix Crun)
end T5
open PySem PySem.W PyProof.Rows
set_option maxHeartbeats 0 in
theorem PySem.Challenge.cw_asiffresh_k89_cells_compared_and_apart_holds : PySem.Challenge.rw_asiffresh_k89_cells_compared_and_apart.Holds := by
  w_on; o_law; k_head; (case hw => w_witness2)
  k_fill
  refine T3.walkG (l := PySem.Challenge.rw_asiffresh_k89_cells_compared_and_apart) (n := 63) (k := 4) (x := "script") (CX := fun _ => L2.CX0) (sp := fun w => T5.sp_law _) rfl (by decide) rfl ⟨rfl, by decide, by decide⟩ (fun w h Y => PySem.W.kIn_of Y) ?F (fun _ _ a ns hl _ hS => ⟨ns, hS, hl, fun _ => rfl⟩) (fun _ _ _ _ _ h => h)
  case F =>
    intro w mg fa h KX G XP hmg
    refine T5.all_mk KX G hmg ?z
    case z =>
      clear hmg
      refine' ⟨?d1, ?d2, ?d3, ?d4, ?d5, ?d6, ?d7, ?d8, ?d9, ?d10, ?d11, ?d12, ?d13, ?d14, ?d15, ?d16, ?d17, ?f1, ?f2, ?f3, ?f4, ?f5, ?f6, ?f7, ?f8, ?f9, ?i1, ?i2, ?i3, ?y1, ?y2⟩
      (case d1 => (refine' T5.Df.mk ?a ?l ?c ?k; (case a => k_is); (case l => k_is); (case c => k_is); (case k => k_is)))
      (case d2 => (refine' T5.Df.mk ?a ?l ?c ?k; (case a => k_is); (case l => k_is); (case c => k_is); (case k => k_is)))
      (case d3 => (refine' T5.Df.mk ?a ?l ?c ?k; (case a => k_is); (case l => k_is); (case c => k_is); (case k => k_is)))
      (case d4 => (refine' T5.Df.mk ?a ?l ?c ?k; (case a => k_is); (case l => k_is); (case c => k_is); (case k => k_is)))
      (case d5 => (refine' T5.Df.mk ?a ?l ?c ?k; (case a => k_is); (case l => k_is); (case c => k_is); (case k => k_is)))
      (case d6 => (refine' T5.Df.mk ?a ?l ?c ?k; (case a => k_is); (case l => k_is); (case c => k_is); (case k => k_is)))
      (case d7 => (refine' T5.Df.mk ?a ?l ?c ?k; (case a => k_is); (case l => k_is); (case c => k_is); (case k => k_is)))
      (case d8 => (refine' T5.Df.mk ?a ?l ?c ?k; (case a => k_is); (case l => k_is); (case c => k_is); (case k => k_is)))
      (case d9 => (refine' T5.Df.mk ?a ?l ?c ?k; (case a => k_is); (case l => k_is); (case c => k_is); (case k => k_is)))
      (case d10 => (refine' T5.Df.mk ?a ?l ?c ?k; (case a => k_is); (case l => k_is); (case c => k_is); (case k => k_is)))
      (case d11 => (refine' T5.Df.mk ?a ?l ?c ?k; (case a => k_is); (case l => k_is); (case c => k_is); (case k => k_is)))
      (case d12 => (refine' T5.Df.mk ?a ?l ?c ?k; (case a => k_is); (case l => k_is); (case c => k_is); (case k => k_is)))
      (case d13 => (refine' T5.Df.mk ?a ?l ?c ?k; (case a => k_is); (case l => k_is); (case c => k_is); (case k => k_is)))
      (case d14 => (refine' T5.Df.mk ?a ?l ?c ?k; (case a => k_is); (case l => k_is); (case c => k_is); (case k => k_is)))
      (case d15 => (refine' T5.Df.mk ?a ?l ?c ?k; (case a => k_is); (case l => k_is); (case c => k_is); (case k => k_is)))
      (case d16 => (refine' T5.Df.mk ?a ?l ?c ?k; (case a => k_is); (case l => k_is); (case c => k_is); (case k => k_is)))
      (case d17 => (refine' T5.Df.mk ?a ?l ?c ?k; (case a => k_is); (case l => k_is); (case c => k_is); (case k => k_is)))
      (case f1 => k_is)
      (case f2 => k_is)
      (case f3 => k_is)
      (case f4 => k_is)
      (case f5 => k_is)
      (case f6 => k_is)
      (case f7 => k_is)
      (case f8 => k_is)
      (case f9 => k_is)
      (case i1 => (refine' T5.Ic.mk ?a; (case a => k_is)))
      (case i2 => (refine' T5.Ic.mk ?a; (case a => k_is)))
      (case i3 => (refine' T5.Ic.mk ?a; (case a => k_is)))
      (case y1 => (refine' T5.Cc.mk ?a ?l ?c ?e ?l2 ?c2 ?e2; (case a => k_is); (case l => k_is); (case c => rfl); (case e => rfl); (case l2 => k_is); (case c2 => rfl); (case e2 => rfl)))
      (case y2 => (refine' T5.Cc.mk ?a ?l ?c ?e ?l2 ?c2 ?e2; (case a => k_is); (case l => k_is); (case c => rfl); (case e => rfl); (case l2 => k_is); (case c2 => rfl); (case e2 => rfl)))
#print axioms PySem.Challenge.cw_asiffresh_k89_cells_compared_and_apart_holds
