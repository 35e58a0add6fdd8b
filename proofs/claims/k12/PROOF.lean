import PyProof.Rows.All
import Wide.All
import OpenK.AllK
import Wide.FinOn
import HandS.ForMost
import HandS.IsInst
import HandS.Wide
import HandS.Style
import HandS.TupLe
import HandS.TupAny
import HandS.Property
import HandS.Evl
import HandS.Defaults
import HandS.FStr
import HandS.ClsMeth
import HandS.MakeKw
import HandS.More
import HandS.OwnEq
import HandS.Walk
import PySem.Challenge.RW_surepipes_k12_amounts_compared
set_option Elab.async false
set_option linter.all false
set_option maxRecDepth 100000
set_option maxHeartbeats 4000000
/-! Own rules over the hand layer: defs that run while no repr is running, repr of data, comparisons of own instances. -/
namespace SP
open PySem PySem.Spec PyProof.Rows L2

/-! ### a def's promise where no repr is running -/
structure FnG (P : Program) (w : World) (K : PySem.W.Frag) (mg : Str → Option Value) (base : Heap) (CX : CXT) (k : Nat) (f : Addr) (fd : FuncData) (ps : List Str) (sp : Sp) : Prop where
  glen : ∀ vs H Q E, sp vs H Q E → vs.length = ps.length
  grun : ∀ (A : Around) (out : List Env) (s : Shared) (H : Hp) (ar : Args) (us : List Value) (vs : List V) (Q : VK) (E : XK), A.guards = some [] → Room k A → Env0 P w K mg base A out s H →
    BindsTo s fd ar (ps.zip us) → Vals vs us → sp vs H Q E → codeAny (model P w) A (.call (.ref f) ar) (CR CX out P w H s Q E) s
theorem FnG.of {P : Program} {w : World} {K : PySem.W.Frag} {mg : Str → Option Value} {base : Heap} {CX : CXT} {k : Nat} {f : Addr} {fd : FuncData} {ps : List Str} {sp : Sp} (F : FnOk P w K mg base CX k f fd ps sp) :
    FnG P w K mg base CX k f fd ps sp := ⟨F.len, fun A out s H ar us vs Q E _ => F.run A out s H ar us vs Q E⟩
theorem FnG.mono {P : Program} {w : World} {K : PySem.W.Frag} {mg : Str → Option Value} {base : Heap} {CX : CXT} {j k : Nat} {f : Addr} {fd : FuncData} {ps : List Str} {sp : Sp} (F : FnG P w K mg base CX j f fd ps sp) (h : j ≤ k) :
    FnG P w K mg base CX k f fd ps sp := ⟨F.glen, fun A out s H ar us vs Q E hg hr => F.grun A out s H ar us vs Q E hg (hr.mono h)⟩

/-- f, called in the context X with values, keeps the promise sp; the defaults dvs fill up -/
def Rn (X : Cx) (f : Addr) (sp : Sp) (dvs : List V) (E : XK) : Prop :=
  ∀ (pins : List (Addr × Obj)) (σ : L2.St) (H : Hp) (s : Shared) (Q : VK) (us : List Value) (vs : List V), Inv X pins σ H s → Vals vs us → sp (vs ++ dvs) H Q E → wpAny (model X.prog X.w) X.A (call (.ref f) us) (EP X pins σ Q) X.xe s
section
variable {X : Cx} {CX : CXT} {k : Nat} {f : Addr} {fd : FuncData} {ps : List Str} {sp : Sp} {dvs : List V} {ds : List Value} {E : XK}
theorem rn_of (F : FnOk X.prog X.w X.K X.mg X.base CX k f fd ps sp) (hr : Room k X.A) (hb : Binds X.K fd ps ds) (hd : Vals dvs ds) (hx : Passes CX X E) : Rn X f sp dvs E :=
  fun _ _ _ _ _ _ _ I r h => run_fn F hr hb hd hx I r h
theorem rn_g (F : FnG X.prog X.w X.K X.mg X.base CX k f fd ps sp) (gd : X.A.guards = some []) (hr : Room k X.A) (hb : Binds X.K fd ps ds) (hd : Vals dvs ds) (hx : Passes CX X E) : Rn X f sp dvs E := by
  intro pins σ H s Q us vs I r h
  have rr : Vals (vs ++ dvs) (us ++ ds) := r.append hd
  have ln : (us ++ ds).length = ps.length := rr.length.symm.trans (F.glen _ _ _ _ h)
  refine wpAny_call (codeAny_mono (F.grun X.A X.stack s H ⟨us, []⟩ (us ++ ds) (vs ++ dvs) Q E gd hr I.env0 (hb s us I.kIn ln) rr h) ?_)
  intro res s2 got
  match res, got with
  | .error e, got => exact hx pins σ H s e s2 I got
  | .ok (.ret u), got => exact I.after got
end
section
variable {X : Cx} {f : Addr} {sp : Sp} {dvs : List V} {E : XK} {x : Str} {e : Expr} {es : List Expr} {t : TA} {p pos : Pos}
theorem pe_callC (R : Rn X f sp dvs E) (hm : X.mg x = some (.ref f)) (hk : PySem.W.keepIn X.K (.ref f) = true) (ha : PA X (e :: es) t) (hg : Gl X x := by rfl) (hdb : (x == ("__debug__" : Str)) = false := by decide)
    (hst : starEach (e :: es) X.env = (false, eval e X.env) :: starEach es X.env := by rfl) (hpl : (backTo pos (starEach es X.env)).any (·.1) = false := by rfl) : PE X (.Call (.Name x p) (e :: es) [] pos) (tCall sp dvs E t) := by
  refine ⟨fun pins s σ H Q I h => wpAny_Call_Name_kw (ld_glob I hg hm ?_ hdb)⟩
  refine PySem.W.callWith_K (h₀ := X.base) I.ok.mod.kin hk (thn (ha.run pos pins s σ H _ I h) ?_) hst hpl
  intro us s1 ⟨vs, H1, I1, r1, q1⟩
  exact ⟨I1.kIn, R pins σ H1 s1 Q us vs I1 r1 q1⟩
theorem pe_callC0 (R : Rn X f sp dvs E) (hm : X.mg x = some (.ref f)) (hk : PySem.W.keepIn X.K (.ref f) = true) (hg : Gl X x := by rfl) (hdb : (x == ("__debug__" : Str)) = false := by decide) : PE X (.Call (.Name x p) [] [] pos) (tCall sp dvs E tNil) := by
  refine ⟨fun pins s σ H Q I h => wpAny_Call_Name_kw (ld_glob I hg hm ?_ hdb)⟩
  exact PySem.W.callWith_K0 I.kIn hk (R pins σ H s Q [] [] I .nil h)
end

/-! ### the rule for a def, with the guards told -/
section
variable {CX : CXT} {P : Program} {w : World} {K : PySem.W.Frag} {mg : Str → Option Value} {base : Heap} {k : Nat} {f : Addr} {fd : FuncData} {N ps : List Str} {sp : Sp}
/-- a def of the text entered: its body from the parameters' values, any end -/
theorem enter_def {name qual : Str} {params : Arguments} {body : List Stmt} {scope : Scope} {dV kV doc pm cdv ct oc : Value} {an od : Option Addr} {osl : Array (Option Value)} {R : Result → Shared → Prop} {A : Around} {out : List Env} {s : Shared} {H : Hp} {ar : Args} {us : List Value} {vs : List V} {E : XK} {kk : Nat}
    (lk : K.lookup f = some ⟨oc, od, .func (PySem.W.fnOf name qual params body scope dV kV doc pm an cdv ct), osl⟩) (hcd : PySem.W.codeIn K cdv qual = true) (S : FnScope N ps scope)
    (hr : Room kk A) (e0 : Env0 P w K mg base A out s H) (hb : BindsTo s (PySem.W.fnOf name qual params body scope dV kV doc pm an cdv ct) ar (ps.zip us)) (r : Vals vs us) (hl : vs.length = ps.length)
    (go : ∀ s1, Inv (cxOf CX P w K mg base N qual scope f cdv A out s H E) [] (start N vs) H s1 →
      wpAny (model P w) (A.deeper (envOfC qual scope s.heap.objs.size f cdv)) (execs body (envOfC qual scope s.heap.objs.size f cdv)) (fun fl s' => match fl with | .ret u => R (.ok (.ret u)) s' | .next => R (.ok (.ret .none)) s' | _ => False)
        (fun e s' => wpAny (model P w) (A.deeper (envOfC qual scope s.heap.objs.size f cdv)) (leaving (envOfC qual scope s.heap.objs.size f cdv) e) (fun _ s'' => R (.error e) s'') (fun e' s'' => R (.error e') s'') s') s1) :
    codeAny (model P w) A (.call (.ref f) ar) R s := by
  have inK : K.In s.heap := e0.mod.kin.keeps fun b o e => (e0.bs b o e).1
  have nol : s.heap.NoLimit := e0.mod.nolimit.keeps fun b o e => (e0.bs b o e).1
  have kinds : ∀ y ∈ ps.zip us, scope.names.lookup y.1 = some .local ∨ (scope.names.lookup y.1 = some .cell ∧ ((cellsFrom (s.heap.objs.size + 1) scope.names []).lookup y.1).isSome = true) := by
    intro ⟨n, v⟩ hy
    cases S.par n (List.of_mem_zip hy).1 with
    | inl q => exact .inl q
    | inr q => exact .inr ⟨q, PySem.W.cellsFrom_some _ _ _ (.inl q)⟩
  refine codeAny_call_function hr.depth (inK _ _ lk) rfl S.co S.gen rfl (PySem.W.codeRec_of inK hcd) (hb _ _ _ _ ?_)
  refine wpAny_newFunctionEnv_cells S.kind kinds ?_
  intro env he s1 x
  subst he
  refine ⟨nol.keeps x.toInCall.keep, codeAny_func ?_⟩
  refine wpAny_mono (go s1 (inv_start S hr.hd e0 hl r x)) ?_ fun _ _ z => z
  intro fl s2 z
  match fl, z with
  | .ret u, z => exact z
  | .next, z => exact z
theorem fn_ofG {name qual : Str} {params : Arguments} {body : List Stmt} {scope : Scope} {dV kV doc pm cdv ct oc : Value} {an od : Option Addr} {osl : Array (Option Value)}
    (lk : K.lookup f = some ⟨oc, od, .func (PySem.W.fnOf name qual params body scope dV kV doc pm an cdv ct), osl⟩) (hcd : PySem.W.codeIn K cdv qual = true) (S : FnScope N ps scope) (len : ∀ vs H Q E, sp vs H Q E → vs.length = ps.length)
    (hbody : ∀ (A : Around) (out : List Env) (s : Shared) (H : Hp) (vs : List V) (Q : VK) (E : XK), A.guards = some [] → Room k (A.deeper (envOfC qual scope s.heap.objs.size f cdv)) → sp vs H Q E →
      ∃ t, PSs (cxOf CX P w K mg base N qual scope f cdv A out s H E) body t ∧ t { nx := fun _ H' => Q .non H', rt := Q } (start N vs) H) :
    FnG P w K mg base CX (k + 1) f (PySem.W.fnOf name qual params body scope dV kV doc pm an cdv ct) ps sp := by
  refine ⟨len, fun A out s H ar us vs Q E gd hr e0 hb r hsp => ?_⟩
  obtain ⟨t, ht, hq⟩ := hbody A out s H vs Q E gd (hr.deeper _) hsp
  refine enter_def (CX := CX) (E := E) lk hcd S hr e0 hb r (len _ _ _ _ hsp) fun s1 I => ?_
  refine wpAny_mono (ht.run [] s1 (start N vs) H _ I hq) ?_ fun e s2 z => z
  intro fl s2 z
  cases fl with
  | ret u => exact let ⟨v, _, H2, J, rv, q⟩ := z; ⟨v, H2, J.os, J.bare, J.base, J.hok, rv, q⟩
  | next => exact let ⟨_, H2, J, q⟩ := z; ⟨.non, H2, J.os, J.bare, J.base, J.hok, rfl, q⟩
  | brk => exact let ⟨_, _, _, q⟩ := z; q
  | cont => exact let ⟨_, _, _, q⟩ := z; q
end
section
variable {P : Program} {w : World} {K : PySem.W.Frag} {mg : Str → Option Value} {base : Heap}
theorem okG {CX : CXT} {x qual : Str} {st : Stmt} {f : Addr} {fd : FuncData} {N ps : List Str} {k : Nat} {sp : Sp} (F : Fun K x qual st f fd) (S : FnScope N ps (defScope st)) (len : ∀ vs H Q E, sp vs H Q E → vs.length = ps.length)
    (hbody : ∀ (cdv : Value) (A : Around) (out : List Env) (s : Shared) (H : Hp) (vs : List V) (Q : VK) (E : XK), A.guards = some [] → Room k (A.deeper (envOfC qual (defScope st) s.heap.objs.size f cdv)) → sp vs H Q E →
      ∃ t, PSs (cxOf CX P w K mg base N qual (defScope st) f cdv A out s H E) (defBody st) t ∧ t { nx := fun _ H' => Q .non H', rt := Q } (start N vs) H) : FnG P w K mg base CX (k + 1) f fd ps sp := by
  obtain ⟨oc, od, kV, doc, pm, an, cdv, ct, osl, rfl, lk, hcd⟩ := F.ex
  exact fn_ofG lk hcd S len (hbody cdv)
end

/-! ### the law's call -/
theorem law_callG {P : Program} {w : World} {K : PySem.W.Frag} {mg mb : Str → Option Value} {CX : CXT} {k : Nat} {fa a : Addr} {fd : FuncData} {x : Str} {sp : Sp} {s₁ : Shared} {vs : List Value} {ns : List Int}
    (KX : K.In s₁.heap) (hns : s₁.heap.Ns mainGlobals mg) (hb : s₁.heap.Ns builtinsNs mb) (hbb : ∀ x : Str, x ≠ "__name__" → mb x = bootBuiltins x) (hlim : s₁.heap.NoLimit) (hg : s₁.gens = #[])
    (ha : s₁.heap.get? a = some { cls := .type "list", data := .seq vs.toArray }) (hi : IntsAre vs ns) (hl : ns.length ≤ sizeLine) (hr : Room k callerA)
    (F : ∀ base : Heap, K.In base → base.Ns mainGlobals mg → FnG P w K mg base CX k fa fd [x] sp) (hbind : ∀ (s : Shared) (u : Value), BindsTo s fd ⟨[u], []⟩ [(x, u)])
    (hsp : ∀ H : Hp, Only H → SqL K H a (ns.map V.int) → sp [.ref a] H (fun v _ => v = .bl true) fun _ _ _ => False)
    (hCX : ∀ H e s', CX [] H s₁ (fun _ _ _ => False) e s' → False) :
    codeAny (model P w) callerA (.call (.ref fa) ⟨[.ref a], []⟩) (fun r s' => r = .ok (.ret (.bool true)) ∧ OldK s₁.heap s'.heap ∧ s'.os = s₁.os ∧ AllBare s'.gens) s₁ := by
  have rv := vals_ints hi
  have vl := hi.length
  suffices core : ∀ H : Hp, Only H → SqL K H a (ns.map V.int) → HOk P w H s₁.heap → (∀ b, H b ≠ none → b = a) → (H a ≠ none → K.lookup a = none) →
      codeAny (model P w) callerA (.call (.ref fa) ⟨[.ref a], []⟩) (fun r s' => r = .ok (.ret (.bool true)) ∧ OldK s₁.heap s'.heap ∧ s'.os = s₁.os ∧ AllBare s'.gens) s₁ by
    by_cases hk : ∃ o, K.lookup a = some o
    · obtain ⟨o, hk⟩ := hk
      have e := KX a o hk
      rw [ha] at e
      cases e
      refine core (fun _ => none) (fun _ => Or.inl rfl) (Or.inr ⟨_, vs.toArray, _, hk, rfl, rfl, rfl, ?_, by simpa using rv⟩) (fun b u z => ?_) (fun b z => absurd rfl z) fun z => absurd rfl z
      · rw [List.size_toArray, vl]
        exact hl
      · cases (show (none : Option HO) = some u from z)
    · have hk0 : K.lookup a = none := by
        cases e : K.lookup a with
        | none => rfl
        | some o => exact absurd ⟨o, e⟩ hk
      have at1 : ∀ b u, (if b = a then some (HO.frz { cls := .type "list", data := .seq vs.toArray } (.lst (ns.map V.int))) else none) = some u → b = a ∧ u = HO.frz { cls := .type "list", data := .seq vs.toArray } (.lst (ns.map V.int)) := by
        intro b u z
        by_cases hb : b = a
        · rw [if_pos hb] at z
          exact ⟨hb, (Option.some.inj z).symm⟩
        · rw [if_neg hb] at z
          cases z
      refine core (fun b => if b = a then some (.frz { cls := .type "list", data := .seq vs.toArray } (.lst (ns.map V.int))) else none) (fun b => ?_) (Or.inl (Or.inr ⟨_, if_pos rfl⟩)) (fun b u z => ?_) (fun b z => ?_) fun _ => hk0
      · by_cases hb : b = a
        · exact Or.inr ⟨_, _, if_pos hb⟩
        · exact Or.inl (if_neg hb)
      · obtain ⟨e1, e2⟩ := at1 b u z
        subst e1 e2
        exact ⟨ha, by rw [List.length_map]; exact hl, vs, _, rv, ha⟩
      · by_cases hb : b = a
        · exact hb
        · exact absurd (if_neg hb) z
  intro H hO hS hok hA hK
  have keepG : ∀ {b : Addr} {o : Obj}, s₁.heap.get? b = some o → H b = none → (hidT s₁.heap H).get? b = some o := fun e n => hidT_get e n
  have dictG : ∀ {b : Addr} {o : Obj} {es : Array DictEntry} {ep : Nat}, s₁.heap.get? b = some o → o.data = .dict es ep → H b = none := by
    intro b o es ep e d
    by_cases q : H b = none
    · exact q
    · have e' := hA b q
      rw [e', ha] at e
      cases e
      cases (show Data.seq vs.toArray _ = Data.dict es ep from d)
  have nsG : ∀ {b : Addr} {m : Str → Option Value}, s₁.heap.Ns b m → (hidT s₁.heap H).Ns b m := by
    intro b m ⟨o, es, ep, e, d, r⟩
    exact ⟨o, es, ep, keepG e (dictG e d), d, r⟩
  have kG : K.In (hidT s₁.heap H) := by
    intro b o e
    refine keepG (KX b o e) ?_
    by_cases q : H b = none
    · exact q
    · have e' := hA b q
      rw [e', hK (by rw [← e']; exact q)] at e
      cases e
  have M : Mod K mg (hidT s₁.heap H) := ⟨kG, nsG hns, ⟨mb, nsG hb, hbb⟩, let ⟨mc, q1, q2⟩ := hlim; ⟨mc, nsG q1, q2⟩⟩
  have e0 : Env0 P w K mg (hidT s₁.heap H) callerA [] s₁ H := ⟨rfl, M, fun b o e => of_hidT e, Nat.le_of_eq (hidT_size _ _), trivial, fun b hb => (List.not_mem_nil (show b ∈ ([] : List Addr) from hb)).elim, hok, .of_eq hg⟩
  refine codeAny_mono ((F _ kG (nsG hns)).grun callerA [] s₁ H ⟨[.ref a], []⟩ [.ref a] [.ref a] _ _ rfl hr e0 (hbind s₁ (.ref a)) (.cons rfl .nil) (hsp H hO hS)) ?_
  intro r s' h
  match r, h with
  | .error e, h => exact (hCX H e s' h).elim
  | .ok (.ret u), ⟨v, H', os, bare, un, hok', r', q⟩ =>
    have q' : v = .bl true := q
    subst q'
    have r2 : u = Value.bool true := r'
    subst r2
    refine ⟨rfl, OldK.of_keep fun b o e => ?_, os, bare⟩
    rcases hO b with z | ⟨ob, xs, z⟩
    · exact un.keep b o e z (fun hm => (List.not_mem_nil (show b ∈ ([] : List Addr) from hm)).elim) (fun hm => (List.not_mem_nil hm).elim)
    · have z2 := un.frzs b ob _ z
      have e1 := (hok b _ z).1
      have e2 := (hok' b _ z2).1
      rw [e] at e1
      cases e1
      exact e2
theorem walk_ofG {l : PySem.W.OpenLaw} {n k : Nat} {q : Program} {loose : List Str} {XP : (Str → Option Value) → Heap → Prop} {YP : World → Heap → Prop} {d : DefRec} {K : Params → PySem.W.Frag} {CX : World → CXT} {sp : World → Sp} {x : Str}
    (hn : l.most = some n) (hn2 : n ≤ sizeLine) (hdf : d.params.defaults = []) (hr : Room k callerA) (hY : ∀ (w : World) (h : Heap), YP w h → (K w.params).In h)
    (F : ∀ (w : World) (mg : Str → Option Value) (fa : Addr) (h : Heap), (K w.params).In h → h.Ns mainGlobals mg → mg d.name = some (.ref fa) →
      ∃ fd : FuncData, (∀ (s : Shared) (u : Value), BindsTo s fd ⟨[u], []⟩ [(x, u)]) ∧ ∀ base : Heap, (K w.params).In base → base.Ns mainGlobals mg → FnG l.prog w (K w.params) mg base (CX w) k fa fd [x] (sp w))
    (hsp : ∀ (w : World) (H : Hp) (a : Addr) (ns : List Int), ns.length ≤ n → Only H → SqL (K w.params) H a (ns.map V.int) → sp w [.ref a] H (fun v _ => v = .bl true) fun _ _ _ => False)
    (hCX : ∀ (w : World) (H : Hp) (s : Shared) (e : Value) (s' : Shared), CX w [] H s (fun _ _ _ => False) e s' → False) :
    PySem.W.WalkO q loose XP YP l.row.toRowW d [] (fun f vs => PySem.call f vs) := by
  refine Att.attach_call hn hdf ?_
  intro w s₀ s₁ mg mb fa o pm cd doc a vs ns G Y ho hd hcd hmg hobj hints hlen hg
  obtain ⟨fd, hb, hF⟩ := F w mg fa _ (hY w _ Y) G.T.g hmg
  exact law_callG (hY w _ Y) G.T.g G.T.b G.T.builtins G.T.nolimit hg hobj hints (Nat.le_trans hlen hn2) hr hF hb (fun H hO hS => hsp w H a ns hlen hO hS) fun H e s' => hCX w H s₁ e s'

/-! ### repr of data -/
section
variable {X : Cx}
def rReprD (K : PySem.W.Frag) : List V → Hp → VK → Prop := fun xs H Q => ∃ (a : Addr) (d : PyData), xs = [.ref a] ∧ Dp K H (.ref a) d ∧ d.showable = true ∧ d.hasDict = false ∧ d.depth ≤ 50 ∧ d.shown.length ≤ sizeLine ∧ Q (.str d.shown) H
theorem call_reprD (gd : X.A.guards = some []) (hu : X.A.units + 64 < cLine) : CallR X (.builtin "repr") (rReprD X.K) := by
  intro pins s σ H xs us Q I r h
  obtain ⟨a, d, rfl, hD, hs, hn, hdp, hz, q⟩ := h
  obtain ⟨u, rfl, ru⟩ := vals1 r
  cases (show u = Value.ref a from ru)
  obtain ⟨as, rd⟩ := Dp.reads I d _ _ hD rfl
  refine repr_of_reads' rd hs (PyData.noDict_hsm hn) gd (by omega) (fun _ _ e => e) (fun h' u tk hk => ?_) hz
  exact ⟨.str d.shown, H, I.kept hk, ⟨u, rfl⟩, q⟩
end
end SP
/-! Own rules: comparisons of own instances; == and != against other kinds, where the own __eq__ declines. -/
namespace SP
open PySem PySem.Spec PyProof.Rows L2
section
variable {X : Cx} {pins : List (Addr × Obj)} {σ : L2.St} {H : Hp} {s : Shared}
theorem looks_typeIs {M : Model} {h : Heap} {u : Value} {T : String} (e : ∀ s : Shared, (∀ b o, h.get? b = some o → s.heap.get? b = some o) → s.TypeIs u T) : PySem.W.Looks M h (typeOf u) (.type T) :=
  fun A Q E s k q => wpAny_typeOf (e s k) q
/-- what typeOf tells of a value -/
theorem looks_ty {M : Model} {y : V} {u t : Value} (I : Inv X pins σ H s) (ry : RelV y u) (ty : TyOf X.K H y t) : PySem.W.Looks M s.heap (typeOf u) t := by
  cases ty with
  | non => cases (show u = Value.none from ry); exact looks_typeIs fun _ _ => rfl
  | bl b => cases (show u = Value.bool b from ry); exact looks_typeIs fun _ _ => rfl
  | int i => obtain ⟨t, q⟩ := (show ∃ t, u = Value.int i t from ry); cases q; exact looks_typeIs fun _ _ => rfl
  | str x => obtain ⟨t, q⟩ := (show ∃ t, u = Value.str x t from ry); cases q; exact looks_typeIs fun _ _ => rfl
  | flt x => obtain ⟨t, q⟩ := (show ∃ t, u = Value.float x t from ry); cases q; exact looks_typeIs fun _ _ => rfl
  | @lst a xs ea =>
    cases (show u = Value.ref a from ry)
    have ok : ObjOk X.prog X.w H s.heap a (.lst xs) := I.hok a _ ea
    obtain ⟨_, _, n, _, h1⟩ := ok
    exact looks_typeIs fun s' k => ⟨_, k _ _ h1, rfl⟩
  | @frz a ob xs ea =>
    cases (show u = Value.ref a from ry)
    have ok : ObjOk X.prog X.w H s.heap a (.frz ob (.lst xs)) := I.hok a _ ea
    obtain ⟨_, _, _, n, _, h1⟩ := ok
    exact looks_typeIs fun s' k => ⟨_, k _ _ h1, rfl⟩
  | @tup a xs ea =>
    cases (show u = Value.ref a from ry)
    have ok : ObjOk X.prog X.w H s.heap a (.tup xs) := I.hok a _ ea
    obtain ⟨_, _, _, o, h1, h2, _⟩ := ok
    exact looks_typeIs fun s' k => ⟨o, k _ _ h1, h2⟩
  | @dK a kvs ea =>
    cases (show u = Value.ref a from ry)
    have ok : ObjOk X.prog X.w H s.heap a (.dK kvs) := I.hok a _ ea
    obtain ⟨_, _, vs, _, o, es, ep, h1, h2, _⟩ := ok
    exact looks_typeIs fun s' k => ⟨o, k _ _ h1, h2.1⟩
  | @dT a kvs ea =>
    cases (show u = Value.ref a from ry)
    have ok : ObjOk X.prog X.w H s.heap a (.dT kvs) := I.hok a _ ea
    obtain ⟨_, _, xs, _, o, es, ep, h1, h2, _⟩ := ok
    exact looks_typeIs fun s' k => ⟨o, k _ _ h1, h2.1⟩
  | @ins a C dx fs ea cl ha hn htk hm =>
    cases (show u = Value.ref a from ry)
    obtain ⟨mA, O, _⟩ := ins_get I.hok ea
    obtain ⟨od, J, _⟩ := O.look
    exact J.type
theorem back_rel {v : V} {u : Value} {Q : Value → Shared → Prop} {s' : Shared} (r : RelV v u) (h : Q u s') : PySem.W.CmpBack Q u s' := by
  cases v with
  | non => cases r; exact h
  | bl _ => cases r; exact h
  | int _ => obtain ⟨t, rfl⟩ := r; exact h
  | str _ => obtain ⟨t, rfl⟩ := r; exact h
  | byt _ => obtain ⟨t, rfl⟩ := r; exact h
  | flt _ => obtain ⟨t, rfl⟩ := r; exact h
  | ref _ => cases r; exact h
  | ty _ => cases r; exact h
/-- o op y, o an instance of the class at C whose method (at f) answers -/
def rCmp (K : PySem.W.Frag) (C : Addr) (sp : Sp) (E : XK) : R2 := fun x y H Q => ∃ (a dx : Addr) (fs : List (Str × V)) (t : Value), x = .ref a ∧ H a = some (.ins C dx fs) ∧ TyOf K H y t ∧ PySem.W.notFirst K C t = true ∧ sp [x, y] H Q E
theorem op_cmpC {op : CmpOp} {C f : Addr} {sp : Sp} {E : XK} (hu : X.A.units < cLine) (hs : PySem.W.findIn X.K (.ref C) (cmpInfo op).2.1 = some (some (.ref f))) (hf : PySem.W.isFn X.K (.ref f) = true) (R : Rn X f sp [] E)
    (hop : ∀ a b, compareOp op a b = richCompare op a b := by intro _ _; rfl) : OpR X (compareOp op) (rCmp X.K C sp E) := by
  intro pins s σ H x y v u Q I rx ry h
  obtain ⟨a, dx, fs, t, rfl, ea, ty, hn, h⟩ := h
  cases (show v = Value.ref a from rx)
  obtain ⟨mA, O, _⟩ := ins_get I.hok ea
  obtain ⟨od, J, _⟩ := O.look
  obtain ⟨m, F⟩ := I.fr
  rw [hop]
  refine PySem.W.cmp_K hu F I.mod.kin J (looks_ty I ry ty) hn hs hf (thn (R pins σ H s Q [.ref a, u] [.ref a, y] I (.cons rfl (.cons ry .nil)) h) ?_)
  intro w' s' ⟨v', H', I', r', q'⟩
  exact back_rel r' ⟨v', H', I', r', q'⟩
/-- what the own != makes of ==: object's -/
def rNeC (K : PySem.W.Frag) (C : Addr) (sp : Sp) (E : XK) : R2 := fun x y H Q => ∃ (a dx : Addr) (fs : List (Str × V)) (t : Value), x = .ref a ∧ H a = some (.ins C dx fs) ∧ TyOf K H y t ∧ PySem.W.notFirst K C t = true ∧
  sp [x, y] H (fun v H' => ∃ b, v = .bl b ∧ Q (.bl (!b)) H') E
end
section
variable {prog : Program} {w : World} {A : Around} {E : Value → Shared → Prop} {s : Shared} {K : PySem.W.Frag} {x C f : Addr} {ox : Obj} {od : Option Obj}
/-- the slot of object found by an own class is bound and called -/
theorem ifBound_objNe {M : Model} {args : List Value} {Q : Option Value → Shared → Prop} (X : K.In s.heap) (I : PySem.W.InstAt s.heap x ox C od) (hs : PySem.W.findIn K (.ref C) "__ne__" = some (some (.builtin "object.__ne__")))
    (h : wpAny M A (call (.builtin "object.__ne__") (.ref x :: args)) (fun v => Q (some v)) E s) : wpAny M A (callSpecialIfBound? (.ref x) "__ne__" args) Q E s := by
  have last : wpAny M A (call (.builtin "object.__ne__") ([.ref x] ++ args) >>= fun v => pure (some v)) Q E s := wpAny_bind (wpAny_mono h (fun _ _ z => wpAny_pure z) fun _ _ z => z)
  simp only [callSpecialIfBound?, bindSpecialIfBound?]
  refine wpAny_holding (wpAny_bind (wpAny_bind (wpAny_bind (I.type.here ((PySem.W.looks_findIn X hs).here (wpAny_bind (wpAny_askSetting (wpAny_ite ?_))))))))
  split
  · exact wpAny_bind (wpAny_of_eq (F.cmp_object.ne.bind _) (wpAny_pure (by exact last)))
  · exact wpAny_tryCatch (wpAny_bind (wpAny_of_eq (F.cmp_object.ne.bind _) (wpAny_pure (by exact last))))
theorem ne_body {b : Value} {Q : Value → Shared → Prop} (hu : A.units + 1 < cLine) (X : K.In s.heap) (I : PySem.W.InstAt s.heap x ox C od) (hm : PySem.W.mroIn K C (.type "object") = some true)
    (hs : PySem.W.findIn K (.ref C) "__eq__" = some (some (.ref f))) (hf : PySem.W.isFn K (.ref f) = true)
    (h : wpAny (model prog w) A.in1 (call (.ref f) [.ref x, b]) (fun v s' => (∃ k, v = .bool k ∧ Q (.bool (!k)) s') ∨ (v = .notImplemented ∧ Q .notImplemented s')) E s) :
    wpAny (model prog w) A (call (.builtin "object.__ne__") [.ref x, b]) Q E s := by
  refine wpAny_call (codeAny_call_builtin F.cmp_object.ne.plain F.cmpEntry_ne (PySem.W.check_slot F.cmpKind_ne F.cmpSplit_ne (I.type.andThen (PySem.W.looks_mroIn X hm)) (F.cmpArgs_ne _ _) ?_))
  show wpAny _ _ (cRoomFor "comparison" [.ref x, b] >>= fun _ => callSpecialIfBound? (.ref x) "__eq__" [b] >>= fun r => (match r with
    | some .notImplemented | none => PySem.ret .notImplemented
    | some r => truthy r >>= fun t => PySem.ret (.bool (!t)))) _ _ _
  refine wpAny_bind (wpAny_cRoomFor hu (wpAny_bind (PySem.W.ifBound_K X I hs hf (wpAny_mono h (fun v s' hv => ?_) fun _ _ z => z))))
  rcases hv with ⟨k, rfl, q⟩ | ⟨rfl, q⟩
  · exact wpAny_bind (wpAny_truthy_bool (wpAny_pure q))
  · exact wpAny_pure q
end
/-! ### the built-in == against an own instance declines -/
section
variable {prog : Program} {w : World} {A : Around} {E : Value → Shared → Prop} {s : Shared} {K : PySem.W.Frag} {x C dx : Addr} {ox : Obj} {od : Option Obj}
theorem asInt_inst {M : Model} {Q : Option Int → Shared → Prop} (hx : s.heap.get? x = some (PySem.W.instObj C dx)) (q : Q none s) : wpAny M A (asInt? (.ref x)) Q E s := by
  show wpAny M A (load x >>= fun o => match o.data with | .prim (.int i _) => pure (some i) | _ => pure none) Q E s
  exact wpAny_bind (wpAny_load hx (wpAny_pure q))
theorem asStr_inst {M : Model} {Q : Option Str → Shared → Prop} (hx : s.heap.get? x = some (PySem.W.instObj C dx)) (q : Q none s) : wpAny M A (asStr? (.ref x)) Q E s := by
  show wpAny M A (load x >>= fun o => match o.data with | .prim (.str i _) => pure (some i) | _ => pure none) Q E s
  exact wpAny_bind (wpAny_load hx (wpAny_pure q))
theorem int_declines {i : Int} {t : Tok} {Q : Option Value → Shared → Prop} (hx : s.heap.get? x = some (PySem.W.instObj C dx)) (q : Q none s) : wpAny (model prog w) A (tryCompare (.int i t) "__eq__" (.ref x)) Q E s := by
  refine wpAny_tryCompare_declines (T := "int") rfl F.slot_int_eq_refl (GQ.call_here F.slot_int_eq_refl rfl F.entry_int_eq (F.args_int_eq_2 _ _) ?_)
  wp_walk using asInt_inst hx
  exact ⟨rfl, q⟩
theorem bool_declines {b : Bool} {Q : Option Value → Shared → Prop} (hx : s.heap.get? x = some (PySem.W.instObj C dx)) (q : Q none s) : wpAny (model prog w) A (tryCompare (.bool b) "__eq__" (.ref x)) Q E s := by
  refine wpAny_tryCompare_declines (T := "bool") rfl F.slot_bool_eq_refl (GQ.call_here F.slot_bool_eq_refl rfl F.entry_int_eq (F.args_int_eq_2 _ _) ?_)
  wp_walk using asInt_inst hx
  exact ⟨rfl, q⟩
theorem str_declines {z : Str} {t : Tok} {Q : Option Value → Shared → Prop} (hx : s.heap.get? x = some (PySem.W.instObj C dx)) (q : Q none s) : wpAny (model prog w) A (tryCompare (.str z t) "__eq__" (.ref x)) Q E s := by
  refine wpAny_tryCompare_declines (T := "str") rfl F.slot_str_eq_refl (GQ.call_here F.slot_str_eq_refl rfl F.entry_str_eq (F.args_str_eq_2 _ _) ?_)
  show wpAny _ _ (asStr? (.ref x) >>= fun r => match r with | some o => PySem.ret (.bool (z.cps.toList == o.cps.toList)) | none => rule "str.__eq__.not-a-str" >>= fun _ => PySem.ret .notImplemented) _ _ _
  exact wpAny_bind (asStr_inst hx (wpAny_bind (wpAny_rule (wpAny_pure ⟨rfl, q⟩))))
theorem none_declines {Q : Option Value → Shared → Prop} (q : Q none s) : wpAny (model prog w) A (tryCompare .none "__eq__" (.ref x)) Q E s :=
  wpAny_tryCompare_declines (show s.TypeIs .none "NoneType" from rfl) F.slot_NoneType_eq_refl (call_gives F.slot_NoneType_eq_refl rfl F.entry_NoneType_eq (F.args_NoneType_eq_2 _ _) (SeqAt.NoneType___eq___none_ref_0 x) ⟨rfl, q⟩)
theorem tuple_declines {b : Addr} {ob : Obj} {Q : Option Value → Shared → Prop} (X : K.In s.heap) (I : PySem.W.InstAt s.heap x ox C od) (hb : s.heap.get? b = some ob) (hc : ob.cls = .type "tuple")
    (hs : PySem.W.subIn K (.ref C) (.type "tuple") = some false) (q : Q none s) : wpAny (model prog w) A (tryCompare (.ref b) "__eq__" (.ref x)) Q E s := by
  refine wpAny_tryCompare_declines (T := "tuple") ⟨ob, hb, hc⟩ F.slot_tuple_eq_refl (GQ.call_here F.slot_tuple_eq_refl ⟨ob, hb, hc⟩ F.entry_tuple_eq (F.args_tuple_eq_2 _ _) ?_)
  have no : PySem.W.Looks (model prog w) s.heap (isInstance (.ref x) (.type "tuple")) false := I.type.andThen (PySem.W.looks_subIn X hs)
  refine wpAny_bind (m := isInstance (.ref x) (.type "tuple")) (no.here ?_)
  exact wpAny_pure ⟨rfl, q⟩
theorem list_declines {b : Addr} {ob : Obj} {Q : Option Value → Shared → Prop} (X : K.In s.heap) (I : PySem.W.InstAt s.heap x ox C od) (hb : s.heap.get? b = some ob) (hc : ob.cls = .type "list")
    (hs : PySem.W.subIn K (.ref C) (.type "list") = some false) (q : Q none s) : wpAny (model prog w) A (tryCompare (.ref b) "__eq__" (.ref x)) Q E s := by
  refine wpAny_tryCompare_declines (T := "list") ⟨ob, hb, hc⟩ F.slot_list_eq_refl (GQ.call_here F.slot_list_eq_refl ⟨ob, hb, hc⟩ F.entry_list_eq (F.args_list_eq_2 _ _) ?_)
  have no : PySem.W.Looks (model prog w) s.heap (isInstance (.ref x) (.type "list")) false := I.type.andThen (PySem.W.looks_subIn X hs)
  refine wpAny_bind (m := isInstance (.ref x) (.type "list")) (no.here ?_)
  exact wpAny_pure ⟨rfl, q⟩
end

/-! ### the context one C call deeper -/
abbrev in1 (X : Cx) : Cx := { X with A := X.A.in1 }
section
variable {X : Cx} {pins : List (Addr × Obj)} {σ : L2.St} {H : Hp} {s : Shared}
theorem ok_in1 (k : X.Ok) : (in1 X).Ok := ⟨k.mod, k.kind, k.glob, k.blt, k.above, k.inj, k.has, k.cab, k.hd, k.frames, k.stk, k.exf, k.bs, k.bsz, k.noex, k.exfs, k.funs, k.frf⟩
theorem ok_out1 (k : (in1 X).Ok) : X.Ok := ⟨k.mod, k.kind, k.glob, k.blt, k.above, k.inj, k.has, k.cab, k.hd, k.frames, k.stk, k.exf, k.bs, k.bsz, k.noex, k.exfs, k.funs, k.frf⟩
theorem inv_in1 (I : Inv X pins σ H s) : Inv (in1 X) pins σ H s := ⟨ok_in1 I.ok, I.os, I.bare, I.base, I.loc, I.cell, I.free, I.freeC, I.pin, I.hok, I.len⟩
theorem inv_out1 (I : Inv (in1 X) pins σ H s) : Inv X pins σ H s := ⟨ok_out1 I.ok, I.os, I.bare, I.base, I.loc, I.cell, I.free, I.freeC, I.pin, I.hok, I.len⟩
/-- a call of f with values ends in NotImplemented, and leaves what was tracked -/
def RnN (X : Cx) (f : Addr) (D : List V → Hp → Prop) : Prop :=
  ∀ (pins : List (Addr × Obj)) (σ : L2.St) (H : Hp) (s : Shared) (us : List Value) (vs : List V), Inv X pins σ H s → Vals vs us → D vs H → wpAny (model X.prog X.w) X.A (call (.ref f) us) (fun u s' => u = .notImplemented ∧ ∃ H', Inv X pins σ H' s' ∧ Same H H') X.xe s
/-- o != y, != made of the own == -/
theorem op_neC {C f : Addr} {sp : Sp} {E : XK} (hu : X.A.units + 1 < cLine) (hs : PySem.W.findIn X.K (.ref C) "__eq__" = some (some (.ref f))) (hn : PySem.W.findIn X.K (.ref C) "__ne__" = some (some (.builtin "object.__ne__")))
    (hm : PySem.W.mroIn X.K C (.type "object") = some true) (hf : PySem.W.isFn X.K (.ref f) = true) (R : Rn (in1 X) f sp [] E) : OpR X (compareOp .NotEq) (rNeC X.K C sp E) := by
  intro pins s σ H x y v u Q I rx ry h
  obtain ⟨a, dx, fs, t, rfl, ea, ty, hnf, h⟩ := h
  cases (show v = Value.ref a from rx)
  obtain ⟨mA, O, _⟩ := ins_get I.hok ea
  obtain ⟨od, J, _⟩ := O.look
  have KX := I.kIn
  have one : wpAny (model X.prog X.w) X.A (tryCompare (.ref a) "__ne__" u) (fun r s' => ∃ z, r = some z ∧ EP X pins σ Q z s') X.xe s := by
    unfold tryCompare
    refine wpAny_bind (ifBound_objNe KX J hn (ne_body hu KX J hm hs hf (thn (R pins σ H s _ [.ref a, u] [.ref a, y] (inv_in1 I) (.cons rfl (.cons ry .nil)) h) ?_)))
    intro z s' ⟨v', H', I', r', b, e, q'⟩
    subst e
    cases r'
    exact .inl ⟨b, rfl, wpAny_pure ⟨_, rfl, .bl (!b), H', inv_out1 I', rfl, q'⟩⟩
  show wpAny _ _ (richCompare .NotEq (.ref a) u) _ _ _
  unfold richCompare
  simp only [oneThing_ref]
  refine wpAny_holding (wpAny_bind (wpAny_cRoomFor (by omega) (wpAny_bind (J.type.here (wpAny_bind ((looks_ty I ry ty).here ?_))))))
  have go : ∀ c : Bool, c = false → wpAny (model X.prog X.w) X.A (if c = true then tryCompare u (cmpInfo .NotEq).2.2 (.ref a) else pure none) (fun r s' => r = none ∧ s' = s) X.xe s := by
    intro c e
    subst e
    exact wpAny_pure ⟨rfl, rfl⟩
  split
  · rename_i q
    have e : PySem.W.subIn X.K t (.ref C) = some false := by
      rcases Bool.or_eq_true_iff.mp hnf with e | e
      · rw [beq_iff_eq.mp e] at q
        simp at q
      · exact beq_iff_eq.mp e
    refine wpAny_bind ((PySem.W.looks_subIn KX e).here ?_)
    simp only [Bool.false_eq_true, if_false]
    refine wpAny_bind (wpAny_mono one (fun r s' z => ?_) fun _ _ e => e)
    obtain ⟨v', rfl, hq⟩ := z
    exact wpAny_pure hq
  · refine wpAny_bind (wpAny_pure ?_)
    simp only [Bool.false_eq_true, if_false]
    refine wpAny_bind (wpAny_mono one (fun r s' z => ?_) fun _ _ e => e)
    obtain ⟨v', rfl, hq⟩ := z
    exact wpAny_pure hq
end

/-! ### == and != against a value of another kind -/
/-- a value of a kind that is not the class's: no ref, a tuple, a list -/
inductive Fgn (H : Hp) : V → Prop where
  | non : Fgn H .non
  | bl (b : Bool) : Fgn H (.bl b)
  | int (i : Int) : Fgn H (.int i)
  | str (x : Str) : Fgn H (.str x)
  | tup {b : Addr} {xs : List V} (e : H b = some (.tup xs)) : Fgn H (.ref b)
  | lst {b : Addr} {xs : List V} (e : H b = some (.lst xs)) : Fgn H (.ref b)
structure FgnOk (K : PySem.W.Frag) (C : Addr) : Prop where
  tu : PySem.W.subIn K (.ref C) (.type "tuple") = some false
  li : PySem.W.subIn K (.ref C) (.type "list") = some false
theorem sub_built {K : PySem.W.Frag} {C : Addr} {T : String} {ms : List Value} (e : fastBuiltinMro T = some ms) (n : ms.contains (.ref C) = false) : PySem.W.subIn K (.type T) (.ref C) = some false := by
  show (fastBuiltinMro T).map (·.contains (.ref C)) = some false
  rw [e]
  exact congrArg some n
theorem mro_int : fastBuiltinMro "int" = some [.type "int", .type "object"] := by decide +kernel
theorem mro_bool : fastBuiltinMro "bool" = some [.type "bool", .type "int", .type "object"] := by decide +kernel
theorem mro_str : fastBuiltinMro "str" = some [.type "str", .type "object"] := by decide +kernel
theorem mro_none : fastBuiltinMro "NoneType" = some [.type "NoneType", .type "object"] := by decide +kernel
theorem mro_tuple : fastBuiltinMro "tuple" = some [.type "tuple", .type "object"] := by decide +kernel
theorem mro_list : fastBuiltinMro "list" = some [.type "list", .type "object"] := by decide +kernel
section
variable {X : Cx} {pins : List (Addr × Obj)} {σ : L2.St} {H : Hp} {s : Shared}
theorem Fgn.same {H H' : Hp} {y : V} (f : Fgn H y) (k : Same H H') : Fgn H' y := by
  cases f with
  | non => exact .non
  | bl b => exact .bl b
  | int i => exact .int i
  | str x => exact .str x
  | tup e => exact .tup (k _ _ e)
  | lst e => exact .lst (k _ _ e)
theorem Fgn.ty {K : PySem.W.Frag} {C : Addr} {y : V} (f : Fgn H y) : ∃ t, TyOf K H y t ∧ PySem.W.notFirst K C t = true ∧ (t == Value.ref C) = false ∧ PySem.W.subIn K t (.ref C) = some false := by
  have fin : ∀ {T : String} {ms : List Value}, fastBuiltinMro T = some ms → ms.contains (.ref C) = false → PySem.W.notFirst K C (.type T) = true ∧ (Value.type T == Value.ref C) = false ∧ PySem.W.subIn K (.type T) (.ref C) = some false := by
    intro T ms e n
    have h := sub_built (K := K) e n
    refine ⟨?_, rfl, h⟩
    unfold PySem.W.notFirst
    rw [h]
    simp
  cases f with
  | non => exact ⟨_, .non, fin mro_none rfl⟩
  | bl b => exact ⟨_, .bl b, fin mro_bool rfl⟩
  | int i => exact ⟨_, .int i, fin mro_int rfl⟩
  | str x => exact ⟨_, .str x, fin mro_str rfl⟩
  | tup e => exact ⟨_, .tup e, fin mro_tuple rfl⟩
  | lst e => exact ⟨_, .lst e, fin mro_list rfl⟩
theorem fgn_declines {C a dx : Addr} {fs : List (Str × V)} {y : V} {u : Value} {E : Value → Shared → Prop} {Q : Option Value → Shared → Prop} (O : FgnOk X.K C) (I : Inv X pins σ H s) (ea : H a = some (.ins C dx fs)) (f : Fgn H y) (ry : RelV y u) (q : Q none s) :
    wpAny (model X.prog X.w) X.A (tryCompare u "__eq__" (.ref a)) Q E s := by
  obtain ⟨mA, M, _⟩ := ins_get I.hok ea
  obtain ⟨od, J, _⟩ := M.look
  have hx : s.heap.get? a = some (PySem.W.instObj C dx) := J.1
  cases f with
  | non => cases (show u = Value.none from ry); exact none_declines q
  | bl b => cases (show u = Value.bool b from ry); exact bool_declines hx q
  | int i => obtain ⟨t, z⟩ := (show ∃ t, u = Value.int i t from ry); cases z; exact int_declines hx q
  | str x => obtain ⟨t, z⟩ := (show ∃ t, u = Value.str x t from ry); cases z; exact str_declines hx q
  | @tup b xs e =>
    cases (show u = Value.ref b from ry)
    have ok : ObjOk X.prog X.w H s.heap b (.tup xs) := I.hok b _ e
    obtain ⟨_, _, _, o, h1, h2, _⟩ := ok
    exact tuple_declines I.kIn J h1 h2 O.tu q
  | @lst b xs e =>
    cases (show u = Value.ref b from ry)
    have ok : ObjOk X.prog X.w H s.heap b (.lst xs) := I.hok b _ e
    obtain ⟨_, _, n, _, h1⟩ := ok
    exact list_declines I.kIn J h1 rfl O.li q
theorem fgn_same {C a dx : Addr} {fs : List (Str × V)} {y : V} {u : Value} {E : Value → Shared → Prop} {Q : Bool → Shared → Prop} (I : Inv X pins σ H s) (ea : H a = some (.ins C dx fs)) (f : Fgn H y) (ry : RelV y u) (q : Q false s) :
    wpAny (model X.prog X.w) X.A (isSame (.ref a) u) Q E s := by
  obtain ⟨mA, M, _⟩ := ins_get I.hok ea
  obtain ⟨od, J, _⟩ := M.look
  have hx : s.heap.get? a = some (PySem.W.instObj C dx) := J.1
  have nt : (PySem.W.instObj C dx).cls ≠ .type "tuple" := fun z => nomatch (show Value.ref C = Value.type "tuple" from z)
  cases f with
  | non => cases (show u = Value.none from ry); exact wpAny_isSame_plain rfl q
  | bl b => cases (show u = Value.bool b from ry); exact wpAny_isSame_plain rfl q
  | int i => obtain ⟨t, z⟩ := (show ∃ t, u = Value.int i t from ry); cases z; exact wpAny_isSame_plain rfl q
  | str x => obtain ⟨t, z⟩ := (show ∃ t, u = Value.str x t from ry); cases z; exact wpAny_isSame_plain rfl q
  | @tup b xs e =>
    cases (show u = Value.ref b from ry)
    have ok : ObjOk X.prog X.w H s.heap b (.tup xs) := I.hok b _ e
    obtain ⟨_, _, _, o, h1, h2, _⟩ := ok
    exact wpAny_isSame_ref_other (ne_of ea e (fun z => nomatch z)) hx h1 nt q
  | @lst b xs e =>
    cases (show u = Value.ref b from ry)
    have ok : ObjOk X.prog X.w H s.heap b (.lst xs) := I.hok b _ e
    obtain ⟨_, _, n, _, h1⟩ := ok
    exact wpAny_isSame_ref_other (ne_of ea e (fun z => nomatch z)) hx h1 nt q
/-- o == y, y of another kind: the own == declines -/
def rEqF (C : Addr) (D : List V → Hp → Prop) (k : Bool) : R2 := fun x y H Q => ∃ (a dx : Addr) (fs : List (Str × V)), x = .ref a ∧ H a = some (.ins C dx fs) ∧ Fgn H y ∧ D [x, y] H ∧ ∀ H', Same H H' → Q (.bl k) H'
theorem op_eqF {C f : Addr} {D : List V → Hp → Prop} (hu : X.A.units < cLine) (O : FgnOk X.K C) (hs : PySem.W.findIn X.K (.ref C) "__eq__" = some (some (.ref f))) (hf : PySem.W.isFn X.K (.ref f) = true) (R : RnN X f D) :
    OpR X (compareOp .Eq) (rEqF C D false) := by
  intro pins s σ H x y v u Q I rx ry h
  obtain ⟨a, dx, fs, rfl, ea, fg, hD, q⟩ := h
  cases (show v = Value.ref a from rx)
  obtain ⟨mA, M, _⟩ := ins_get I.hok ea
  obtain ⟨od, J, _⟩ := M.look
  have KX := I.kIn
  obtain ⟨t, ty, hnf, hne, hsub⟩ := fg.ty (K := X.K) (C := C)
  have one : wpAny (model X.prog X.w) X.A (tryCompare (.ref a) "__eq__" u) (fun r s' => r = none ∧ ∃ H', Inv X pins σ H' s' ∧ Same H H') X.xe s := by
    unfold tryCompare
    refine wpAny_bind (PySem.W.ifBound_K KX J hs hf (thn (R pins σ H s [.ref a, u] [.ref a, y] I (.cons rfl (.cons ry .nil)) hD) ?_))
    intro z s' ⟨e, rest⟩
    subst e
    exact wpAny_pure ⟨rfl, rest⟩
  show wpAny _ _ (richCompare .Eq (.ref a) u) _ _ _
  unfold richCompare
  simp only [oneThing_ref]
  refine wpAny_holding (wpAny_bind (wpAny_cRoomFor hu (wpAny_bind (J.type.here (wpAny_bind ((looks_ty I ry ty).here ?_))))))
  rw [if_pos (show (Value.ref C != t) = true by rw [bne, BEq.comm, hne] <;> rfl)]
  refine wpAny_bind ((PySem.W.looks_subIn KX hsub).here ?_)
  simp only [Bool.false_eq_true, if_false]
  refine wpAny_bind (wpAny_mono one (fun r s' z => ?_) fun _ _ e => e)
  obtain ⟨rfl, H', I', sm⟩ := z
  dsimp only
  rw [if_pos (show (!false) = true from rfl)]
  refine wpAny_bind (fgn_declines O I' (sm _ _ ea) (fg.same sm) ry ?_)
  dsimp only
  exact wpAny_bind (wpAny_rule (wpAny_bind (fgn_same I' (sm _ _ ea) (fg.same sm) ry (wpAny_pure ⟨.bl false, H', I', rfl, q H' sm⟩))))
end
end SP
/-! != against another kind -/
namespace SP
open PySem PySem.Spec PyProof.Rows L2
section
variable {prog : Program} {w : World} {A : Around} {E : Value → Shared → Prop} {s : Shared} {K : PySem.W.Frag} {x C dx : Addr} {ox : Obj} {od : Option Obj}
theorem int_declinesN {i : Int} {t : Tok} {Q : Option Value → Shared → Prop} (hx : s.heap.get? x = some (PySem.W.instObj C dx)) (q : Q none s) : wpAny (model prog w) A (tryCompare (.int i t) "__ne__" (.ref x)) Q E s := by
  refine wpAny_tryCompare_declines (T := "int") rfl F.slot_int_ne_refl (GQ.call_here F.slot_int_ne_refl rfl F.entry_int_ne (F.args_int_ne_2 _ _) ?_)
  wp_walk using asInt_inst hx
  exact ⟨rfl, q⟩
theorem bool_declinesN {b : Bool} {Q : Option Value → Shared → Prop} (hx : s.heap.get? x = some (PySem.W.instObj C dx)) (q : Q none s) : wpAny (model prog w) A (tryCompare (.bool b) "__ne__" (.ref x)) Q E s := by
  refine wpAny_tryCompare_declines (T := "bool") rfl F.slot_bool_ne_refl (GQ.call_here F.slot_bool_ne_refl rfl F.entry_int_ne (F.args_int_ne_2 _ _) ?_)
  wp_walk using asInt_inst hx
  exact ⟨rfl, q⟩
theorem str_declinesN {z : Str} {t : Tok} {Q : Option Value → Shared → Prop} (hx : s.heap.get? x = some (PySem.W.instObj C dx)) (q : Q none s) : wpAny (model prog w) A (tryCompare (.str z t) "__ne__" (.ref x)) Q E s := by
  refine wpAny_tryCompare_declines (T := "str") rfl F.slot_str_ne_refl (GQ.call_here F.slot_str_ne_refl rfl F.entry_str_ne (F.args_str_ne_2 _ _) ?_)
  show wpAny _ _ (asStr? (.ref x) >>= fun r => match r with | some o => PySem.ret (.bool (z.cps.toList != o.cps.toList)) | none => rule "str.__ne__.not-a-str" >>= fun _ => PySem.ret .notImplemented) _ _ _
  exact wpAny_bind (asStr_inst hx (wpAny_bind (wpAny_rule (wpAny_pure ⟨rfl, q⟩))))
theorem none_declinesN {Q : Option Value → Shared → Prop} (q : Q none s) : wpAny (model prog w) A (tryCompare .none "__ne__" (.ref x)) Q E s :=
  wpAny_tryCompare_declines (show s.TypeIs .none "NoneType" from rfl) F.slot_NoneType_ne_refl (call_gives F.slot_NoneType_ne_refl rfl F.entry_NoneType_ne (F.args_NoneType_ne_2 _ _) (SeqAt.NoneType___ne___none_ref_0 x) ⟨rfl, q⟩)
theorem tuple_declinesN {b : Addr} {ob : Obj} {Q : Option Value → Shared → Prop} (X : K.In s.heap) (I : PySem.W.InstAt s.heap x ox C od) (hb : s.heap.get? b = some ob) (hc : ob.cls = .type "tuple")
    (hs : PySem.W.subIn K (.ref C) (.type "tuple") = some false) (q : Q none s) : wpAny (model prog w) A (tryCompare (.ref b) "__ne__" (.ref x)) Q E s := by
  refine wpAny_tryCompare_declines (T := "tuple") ⟨ob, hb, hc⟩ F.slot_tuple_ne_refl (GQ.call_here F.slot_tuple_ne_refl ⟨ob, hb, hc⟩ F.entry_tuple_ne (F.args_tuple_ne_2 _ _) ?_)
  have no : PySem.W.Looks (model prog w) s.heap (isInstance (.ref x) (.type "tuple")) false := I.type.andThen (PySem.W.looks_subIn X hs)
  refine wpAny_bind (m := isInstance (.ref x) (.type "tuple")) (no.here ?_)
  exact wpAny_pure ⟨rfl, q⟩
theorem list_declinesN {b : Addr} {ob : Obj} {Q : Option Value → Shared → Prop} (X : K.In s.heap) (I : PySem.W.InstAt s.heap x ox C od) (hb : s.heap.get? b = some ob) (hc : ob.cls = .type "list")
    (hs : PySem.W.subIn K (.ref C) (.type "list") = some false) (q : Q none s) : wpAny (model prog w) A (tryCompare (.ref b) "__ne__" (.ref x)) Q E s := by
  refine wpAny_tryCompare_declines (T := "list") ⟨ob, hb, hc⟩ F.slot_list_ne_refl (GQ.call_here F.slot_list_ne_refl ⟨ob, hb, hc⟩ F.entry_list_ne (F.args_list_ne_2 _ _) ?_)
  have no : PySem.W.Looks (model prog w) s.heap (isInstance (.ref x) (.type "list")) false := I.type.andThen (PySem.W.looks_subIn X hs)
  refine wpAny_bind (m := isInstance (.ref x) (.type "list")) (no.here ?_)
  exact wpAny_pure ⟨rfl, q⟩
end
section
variable {X : Cx} {pins : List (Addr × Obj)} {σ : L2.St} {H : Hp} {s : Shared}
theorem fgn_declinesN {C a dx : Addr} {fs : List (Str × V)} {y : V} {u : Value} {E : Value → Shared → Prop} {Q : Option Value → Shared → Prop} (O : FgnOk X.K C) (I : Inv X pins σ H s) (ea : H a = some (.ins C dx fs)) (f : Fgn H y) (ry : RelV y u) (q : Q none s) :
    wpAny (model X.prog X.w) X.A (tryCompare u "__ne__" (.ref a)) Q E s := by
  obtain ⟨mA, M, _⟩ := ins_get I.hok ea
  obtain ⟨od, J, _⟩ := M.look
  have hx : s.heap.get? a = some (PySem.W.instObj C dx) := J.1
  cases f with
  | non => cases (show u = Value.none from ry); exact none_declinesN q
  | bl b => cases (show u = Value.bool b from ry); exact bool_declinesN hx q
  | int i => obtain ⟨t, z⟩ := (show ∃ t, u = Value.int i t from ry); cases z; exact int_declinesN hx q
  | str x => obtain ⟨t, z⟩ := (show ∃ t, u = Value.str x t from ry); cases z; exact str_declinesN hx q
  | @tup b xs e =>
    cases (show u = Value.ref b from ry)
    have ok : ObjOk X.prog X.w H s.heap b (.tup xs) := I.hok b _ e
    obtain ⟨_, _, _, o, h1, h2, _⟩ := ok
    exact tuple_declinesN I.kIn J h1 h2 O.tu q
  | @lst b xs e =>
    cases (show u = Value.ref b from ry)
    have ok : ObjOk X.prog X.w H s.heap b (.lst xs) := I.hok b _ e
    obtain ⟨_, _, n, _, h1⟩ := ok
    exact list_declinesN I.kIn J h1 rfl O.li q
theorem op_neF {C f : Addr} {D : List V → Hp → Prop} (hu : X.A.units + 1 < cLine) (O : FgnOk X.K C) (hs : PySem.W.findIn X.K (.ref C) "__eq__" = some (some (.ref f))) (hn : PySem.W.findIn X.K (.ref C) "__ne__" = some (some (.builtin "object.__ne__")))
    (hm : PySem.W.mroIn X.K C (.type "object") = some true) (hf : PySem.W.isFn X.K (.ref f) = true) (R : RnN (in1 X) f D) : OpR X (compareOp .NotEq) (rEqF C D true) := by
  intro pins s σ H x y v u Q I rx ry h
  obtain ⟨a, dx, fs, rfl, ea, fg, hD, q⟩ := h
  cases (show v = Value.ref a from rx)
  obtain ⟨mA, M, _⟩ := ins_get I.hok ea
  obtain ⟨od, J, _⟩ := M.look
  have KX := I.kIn
  obtain ⟨t, ty, hnf, hne, hsub⟩ := fg.ty (K := X.K) (C := C)
  have one : wpAny (model X.prog X.w) X.A (tryCompare (.ref a) "__ne__" u) (fun r s' => r = none ∧ ∃ H', Inv X pins σ H' s' ∧ Same H H') X.xe s := by
    unfold tryCompare
    refine wpAny_bind (ifBound_objNe KX J hn (ne_body hu KX J hm hs hf (thn (R pins σ H s [.ref a, u] [.ref a, y] (inv_in1 I) (.cons rfl (.cons ry .nil)) hD) ?_)))
    intro z s' ⟨e, H', I', sm⟩
    subst e
    exact .inr ⟨rfl, wpAny_pure ⟨rfl, H', inv_out1 I', sm⟩⟩
  show wpAny _ _ (richCompare .NotEq (.ref a) u) _ _ _
  unfold richCompare
  simp only [oneThing_ref]
  refine wpAny_holding (wpAny_bind (wpAny_cRoomFor (by omega) (wpAny_bind (J.type.here (wpAny_bind ((looks_ty I ry ty).here ?_))))))
  rw [if_pos (show (Value.ref C != t) = true by rw [bne, BEq.comm, hne] <;> rfl)]
  refine wpAny_bind ((PySem.W.looks_subIn KX hsub).here ?_)
  simp only [Bool.false_eq_true, if_false]
  refine wpAny_bind (wpAny_mono one (fun r s' z => ?_) fun _ _ e => e)
  obtain ⟨rfl, H', I', sm⟩ := z
  dsimp only
  rw [if_pos (show (!false) = true from rfl)]
  refine wpAny_bind (fgn_declinesN O I' (sm _ _ ea) (fg.same sm) ry ?_)
  dsimp only
  exact wpAny_bind (wpAny_rule (wpAny_bind (fgn_same I' (sm _ _ ea) (fg.same sm) ry (wpAny_pure ⟨.bl true, H', I', rfl, q H' sm⟩))))
end
end SP
/-! Plain mathematics: Euclid, the terms of a continued fraction and their order. -/
namespace M

/-- the loop of common_divisor -/
def eu (a b : Nat) : Nat := if h : b = 0 then a else eu b (a % b)
termination_by b
decreasing_by exact Nat.mod_lt _ (Nat.pos_of_ne_zero h)
theorem eu_zero (a : Nat) : eu a 0 = a := by rw [eu]; simp
theorem eu_step {a b : Nat} (h : b ≠ 0) : eu a b = eu b (a % b) := by rw [eu]; simp [h]
theorem eu_gcd (a b : Nat) : eu a b = Nat.gcd a b := by
  induction b using Nat.strongRecOn generalizing a with
  | _ b ih =>
    by_cases h : b = 0
    · subst h
      rw [eu_zero, Nat.gcd_zero_right]
    · rw [eu_step h, ih (a % b) (Nat.mod_lt _ (Nat.pos_of_ne_zero h)), Nat.gcd_comm a b, Nat.gcd_rec b a, Nat.gcd_comm]

/-- the tuple by which fractions are sorted; s: 1 or -1 -/
def plc (s t : Int) (b : Nat) : List Int := if h : b = 0 then [s] else 0 :: (s * (t / b)) :: plc (-s) b (t % b).toNat
termination_by b
decreasing_by
  have : (0 : Int) < b := by omega
  have h1 := Int.emod_lt_of_pos t this
  have h2 := Int.emod_nonneg t (show (b : Int) ≠ 0 by omega)
  omega
theorem plc_zero (s t : Int) : plc s t 0 = [s] := by rw [plc]; simp
theorem plc_step {s t : Int} {b : Nat} (h : b ≠ 0) : plc s t b = 0 :: (s * (t / b)) :: plc (-s) b (t % b).toNat := by rw [plc]; simp [h]

/-- the order of tuples of ints -/
def lt : List Int → List Int → Bool
  | [], [] => false
  | [], _ :: _ => true
  | _ :: _, [] => false
  | a :: r, b :: q => if a = b then lt r q else decide (a < b)

theorem mul_lt {a b c : Int} (h : a < b) (hc : 0 < c) : a * c < b * c := Int.mul_lt_mul_of_pos_right h hc

/-- what is compared of two fractions t1/b1, t2/b2 -/
theorem cross_step {t1 t2 q1 q2 r1 r2 b1 b2 : Int} (e1 : t1 = b1 * q1 + r1) (e2 : t2 = b2 * q2 + r2) : t1 * b2 - t2 * b1 = (q1 - q2) * (b1 * b2) + (r1 * b2 - r2 * b1) := by
  subst e1 e2
  simp only [Int.add_mul, Int.sub_mul]
  have h1 : b1 * q1 * b2 = q1 * (b1 * b2) := by
    rw [Int.mul_comm b1 q1, Int.mul_assoc]
  have h2 : b2 * q2 * b1 = q2 * (b1 * b2) := by
    rw [Int.mul_comm b2 q2, Int.mul_assoc, Int.mul_comm b2 b1]
  rw [h1, h2]
  omega
theorem cross_less {q1 q2 r1 r2 b1 b2 : Int} (hb1 : 0 < b1) (hb2 : 0 < b2) (h1 : 0 ≤ r1) (h1' : r1 < b1) (h2 : 0 ≤ r2) (h : q1 < q2) : (q1 - q2) * (b1 * b2) + (r1 * b2 - r2 * b1) < 0 := by
  have a1 : r1 * b2 < b1 * b2 := Int.mul_lt_mul_of_pos_right h1' hb2
  have a2 : 0 ≤ r2 * b1 := Int.mul_nonneg h2 (Int.le_of_lt hb1)
  have a3 : (q1 - q2) * (b1 * b2) ≤ (-1) * (b1 * b2) := Int.mul_le_mul_of_nonneg_right (by omega) (Int.le_of_lt (Int.mul_pos hb1 hb2))
  omega
theorem cross_more {q1 q2 r1 r2 b1 b2 : Int} (hb1 : 0 < b1) (hb2 : 0 < b2) (h1 : 0 ≤ r1) (h2 : 0 ≤ r2) (h2' : r2 < b2) (h : q2 < q1) : 0 < (q1 - q2) * (b1 * b2) + (r1 * b2 - r2 * b1) := by
  have a1 : r2 * b1 < b2 * b1 := Int.mul_lt_mul_of_pos_right h2' hb1
  have a2 : 0 ≤ r1 * b2 := Int.mul_nonneg h1 (Int.le_of_lt hb2)
  have a3 : 1 * (b1 * b2) ≤ (q1 - q2) * (b1 * b2) := Int.mul_le_mul_of_nonneg_right (by omega) (Int.le_of_lt (Int.mul_pos hb1 hb2))
  have a4 := Int.mul_comm b1 b2
  omega

theorem plc_order (b1 : Nat) : ∀ (b2 : Nat) (s t1 t2 : Int), (s = 1 ∨ s = -1) → (b1 = 0 → 0 < t1) → (b2 = 0 → 0 < t2) →
    (lt (plc s t1 b1) (plc s t2 b2) = decide (s * (t1 * b2 - t2 * b1) < 0)) ∧ (plc s t1 b1 = plc s t2 b2 ↔ t1 * b2 - t2 * b1 = 0) := by
  induction b1 using Nat.strongRecOn with
  | _ b1 ih =>
    intro b2 s t1 t2 hs z1 z2
    by_cases h1 : b1 = 0
    · subst h1
      have p1 := z1 rfl
      rw [plc_zero]
      by_cases h2 : b2 = 0
      · subst h2
        rw [plc_zero]
        refine ⟨?_, ?_⟩
        · simp [lt]
        · simp
      · rw [plc_step h2]
        have hb : (0 : Int) < b2 := by omega
        have hp : 0 < t1 * (b2 : Int) := Int.mul_pos p1 hb
        refine ⟨?_, ?_⟩
        · rcases hs with rfl | rfl
          · simp only [lt]
            rw [if_neg (by decide)]
            simp only [Int.mul_zero, Int.one_mul, Int.natCast_zero, Int.sub_zero]
            rw [decide_eq_false (by decide), decide_eq_false (by omega)]
          · simp only [lt]
            rw [if_neg (by decide)]
            simp only [Int.mul_zero, Int.natCast_zero, Int.sub_zero]
            rw [decide_eq_true (by decide), decide_eq_true (by omega)]
        · constructor
          · intro e
            injection e with e1 _
            rcases hs with rfl | rfl
            · exact absurd e1 (by decide)
            · exact absurd e1 (by decide)
          · intro e
            simp only [Int.mul_zero, Int.natCast_zero, Int.sub_zero] at e
            omega
    · have hb1 : (0 : Int) < b1 := by omega
      rw [plc_step h1]
      by_cases h2 : b2 = 0
      · subst h2
        have p2 := z2 rfl
        rw [plc_zero]
        have hp : 0 < t2 * (b1 : Int) := Int.mul_pos p2 hb1
        refine ⟨?_, ?_⟩
        · rcases hs with rfl | rfl
          · simp only [lt]
            rw [if_neg (by decide)]
            simp only [Int.mul_zero, Int.one_mul, Int.natCast_zero, Int.zero_sub]
            rw [decide_eq_true (by decide), decide_eq_true (by omega)]
          · simp only [lt]
            rw [if_neg (by decide)]
            simp only [Int.mul_zero, Int.natCast_zero, Int.zero_sub]
            rw [decide_eq_false (by decide), decide_eq_false (by omega)]
        · constructor
          · intro e
            injection e with e1 _
            rcases hs with rfl | rfl
            · exact absurd e1 (by decide)
            · exact absurd e1 (by decide)
          · intro e
            simp only [Int.mul_zero, Int.natCast_zero, Int.zero_sub] at e
            omega
      · have hb2 : (0 : Int) < b2 := by omega
        rw [plc_step h2]
        have r1n := Int.emod_nonneg t1 (show (b1 : Int) ≠ 0 by omega)
        have r1l := Int.emod_lt_of_pos t1 hb1
        have r2n := Int.emod_nonneg t2 (show (b2 : Int) ≠ 0 by omega)
        have r2l := Int.emod_lt_of_pos t2 hb2
        have e1 : t1 = b1 * (t1 / b1) + t1 % b1 := (Int.mul_ediv_add_emod t1 b1).symm
        have e2 : t2 = b2 * (t2 / b2) + t2 % b2 := (Int.mul_ediv_add_emod t2 b2).symm
        have cs := cross_step e1 e2
        have c1 : ((t1 % (b1 : Int)).toNat : Int) = t1 % b1 := Int.toNat_of_nonneg r1n
        have c2 : ((t2 % (b2 : Int)).toNat : Int) = t2 % b2 := Int.toNat_of_nonneg r2n
        have ihh := ih (t1 % (b1 : Int)).toNat (by omega) (t2 % (b2 : Int)).toNat (-s) b1 b2 (by omega) (fun _ => hb1) (fun _ => hb2)
        rw [c1, c2] at ihh
        obtain ⟨r1, r2⟩ := ihh
        have com1 := Int.mul_comm (b1 : Int) (t2 % b2)
        have com2 := Int.mul_comm (b2 : Int) (t1 % b1)
        generalize hq1 : t1 / (b1 : Int) = q1 at *
        generalize hq2 : t2 / (b2 : Int) = q2 at *
        have ltt : lt (0 :: (s * q1) :: plc (-s) b1 (t1 % (b1 : Int)).toNat) (0 :: (s * q2) :: plc (-s) b2 (t2 % (b2 : Int)).toNat)
            = if s * q1 = s * q2 then lt (plc (-s) b1 (t1 % (b1 : Int)).toNat) (plc (-s) b2 (t2 % (b2 : Int)).toNat) else decide (s * q1 < s * q2) := by
          simp only [lt, if_true]
        rw [ltt]
        by_cases hq : q1 = q2
        · subst hq
          rw [if_pos rfl, r1]
          have z : (q1 - q1) * ((b1 : Int) * b2) = 0 := by rw [Int.sub_self, Int.zero_mul]
          rw [z] at cs
          refine ⟨?_, ?_⟩
          · rcases hs with rfl | rfl
            · congr 1
              apply propext
              constructor <;> intro h <;> omega
            · congr 1
              apply propext
              constructor <;> intro h <;> omega
          · constructor
            · intro e
              injection e with _ e
              injection e with _ e
              have := r2.mp e
              omega
            · intro e
              have : (b1 : Int) * (t2 % b2) - b2 * (t1 % b1) = 0 := by omega
              rw [r2.mpr this]
        · have hsq : ¬ s * q1 = s * q2 := by
            rcases hs with rfl | rfl <;> omega
          rw [if_neg hsq]
          rcases Int.lt_or_gt_of_ne hq with hl | hl
          · have cl := cross_less hb1 hb2 r1n r1l r2n hl
            refine ⟨?_, ?_⟩
            · rcases hs with rfl | rfl
              · congr 1
                apply propext
                constructor <;> intro h <;> omega
              · congr 1
                apply propext
                constructor <;> intro h <;> omega
            · constructor
              · intro e
                injection e with _ e
                injection e with e _
                exact absurd e hsq
              · intro e
                omega
          · have cl := cross_more hb1 hb2 r1n r2n r2l hl
            refine ⟨?_, ?_⟩
            · rcases hs with rfl | rfl
              · congr 1
                apply propext
                constructor <;> intro h <;> omega
              · congr 1
                apply propext
                constructor <;> intro h <;> omega
            · constructor
              · intro e
                injection e with _ e
                injection e with e _
                exact absurd e hsq
              · intro e
                omega
/-- a step of Euclid halves the product -/
theorem step_bound {t m j B : Nat} (hm : 0 < m) (h : m < t) (hj : 1 ≤ j) (hp : t * m * 2 ^ (j - 1) < 2 ^ B) : m * (t % m) * 2 ^ j < 2 ^ B ∧ j ≤ B := by
  have h1 : t % m < m := Nat.mod_lt _ hm
  have h2 : t % m + m ≤ t := by
    have e := Nat.mod_add_div t m
    have d : 1 ≤ t / m := (Nat.one_le_div_iff hm).mpr (Nat.le_of_lt h)
    have : m * 1 ≤ m * (t / m) := Nat.mul_le_mul_left m d
    omega
  have h3 : t % m * 2 ≤ t := by omega
  have e : 2 ^ j = 2 * 2 ^ (j - 1) := by
    have : j = (j - 1) + 1 := by omega
    rw [this, Nat.pow_succ, Nat.mul_comm]
    simp
  refine ⟨?_, ?_⟩
  · have : m * (t % m) * 2 ^ j ≤ t * m * 2 ^ (j - 1) := by
      rw [e]
      have r : m * (t % m) * (2 * 2 ^ (j - 1)) = (t % m * 2) * m * 2 ^ (j - 1) := by
        rw [← Nat.mul_assoc, Nat.mul_comm m (t % m), Nat.mul_assoc (t % m) m 2, Nat.mul_comm m 2, ← Nat.mul_assoc]
      rw [r]
      exact Nat.mul_le_mul_right _ (Nat.mul_le_mul_right _ h3)
    omega
  · have q : 1 * 2 ^ (j - 1) ≤ t * m * 2 ^ (j - 1) := Nat.mul_le_mul_right _ (Nat.mul_pos (by omega) hm)
    have : 2 ^ (j - 1) < 2 ^ B := by omega
    have := (Nat.pow_lt_pow_iff_right (by decide : 1 < 2)).mp this
    omega
/-! ### a fraction near another one: Euclid with the factors -/
structure NearI (tp bt old new was here : Int) : Prop where
  e1 : ∃ k, new * tp - here = bt * k
  e2 : ∃ k, old * tp - was = bt * k
  g : Int.gcd was here = 1
  h0 : 0 ≤ here
  hw : here < was
  w1 : 1 < was
  wb : was ≤ bt
  sm : (old.natAbs : Int) * here + (new.natAbs : Int) * was ≤ bt
theorem NearI.start {tp bt : Int} (hb : 1 < bt) (hg : Int.gcd tp bt = 1) : NearI tp bt 0 1 bt (tp % bt) := by
  have r0 := Int.emod_nonneg tp (show bt ≠ 0 by omega)
  have r1 := Int.emod_lt_of_pos tp (show 0 < bt by omega)
  refine ⟨⟨tp / bt, ?_⟩, ⟨-1, ?_⟩, ?_, r0, r1, hb, Int.le_refl _, ?_⟩
  · have := Int.mul_ediv_add_emod tp bt
    omega
  · rw [Int.zero_mul, Int.mul_neg, Int.mul_one]
    omega
  · rw [Int.gcd_comm, Int.emod_def, Int.gcd_comm]
    have : tp - bt * (tp / bt) = tp + bt * (-(tp / bt)) := by rw [Int.mul_neg]; omega
    rw [this, Int.gcd_comm, Int.gcd_add_mul_left_left]
    exact hg
  · simp
theorem NearI.step {tp bt old new was here : Int} (I : NearI tp bt old new was here) (h : 1 < here) : NearI tp bt new (old - was / here * new) here (was - was / here * here) := by
  obtain ⟨⟨k1, e1⟩, ⟨k2, e2⟩, g, h0, hw, w1, wb, sm⟩ := I
  have hr : was - was / here * here = was % here := by
    have := Int.mul_ediv_add_emod was here
    rw [Int.mul_comm (was / here) here]
    omega
  have r0 := Int.emod_nonneg was (show here ≠ 0 by omega)
  have r1 := Int.emod_lt_of_pos was (show 0 < here by omega)
  have q0 : 0 ≤ was / here := Int.ediv_nonneg (by omega) (by omega)
  refine ⟨⟨k2 - was / here * k1, ?_⟩, ⟨k1, e1⟩, ?_, by omega, by omega, h, by omega, ?_⟩
  · have a1 : (old - was / here * new) * tp = old * tp - was / here * (new * tp) := by rw [Int.sub_mul, Int.mul_assoc]
    have a2 : bt * (k2 - was / here * k1) = bt * k2 - was / here * (bt * k1) := by
      rw [Int.mul_sub, ← Int.mul_assoc, ← Int.mul_assoc, Int.mul_comm bt (was / here)]
    rw [a1, a2, ← e1, ← e2, Int.mul_sub]
    omega
  · rw [hr, Int.emod_def]
    have : was - here * (was / here) = was + here * (-(was / here)) := by rw [Int.mul_neg]; omega
    rw [this, Int.gcd_comm, Int.gcd_add_mul_left_left]
    exact g
  · have b1 : ((old - was / here * new).natAbs : Int) ≤ old.natAbs + was / here * new.natAbs := by
      have c1 : (old - was / here * new).natAbs ≤ old.natAbs + (was / here * new).natAbs := by omega
      have c2 : ((was / here * new).natAbs : Int) = was / here * new.natAbs := by
        rw [Int.natAbs_mul, Int.natCast_mul, Int.natAbs_of_nonneg q0]
      omega
    have b2 : ((old - was / here * new).natAbs : Int) * here ≤ (old.natAbs + was / here * new.natAbs) * here := Int.mul_le_mul_of_nonneg_right b1 (by omega)
    have b3 : (new.natAbs : Int) * (was - was / here * here) = new.natAbs * was - was / here * new.natAbs * here := by
      rw [Int.mul_sub, ← Int.mul_assoc, Int.mul_comm (new.natAbs : Int) (was / here)]
    rw [Int.add_mul] at b2
    rw [b3]
    omega
theorem NearI.small {tp bt old new was here : Int} (I : NearI tp bt old new was here) : new.natAbs ≤ bt.natAbs ∧ old.natAbs * here.natAbs ≤ bt.natAbs := by
  obtain ⟨_, _, _, h0, hw, w1, wb, sm⟩ := I
  have a1 : 0 ≤ (old.natAbs : Int) * here := Int.mul_nonneg (by omega) h0
  have a2 : (new.natAbs : Int) * 1 ≤ new.natAbs * was := Int.mul_le_mul_of_nonneg_left (by omega) (by omega)
  have a3 : 0 ≤ (new.natAbs : Int) * was := Int.mul_nonneg (by omega) (by omega)
  refine ⟨by omega, ?_⟩
  have : ((old.natAbs * here.natAbs : Nat) : Int) = (old.natAbs : Int) * here := by
    rw [Int.natCast_mul, Int.natAbs_of_nonneg h0]
  omega
/-- at the loop's end -/
theorem NearI.done {tp bt old new was here s : Int} (I : NearI tp bt old new was here) (h : ¬ 1 < here) (hs : s = 1 ∨ s = -1) : (new * s) % bt ≠ 0 := by
  obtain ⟨⟨k1, e1⟩, _, g, h0, hw, w1, wb, sm⟩ := I
  have one : here = 1 := by
    rcases Int.lt_or_le 0 here with z | z
    · omega
    · have : here = 0 := by omega
      subst this
      rw [Int.gcd_zero_right] at g
      omega
  subst one
  intro z
  obtain ⟨c, hc⟩ := Int.dvd_of_emod_eq_zero z
  have d : bt ∣ new := by
    rcases hs with rfl | rfl
    · exact ⟨c, by omega⟩
    · exact ⟨-c, by rw [Int.mul_neg]; omega⟩
  obtain ⟨c, hc⟩ := d
  have : bt * (c * tp - k1) = 1 := by
    rw [Int.mul_sub, ← Int.mul_assoc, ← hc]
    omega
  have hd : bt ∣ 1 := ⟨_, this.symm⟩
  have := Int.le_of_dvd (by decide) hd
  omega
end M
/-! Tuples of ints compared; great divisors of any sign. -/
namespace SP
open PySem PySem.Spec PyProof.Rows L2
/-! ### lexAt as the order of lists -/
theorem lexAt_shift {e r : Nat → Bool} {z : Bool} : ∀ (k i : Nat), Ob.lexAt e r z (i + 1) k = Ob.lexAt (fun j => e (j + 1)) (fun j => r (j + 1)) z i k
  | 0, i => rfl
  | k + 1, i => by
    rw [Ob.lexAt_succ, Ob.lexAt_succ, lexAt_shift k (i + 1)]
theorem lex_gen {rel : Int → Int → Bool} {z : Nat → Nat → Bool} {F : List Int → List Int → Bool} (h0 : ∀ ns, F [] ns = z 0 ns.length) (h1 : ∀ ns, F ns [] = z ns.length 0) (hz : ∀ i j, z (i + 1) (j + 1) = z i j)
    (hc : ∀ a r b q, F (a :: r) (b :: q) = if a = b then F r q else rel a b) : ∀ ns ms : List Int,
    Ob.lexAt (fun j => decide (ns.getD j 0 = ms.getD j 0)) (fun j => rel (ns.getD j 0) (ms.getD j 0)) (z ns.length ms.length) 0 (min ns.length ms.length) = F ns ms
  | [], ms => by
    rw [h0]
    show Ob.lexAt _ _ _ 0 (min 0 ms.length) = _
    rw [Nat.zero_min, Ob.lexAt_zero] <;> rfl
  | a :: r, [] => by
    rw [h1]
    show Ob.lexAt _ _ _ 0 (min (a :: r).length 0) = _
    rw [Nat.min_zero, Ob.lexAt_zero] <;> rfl
  | a :: r, b :: q => by
    have ih := lex_gen h0 h1 hz hc r q
    have e : min (a :: r).length (b :: q).length = min r.length q.length + 1 := by
      show min (r.length + 1) (q.length + 1) = _
      omega
    rw [e, Ob.lexAt_succ, lexAt_shift, hc]
    have e2 : z (a :: r).length (b :: q).length = z r.length q.length := hz _ _
    rw [e2]
    by_cases h : a = b
    · have d : decide ((a :: r).getD 0 0 = (b :: q).getD 0 0) = true := by simpa using h
      rw [if_pos d, if_pos h, ← ih] <;> rfl
    · have d : ¬ decide ((a :: r).getD 0 0 = (b :: q).getD 0 0) = true := by simpa using h
      rw [if_neg d, if_neg h] <;> rfl
theorem lt_nil_l (ns : List Int) : M.lt [] ns = decide (0 < ns.length) := by cases ns <;> rfl
theorem lt_nil_r (ns : List Int) : M.lt ns [] = decide (ns.length < 0) := by cases ns <;> simp [M.lt]
theorem lt_cons (a : Int) (r : List Int) (b : Int) (q : List Int) : M.lt (a :: r) (b :: q) = if a = b then M.lt r q else decide (a < b) := rfl
theorem lex_lt (ns ms : List Int) : Ob.lexAt (fun j => decide (ns.getD j 0 = ms.getD j 0)) (fun j => decide (ns.getD j 0 < ms.getD j 0)) (decide (ns.length < ms.length)) 0 (min ns.length ms.length) = M.lt ns ms :=
  lex_gen (rel := fun a b => decide (a < b)) (z := fun i j => decide (i < j)) (F := M.lt) lt_nil_l lt_nil_r (fun i j => by simp) lt_cons ns ms
theorem lex_gt (ns ms : List Int) : Ob.lexAt (fun j => decide (ns.getD j 0 = ms.getD j 0)) (fun j => decide (ms.getD j 0 < ns.getD j 0)) (decide (ns.length > ms.length)) 0 (min ns.length ms.length) = M.lt ms ns :=
  lex_gen (rel := fun a b => decide (b < a)) (z := fun i j => decide (i > j)) (F := fun a b => M.lt b a) (fun ns => by rw [lt_nil_r]) (fun ns => by rw [lt_nil_l]) (fun i j => by simp)
    (fun a r b q => by rw [lt_cons]; by_cases h : a = b <;> simp [h, eq_comm]) ns ms
theorem lex_le (ns ms : List Int) : Ob.lexAt (fun j => decide (ns.getD j 0 = ms.getD j 0)) (fun j => decide (ns.getD j 0 ≤ ms.getD j 0)) (decide (ns.length ≤ ms.length)) 0 (min ns.length ms.length) = !M.lt ms ns :=
  lex_gen (rel := fun a b => decide (a ≤ b)) (z := fun i j => decide (i ≤ j)) (F := fun a b => !M.lt b a) (fun ns => by rw [lt_nil_r]; simp) (fun ns => by rw [lt_nil_l]; cases ns <;> simp) (fun i j => by simp)
    (fun a r b q => by
      rw [lt_cons]
      by_cases h : a = b
      · simp [h]
      · have h' : ¬ b = a := fun e => h e.symm
        rw [if_neg h, if_neg h', ← decide_not]
        congr 1
        apply propext
        constructor <;> intro k <;> omega) ns ms
theorem lex_ge (ns ms : List Int) : Ob.lexAt (fun j => decide (ns.getD j 0 = ms.getD j 0)) (fun j => decide (ms.getD j 0 ≤ ns.getD j 0)) (decide (ns.length ≥ ms.length)) 0 (min ns.length ms.length) = !M.lt ns ms :=
  lex_gen (rel := fun a b => decide (b ≤ a)) (z := fun i j => decide (i ≥ j)) (F := fun a b => !M.lt a b) (fun ns => by rw [lt_nil_l]; cases ns <;> simp) (fun ns => by rw [lt_nil_r]; simp) (fun i j => by simp)
    (fun a r b q => by
      rw [lt_cons]
      by_cases h : a = b
      · simp [h]
      · rw [if_neg h, if_neg h, ← decide_not]
        congr 1
        apply propext
        constructor <;> intro k <;> omega) ns ms
def rOrd (K : PySem.W.Frag) (F : List Int → List Int → Bool) : R2 := fun x y H Q => ∃ (a b : Addr) (ns ms : List Int), x = .ref a ∧ y = .ref b ∧ SqT K H a (ns.map V.int) ∧ SqT K H b (ms.map V.int) ∧ Q (.bl (F ns ms)) H
theorem op_ord {X : Cx} {op : CmpOp} {rel : Int → Int → Bool} {z : Nat → Nat → Bool} {F : List Int → List Int → Bool} (hop : ∀ a b, compareOp op a b = richCompare op a b) (hu : X.A.units < cLine)
    (T : ∀ {A : Around} {s : Shared} {l b : Addr} {items items2 : Array Value} {e r : Nat → Bool}, s.heap.IsTuple l items → s.heap.IsTuple b items2 → A.units < cLine → (∀ j (h1 : j < items.size) (h2 : j < items2.size), SeqAt.EqAt A.in1 s items[j] items2[j] (e j)) →
      (∀ j (h1 : j < items.size) (h2 : j < items2.size), e j = false → Ob.RcOp op A.in1 s items[j] items2[j] (r j)) → Ob.RcOp op A s (.ref l) (.ref b) (Ob.lexAt e r (z items.size items2.size) 0 (min items.size items2.size)))
    (N : ∀ {A : Around} {s : Shared} (a b : Int) (t u : Tok), Ob.RcOp op A s (.int a t) (.int b u) (rel a b))
    (L : ∀ ns ms : List Int, Ob.lexAt (fun j => decide (ns.getD j 0 = ms.getD j 0)) (fun j => rel (ns.getD j 0) (ms.getD j 0)) (z ns.length ms.length) 0 (min ns.length ms.length) = F ns ms) : OpR X (compareOp op) (rOrd X.K F) := by
  intro pins s σ H x y v u Q I rx ry h
  obtain ⟨a, b, ns, ms, rfl, rfl, ha, hb, q⟩ := h
  cases (show v = Value.ref a from rx)
  cases (show u = Value.ref b from ry)
  obtain ⟨its, r1, p1, _⟩ := I.tuple ha
  obtain ⟨its2, r2, p2, _⟩ := I.tuple hb
  have i1 : IntsAre its ns := Vals.ints r1
  have i2 : IntsAre its2 ms := Vals.ints r2
  have e1 : its.toArray.size = ns.length := by rw [List.size_toArray]; exact i1.length
  have e2 : its2.toArray.size = ms.length := by rw [List.size_toArray]; exact i2.length
  have R := T (A := X.A) (s := s) (e := fun j => decide (ns.getD j 0 = ms.getD j 0)) (r := fun j => rel (ns.getD j 0) (ms.getD j 0)) p1 p2 hu
    (fun j h1 h2 => by
      obtain ⟨t, et⟩ := PyProof.Rows.IntsAre.int_at i1 j its.toArray[j] (by simp at h1; simp [h1])
      obtain ⟨t', et'⟩ := PyProof.Rows.IntsAre.int_at i2 j its2.toArray[j] (by simp at h2; simp [h2])
      rw [et, et', ← Bool.beq_eq_decide_eq]
      exact SeqAt.EqAt.int_int _ _ _ _)
    (fun j h1 h2 _ => by
      obtain ⟨t, et⟩ := PyProof.Rows.IntsAre.int_at i1 j its.toArray[j] (by simp at h1; simp [h1])
      obtain ⟨t', et'⟩ := PyProof.Rows.IntsAre.int_at i2 j its2.toArray[j] (by simp at h2; simp [h2])
      rw [et, et']
      exact N _ _ _ _)
  rw [e1, e2, L] at R
  rw [hop]
  exact R _ _ _ _ ⟨.bl _, H, I, rfl, q⟩
section
variable {X : Cx}
theorem op_ltI (hu : X.A.units < cLine) : OpR X (compareOp .Lt) (rOrd X.K M.lt) := op_ord (z := fun i j => decide (i < j)) (fun _ _ => rfl) hu Ob.RcOp.tuples_lt Ob.RcOp.lt_int lex_lt
theorem op_gtI (hu : X.A.units < cLine) : OpR X (compareOp .Gt) (rOrd X.K fun a b => M.lt b a) := op_ord (z := fun i j => decide (i > j)) (fun _ _ => rfl) hu Ob.RcOp.tuples_gt Ob.RcOp.gt_int lex_gt
theorem op_leI (hu : X.A.units < cLine) : OpR X (compareOp .LtE) (rOrd X.K fun a b => !M.lt b a) := op_ord (z := fun i j => decide (i ≤ j)) (fun _ _ => rfl) hu Ob.RcOp.tuples_le Ob.RcOp.le_int lex_le
theorem op_geI (hu : X.A.units < cLine) : OpR X (compareOp .GtE) (rOrd X.K fun a b => !M.lt a b) := op_ord (z := fun i j => decide (i ≥ j)) (fun _ _ => rfl) hu Ob.RcOp.tuples_ge Ob.RcOp.ge_int lex_ge
end
/-! ### == of tuples of ints -/
theorem eqv_ints : ∀ ns ms : List Int, PyData.eqvAll (ns.map PyData.int) (ms.map PyData.int) = decide (ns = ms)
  | [], [] => rfl
  | [], b :: q => rfl
  | a :: r, [] => rfl
  | a :: r, b :: q => by
    show (a == b && PyData.eqvAll (r.map PyData.int) (q.map PyData.int)) = _
    rw [eqv_ints r q]
    by_cases h : a = b <;> simp [h]
theorem dp_ints {K : PySem.W.Frag} {H : Hp} : ∀ ns : List Int, DpAll K H (ns.map V.int) (ns.map PyData.int)
  | [] => .nil
  | a :: r => .cons (.int a) (dp_ints r)
theorem can_ints : ∀ ns : List Int, PyData.canLayAll0 (ns.map PyData.int) = true
  | [] => by simp [PyData.canLayAll0]
  | a :: r => by
    show (PyData.canLay0 (.int a) && PyData.canLayAll0 (r.map PyData.int)) = true
    rw [can_ints r]
    simp [PyData.canLay0]
theorem depth_ints : ∀ ns : List Int, PyData.depthAll (ns.map PyData.int) = 0
  | [] => by simp [PyData.depthAll]
  | a :: r => by
    show max (PyData.depth (.int a)) (PyData.depthAll (r.map PyData.int)) = 0
    rw [depth_ints r]
    simp [PyData.depth]
theorem shaped_ints (ns : List Int) : SeqAt.shaped (.tuple (ns.map PyData.int)) = true := by
  have e1 : PyData.canLay0 (.tuple (ns.map PyData.int)) = true := by
    show PyData.canLayAll0 _ = true
    exact can_ints ns
  have e2 : PyData.depth (.tuple (ns.map PyData.int)) = 1 := by
    show PyData.depthAll _ + 1 = 1
    rw [depth_ints]
  unfold SeqAt.shaped
  rw [e1, e2]
  rfl
def rEqI (K : PySem.W.Frag) : R2 := fun x y H Q => ∃ (a b : Addr) (ns ms : List Int), x = .ref a ∧ y = .ref b ∧ SqT K H a (ns.map V.int) ∧ SqT K H b (ms.map V.int) ∧ Q (.bl (decide (ns = ms))) H
theorem op_eqI {X : Cx} (hu : X.A.units + 64 < cLine) : OpR X (compareOp .Eq) (rEqI X.K) := by
  intro pins s σ H x y v u Q I rx ry h
  obtain ⟨a, b, ns, ms, rfl, rfl, ha, hb, q⟩ := h
  refine op_eqD hu pins s σ H _ _ v u Q I rx ry ⟨.tuple (ns.map PyData.int), .tuple (ms.map PyData.int), .tup ha (dp_ints ns), .tup hb (dp_ints ms), shaped_ints ns, shaped_ints ms, ?_⟩
  have e : PyData.eqv (.tuple (ns.map PyData.int)) (.tuple (ms.map PyData.int)) = decide (ns = ms) := eqv_ints ns ms
  rw [e]
  exact q
/-! ### floor division by a great divisor of any sign -/
def CDivA (i j : Int) : Prop := j ≠ 0 ∧ j.natAbs.log2 < 9000
theorem op_fdivA {X : Cx} : OpR X (binaryOp .FloorDiv) (rI CDivA fun i j => .int (i.fdiv j)) := opI fun i j _ _ _ _ _ hc q => floordiv_int hc.1 q (.inl (PyProof.noPylong_of_log2 hc.2))
end SP
/-! Defs of the module by their names; heaps that keep all but one object. -/
namespace SP
open PySem PySem.Spec PyProof.Rows L2
section
variable {P : Program} {w : World} {K : PySem.W.Frag} {mg : Str → Option Value} {base : Heap}
/-- the module's name x holds a def that keeps the promise sp -/
structure DefG (P : Program) (w : World) (K : PySem.W.Frag) (mg : Str → Option Value) (base : Heap) (k : Nat) (x : Str) (ps : List Str) (sp : Sp) : Prop where
  ex : ∃ (f : Addr) (fd : FuncData), mg x = some (.ref f) ∧ PySem.W.keepIn K (.ref f) = true ∧ FnG P w K mg base CX0 k f fd ps sp ∧ Binds K fd ps []
theorem okG0 {x qual : Str} {st : Stmt} {f : Addr} {fd : FuncData} {N ps : List Str} {k : Nat} {sp : Sp} (F : Fun K x qual st f fd) (S : FnScope N ps (defScope st)) (len : ∀ vs H Q E, sp vs H Q E → vs.length = ps.length)
    (hbody : ∀ (cdv : Value) (A : Around) (out : List Env) (s : Shared) (H : Hp) (vs : List V) (Q : VK) (E : XK), A.guards = some [] → Room k (A.deeper (envOfC qual (defScope st) s.heap.objs.size f cdv)) → sp vs H Q E →
      ∃ t, PSs (cxOf CX0 P w K mg base N qual (defScope st) f cdv A out s H E).nox (defBody st) t ∧ t { nx := fun _ H' => Q .non H', rt := Q } (start N vs) H) : FnG P w K mg base CX0 (k + 1) f fd ps sp :=
  okG F S len fun cdv A out s H vs Q E gd hr h => let ⟨t, a, b⟩ := hbody cdv A out s H vs Q E gd hr h; ⟨t, a.nox, b⟩
/-- a def of the module: where it stands, its function object -/
structure Top (K : PySem.W.Frag) (mg : Str → Option Value) (x : Str) (st : Stmt) (ps : List Str) : Prop where
  ex : ∃ (f : Addr) (fd : FuncData), mg x = some (.ref f) ∧ Fun K x x st f fd ∧ Binds K fd ps []
theorem Top.ok {x : Str} {st : Stmt} {N ps : List Str} {k : Nat} {sp : Sp} (T : Top K mg x st ps) (S : FnScope N ps (defScope st)) (len : ∀ vs H Q E, sp vs H Q E → vs.length = ps.length)
    (hbody : ∀ (f : Addr) (cdv : Value) (A : Around) (out : List Env) (s : Shared) (H : Hp) (vs : List V) (Q : VK) (E : XK), A.guards = some [] → Room k (A.deeper (envOfC x (defScope st) s.heap.objs.size f cdv)) → sp vs H Q E →
      ∃ t, PSs (cxOf CX0 P w K mg base N x (defScope st) f cdv A out s H E).nox (defBody st) t ∧ t { nx := fun _ H' => Q .non H', rt := Q } (start N vs) H) : DefG P w K mg base (k + 1) x ps sp := by
  obtain ⟨f, fd, hm, F, hb⟩ := T.ex
  exact ⟨f, fd, hm, F.kp, okG0 F S len (hbody f), hb⟩
/-- the same, whatever runs around -/
structure DefO (P : Program) (w : World) (K : PySem.W.Frag) (mg : Str → Option Value) (base : Heap) (k : Nat) (x : Str) (ps : List Str) (sp : Sp) : Prop where
  ex : ∃ (f : Addr) (fd : FuncData), mg x = some (.ref f) ∧ PySem.W.keepIn K (.ref f) = true ∧ FnOk P w K mg base CX0 k f fd ps sp ∧ Binds K fd ps []
theorem DefO.g {k : Nat} {x : Str} {ps : List Str} {sp : Sp} (D : DefO P w K mg base k x ps sp) : DefG P w K mg base k x ps sp := let ⟨f, fd, a, b, F, c⟩ := D.ex; ⟨f, fd, a, b, .of F, c⟩
theorem Top.okO {x : Str} {st : Stmt} {N ps : List Str} {k : Nat} {sp : Sp} (T : Top K mg x st ps) (S : FnScope N ps (defScope st)) (len : ∀ vs H Q E, sp vs H Q E → vs.length = ps.length)
    (hbody : ∀ (f : Addr) (cdv : Value) (A : Around) (out : List Env) (s : Shared) (H : Hp) (vs : List V) (Q : VK) (E : XK), Room k (A.deeper (envOfC x (defScope st) s.heap.objs.size f cdv)) → sp vs H Q E →
      ∃ t, PSs (cxOf CX0 P w K mg base N x (defScope st) f cdv A out s H E).nox (defBody st) t ∧ t { nx := fun _ H' => Q .non H', rt := Q } (start N vs) H) : DefO P w K mg base (k + 1) x ps sp := by
  obtain ⟨f, fd, hm, F, hb⟩ := T.ex
  exact ⟨f, fd, hm, F.kp, F.ok S len (hbody f), hb⟩
end
section
variable {X : Cx} {k : Nat} {x : Str} {ps : List Str} {sp : Sp} {e : Expr} {es : List Expr} {t : TA} {p pos : Pos}
theorem pe_callD (D : DefG X.prog X.w X.K X.mg X.base k x ps sp) (gd : X.A.guards = some []) (hr : Room k X.A) (ha : PA X (e :: es) t) (hg : Gl X x := by rfl) (hdb : (x == ("__debug__" : Str)) = false := by decide)
    (hst : starEach (e :: es) X.env = (false, eval e X.env) :: starEach es X.env := by rfl) (hpl : (backTo pos (starEach es X.env)).any (·.1) = false := by rfl) : PE X (.Call (.Name x p) (e :: es) [] pos) (tCall sp [] E0 t) := by
  obtain ⟨f, fd, hm, hk, F, hb⟩ := D.ex
  exact pe_callC (rn_g F gd hr hb .nil pass0) hm hk ha hg hdb hst hpl
theorem pe_callD0 (D : DefG X.prog X.w X.K X.mg X.base k x ps sp) (gd : X.A.guards = some []) (hr : Room k X.A) (hg : Gl X x := by rfl) (hdb : (x == ("__debug__" : Str)) = false := by decide) : PE X (.Call (.Name x p) [] [] pos) (tCall sp [] E0 tNil) := by
  obtain ⟨f, fd, hm, hk, F, hb⟩ := D.ex
  exact pe_callC0 (rn_g F gd hr hb .nil pass0) hm hk hg hdb
theorem pe_callO (D : DefO X.prog X.w X.K X.mg X.base k x ps sp) (hr : Room k X.A) (ha : PA X (e :: es) t) (hg : Gl X x := by rfl) (hdb : (x == ("__debug__" : Str)) = false := by decide)
    (hst : starEach (e :: es) X.env = (false, eval e X.env) :: starEach es X.env := by rfl) (hpl : (backTo pos (starEach es X.env)).any (·.1) = false := by rfl) : PE X (.Call (.Name x p) (e :: es) [] pos) (tCall sp [] E0 t) := by
  obtain ⟨f, fd, hm, hk, F, hb⟩ := D.ex
  exact pe_callC (rn_of F hr hb .nil pass0) hm hk ha hg hdb hst hpl
/-- a stronger reading -/
theorem pe_imp {e : Expr} {t t' : TE} (h : PE X e t) (i : ∀ σ H Q, t' σ H Q → t σ H Q) : PE X e t' := ⟨fun pins s σ H Q I q => h.run pins s σ H Q I (i σ H Q q)⟩
end

/-! ### heaps -/
/-- all tracked objects but the one at p are as they were -/
def Kp (p : Addr) (H H' : Hp) : Prop := ∀ b o, H b = some o → b ≠ p → H' b = some o
theorem Kp.refl (p : Addr) (H : Hp) : Kp p H H := fun _ _ h _ => h
theorem Kp.trans {p : Addr} {H H1 H2 : Hp} (a : Kp p H H1) (b : Kp p H1 H2) : Kp p H H2 := fun c o h n => b c o (a c o h n) n
theorem Kp.of {p : Addr} {H H' : Hp} (s : Same H H') : Kp p H H' := fun b o h _ => s b o h
theorem Kp.upd {p : Addr} {H : Hp} {o : HO} : Kp p H (upd H p o) := fun b u h n => by rw [upd_ne n]; exact h
theorem Kp.new {p q : Addr} {H : Hp} {o : HO} (h : H q = none) : Kp p H (L2.upd H q o) := fun b u e _ => by rw [upd_ne (ne_of_none e h)]; exact e
theorem Same.new {q : Addr} {H : Hp} {o : HO} (h : H q = none) : Same H (L2.upd H q o) := fun b u e => by rw [upd_ne (ne_of_none e h)]; exact e
theorem Same.tup {K : PySem.W.Frag} {H H' : Hp} {a : Addr} {xs : List V} (e : Same H H') (h : SqT K H a xs) : SqT K H' a xs := by
  rcases h with (h | ⟨o, h⟩) | h
  · exact .inl (.inl (e _ _ h))
  · exact .inl (.inr ⟨o, e _ _ h⟩)
  · exact .inr h
/-- an object that is no list stands where only a list may have changed -/
theorem Kp.get {p b : Addr} {H H' : Hp} {xs : List V} {o : HO} (k : Kp p H H') (hp : H p = some (.lst xs)) (h : H b = some o) (n : o ≠ .lst xs) : H' b = some o := k b o h (ne_of h hp n)
theorem Kp.tup {p b : Addr} {H H' : Hp} {xs ys : List V} (k : Kp p H H') (hp : H p = some (.lst xs)) (h : H b = some (.tup ys)) : H' b = some (.tup ys) := k.get hp h (fun z => nomatch z)
theorem Kp.ins {p b C dx : Addr} {H H' : Hp} {xs : List V} {fs : List (Str × V)} (k : Kp p H H') (hp : H p = some (.lst xs)) (h : H b = some (.ins C dx fs)) : H' b = some (.ins C dx fs) := k.get hp h (fun z => nomatch z)

/-! ### the pot that the draws are taken from: a list of two ints -/
def Pot (H : Hp) (p : Addr) : Prop := ∃ a b : Int, H p = some (.lst [.int a, .int b]) ∧ 0 ≤ a ∧ 0 ≤ b ∧ b < 2147483648
theorem Pot.same {H H' : Hp} {p : Addr} (h : Pot H p) (s : Same H H') : Pot H' p := let ⟨a, b, e, q⟩ := h; ⟨a, b, s _ _ e, q⟩
theorem Pot.lst {H : Hp} {p : Addr} (h : Pot H p) : ∃ xs, H p = some (.lst xs) := let ⟨a, b, e, _⟩ := h; ⟨_, e⟩

/-! ### an Amount -/
def amF (t b : Int) (pl : Addr) : List (Str × V) := [("own_top", .int t), ("own_bottom", .int b), ("own_place", .ref pl)]
/-- at a an Amount of the class at C: its top, its bottom above 0, its place -/
def AmAt (C : Addr) (H : Hp) (a : Addr) (t b : Int) : Prop := 0 < b ∧ ∃ dx pl : Addr, H a = some (.ins C dx (amF t b pl)) ∧ H pl = some (.tup ((M.plc 1 t b.toNat).map V.int))
theorem AmAt.same {C a : Addr} {H H' : Hp} {t b : Int} (h : AmAt C H a t b) (s : Same H H') : AmAt C H' a t b := let ⟨z, dx, pl, h1, h2⟩ := h; ⟨z, dx, pl, s _ _ h1, s _ _ h2⟩
theorem AmAt.kp {C a p : Addr} {H H' : Hp} {t b : Int} {xs : List V} (h : AmAt C H a t b) (k : Kp p H H') (hp : H p = some (.lst xs)) : AmAt C H' a t b := let ⟨z, dx, pl, h1, h2⟩ := h; ⟨z, dx, pl, k.ins hp h1, k.tup hp h2⟩
theorem n_tb : ¬ (("own_top" : Str) = "own_bottom") := by decide +kernel
theorem n_tp : ¬ (("own_top" : Str) = "own_place") := by decide +kernel
theorem n_bp : ¬ (("own_bottom" : Str) = "own_place") := by decide +kernel
theorem am_put1 (t b : Int) : putF "own_bottom" (.int b) (putF "own_top" (.int t) []) = ([("own_top", .int t), ("own_bottom", .int b)] : List (Str × V)) := by
  show (if ("own_top" : Str) = "own_bottom" then [(("own_top" : Str), V.int b)] else (("own_top" : Str), V.int t) :: [(("own_bottom" : Str), V.int b)]) = _
  rw [if_neg n_tb] <;> rfl
theorem am_put (t b : Int) (pl : Addr) : putF "own_place" (.ref pl) (putF "own_bottom" (.int b) (putF "own_top" (.int t) [])) = amF t b pl := by
  rw [am_put1]
  show (if ("own_top" : Str) = "own_place" then _ else (("own_top" : Str), V.int t) :: (if ("own_bottom" : Str) = "own_place" then _ else (("own_bottom" : Str), V.int b) :: [(("own_place" : Str), V.ref pl)])) = _
  rw [if_neg n_tp, if_neg n_bp] <;> rfl
theorem am_top (t b : Int) (pl : Addr) : (amF t b pl).lookup ("own_top" : Str) = some (.int t) := by
  rw [← am_put, lookup_putF, if_neg n_tp, lookup_putF, if_neg n_tb, lookup_putF, if_pos rfl]
theorem am_bottom (t b : Int) (pl : Addr) : (amF t b pl).lookup ("own_bottom" : Str) = some (.int b) := by
  rw [← am_put, lookup_putF, if_neg n_bp, lookup_putF, if_pos rfl]
theorem am_place (t b : Int) (pl : Addr) : (amF t b pl).lookup ("own_place" : Str) = some (.ref pl) := by
  rw [← am_put, lookup_putF, if_pos rfl]
theorem am_no (t b : Int) (pl : Addr) {m : Str} (h1 : ¬ m = "own_top") (h2 : ¬ m = "own_bottom") (h3 : ¬ m = "own_place") : (amF t b pl).lookup m = none := by
  rw [← am_put, lookup_putF, if_neg h3, lookup_putF, if_neg h2, lookup_putF, if_neg h1] <;> rfl
end SP
/-! A def whose first test leads to «return NotImplemented». -/
namespace SP
open PySem PySem.Spec PyProof.Rows L2
theorem boot_ni : bootBuiltins "NotImplemented" = some .notImplemented := by decide +kernel
theorem execs_decl {X : Cx} {c : Expr} {p pos pos2 : Pos} {rest : List Stmt} {tc : TT} (hc : PT X c tc) (hg : Gl X "NotImplemented") (hm : X.mg "NotImplemented" = none) {pins : List (Addr × Obj)} {s : Shared} {σ : L2.St} {H : Hp} (I : Inv X pins σ H s)
    (h : tc σ H (fun b H' => b = true ∧ Same H H')) :
    wpAny (model X.prog X.w) X.A (execs (.If c [.Return (some (.Name "NotImplemented" p)) pos2] [] pos :: rest) X.env) (fun fl s' => fl = .ret .notImplemented ∧ ∃ σ' H', Inv X pins σ' H' s' ∧ Same H H') X.xe s := by
  refine wpAny_execs_cons (wpAny_If (thn (hc.run pins s σ H _ I h) ?_))
  intro b s1 ⟨H1, I1, e, sm⟩
  subst e
  refine wpAny_execs_cons (wpAny_Return_some (ld_blt I1 hg hm boot_ni ?_))
  exact ⟨rfl, σ, H1, I1, sm⟩
theorem rnN_of {X : Cx} {N ps : List Str} {x qual : Str} {st : Stmt} {f : Addr} {fd : FuncData} {D : List V → Hp → Prop} {kk : Nat} {c : Expr} {p pos pos2 : Pos} {rest : List Stmt} (F : Fun X.K x qual st f fd) (S : FnScope N ps (defScope st)) (hr : Room (kk + 1) X.A) (hb : Binds X.K fd ps [])
    (len : ∀ vs H, D vs H → vs.length = ps.length) (hbody : defBody st = .If c [.Return (some (.Name "NotImplemented" p)) pos2] [] pos :: rest) (hm : X.mg "NotImplemented" = none)
    (go : ∀ (cdv : Value) (A : Around) (out : List Env) (s : Shared) (H : Hp) (vs : List V), Room kk (A.deeper (envOfC qual (defScope st) s.heap.objs.size f cdv)) → D vs H →
      ∃ tc, PT (cxOf CX0 X.prog X.w X.K X.mg X.base N qual (defScope st) f cdv A out s H E0).nox c tc ∧ Gl (cxOf CX0 X.prog X.w X.K X.mg X.base N qual (defScope st) f cdv A out s H E0).nox "NotImplemented" ∧ tc (start N vs) H (fun b H' => b = true ∧ Same H H')) : RnN X f D := by
  obtain ⟨oc, od, kV, doc, pm, an, cdv, ct, osl, rfl, lk, hcd⟩ := F.ex
  intro pins σ H s us vs I rv hD
  have hl := len vs H hD
  have ln : (us ++ []).length = ps.length := by rw [List.append_nil, ← rv.length, hl]
  have bd := hb s us I.kIn ln
  rw [List.append_nil] at bd
  obtain ⟨tc, hc, hg, ht⟩ := go cdv X.A X.stack s H vs (hr.deeper _) hD
  refine wpAny_call (codeAny_mono (enter_def (E := E0) (CX := CX0) (R := fun r s' => r = .ok (.ret .notImplemented) ∧ ∃ H', s'.os = s.os ∧ AllBare s'.gens ∧ Un (frs X.stack) [] H H' s.heap s'.heap ∧ HOk X.prog X.w H' s'.heap ∧ Same H H') lk hcd S hr I.env0 bd rv hl ?_) ?_)
  · intro s1 J
    rw [hbody]
    refine wpAny_mono (execs_decl hc hg hm (J.wish fun _ _ => False) ht) ?_ fun _ _ z => z.elim
    intro fl s2 z
    obtain ⟨rfl, σ2, H2, J2, sm⟩ := z
    exact ⟨rfl, H2, J2.os, J2.bare, J2.base, J2.hok, sm⟩
  · intro r s2 z
    obtain ⟨rfl, H2, z1, z2, z3, z4, sm⟩ := z
    obtain ⟨hh, g, d, t, os'⟩ := s2
    have e : os' = s.os := z1
    subst e
    exact ⟨rfl, H2, I.call (h' := hh) (g' := g) (d' := d) (t' := t) (ch := []) z3 z4 z2 (fun b z => (List.not_mem_nil z).elim), sm⟩
end SP
/-! str and repr of own instances; lists of bools shown. -/
namespace SP
open PySem PySem.Spec PyProof.Rows L2
theorem str_back {X : Cx} {pins : List (Addr × Obj)} {σ : L2.St} {Q : VK} {u : Value} {s' : Shared} (h : EP X pins σ (fun v H' => ∃ z, v = .str z ∧ Q v H') u s') : PySem.W.StrBack (EP X pins σ Q) u s' := by
  obtain ⟨v, H', I', r, z, rfl, q⟩ := h
  obtain ⟨t, rfl⟩ := r
  exact ⟨.str z, H', I', ⟨t, rfl⟩, q⟩
theorem ep_out1 {X : Cx} {pins : List (Addr × Obj)} {σ : L2.St} {Q : VK} {u : Value} {s' : Shared} (h : EP (in1 X) pins σ Q u s') : EP X pins σ Q u s' := let ⟨v, H', I', r, q⟩ := h; ⟨v, H', inv_out1 I', r, q⟩
/-- f(o), o an instance whose own method (promise sp) answers with a text -/
def rShow (C : Addr) (sp : Sp) (E : XK) : List V → Hp → VK → Prop := fun xs H Q => ∃ (a dx : Addr) (fs : List (Str × V)), xs = [.ref a] ∧ H a = some (.ins C dx fs) ∧ sp [.ref a] H (fun v H' => ∃ z, v = .str z ∧ Q v H') E
section
variable {X : Cx} {C f : Addr} {sp : Sp} {E : XK}
theorem call_reprO (hu : X.A.units + 1 < cLine) (hs : PySem.W.findIn X.K (.ref C) "__repr__" = some (some (.ref f))) (hf : PySem.W.isFn X.K (.ref f) = true) (R : Rn (in1 X) f sp [] E) : CallR X (.builtin "repr") (rShow C sp E) := by
  intro pins s σ H xs us Q I r h
  obtain ⟨a, dx, fs, rfl, ea, h⟩ := h
  obtain ⟨u, rfl, ru⟩ := vals1 r
  cases (show u = Value.ref a from ru)
  obtain ⟨mA, O, _⟩ := ins_get I.hok ea
  obtain ⟨od, J, _⟩ := O.look
  obtain ⟨m, F⟩ := I.fr
  exact PySem.W.repr_K hu F I.mod.kin J hs hf (thn (R pins σ H s _ [.ref a] [.ref a] (inv_in1 I) (.cons rfl .nil) h) fun v s' q => str_back (ep_out1 q))
theorem call_strO (hu : X.A.units + 2 < cLine) (hs : PySem.W.findIn X.K (.ref C) "__str__" = some (some (.ref f))) (hf : PySem.W.isFn X.K (.ref f) = true) (R : Rn (in1 (in1 X)) f sp [] E) : CallR X (.type "str") (rShow C sp E) := by
  intro pins s σ H xs us Q I r h
  obtain ⟨a, dx, fs, rfl, ea, h⟩ := h
  obtain ⟨u, rfl, ru⟩ := vals1 r
  cases (show u = Value.ref a from ru)
  obtain ⟨mA, O, _⟩ := ins_get I.hok ea
  obtain ⟨od, J, _⟩ := O.look
  exact PySem.W.kso_call hu I.kIn J hs hf (thn (R pins σ H s _ [.ref a] [.ref a] (inv_in1 (inv_in1 I)) (.cons rfl .nil) h) fun v s' q => str_back (ep_out1 (ep_out1 q)))
end
/-! ### lists of bools -/
theorem dp_bools {K : PySem.W.Frag} {H : Hp} : ∀ bs : List Bool, DpAll K H (bs.map V.bl) (bs.map PyData.bool)
  | [] => .nil
  | a :: r => .cons (.bl a) (dp_bools r)
theorem len1921 {i : Int} (h : i.natAbs.log2 < 1920) : (PySem.Str.ofString (toString i)).length ≤ 1921 := by
  have e := int_text_length_le (k := 1920) (by decide) h
  rw [PySem.ofString_length]
  omega
theorem small_log {i : Int} {n : Nat} (h : i.natAbs < 2 ^ n) (h0 : 0 < n) (hn : n ≤ 1920) : i.natAbs.log2 < 1920 := Nat.lt_of_lt_of_le (PySem.Flt.log2_lt_of h0 h) hn
end SP
namespace SP
open PySem PySem.Spec PyProof.Rows L2
/-! ### the text by places -/
def top (i : Nat) : Stmt := PySem.Challenge.pw_surepipes_k12_amounts_compared.main.body.getD i (.Pass ⟨0, 0, 0, 0⟩)
abbrev sIsInt : Stmt := top 9
abbrev sCD : Stmt := top 10
abbrev sPl : Stmt := top 11
abbrev sMEq : Stmt := inClass (top 14) 16
abbrev sMLt : Stmt := inClass (top 14) 17
abbrev sMLe : Stmt := inClass (top 14) 18
abbrev sMGt : Stmt := inClass (top 14) 19
abbrev sMGe : Stmt := inClass (top 14) 20
abbrev sMStr : Stmt := inClass (top 14) 21
abbrev sMRepr : Stmt := inClass (top 14) 22
abbrev sMTop : Stmt := inClass (top 14) 3
abbrev sInit : Stmt := inClass (top 14) 0


/-- a method as the top has written it -/
structure MethT (K : PySem.W.Frag) (C : Addr) (x qual : Str) (st : Stmt) (ps : List Str) : Prop where
  ex : ∃ (f : Addr) (fd : FuncData), PySem.W.findIn K (.ref C) x = some (some (.ref f)) ∧ PySem.W.isFn K (.ref f) = true ∧ Fun K x qual st f fd ∧ Binds K fd ps []
/-- a property -/
structure PropT (K : PySem.W.Frag) (C : Addr) (x qual : Str) (st : Stmt) : Prop where
  ex : ∃ (p g : Addr) (fd : FuncData), PropOf K C x p g ∧ Fun K x qual st g fd ∧ Binds K fd ["self"] []
/-- what isinstance(y, Amount) asks of the kinds that are not the class's -/
structure NotAm (K : PySem.W.Frag) (C : Addr) : Prop where
  i : PySem.W.kitOne K (.type "int") (.ref C) = some false
  b : PySem.W.kitOne K (.type "bool") (.ref C) = some false
  s : PySem.W.kitOne K (.type "str") (.ref C) = some false
  n : PySem.W.kitOne K (.type "NoneType") (.ref C) = some false
  t : PySem.W.kitOne K (.type "tuple") (.ref C) = some false
  l : PySem.W.kitOne K (.type "list") (.ref C) = some false
/-- what the top has written of the amounts' part -/
structure AmTxt (K : PySem.W.Frag) (mg : Str → Option Value) (C : Addr) : Prop where
  b_isinstance : mg "isinstance" = none
  b_int : mg "int" = none
  b_bool : mg "bool" = none
  b_abs : mg "abs" = none
  tII : Top K mg "is_integer" sIsInt ["value"]
  tCD : Top K mg "common_divisor" sCD ["one", "other"]
  tPl : Top K mg "place_of" sPl ["top", "bottom"]
  gC : mg "Amount" = some (.ref C)
  cl : Cls K C
  ca : PySem.W.findIn K (.ref C) "__class__" = some (some (.builtin "object.__class__"))
  cn : PySem.W.specialIn K (.builtin "object.__class__") "__get__" = some (some (.builtin "getset_descriptor.__get__"))
  ck : PySem.W.takesIn K (.builtin "object.__class__") = some true
  cm : PySem.W.mroIn K C (.type "object") = some true
  ne : PySem.W.findIn K (.ref C) "__ne__" = some (some (.builtin "object.__ne__"))
  fg : FgnOk K C
  na : NotAm K C
  nT : NoAttr K C "own_top"
  nB : NoAttr K C "own_bottom"
  nP : NoAttr K C "own_place"
  mkC : ∃ (fI : Addr) (fd : FuncData), Mk K C fI ∧ FunD K "__init__" "Amount.__init__" (defArgs sInit) (defBody sInit) (defScope sInit) [.int 1] [] fI fd
section
variable {P : Program} {w : World} {K : PySem.W.Frag} {mg : Str → Option Value} {base : Heap} {C : Addr}
/-! ### is_integer -/
/-- of any value whose kind is told -/
def spII (K : PySem.W.Frag) : Sp := fun vs H Q _ => ∃ (v : V) (t : Value) (b1 b2 : Bool), vs = [v] ∧ TyX K H v t ∧ PySem.W.kitOne K t (.type "int") = some b1 ∧ PySem.W.kitOne K t (.type "bool") = some b2 ∧ Q (.bl (b1 && !b2)) H
theorem scII : FnScope ["value"] ["value"] (defScope sIsInt) := ⟨rfl, rfl, rfl, by decide +kernel, rfl, by decide +kernel, by decide +kernel⟩
theorem d_ii (T : AmTxt K mg C) : DefO P w K mg base 1 "is_integer" ["value"] (spII K) := by
  refine T.tII.okO scII (fun vs H Q E h => ?_) (fun f cdv A out s H vs Q E hr h => ?_)
  · obtain ⟨v, t, b1, b2, rfl, _⟩ := h
    rfl
  · obtain ⟨v, t, b1, b2, rfl, ty, k1, k2, q⟩ := h
    refine ⟨_, (pss_one (ps_ret (pe_and (pe_callB call_isi (by rfl) T.b_isinstance (by decide +kernel) (pa_cons (pv 0) (pa_cons (pe_bltn (v := .ty "int") (by rfl) T.b_int (by decide +kernel) rfl) pa_nil))) (pe_one (pe_not (pe_callB call_isi (by rfl) T.b_isinstance (by decide +kernel) (pa_cons (pv 0) (pa_cons (pe_bltn (v := .ty "bool") (by rfl) T.b_bool (by decide +kernel) rfl) pa_nil)))))))), ?_⟩
    refine ⟨_, rfl, v, .ty "int", t, _, b1, rfl, .ty _, ty, k1, b1, rfl, ?_⟩
    cases b1 with
    | true => exact iteT ⟨_, rfl, v, .ty "bool", t, _, b2, rfl, .ty _, ty, k2, b2, rfl, q⟩
    | false => exact iteF q
/-! ### common_divisor -/
def spCD : Sp := fun vs H Q _ => ∃ a b : Int, vs = [.int a, .int b] ∧ Q (.int (Int.gcd a b : Nat)) H
theorem scCD : FnScope ["one", "other"] ["one", "other"] (defScope sCD) := ⟨rfl, rfl, rfl, by decide +kernel, rfl, by decide +kernel, by decide +kernel⟩
theorem abs_if (a : Int) : (if a < 0 then -a else a) = (a.natAbs : Int) := by split <;> omega
theorem d_cd (T : AmTxt K mg C) : DefO P w K mg base 1 "common_divisor" ["one", "other"] spCD := by
  refine T.tCD.okO scCD (fun vs H Q E h => ?_) (fun f cdv A out s H vs Q E hr h => ?_)
  · obtain ⟨a, b, rfl, _⟩ := h
    rfl
  · obtain ⟨a, b, rfl, q⟩ := h
    refine ⟨_, (pss_cons (ps_par (i := 0) (j := 1) (by rfl) scCD.nd rfl rfl (by decide) rfl rfl (pa_cons (pe_callB call_abs (by rfl) T.b_abs (by decide +kernel) (pa_cons (pv 0) pa_nil)) (pa_cons (pe_callB call_abs (by rfl) T.b_abs (by decide +kernel) (pa_cons (pv 1) pa_nil)) pa_nil)) (by rfl))
  (pss_cons (ps_while PassesOwn.never (pt_cmpR op_ne (pv 1) pe_int (nomark _)) (pss_one (ps_par (i := 0) (j := 1) (by rfl) scCD.nd rfl rfl (by decide) rfl rfl (pa_cons (pv 1) (pa_cons (pe_op op_mod (pv 0) (pv 1)) pa_nil)) (by rfl))))
  (pss_one (ps_ret (pv 0))))), ?_⟩
    refine ⟨_, rfl, a, rfl, _, rfl, b, rfl, _, _, rfl, ?_⟩
    refine ⟨fun m σ H' => H' = H ∧ ∃ x : Nat, σ = [some (.int x), some (.int m)] ∧ M.eu x m = Int.gcd a b, ⟨b.natAbs, rfl, a.natAbs, ?_, ?_⟩, ?_⟩
    · rw [abs_if, abs_if] <;> rfl
    · rw [M.eu_gcd] <;> rfl
    · rintro m σ H' ⟨rfl, x, rfl, e⟩
      refine ⟨_, rfl, rfl, _, rfl, ?_⟩
      by_cases hm : m = 0
      · subst hm
        refine iteNS rfl ?_
        refine ⟨_, rfl, ?_⟩
        rw [M.eu_zero] at e
        show Q (.int (x : Int)) H'
        rw [e]
        exact q
      · have hd : decide (V.int (m : Int) = V.int 0) = false := decide_eq_false (fun z => hm (by injection z; omega))
        show (if (!decide (V.int (m : Int) = V.int 0)) = true then _ else _)
        rw [hd]
        refine iteT ⟨fun σ1 H1 => H1 = H' ∧ σ1 = [some (.int (m : Int)), some (.int ((x % m : Nat) : Int))], ?_, ?_⟩
        · rintro σ1 H1 ⟨rfl, rfl⟩
          exact ⟨x % m, Nat.mod_lt _ (Nat.pos_of_ne_zero hm), rfl, m, rfl, by rw [← M.eu_step hm]; exact e⟩
        · exact ⟨_, rfl, _, rfl, _, rfl, _, _, rfl, rfl, (by show (0 : Int) < (m : Int); omega), _, _, rfl, rfl, rfl⟩
/-! ### place_of -/
def spPl : Sp := fun vs H Q _ => ∃ t b : Int, vs = [.int t, .int b] ∧ 0 < b ∧ b.natAbs < 2 ^ 8000 ∧ ∀ p H', Same H H' → H p = none → H' p = some (.tup ((M.plc 1 t b.toNat).map V.int)) → Q (.ref p) H'
theorem scPl : FnScope ["top", "bottom", "found", "sign"] ["top", "bottom"] (defScope sPl) := ⟨rfl, rfl, rfl, by decide +kernel, rfl, by decide +kernel, by decide +kernel⟩
/-- what the loop of place_of has found ahead of what is left -/
def PlI (H : Hp) (t0 : Int) (b0 : Nat) (m : Nat) (σ : L2.St) (H' : Hp) : Prop := Same H H' ∧ ∃ (t s : Int) (p : Addr) (xs : List Int), σ = [some (.int t), some (.int (m : Int)), some (.ref p), some (.int s)] ∧ (s = 1 ∨ s = -1) ∧ H p = none ∧ H' p = some (.tup (xs.map V.int)) ∧
  xs ++ M.plc s t m = M.plc 1 t0 b0 ∧ m ≤ b0 ∧ ∃ j : Nat, xs.length = 2 * j ∧ j ≤ 16001 ∧ (j = 0 ∨ ∃ t' : Nat, t = t' ∧ m < t' ∧ t' * m * 2 ^ (j - 1) < 2 ^ 16000)
theorem d_pl (T : AmTxt K mg C) : DefO P w K mg base 1 "place_of" ["top", "bottom"] spPl := by
  refine T.tPl.okO scPl (fun vs H Q E h => ?_) (fun f cdv A out s H vs Q E hr h => ?_)
  · obtain ⟨t, b, rfl, _⟩ := h
    rfl
  · obtain ⟨t, bi, rfl, hbi, hw, q⟩ := h
    obtain ⟨b, rfl⟩ : ∃ b : Nat, bi = (b : Int) := ⟨bi.toNat, by omega⟩
    have hb : 0 < b := by omega
    have hw : b < 2 ^ 8000 := hw
    have q : ∀ p H', Same H H' → H p = none → H' p = some (.tup ((M.plc 1 t b).map V.int)) → Q (.ref p) H' := q
    refine ⟨_, (pss_cons (ps_asg (pe_tup (pa_cons (pe_tup pa_nil) (pa_cons pe_int pa_nil))) (pg_tup (by rfl) (pgs_cons (pg_name (i := 2) scPl.nd rfl (Or.inl rfl)) (pgs_cons (pg_name (i := 3) scPl.nd rfl (Or.inl rfl)) pgs_nil))))
  (pss_cons (ps_while PassesOwn.never (pt_cmpR op_ne (pv 1) pe_int (nomark _)) (pss_cons (ps_set (i := 2) scPl.nd rfl (Or.inl rfl) (pe_op op_catA (pv 2) (pe_tup (pa_cons pe_int (pa_cons (pe_op op_mul (pv 3) (pe_op op_fdivW (pv 0) (pv 1))) pa_nil)))))
  (pss_one (ps_par3 (i := 0) (j := 1) (l := 3) (by rfl) scPl.nd rfl rfl rfl (by decide) (by decide) (by decide) rfl rfl rfl (pa_cons (pv 1) (pa_cons (pe_op op_mod (pv 0) (pv 1)) (pa_cons (pe_un un_neg (pv 3)) pa_nil))) (by rfl)))))
  (pss_one (ps_ret (pe_op op_catA (pv 2) (pe_tup (pa_cons (pv 3) pa_nil))))))), ?_⟩
    refine ⟨by show 0 ≤ sizeLine; decide, fun p hp => ⟨by show 2 ≤ sizeLine; decide, fun z hz => ⟨z, _, rfl, SqT.of upd_same, rfl, _, _, rfl, _, _, rfl, rfl, ?_⟩⟩⟩
    have pz : p ≠ z := ne_of_none upd_same hz
    refine ⟨fun m σ H' => PlI H t b m σ H', ⟨b, (Same.new hp).trans (Same.new hz), t, 1, p, [], rfl, .inl rfl, hp, by rw [upd_ne pz]; exact upd_same, rfl, Nat.le_refl _, 0, rfl, by decide, .inl rfl⟩, ?_⟩
    rintro m σ H' ⟨sm, t1, s1, p1, xs, rfl, hs, hn, hx, ee, hm1, j, hl, hj, hjt⟩
    refine ⟨_, rfl, rfl, _, rfl, ?_⟩
    by_cases hm : m = 0
    · subst hm
      refine iteNS rfl ?_
      rw [M.plc_zero] at ee
      refine ⟨_, rfl, _, rfl, by show 1 ≤ sizeLine; decide, fun u hu => ?_⟩
      have pu : p1 ≠ u := ne_of_none hx hu
      have sm2 : Same H' (upd H' u (.tup [.int s1])) := Same.new hu
      have fin : ((xs ++ [s1]).map V.int) = xs.map V.int ++ [V.int s1] := by simp
      refine ⟨p1, u, xs.map V.int, [.int s1], rfl, rfl, SqT.of (sm2 _ _ hx), SqT.of upd_same, ?_, fun e0 => ?_, fun _ e1 => ?_, fun _ _ v hv => ?_⟩
      · rw [List.length_map]
        show xs.length + 1 ≤ sizeLine
        exact Nat.le_trans (by omega : xs.length + 1 ≤ 40000) (by decide)
      · have x0 : xs = [] := List.map_eq_nil_iff.mp e0
        subst x0
        refine q u _ (sm.trans sm2) (sm.free hu) ?_
        rw [← ee]
        exact upd_same
      · cases e1
      · refine q v _ ((sm.trans sm2).trans (Same.new hv)) ((sm.trans sm2).free hv) ?_
        rw [← ee, fin]
        exact upd_same
    · have hd : decide (V.int (m : Int) = V.int 0) = false := decide_eq_false (fun z => hm (by injection z; omega))
      show (if (!decide (V.int (m : Int) = V.int 0)) = true then _ else _)
      rw [hd]
      have hmp : (0 : Int) < (m : Int) := by omega
      refine iteT ⟨fun σ1 H1 => PlI H t b (t1 % (m : Int)).toNat σ1 H1, ?_, ?_⟩
      · rintro σ1 H1 ⟨h1, t2, s2, p2, ys, rfl, rest⟩
        refine ⟨_, ?_, h1, t2, s2, p2, ys, rfl, rest⟩
        have := Int.emod_lt_of_pos t1 hmp
        have := Int.emod_nonneg t1 (show (m : Int) ≠ 0 by omega)
        omega
      · refine ⟨_, rfl, _, rfl, _, rfl, _, rfl, _, _, rfl, rfl, wide_div hmp (b := 8000) ?_ (by decide) (by decide), _, _, rfl, rfl, ?_, by show 2 ≤ sizeLine; decide, fun u hu => ?_⟩
        · have : (m : Int).natAbs = m := rfl
          rw [this]
          omega
        · refine .inl ?_
          rcases hs with rfl | rfl <;> exact ⟨by decide, by decide⟩
        · have pu : p1 ≠ u := ne_of_none hx hu
          have r0 := Int.emod_nonneg t1 (show (m : Int) ≠ 0 by omega)
          have r1 := Int.emod_lt_of_pos t1 hmp
          have rc : ((t1 % (m : Int)).toNat : Int) = t1 % m := Int.toNat_of_nonneg r0
          have cut : ∀ (v : Addr) (H2 : Hp), Same H H2 → H v = none → H2 v = some (.tup ((xs ++ [0, s1 * (t1 / m)]).map V.int)) → PlI H t b (t1 % (m : Int)).toNat [some (.int (m : Int)), some (.int (t1 % m)), some (.ref v), some (.int (-s1))] H2 := by
            intro v H2 k1 k2 k3
            refine ⟨k1, m, -s1, v, xs ++ [0, s1 * (t1 / m)], by rw [rc], by rcases hs with h | h <;> rw [h] <;> decide, k2, k3, ?_, by omega, j + 1, by rw [List.length_append, hl] <;> rfl, ?_, ?_⟩
            · rw [← ee, M.plc_step hm, List.append_assoc]
              rfl
            · rcases hjt with rfl | ⟨t', rfl, h1, h2⟩
              · decide
              · by_cases h0 : j = 0
                · omega
                · have := (M.step_bound (by omega) h1 (by omega) h2).2
                  omega
            · refine .inr ⟨m, rfl, by omega, ?_⟩
              rcases hjt with rfl | ⟨t', rfl, h1, h2⟩
              · show m * (t1 % (m : Int)).toNat * 2 ^ 0 < 2 ^ 16000
                have a1 : (t1 % (m : Int)).toNat < m := by omega
                have a2 : m * (t1 % (m : Int)).toNat ≤ m * m := Nat.mul_le_mul_left _ (Nat.le_of_lt a1)
                have a3 : m < 2 ^ 8000 := by omega
                have a4 : m * m < 2 ^ 8000 * 2 ^ 8000 := Nat.mul_lt_mul'' a3 a3
                have a5 : (2 : Nat) ^ 8000 * 2 ^ 8000 = 2 ^ 16000 := by rw [← Nat.pow_add]
                omega
              · by_cases h0 : j = 0
                · subst h0
                  have a1 : ((t' : Int) % (m : Int)).toNat < m := by omega
                  have a2 : m * ((t' : Int) % (m : Int)).toNat ≤ m * m := Nat.mul_le_mul_left _ (Nat.le_of_lt a1)
                  have a3 : m < 2 ^ 8000 := by omega
                  have a4 : m * m < 2 ^ 8000 * 2 ^ 8000 := Nat.mul_lt_mul'' a3 a3
                  have a5 : (2 : Nat) ^ 8000 * 2 ^ 8000 = 2 ^ 16000 := by rw [← Nat.pow_add]
                  show m * ((t' : Int) % (m : Int)).toNat * 2 ^ 0 < 2 ^ 16000
                  omega
                · have := (M.step_bound (by omega) h1 (by omega) h2).1
                  have e : ((t' : Int) % (m : Int)).toNat = t' % m := rfl
                  rw [e]
                  exact this
          have lx : (xs.map V.int).length + 2 ≤ sizeLine := by
            rw [List.length_map]
            exact Nat.le_trans (by omega : xs.length + 2 ≤ 40000) (by decide)
          have ap : (xs ++ [0, s1 * (t1 / m)]).map V.int = xs.map V.int ++ [.int 0, .int (s1 * (t1 / m))] := by simp
          have sm2 : Same H' (upd H' u (.tup [.int 0, .int (s1 * (t1 / m))])) := Same.new hu
          refine ⟨p1, u, xs.map V.int, [.int 0, .int (s1 * (t1 / m))], rfl, rfl, SqT.of (sm2 _ _ hx), SqT.of upd_same, lx, fun e0 => ?_, fun _ e1 => ?_, fun _ _ v hv => ?_⟩
          · have x0 : xs = [] := List.map_eq_nil_iff.mp e0
            subst x0
            refine ⟨_, rfl, _, rfl, _, rfl, _, _, rfl, rfl, hmp, _, rfl, s1, rfl, _, _, _, rfl, cut u _ (sm.trans sm2) (sm.free hu) upd_same⟩
          · cases e1
          · refine ⟨_, rfl, _, rfl, _, rfl, _, _, rfl, rfl, hmp, _, rfl, s1, rfl, _, _, _, rfl, cut v _ ((sm.trans sm2).trans (Same.new hv)) ((sm.trans sm2).free hv) ?_⟩
            rw [ap]
            exact upd_same
/-! ### Amount(top, bottom) -/
/-- what __init__ stores: in lowest terms, the bottom above 0 -/
structure Low (top bottom t b : Int) : Prop where
  pos : 0 < b
  one : Int.gcd t b = 1
  eq : t * bottom = top * b
  lt : t.natAbs ≤ top.natAbs
  lb : b.natAbs ≤ bottom.natAbs
def spInit (C : Addr) : Sp := fun vs H Q _ => ∃ (x dx : Addr) (tp bt : Int), vs = [.ref x, .int tp, .int bt] ∧ H x = some (.ins C dx []) ∧ bt ≠ 0 ∧ tp.natAbs < 2 ^ 8000 ∧ bt.natAbs < 2 ^ 8000 ∧
  ∀ (t b : Int) (H' : Hp), Low tp bt t b → AmAt C H' x t b → (∀ c o, H c = some o → c ≠ x → H' c = some o) → Q .non H'
theorem scIn : FnScope ["self", "top", "bottom", "divisor"] ["self", "top", "bottom"] (defScope sInit) := ⟨rfl, rfl, rfl, by decide +kernel, rfl, by decide +kernel, by decide +kernel⟩
theorem low_of {tp bt d s : Int} (hb : bt ≠ 0) (hs : (s = 1 ∧ 0 < bt) ∨ (s = -1 ∧ bt < 0)) (hd : d = (Int.gcd tp bt : Nat) * s) : d ≠ 0 ∧ d.natAbs ≤ bt.natAbs ∧ Low tp bt (tp.fdiv d) (bt.fdiv d) := by
  have g0 : 0 < Int.gcd tp bt := Int.gcd_pos_of_ne_zero_right _ hb
  obtain ⟨u, hu⟩ := Int.gcd_dvd_left (a := tp) (b := bt)
  obtain ⟨v, hv⟩ := Int.gcd_dvd_right (a := tp) (b := bt)
  generalize hg : Int.gcd tp bt = g at *
  have gp : (0 : Int) < g := by omega
  have dn : d ≠ 0 := by
    rcases hs with ⟨rfl, _⟩ | ⟨rfl, _⟩ <;> omega
  have e1 : tp.fdiv d = s * u := by
    have : tp = d * (s * u) := by
      rw [hu, hd]
      rcases hs with ⟨rfl, _⟩ | ⟨rfl, _⟩
      · simp
      · simp [Int.neg_mul, Int.mul_neg]
    rw [this]
    exact Int.mul_fdiv_cancel_left _ dn
  have e2 : bt.fdiv d = s * v := by
    have : bt = d * (s * v) := by
      rw [hv, hd]
      rcases hs with ⟨rfl, _⟩ | ⟨rfl, _⟩
      · simp
      · simp [Int.neg_mul, Int.mul_neg]
    rw [this]
    exact Int.mul_fdiv_cancel_left _ dn
  have dabs : d.natAbs = g := by
    rcases hs with ⟨rfl, _⟩ | ⟨rfl, _⟩ <;> omega
  have vn : v ≠ 0 := by
    intro e
    rw [e] at hv
    simp at hv
    exact hb hv
  have va : 1 ≤ v.natAbs := by omega
  have btn : bt.natAbs = g * v.natAbs := by
    rw [hv, Int.natAbs_mul]
    rfl
  have tpn : tp.natAbs = g * u.natAbs := by
    rw [hu, Int.natAbs_mul]
    rfl
  have sabs : ∀ z : Int, (s * z).natAbs = z.natAbs := by
    intro z
    rcases hs with ⟨rfl, _⟩ | ⟨rfl, _⟩ <;> simp
  have gg : g * Int.gcd u v = g := by
    have q := Int.gcd_mul_left (g : Int) u v
    rw [← hu, ← hv, hg] at q
    have : (g : Int).natAbs = g := rfl
    rw [this] at q
    exact q.symm
  have g1 : Int.gcd u v = 1 := by
    have : g * Int.gcd u v = g * 1 := by rw [gg, Nat.mul_one]
    exact Nat.eq_of_mul_eq_mul_left g0 this
  refine ⟨dn, ?_, ?_⟩
  · rw [dabs, btn]
    exact Nat.le_mul_of_pos_right _ va
  rw [e1, e2]
  refine ⟨?_, ?_, ?_, ?_, ?_⟩
  · rcases hs with ⟨rfl, h⟩ | ⟨rfl, h⟩
    · have : 0 < v := by
        rcases Int.lt_or_le 0 v with z | z
        · exact z
        · have q := Int.mul_le_mul_of_nonneg_left z (Int.le_of_lt gp)
          rw [Int.mul_zero] at q
          omega
      omega
    · have : v < 0 := by
        rcases Int.lt_or_le v 0 with z | z
        · exact z
        · have q := Int.mul_nonneg (Int.le_of_lt gp) z
          omega
      omega
  · have q : Int.gcd (s * u) (s * v) = Int.gcd u v := by
      unfold Int.gcd
      rw [sabs, sabs]
    rw [q, g1]
  · rw [hu, hv]
    rw [Int.mul_assoc, Int.mul_comm u, Int.mul_assoc, Int.mul_assoc, ← Int.mul_assoc s, Int.mul_comm s, Int.mul_assoc, Int.mul_comm v u]
    rw [Int.mul_comm u (s * v)]
    rw [Int.mul_assoc s v u, Int.mul_comm v u]
  · rw [sabs, tpn]
    exact Nat.le_mul_of_pos_left _ g0
  · rw [sabs, btn]
    exact Nat.le_mul_of_pos_left _ g0
theorem kII {K : PySem.W.Frag} : PySem.W.kitOne K (.type "int") (.type "int") = some true := kit_ty (by decide +kernel)
theorem kIB {K : PySem.W.Frag} : PySem.W.kitOne K (.type "int") (.type "bool") = some false := kit_ty (by decide +kernel)
theorem ok_init {fI : Addr} {fd : FuncData} (F : FunD K "__init__" "Amount.__init__" (defArgs sInit) (defBody sInit) (defScope sInit) [.int 1] [] fI fd) (T : AmTxt K mg C) : FnOk P w K mg base CX0 2 fI fd ["self", "top", "bottom"] (spInit C) := by
  have DI := d_ii (P := P) (w := w) (base := base) T
  have DC := d_cd (P := P) (w := w) (base := base) T
  have DP := d_pl (P := P) (w := w) (base := base) T
  refine F.ok scIn (fun vs H Q E h => ?_) (fun cdv A out s H vs Q E hr h => ?_)
  · obtain ⟨x, dx, tp, bt, rfl, _⟩ := h
    rfl
  · obtain ⟨x, dx, tp, bt, rfl, hx, hb, h1, h2, q⟩ := h
    refine ⟨_, PSs.nox (pss_cons (ps_if (pt_not (pt_val (pe_callO DI (hr.mono (by decide)) (pa_cons (pv 1) pa_nil)))) (pss_one ps_never) pss_nil)
  (pss_cons (ps_if (PW.pt (pw_or (pt_not (pt_val (pe_callO DI (hr.mono (by decide)) (pa_cons (pv 2) pa_nil)))) (pw_or1 (pt_cmpR op_eq (pv 2) pe_int (nomark _))))) (pss_one ps_never) pss_nil)
  (pss_cons (ps_set (i := 3) scIn.nd rfl (Or.inl rfl) (pe_op op_mul (pe_callO DC (hr.mono (by decide)) (pa_cons (pv 1) (pa_cons (pv 2) pa_nil))) (pe_ifExp (pt_cmpR op_gt (pv 2) pe_int (nomark _)) pe_int (pe_un un_neg pe_int))))
  (pss_cons (ps_fld (pv 0) (pe_op op_fdivA (pv 1) (pv 3)) rfl)
  (pss_cons (ps_fld (pv 0) (pe_op op_fdivA (pv 2) (pv 3)) rfl)
  (pss_one (ps_fld (pv 0) (pe_callO DP (hr.mono (by decide)) (pa_cons (pe_fld (pv 0) rfl) (pa_cons (pe_fld (pv 0) rfl) pa_nil))) rfl))))))), ?_⟩
    refine ⟨_, rfl, _, _, true, false, rfl, .base (.int tp), kII, kIB, true, rfl, iteF ?_⟩
    refine ⟨_, rfl, _, _, true, false, rfl, .base (.int bt), kII, kIB, true, rfl, iteF ?_⟩
    refine ⟨_, rfl, rfl, _, rfl, ?_⟩
    rw [decide_eq_false (show ¬ V.int bt = V.int 0 from fun z => hb (by injection z))]
    refine iteF ?_
    have sg : (((1 : Int) = 1 ∧ 0 < bt) ∨ ((1 : Int) = -1 ∧ bt < 0)) ∨ (((-1 : Int) = 1 ∧ 0 < bt) ∨ ((-1 : Int) = -1 ∧ bt < 0)) := by omega
    have key : ∀ d : Int, d ≠ 0 → d.natAbs ≤ bt.natAbs → Low tp bt (tp.fdiv d) (bt.fdiv d) → CDivA tp d ∧ CDivA bt d := fun d dn dl _ =>
      have z : d.natAbs.log2 < 9000 := Nat.lt_of_lt_of_le (PySem.Flt.log2_lt_of (by decide) (Nat.lt_of_le_of_lt dl h2)) (by decide)
      ⟨⟨dn, z⟩, ⟨dn, z⟩⟩
    refine ⟨_, rfl, _, rfl, tp, bt, rfl, _, rfl, _, _, rfl, rfl, _, rfl, ?_⟩
    rcases sg with sg | sg
    · obtain ⟨dn, dl, lw⟩ := low_of hb sg (d := (Int.gcd tp bt : Nat) * 1) rfl
      rw [decide_eq_true (show 0 < bt by omega)]
      refine iteT ⟨_, _, rfl, rfl, .inr ⟨by decide, by decide⟩, ?_⟩
      obtain ⟨k1, k2⟩ := key _ dn dl lw
      refine ⟨_, rfl, _, rfl, _, _, rfl, rfl, k1, _, rfl, x, C, dx, [], rfl, hx, T.cl, T.nT, (by show 0 < 1000; decide), ?_⟩
      refine ⟨_, rfl, _, rfl, _, _, rfl, rfl, k2, _, rfl, x, C, dx, _, rfl, upd_same, T.cl, T.nB, (by show 1 < 1000; decide), ?_⟩
      refine ⟨_, rfl, x, C, dx, _, _, rfl, upd_same, T.cl, T.nT, (by rw [lookup_putF, if_neg n_tb, lookup_putF, if_pos rfl]), _, rfl, x, C, dx, _, _, rfl, upd_same, T.cl, T.nB, (by rw [lookup_putF, if_pos rfl]), ?_⟩
      refine ⟨_, _, rfl, lw.pos, Nat.lt_of_le_of_lt lw.lb h2, fun p H' sm hn hp => ?_⟩
      refine ⟨_, rfl, x, C, dx, _, rfl, sm _ _ upd_same, T.cl, T.nP, (by rw [am_put1]; show 2 < 1000; decide), ?_⟩
      have xp : x ≠ p := ne_of_none upd_same hn
      refine q _ _ _ lw ⟨lw.pos, dx, p, by rw [am_put]; exact upd_same, by rw [upd_ne xp.symm]; exact hp⟩ fun c o hc hcx => ?_
      rw [upd_ne hcx]
      exact sm _ _ (by rw [upd_ne hcx, upd_ne hcx]; exact hc)
    · obtain ⟨dn, dl, lw⟩ := low_of hb sg (d := (Int.gcd tp bt : Nat) * (-1)) rfl
      rw [decide_eq_false (show ¬ 0 < bt by omega)]
      refine iteF ⟨1, rfl, _, _, rfl, rfl, .inr ⟨by decide, by decide⟩, ?_⟩
      obtain ⟨k1, k2⟩ := key _ dn dl lw
      refine ⟨_, rfl, _, rfl, _, _, rfl, rfl, k1, _, rfl, x, C, dx, [], rfl, hx, T.cl, T.nT, (by show 0 < 1000; decide), ?_⟩
      refine ⟨_, rfl, _, rfl, _, _, rfl, rfl, k2, _, rfl, x, C, dx, _, rfl, upd_same, T.cl, T.nB, (by show 1 < 1000; decide), ?_⟩
      refine ⟨_, rfl, x, C, dx, _, _, rfl, upd_same, T.cl, T.nT, (by rw [lookup_putF, if_neg n_tb, lookup_putF, if_pos rfl]), _, rfl, x, C, dx, _, _, rfl, upd_same, T.cl, T.nB, (by rw [lookup_putF, if_pos rfl]), ?_⟩
      refine ⟨_, _, rfl, lw.pos, Nat.lt_of_le_of_lt lw.lb h2, fun p H' sm hn hp => ?_⟩
      refine ⟨_, rfl, x, C, dx, _, rfl, sm _ _ upd_same, T.cl, T.nP, (by rw [am_put1]; show 2 < 1000; decide), ?_⟩
      have xp : x ≠ p := ne_of_none upd_same hn
      refine q _ _ _ lw ⟨lw.pos, dx, p, by rw [am_put]; exact upd_same, by rw [upd_ne xp.symm]; exact hp⟩ fun c o hc hcx => ?_
      rw [upd_ne hcx]
      exact sm _ _ (by rw [upd_ne hcx, upd_ne hcx]; exact hc)
/-! ### Amount(top, bottom), called -/
def spMake (C : Addr) : Sp := fun vs H Q _ => ∃ tp bt : Int, vs = [.int tp, .int bt] ∧ bt ≠ 0 ∧ tp.natAbs < 2 ^ 8000 ∧ bt.natAbs < 2 ^ 8000 ∧
  ∀ (x : Addr) (t b : Int) (H' : Hp), Low tp bt t b → AmAt C H' x t b → Same H H' → H x = none → Q (.ref x) H'
theorem rn_amount {X : Cx} (T : AmTxt X.K X.mg C) (hr : Room 3 X.A) : Rn X C (spMake C) [] E0 := by
  obtain ⟨fI, fd, mkC, F⟩ := T.mkC
  obtain ⟨ds, r, hb⟩ := F.binds1 (ps := ["self", "top", "bottom"]) 3 1 (by simp) rfl (fun Tp kV doc pm an cdv ct us its h1 h2 => match us, its, h1, h2 with | [_, _, _], [_], _, _ => ⟨_, rfl, rfl⟩)
  intro pins σ H1 s Q us vs I rv h
  refine run_make mkC (ok_init (P := X.prog) (w := X.w) (base := X.base) F T) hr hb r pass0 I rv ?_
  obtain ⟨tp, bt, ev, hb, h1, h2, q⟩ := h
  intro x dx nx nd ne
  have ev : vs = [.int tp, .int bt] := by simpa using ev
  subst ev
  have s0 : Same H1 (upd (upd H1 dx (.own x)) x (.ins C dx [])) := fun b o e => by
    rw [upd_ne (ne_of_none e nx), upd_ne (ne_of_none e nd)]
    exact e
  exact ⟨x, dx, tp, bt, rfl, upd_same, hb, h1, h2, fun t b H' lw am k => ⟨rfl, q x t b H' lw am (fun c o e => k c o (s0 c o e) (ne_of_none e nx)) nx⟩⟩
/-! ### comparisons of two Amounts -/
theorem cmp_lt {t1 b1 t2 b2 : Int} (h1 : 0 < b1) (h2 : 0 < b2) : M.lt (M.plc 1 t1 b1.toNat) (M.plc 1 t2 b2.toNat) = decide (t1 * b2 < t2 * b1) := by
  have q := (M.plc_order b1.toNat b2.toNat 1 t1 t2 (.inl rfl) (fun z => by omega) (fun z => by omega)).1
  rw [q, Int.toNat_of_nonneg (Int.le_of_lt h1), Int.toNat_of_nonneg (Int.le_of_lt h2)]
  congr 1
  apply propext
  constructor <;> intro h <;> omega
theorem cmp_eq {t1 b1 t2 b2 : Int} (h1 : 0 < b1) (h2 : 0 < b2) : decide (M.plc 1 t1 b1.toNat = M.plc 1 t2 b2.toNat) = decide (t1 * b2 = t2 * b1) := by
  have q := (M.plc_order b1.toNat b2.toNat 1 t1 t2 (.inl rfl) (fun z => by omega) (fun z => by omega)).2
  rw [Int.toNat_of_nonneg (Int.le_of_lt h1), Int.toNat_of_nonneg (Int.le_of_lt h2)] at q
  congr 1
  apply propext
  rw [q]
  constructor <;> intro h <;> omega
theorem kSelf {K : PySem.W.Frag} {C : Addr} : PySem.W.kitOne K (.ref C) (.ref C) = some true := by
  unfold PySem.W.kitOne
  rw [if_pos (beq_self_eq_true _)]
theorem AmTxt.ty (T : AmTxt K mg C) {H : Hp} {a : Addr} {t b : Int} (h : AmAt C H a t b) : TyOf K H (.ref a) (.ref C) := let ⟨_, _, _, e, _⟩ := h; .ins e T.cl T.ca T.cn T.ck T.cm
def spCmp (C : Addr) (F : Int → Int → Int → Int → Bool) : Sp := fun vs H Q _ => ∃ (a c : Addr) (t1 b1 t2 b2 : Int), vs = [.ref a, .ref c] ∧ AmAt C H a t1 b1 ∧ AmAt C H c t2 b2 ∧ Q (.bl (F t1 b1 t2 b2)) H
theorem scEq : FnScope ["self", "other"] ["self", "other"] (defScope sMEq) := ⟨rfl, rfl, rfl, by decide +kernel, rfl, by decide +kernel, by decide +kernel⟩
def fEq : Int → Int → Int → Int → Bool := fun t1 b1 t2 b2 => decide (t1 * b2 = t2 * b1)
theorem ok_Eq {f : Addr} {fd : FuncData} (F : Fun K "__eq__" "Amount.__eq__" sMEq f fd) (T : AmTxt K mg C) : FnOk P w K mg base CX0 1 f fd ["self", "other"] (spCmp C fEq) := by
  refine F.ok scEq (fun vs H Q E h => ?_) (fun cdv A out s H vs Q E hr h => ?_)
  · obtain ⟨a, c, t1, b1, t2, b2, rfl, _⟩ := h
    rfl
  · obtain ⟨a, c, t1, b1, t2, b2, rfl, h1, h2, q⟩ := h
    obtain ⟨z1, d1, p1, e1, g1⟩ := id h1
    obtain ⟨z2, d2, p2, e2, g2⟩ := id h2
    refine ⟨_, (pss_cons (ps_if (pt_not (pt_val (pe_callB call_isi (by rfl) T.b_isinstance (by decide +kernel) (pa_cons (pv 1) (pa_cons (pe_glob (v := .ref C) (by rfl) T.gC rfl) pa_nil))))) (pss_one (ps_never)) pss_nil)
  (pss_one (ps_ret (pe_cmpR (op_eqI hr.units) (pe_fld (pv 0) rfl) (pe_fld (pv 1) rfl) (nomark _))))), ?_⟩
    refine ⟨_, rfl, .ref c, .ref C, .ref C, .ref C, true, rfl, .own C, .base (T.ty h2), kSelf, true, rfl, iteF ?_⟩
    refine ⟨_, rfl, a, C, d1, _, _, rfl, e1, T.cl, T.nP, am_place _ _ _, _, rfl, c, C, d2, _, _, rfl, e2, T.cl, T.nP, am_place _ _ _, p1, p2, _, _, rfl, rfl, SqT.of g1, SqT.of g2, ?_⟩
    show Q (.bl (decide (M.plc 1 t1 b1.toNat = M.plc 1 t2 b2.toNat))) H
    rw [cmp_eq z1 z2]
    exact q
theorem scLt : FnScope ["self", "other"] ["self", "other"] (defScope sMLt) := ⟨rfl, rfl, rfl, by decide +kernel, rfl, by decide +kernel, by decide +kernel⟩
def fLt : Int → Int → Int → Int → Bool := fun t1 b1 t2 b2 => decide (t1 * b2 < t2 * b1)
theorem ok_Lt {f : Addr} {fd : FuncData} (F : Fun K "__lt__" "Amount.__lt__" sMLt f fd) (T : AmTxt K mg C) : FnOk P w K mg base CX0 1 f fd ["self", "other"] (spCmp C fLt) := by
  refine F.ok scLt (fun vs H Q E h => ?_) (fun cdv A out s H vs Q E hr h => ?_)
  · obtain ⟨a, c, t1, b1, t2, b2, rfl, _⟩ := h
    rfl
  · obtain ⟨a, c, t1, b1, t2, b2, rfl, h1, h2, q⟩ := h
    obtain ⟨z1, d1, p1, e1, g1⟩ := id h1
    obtain ⟨z2, d2, p2, e2, g2⟩ := id h2
    refine ⟨_, (pss_cons (ps_if (pt_not (pt_val (pe_callB call_isi (by rfl) T.b_isinstance (by decide +kernel) (pa_cons (pv 1) (pa_cons (pe_glob (v := .ref C) (by rfl) T.gC rfl) pa_nil))))) (pss_one (ps_never)) pss_nil)
  (pss_one (ps_ret (pe_cmpR (op_ltI hr.units0) (pe_fld (pv 0) rfl) (pe_fld (pv 1) rfl) (nomark _))))), ?_⟩
    refine ⟨_, rfl, .ref c, .ref C, .ref C, .ref C, true, rfl, .own C, .base (T.ty h2), kSelf, true, rfl, iteF ?_⟩
    refine ⟨_, rfl, a, C, d1, _, _, rfl, e1, T.cl, T.nP, am_place _ _ _, _, rfl, c, C, d2, _, _, rfl, e2, T.cl, T.nP, am_place _ _ _, p1, p2, _, _, rfl, rfl, SqT.of g1, SqT.of g2, ?_⟩
    show Q (.bl (M.lt (M.plc 1 t1 b1.toNat) (M.plc 1 t2 b2.toNat))) H
    rw [cmp_lt z1 z2]
    exact q
theorem scLe : FnScope ["self", "other"] ["self", "other"] (defScope sMLe) := ⟨rfl, rfl, rfl, by decide +kernel, rfl, by decide +kernel, by decide +kernel⟩
def fLe : Int → Int → Int → Int → Bool := fun t1 b1 t2 b2 => !decide (t2 * b1 < t1 * b2)
theorem ok_Le {f : Addr} {fd : FuncData} (F : Fun K "__le__" "Amount.__le__" sMLe f fd) (T : AmTxt K mg C) : FnOk P w K mg base CX0 1 f fd ["self", "other"] (spCmp C fLe) := by
  refine F.ok scLe (fun vs H Q E h => ?_) (fun cdv A out s H vs Q E hr h => ?_)
  · obtain ⟨a, c, t1, b1, t2, b2, rfl, _⟩ := h
    rfl
  · obtain ⟨a, c, t1, b1, t2, b2, rfl, h1, h2, q⟩ := h
    obtain ⟨z1, d1, p1, e1, g1⟩ := id h1
    obtain ⟨z2, d2, p2, e2, g2⟩ := id h2
    refine ⟨_, (pss_cons (ps_if (pt_not (pt_val (pe_callB call_isi (by rfl) T.b_isinstance (by decide +kernel) (pa_cons (pv 1) (pa_cons (pe_glob (v := .ref C) (by rfl) T.gC rfl) pa_nil))))) (pss_one (ps_never)) pss_nil)
  (pss_one (ps_ret (pe_cmpR (op_leI hr.units0) (pe_fld (pv 0) rfl) (pe_fld (pv 1) rfl) (nomark _))))), ?_⟩
    refine ⟨_, rfl, .ref c, .ref C, .ref C, .ref C, true, rfl, .own C, .base (T.ty h2), kSelf, true, rfl, iteF ?_⟩
    refine ⟨_, rfl, a, C, d1, _, _, rfl, e1, T.cl, T.nP, am_place _ _ _, _, rfl, c, C, d2, _, _, rfl, e2, T.cl, T.nP, am_place _ _ _, p1, p2, _, _, rfl, rfl, SqT.of g1, SqT.of g2, ?_⟩
    show Q (.bl (!M.lt (M.plc 1 t2 b2.toNat) (M.plc 1 t1 b1.toNat))) H
    rw [cmp_lt z2 z1]
    exact q
theorem scGt : FnScope ["self", "other"] ["self", "other"] (defScope sMGt) := ⟨rfl, rfl, rfl, by decide +kernel, rfl, by decide +kernel, by decide +kernel⟩
def fGt : Int → Int → Int → Int → Bool := fun t1 b1 t2 b2 => decide (t2 * b1 < t1 * b2)
theorem ok_Gt {f : Addr} {fd : FuncData} (F : Fun K "__gt__" "Amount.__gt__" sMGt f fd) (T : AmTxt K mg C) : FnOk P w K mg base CX0 1 f fd ["self", "other"] (spCmp C fGt) := by
  refine F.ok scGt (fun vs H Q E h => ?_) (fun cdv A out s H vs Q E hr h => ?_)
  · obtain ⟨a, c, t1, b1, t2, b2, rfl, _⟩ := h
    rfl
  · obtain ⟨a, c, t1, b1, t2, b2, rfl, h1, h2, q⟩ := h
    obtain ⟨z1, d1, p1, e1, g1⟩ := id h1
    obtain ⟨z2, d2, p2, e2, g2⟩ := id h2
    refine ⟨_, (pss_cons (ps_if (pt_not (pt_val (pe_callB call_isi (by rfl) T.b_isinstance (by decide +kernel) (pa_cons (pv 1) (pa_cons (pe_glob (v := .ref C) (by rfl) T.gC rfl) pa_nil))))) (pss_one (ps_never)) pss_nil)
  (pss_one (ps_ret (pe_cmpR (op_gtI hr.units0) (pe_fld (pv 0) rfl) (pe_fld (pv 1) rfl) (nomark _))))), ?_⟩
    refine ⟨_, rfl, .ref c, .ref C, .ref C, .ref C, true, rfl, .own C, .base (T.ty h2), kSelf, true, rfl, iteF ?_⟩
    refine ⟨_, rfl, a, C, d1, _, _, rfl, e1, T.cl, T.nP, am_place _ _ _, _, rfl, c, C, d2, _, _, rfl, e2, T.cl, T.nP, am_place _ _ _, p1, p2, _, _, rfl, rfl, SqT.of g1, SqT.of g2, ?_⟩
    show Q (.bl (M.lt (M.plc 1 t2 b2.toNat) (M.plc 1 t1 b1.toNat))) H
    rw [cmp_lt z2 z1]
    exact q
theorem scGe : FnScope ["self", "other"] ["self", "other"] (defScope sMGe) := ⟨rfl, rfl, rfl, by decide +kernel, rfl, by decide +kernel, by decide +kernel⟩
def fGe : Int → Int → Int → Int → Bool := fun t1 b1 t2 b2 => !decide (t1 * b2 < t2 * b1)
theorem ok_Ge {f : Addr} {fd : FuncData} (F : Fun K "__ge__" "Amount.__ge__" sMGe f fd) (T : AmTxt K mg C) : FnOk P w K mg base CX0 1 f fd ["self", "other"] (spCmp C fGe) := by
  refine F.ok scGe (fun vs H Q E h => ?_) (fun cdv A out s H vs Q E hr h => ?_)
  · obtain ⟨a, c, t1, b1, t2, b2, rfl, _⟩ := h
    rfl
  · obtain ⟨a, c, t1, b1, t2, b2, rfl, h1, h2, q⟩ := h
    obtain ⟨z1, d1, p1, e1, g1⟩ := id h1
    obtain ⟨z2, d2, p2, e2, g2⟩ := id h2
    refine ⟨_, (pss_cons (ps_if (pt_not (pt_val (pe_callB call_isi (by rfl) T.b_isinstance (by decide +kernel) (pa_cons (pv 1) (pa_cons (pe_glob (v := .ref C) (by rfl) T.gC rfl) pa_nil))))) (pss_one (ps_never)) pss_nil)
  (pss_one (ps_ret (pe_cmpR (op_geI hr.units0) (pe_fld (pv 0) rfl) (pe_fld (pv 1) rfl) (nomark _))))), ?_⟩
    refine ⟨_, rfl, .ref c, .ref C, .ref C, .ref C, true, rfl, .own C, .base (T.ty h2), kSelf, true, rfl, iteF ?_⟩
    refine ⟨_, rfl, a, C, d1, _, _, rfl, e1, T.cl, T.nP, am_place _ _ _, _, rfl, c, C, d2, _, _, rfl, e2, T.cl, T.nP, am_place _ _ _, p1, p2, _, _, rfl, rfl, SqT.of g1, SqT.of g2, ?_⟩
    show Q (.bl (!M.lt (M.plc 1 t1 b1.toNat) (M.plc 1 t2 b2.toNat))) H
    rw [cmp_lt z1 z2]
    exact q
/-! ### the rules for the law: Amounts compared, and compared with other kinds -/
structure AmCmp (K : PySem.W.Frag) (mg : Str → Option Value) (C : Addr) : Prop where
  eq : MethT K C "__eq__" "Amount.__eq__" sMEq ["self", "other"]
  lt : MethT K C "__lt__" "Amount.__lt__" sMLt ["self", "other"]
  le : MethT K C "__le__" "Amount.__le__" sMLe ["self", "other"]
  gt : MethT K C "__gt__" "Amount.__gt__" sMGt ["self", "other"]
  ge : MethT K C "__ge__" "Amount.__ge__" sMGe ["self", "other"]
  st : MethT K C "__str__" "Amount.__str__" sMStr ["self"]
  rp : MethT K C "__repr__" "Amount.__repr__" sMRepr ["self"]
  pt : PropT K C "top" "Amount.top" sMTop
  b_str : mg "str" = none
/-- op of two Amounts -/
def rAm (C : Addr) (F : Int → Int → Int → Int → Bool) : R2 := fun x y H Q => ∃ (a c : Addr) (t1 b1 t2 b2 : Int), x = .ref a ∧ y = .ref c ∧ AmAt C H a t1 b1 ∧ AmAt C H c t2 b2 ∧ Q (.bl (F t1 b1 t2 b2)) H
theorem opr_imp {X : Cx} {f : Value → Value → Sem Value} {r r' : R2} (h : OpR X f r) (i : ∀ x y H Q, r' x y H Q → r x y H Q) : OpR X f r' := fun pins s σ H x y v u Q I rx ry q => h pins s σ H x y v u Q I rx ry (i x y H Q q)
theorem nf_self {K : PySem.W.Frag} {C : Addr} : PySem.W.notFirst K C (.ref C) = true := by
  unfold PySem.W.notFirst
  rw [beq_self_eq_true] <;> rfl
section
variable {X : Cx}
theorem rAm_in (T : AmTxt X.K X.mg C) {F : Int → Int → Int → Int → Bool} {x y : V} {H : Hp} {Q : VK} (h : rAm C F x y H Q) : rCmp X.K C (spCmp C F) E0 x y H Q := by
  obtain ⟨a, c, t1, b1, t2, b2, rfl, rfl, h1, h2, q⟩ := h
  obtain ⟨z1, d1, p1, e1, g1⟩ := id h1
  exact ⟨a, d1, _, .ref C, rfl, e1, T.ty h2, nf_self, a, c, t1, b1, t2, b2, rfl, h1, h2, q⟩
theorem op_eqAm (T : AmTxt X.K X.mg C) (M : AmCmp X.K X.mg C) (hr : Room 1 X.A) : OpR X (compareOp .Eq) (rAm C SP.fEq) := by
  obtain ⟨f, fd, h1, h2, F, hb⟩ := M.eq.ex
  exact opr_imp (op_cmpC hr.units0 h1 h2 (rn_of (ok_Eq (P := X.prog) (w := X.w) (base := X.base) F T) hr hb .nil pass0)) fun x y H Q h => rAm_in T h
theorem op_ltAm (T : AmTxt X.K X.mg C) (M : AmCmp X.K X.mg C) (hr : Room 1 X.A) : OpR X (compareOp .Lt) (rAm C SP.fLt) := by
  obtain ⟨f, fd, h1, h2, F, hb⟩ := M.lt.ex
  exact opr_imp (op_cmpC hr.units0 h1 h2 (rn_of (ok_Lt (P := X.prog) (w := X.w) (base := X.base) F T) hr hb .nil pass0)) fun x y H Q h => rAm_in T h
theorem op_leAm (T : AmTxt X.K X.mg C) (M : AmCmp X.K X.mg C) (hr : Room 1 X.A) : OpR X (compareOp .LtE) (rAm C SP.fLe) := by
  obtain ⟨f, fd, h1, h2, F, hb⟩ := M.le.ex
  exact opr_imp (op_cmpC hr.units0 h1 h2 (rn_of (ok_Le (P := X.prog) (w := X.w) (base := X.base) F T) hr hb .nil pass0)) fun x y H Q h => rAm_in T h
theorem op_gtAm (T : AmTxt X.K X.mg C) (M : AmCmp X.K X.mg C) (hr : Room 1 X.A) : OpR X (compareOp .Gt) (rAm C SP.fGt) := by
  obtain ⟨f, fd, h1, h2, F, hb⟩ := M.gt.ex
  exact opr_imp (op_cmpC hr.units0 h1 h2 (rn_of (ok_Gt (P := X.prog) (w := X.w) (base := X.base) F T) hr hb .nil pass0)) fun x y H Q h => rAm_in T h
theorem op_geAm (T : AmTxt X.K X.mg C) (M : AmCmp X.K X.mg C) (hr : Room 1 X.A) : OpR X (compareOp .GtE) (rAm C SP.fGe) := by
  obtain ⟨f, fd, h1, h2, F, hb⟩ := M.ge.ex
  exact opr_imp (op_cmpC hr.units0 h1 h2 (rn_of (ok_Ge (P := X.prog) (w := X.w) (base := X.base) F T) hr hb .nil pass0)) fun x y H Q h => rAm_in T h
/-- != of two Amounts -/
theorem op_neAm (T : AmTxt X.K X.mg C) (M : AmCmp X.K X.mg C) (hr : Room 2 X.A) : OpR X (compareOp .NotEq) (rAm C fun t1 b1 t2 b2 => !SP.fEq t1 b1 t2 b2) := by
  obtain ⟨f, fd, h1, h2, F, hb⟩ := M.eq.ex
  refine opr_imp (op_neC (sp := spCmp C SP.fEq) (E := E0) (by have := hr.units; omega) h1 T.ne T.cm h2 (rn_of (X := in1 X) (ok_Eq (P := X.prog) (w := X.w) (base := X.base) F T) hr.in1 hb .nil pass0)) fun x y H Q h => ?_
  obtain ⟨a, c, t1, b1, t2, b2, rfl, rfl, h1, h2, q⟩ := h
  obtain ⟨z1, d1, p1, e1, g1⟩ := id h1
  exact ⟨a, d1, _, .ref C, rfl, e1, T.ty h2, nf_self, a, c, t1, b1, t2, b2, rfl, h1, h2, _, rfl, q⟩
/-- an Amount beside a value of another kind -/
def dFgn (C : Addr) : List V → Hp → Prop := fun vs H => ∃ (a : Addr) (y : V) (t b : Int), vs = [.ref a, y] ∧ AmAt C H a t b ∧ Fgn H y
theorem not_am (T : AmTxt X.K X.mg C) {H : Hp} {y : V} (f : Fgn H y) : ∃ t, TyX X.K H y t ∧ PySem.W.kitOne X.K t (.ref C) = some false := by
  cases f with
  | non => exact ⟨_, .base .non, T.na.n⟩
  | bl b => exact ⟨_, .base (.bl b), T.na.b⟩
  | int i => exact ⟨_, .base (.int i), T.na.i⟩
  | str x => exact ⟨_, .base (.str x), T.na.s⟩
  | tup e => exact ⟨_, .base (.tup e), T.na.t⟩
  | lst e => exact ⟨_, .base (.lst e), T.na.l⟩
theorem rnN_eq (T : AmTxt X.K X.mg C) {f : Addr} {fd : FuncData} (F : Fun X.K "__eq__" "Amount.__eq__" sMEq f fd) (hb : Binds X.K fd ["self", "other"] []) (hn : X.mg "NotImplemented" = none) (hr : Room 1 X.A) : RnN X f (dFgn C) := by
  refine rnN_of F scEq hr hb (fun vs H h => ?_) rfl hn fun cdv A out s H vs hr h => ?_
  · obtain ⟨a, y, t, b, rfl, _⟩ := h
    rfl
  · obtain ⟨a, y, t, b, rfl, h1, f⟩ := h
    obtain ⟨ty, h2, h3⟩ := not_am T f
    refine ⟨_, pt_not (pt_val (pe_callB call_isi (by rfl) T.b_isinstance (by decide +kernel) (pa_cons (pv 1) (pa_cons (pe_glob (v := .ref C) (by rfl) T.gC rfl) pa_nil)))), by rfl, ?_⟩
    exact ⟨_, rfl, y, .ref C, ty, .ref C, false, rfl, .own C, h2, h3, false, rfl, rfl, Same.refl _⟩
def rAmF (C : Addr) (k : Bool) : R2 := fun x y H Q => ∃ (a : Addr) (t b : Int), x = .ref a ∧ AmAt C H a t b ∧ Fgn H y ∧ ∀ H', Same H H' → Q (.bl k) H'
theorem rAmF_in {k : Bool} {x y : V} {H : Hp} {Q : VK} (h : rAmF C k x y H Q) : rEqF C (dFgn C) k x y H Q := by
  obtain ⟨a, t, b, rfl, h1, f, q⟩ := h
  obtain ⟨z1, d1, p1, e1, g1⟩ := id h1
  exact ⟨a, d1, _, rfl, e1, f, ⟨a, y, t, b, rfl, h1, f⟩, q⟩
theorem op_eqAmF (T : AmTxt X.K X.mg C) (M : AmCmp X.K X.mg C) (hn : X.mg "NotImplemented" = none) (hr : Room 1 X.A) : OpR X (compareOp .Eq) (rAmF C false) :=
  let ⟨_, _, h1, h2, F, hb⟩ := M.eq.ex
  opr_imp (op_eqF hr.units0 T.fg h1 h2 (rnN_eq T F hb hn hr)) fun _ _ _ _ h => rAmF_in h
theorem op_neAmF (T : AmTxt X.K X.mg C) (M : AmCmp X.K X.mg C) (hn : X.mg "NotImplemented" = none) (hr : Room 2 X.A) : OpR X (compareOp .NotEq) (rAmF C true) :=
  let ⟨_, _, h1, h2, F, hb⟩ := M.eq.ex
  opr_imp (op_neF (by have := hr.units; omega) T.fg h1 T.ne T.cm h2 (rnN_eq (X := in1 X) T F hb hn hr.in1)) fun _ _ _ _ h => rAmF_in h
/-! ### an Amount shown -/
def sTxt (t b : Int) : Str := if b = 1 then PySem.Str.ofString (toString t) else Str.empty ++ PySem.Str.ofString (toString t) ++ "/" ++ PySem.Str.ofString (toString b)
def rTxt (t b : Int) : Str := Str.empty ++ "Amount(" ++ PySem.Str.ofString (toString t) ++ ", " ++ PySem.Str.ofString (toString b) ++ ")"
def spShow (C : Addr) (F : Int → Int → Str) : Sp := fun vs H Q _ => ∃ (a : Addr) (t b : Int), vs = [.ref a] ∧ AmAt C H a t b ∧ t.natAbs < 2 ^ 1900 ∧ b.natAbs < 2 ^ 1900 ∧ Q (.str (F t b)) H
theorem scStr : FnScope ["self"] ["self"] (defScope sMStr) := ⟨rfl, rfl, rfl, by decide +kernel, rfl, by decide +kernel, by decide +kernel⟩
theorem scRepr : FnScope ["self"] ["self"] (defScope sMRepr) := ⟨rfl, rfl, rfl, by decide +kernel, rfl, by decide +kernel, by decide +kernel⟩
theorem small1000' {n : Nat} (h : n ≤ 10000) : n ≤ sizeLine := Nat.le_trans h (by decide)
theorem ok_Str {f : Addr} {fd : FuncData} (F : Fun X.K "__str__" "Amount.__str__" sMStr f fd) (T : AmTxt X.K X.mg C) (M : AmCmp X.K X.mg C) : FnOk X.prog X.w X.K X.mg X.base CX0 1 f fd ["self"] (spShow C sTxt) := by
  refine F.ok scStr (fun vs H Q E h => ?_) (fun cdv A out s H vs Q E hr h => ?_)
  · obtain ⟨a, t, b, rfl, _⟩ := h
    rfl
  · obtain ⟨a, t, b, rfl, h1, hz1, hz2, q⟩ := h
    obtain ⟨z1, d1, p1, e1, g1⟩ := id h1
    refine ⟨_, (pss_cons (ps_if (pt_cmpR op_eq (pe_fld (pv 0) rfl) pe_int (nomark _)) (pss_one (ps_ret (pe_callTy call_str_int (by rfl) M.b_str (by decide +kernel) (pa_cons (pe_fld (pv 0) rfl) pa_nil)))) pss_nil)
  (pss_one (ps_ret (pe_joined (PJ.cons (pe_fmt (pe_fld (pv 0) rfl)) (PJ.cons pe_str (PJ.cons (pe_fmt (pe_fld (pv 0) rfl)) PJ.nil))))))), ?_⟩
    refine ⟨_, rfl, a, C, d1, _, _, rfl, e1, T.cl, T.nB, am_bottom _ _ _, rfl, _, rfl, ?_⟩
    have g1 := small_log hz1 (by decide) (by decide)
    have g2 := small_log hz2 (by decide) (by decide)
    have l1 := len1921 g1
    have l2 := len1921 g2
    by_cases h : b = 1
    · rw [decide_eq_true (show V.int b = V.int 1 by rw [h])]
      refine iteT ⟨_, rfl, a, C, d1, _, _, rfl, e1, T.cl, T.nT, am_top _ _ _, _, rfl, g1, ?_⟩
      have e : sTxt t b = PySem.Str.ofString (toString t) := if_pos h
      rw [e] at q
      exact q
    · rw [decide_eq_false (show ¬ V.int b = V.int 1 from fun z => h (by injection z))]
      refine iteF ⟨_, rfl, a, C, d1, _, _, rfl, e1, T.cl, T.nT, am_top _ _ _, .inr ⟨t, rfl, g1, _, rfl, ?_, _, rfl, ?_, ?_⟩⟩
      · rw [PySem.Str.length_append]
        exact small1000' (by show 0 + _ ≤ _; omega)
      · rw [PySem.Str.length_append, PySem.Str.length_append]
        exact small1000' (by show 0 + _ + 1 ≤ _; omega)
      · refine ⟨_, rfl, a, C, d1, _, _, rfl, e1, T.cl, T.nB, am_bottom _ _ _, .inr ⟨b, rfl, g2, _, rfl, ?_, ?_⟩⟩
        · rw [PySem.Str.length_append, PySem.Str.length_append, PySem.Str.length_append]
          exact small1000' (by show 0 + _ + 1 + _ ≤ _; omega)
        · have e : sTxt t b = Str.empty ++ PySem.Str.ofString (toString t) ++ "/" ++ PySem.Str.ofString (toString b) := if_neg h
          rw [e] at q
          exact q
theorem ok_Repr {f : Addr} {fd : FuncData} (F : Fun X.K "__repr__" "Amount.__repr__" sMRepr f fd) (T : AmTxt X.K X.mg C) : FnOk X.prog X.w X.K X.mg X.base CX0 1 f fd ["self"] (spShow C rTxt) := by
  refine F.ok scRepr (fun vs H Q E h => ?_) (fun cdv A out s H vs Q E hr h => ?_)
  · obtain ⟨a, t, b, rfl, _⟩ := h
    rfl
  · obtain ⟨a, t, b, rfl, h1, hz1, hz2, q⟩ := h
    obtain ⟨z1, d1, p1, e1, g1⟩ := id h1
    refine ⟨_, (pss_one (ps_ret (pe_joined (PJ.cons pe_str (PJ.cons (pe_fmt (pe_fld (pv 0) rfl)) (PJ.cons pe_str (PJ.cons (pe_fmt (pe_fld (pv 0) rfl)) (PJ.cons pe_str PJ.nil)))))))), ?_⟩
    have g1 := small_log hz1 (by decide) (by decide)
    have g2 := small_log hz2 (by decide) (by decide)
    have l1 := len1921 g1
    have l2 := len1921 g2
    refine ⟨_, rfl, by decide, _, rfl, a, C, d1, _, _, rfl, e1, T.cl, T.nT, am_top _ _ _, .inr ⟨t, rfl, g1, _, rfl, ?_, _, rfl, ?_, ?_⟩⟩
    · rw [PySem.Str.length_append, PySem.Str.length_append]
      exact small1000' (by show 0 + 7 + _ ≤ _; omega)
    · rw [PySem.Str.length_append, PySem.Str.length_append, PySem.Str.length_append]
      exact small1000' (by show 0 + 7 + _ + 2 ≤ _; omega)
    · refine ⟨_, rfl, a, C, d1, _, _, rfl, e1, T.cl, T.nB, am_bottom _ _ _, .inr ⟨b, rfl, g2, _, rfl, ?_, _, rfl, ?_, q⟩⟩
      · rw [PySem.Str.length_append, PySem.Str.length_append, PySem.Str.length_append, PySem.Str.length_append]
        exact small1000' (by show 0 + 7 + _ + 2 + _ ≤ _; omega)
      · rw [PySem.Str.length_append, PySem.Str.length_append, PySem.Str.length_append, PySem.Str.length_append, PySem.Str.length_append]
        exact small1000' (by show 0 + 7 + _ + 2 + _ + 1 ≤ _; omega)
/-- str(a), repr(a) of an Amount -/
def rAmS (C : Addr) (F : Int → Int → Str) : List V → Hp → VK → Prop := fun xs H Q => ∃ (a : Addr) (t b : Int), xs = [.ref a] ∧ AmAt C H a t b ∧ t.natAbs < 2 ^ 1900 ∧ b.natAbs < 2 ^ 1900 ∧ Q (.str (F t b)) H
theorem callr_imp {X : Cx} {f : Value} {r r' : List V → Hp → VK → Prop} (h : CallR X f r) (i : ∀ xs H Q, r' xs H Q → r xs H Q) : CallR X f r' := fun pins s σ H xs us Q I rv q => h pins s σ H xs us Q I rv (i xs H Q q)
theorem rAmS_in {F : Int → Int → Str} {xs : List V} {H : Hp} {Q : VK} (h : rAmS C F xs H Q) : rShow C (spShow C F) E0 xs H Q := by
  obtain ⟨a, t, b, rfl, h1, z1, z2, q⟩ := h
  obtain ⟨_, d1, p1, e1, g1⟩ := id h1
  exact ⟨a, d1, _, rfl, e1, a, t, b, rfl, h1, z1, z2, _, rfl, q⟩
theorem call_strAm (T : AmTxt X.K X.mg C) (M : AmCmp X.K X.mg C) (hr : Room 3 X.A) : CallR X (.type "str") (rAmS C sTxt) :=
  let ⟨_, _, h1, h2, F, hb⟩ := M.st.ex
  callr_imp (call_strO (by have := hr.units; omega) h1 h2 (rn_of (X := in1 (in1 X)) (ok_Str (X := in1 (in1 X)) F T M) hr.in1.in1 hb .nil pass0)) fun _ _ _ h => rAmS_in h
theorem call_reprAm (T : AmTxt X.K X.mg C) (M : AmCmp X.K X.mg C) (hr : Room 2 X.A) : CallR X (.builtin "repr") (rAmS C rTxt) :=
  let ⟨_, _, h1, h2, F, hb⟩ := M.rp.ex
  callr_imp (call_reprO (by have := hr.units; omega) h1 h2 (rn_of (X := in1 X) (ok_Repr (X := in1 X) F T) hr.in1 hb .nil pass0)) fun _ _ _ h => rAmS_in h
/-- a.top -/
theorem scTop : FnScope ["self"] ["self"] (defScope sMTop) := ⟨rfl, rfl, rfl, by decide +kernel, rfl, by decide +kernel, by decide +kernel⟩
def spTop (C : Addr) : Sp := fun vs H Q _ => ∃ (a : Addr) (t b : Int), vs = [.ref a] ∧ AmAt C H a t b ∧ Q (.int t) H
theorem ok_Top {f : Addr} {fd : FuncData} (F : Fun X.K "top" "Amount.top" sMTop f fd) (T : AmTxt X.K X.mg C) : FnOk X.prog X.w X.K X.mg X.base CX0 1 f fd ["self"] (spTop C) := by
  refine F.ok scTop (fun vs H Q E h => ?_) (fun cdv A out s H vs Q E hr h => ?_)
  · obtain ⟨a, t, b, rfl, _⟩ := h
    rfl
  · obtain ⟨a, t, b, rfl, h1, q⟩ := h
    obtain ⟨z1, d1, p1, e1, g1⟩ := id h1
    refine ⟨_, (pss_one (ps_ret (pe_fld (pv 0) rfl))), ?_⟩
    exact ⟨_, rfl, a, C, d1, _, _, rfl, e1, T.cl, T.nT, am_top _ _ _, q⟩
theorem pe_top {e : Expr} {te : TE} {pos : Pos} (he : PE X e te) (T : AmTxt X.K X.mg C) (M : AmCmp X.K X.mg C) (hr : Room 2 X.A) (hab : attributeBase e "top" X.env (eval e X.env) = eval e X.env := by rfl) : PE X (.Attribute e "top" pos) (tProp C (spTop C) [] E0 te) :=
  let ⟨_, _, _, hp, F, hb⟩ := M.pt.ex
  pe_prop he T.cl hp (ok_Top F T) hr hb .nil pass0 hab
end
end
end SP
namespace SP
open PySem PySem.Spec PyProof.Rows L2
abbrev sPot : Stmt := top 17
abbrev sDraw : Stmt := top 18
abbrev sChoice : Stmt := top 19
abbrev sNumber : Stmt := top 20
abbrev sDrawn : Stmt := top 21
abbrev sDivided : Stmt := top 22
abbrev sNear : Stmt := top 23
abbrev sFractions : Stmt := top 24
abbrev sSign : Stmt := top 25
abbrev sPair : Stmt := top 26
abbrev sAlone : Stmt := top 27
abbrev sRight : Stmt := top 28
abbrev sLaw : Stmt := top 29


structure LTxt (K : PySem.W.Frag) (mg : Str → Option Value) (C : Addr) : Prop extends AmTxt K mg C where
  cmp : AmCmp K mg C
  b_NotImplemented : mg "NotImplemented" = none
  b_max : mg "max" = none
  b_min : mg "min" = none
  b_len : mg "len" = none
  b_divmod : mg "divmod" = none
  b_repr : mg "repr" = none
  b_all : mg "all" = none
  b_enumerate : mg "enumerate" = none
  b_range : mg "range" = none
  tPot : Top K mg "_law_pot" sPot ["_law_script", "_law_k"]
  tDraw : Top K mg "_law_draw" sDraw ["_law_pot_here", "_law_size"]
  tChoice : Top K mg "_law_choice" sChoice ["_law_pot_here", "_law_some"]
  tNumber : Top K mg "_law_number" sNumber ["_law_pot_here"]
  tDrawn : Top K mg "_law_drawn" sDrawn ["_law_pot_here"]
  tDivided : Top K mg "_law_divided" sDivided ["_law_one", "_law_other"]
  tNear : Top K mg "_law_near" sNear ["_law_top", "_law_bottom", "_law_sign_here"]
  tFractions : Top K mg "_law_fractions" sFractions ["_law_pot_here"]
  tSign : Top K mg "_law_sign" sSign ["_law_one", "_law_other"]
  tPair : Top K mg "_law_pair_right" sPair ["_law_one", "_law_other", "_law_sign_here"]
  tAlone : Top K mg "_law_alone_right" sAlone ["_law_made", "_law_fraction"]
  tRight : Top K mg "_law_right" sRight ["_law_pot_here"]
section
variable {P : Program} {w : World} {K : PySem.W.Frag} {mg : Str → Option Value} {base : Heap} {C : Addr}
/-! ### the pot -/
def spPot (K : PySem.W.Frag) : Sp := fun vs H Q _ => ∃ (a : Addr) (ns : List Int) (k : Int), vs = [.ref a, .int k] ∧ SqL K H a (ns.map V.int) ∧ ns.length ≤ 63 ∧ 0 ≤ k ∧ k < 64 ∧ ∀ p H', Same H H' → H p = none → Pot H' p → Q (.ref p) H'
theorem scPot : FnScope ["_law_script", "_law_k", "_law_cell"] ["_law_script", "_law_k"] (defScope sPot) := ⟨rfl, rfl, rfl, by decide +kernel, rfl, by decide +kernel, by decide +kernel⟩
theorem pot_end {H : Hp} {p : Addr} {Q : VK} {z : Int} {o : HO} (q : ∀ p H', Same H H' → H p = none → Pot H' p → Q (.ref p) H') (hp : H p = none) {a : Int} (e : o = .lst [.int (if a > 0 then a else 0), .int (z + 1)]) (h0 : 0 ≤ z) (h1 : z < 2147483629) : Q (.ref p) (upd H p o) := by
  subst e
  exact q p _ (Same.new hp) hp ⟨_, _, upd_same, by split <;> omega, by omega, by omega⟩
theorem d_pot (T : LTxt K mg C) : DefG P w K mg base 1 "_law_pot" ["_law_script", "_law_k"] (spPot K) := by
  refine T.tPot.ok scPot (fun vs H Q E h => ?_) (fun f cdv A out s H vs Q E gd hr h => ?_)
  · obtain ⟨a, ns, k, rfl, _⟩ := h
    rfl
  · obtain ⟨a, ns, k, rfl, hS, hn, h0, h1, q⟩ := h
    refine ⟨_, (pss_cons (ps_set (i := 2) scPot.nd rfl (Or.inl rfl) (pe_op op_add (pe_op op_mul pe_int (pv 1)) pe_int))
  (pss_cons (ps_if (pt_cmpR op_lt (pv 1) (pe_callB call_len (by rfl) T.b_len (by decide +kernel) (pa_cons (pv 0) pa_nil)) (nomark _)) (pss_one (ps_set (i := 2) scPot.nd rfl (Or.inl rfl) (pe_callB call_abs (by rfl) T.b_abs (by decide +kernel) (pa_cons (pe_ix ix_list (pv 0) (pv 1) (fun _ _ => rfl)) pa_nil)))) pss_nil)
  (pss_one (ps_ret (pe_lst (pa_cons (pe_callB (call_max2 rfl) (by rfl) T.b_max (by decide +kernel) (pa_cons pe_int (pa_cons (pe_op op_sub (pv 2) (pe_op op_pow pe_int pe_int)) pa_nil))) (pa_cons (pe_op op_add (pe_op op_mod (pe_callTy call_int1 (by rfl) T.b_int (by decide +kernel) (pa_cons (pe_op op_add (pe_op op_add (pe_op op_mul (pe_op op_mod (pe_callTy call_int1 (by rfl) T.b_int (by decide +kernel) (pa_cons (pv 2) pa_nil)) pe_int) pe_int) (pe_op op_mul pe_int (pv 1))) pe_int) pa_nil)) pe_int) pe_int) pa_nil))))))), ?_⟩
    refine ⟨_, rfl, _, _, rfl, rfl, .inl ⟨by decide, by decide⟩, _, _, rfl, rfl, ?_⟩
    refine ⟨_, rfl, _, rfl, _, ns.length, rfl, .inl ⟨_, hS, by rw [List.length_map]⟩, _, _, rfl, rfl, _, rfl, ?_⟩
    obtain ⟨cell, hc, hcell⟩ : ∃ cell : Int, 0 ≤ cell ∧ (if decide (k < (ns.length : Int)) = true then ∃ z : Int, (ns.map V.int)[k.toNat]? = some (.int z) ∧ cell = (if z < 0 then -z else z) else cell = 31 * k + 17) := by
      by_cases hk : k < (ns.length : Int)
      · obtain ⟨z, hz⟩ : ∃ z, ns[k.toNat]? = some z := ⟨_, List.getElem?_eq_getElem (by omega)⟩
        refine ⟨if z < 0 then -z else z, by split <;> omega, ?_⟩
        rw [decide_eq_true hk]
        exact iteT ⟨z, by rw [List.getElem?_map, hz] <;> rfl, rfl⟩
      · refine ⟨31 * k + 17, by omega, ?_⟩
        rw [decide_eq_false hk]
        exact iteF rfl
    by_cases hk : k < (ns.length : Int)
    · rw [decide_eq_true hk] at hcell ⊢
      rw [if_pos rfl] at hcell
      obtain ⟨z, hz, ez⟩ := hcell
      refine iteT ?_
      refine ⟨_, rfl, _, rfl, a, _, k, _, rfl, rfl, hS, at_of (j := k.toNat) (by omega) hz, z, rfl, ?_⟩
      refine ⟨_, rfl, _, _, rfl, rfl, ⟨by decide, by decide, by decide⟩, _, _, rfl, rfl, _, _, rfl, ?_⟩
      refine ⟨_, rfl, .inl ⟨_, rfl, _, _, rfl, rfl, (by show (0 : Int) < 2147483563; decide), _, _, rfl, rfl, .inr ⟨by decide, by decide⟩, _, rfl, _, _, rfl, rfl, .inl ⟨by decide, by decide⟩, _, _, rfl, rfl, _, _, rfl, rfl, .inl ⟨_, rfl, ?_⟩⟩⟩
      refine ⟨_, _, rfl, rfl, (by show (0 : Int) < 2147483629; decide), _, _, rfl, rfl, (by show 2 ≤ sizeLine; decide), fun p hp => ?_⟩
      exact pot_end q hp rfl (Int.emod_nonneg _ (by decide)) (Int.emod_lt_of_pos _ (by decide))
    · rw [decide_eq_false hk] at hcell ⊢
      rw [if_neg Bool.false_ne_true] at hcell
      subst hcell
      refine iteF ?_
      refine ⟨_, rfl, _, _, rfl, rfl, ⟨by decide, by decide, by decide⟩, _, _, rfl, rfl, _, _, rfl, ?_⟩
      refine ⟨_, rfl, .inl ⟨_, rfl, _, _, rfl, rfl, (by show (0 : Int) < 2147483563; decide), _, _, rfl, rfl, .inr ⟨by decide, by decide⟩, _, rfl, _, _, rfl, rfl, .inl ⟨by decide, by decide⟩, _, _, rfl, rfl, _, _, rfl, rfl, .inl ⟨_, rfl, ?_⟩⟩⟩
      refine ⟨_, _, rfl, rfl, (by show (0 : Int) < 2147483629; decide), _, _, rfl, rfl, (by show 2 ≤ sizeLine; decide), fun p hp => ?_⟩
      exact pot_end q hp rfl (Int.emod_nonneg _ (by decide)) (Int.emod_lt_of_pos _ (by decide))
/-! ### a draw -/
def spDraw : Sp := fun vs H Q _ => ∃ (p : Addr) (n : Int), vs = [.ref p, .int n] ∧ Pot H p ∧ 0 < n ∧ n < 1073741824 ∧ ∀ (d : Int) (H' : Hp), 0 ≤ d → d < n → Pot H' p → Kp p H H' → Q (.int d) H'
theorem scDraw : FnScope ["_law_pot_here", "_law_size", "_law_digit"] ["_law_pot_here", "_law_size"] (defScope sDraw) := ⟨rfl, rfl, rfl, by decide +kernel, rfl, by decide +kernel, by decide +kernel⟩
theorem d_draw (T : LTxt K mg C) : DefG P w K mg base 1 "_law_draw" ["_law_pot_here", "_law_size"] spDraw := by
  refine T.tDraw.ok scDraw (fun vs H Q E h => ?_) (fun f cdv A out s H vs Q E gd hr h => ?_)
  · obtain ⟨p, n, rfl, _⟩ := h
    rfl
  · obtain ⟨p, n, rfl, ⟨a, b, hp, ha, hb, hb2⟩, hn, hn2, q⟩ := h
    refine ⟨_, (pss_cons (ps_if (pt_cmpR op_gt (pe_ix ix_list (pv 0) pe_int (fun _ _ => rfl)) pe_int (nomark _)) (pss_cons (ps_asg (pe_callB call_divmod (by rfl) T.b_divmod (by decide +kernel) (pa_cons (pe_ix ix_list (pv 0) pe_int (fun _ _ => rfl)) (pa_cons (pv 1) pa_nil))) (pg_tup (by rfl) (pgs_cons (pg_sub (pv 0) pe_int set_list) (pgs_cons (pg_name (i := 2) scDraw.nd rfl (Or.inl rfl)) pgs_nil))))
  (pss_one (ps_ret (pv 2)))) pss_nil)
  (pss_cons (ps_asg (pe_op op_mod (pe_callTy call_int1 (by rfl) T.b_int (by decide +kernel) (pa_cons (pe_op op_add (pe_op op_mul (pe_ix ix_list (pv 0) pe_int (fun _ _ => rfl)) pe_int) pe_int) pa_nil)) pe_int) (pg_sub (pv 0) pe_int set_list))
  (pss_one (ps_ret (pe_op op_mod (pe_callTy call_int1 (by rfl) T.b_int (by decide +kernel) (pa_cons (pe_op op_fdivA (pe_op op_mod (pe_callTy call_int1 (by rfl) T.b_int (by decide +kernel) (pa_cons (pe_op op_mul (pe_ix ix_list (pv 0) pe_int (fun _ _ => rfl)) (pe_ix ix_list (pv 0) pe_int (fun _ _ => rfl))) pa_nil)) pe_int) pe_int) pa_nil)) (pv 1)))))), ?_⟩
    refine ⟨_, rfl, p, _, _, _, rfl, rfl, SqL.of hp, at_of (j := 0) rfl rfl, _, _, rfl, rfl, _, rfl, ?_⟩
    refine ite2 (fun c => ?_) (fun c => ?_)
    · refine ⟨_, rfl, p, _, _, _, rfl, rfl, SqL.of hp, at_of (j := 0) rfl rfl, _, rfl, _, _, rfl, ⟨hn, hn2⟩, fun t ht => ?_⟩
      have pt : p ≠ t := ne_of_none hp ht
      refine ⟨t, _, rfl, SqT.of upd_same, rfl, _, _, rfl, _, rfl, p, _, _, 0, rfl, rfl, by rw [upd_ne pt]; exact hp, rfl, ?_⟩
      refine ⟨_, _, rfl, rfl, _, rfl, ?_⟩
      refine q _ _ (Int.emod_nonneg _ (by omega)) (Int.emod_lt_of_pos _ hn) ⟨_, _, upd_same, Int.ediv_nonneg ha (by omega), hb, hb2⟩ ?_
      intro c o hc hcp
      rw [upd_ne hcp, upd_ne (ne_of_none hc ht)]
      exact hc
    · refine ⟨_, rfl, p, _, _, _, rfl, rfl, SqL.of hp, at_of (j := 1) rfl rfl, _, _, rfl, rfl, .inr ⟨by decide, by decide⟩, _, _, rfl, rfl, .inl ⟨_, rfl, ?_⟩⟩
      refine ⟨_, _, rfl, rfl, (by show (0 : Int) < 2147483629; decide), _, rfl, p, _, _, 1, rfl, rfl, hp, rfl, ?_⟩
      have e0 := Int.emod_nonneg (b * 48271 + 20011) (show (2147483629 : Int) ≠ 0 by decide)
      have e1 := Int.emod_lt_of_pos (b * 48271 + 20011) (show (0 : Int) < 2147483629 by decide)
      refine ⟨_, rfl, p, _, _, _, rfl, rfl, SqL.of upd_same, at_of (j := 1) rfl rfl, _, rfl, p, _, _, _, rfl, rfl, SqL.of upd_same, at_of (j := 1) rfl rfl, _, _, rfl, rfl, .inl ⟨by omega, by omega⟩, .inl ⟨_, rfl, ?_⟩⟩
      refine ⟨_, _, rfl, rfl, (by show (0 : Int) < 2147483587; decide), _, _, rfl, rfl, ⟨by decide, by decide⟩, .inl ⟨_, rfl, ?_⟩⟩
      refine ⟨_, rfl, _, _, rfl, rfl, hn, ?_⟩
      exact q _ _ (Int.emod_nonneg _ (by omega)) (Int.emod_lt_of_pos _ hn) ⟨_, _, upd_same, ha, e0, by omega⟩ Kp.upd
/-! ### one of a list -/
def spChoice (K : PySem.W.Frag) : Sp := fun vs H Q _ => ∃ (p q : Addr) (xs : List V), vs = [.ref p, .ref q] ∧ Pot H p ∧ q ≠ p ∧ H q = some (.lst xs) ∧ 0 < xs.length ∧ xs.length < 100000 ∧ ∀ (v : V) (H' : Hp), v ∈ xs → Pot H' p → Kp p H H' → Q v H'
theorem scChoice : FnScope ["_law_pot_here", "_law_some"] ["_law_pot_here", "_law_some"] (defScope sChoice) := ⟨rfl, rfl, rfl, by decide +kernel, rfl, by decide +kernel, by decide +kernel⟩
theorem d_choice (T : LTxt K mg C) : DefG P w K mg base 2 "_law_choice" ["_law_pot_here", "_law_some"] (spChoice K) := by
  have DD := d_draw (P := P) (w := w) (base := base) T
  refine T.tChoice.ok scChoice (fun vs H Q E h => ?_) (fun f cdv A out s H vs Q E gd hr h => ?_)
  · obtain ⟨p, q, xs, rfl, _⟩ := h
    rfl
  · obtain ⟨p, l, xs, rfl, hp, hq, hx, h0, h1, q⟩ := h
    refine ⟨_, (pss_one (ps_ret (pe_ix ix_list (pv 1) (pe_callD DD gd (hr.mono (by decide)) (pa_cons (pv 0) (pa_cons (pe_callB call_len (by rfl) T.b_len (by decide +kernel) (pa_cons (pv 1) pa_nil)) pa_nil))) (fun _ _ => rfl)))), ?_⟩
    refine ⟨_, rfl, _, rfl, _, rfl, _, xs.length, rfl, .inl ⟨_, SqL.of hx, rfl⟩, p, _, rfl, hp, by omega, by omega, fun d H' d0 d1 hp' kp => ?_⟩
    obtain ⟨v, hv⟩ : ∃ v, xs[d.toNat]? = some v := ⟨_, List.getElem?_eq_getElem (by omega)⟩
    exact ⟨l, _, _, v, rfl, rfl, SqL.of (kp _ _ hx hq), at_of (j := d.toNat) (by omega) hv, q v H' (List.mem_of_getElem? hv) hp' kp⟩
/-! ### a number, a fraction -/
def spNumber : Sp := fun vs H Q _ => ∃ p : Addr, vs = [.ref p] ∧ Pot H p ∧ ∀ (z : Int) (H' : Hp), z.natAbs < 2 ^ 64 → Pot H' p → Kp p H H' → Q (.int z) H'
theorem scNumber : FnScope ["_law_pot_here", "_law_way", "_law_number_here"] ["_law_pot_here"] (defScope sNumber) := ⟨rfl, rfl, rfl, by decide +kernel, rfl, by decide +kernel, by decide +kernel⟩
theorem d_number (T : LTxt K mg C) : DefG P w K mg base 2 "_law_number" ["_law_pot_here"] spNumber := by
  have DD := d_draw (P := P) (w := w) (base := base) T
  refine T.tNumber.ok scNumber (fun vs H Q E h => ?_) (fun f cdv A out s H vs Q E gd hr h => ?_)
  · obtain ⟨p, rfl, _⟩ := h
    rfl
  · obtain ⟨p, rfl, hp, q⟩ := h
    refine ⟨_, (pss_cons (ps_set (i := 1) scNumber.nd rfl (Or.inl rfl) (pe_callD DD gd (hr.mono (by decide)) (pa_cons (pv 0) (pa_cons pe_int pa_nil))))
  (pss_cons (ps_if (pt_cmpR op_lt (pv 1) pe_int (nomark _)) (pss_one (ps_ret (pe_op op_sub (pe_callD DD gd (hr.mono (by decide)) (pa_cons (pv 0) (pa_cons pe_int pa_nil))) pe_int))) pss_nil)
  (pss_cons (ps_set (i := 2) scNumber.nd rfl (Or.inl rfl) (pe_op op_add (pe_op op_mul (pe_callD DD gd (hr.mono (by decide)) (pa_cons (pv 0) (pa_cons (pe_op op_pow pe_int pe_int) pa_nil))) (pe_op op_pow pe_int pe_int)) (pe_callD DD gd (hr.mono (by decide)) (pa_cons (pv 0) (pa_cons (pe_op op_pow pe_int pe_int) pa_nil)))))
  (pss_one (ps_ret (pe_ifExp (pt_cmpR op_eq (pv 1) pe_int (nomark _)) (pv 2) (pe_un un_neg (pv 2)))))))), ?_⟩
    refine ⟨_, rfl, p, _, rfl, hp, by decide, by decide, fun d H1 d0 d1 hp1 k1 => ?_⟩
    refine ⟨_, rfl, _, _, rfl, rfl, _, rfl, ?_⟩
    refine ite2 (fun c => ?_) (fun c => ?_)
    · refine ⟨_, rfl, p, _, rfl, hp1, by decide, by decide, fun e H2 e0 e1 hp2 k2 => ?_⟩
      exact ⟨_, _, rfl, rfl, q _ H2 (by omega) hp2 (k1.trans k2)⟩
    · refine ⟨_, rfl, _, _, rfl, rfl, ⟨by decide, by decide, by decide⟩, p, _, rfl, hp1, by decide, by decide, fun e H2 e0 e1 hp2 k2 => ?_⟩
      have e1' : e < 100000000 := e1
      refine ⟨_, _, rfl, rfl, ⟨by decide, by decide, by decide⟩, _, _, rfl, rfl, .inl ⟨by omega, by omega⟩, ?_⟩
      refine ⟨_, rfl, _, _, rfl, rfl, ⟨by decide, by decide, by decide⟩, p, _, rfl, hp2, by decide, by decide, fun g H3 g0 g1 hp3 k3 => ?_⟩
      have g1' : g < 1000000000 := g1
      refine ⟨_, _, rfl, rfl, ?_⟩
      have bd : (e * 10 ^ Int.toNat 9 + g).natAbs < 2 ^ 64 := by
        have : (10 : Int) ^ Int.toNat 9 = 1000000000 := by decide
        rw [this]
        omega
      refine ⟨_, rfl, rfl, _, rfl, ?_⟩
      refine ite2 (fun c => ?_) (fun c => ?_)
      · exact ⟨_, rfl, q _ H3 bd hp3 ((k1.trans k2).trans k3)⟩
      · exact ⟨_, rfl, _, rfl, q _ H3 (by rw [Int.natAbs_neg]; exact bd) hp3 ((k1.trans k2).trans k3)⟩
/-- a tuple of two ints -/
def Pair (H : Hp) (q : Addr) (z b : Int) : Prop := H q = some (.tup [.int z, .int b])
def spDrawn : Sp := fun vs H Q _ => ∃ p : Addr, vs = [.ref p] ∧ Pot H p ∧ ∀ (q : Addr) (z b : Int) (H' : Hp), 1 ≤ b → b ≤ 1000000000 → z.natAbs < 2 ^ 64 → Pair H' q z b → H q = none → Pot H' p → Kp p H H' → Q (.ref q) H'
theorem scDrawn : FnScope ["_law_pot_here", "_law_bottom"] ["_law_pot_here"] (defScope sDrawn) := ⟨rfl, rfl, rfl, by decide +kernel, rfl, by decide +kernel, by decide +kernel⟩
theorem d_drawn (T : LTxt K mg C) : DefG P w K mg base 3 "_law_drawn" ["_law_pot_here"] spDrawn := by
  have DD := d_draw (P := P) (w := w) (base := base) T
  have DCh := d_choice (P := P) (w := w) (base := base) T
  have DN := d_number (P := P) (w := w) (base := base) T
  refine T.tDrawn.ok scDrawn (fun vs H Q E h => ?_) (fun f cdv A out s H vs Q E gd hr h => ?_)
  · obtain ⟨p, rfl, _⟩ := h
    rfl
  · obtain ⟨p, rfl, hp, q⟩ := h
    refine ⟨_, (pss_cons (ps_set (i := 1) scDrawn.nd rfl (Or.inl rfl) (pe_callD DCh gd (hr.mono (by decide)) (pa_cons (pv 0) (pa_cons (pe_lst (pa_cons pe_int (pa_cons pe_int (pa_cons (pe_op op_add pe_int (pe_callD DD gd (hr.mono (by decide)) (pa_cons (pv 0) (pa_cons pe_int pa_nil)))) (pa_cons (pe_op op_add pe_int (pe_callD DD gd (hr.mono (by decide)) (pa_cons (pv 0) (pa_cons (pe_op op_pow pe_int pe_int) pa_nil)))) pa_nil))))) pa_nil))))
  (pss_one (ps_ret (pe_tup (pa_cons (pe_callD DN gd (hr.mono (by decide)) (pa_cons (pv 0) pa_nil)) (pa_cons (pv 1) pa_nil)))))), ?_⟩
    refine ⟨_, rfl, _, rfl, p, _, rfl, hp, by decide, by decide, fun d H1 d0 d1 hp1 k1 => ⟨_, _, rfl, rfl, ?_⟩⟩
    refine ⟨_, rfl, _, _, rfl, rfl, ⟨by decide, by decide, by decide⟩, p, _, rfl, hp1, by decide, by decide, fun e H2 e0 e1 hp2 k2 => ⟨_, _, rfl, rfl, ?_⟩⟩
    have e1' : e < 1000000000 := e1
    refine ⟨by show 4 ≤ sizeLine; decide, fun l hl => ?_⟩
    obtain ⟨xs0, hx0⟩ := hp2.lst
    have lp : l ≠ p := (ne_of_none hx0 hl).symm
    refine ⟨p, l, _, rfl, hp2.same (Same.new hl), lp, upd_same, by show 0 < 4; decide, by show 4 < 100000; decide, fun v H3 hv hp3 k3 => ?_⟩
    obtain ⟨b, rfl, hb1, hb2⟩ : ∃ b : Int, v = .int b ∧ 1 ≤ b ∧ b ≤ 1000000000 := by
      have hv' : v = .int 1 ∨ v = .int 1 ∨ v = .int (1 + d) ∨ v = .int (1 + e) := by simpa using hv
      rcases hv' with rfl | rfl | rfl | rfl
      · exact ⟨_, rfl, by omega, by omega⟩
      · exact ⟨_, rfl, by omega, by omega⟩
      · exact ⟨_, rfl, by omega, by omega⟩
      · exact ⟨_, rfl, by omega, by omega⟩
    have k123 : Kp p H H3 := ((k1.trans k2).trans (Kp.new hl)).trans k3
    refine ⟨_, rfl, p, rfl, hp3, fun z H4 hz hp4 k4 => ⟨_, rfl, by show 2 ≤ sizeLine; decide, fun t ht => ?_⟩⟩
    obtain ⟨xs4, hx4⟩ := hp4.lst
    have kk : Kp p H H4 := k123.trans k4
    refine q t z b _ hb1 hb2 hz upd_same ?_ (hp4.same (Same.new ht)) (kk.trans (Kp.new ht))
    cases e5 : H t with
    | none => rfl
    | some o =>
      have tp : t ≠ p := (ne_of_none hx4 ht).symm
      rw [kk t o e5 tp] at ht
      cases ht
/-! ### the greatest common divisor of the law's own -/
theorem scDivided : FnScope ["_law_one", "_law_other"] ["_law_one", "_law_other"] (defScope sDivided) := ⟨rfl, rfl, rfl, by decide +kernel, rfl, by decide +kernel, by decide +kernel⟩
theorem d_divided (T : LTxt K mg C) : DefG P w K mg base 1 "_law_divided" ["_law_one", "_law_other"] spCD := by
  refine T.tDivided.ok scDivided (fun vs H Q E h => ?_) (fun f cdv A out s H vs Q E gd hr h => ?_)
  · obtain ⟨a, b, rfl, _⟩ := h
    rfl
  · obtain ⟨a, b, rfl, q⟩ := h
    refine ⟨_, (pss_cons (ps_par (i := 0) (j := 1) (by rfl) scDivided.nd rfl rfl (by decide) rfl rfl (pa_cons (pe_callB call_abs (by rfl) T.b_abs (by decide +kernel) (pa_cons (pv 0) pa_nil)) (pa_cons (pe_callB call_abs (by rfl) T.b_abs (by decide +kernel) (pa_cons (pv 1) pa_nil)) pa_nil)) (by rfl))
  (pss_cons (ps_while PassesOwn.never (pt_cmpR op_gt (pv 1) pe_int (nomark _)) (pss_one (ps_par (i := 0) (j := 1) (by rfl) scDivided.nd rfl rfl (by decide) rfl rfl (pa_cons (pv 1) (pa_cons (pe_op op_mod (pe_callTy call_int1 (by rfl) T.b_int (by decide +kernel) (pa_cons (pv 0) pa_nil)) (pv 1)) pa_nil)) (by rfl))))
  (pss_one (ps_ret (pv 0))))), ?_⟩
    refine ⟨_, rfl, a, rfl, _, rfl, b, rfl, _, _, rfl, ?_⟩
    refine ⟨fun m σ H' => H' = H ∧ ∃ x : Nat, σ = [some (.int x), some (.int m)] ∧ M.eu x m = Int.gcd a b, ⟨b.natAbs, rfl, a.natAbs, ?_, ?_⟩, ?_⟩
    · rw [abs_if, abs_if] <;> rfl
    · rw [M.eu_gcd] <;> rfl
    · rintro m σ H' ⟨rfl, x, rfl, e⟩
      refine ⟨_, rfl, _, _, rfl, rfl, _, rfl, ?_⟩
      by_cases hm : m = 0
      · subst hm
        refine iteF ?_
        refine ⟨_, rfl, ?_⟩
        rw [M.eu_zero] at e
        show Q (.int (x : Int)) H'
        rw [e]
        exact q
      · rw [decide_eq_true (show (0 : Int) < (m : Int) by omega)]
        refine iteT ⟨fun σ1 H1 => H1 = H' ∧ σ1 = [some (.int (m : Int)), some (.int ((x % m : Nat) : Int))], ?_, ?_⟩
        · rintro σ1 H1 ⟨rfl, rfl⟩
          exact ⟨x % m, Nat.mod_lt _ (Nat.pos_of_ne_zero hm), rfl, m, rfl, by rw [← M.eu_step hm]; exact e⟩
        · exact ⟨_, rfl, _, rfl, .inl ⟨_, rfl, _, rfl, _, _, rfl, rfl, (by show (0 : Int) < (m : Int); omega), _, _, rfl, rfl, rfl⟩⟩
/-! ### a fraction near another one -/
/-- what the fractions of the law are: the bottom is not 0, both are bounded -/
def Fr1 (z b : Int) : Prop := b ≠ 0 ∧ z.natAbs < 2 ^ 200 ∧ b.natAbs < 2 ^ 200
def spNear : Sp := fun vs H Q _ => ∃ tp bt s : Int, vs = [.int tp, .int bt, .int s] ∧ 1 ≤ bt ∧ bt ≤ 1000000000 ∧ tp.natAbs < 2 ^ 64 ∧ Int.gcd tp bt = 1 ∧ (s = 1 ∨ s = -1) ∧ ∀ (q : Addr) (z b : Int) (H' : Hp), Fr1 z b → Pair H' q z b → H q = none → Same H H' → Q (.ref q) H'
theorem scNear : FnScope ["_law_top", "_law_bottom", "_law_sign_here", "_law_old", "_law_new", "_law_was", "_law_here", "_law_times", "_law_size"] ["_law_top", "_law_bottom", "_law_sign_here"] (defScope sNear) := ⟨rfl, rfl, rfl, by decide +kernel, rfl, by decide +kernel, by decide +kernel⟩
theorem near_top {tp c s bt : Int} (h1 : tp.natAbs < 2 ^ 64) (h2 : c.natAbs < 2 ^ 64) (hs : s.natAbs = 1) (hb : 0 < bt) : ((tp * c - s).fdiv bt).natAbs < 2 ^ 200 := by
  rw [Int.fdiv_eq_ediv_of_nonneg _ (by omega)]
  have a1 := Int.natAbs_ediv_le_natAbs (tp * c - s) bt
  have a2 : (tp * c).natAbs < 2 ^ 64 * 2 ^ 64 := by
    rw [Int.natAbs_mul]
    exact Nat.mul_lt_mul'' h1 h2
  have a3 : (2 : Nat) ^ 64 * 2 ^ 64 = 2 ^ 128 := by decide
  have a4 : (tp * c - s).natAbs ≤ (tp * c).natAbs + 1 := by omega
  have a5 : (2 : Nat) ^ 128 + 1 < 2 ^ 200 := by decide
  omega
theorem d_near (T : LTxt K mg C) : DefG P w K mg base 1 "_law_near" ["_law_top", "_law_bottom", "_law_sign_here"] spNear := by
  refine T.tNear.ok scNear (fun vs H Q E h => ?_) (fun f cdv A out s H vs Q E gd hr h => ?_)
  · obtain ⟨tp, bt, s, rfl, _⟩ := h
    rfl
  · obtain ⟨tp, bt, sg, rfl, hb, hb2, ht, hg, hs, q⟩ := h
    have sa : sg.natAbs = 1 := by rcases hs with rfl | rfl <;> rfl
    refine ⟨_, (pss_cons (ps_if (pt_cmpR op_eq (pv 1) pe_int (nomark _)) (pss_one (ps_ret (pe_tup (pa_cons (pe_op op_add (pe_op op_mul (pv 0) pe_int) (pv 2)) (pa_cons pe_int pa_nil))))) pss_nil)
  (pss_cons (ps_asg (pe_tup (pa_cons pe_int (pa_cons pe_int (pa_cons (pv 1) (pa_cons (pe_op op_mod (pe_callTy call_int1 (by rfl) T.b_int (by decide +kernel) (pa_cons (pv 0) pa_nil)) (pv 1)) pa_nil))))) (pg_tup (by rfl) (pgs_cons (pg_name (i := 3) scNear.nd rfl (Or.inl rfl)) (pgs_cons (pg_name (i := 4) scNear.nd rfl (Or.inl rfl)) (pgs_cons (pg_name (i := 5) scNear.nd rfl (Or.inl rfl)) (pgs_cons (pg_name (i := 6) scNear.nd rfl (Or.inl rfl)) pgs_nil))))))
  (pss_cons (ps_while PassesOwn.never (pt_cmpR op_gt (pv 6) pe_int (nomark _)) (pss_cons (ps_set (i := 7) scNear.nd rfl (Or.inl rfl) (pe_op op_fdivA (pv 5) (pv 6)))
  (pss_cons (ps_par (i := 5) (j := 6) (by rfl) scNear.nd rfl rfl (by decide) rfl rfl (pa_cons (pv 6) (pa_cons (pe_op op_sub (pv 5) (pe_op op_mul (pv 7) (pv 6))) pa_nil)) (by rfl))
  (pss_one (ps_par (i := 3) (j := 4) (by rfl) scNear.nd rfl rfl (by decide) rfl rfl (pa_cons (pv 4) (pa_cons (pe_op op_sub (pv 3) (pe_op op_mul (pv 7) (pv 4))) pa_nil)) (by rfl))))))
  (pss_cons (ps_set (i := 8) scNear.nd rfl (Or.inl rfl) (pe_op op_mod (pe_callTy call_int1 (by rfl) T.b_int (by decide +kernel) (pa_cons (pe_op op_mul (pv 4) (pv 2)) pa_nil)) (pv 1)))
  (pss_one (ps_ret (pe_tup (pa_cons (pe_op op_fdivA (pe_op op_sub (pe_op op_mul (pv 0) (pv 8)) (pv 2)) (pv 1)) (pa_cons (pv 8) pa_nil))))))))), ?_⟩
    refine ⟨_, rfl, rfl, _, rfl, ?_⟩
    by_cases h1 : bt = 1
    · rw [decide_eq_true (show V.int bt = V.int 1 by rw [h1])]
      refine iteT ⟨_, rfl, _, _, rfl, rfl, .inr ⟨by decide, by decide⟩, _, rfl, _, _, rfl, rfl, by show 2 ≤ sizeLine; decide, fun t ht' => ?_⟩
      refine q t _ _ _ ⟨by decide, ?_, by decide⟩ upd_same ht' (Same.new ht')
      have : (2 : Nat) ^ 64 * 4 < 2 ^ 200 := by decide
      show (tp * 3 + sg).natAbs < 2 ^ 200
      omega
    · rw [decide_eq_false (show ¬ V.int bt = V.int 1 from fun z => h1 (by injection z))]
      refine iteF ?_
      refine ⟨_, rfl, _, rfl, .inl ⟨_, rfl, _, rfl, _, _, rfl, rfl, (by show (0 : Int) < bt; omega), by show 4 ≤ sizeLine; decide, fun t0 ht0 => ?_⟩⟩
      refine ⟨t0, _, rfl, SqT.of upd_same, rfl, _, _, rfl, _, _, rfl, _, _, rfl, _, _, rfl, rfl, ?_⟩
      refine ⟨fun m σ H' => Same H H' ∧ ∃ (old new was : Int) (o1 : Option V), m = was.toNat ∧ ∃ here : Int, σ = [some (.int tp), some (.int bt), some (.int sg), some (.int old), some (.int new), some (.int was), some (.int here), o1, none] ∧ M.NearI tp bt old new was here, ⟨_, Same.new ht0, _, _, _, none, rfl, _, rfl, M.NearI.start (by omega) hg⟩, ?_⟩
      rintro m σ H' ⟨sm, old, new, was, o1, rfl, here, rfl, N⟩
      refine ⟨_, rfl, _, _, rfl, rfl, _, rfl, ?_⟩
      refine ite2 (fun c => ?_) (fun c => ?_)
      · have c1 : 1 < here := of_decide_eq_true c
        have st := N.step c1
        have nb := N.small
        have hw := N.hw
        have wb := N.wb
        have fd : was.fdiv here = was / here := Int.fdiv_eq_ediv_of_nonneg _ (by omega)
        refine ⟨fun σ1 H1 => Same H H1 ∧ ∃ (times : Int), σ1 = [some (.int tp), some (.int bt), some (.int sg), some (.int new), some (.int (old - was / here * new)), some (.int here), some (.int (was - was / here * here)), some (.int times), none], ?_, ?_⟩
        · rintro σ1 H1 ⟨sm1, times, rfl⟩
          refine ⟨here.toNat, by omega, sm1, _, _, here, some (.int times), rfl, _, rfl, st⟩
        · refine ⟨_, rfl, _, rfl, _, _, rfl, rfl, ⟨by omega, Nat.lt_of_lt_of_le (PySem.Flt.log2_lt_of (k := 64) (by decide) (by omega)) (by decide)⟩, ?_⟩
          refine ⟨_, rfl, _, rfl, _, rfl, _, rfl, _, _, rfl, rfl, .inr ⟨by omega, by omega⟩, _, _, rfl, rfl, _, _, rfl, ?_⟩
          refine ⟨_, rfl, _, rfl, _, rfl, _, rfl, _, _, rfl, rfl, .inr ⟨by omega, by omega⟩, _, _, rfl, rfl, _, _, rfl, ?_⟩
          refine ⟨sm, was.fdiv here, ?_⟩
          rw [← fd]
          rfl
      · have c1 : ¬ 1 < here := fun z => c (decide_eq_true z)
        have nz := N.done c1 hs
        have nb := N.small
        have e0 := Int.emod_nonneg (new * sg) (show bt ≠ 0 by omega)
        have e1 := Int.emod_lt_of_pos (new * sg) (show 0 < bt by omega)
        refine ⟨_, rfl, _, rfl, _, _, rfl, rfl, .inr ⟨by omega, by omega⟩, .inl ⟨_, rfl, _, rfl, _, _, rfl, rfl, (by show (0 : Int) < bt; omega), ?_⟩⟩
        refine ⟨_, rfl, _, rfl, _, _, rfl, rfl, .inr ⟨by omega, by omega⟩, _, rfl, _, _, rfl, rfl, _, rfl, _, _, rfl, rfl, ⟨by omega, Nat.lt_of_lt_of_le (PySem.Flt.log2_lt_of (k := 64) (by decide) (by omega)) (by decide)⟩, _, rfl, by show 2 ≤ sizeLine; decide, fun t ht' => ?_⟩
        have big : (2 : Nat) ^ 64 < 2 ^ 200 := by decide
        exact q t _ _ _ ⟨nz, near_top ht (by omega) sa (by omega), by omega⟩ upd_same (sm.free ht') (sm.trans (Same.new ht'))
end
end SP
namespace SP
open PySem PySem.Spec PyProof.Rows L2


/-! ### new objects, the heap behind them a letter -/
theorem tup_new {xs : List V} {H : Hp} {Q : VK} (hl : xs.length ≤ sizeLine) (k : ∀ (p : Addr) (H' : Hp), H p = none → Same H H' → H' p = some (.tup xs) → Q (.ref p) H') : xs.length ≤ sizeLine ∧ ∀ p, H p = none → Q (.ref p) (upd H p (.tup xs)) :=
  ⟨hl, fun p hp => k p _ hp (Same.new hp) upd_same⟩
theorem lst_new {xs : List V} {H : Hp} {Q : VK} (hl : xs.length ≤ sizeLine) (k : ∀ (p : Addr) (H' : Hp), H p = none → Same H H' → H' p = some (.lst xs) → Q (.ref p) H') : xs.length ≤ sizeLine ∧ ∀ p, H p = none → Q (.ref p) (upd H p (.lst xs)) :=
  ⟨hl, fun p hp => k p _ hp (Same.new hp) upd_same⟩
theorem Kp.free {p q : Addr} {H H' : Hp} {xs : List V} (k : Kp p H H') (hp : H' p = some (.lst xs)) (h : H' q = none) : H q = none := by
  cases e : H q with
  | none => rfl
  | some o =>
    have n : q ≠ p := (ne_of_none hp h).symm
    rw [k q o e n] at h
    cases h
/-- addresses of tuples of two ints, and these -/
def FrL (H : Hp) : List Addr → List (Int × Int) → Prop
  | [], [] => True
  | q :: qs, f :: fs => Pair H q f.1 f.2 ∧ Fr1 f.1 f.2 ∧ FrL H qs fs
  | _, _ => False
theorem FrL.up {H H' : Hp} (k : ∀ q z b, Pair H q z b → Pair H' q z b) : ∀ {qs : List Addr} {fs : List (Int × Int)}, FrL H qs fs → FrL H' qs fs
  | [], [], _ => trivial
  | q :: qs, f :: fs, h => ⟨k _ _ _ h.1, h.2.1, h.2.2.up k⟩
  | [], _ :: _, h => h.elim
  | _ :: _, [], h => h.elim
theorem FrL.len {H : Hp} : ∀ {qs : List Addr} {fs : List (Int × Int)}, FrL H qs fs → qs.length = fs.length
  | [], [], _ => rfl
  | q :: qs, f :: fs, h => congrArg (· + 1) h.2.2.len
  | [], _ :: _, h => h.elim
  | _ :: _, [], h => h.elim
theorem FrL.app {H : Hp} : ∀ {qs : List Addr} {fs : List (Int × Int)} {rs : List Addr} {gs : List (Int × Int)}, FrL H qs fs → FrL H rs gs → FrL H (qs ++ rs) (fs ++ gs)
  | [], [], _, _, _, h => h
  | q :: qs, f :: fs, _, _, h, g => ⟨h.1, h.2.1, h.2.2.app g⟩
  | [], _ :: _, _, _, h, _ => h.elim
  | _ :: _, [], _, _, h, _ => h.elim
theorem FrL.at {H : Hp} : ∀ {qs : List Addr} {fs : List (Int × Int)} {i : Nat} {q : Addr} {f : Int × Int}, FrL H qs fs → qs[i]? = some q → fs[i]? = some f → Pair H q f.1 f.2 ∧ Fr1 f.1 f.2
  | q :: qs, f :: fs, 0, _, _, h, e1, e2 => by
    cases e1
    cases e2
    exact ⟨h.1, h.2.1⟩
  | q :: qs, f :: fs, i + 1, _, _, h, e1, e2 => h.2.2.at (i := i) e1 e2
  | [], [], _, _, _, _, e1, _ => by simp at e1
  | [], _ :: _, _, _, _, h, _, _ => h.elim
  | _ :: _, [], _, _, _, h, _, _ => h.elim
theorem Pair.same {H H' : Hp} {q : Addr} {z b : Int} (h : Pair H q z b) (s : Same H H') : Pair H' q z b := s _ _ h
theorem Pair.kp {p : Addr} {H H' : Hp} {q : Addr} {z b : Int} (h : Pair H q z b) (k : Kp p H H') (hp : Pot H p) : Pair H' q z b := let ⟨_, hx⟩ := hp.lst; k.tup hx h
section
variable {P : Program} {w : World} {K : PySem.W.Frag} {mg : Str → Option Value} {base : Heap} {C : Addr}
theorem low1 {z b : Int} (h : 1 ≤ b) : (Int.gcd z b : Int) ≠ 0 ∧ (1 : Int) ≤ (Int.gcd z b : Nat) ∧ ((Int.gcd z b : Nat) : Int).natAbs ≤ b.natAbs ∧ Low z b (z.fdiv (Int.gcd z b : Nat)) (b.fdiv (Int.gcd z b : Nat)) := by
  have g0 : 0 < Int.gcd z b := Int.gcd_pos_of_ne_zero_right _ (by omega)
  obtain ⟨h1, h2, h3⟩ := low_of (tp := z) (bt := b) (d := (Int.gcd z b : Nat)) (s := 1) (by omega) (.inl ⟨rfl, by omega⟩) (by rw [Int.mul_one])
  exact ⟨h1, by omega, h2, h3⟩
theorem one1 {z : Int} (h : z.natAbs < 2 ^ 200) : Fr1 z 1 := ⟨by decide, h, by decide⟩
theorem mkp {H : Hp} {q : Addr} (n : H q = none) (z b : Int) : ∃ H', upd H q (.tup [.int z, .int b]) = H' ∧ Same H H' ∧ Pair H' q z b := ⟨_, rfl, Same.new n, upd_same⟩
theorem mkl {H : Hp} {q : Addr} (n : H q = none) (xs : List V) : ∃ H', upd H q (.lst xs) = H' ∧ Same H H' ∧ H' q = some (.lst xs) := ⟨_, rfl, Same.new n, upd_same⟩
def spFractions : Sp := fun vs H Q _ => ∃ p : Addr, vs = [.ref p] ∧ Pot H p ∧ ∀ (l : Addr) (qs : List Addr) (fs : List (Int × Int)) (H' : Hp), H' l = some (.lst (qs.map V.ref)) → FrL H' qs fs → fs.length = 12 → Pot H' p → Kp p H H' → H l = none → l ≠ p → Q (.ref l) H'
theorem scFractions : FnScope ["_law_pot_here", "_law_top", "_law_bottom", "_law_both", "_law_found"] ["_law_pot_here"] (defScope sFractions) := ⟨rfl, rfl, rfl, by decide +kernel, rfl, by decide +kernel, by decide +kernel⟩
theorem d_fractions (T : LTxt K mg C) : DefG P w K mg base 4 "_law_fractions" ["_law_pot_here"] spFractions := by
  have DDr := d_drawn (P := P) (w := w) (base := base) T
  have DDi := d_divided (P := P) (w := w) (base := base) T
  have DNe := d_near (P := P) (w := w) (base := base) T
  refine T.tFractions.ok scFractions (fun vs H Q E h => ?_) (fun f cdv A out s H vs Q E gd hr h => ?_)
  · obtain ⟨p, rfl, _⟩ := h
    rfl
  · obtain ⟨p, rfl, hp, q⟩ := h
    refine ⟨_, (pss_cons (ps_asg (pe_callD DDr gd (hr.mono (by decide)) (pa_cons (pv 0) pa_nil)) (pg_tup (by rfl) (pgs_cons (pg_name (i := 1) scFractions.nd rfl (Or.inl rfl)) (pgs_cons (pg_name (i := 2) scFractions.nd rfl (Or.inl rfl)) pgs_nil))))
  (pss_cons (ps_set (i := 3) scFractions.nd rfl (Or.inl rfl) (pe_callD DDi gd (hr.mono (by decide)) (pa_cons (pv 1) (pa_cons (pv 2) pa_nil))))
  (pss_cons (ps_par (i := 1) (j := 2) (by rfl) scFractions.nd rfl rfl (by decide) rfl rfl (pa_cons (pe_op op_fdivA (pv 1) (pe_callB (call_max2 rfl) (by rfl) T.b_max (by decide +kernel) (pa_cons pe_int (pa_cons (pv 3) pa_nil)))) (pa_cons (pe_op op_fdivA (pv 2) (pe_callB (call_max2 rfl) (by rfl) T.b_max (by decide +kernel) (pa_cons pe_int (pa_cons (pv 3) pa_nil)))) pa_nil)) (by rfl))
  (pss_cons (ps_set (i := 4) scFractions.nd rfl (Or.inl rfl) (pe_lst (pa_cons (pe_tup (pa_cons (pv 1) (pa_cons (pv 2) pa_nil))) (pa_cons (pe_tup (pa_cons (pe_op op_mul (pe_un un_neg (pv 1)) pe_int) (pa_cons (pe_op op_mul (pe_un un_neg (pv 2)) pe_int) pa_nil))) (pa_cons (pe_callD DNe gd (hr.mono (by decide)) (pa_cons (pv 1) (pa_cons (pv 2) (pa_cons pe_int pa_nil)))) (pa_cons (pe_callD DNe gd (hr.mono (by decide)) (pa_cons (pv 1) (pa_cons (pv 2) (pa_cons (pe_un un_neg pe_int) pa_nil)))) pa_nil))))))
  (pss_cons (ps_set (i := 4) scFractions.nd rfl (Or.inl rfl) (pe_op op_cat (pv 4) (pe_lst (pa_cons (pe_tup (pa_cons (pe_un un_neg (pv 1)) (pa_cons (pv 2) pa_nil))) (pa_cons (pe_tup (pa_cons (pe_op op_add (pv 1) (pv 2)) (pa_cons (pv 2) pa_nil))) (pa_cons (pe_tup (pa_cons pe_int (pa_cons pe_int pa_nil))) (pa_cons (pe_tup (pa_cons (pe_op op_fdivA (pv 1) (pv 2)) (pa_cons pe_int pa_nil))) (pa_cons (pe_tup (pa_cons (pe_op op_add (pe_op op_fdivA (pv 1) (pv 2)) pe_int) (pa_cons pe_int pa_nil))) pa_nil))))))))
  (pss_one (ps_ret (pe_op op_cat (pv 4) (pe_lst (pa_cons (pe_callD DDr gd (hr.mono (by decide)) (pa_cons (pv 0) pa_nil)) (pa_cons (pe_callD DDr gd (hr.mono (by decide)) (pa_cons (pv 0) pa_nil)) (pa_cons (pe_tup (pa_cons (pv 2) (pa_cons (pe_op op_add pe_int (pe_op op_mod (pe_callTy call_int1 (by rfl) T.b_int (by decide +kernel) (pa_cons (pe_callB call_abs (by rfl) T.b_abs (by decide +kernel) (pa_cons (pv 1) pa_nil)) pa_nil)) (pe_op op_pow pe_int pe_int))) pa_nil))) pa_nil)))))))))))), ?_⟩
    refine ⟨_, rfl, p, rfl, hp, fun q0 z b H1 hb1 hb2 hz hq hn hp1 k1 => ?_⟩
    refine ⟨q0, _, rfl, SqT.of hq, rfl, _, _, rfl, _, _, rfl, rfl, ?_⟩
    refine ⟨_, rfl, _, rfl, z, b, rfl, ?_⟩
    obtain ⟨gn, g1, gl, lw⟩ := low1 (z := z) (b := b) hb1
    have hm : (if ((Int.gcd z b : Nat) : Int) > 1 then ((Int.gcd z b : Nat) : Int) else 1) = ((Int.gcd z b : Nat) : Int) := by split <;> omega
    have dv : CDivA z ((Int.gcd z b : Nat) : Int) ∧ CDivA b ((Int.gcd z b : Nat) : Int) := ⟨⟨gn, Nat.lt_of_lt_of_le (PySem.Flt.log2_lt_of (k := 64) (by decide) (by omega)) (by decide)⟩, ⟨gn, Nat.lt_of_lt_of_le (PySem.Flt.log2_lt_of (k := 64) (by decide) (by omega)) (by decide)⟩⟩
    refine ⟨_, rfl, _, rfl, _, _, rfl, _, _, rfl, rfl, by rw [hm]; exact dv.1, _, rfl, _, rfl, _, _, rfl, _, _, rfl, rfl, by rw [hm]; exact dv.2, _, _, rfl, ?_⟩
    rw [hm]
    dsimp only
    have c1 := lw.pos
    have c2 := lw.lb
    have c3 := lw.lt
    have c4 := lw.one
    generalize z.fdiv ((Int.gcd z b : Nat) : Int) = t at *
    generalize b.fdiv ((Int.gcd z b : Nat) : Int) = c at *
    refine ⟨_, rfl, _, rfl, by show 2 ≤ sizeLine; decide, fun a1 n1 => ?_⟩
    have s1 : Same H1 (upd H1 a1 (.tup [.int t, .int c])) := Same.new n1
    have g1' : Pair (upd H1 a1 (.tup [.int t, .int c])) a1 t c := upd_same
    generalize upd H1 a1 (.tup [.int t, .int c]) = H2 at *
    have k2 : Kp p H H2 := k1.trans (.of s1)
    have hp2 : Pot H2 p := hp1.same s1
    have f1 : Fr1 t c := ⟨by omega, by omega, by omega⟩
    refine ⟨_, rfl, _, rfl, _, _, rfl, rfl, .inr ⟨by decide, by decide⟩, _, rfl, _, rfl, _, _, rfl, rfl, .inr ⟨by decide, by decide⟩, by show 2 ≤ sizeLine; decide, fun a2 n2 => ?_⟩
    dsimp only
    have s2 : Same H2 (upd H2 a2 (.tup [.int (-t * 3), .int (-c * 3)])) := Same.new n2
    have g2' : Pair (upd H2 a2 (.tup [.int (-t * 3), .int (-c * 3)])) a2 (-t * 3) (-c * 3) := upd_same
    generalize upd H2 a2 (.tup [.int (-t * 3), .int (-c * 3)]) = H3 at *
    have k3 := k2.trans (.of s2)
    have hp3 := hp2.same s2
    have g1' := g1'.same s2
    have f2 : Fr1 (-t * 3) (-c * 3) := ⟨by omega, by omega, by omega⟩
    refine ⟨_, rfl, _, rfl, t, c, 1, rfl, by omega, by omega, by omega, c4, .inl rfl, fun a3 z3 b3' H4 f3 g3' n3 s3 => ?_⟩
    have k4 := k3.trans (.of s3)
    have hp4 := hp3.same s3
    have g1' := g1'.same s3
    have g2' := g2'.same s3
    refine ⟨_, rfl, _, rfl, _, rfl, t, c, -1, rfl, by omega, by omega, by omega, c4, .inr rfl, fun a4 z4 b4' H5 f4 g4' n4 s4 => ?_⟩
    have k5 := k4.trans (.of s4)
    have hp5 := hp4.same s4
    have g1' := g1'.same s4
    have g2' := g2'.same s4
    have g3' := g3'.same s4
    have F4 : FrL H5 [a1, a2, a3, a4] [(t, c), (-t * 3, -c * 3), (z3, b3'), (z4, b4')] := ⟨g1', f1, g2', f2, g3', f3, g4', f4, trivial⟩
    refine ⟨by show 4 ≤ sizeLine; decide, fun l1 m1 => ?_⟩
    have hs : Same H5 (upd H5 l1 (.lst [.ref a1, .ref a2, .ref a3, .ref a4])) := Same.new m1
    have e1 : upd H5 l1 (.lst [.ref a1, .ref a2, .ref a3, .ref a4]) l1 = some (.lst [.ref a1, .ref a2, .ref a3, .ref a4]) := upd_same
    generalize upd H5 l1 (.lst [.ref a1, .ref a2, .ref a3, .ref a4]) = H6 at *
    have k6 := k5.trans (.of hs)
    have hp6 := hp5.same hs
    have F4 := F4.up fun _ _ _ h => Pair.same h hs
    refine ⟨_, rfl, _, rfl, _, rfl, _, rfl, by show 2 ≤ sizeLine; decide, fun b1 n6 => ?_⟩
    dsimp only
    obtain ⟨H7, e7, s7, j1⟩ := mkp n6 (-t) c
    rw [e7]
    refine ⟨_, rfl, _, rfl, _, _, rfl, rfl, _, rfl, by show 2 ≤ sizeLine; decide, fun b2 n7 => ?_⟩
    dsimp only
    obtain ⟨H8, e8, s8, j2⟩ := mkp n7 (t + c) c
    rw [e8]
    refine ⟨by show 2 ≤ sizeLine; decide, fun b3 n8 => ?_⟩
    obtain ⟨H9, e9, s9, j3⟩ := mkp n8 0 5
    rw [e9]
    have cd : CDivA t c := ⟨by omega, Nat.lt_of_lt_of_le (PySem.Flt.log2_lt_of (k := 64) (by decide) (by omega)) (by decide)⟩
    refine ⟨_, rfl, _, rfl, _, _, rfl, rfl, cd, by show 2 ≤ sizeLine; decide, fun b4 n9 => ?_⟩
    dsimp only
    obtain ⟨Ha, ea, sa, j4⟩ := mkp n9 (t.fdiv c) 1
    rw [ea]
    refine ⟨_, rfl, _, rfl, _, _, rfl, rfl, cd, _, _, rfl, rfl, by show 2 ≤ sizeLine; decide, fun b5 na => ?_⟩
    dsimp only
    obtain ⟨Hb, eb, sb, j5⟩ := mkp na (t.fdiv c + 1) 1
    rw [eb]
    refine ⟨by show 5 ≤ sizeLine; decide, fun l2 nb => ?_⟩
    obtain ⟨Hc, ec, sc, el2⟩ := mkl nb [.ref b1, .ref b2, .ref b3, .ref b4, .ref b5]
    rw [ec]
    have s6c : Same H6 Hc := ((((s7.trans s8).trans s9).trans sa).trans sb).trans sc
    refine ⟨l1, l2, _, _, rfl, rfl, s6c _ _ e1, el2, by show 9 ≤ sizeLine; decide, fun l3 nc => ?_⟩
    obtain ⟨Hd, ed, sd, el3⟩ := mkl nc [.ref a1, .ref a2, .ref a3, .ref a4, .ref b1, .ref b2, .ref b3, .ref b4, .ref b5]
    rw [show upd Hc l3 (.lst ([V.ref a1, .ref a2, .ref a3, .ref a4] ++ [.ref b1, .ref b2, .ref b3, .ref b4, .ref b5])) = Hd from ed]
    have s6d := s6c.trans sd
    have kd : Kp p H Hd := k6.trans (.of s6d)
    have hpd := hp6.same s6d
    have qb : (t.fdiv c).natAbs ≤ t.natAbs := by
      rw [Int.fdiv_eq_ediv_of_nonneg _ (by omega)]
      exact Int.natAbs_ediv_le_natAbs _ _
    have F9 : FrL Hd [a1, a2, a3, a4, b1, b2, b3, b4, b5] [(t, c), (-t * 3, -c * 3), (z3, b3'), (z4, b4'), (-t, c), (t + c, c), (0, 5), (t.fdiv c, 1), (t.fdiv c + 1, 1)] :=
      (F4.up fun _ _ _ h => Pair.same h s6d).app (rs := [b1, b2, b3, b4, b5]) (gs := [(-t, c), (t + c, c), (0, 5), (t.fdiv c, 1), (t.fdiv c + 1, 1)])
        ⟨j1.same (((((s8.trans s9).trans sa).trans sb).trans sc).trans sd), ⟨by omega, by omega, by omega⟩, j2.same ((((s9.trans sa).trans sb).trans sc).trans sd), ⟨by omega, by omega, by omega⟩, j3.same (((sa.trans sb).trans sc).trans sd), ⟨by decide, by decide, by decide⟩, j4.same ((sb.trans sc).trans sd), one1 (by omega), j5.same (sc.trans sd), one1 (by omega), trivial⟩
    refine ⟨_, rfl, _, rfl, p, rfl, hpd, fun d1 y1 w1 He w1a w1b y1a r1 nd hpe ke => ?_⟩
    refine ⟨_, rfl, p, rfl, hpe, fun d2 y2 w2 Hf w2a w2b y2a r2 ne hpf kf => ?_⟩
    refine ⟨_, rfl, _, rfl, _, rfl, .inl ⟨_, rfl, _, _, rfl, rfl, ⟨by decide, by decide, by decide⟩, _, _, rfl, rfl, (by show (0 : Int) < 10 ^ Int.toNat 9; decide), _, _, rfl, rfl, by show 2 ≤ sizeLine; decide, fun d3 nf => ?_⟩⟩
    dsimp only
    obtain ⟨Hg, eg, sg, r3⟩ := mkp nf c (1 + (if t < 0 then -t else t) % 10 ^ Int.toNat 9)
    rw [eg]
    refine ⟨by show 3 ≤ sizeLine; decide, fun l4 ng => ?_⟩
    obtain ⟨Hh, eh, sh, el4⟩ := mkl ng [.ref d1, .ref d2, .ref d3]
    rw [eh]
    obtain ⟨xd, hxd⟩ := hpd.lst
    obtain ⟨xc, hxc⟩ := (hp6.same s6c).lst
    have n3 : l3 ≠ p := (ne_of_none hxc nc).symm
    have ef : Hf l3 = _ := kf _ _ (ke _ _ el3 n3) n3
    refine ⟨l3, l4, _, _, rfl, rfl, sh _ _ (sg _ _ ef), el4, by show 12 ≤ sizeLine; decide, fun l5 nh => ?_⟩
    have s5 : Same Hh (upd Hh l5 (.lst ([V.ref a1, .ref a2, .ref a3, .ref a4, .ref b1, .ref b2, .ref b3, .ref b4, .ref b5] ++ [.ref d1, .ref d2, .ref d3]))) := Same.new nh
    have hph := (hpf.same sg).same sh
    have kh : Kp p H Hh := (((kd.trans ke).trans kf).trans (.of sg)).trans (.of sh)
    obtain ⟨xe, hxe⟩ := hph.lst
    obtain ⟨xp, hxp⟩ := hp.lst
    have e9 := Int.emod_nonneg (if t < 0 then -t else t) (show (10 ^ Int.toNat 9 : Int) ≠ 0 by decide)
    have e9' := Int.emod_lt_of_pos (if t < 0 then -t else t) (show (0 : Int) < 10 ^ Int.toNat 9 by decide)
    have v9 : (10 : Int) ^ Int.toNat 9 = 1000000000 := by decide
    rw [v9] at e9 e9'
    have F12 := (((F9.up fun _ _ _ h => h.kp ke hpd).up fun _ _ _ h => h.kp kf hpe).app (rs := [d1, d2]) (gs := [(y1, w1), (y2, w2)]) ⟨r1.kp kf hpe, ⟨by omega, by omega, by omega⟩, r2, ⟨by omega, by omega, by omega⟩, trivial⟩)
    have F12 := ((F12.up fun _ _ _ h => Pair.same h sg).app (rs := [d3]) (gs := [(c, 1 + (if t < 0 then -t else t) % 10 ^ Int.toNat 9)]) ⟨r3, ⟨by rw [v9]; omega, by omega, by rw [v9]; omega⟩, trivial⟩).up fun _ _ _ h => Pair.same h (sh.trans s5)
    exact q l5 [a1, a2, a3, a4, b1, b2, b3, b4, b5, d1, d2, d3] _ _ upd_same F12 rfl (hph.same s5) (kh.trans (.of s5)) (kh.free hxe nh) ((ne_of_none hxe nh).symm)
end
end SP
namespace SP
open PySem PySem.Spec PyProof.Rows L2


/-! ### the sign of a difference -/
def nz (z b : Int) : Int := if b < 0 then -z else z
def nb (b : Int) : Int := if b < 0 then -b else b
def sgn (d : Int) : Int := (if decide (d > 0) = true then 1 else 0) - (if decide (d < 0) = true then 1 else 0)
def crs (z1 b1 z2 b2 : Int) : Int := nz z1 b1 * nb b2 - nz z2 b2 * nb b1
theorem nb_pos {b : Int} (h : b < 0) : nz z b = -z ∧ nb b = -b := ⟨if_pos h, if_pos h⟩
theorem nb_neg {b : Int} (h : ¬ b < 0) : nz z b = z ∧ nb b = b := ⟨if_neg h, if_neg h⟩
theorem nb_gt {b : Int} (h : b ≠ 0) : 0 < nb b := by
  unfold nb
  split <;> omega
theorem nb_ab {b : Int} : (nb b).natAbs = b.natAbs := by
  unfold nb
  split <;> omega
theorem nz_ab {z b : Int} : (nz z b).natAbs = z.natAbs := by
  unfold nz
  split <;> omega
section
variable {P : Program} {w : World} {K : PySem.W.Frag} {mg : Str → Option Value} {base : Heap} {C : Addr}
def spSign : Sp := fun vs H Q _ => ∃ (a b : Addr) (z1 b1 z2 b2 : Int), vs = [.ref a, .ref b] ∧ Pair H a z1 b1 ∧ Pair H b z2 b2 ∧ Fr1 z1 b1 ∧ Fr1 z2 b2 ∧ ∀ H', Same H H' → Q (.int (sgn (crs z1 b1 z2 b2))) H'
theorem mulW_ok {x y : Int} (hx : x.natAbs < 2 ^ 200) (hy : y.natAbs < 2 ^ 200) : CMulW x y := by
  have h1 := PySem.Flt.log2_lt_of (k := 200) (by decide) hx
  have h2 := PySem.Flt.log2_lt_of (k := 200) (by decide) hy
  show x.natAbs.log2 + y.natAbs.log2 < 1000000
  omega
theorem scSign : FnScope ["_law_one", "_law_other", "_law_less"] ["_law_one", "_law_other"] (defScope sSign) := ⟨rfl, rfl, rfl, by decide +kernel, rfl, by decide +kernel, by decide +kernel⟩
theorem d_sign (T : LTxt K mg C) : DefG P w K mg base 1 "_law_sign" ["_law_one", "_law_other"] spSign := by
  refine T.tSign.ok scSign (fun vs H Q E h => ?_) (fun f cdv A out s H vs Q E gd hr h => ?_)
  · obtain ⟨a, b, z1, b1, z2, b2, rfl, _⟩ := h
    rfl
  · obtain ⟨a, b, z1, b1, z2, b2, rfl, h1, h2, f1, f2, q⟩ := h
    refine ⟨_, (pss_cons (ps_if (pt_cmpR op_lt (pe_ix ix_tup (pv 0) pe_int (fun _ _ => rfl)) pe_int (nomark _)) (pss_one (ps_set (i := 0) scSign.nd rfl (Or.inl rfl) (pe_tup (pa_cons (pe_un un_neg (pe_ix ix_tup (pv 0) pe_int (fun _ _ => rfl))) (pa_cons (pe_un un_neg (pe_ix ix_tup (pv 0) pe_int (fun _ _ => rfl))) pa_nil))))) pss_nil)
  (pss_cons (ps_if (pt_cmpR op_lt (pe_ix ix_tup (pv 1) pe_int (fun _ _ => rfl)) pe_int (nomark _)) (pss_one (ps_set (i := 1) scSign.nd rfl (Or.inl rfl) (pe_tup (pa_cons (pe_un un_neg (pe_ix ix_tup (pv 1) pe_int (fun _ _ => rfl))) (pa_cons (pe_un un_neg (pe_ix ix_tup (pv 1) pe_int (fun _ _ => rfl))) pa_nil))))) pss_nil)
  (pss_cons (ps_set (i := 2) scSign.nd rfl (Or.inl rfl) (pe_op op_sub (pe_op op_mulW (pe_ix ix_tup (pv 0) pe_int (fun _ _ => rfl)) (pe_ix ix_tup (pv 1) pe_int (fun _ _ => rfl))) (pe_op op_mulW (pe_ix ix_tup (pv 1) pe_int (fun _ _ => rfl)) (pe_ix ix_tup (pv 0) pe_int (fun _ _ => rfl)))))
  (pss_one (ps_ret (pe_op op_sub (pe_callTy call_int1 (by rfl) T.b_int (by decide +kernel) (pa_cons (pe_cmpR op_gt (pv 2) pe_int (nomark _)) pa_nil)) (pe_callTy call_int1 (by rfl) T.b_int (by decide +kernel) (pa_cons (pe_cmpR op_lt (pv 2) pe_int (nomark _)) pa_nil)))))))), ?_⟩
    have w1 : (nz z1 b1).natAbs < 2 ^ 200 := by rw [nz_ab]; exact f1.2.1
    have w2 : (nz z2 b2).natAbs < 2 ^ 200 := by rw [nz_ab]; exact f2.2.1
    have v1 : (nb b1).natAbs < 2 ^ 200 := by rw [nb_ab]; exact f1.2.2
    have v2 : (nb b2).natAbs < 2 ^ 200 := by rw [nb_ab]; exact f2.2.2
    unfold crs at q
    refine ⟨_, rfl, a, _, _, _, rfl, rfl, SqT.of h1, at_of (j := 1) rfl rfl, _, _, rfl, rfl, _, rfl, ?_⟩
    refine ite2 (fun c => ?_) (fun c => ?_)
    · obtain ⟨x1, x2⟩ := nb_pos (z := z1) (of_decide_eq_true c)
      rw [x1, x2] at q
      rw [x1] at w1
      rw [x2] at v1
      refine ⟨_, rfl, a, _, _, _, rfl, rfl, SqT.of h1, at_of (j := 0) rfl rfl, _, rfl, _, rfl, a, _, _, _, rfl, rfl, SqT.of h1, at_of (j := 1) rfl rfl, _, rfl, by show 2 ≤ sizeLine; decide, fun a' n1 => ?_⟩
      obtain ⟨Ha, ea, sa, g1⟩ := mkp n1 (-z1) (-b1)
      rw [show upd H a' (.tup [.int (-z1), .int (-b1)]) = Ha from ea]
      have g2 := h2.same sa
      refine ⟨_, rfl, b, _, _, _, rfl, rfl, SqT.of g2, at_of (j := 1) rfl rfl, _, _, rfl, rfl, _, rfl, ?_⟩
      refine ite2 (fun c => ?_) (fun c => ?_)
      · obtain ⟨y1, y2⟩ := nb_pos (z := z2) (of_decide_eq_true c)
        rw [y1, y2] at q
        rw [y1] at w2
        rw [y2] at v2
        refine ⟨_, rfl, b, _, _, _, rfl, rfl, SqT.of g2, at_of (j := 0) rfl rfl, _, rfl, _, rfl, b, _, _, _, rfl, rfl, SqT.of g2, at_of (j := 1) rfl rfl, _, rfl, by show 2 ≤ sizeLine; decide, fun b' n2 => ?_⟩
        obtain ⟨Hb, eb, sb, j2⟩ := mkp n2 (-z2) (-b2)
        rw [show upd Ha b' (.tup [.int (-z2), .int (-b2)]) = Hb from eb]
        have j1 := g1.same sb
        refine ⟨_, rfl, a', _, _, _, rfl, rfl, SqT.of j1, at_of (j := 0) rfl rfl, _, rfl, b', _, _, _, rfl, rfl, SqT.of j2, at_of (j := 1) rfl rfl, _, _, rfl, rfl, mulW_ok w1 v2, _, rfl, b', _, _, _, rfl, rfl, SqT.of j2, at_of (j := 0) rfl rfl, _, rfl, a', _, _, _, rfl, rfl, SqT.of j1, at_of (j := 1) rfl rfl, _, _, rfl, rfl, mulW_ok w2 v1, _, _, rfl, rfl, ?_⟩
        exact ⟨_, rfl, _, _, rfl, rfl, .inr ⟨_, rfl, _, rfl, _, _, rfl, rfl, .inr ⟨_, rfl, _, _, rfl, rfl, q _ (sa.trans sb)⟩⟩⟩
      · obtain ⟨y1, y2⟩ := nb_neg (z := z2) (fun z => c (decide_eq_true z))
        rw [y1, y2] at q
        rw [y1] at w2
        rw [y2] at v2
        refine ⟨_, rfl, a', _, _, _, rfl, rfl, SqT.of g1, at_of (j := 0) rfl rfl, _, rfl, b, _, _, _, rfl, rfl, SqT.of g2, at_of (j := 1) rfl rfl, _, _, rfl, rfl, mulW_ok w1 v2, _, rfl, b, _, _, _, rfl, rfl, SqT.of g2, at_of (j := 0) rfl rfl, _, rfl, a', _, _, _, rfl, rfl, SqT.of g1, at_of (j := 1) rfl rfl, _, _, rfl, rfl, mulW_ok w2 v1, _, _, rfl, rfl, ?_⟩
        exact ⟨_, rfl, _, _, rfl, rfl, .inr ⟨_, rfl, _, rfl, _, _, rfl, rfl, .inr ⟨_, rfl, _, _, rfl, rfl, q _ sa⟩⟩⟩
    · obtain ⟨x1, x2⟩ := nb_neg (z := z1) (fun z => c (decide_eq_true z))
      rw [x1, x2] at q
      rw [x1] at w1
      rw [x2] at v1
      refine ⟨_, rfl, b, _, _, _, rfl, rfl, SqT.of h2, at_of (j := 1) rfl rfl, _, _, rfl, rfl, _, rfl, ?_⟩
      refine ite2 (fun c => ?_) (fun c => ?_)
      · obtain ⟨y1, y2⟩ := nb_pos (z := z2) (of_decide_eq_true c)
        rw [y1, y2] at q
        rw [y1] at w2
        rw [y2] at v2
        refine ⟨_, rfl, b, _, _, _, rfl, rfl, SqT.of h2, at_of (j := 0) rfl rfl, _, rfl, _, rfl, b, _, _, _, rfl, rfl, SqT.of h2, at_of (j := 1) rfl rfl, _, rfl, by show 2 ≤ sizeLine; decide, fun b' n2 => ?_⟩
        obtain ⟨Hb, eb, sb, j2⟩ := mkp n2 (-z2) (-b2)
        rw [show upd H b' (.tup [.int (-z2), .int (-b2)]) = Hb from eb]
        have j1 := h1.same sb
        refine ⟨_, rfl, a, _, _, _, rfl, rfl, SqT.of j1, at_of (j := 0) rfl rfl, _, rfl, b', _, _, _, rfl, rfl, SqT.of j2, at_of (j := 1) rfl rfl, _, _, rfl, rfl, mulW_ok w1 v2, _, rfl, b', _, _, _, rfl, rfl, SqT.of j2, at_of (j := 0) rfl rfl, _, rfl, a, _, _, _, rfl, rfl, SqT.of j1, at_of (j := 1) rfl rfl, _, _, rfl, rfl, mulW_ok w2 v1, _, _, rfl, rfl, ?_⟩
        exact ⟨_, rfl, _, _, rfl, rfl, .inr ⟨_, rfl, _, rfl, _, _, rfl, rfl, .inr ⟨_, rfl, _, _, rfl, rfl, q _ (sb)⟩⟩⟩
      · obtain ⟨y1, y2⟩ := nb_neg (z := z2) (fun z => c (decide_eq_true z))
        rw [y1, y2] at q
        rw [y1] at w2
        rw [y2] at v2
        refine ⟨_, rfl, a, _, _, _, rfl, rfl, SqT.of h1, at_of (j := 0) rfl rfl, _, rfl, b, _, _, _, rfl, rfl, SqT.of h2, at_of (j := 1) rfl rfl, _, _, rfl, rfl, mulW_ok w1 v2, _, rfl, b, _, _, _, rfl, rfl, SqT.of h2, at_of (j := 0) rfl rfl, _, rfl, a, _, _, _, rfl, rfl, SqT.of h1, at_of (j := 1) rfl rfl, _, _, rfl, rfl, mulW_ok w2 v1, _, _, rfl, rfl, ?_⟩
        exact ⟨_, rfl, _, _, rfl, rfl, .inr ⟨_, rfl, _, rfl, _, _, rfl, rfl, .inr ⟨_, rfl, _, _, rfl, rfl, q _ (Same.refl H)⟩⟩⟩
/-! ### a pair of amounts -/
def spPair (C : Addr) : Sp := fun vs H Q _ => ∃ (a c : Addr) (t1 b1 t2 b2 g : Int), vs = [.ref a, .ref c, .int g] ∧ AmAt C H a t1 b1 ∧ AmAt C H c t2 b2 ∧ g = sgn (t1 * b2 - t2 * b1) ∧ ∀ H', Same H H' → Q (.bl true) H'
theorem scPair : FnScope ["_law_one", "_law_other", "_law_sign_here", "_law_told"] ["_law_one", "_law_other", "_law_sign_here"] (defScope sPair) := ⟨rfl, rfl, rfl, by decide +kernel, rfl, by decide +kernel, by decide +kernel⟩
theorem d_pair (T : LTxt K mg C) : DefG P w K mg base 3 "_law_pair_right" ["_law_one", "_law_other", "_law_sign_here"] (spPair C) := by
  refine T.tPair.ok scPair (fun vs H Q E h => ?_) (fun f cdv A out s H vs Q E gd hr h => ?_)
  · obtain ⟨a, c, t1, b1, t2, b2, g, rfl, _⟩ := h
    rfl
  · obtain ⟨a, c, t1, b1, t2, b2, g, rfl, h1, h2, eg, q⟩ := h
    refine ⟨_, (pss_cons (ps_set (i := 3) scPair.nd rfl (Or.inl rfl) (pe_lst (pa_cons (pe_cmpR (op_ltAm T.toAmTxt T.cmp (hr.mono (by decide))) (pv 0) (pv 1) (nomark _)) (pa_cons (pe_cmpR (op_leAm T.toAmTxt T.cmp (hr.mono (by decide))) (pv 0) (pv 1) (nomark _)) (pa_cons (pe_cmpR (op_gtAm T.toAmTxt T.cmp (hr.mono (by decide))) (pv 0) (pv 1) (nomark _)) (pa_cons (pe_cmpR (op_geAm T.toAmTxt T.cmp (hr.mono (by decide))) (pv 0) (pv 1) (nomark _)) (pa_cons (pe_cmpR (op_eqAm T.toAmTxt T.cmp (hr.mono (by decide))) (pv 0) (pv 1) (nomark _)) (pa_cons (pe_cmpR (op_neAm T.toAmTxt T.cmp (hr.mono (by decide))) (pv 0) (pv 1) (nomark _)) pa_nil))))))))
  (pss_one (ps_ret (pe_cmpR op_eq (pe_callB (call_reprD gd (hr.units)) (by rfl) T.b_repr (by decide +kernel) (pa_cons (pv 3) pa_nil)) (pe_callB (call_reprD gd (hr.units)) (by rfl) T.b_repr (by decide +kernel) (pa_cons (pe_lst (pa_cons (pe_cmpR op_lt (pv 2) pe_int (nomark _)) (pa_cons (pe_cmpR op_le (pv 2) pe_int (nomark _)) (pa_cons (pe_cmpR op_gt (pv 2) pe_int (nomark _)) (pa_cons (pe_cmpR op_ge (pv 2) pe_int (nomark _)) (pa_cons (pe_cmpR op_eq (pv 2) pe_int (nomark _)) (pa_cons (pe_cmpR op_ne (pv 2) pe_int (nomark _)) pa_nil))))))) pa_nil)) (nomark _))))), ?_⟩
    refine ⟨_, rfl, _, rfl, a, c, t1, b1, t2, b2, rfl, rfl, h1, h2, _, rfl, _, rfl, a, c, t1, b1, t2, b2, rfl, rfl, h1, h2, _, rfl, _, rfl, a, c, t1, b1, t2, b2, rfl, rfl, h1, h2, _, rfl, _, rfl, a, c, t1, b1, t2, b2, rfl, rfl, h1, h2, _, rfl, _, rfl, a, c, t1, b1, t2, b2, rfl, rfl, h1, h2, _, rfl, _, rfl, a, c, t1, b1, t2, b2, rfl, rfl, h1, h2, by show 6 ≤ sizeLine; decide, fun l n1 => ?_⟩
    refine ⟨_, rfl, ?_⟩
    have u1 : upd H l (.lst [.bl (fLt t1 b1 t2 b2), .bl (fLe t1 b1 t2 b2), .bl (fGt t1 b1 t2 b2), .bl (fGe t1 b1 t2 b2), .bl (fEq t1 b1 t2 b2), .bl (!fEq t1 b1 t2 b2)]) l = some (.lst ([fLt t1 b1 t2 b2, fLe t1 b1 t2 b2, fGt t1 b1 t2 b2, fGe t1 b1 t2 b2, fEq t1 b1 t2 b2, !fEq t1 b1 t2 b2].map V.bl)) := upd_same
    have s1 : Same H (upd H l (.lst [.bl (fLt t1 b1 t2 b2), .bl (fLe t1 b1 t2 b2), .bl (fGt t1 b1 t2 b2), .bl (fGe t1 b1 t2 b2), .bl (fEq t1 b1 t2 b2), .bl (!fEq t1 b1 t2 b2)])) := Same.new n1
    generalize upd H l (.lst [.bl (fLt t1 b1 t2 b2), .bl (fLe t1 b1 t2 b2), .bl (fGt t1 b1 t2 b2), .bl (fGe t1 b1 t2 b2), .bl (fEq t1 b1 t2 b2), .bl (!fEq t1 b1 t2 b2)]) = H1 at *
    clear hr gd h1 h2
    rcases (by omega : t1 * b2 - t2 * b1 < 0 ∨ t1 * b2 - t2 * b1 = 0 ∨ 0 < t1 * b2 - t2 * b1) with cs | cs | cs
    · have x1 : fLt t1 b1 t2 b2 = true := decide_eq_true (by omega)
      have x3 : fGt t1 b1 t2 b2 = false := decide_eq_false (by omega)
      have x2 : fLe t1 b1 t2 b2 = true := congrArg (!·) x3
      have x4 : fGe t1 b1 t2 b2 = false := congrArg (!·) x1
      have x5 : fEq t1 b1 t2 b2 = false := decide_eq_false (by omega)
      have eg : g = -1 := by
        rw [eg]
        unfold sgn
        rw [decide_eq_false (by omega), decide_eq_true (by omega)]
        rfl
      rw [x1, x2, x3, x4, x5] at u1
      have u1 : H1 l = some (.lst ([true, true, false, false, false, true].map V.bl)) := u1
      subst eg
      refine ⟨l, .list [.bool true, .bool true, .bool false, .bool false, .bool false, .bool true], rfl, .lst (SqL.of u1) (dp_bools [true, true, false, false, false, true]), by decide +kernel, by decide +kernel, by decide +kernel, by decide +kernel, ?_⟩
      refine ⟨_, rfl, _, _, rfl, rfl, _, rfl, _, _, rfl, rfl, _, rfl, _, _, rfl, rfl, _, rfl, _, _, rfl, rfl, _, rfl, rfl, _, rfl, rfl, by show 6 ≤ sizeLine; decide, fun l2 n2 => ?_⟩
      refine ⟨l2, .list [.bool true, .bool true, .bool false, .bool false, .bool false, .bool true], rfl, .lst (SqL.of upd_same) (dp_bools [true, true, false, false, false, true]), by decide +kernel, by decide +kernel, by decide +kernel, by decide +kernel, rfl, ?_⟩
      rw [decide_eq_true rfl]
      exact q _ (s1.trans (Same.new n2))
    · have x1 : fLt t1 b1 t2 b2 = false := decide_eq_false (by omega)
      have x3 : fGt t1 b1 t2 b2 = false := decide_eq_false (by omega)
      have x2 : fLe t1 b1 t2 b2 = true := congrArg (!·) x3
      have x4 : fGe t1 b1 t2 b2 = true := congrArg (!·) x1
      have x5 : fEq t1 b1 t2 b2 = true := decide_eq_true (by omega)
      have eg : g = 0 := by
        rw [eg]
        unfold sgn
        rw [decide_eq_false (by omega), decide_eq_false (by omega)]
        rfl
      rw [x1, x2, x3, x4, x5] at u1
      have u1 : H1 l = some (.lst ([false, true, false, true, true, false].map V.bl)) := u1
      subst eg
      refine ⟨l, .list [.bool false, .bool true, .bool false, .bool true, .bool true, .bool false], rfl, .lst (SqL.of u1) (dp_bools [false, true, false, true, true, false]), by decide +kernel, by decide +kernel, by decide +kernel, by decide +kernel, ?_⟩
      refine ⟨_, rfl, _, _, rfl, rfl, _, rfl, _, _, rfl, rfl, _, rfl, _, _, rfl, rfl, _, rfl, _, _, rfl, rfl, _, rfl, rfl, _, rfl, rfl, by show 6 ≤ sizeLine; decide, fun l2 n2 => ?_⟩
      refine ⟨l2, .list [.bool false, .bool true, .bool false, .bool true, .bool true, .bool false], rfl, .lst (SqL.of upd_same) (dp_bools [false, true, false, true, true, false]), by decide +kernel, by decide +kernel, by decide +kernel, by decide +kernel, rfl, ?_⟩
      rw [decide_eq_true rfl]
      exact q _ (s1.trans (Same.new n2))
    · have x1 : fLt t1 b1 t2 b2 = false := decide_eq_false (by omega)
      have x3 : fGt t1 b1 t2 b2 = true := decide_eq_true (by omega)
      have x2 : fLe t1 b1 t2 b2 = false := congrArg (!·) x3
      have x4 : fGe t1 b1 t2 b2 = true := congrArg (!·) x1
      have x5 : fEq t1 b1 t2 b2 = false := decide_eq_false (by omega)
      have eg : g = 1 := by
        rw [eg]
        unfold sgn
        rw [decide_eq_true (by omega), decide_eq_false (by omega)]
        rfl
      rw [x1, x2, x3, x4, x5] at u1
      have u1 : H1 l = some (.lst ([false, false, true, true, false, true].map V.bl)) := u1
      subst eg
      refine ⟨l, .list [.bool false, .bool false, .bool true, .bool true, .bool false, .bool true], rfl, .lst (SqL.of u1) (dp_bools [false, false, true, true, false, true]), by decide +kernel, by decide +kernel, by decide +kernel, by decide +kernel, ?_⟩
      refine ⟨_, rfl, _, _, rfl, rfl, _, rfl, _, _, rfl, rfl, _, rfl, _, _, rfl, rfl, _, rfl, _, _, rfl, rfl, _, rfl, rfl, _, rfl, rfl, by show 6 ≤ sizeLine; decide, fun l2 n2 => ?_⟩
      refine ⟨l2, .list [.bool false, .bool false, .bool true, .bool true, .bool false, .bool true], rfl, .lst (SqL.of upd_same) (dp_bools [false, false, true, true, false, true]), by decide +kernel, by decide +kernel, by decide +kernel, by decide +kernel, rfl, ?_⟩
      rw [decide_eq_true rfl]
      exact q _ (s1.trans (Same.new n2))
theorem yes_t {σ : L2.St} {H : Hp} {A B : Hp → Prop} (h : A H) : tYes σ H fun b H3 => if b = true then A H3 else B H3 := by
  show (if true = true then A H else B H)
  rw [if_pos rfl]
  exact h
theorem Same.put {H H' : Hp} {q : Addr} {o : HO} (s : Same H H') (n : H q = none) : Same H (upd H' q o) := fun b u e => by rw [upd_ne (ne_of_none e n)]; exact s b u e
theorem rep_add {i : Nat} {v : V} : List.replicate i v ++ [v] = List.replicate (i + 1) v := by rw [List.replicate_succ']
/-! ### one amount against all that is none -/
def spAlone (C : Addr) : Sp := fun vs H Q _ => ∃ (a c : Addr) (t b z e : Int), vs = [.ref a, .ref c] ∧ AmAt C H a t b ∧ t.natAbs < 2 ^ 1900 ∧ b.natAbs < 2 ^ 1900 ∧ Pair H c z e ∧ ∀ H', Same H H' → Q (.bl true) H'
theorem scAlone : FnScope ["_law_made", "_law_fraction", "_law_things", "_law_thing"] ["_law_made", "_law_fraction"] (defScope sAlone) := ⟨rfl, rfl, rfl, by decide +kernel, rfl, by decide +kernel, by decide +kernel⟩
theorem d_alone (T : LTxt K mg C) : DefG P w K mg base 4 "_law_alone_right" ["_law_made", "_law_fraction"] (spAlone C) := by
  refine T.tAlone.ok scAlone (fun vs H Q E h => ?_) (fun f cdv A out s H vs Q E gd hr h => ?_)
  · obtain ⟨a, c, t, b, z, e, rfl, _⟩ := h
    rfl
  · obtain ⟨a, c, t, b, z, e, rfl, h1, ht, hb, h2, q⟩ := h
    refine ⟨_, (pss_cons (ps_set (i := 2) scAlone.nd rfl (Or.inl rfl) (pe_lst (pa_cons (pe_ix ix_tup (pv 1) pe_int (fun _ _ => rfl)) (pa_cons (pv 1) (pa_cons (pe_callTy (call_strAm T.toAmTxt T.cmp (hr.mono (by decide))) (by rfl) T.cmp.b_str (by decide +kernel) (pa_cons (pv 0) pa_nil)) (pa_cons (pe_callB (call_reprAm T.toAmTxt T.cmp (hr.mono (by decide))) (by rfl) T.b_repr (by decide +kernel) (pa_cons (pv 0) pa_nil)) (pa_cons pe_non (pa_cons pe_bl (pa_cons pe_bl (pa_cons pe_int (pa_cons (pe_lst (pa_cons (pv 0) pa_nil)) (pa_cons (pe_top (pv 0) T.toAmTxt T.cmp (hr.mono (by decide))) pa_nil))))))))))))
  (pss_one (ps_ret (pe_callB (cr_all rfl) (by rfl) T.b_all (by decide +kernel) (pa_cons (pe_lc (own := [("_law_thing", 3)]) (g := gName 3) (by rfl) scAlone.nd (pi_list (pv 2)) (blkOk_by (own := [("_law_thing", 3)]) (N := ["_law_made", "_law_fraction", "_law_things", "_law_thing"]) (sc := defScope sAlone) (by decide +kernel)) (fun _ _ _ _ _ => (pg_name (i := 3) scAlone.nd rfl (Or.inl rfl))) (fun _ _ _ _ _ => pts_nil) (fun _ _ _ _ _ => (pe_and (pe_cmpR op_isBl (pe_cmpR (op_eqAmF T.toAmTxt T.cmp T.b_NotImplemented (hr.mono (by decide))) (pv 0) (pv 3) (nomark _)) pe_bl (nomark _)) (pe_one (pe_cmpR op_isBl (pe_cmpR (op_neAmF T.toAmTxt T.cmp T.b_NotImplemented (hr.mono (by decide))) (pv 0) (pv 3) (nomark _)) pe_bl (nomark _)))))) pa_nil))))), ?_⟩
    obtain ⟨hb0, dx, pl, ha, hpl⟩ := h1
    have h1 : AmAt C H a t b := ⟨hb0, dx, pl, ha, hpl⟩
    refine ⟨_, rfl, c, _, _, _, rfl, rfl, SqT.of h2, at_of (j := 0) rfl rfl, _, rfl, _, rfl, a, t, b, rfl, h1, ht, hb, _, rfl, a, t, b, rfl, h1, ht, hb, _, rfl, ?_⟩
    refine ⟨by show 1 ≤ sizeLine; decide, fun l n1 => ?_⟩
    obtain ⟨H1, e1, s1, g1⟩ := mkl n1 [.ref a]
    rw [e1]
    refine ⟨_, rfl, a, dx, amF t b pl, rfl, s1 _ _ ha, a, t, b, rfl, h1.same s1, by show 10 ≤ sizeLine; decide, fun l2 n2 => ?_⟩
    obtain ⟨H2, e2, s2, g2⟩ := mkl n2 [.int z, .ref c, .str (sTxt t b), .str (rTxt t b), .non, .bl true, .bl false, .int 0, .ref l, .int t]
    rw [e2]
    have h1 := (h1.same s1).same s2
    have all : ∀ v ∈ ([.int z, .ref c, .str (sTxt t b), .str (rTxt t b), .non, .bl true, .bl false, .int 0, .ref l, .int t] : List V), Fgn H2 v := by
      intro v hv
      simp only [List.mem_cons, List.not_mem_nil, or_false] at hv
      rcases hv with rfl | rfl | rfl | rfl | rfl | rfl | rfl | rfl | rfl | rfl
      · exact .int _
      · exact .tup (s2 _ _ (s1 _ _ h2))
      · exact .str _
      · exact .str _
      · exact .non
      · exact .bl _
      · exact .bl _
      · exact .int _
      · exact .lst (s2 _ _ g1)
      · exact .int _
    have len : ([.int z, .ref c, .str (sTxt t b), .str (rTxt t b), .non, .bl true, .bl false, .int 0, .ref l, .int t] : List V).length = 10 := rfl
    have s02 : Same H H2 := s1.trans s2
    clear e1 e2 n1 n2 g1 s1 s2 ha hpl h2 ht hb
    generalize [V.int z, .ref c, .str (sTxt t b), .str (rTxt t b), .non, .bl true, .bl false, .int 0, .ref l, .int t] = xs at *
    refine ⟨_, rfl, l2, rfl, ⟨_, SqL.of g2⟩, fun D nD => ?_⟩
    refine lc_it (walk_list (xs := xs)) (fun i H' => i ≤ 10 ∧ Same H2 H' ∧ H' D = some (.lst (List.replicate i (.bl true)))) ⟨by decide, Same.new nD, upd_same⟩ (fun i H' _ k => SqL.of (k.2.1 _ _ g2)) (fun i x H' H'' hi k y => ?_) (fun H' k => ?_)
    · obtain ⟨rfl, hx⟩ := y
      have fx := (all x (List.mem_of_getElem? hx)).same k.2.1
      refine ⟨rfl, ?_⟩
      refine yes_t ?_
      refine ⟨_, rfl, _, rfl, a, t, b, rfl, h1.same k.2.1, fx, fun H3 s3 => ⟨_, _, rfl, rfl, ?_⟩⟩
      refine ⟨true, rfl, iteT ⟨_, rfl, _, rfl, a, t, b, rfl, h1.same (k.2.1.trans s3), fx.same s3, fun H4 s4 => ⟨_, _, rfl, rfl, _, s4 _ _ (s3 _ _ k.2.2), ?_, by omega, Same.put ((k.2.1.trans s3).trans s4) nD, ?_⟩⟩⟩
      · rw [List.length_replicate]
        exact Nat.lt_of_lt_of_le hi (by rw [len]; decide)
      · rw [upd_same, decide_eq_true rfl, rep_add]
    · refine ⟨D, List.replicate 10 true, rfl, SqL.of ?_, ?_⟩
      · rw [k.2.2, len]
        rfl
      · exact q _ (s02.trans k.2.1)
end
end SP
namespace SP
open PySem PySem.Spec PyProof.Rows L2


/-! ### the order of fractions, plainly -/
theorem low_cross {z b t d : Int} (l : Low z b t d) : nz z b * d = t * nb b := by
  unfold nz nb
  split
  · rw [Int.neg_mul, Int.mul_neg, l.eq]
  · exact l.eq.symm
theorem crs_low {z1 b1 z2 b2 t1 d1 t2 d2 : Int} (l1 : Low z1 b1 t1 d1) (l2 : Low z2 b2 t2 d2) : (t1 * d2 - t2 * d1) * (nb b1 * nb b2) = crs z1 b1 z2 b2 * (d1 * d2) := by
  have e1 := low_cross l1
  have e2 := low_cross l2
  unfold crs
  generalize nz z1 b1 = x1 at *
  generalize nz z2 b2 = x2 at *
  generalize nb b1 = y1 at *
  generalize nb b2 = y2 at *
  rw [Int.sub_mul, Int.sub_mul]
  have h1 : t1 * d2 * (y1 * y2) = x1 * y2 * (d1 * d2) := by
    rw [show t1 * d2 * (y1 * y2) = (t1 * y1) * (d2 * y2) by ac_rfl, ← e1]
    ac_rfl
  have h2 : t2 * d1 * (y1 * y2) = x2 * y1 * (d1 * d2) := by
    rw [show t2 * d1 * (y1 * y2) = (t2 * y2) * (d1 * y1) by ac_rfl, ← e2]
    ac_rfl
  rw [h1, h2]
theorem pos_iff {a b c d : Int} (h : a * c = b * d) (hc : 0 < c) (hd : 0 < d) : (0 < a ↔ 0 < b) ∧ (a < 0 ↔ b < 0) := by
  refine ⟨⟨fun z => ?_, fun z => ?_⟩, fun z => ?_, fun z => ?_⟩
  · exact Int.pos_of_mul_pos_left (h ▸ Int.mul_pos z hc) hd
  · exact Int.pos_of_mul_pos_left (h ▸ Int.mul_pos z hd) hc
  · have y : 0 < (-a) * c := Int.mul_pos (by omega) hc
    rw [Int.neg_mul, h, ← Int.neg_mul] at y
    have := Int.pos_of_mul_pos_left y hd
    omega
  · have y : 0 < (-b) * d := Int.mul_pos (by omega) hd
    rw [Int.neg_mul, ← h, ← Int.neg_mul] at y
    have := Int.pos_of_mul_pos_left y hc
    omega
theorem crs_sign {z1 b1 z2 b2 t1 d1 t2 d2 : Int} (n1 : b1 ≠ 0) (n2 : b2 ≠ 0) (l1 : Low z1 b1 t1 d1) (l2 : Low z2 b2 t2 d2) : (0 < t1 * d2 - t2 * d1 ↔ 0 < crs z1 b1 z2 b2) ∧ (t1 * d2 - t2 * d1 < 0 ↔ crs z1 b1 z2 b2 < 0) :=
  pos_iff (crs_low l1 l2) (Int.mul_pos (nb_gt n1) (nb_gt n2)) (Int.mul_pos l1.pos l2.pos)
theorem sgn_low {z1 b1 z2 b2 t1 d1 t2 d2 : Int} (n1 : b1 ≠ 0) (n2 : b2 ≠ 0) (l1 : Low z1 b1 t1 d1) (l2 : Low z2 b2 t2 d2) : sgn (crs z1 b1 z2 b2) = sgn (t1 * d2 - t2 * d1) := by
  obtain ⟨h1, h2⟩ := crs_sign n1 n2 l1 l2
  unfold sgn
  rw [decide_eq_decide.mpr (show crs z1 b1 z2 b2 > 0 ↔ t1 * d2 - t2 * d1 > 0 from h1.symm), decide_eq_decide.mpr h2.symm]
theorem crs_trans {z1 b1 z2 b2 z3 b3 : Int} (n1 : b1 ≠ 0) (n2 : b2 ≠ 0) (n3 : b3 ≠ 0) (h : crs z1 b1 z2 b2 ≤ 0) (k : crs z2 b2 z3 b3 ≤ 0) : crs z1 b1 z3 b3 ≤ 0 := by
  have p1 := nb_gt n1
  have p2 := nb_gt n2
  have p3 := nb_gt n3
  unfold crs at *
  generalize nz z1 b1 = x1 at *
  generalize nz z2 b2 = x2 at *
  generalize nz z3 b3 = x3 at *
  generalize nb b1 = y1 at *
  generalize nb b2 = y2 at *
  generalize nb b3 = y3 at *
  have a1 := Int.mul_le_mul_of_nonneg_right (show x1 * y2 ≤ x2 * y1 by omega) (Int.le_of_lt p3)
  have a2 := Int.mul_le_mul_of_nonneg_right (show x2 * y3 ≤ x3 * y2 by omega) (Int.le_of_lt p1)
  have a3 : (x1 * y3) * y2 ≤ (x3 * y1) * y2 := by
    rw [show x1 * y3 * y2 = x1 * y2 * y3 by ac_rfl, show x3 * y1 * y2 = x3 * y2 * y1 by ac_rfl]
    refine Int.le_trans a1 (Int.le_trans ?_ a2)
    rw [show x2 * y1 * y3 = x2 * y3 * y1 by ac_rfl]
    exact Int.le_refl _
  have := Int.le_of_mul_le_mul_right a3 p2
  omega
theorem crs_swap {z1 b1 z2 b2 : Int} : crs z2 b2 z1 b1 = -crs z1 b1 z2 b2 := by
  unfold crs
  omega
theorem sgn_ge {d : Int} (h : 0 ≤ d) : sgn d ≠ -1 := by
  unfold sgn
  rw [decide_eq_false (show ¬ d < 0 by omega)]
  split <;> decide
theorem sgn_le {d : Int} (h : d ≤ 0) : sgn d ≠ 1 := by
  unfold sgn
  rw [decide_eq_false (show ¬ d > 0 by omega), if_neg Bool.false_ne_true]
  split <;> decide
/-! ### lists of addresses and what they hold -/
theorem snoc_at {R : Nat → Addr → Prop} {qs : List Addr} {q : Addr} (h : ∀ j a, qs[j]? = some a → R j a) (hq : R qs.length q) : ∀ j a, (qs ++ [q])[j]? = some a → R j a := by
  intro j a e
  rw [List.getElem?_append] at e
  split at e
  · exact h j a e
  · rename_i z
    have z' : j - qs.length = 0 := by
      cases y : j - qs.length with
      | zero => rfl
      | succ k =>
        rw [y] at e
        simp at e
    rw [z'] at e
    cases e
    have : j = qs.length := by omega
    rw [this]
    exact hq
def PrL (H : Hp) (fs : List (Int × Int)) (qs : List Addr) : Prop := ∀ (j : Nat) (a : Addr), qs[j]? = some a → ∃ f : Int × Int, fs[j]? = some f ∧ Pair H a f.1 f.2 ∧ Fr1 f.1 f.2
def AmL (C : Addr) (H : Hp) (fs : List (Int × Int)) (ms : List Addr) : Prop := ∀ (j : Nat) (a : Addr), ms[j]? = some a → ∃ (f : Int × Int) (t b : Int), fs[j]? = some f ∧ Fr1 f.1 f.2 ∧ Low f.1 f.2 t b ∧ AmAt C H a t b
theorem PrL.up {H H' : Hp} {fs : List (Int × Int)} {qs : List Addr} (h : PrL H fs qs) (k : ∀ q z b, Pair H q z b → Pair H' q z b) : PrL H' fs qs := fun j a e => let ⟨f, e1, p, g⟩ := h j a e; ⟨f, e1, k _ _ _ p, g⟩
theorem AmL.up {C : Addr} {H H' : Hp} {fs : List (Int × Int)} {qs : List Addr} (h : AmL C H fs qs) (k : ∀ q z b, AmAt C H q z b → AmAt C H' q z b) : AmL C H' fs qs := fun j a e => let ⟨f, t, b, e1, g, l, p⟩ := h j a e; ⟨f, t, b, e1, g, l, k _ _ _ p⟩
theorem FrL.pr {H : Hp} {qs : List Addr} {fs : List (Int × Int)} (h : FrL H qs fs) : PrL H fs qs := by
  intro j a e
  have hl : j < fs.length := by
    rw [← h.len]
    exact (List.getElem?_eq_some_iff.mp e).1
  obtain ⟨p, g⟩ := h.at e (List.getElem?_eq_getElem hl)
  exact ⟨_, List.getElem?_eq_getElem hl, p, g⟩
/-- the j-th fraction -/
def fr (fs : List (Int × Int)) (j : Nat) : Int × Int := fs.getD j (0, 1)
def cr (fs : List (Int × Int)) (i j : Nat) : Int := crs (fr fs i).1 (fr fs i).2 (fr fs j).1 (fr fs j).2
theorem cr_self {fs : List (Int × Int)} {i : Nat} : cr fs i i = 0 := by
  unfold cr crs
  omega
theorem cr_swap {fs : List (Int × Int)} {i j : Nat} : cr fs j i = -cr fs i j := crs_swap
theorem best_g {fs : List (Int × Int)} {i g : Nat} (n : ∀ j, j < 12 → (fr fs j).2 ≠ 0) (hi : i < 12) (hg : g < 12) (best : ∀ j, j < i → cr fs j g ≤ 0) : (0 < cr fs i g → ∀ j, j < i + 1 → cr fs j i ≤ 0) ∧ (¬ 0 < cr fs i g → ∀ j, j < i + 1 → cr fs j g ≤ 0) := by
  refine ⟨fun h j hj => ?_, fun h j hj => ?_⟩
  · by_cases e : j = i
    · rw [e, cr_self]
      exact Int.le_refl _
    · have h1 := best j (by omega)
      have h2 : cr fs g i ≤ 0 := by
        rw [cr_swap]
        omega
      exact crs_trans (n j (by omega)) (n g hg) (n i hi) h1 h2
  · by_cases e : j = i
    · rw [e]
      omega
    · exact best j (by omega)
theorem best_l {fs : List (Int × Int)} {i l : Nat} (n : ∀ j, j < 12 → (fr fs j).2 ≠ 0) (hi : i < 12) (hl : l < 12) (best : ∀ j, j < i → cr fs l j ≤ 0) : (cr fs i l < 0 → ∀ j, j < i + 1 → cr fs i j ≤ 0) ∧ (¬ cr fs i l < 0 → ∀ j, j < i + 1 → cr fs l j ≤ 0) := by
  refine ⟨fun h j hj => ?_, fun h j hj => ?_⟩
  · by_cases e : j = i
    · rw [e, cr_self]
      exact Int.le_refl _
    · exact crs_trans (n i hi) (n l hl) (n j (by omega)) (by show cr fs i l ≤ 0; omega) (best j (by omega))
  · by_cases e : j = i
    · rw [e, cr_swap]
      omega
    · exact best j (by omega)
theorem gt_crs {z1 b1 z2 b2 t1 d1 t2 d2 : Int} (n1 : b1 ≠ 0) (n2 : b2 ≠ 0) (l1 : Low z1 b1 t1 d1) (l2 : Low z2 b2 t2 d2) : fGt t1 d1 t2 d2 = true ↔ 0 < crs z1 b1 z2 b2 := by
  rw [← (crs_sign n1 n2 l1 l2).1]
  unfold fGt
  rw [decide_eq_true_iff]
  omega
theorem lt_crs {z1 b1 z2 b2 t1 d1 t2 d2 : Int} (n1 : b1 ≠ 0) (n2 : b2 ≠ 0) (l1 : Low z1 b1 t1 d1) (l2 : Low z2 b2 t2 d2) : fLt t1 d1 t2 d2 = true ↔ crs z1 b1 z2 b2 < 0 := by
  rw [← (crs_sign n1 n2 l1 l2).2]
  unfold fLt
  rw [decide_eq_true_iff]
  omega
theorem PrL.get {H : Hp} {fs : List (Int × Int)} {qs : List Addr} (h : PrL H fs qs) {j : Nat} (hj : j < qs.length) : ∃ a, (qs.map V.ref)[j]? = some (.ref a) ∧ Pair H a (fr fs j).1 (fr fs j).2 ∧ Fr1 (fr fs j).1 (fr fs j).2 := by
  obtain ⟨f, e, p, g⟩ := h j _ (List.getElem?_eq_getElem hj)
  have ef : fr fs j = f := by
    unfold fr
    rw [List.getD_eq_getElem?_getD, e]
    rfl
  rw [ef]
  exact ⟨_, by rw [List.getElem?_map, List.getElem?_eq_getElem hj]; rfl, p, g⟩
theorem AmL.get {C : Addr} {H : Hp} {fs : List (Int × Int)} {qs : List Addr} (h : AmL C H fs qs) {j : Nat} (hj : j < qs.length) : ∃ a t b, (qs.map V.ref)[j]? = some (.ref a) ∧ Fr1 (fr fs j).1 (fr fs j).2 ∧ Low (fr fs j).1 (fr fs j).2 t b ∧ AmAt C H a t b := by
  obtain ⟨f, t, b, e, p, g, l⟩ := h j _ (List.getElem?_eq_getElem hj)
  have ef : fr fs j = f := by
    unfold fr
    rw [List.getD_eq_getElem?_getD, e]
    rfl
  rw [ef]
  exact ⟨_, t, b, by rw [List.getElem?_map, List.getElem?_eq_getElem hj]; rfl, p, g, l⟩
theorem flat_ints {ss : List Int} : (ss.map V.int).all flatV = true := by
  rw [List.all_map, List.all_eq_true]
  intro s _
  rfl
theorem inV_ints {k : Int} {ss : List Int} (h : ∀ s ∈ ss, s ≠ k) : inV (.int k) (ss.map V.int) = false := by
  unfold inV
  rw [List.any_map, List.any_eq_false]
  intro s hs e
  exact h s hs (by simpa [eqV] using e)
section
variable {P : Program} {w : World} {K : PySem.W.Frag} {mg : Str → Option Value} {base : Heap} {C : Addr}
theorem keep_ref (T : AmTxt K mg C) : PySem.W.keepIn K (.ref C) = true := let ⟨_, _, m, _⟩ := T.mkC; m.kp
theorem ix_listK {X : Cx} {K : PySem.W.Frag} (e : X.K = K) : IxR X (rIxL K) := by
  subst e
  exact ix_list
def spRight : Sp := fun vs H Q _ => ∃ p : Addr, vs = [.ref p] ∧ Pot H p ∧ ∀ H', Kp p H H' → Q (.bl true) H'
theorem scRight : FnScope ["_law_pot_here", "_law_fractions_here", "_law_top", "_law_bottom", "_law_made", "_law_greatest", "_law_least", "_law_k", "_law_fraction", "_law_j", "_law_other", "_law_signs"] ["_law_pot_here"] (defScope sRight) := ⟨rfl, rfl, rfl, by decide +kernel, rfl, by decide +kernel, by decide +kernel⟩
theorem d_right (T : LTxt K mg C) : DefG P w K mg base 5 "_law_right" ["_law_pot_here"] spRight := by
  have DF := d_fractions (P := P) (w := w) (base := base) T
  have DS := d_sign (P := P) (w := w) (base := base) T
  have DPa := d_pair (P := P) (w := w) (base := base) T
  have DA := d_alone (P := P) (w := w) (base := base) T
  refine T.tRight.ok scRight (fun vs H Q E h => ?_) (fun f cdv A out s H vs Q E gd hr h => ?_)
  · obtain ⟨p, rfl, _⟩ := h
    rfl
  · obtain ⟨p, rfl, hp, q⟩ := h
    refine ⟨_, (pss_cons (ps_set (i := 1) scRight.nd rfl (Or.inr rfl) (pe_lc (own := [("_law_top", 2), ("_law_bottom", 3)]) (g := (gTup K 2 (gCons (gName 2) (gCons (gName 3) gNil)))) (by rfl) scRight.nd (pi_list (pe_callD DF gd (hr.mono (by decide)) (pa_cons (pv 0) pa_nil))) (blkOk_by (own := [("_law_top", 2), ("_law_bottom", 3)]) (N := ["_law_pot_here", "_law_fractions_here", "_law_top", "_law_bottom", "_law_made", "_law_greatest", "_law_least", "_law_k", "_law_fraction", "_law_j", "_law_other", "_law_signs"]) (sc := defScope sRight) (by decide +kernel)) (fun _ _ _ _ _ => (pg_tup (by rfl) (pgs_cons (pg_name (i := 2) scRight.nd rfl (Or.inl rfl)) (pgs_cons (pg_name (i := 3) scRight.nd rfl (Or.inl rfl)) pgs_nil)))) (fun _ _ _ _ _ => pts_nil) (fun _ _ _ _ _ => (pe_tup (pa_cons (pe_callTy call_int1 (by rfl) T.b_int (by decide +kernel) (pa_cons (pv 2) pa_nil)) (pa_cons (pe_callTy call_int1 (by rfl) T.b_int (by decide +kernel) (pa_cons (pv 3) pa_nil)) pa_nil))))))
  (pss_cons (ps_setLc (i := 4) (own := [("_law_top", 2), ("_law_bottom", 3)]) (g := (gTup K 2 (gCons (gName 2) (gCons (gName 3) gNil)))) (by rfl) scRight.nd rfl rfl (sw_true rfl rfl rfl (by decide +kernel)) (pi_list (pv 1)) (blkOk_by (own := [("_law_top", 2), ("_law_bottom", 3)]) (N := ["_law_pot_here", "_law_fractions_here", "_law_top", "_law_bottom", "_law_made", "_law_greatest", "_law_least", "_law_k", "_law_fraction", "_law_j", "_law_other", "_law_signs"]) (sc := defScope sRight) (by decide +kernel)) (fun _ _ _ _ _ => (pg_tup (by rfl) (pgs_cons (pg_name (i := 2) scRight.nd rfl (Or.inl rfl)) (pgs_cons (pg_name (i := 3) scRight.nd rfl (Or.inl rfl)) pgs_nil)))) (fun _ _ _ _ _ => pts_nil) (fun _ _ _ _ _ => (pe_callC (rn_amount T.toAmTxt (hr.mono (by decide))) T.gC (keep_ref T.toAmTxt) (pa_cons (pv 2) (pa_cons (pv 3) pa_nil)))))
  (pss_cons (ps_asg (pe_tup (pa_cons pe_int (pa_cons pe_int pa_nil))) (pg_tup (by rfl) (pgs_cons (pg_name (i := 5) scRight.nd rfl (Or.inr rfl)) (pgs_cons (pg_name (i := 6) scRight.nd rfl (Or.inr rfl)) pgs_nil))))
  (pss_cons (ps_for PassesOwn.never rfl (pi_enum (by rfl) T.b_enumerate (pa_cons (pv 1) pa_nil)) (pg_tup (by rfl) (pgs_cons (pg_name (i := 7) scRight.nd rfl (Or.inl rfl)) (pgs_cons (pg_name (i := 8) scRight.nd rfl (Or.inl rfl)) pgs_nil))) (pss_cons (ps_for PassesOwn.never rfl (pi_enum (by rfl) T.b_enumerate (pa_cons (pv 1) pa_nil)) (pg_tup (by rfl) (pgs_cons (pg_name (i := 9) scRight.nd rfl (Or.inl rfl)) (pgs_cons (pg_name (i := 10) scRight.nd rfl (Or.inl rfl)) pgs_nil))) (pss_one (ps_if (pt_not (pt_val (pe_callD DPa gd (hr.mono (by decide)) (pa_cons (pe_ix ix_list (pv 4) (pv 7) (fun _ _ => rfl)) (pa_cons (pe_ix ix_list (pv 4) (pv 9) (fun _ _ => rfl)) (pa_cons (pe_callD DS gd (hr.mono (by decide)) (pa_cons (pv 8) (pa_cons (pv 10) pa_nil))) pa_nil)))))) (pss_one (ps_ret pe_bl)) pss_nil)))
  (pss_cons (ps_if (pt_not (pt_val (pe_callD DA gd (hr.mono (by decide)) (pa_cons (pe_ix ix_list (pv 4) (pv 7) (fun _ _ => rfl)) (pa_cons (pv 8) pa_nil))))) (pss_one (ps_ret pe_bl)) pss_nil)
  (pss_cons (ps_if (pt_cmpR (op_gtAm T.toAmTxt T.cmp (hr.mono (by decide))) (pe_ix ix_list (pv 4) (pv 7) (fun _ _ => rfl)) (pe_ix ix_list (pv 4) (pv 5) (fun _ _ => rfl)) (nomark _)) (pss_one (ps_set (i := 5) scRight.nd rfl (Or.inr rfl) (pv 7))) pss_nil)
  (pss_one (ps_if (pt_cmpR (op_ltAm T.toAmTxt T.cmp (hr.mono (by decide))) (pe_ix ix_list (pv 4) (pv 7) (fun _ _ => rfl)) (pe_ix ix_list (pv 4) (pv 6) (fun _ _ => rfl)) (nomark _)) (pss_one (ps_set (i := 6) scRight.nd rfl (Or.inr rfl) (pv 7))) pss_nil))))))
  (pss_cons (ps_setLc (i := 11) (own := [("_law_other", 10)]) (g := (gName 10)) (by rfl) scRight.nd rfl rfl (sw_true rfl rfl rfl (by decide +kernel)) (pi_list (pv 1)) (blkOk_by (own := [("_law_other", 10)]) (N := ["_law_pot_here", "_law_fractions_here", "_law_top", "_law_bottom", "_law_made", "_law_greatest", "_law_least", "_law_k", "_law_fraction", "_law_j", "_law_other", "_law_signs"]) (sc := defScope sRight) (by decide +kernel)) (fun _ _ _ _ _ => (pg_name (i := 10) scRight.nd rfl (Or.inl rfl))) (fun _ _ _ _ _ => pts_nil) (fun _ _ _ _ _ => (pe_callD DS gd (hr.mono (by decide)) (pa_cons (pe_ix (ix_listK (K := K) rfl) (pv 1) (pv 5) (fun _ _ => rfl)) (pa_cons (pv 10) pa_nil)))))
  (pss_one (ps_ret (pe_and (pe_cmpR op_notIn_seq (pe_un un_neg pe_int) (pv 11) (by rfl)) (pe_one (pe_cmpR op_notIn_seq pe_int (pe_lc (own := [("_law_other", 10)]) (g := (gName 10)) (by rfl) scRight.nd (pi_list (pv 1)) (blkOk_by (own := [("_law_other", 10)]) (N := ["_law_pot_here", "_law_fractions_here", "_law_top", "_law_bottom", "_law_made", "_law_greatest", "_law_least", "_law_k", "_law_fraction", "_law_j", "_law_other", "_law_signs"]) (sc := defScope sRight) (by decide +kernel)) (fun _ _ _ _ _ => (pg_name (i := 10) scRight.nd rfl (Or.inl rfl))) (fun _ _ _ _ _ => pts_nil) (fun _ _ _ _ _ => (pe_callD DS gd (hr.mono (by decide)) (pa_cons (pe_ix (ix_listK (K := K) rfl) (pv 1) (pv 6) (fun _ _ => rfl)) (pa_cons (pv 10) pa_nil))))) (by rfl))))))))))), ?_⟩
    refine ⟨_, rfl, p, rfl, hp, fun l0 qs fs H1 hl0 fr0 h12 hp1 k1 n0 ne0 => ?_⟩
    have pr0 := fr0.pr
    have q12 : (qs.map V.ref).length = 12 := by rw [List.length_map, fr0.len, h12]
    clear hp n0 ne0
    refine ⟨l0, rfl, ⟨_, SqL.of hl0⟩, fun D nD => ?_⟩
    refine lc_it (walk_list (xs := qs.map V.ref)) (fun i H' => Same H1 H' ∧ ∃ rs : List Addr, rs.length = i ∧ H' D = some (.lst (rs.map V.ref)) ∧ PrL H' fs rs) ⟨Same.new nD, [], rfl, upd_same, fun j a e => by simp at e⟩ (fun i H' _ k => SqL.of (k.1 _ _ hl0)) (fun i x H' H'' hi k y => ?_) (fun H2 k => ?_)
    · obtain ⟨rfl, hx⟩ := y
      obtain ⟨s1, rs, rfl, hD, pr⟩ := k
      rw [List.getElem?_map, Option.map_eq_some_iff] at hx
      obtain ⟨q0, hq0, rfl⟩ := hx
      obtain ⟨⟨z, b⟩, hf, hz, fz⟩ := pr0 _ _ hq0
      have hz := hz.same s1
      refine ⟨q0, _, rfl, SqT.of hz, rfl, _, _, rfl, _, _, rfl, rfl, rfl, ?_⟩
      refine yes_t ?_
      refine ⟨_, rfl, .inl ⟨_, rfl, _, rfl, .inl ⟨_, rfl, by show 2 ≤ sizeLine; decide, fun t nt => ?_⟩⟩⟩
      dsimp only
      obtain ⟨H3, e3, s3, j3⟩ := mkp nt z b
      rw [show upd H'' t (.tup [.int z, .int b]) = H3 from e3]
      have hD3 := s3 _ _ hD
      have kp : ∀ (o : HO) (q : Addr) (z b : Int), Pair H3 q z b → Pair (upd H3 D o) q z b := fun o q z b h => (Kp.upd (p := D)).tup hD3 h
      refine ⟨_, hD3, ?_, Same.put (s1.trans s3) nD, rs ++ [t], by simp, by rw [upd_same]; simp, ?_⟩
      · rw [List.length_map]
        exact Nat.lt_trans hi (by rw [q12]; decide)
      · exact snoc_at ((pr.up fun _ _ _ h => Pair.same h s3).up (kp _)) ⟨(z, b), hf, kp _ _ _ _ j3, fz⟩
    · obtain ⟨s1, rs, hr12, hD, pr⟩ := k
      rw [q12] at hr12
      have k2 : Kp p H H2 := k1.trans (.of s1)
      have r12 : (rs.map V.ref).length = 12 := by rw [List.length_map, hr12]
      clear hl0 fr0 hp1 k1 pr0 q12 s1 nD
      refine ⟨_, rfl, D, rfl, ⟨_, SqL.of hD⟩, fun M nM => ?_⟩
      refine lc_it (walk_list (xs := rs.map V.ref)) (fun i H' => Same H2 H' ∧ ∃ ms : List Addr, ms.length = i ∧ H' M = some (.lst (ms.map V.ref)) ∧ AmL C H' fs ms) ⟨Same.new nM, [], rfl, upd_same, fun j a e => by simp at e⟩ (fun i H' _ k => SqL.of (k.1 _ _ hD)) (fun i x H' H'' hi k y => ?_) (fun H3 k => ?_)
      · obtain ⟨rfl, hx⟩ := y
        obtain ⟨s1, ms, rfl, hM, am⟩ := k
        rw [List.getElem?_map, Option.map_eq_some_iff] at hx
        obtain ⟨q0, hq0, rfl⟩ := hx
        obtain ⟨⟨z, b⟩, hf, hz, fz⟩ := pr _ _ hq0
        have hz := hz.same s1
        refine ⟨q0, _, rfl, SqT.of hz, rfl, _, _, rfl, _, _, rfl, rfl, rfl, ?_⟩
        refine yes_t ?_
        have big : (2 : Nat) ^ 200 < 2 ^ 8000 := by decide +kernel
        refine ⟨_, rfl, _, rfl, z, b, rfl, fz.1, Nat.lt_trans fz.2.1 big, Nat.lt_trans fz.2.2 big, fun x t d H3 lw ax s3 nx => ?_⟩
        have hM3 := s3 _ _ hM
        have kp : ∀ (o : HO) (q : Addr) (z b : Int), AmAt C H3 q z b → AmAt C (upd H3 M o) q z b := fun o q z b h => h.kp (Kp.upd (p := M)) hM3
        refine ⟨_, hM3, ?_, Same.put (s1.trans s3) nM, ms ++ [x], by simp, by rw [upd_same]; simp, ?_⟩
        · rw [List.length_map]
          exact Nat.lt_trans hi (by rw [r12]; decide)
        · exact snoc_at ((am.up fun _ _ _ h => h.same s3).up (kp _)) ⟨(z, b), t, d, hf, fz, lw, kp _ _ _ _ ax⟩
      · obtain ⟨s1, ms, hm12, hM, am⟩ := k
        rw [r12] at hm12
        have k3 : Kp p H H3 := k2.trans (.of s1)
        have hD := s1 _ _ hD
        have pr := pr.up fun _ _ _ h => Pair.same h s1
        clear s1 nM k2
        refine ⟨by show 2 ≤ sizeLine; decide, fun t0 nt => ?_⟩
        refine ⟨t0, _, rfl, SqT.of upd_same, rfl, _, _, rfl, _, _, rfl, rfl, ?_⟩
        have s4 : Same H3 (upd H3 t0 (.tup [.int 0, .int 0])) := Same.new nt
        generalize upd H3 t0 (.tup [.int 0, .int 0]) = H4 at *
        have k4 : Kp p H H4 := k3.trans (.of s4)
        have hD := s4 _ _ hD
        have hM := s4 _ _ hM
        have pr := pr.up fun _ _ _ h => Pair.same h s4
        have am := am.up fun _ _ _ h => h.same s4
        clear s4 nt k3
        have pr : ∀ {H' : Hp} {j : Nat}, Same H4 H' → j < 12 → ∃ a, (rs.map V.ref)[j]? = some (.ref a) ∧ Pair H' a (fr fs j).1 (fr fs j).2 ∧ Fr1 (fr fs j).1 (fr fs j).2 := fun s hj => (pr.up fun _ _ _ h => Pair.same h s).get (by omega)
        have am : ∀ {H' : Hp} {j : Nat}, Same H4 H' → j < 12 → ∃ a t b, (ms.map V.ref)[j]? = some (.ref a) ∧ Fr1 (fr fs j).1 (fr fs j).2 ∧ Low (fr fs j).1 (fr fs j).2 t b ∧ AmAt C H' a t b := fun s hj => (am.up fun _ _ _ h => h.same s).get (by omega)
        have nn : ∀ j, j < 12 → (fr fs j).2 ≠ 0 := fun j hj => let ⟨_, _, _, z⟩ := pr (Same.refl _) hj; z.1
        refine ⟨_, rfl, D, _, rfl, SqL.of hD, ?_⟩
        refine for_it (walk_enum (xs := rs.map V.ref)) (fun i σ H' => Same H4 H' ∧ ∃ (g l : Nat) (o7 o8 o9 o10 : Option V), σ = [some (.ref p), some (.ref D), none, none, some (.ref M), some (.int g), some (.int l), o7, o8, o9, o10, none] ∧ g < 12 ∧ l < 12 ∧ ∀ j, j < i → cr fs j g ≤ 0 ∧ cr fs l j ≤ 0)
          ⟨Same.refl _, 0, 0, _, _, _, _, rfl, by decide, by decide, fun j hj => absurd hj (Nat.not_lt_zero _)⟩ (fun i σ H' _ k => SqL.of (k.1 _ _ hD)) (fun i x σ H' H'' hi k y => ?_) (fun σ H5 k => ?_)
        · obtain ⟨s4, g, l, o7, o8, o9, o10, rfl, hg, hl, best⟩ := k
          obtain ⟨T0, x0, y0, rfl, nT, rfl, ex, ey⟩ := y
          cases ex
          have hi : i < 12 := by omega
          obtain ⟨qi, hqi, pi, fi⟩ := pr (Same.refl _) hi
          have ey : (List.map V.ref rs)[i]? = some y0 := ey
          rw [hqi] at ey
          cases ey
          refine ⟨T0, _, rfl, SqT.of upd_same, rfl, _, _, rfl, _, _, rfl, rfl, ?_⟩
          have s5 : Same H4 (upd H' T0 (.tup [.int (i : Nat), .ref qi])) := s4.trans (Same.new nT)
          generalize upd H' T0 (.tup [.int (i : Nat), .ref qi]) = H5 at *
          obtain ⟨mi, ti, di, hmi, _, lwi, ai⟩ := am (Same.refl _) hi
          refine ⟨_, rfl, D, _, rfl, SqL.of (s5 _ _ hD), ?_⟩
          refine for_it (walk_enum (xs := rs.map V.ref)) (fun j σ H' => Same H4 H' ∧ ∃ (o9 o10 : Option V), σ = [some (.ref p), some (.ref D), none, none, some (.ref M), some (.int g), some (.int l), some (.int (i : Nat)), some (.ref qi), o9, o10, none])
            ⟨s5, _, _, rfl⟩ (fun i σ H' _ k => SqL.of (k.1 _ _ hD)) (fun j x σ H' H'' hj k y => ?_) (fun σ H6 k => ?_)
          · obtain ⟨s6, o9, o10, rfl⟩ := k
            obtain ⟨T1, x1, y1, rfl, nT1, rfl, ex, ey⟩ := y
            cases ex
            have hj : j < 12 := by omega
            obtain ⟨qj, hqj, pj, fj⟩ := pr (Same.refl _) hj
            have ey : (List.map V.ref rs)[j]? = some y1 := ey
            rw [hqj] at ey
            cases ey
            refine ⟨T1, _, rfl, SqT.of upd_same, rfl, _, _, rfl, _, _, rfl, rfl, ?_⟩
            have s7 : Same H4 (upd H' T1 (.tup [.int (j : Nat), .ref qj])) := s6.trans (Same.new nT1)
            generalize upd H' T1 (.tup [.int (j : Nat), .ref qj]) = H7 at *
            obtain ⟨mj, tj, dj, hmj, _, lwj, aj⟩ := am (Same.refl _) hj
            refine ⟨_, rfl, _, rfl, M, _, _, _, rfl, rfl, SqL.of (s7 _ _ hM), at_of (j := i) rfl hmi, _, rfl, _, rfl, M, _, _, _, rfl, rfl, SqL.of (s7 _ _ hM), at_of (j := j) rfl hmj, ?_⟩
            refine ⟨_, rfl, _, rfl, qi, qj, _, _, _, _, rfl, pi.same s7, pj.same s7, fi, fj, fun H8 s8 => ?_⟩
            refine ⟨mi, mj, ti, di, tj, dj, _, rfl, ai.same (s7.trans s8), aj.same (s7.trans s8), sgn_low fi.1 fj.1 lwi lwj, fun H9 s9 => ?_⟩
            have s10 : Same H4 H9 := (s7.trans s8).trans s9
            refine ⟨true, rfl, ?_⟩
            exact iteF ⟨s10, _, _, rfl⟩
          · obtain ⟨s6, o9, o10, rfl⟩ := k
            refine ⟨_, rfl, _, rfl, M, _, _, _, rfl, rfl, SqL.of (s6 _ _ hM), at_of (j := i) rfl hmi, _, rfl, ?_⟩
            have big : (2 : Nat) ^ 200 < 2 ^ 1900 := by decide +kernel
            refine ⟨mi, qi, ti, di, _, _, rfl, ai.same s6, Nat.lt_of_le_of_lt lwi.lt (Nat.lt_trans fi.2.1 big), Nat.lt_of_le_of_lt lwi.lb (Nat.lt_trans fi.2.2 big), pi.same s6, fun H7 s7 => ?_⟩
            have s8 : Same H4 H7 := s6.trans s7
            refine ⟨true, rfl, ?_⟩
            refine iteF ?_
            obtain ⟨mq, tg, dg, hmg, fg, lwg, ag⟩ := am (Same.refl _) hg
            obtain ⟨ml, tl, dl, hml, fl, lwl, al⟩ := am (Same.refl _) hl
            refine ⟨_, rfl, _, rfl, M, _, _, _, rfl, rfl, SqL.of (s8 _ _ hM), at_of (j := i) rfl hmi, _, rfl, _, rfl, M, _, _, _, rfl, rfl, SqL.of (s8 _ _ hM), at_of (j := g) rfl hmg, ?_⟩
            refine ⟨mi, mq, ti, di, tg, dg, rfl, rfl, ai.same s8, ag.same s8, _, rfl, ?_⟩
            have bg := best_g nn hi hg fun j hj => (best j hj).1
            have bl := best_l nn hi hl fun j hj => (best j hj).2
            refine ite2 (fun c1 => ?_) (fun c1 => ?_)
            · refine ⟨_, rfl, ?_⟩
              refine ⟨_, rfl, _, rfl, M, _, _, _, rfl, rfl, SqL.of (s8 _ _ hM), at_of (j := i) rfl hmi, _, rfl, _, rfl, M, _, _, _, rfl, rfl, SqL.of (s8 _ _ hM), at_of (j := l) rfl hml, ?_⟩
              refine ⟨mi, ml, ti, di, tl, dl, rfl, rfl, ai.same s8, al.same s8, _, rfl, ?_⟩
              refine ite2 (fun c2 => ?_) (fun c2 => ?_)
              · exact ⟨_, rfl, s8, i, i, _, _, _, _, rfl, hi, hi, fun j hj => ⟨bg.1 ((gt_crs fi.1 fg.1 lwi lwg).mp c1) j hj, bl.1 ((lt_crs fi.1 fl.1 lwi lwl).mp c2) j hj⟩⟩
              · exact ⟨s8, i, l, _, _, _, _, rfl, hi, hl, fun j hj => ⟨bg.1 ((gt_crs fi.1 fg.1 lwi lwg).mp c1) j hj, bl.2 (fun z => c2 ((lt_crs fi.1 fl.1 lwi lwl).mpr z)) j hj⟩⟩
            · skip
              refine ⟨_, rfl, _, rfl, M, _, _, _, rfl, rfl, SqL.of (s8 _ _ hM), at_of (j := i) rfl hmi, _, rfl, _, rfl, M, _, _, _, rfl, rfl, SqL.of (s8 _ _ hM), at_of (j := l) rfl hml, ?_⟩
              refine ⟨mi, ml, ti, di, tl, dl, rfl, rfl, ai.same s8, al.same s8, _, rfl, ?_⟩
              refine ite2 (fun c2 => ?_) (fun c2 => ?_)
              · exact ⟨_, rfl, s8, g, i, _, _, _, _, rfl, hg, hi, fun j hj => ⟨bg.2 (fun z => c1 ((gt_crs fi.1 fg.1 lwi lwg).mpr z)) j hj, bl.1 ((lt_crs fi.1 fl.1 lwi lwl).mp c2) j hj⟩⟩
              · exact ⟨s8, g, l, _, _, _, _, rfl, hg, hl, fun j hj => ⟨bg.2 (fun z => c1 ((gt_crs fi.1 fg.1 lwi lwg).mpr z)) j hj, bl.2 (fun z => c2 ((lt_crs fi.1 fl.1 lwi lwl).mpr z)) j hj⟩⟩
        · obtain ⟨s5, g, l, o7, o8, o9, o10, rfl, hg, hl, best⟩ := k
          rw [r12] at best
          clear am hM hm12
          refine ⟨_, rfl, D, rfl, ⟨_, SqL.of (s5 _ _ hD)⟩, fun S nS => ?_⟩
          refine lc_it (walk_list (xs := rs.map V.ref)) (fun i H' => Same H5 H' ∧ ∃ ss : List Int, ss.length = i ∧ H' S = some (.lst (ss.map V.int)) ∧ ∀ s ∈ ss, s ≠ -1) ⟨Same.new nS, [], rfl, upd_same, fun s hs => by simp at hs⟩ (fun i H' _ k => SqL.of (k.1 _ _ (s5 _ _ hD))) (fun i x H' H'' hi k y => ?_) (fun H5' k => ?_)
          · obtain ⟨rfl, hx⟩ := y
            obtain ⟨s1, ss, rfl, hS, al⟩ := k
            obtain ⟨qg, hqg, pg, fg⟩ := pr (s5.trans s1) hg
            obtain ⟨qj, hqj, pj, fj⟩ := pr (s5.trans s1) (show ss.length < 12 by omega)
            rw [hqj] at hx
            cases hx
            refine ⟨rfl, ?_⟩
            refine yes_t ?_
            refine ⟨_, rfl, _, rfl, D, _, _, _, rfl, rfl, SqL.of (s1 _ _ (s5 _ _ hD)), at_of (j := g) rfl hqg, _, rfl, qg, qj, _, _, _, _, rfl, pg, pj, fg, fj, fun H7 s7 => ?_⟩
            refine ⟨_, s7 _ _ hS, ?_, Same.put (s1.trans s7) nS, ss ++ [_], by simp, by rw [upd_same, List.map_append]; rfl, ?_⟩
            · rw [List.length_map]
              exact Nat.lt_trans hi (by rw [r12]; decide)
            · intro s hs
              rw [List.mem_append, List.mem_singleton] at hs
              rcases hs with hs | rfl
              · exact al s hs
              · exact sgn_ge (by have := (best _ (show ss.length < 12 by omega)).1; rw [cr_swap] at this; show 0 ≤ cr fs g ss.length; omega)
          · obtain ⟨s6, ss, hs12, hS, al⟩ := k
            have s7 : Same H4 H5' := s5.trans s6
            refine ⟨_, rfl, _, rfl, S, _, rfl, .inl (SqL.of hS), rfl, flat_ints, true, ?_, ?_⟩
            · show V.bl (!inV (.int (-1)) (ss.map V.int)) = V.bl true
              rw [inV_ints al]
              rfl
            refine iteT ?_
            refine ⟨_, rfl, D, rfl, ⟨_, SqL.of (s7 _ _ hD)⟩, fun S2 nS2 => ?_⟩
            refine lc_it (walk_list (xs := rs.map V.ref)) (fun i H' => Same H5' H' ∧ ∃ ss : List Int, ss.length = i ∧ H' S2 = some (.lst (ss.map V.int)) ∧ ∀ s ∈ ss, s ≠ 1) ⟨Same.new nS2, [], rfl, upd_same, fun s hs => by simp at hs⟩ (fun i H' _ k => SqL.of (k.1 _ _ (s7 _ _ hD))) (fun i x H' H'' hi k y => ?_) (fun H5'' k => ?_)
            · obtain ⟨rfl, hx⟩ := y
              obtain ⟨s1, ss, rfl, hS, al⟩ := k
              obtain ⟨qg, hqg, pg, fg⟩ := pr (s7.trans s1) hl
              obtain ⟨qj, hqj, pj, fj⟩ := pr (s7.trans s1) (show ss.length < 12 by omega)
              rw [hqj] at hx
              cases hx
              refine ⟨rfl, ?_⟩
              refine yes_t ?_
              refine ⟨_, rfl, _, rfl, D, _, _, _, rfl, rfl, SqL.of (s1 _ _ (s7 _ _ hD)), at_of (j := l) rfl hqg, _, rfl, qg, qj, _, _, _, _, rfl, pg, pj, fg, fj, fun H7 s7 => ?_⟩
              refine ⟨_, s7 _ _ hS, ?_, Same.put (s1.trans s7) nS2, ss ++ [_], by simp, by rw [upd_same, List.map_append]; rfl, ?_⟩
              · rw [List.length_map]
                exact Nat.lt_trans hi (by rw [r12]; decide)
              · intro s hs
                rw [List.mem_append, List.mem_singleton] at hs
                rcases hs with hs | rfl
                · exact al s hs
                · exact sgn_le (best _ (show ss.length < 12 by omega)).2
            · obtain ⟨s8, ss2, _, hS2, al2⟩ := k
              refine ⟨S2, _, rfl, .inl (SqL.of hS2), rfl, flat_ints, ?_⟩
              show Q (.bl (!inV (.int 1) (ss2.map V.int))) _
              rw [inV_ints al2]
              exact q _ (k4.trans (.of (s7.trans s8)))
end
end SP
namespace SP
open PySem PySem.Spec PyProof.Rows L2


section
variable {P : Program} {w : World} {K : PySem.W.Frag} {mg : Str → Option Value} {base : Heap} {C : Addr}
def spLaw (K : PySem.W.Frag) : Sp := fun vs H Q _ => ∃ (a : Addr) (ns : List Int), vs = [.ref a] ∧ SqL K H a (ns.map V.int) ∧ ns.length ≤ 63 ∧ ∀ H', Q (.bl true) H'
theorem scLaw : FnScope ["_law_script", "_law_k"] ["_law_script"] (defScope sLaw) := ⟨rfl, rfl, rfl, by decide +kernel, rfl, by decide +kernel, by decide +kernel⟩
theorem ok_law {f : Addr} {fd : FuncData} (T : LTxt K mg C) (F : Fun K "law" "law" sLaw f fd) : FnG P w K mg base CX0 6 f fd ["_law_script"] (spLaw K) := by
  have DR := d_right (P := P) (w := w) (base := base) T
  have DPo := d_pot (P := P) (w := w) (base := base) T
  refine okG0 F scLaw (fun vs H Q E h => ?_) (fun cdv A out s H vs Q E gd hr h => ?_)
  · obtain ⟨a, ns, rfl, _⟩ := h
    rfl
  · obtain ⟨a, ns, rfl, hS, hn, q⟩ := h
    refine ⟨_, (pss_one (ps_ret (pe_callB (cr_all rfl) (by rfl) T.b_all (by decide +kernel) (pa_cons (pe_lc (own := [("_law_k", 1)]) (g := (gName 1)) (by rfl) scLaw.nd (pi_range1 (by rfl) T.b_range (pa_cons (pe_callB (call_max2 rfl) (by rfl) T.b_max (by decide +kernel) (pa_cons pe_int (pa_cons (pe_callB (call_min2 rfl) (by rfl) T.b_min (by decide +kernel) (pa_cons pe_int (pa_cons (pe_callB call_len (by rfl) T.b_len (by decide +kernel) (pa_cons (pv 0) pa_nil)) pa_nil))) pa_nil))) pa_nil)) (blkOk_by (own := [("_law_k", 1)]) (N := ["_law_script", "_law_k"]) (sc := defScope sLaw) (by decide +kernel)) (fun _ _ _ _ _ => (pg_name (i := 1) scLaw.nd rfl (Or.inl rfl))) (fun _ _ _ _ _ => pts_nil) (fun _ _ _ _ _ => (pe_callD DR gd (hr.mono (by decide)) (pa_cons (pe_callD DPo gd (hr.mono (by decide)) (pa_cons (pv 0) (pa_cons (pv 1) pa_nil))) pa_nil)))) pa_nil)))), ?_⟩
    refine ⟨_, rfl, _, ns.length, rfl, .inl ⟨_, hS, by rw [List.length_map]⟩, ?_⟩
    have hm : ∃ m : Nat, m ≤ 4 ∧ (if (if (ns.length : Int) < 4 then (ns.length : Int) else 4) > 1 then (if (ns.length : Int) < 4 then (ns.length : Int) else 4) else 1) = (m : Int) := by
      refine ⟨(if (if (ns.length : Int) < 4 then (ns.length : Int) else 4) > 1 then (if (ns.length : Int) < 4 then (ns.length : Int) else 4) else 1).toNat, ?_, ?_⟩ <;> split <;> split <;> omega
    obtain ⟨m, m4, em⟩ := hm
    refine ⟨_, _, rfl, _, _, rfl, m, by rw [em], by omega, by omega, fun D nD => ?_⟩
    refine lc_it (walk_range (lo := 0) (n := m)) (fun i H' => Same H H' ∧ H' D = some (.lst (List.replicate i (.bl true)))) ⟨Same.new nD, upd_same⟩ (fun i H' _ k => trivial) (fun i x H' H'' hi k y => ?_) (fun H' k => ?_)
    · obtain ⟨rfl, rfl⟩ := y
      obtain ⟨s1, hD⟩ := k
      refine ⟨rfl, ?_⟩
      refine yes_t ?_
      refine ⟨_, rfl, _, rfl, a, ns, (i : Int), (by show [V.ref a, V.int (0 + (i : Int))] = _; rw [Int.zero_add]), s1.seq hS, hn, by omega, by omega, fun p H1 s2 np hp => ?_⟩
      refine ⟨p, rfl, hp, fun H2 k2 => ?_⟩
      have pD : D ≠ p := ne_of_none hD np
      have hD2 : H2 D = some (.lst (List.replicate i (.bl true))) := k2 _ _ (s2 _ _ hD) pD
      refine ⟨_, hD2, ?_, Same.put (fun b o e => k2 _ _ (s2 _ _ (s1 _ _ e)) (ne_of_none (s1 _ _ e) np)) nD, ?_⟩
      · rw [List.length_replicate]
        exact Nat.lt_of_lt_of_le (show i < 4 by omega) (by decide)
      · rw [upd_same, rep_add]
    · refine ⟨D, List.replicate m true, rfl, SqL.of ?_, ?_⟩
      · rw [k.2, List.map_replicate]
      · rw [show (List.replicate m true).all id = true from by simp]
        exact q _
end
end SP
namespace SP
open PySem PySem.Spec PyProof.Rows L2
theorem kit_own {K : PySem.W.Frag} {C : Addr} {T : String} {ms : List Value} (hC : PySem.W.isClsIn K C = true) (hT : PySem.W.typeIn K (.ref C) = some (.type "type")) (e : fastBuiltinMro T = some ms) (n : ms.contains (.ref C) = false) : PySem.W.kitOne K (.type T) (.ref C) = some false := by
  have h2' : (PySem.W.clsIn K C).isSome = true := hC
  have e2 : ((PySem.W.clsIn K C).isSome && PySem.W.typeIn K (.ref C) == some (.type "type")) = true := by rw [h2', hT] <;> rfl
  show (if ((Value.type T) == (Value.ref C)) = true then some true else if ((PySem.W.clsIn K C).isSome && PySem.W.typeIn K (.ref C) == some (.type "type")) = true then PySem.W.subIn K (.type T) (.ref C) else none) = some false
  rw [if_neg (show ¬ ((Value.type T) == (Value.ref C)) = true from fun z => by cases (beq_iff_eq.mp z)), if_pos e2]
  exact sub_built e n
theorem not_own {K : PySem.W.Frag} {C : Addr} (hC : PySem.W.isClsIn K C = true) (hT : PySem.W.typeIn K (.ref C) = some (.type "type")) : NotAm K C :=
  ⟨kit_own hC hT mro_int rfl, kit_own hC hT mro_bool rfl, kit_own hC hT mro_str rfl, kit_own hC hT mro_none rfl, kit_own hC hT mro_tuple rfl, kit_own hC hT mro_list rfl⟩
theorem init_mk {K : PySem.W.Frag} {f TD : Addr} {oc kV doc pm cdv ct ocD vD : Value} {od an odD : Option Addr} {sl slD : Array (Option Value)} {nD : Nat}
    (l : K.lookup f = some ⟨oc, od, .func (PySem.W.fnOf "__init__" "Amount.__init__" (defArgs sInit) (defBody sInit) (defScope sInit) (.ref TD) kV doc pm an cdv ct), sl⟩) (c : PySem.W.codeIn K cdv "Amount.__init__" = true) (k : PySem.W.keepIn K (.ref f) = true)
    (lD : K.lookup TD = some ⟨ocD, odD, .seq #[vD] nD, slD⟩) (rD : RelV (.int 1) vD) : FunD K "__init__" "Amount.__init__" (defArgs sInit) (defBody sInit) (defScope sInit) [.int 1] [] f (PySem.W.fnOf "__init__" "Amount.__init__" (defArgs sInit) (defBody sInit) (defScope sInit) (.ref TD) kV doc pm an cdv ct) :=
  ⟨⟨oc, od, _, kV, doc, pm, an, cdv, ct, sl, rfl, l, c, .inr ⟨by simp, TD, _, [vD], nD, rfl, lD, rfl, .cons rD .nil⟩, .inl rfl⟩, k⟩
theorem all_mk {P : Program} {w : World} {K : PySem.W.Frag} {h : Heap} {mg : Str → Option Value} {fa C fA0 fA1 fA2 TD fI fM0 fM1 fM2 fM3 fM4 fM5 fM6 pQ fQ fD0 fD1 fD2 fD3 fD4 fD5 fD6 fD7 fD8 fD9 fD10 fD11 fL : Addr} (X : K.In h) (G : h.Ns mainGlobals mg) (hfa : mg "law" = some (.ref fa))
    {odA0 anA0 : Option Addr} {slA0 : Array (Option Value)} {ocA0 kVA0 dcA0 pmA0 cdA0 ctA0 : Value}
    {odA1 anA1 : Option Addr} {slA1 : Array (Option Value)} {ocA1 kVA1 dcA1 pmA1 cdA1 ctA1 : Value}
    {odA2 anA2 : Option Addr} {slA2 : Array (Option Value)} {ocA2 kVA2 dcA2 pmA2 cdA2 ctA2 : Value}
    {ocD vD : Value} {odD : Option Addr} {slD : Array (Option Value)} {nD : Nat}
    {odI anI : Option Addr} {slI : Array (Option Value)} {ocI kVI dcI pmI cdI ctI : Value}
    {odM0 anM0 : Option Addr} {slM0 : Array (Option Value)} {ocM0 kVM0 dcM0 pmM0 cdM0 ctM0 : Value}
    {odM1 anM1 : Option Addr} {slM1 : Array (Option Value)} {ocM1 kVM1 dcM1 pmM1 cdM1 ctM1 : Value}
    {odM2 anM2 : Option Addr} {slM2 : Array (Option Value)} {ocM2 kVM2 dcM2 pmM2 cdM2 ctM2 : Value}
    {odM3 anM3 : Option Addr} {slM3 : Array (Option Value)} {ocM3 kVM3 dcM3 pmM3 cdM3 ctM3 : Value}
    {odM4 anM4 : Option Addr} {slM4 : Array (Option Value)} {ocM4 kVM4 dcM4 pmM4 cdM4 ctM4 : Value}
    {odM5 anM5 : Option Addr} {slM5 : Array (Option Value)} {ocM5 kVM5 dcM5 pmM5 cdM5 ctM5 : Value}
    {odM6 anM6 : Option Addr} {slM6 : Array (Option Value)} {ocM6 kVM6 dcM6 pmM6 cdM6 ctM6 : Value}
    {rsQ : List Value}
    {odQ anQ : Option Addr} {slQ : Array (Option Value)} {ocQ kVQ dcQ pmQ cdQ ctQ : Value}
    {odD0 anD0 : Option Addr} {slD0 : Array (Option Value)} {ocD0 kVD0 dcD0 pmD0 cdD0 ctD0 : Value}
    {odD1 anD1 : Option Addr} {slD1 : Array (Option Value)} {ocD1 kVD1 dcD1 pmD1 cdD1 ctD1 : Value}
    {odD2 anD2 : Option Addr} {slD2 : Array (Option Value)} {ocD2 kVD2 dcD2 pmD2 cdD2 ctD2 : Value}
    {odD3 anD3 : Option Addr} {slD3 : Array (Option Value)} {ocD3 kVD3 dcD3 pmD3 cdD3 ctD3 : Value}
    {odD4 anD4 : Option Addr} {slD4 : Array (Option Value)} {ocD4 kVD4 dcD4 pmD4 cdD4 ctD4 : Value}
    {odD5 anD5 : Option Addr} {slD5 : Array (Option Value)} {ocD5 kVD5 dcD5 pmD5 cdD5 ctD5 : Value}
    {odD6 anD6 : Option Addr} {slD6 : Array (Option Value)} {ocD6 kVD6 dcD6 pmD6 cdD6 ctD6 : Value}
    {odD7 anD7 : Option Addr} {slD7 : Array (Option Value)} {ocD7 kVD7 dcD7 pmD7 cdD7 ctD7 : Value}
    {odD8 anD8 : Option Addr} {slD8 : Array (Option Value)} {ocD8 kVD8 dcD8 pmD8 cdD8 ctD8 : Value}
    {odD9 anD9 : Option Addr} {slD9 : Array (Option Value)} {ocD9 kVD9 dcD9 pmD9 cdD9 ctD9 : Value}
    {odD10 anD10 : Option Addr} {slD10 : Array (Option Value)} {ocD10 kVD10 dcD10 pmD10 cdD10 ctD10 : Value}
    {odD11 anD11 : Option Addr} {slD11 : Array (Option Value)} {ocD11 kVD11 dcD11 pmD11 cdD11 ctD11 : Value}
    {odL anL : Option Addr} {slL : Array (Option Value)} {ocL kVL dcL pmL cdL ctL : Value}
    (aC : PySem.W.nsIn K mainGlobals "Amount" = some (some (.ref C)))
    (aA0 : PySem.W.nsIn K mainGlobals "is_integer" = some (some (.ref fA0)))
    (lA0 : K.lookup fA0 = some ⟨ocA0, odA0, .func (PySem.W.fnOf "is_integer" "is_integer" (defArgs sIsInt) (defBody sIsInt) (defScope sIsInt) .none kVA0 dcA0 pmA0 anA0 cdA0 ctA0), slA0⟩)
    (cA0 : PySem.W.codeIn K cdA0 "is_integer" = true)
    (kA0 : PySem.W.keepIn K (.ref fA0) = true)
    (aA1 : PySem.W.nsIn K mainGlobals "common_divisor" = some (some (.ref fA1)))
    (lA1 : K.lookup fA1 = some ⟨ocA1, odA1, .func (PySem.W.fnOf "common_divisor" "common_divisor" (defArgs sCD) (defBody sCD) (defScope sCD) .none kVA1 dcA1 pmA1 anA1 cdA1 ctA1), slA1⟩)
    (cA1 : PySem.W.codeIn K cdA1 "common_divisor" = true)
    (kA1 : PySem.W.keepIn K (.ref fA1) = true)
    (aA2 : PySem.W.nsIn K mainGlobals "place_of" = some (some (.ref fA2)))
    (lA2 : K.lookup fA2 = some ⟨ocA2, odA2, .func (PySem.W.fnOf "place_of" "place_of" (defArgs sPl) (defBody sPl) (defScope sPl) .none kVA2 dcA2 pmA2 anA2 cdA2 ctA2), slA2⟩)
    (cA2 : PySem.W.codeIn K cdA2 "place_of" = true)
    (kA2 : PySem.W.keepIn K (.ref fA2) = true)
    (aI : PySem.W.findIn K (.ref C) "__init__" = some (some (.ref fI)))
    (lI : K.lookup fI = some ⟨ocI, odI, .func (PySem.W.fnOf "__init__" "Amount.__init__" (defArgs sInit) (defBody sInit) (defScope sInit) (.ref TD) kVI dcI pmI anI cdI ctI), slI⟩)
    (cI : PySem.W.codeIn K cdI "Amount.__init__" = true)
    (kI : PySem.W.keepIn K (.ref fI) = true)
    (lD : K.lookup TD = some ⟨ocD, odD, .seq #[vD] nD, slD⟩)
    (rD : RelV (.int 1) vD)
    (iI : PySem.W.isFn K (.ref fI) = true)
    (mk : PySem.W.makesIn K C = true)
    (kc : PySem.W.keepIn K (.ref C) = true)
    (pg : PySem.W.plainGet K C Str.empty = true)
    (hd : PySem.W.hasDictIn K C = true)
    (po : PySem.W.plainOver K C = true)
    (sa : PySem.W.findIn K (.ref C) "__setattr__" = some (some (.builtin "object.__setattr__")))
    (ca : PySem.W.findIn K (.ref C) "__class__" = some (some (.builtin "object.__class__")))
    (cn : PySem.W.specialIn K (.builtin "object.__class__") "__get__" = some (some (.builtin "getset_descriptor.__get__")))
    (ck : PySem.W.takesIn K (.builtin "object.__class__") = some true)
    (cm : PySem.W.mroIn K C (.type "object") = some true)
    (ne : PySem.W.findIn K (.ref C) "__ne__" = some (some (.builtin "object.__ne__")))
    (tu : PySem.W.subIn K (.ref C) (.type "tuple") = some false)
    (li : PySem.W.subIn K (.ref C) (.type "list") = some false)
    (ic : PySem.W.isClsIn K C = true)
    (ty : PySem.W.typeIn K (.ref C) = some (.type "type"))
    (nT : PySem.W.findIn K (.ref C) "own_top" = some none)
    (nB : PySem.W.findIn K (.ref C) "own_bottom" = some none)
    (nP : PySem.W.findIn K (.ref C) "own_place" = some none)
    (z_isinstance : PySem.W.nsIn K mainGlobals "isinstance" = some none)
    (z_int : PySem.W.nsIn K mainGlobals "int" = some none)
    (z_bool : PySem.W.nsIn K mainGlobals "bool" = some none)
    (z_abs : PySem.W.nsIn K mainGlobals "abs" = some none)
    (aM0 : PySem.W.findIn K (.ref C) "__eq__" = some (some (.ref fM0)))
    (lM0 : K.lookup fM0 = some ⟨ocM0, odM0, .func (PySem.W.fnOf "__eq__" "Amount.__eq__" (defArgs sMEq) (defBody sMEq) (defScope sMEq) .none kVM0 dcM0 pmM0 anM0 cdM0 ctM0), slM0⟩)
    (cM0 : PySem.W.codeIn K cdM0 "Amount.__eq__" = true)
    (kM0 : PySem.W.keepIn K (.ref fM0) = true)
    (iM0 : PySem.W.isFn K (.ref fM0) = true)
    (aM1 : PySem.W.findIn K (.ref C) "__lt__" = some (some (.ref fM1)))
    (lM1 : K.lookup fM1 = some ⟨ocM1, odM1, .func (PySem.W.fnOf "__lt__" "Amount.__lt__" (defArgs sMLt) (defBody sMLt) (defScope sMLt) .none kVM1 dcM1 pmM1 anM1 cdM1 ctM1), slM1⟩)
    (cM1 : PySem.W.codeIn K cdM1 "Amount.__lt__" = true)
    (kM1 : PySem.W.keepIn K (.ref fM1) = true)
    (iM1 : PySem.W.isFn K (.ref fM1) = true)
    (aM2 : PySem.W.findIn K (.ref C) "__le__" = some (some (.ref fM2)))
    (lM2 : K.lookup fM2 = some ⟨ocM2, odM2, .func (PySem.W.fnOf "__le__" "Amount.__le__" (defArgs sMLe) (defBody sMLe) (defScope sMLe) .none kVM2 dcM2 pmM2 anM2 cdM2 ctM2), slM2⟩)
    (cM2 : PySem.W.codeIn K cdM2 "Amount.__le__" = true)
    (kM2 : PySem.W.keepIn K (.ref fM2) = true)
    (iM2 : PySem.W.isFn K (.ref fM2) = true)
    (aM3 : PySem.W.findIn K (.ref C) "__gt__" = some (some (.ref fM3)))
    (lM3 : K.lookup fM3 = some ⟨ocM3, odM3, .func (PySem.W.fnOf "__gt__" "Amount.__gt__" (defArgs sMGt) (defBody sMGt) (defScope sMGt) .none kVM3 dcM3 pmM3 anM3 cdM3 ctM3), slM3⟩)
    (cM3 : PySem.W.codeIn K cdM3 "Amount.__gt__" = true)
    (kM3 : PySem.W.keepIn K (.ref fM3) = true)
    (iM3 : PySem.W.isFn K (.ref fM3) = true)
    (aM4 : PySem.W.findIn K (.ref C) "__ge__" = some (some (.ref fM4)))
    (lM4 : K.lookup fM4 = some ⟨ocM4, odM4, .func (PySem.W.fnOf "__ge__" "Amount.__ge__" (defArgs sMGe) (defBody sMGe) (defScope sMGe) .none kVM4 dcM4 pmM4 anM4 cdM4 ctM4), slM4⟩)
    (cM4 : PySem.W.codeIn K cdM4 "Amount.__ge__" = true)
    (kM4 : PySem.W.keepIn K (.ref fM4) = true)
    (iM4 : PySem.W.isFn K (.ref fM4) = true)
    (aM5 : PySem.W.findIn K (.ref C) "__str__" = some (some (.ref fM5)))
    (lM5 : K.lookup fM5 = some ⟨ocM5, odM5, .func (PySem.W.fnOf "__str__" "Amount.__str__" (defArgs sMStr) (defBody sMStr) (defScope sMStr) .none kVM5 dcM5 pmM5 anM5 cdM5 ctM5), slM5⟩)
    (cM5 : PySem.W.codeIn K cdM5 "Amount.__str__" = true)
    (kM5 : PySem.W.keepIn K (.ref fM5) = true)
    (iM5 : PySem.W.isFn K (.ref fM5) = true)
    (aM6 : PySem.W.findIn K (.ref C) "__repr__" = some (some (.ref fM6)))
    (lM6 : K.lookup fM6 = some ⟨ocM6, odM6, .func (PySem.W.fnOf "__repr__" "Amount.__repr__" (defArgs sMRepr) (defBody sMRepr) (defScope sMRepr) .none kVM6 dcM6 pmM6 anM6 cdM6 ctM6), slM6⟩)
    (cM6 : PySem.W.codeIn K cdM6 "Amount.__repr__" = true)
    (kM6 : PySem.W.keepIn K (.ref fM6) = true)
    (iM6 : PySem.W.isFn K (.ref fM6) = true)
    (qQ : PySem.W.findIn K (.ref C) "top" = some (some (.ref pQ)))
    (gQ : PySem.W.specialIn K (.ref pQ) "__get__" = some (some (.builtin "property.__get__")))
    (tQ : PySem.W.takesIn K (.ref pQ) = some true)
    (aQ : PySem.W.recIn K pQ "property" = some (.ref fQ :: rsQ))
    (lQ : K.lookup fQ = some ⟨ocQ, odQ, .func (PySem.W.fnOf "top" "Amount.top" (defArgs sMTop) (defBody sMTop) (defScope sMTop) .none kVQ dcQ pmQ anQ cdQ ctQ), slQ⟩)
    (cQ : PySem.W.codeIn K cdQ "Amount.top" = true)
    (kQ : PySem.W.keepIn K (.ref fQ) = true)
    (z_str : PySem.W.nsIn K mainGlobals "str" = some none)
    (aD0 : PySem.W.nsIn K mainGlobals "_law_pot" = some (some (.ref fD0)))
    (lD0 : K.lookup fD0 = some ⟨ocD0, odD0, .func (PySem.W.fnOf "_law_pot" "_law_pot" (defArgs sPot) (defBody sPot) (defScope sPot) .none kVD0 dcD0 pmD0 anD0 cdD0 ctD0), slD0⟩)
    (cD0 : PySem.W.codeIn K cdD0 "_law_pot" = true)
    (kD0 : PySem.W.keepIn K (.ref fD0) = true)
    (aD1 : PySem.W.nsIn K mainGlobals "_law_draw" = some (some (.ref fD1)))
    (lD1 : K.lookup fD1 = some ⟨ocD1, odD1, .func (PySem.W.fnOf "_law_draw" "_law_draw" (defArgs sDraw) (defBody sDraw) (defScope sDraw) .none kVD1 dcD1 pmD1 anD1 cdD1 ctD1), slD1⟩)
    (cD1 : PySem.W.codeIn K cdD1 "_law_draw" = true)
    (kD1 : PySem.W.keepIn K (.ref fD1) = true)
    (aD2 : PySem.W.nsIn K mainGlobals "_law_choice" = some (some (.ref fD2)))
    (lD2 : K.lookup fD2 = some ⟨ocD2, odD2, .func (PySem.W.fnOf "_law_choice" "_law_choice" (defArgs sChoice) (defBody sChoice) (defScope sChoice) .none kVD2 dcD2 pmD2 anD2 cdD2 ctD2), slD2⟩)
    (cD2 : PySem.W.codeIn K cdD2 "_law_choice" = true)
    (kD2 : PySem.W.keepIn K (.ref fD2) = true)
    (aD3 : PySem.W.nsIn K mainGlobals "_law_number" = some (some (.ref fD3)))
    (lD3 : K.lookup fD3 = some ⟨ocD3, odD3, .func (PySem.W.fnOf "_law_number" "_law_number" (defArgs sNumber) (defBody sNumber) (defScope sNumber) .none kVD3 dcD3 pmD3 anD3 cdD3 ctD3), slD3⟩)
    (cD3 : PySem.W.codeIn K cdD3 "_law_number" = true)
    (kD3 : PySem.W.keepIn K (.ref fD3) = true)
    (aD4 : PySem.W.nsIn K mainGlobals "_law_drawn" = some (some (.ref fD4)))
    (lD4 : K.lookup fD4 = some ⟨ocD4, odD4, .func (PySem.W.fnOf "_law_drawn" "_law_drawn" (defArgs sDrawn) (defBody sDrawn) (defScope sDrawn) .none kVD4 dcD4 pmD4 anD4 cdD4 ctD4), slD4⟩)
    (cD4 : PySem.W.codeIn K cdD4 "_law_drawn" = true)
    (kD4 : PySem.W.keepIn K (.ref fD4) = true)
    (aD5 : PySem.W.nsIn K mainGlobals "_law_divided" = some (some (.ref fD5)))
    (lD5 : K.lookup fD5 = some ⟨ocD5, odD5, .func (PySem.W.fnOf "_law_divided" "_law_divided" (defArgs sDivided) (defBody sDivided) (defScope sDivided) .none kVD5 dcD5 pmD5 anD5 cdD5 ctD5), slD5⟩)
    (cD5 : PySem.W.codeIn K cdD5 "_law_divided" = true)
    (kD5 : PySem.W.keepIn K (.ref fD5) = true)
    (aD6 : PySem.W.nsIn K mainGlobals "_law_near" = some (some (.ref fD6)))
    (lD6 : K.lookup fD6 = some ⟨ocD6, odD6, .func (PySem.W.fnOf "_law_near" "_law_near" (defArgs sNear) (defBody sNear) (defScope sNear) .none kVD6 dcD6 pmD6 anD6 cdD6 ctD6), slD6⟩)
    (cD6 : PySem.W.codeIn K cdD6 "_law_near" = true)
    (kD6 : PySem.W.keepIn K (.ref fD6) = true)
    (aD7 : PySem.W.nsIn K mainGlobals "_law_fractions" = some (some (.ref fD7)))
    (lD7 : K.lookup fD7 = some ⟨ocD7, odD7, .func (PySem.W.fnOf "_law_fractions" "_law_fractions" (defArgs sFractions) (defBody sFractions) (defScope sFractions) .none kVD7 dcD7 pmD7 anD7 cdD7 ctD7), slD7⟩)
    (cD7 : PySem.W.codeIn K cdD7 "_law_fractions" = true)
    (kD7 : PySem.W.keepIn K (.ref fD7) = true)
    (aD8 : PySem.W.nsIn K mainGlobals "_law_sign" = some (some (.ref fD8)))
    (lD8 : K.lookup fD8 = some ⟨ocD8, odD8, .func (PySem.W.fnOf "_law_sign" "_law_sign" (defArgs sSign) (defBody sSign) (defScope sSign) .none kVD8 dcD8 pmD8 anD8 cdD8 ctD8), slD8⟩)
    (cD8 : PySem.W.codeIn K cdD8 "_law_sign" = true)
    (kD8 : PySem.W.keepIn K (.ref fD8) = true)
    (aD9 : PySem.W.nsIn K mainGlobals "_law_pair_right" = some (some (.ref fD9)))
    (lD9 : K.lookup fD9 = some ⟨ocD9, odD9, .func (PySem.W.fnOf "_law_pair_right" "_law_pair_right" (defArgs sPair) (defBody sPair) (defScope sPair) .none kVD9 dcD9 pmD9 anD9 cdD9 ctD9), slD9⟩)
    (cD9 : PySem.W.codeIn K cdD9 "_law_pair_right" = true)
    (kD9 : PySem.W.keepIn K (.ref fD9) = true)
    (aD10 : PySem.W.nsIn K mainGlobals "_law_alone_right" = some (some (.ref fD10)))
    (lD10 : K.lookup fD10 = some ⟨ocD10, odD10, .func (PySem.W.fnOf "_law_alone_right" "_law_alone_right" (defArgs sAlone) (defBody sAlone) (defScope sAlone) .none kVD10 dcD10 pmD10 anD10 cdD10 ctD10), slD10⟩)
    (cD10 : PySem.W.codeIn K cdD10 "_law_alone_right" = true)
    (kD10 : PySem.W.keepIn K (.ref fD10) = true)
    (aD11 : PySem.W.nsIn K mainGlobals "_law_right" = some (some (.ref fD11)))
    (lD11 : K.lookup fD11 = some ⟨ocD11, odD11, .func (PySem.W.fnOf "_law_right" "_law_right" (defArgs sRight) (defBody sRight) (defScope sRight) .none kVD11 dcD11 pmD11 anD11 cdD11 ctD11), slD11⟩)
    (cD11 : PySem.W.codeIn K cdD11 "_law_right" = true)
    (kD11 : PySem.W.keepIn K (.ref fD11) = true)
    (aL : PySem.W.nsIn K mainGlobals "law" = some (some (.ref fL)))
    (lL : K.lookup fL = some ⟨ocL, odL, .func (PySem.W.fnOf "law" "law" (defArgs sLaw) (defBody sLaw) (defScope sLaw) .none kVL dcL pmL anL cdL ctL), slL⟩)
    (cL : PySem.W.codeIn K cdL "law" = true)
    (kL : PySem.W.keepIn K (.ref fL) = true)
    (z_NotImplemented : PySem.W.nsIn K mainGlobals "NotImplemented" = some none)
    (z_max : PySem.W.nsIn K mainGlobals "max" = some none)
    (z_min : PySem.W.nsIn K mainGlobals "min" = some none)
    (z_len : PySem.W.nsIn K mainGlobals "len" = some none)
    (z_divmod : PySem.W.nsIn K mainGlobals "divmod" = some none)
    (z_repr : PySem.W.nsIn K mainGlobals "repr" = some none)
    (z_all : PySem.W.nsIn K mainGlobals "all" = some none)
    (z_enumerate : PySem.W.nsIn K mainGlobals "enumerate" = some none)
    (z_range : PySem.W.nsIn K mainGlobals "range" = some none) :
    ∃ fd : FuncData, (∀ (s : Shared) (v : Value), BindsTo s fd ⟨[v], []⟩ [("_law_script", v)]) ∧ ∀ base : Heap, K.In base → base.Ns mainGlobals mg → FnG P w K mg base CX0 6 fa fd ["_law_script"] (spLaw K) := by
  have e := hfa.symm.trans (PySem.W.mg_of X G aL)
  cases e
  have FA0 := fun_mk (st := sIsInt) lA0 cA0 kA0
  have bA0 := FA0.binds (ps := ["value"]) fun _ _ _ _ _ _ us hl => match us, hl with | [_], _ => rfl
  have TA0 : Top K mg "is_integer" sIsInt ["value"] := ⟨_, _, PySem.W.mg_of X G aA0, FA0, bA0⟩
  have FA1 := fun_mk (st := sCD) lA1 cA1 kA1
  have bA1 := FA1.binds (ps := ["one", "other"]) fun _ _ _ _ _ _ us hl => match us, hl with | [_, _], _ => rfl
  have TA1 : Top K mg "common_divisor" sCD ["one", "other"] := ⟨_, _, PySem.W.mg_of X G aA1, FA1, bA1⟩
  have FA2 := fun_mk (st := sPl) lA2 cA2 kA2
  have bA2 := FA2.binds (ps := ["top", "bottom"]) fun _ _ _ _ _ _ us hl => match us, hl with | [_, _], _ => rfl
  have TA2 : Top K mg "place_of" sPl ["top", "bottom"] := ⟨_, _, PySem.W.mg_of X G aA2, FA2, bA2⟩
  have am : AmTxt K mg C := { b_isinstance := PySem.W.mg_none_of X G z_isinstance, b_int := PySem.W.mg_none_of X G z_int, b_bool := PySem.W.mg_none_of X G z_bool, b_abs := PySem.W.mg_none_of X G z_abs, tII := TA0, tCD := TA1, tPl := TA2, gC := PySem.W.mg_of X G aC, cl := ⟨pg, hd, po, sa⟩, ca := ca, cn := cn, ck := ck, cm := cm, ne := ne, fg := ⟨tu, li⟩, na := not_own ic ty, nT := nT, nB := nB, nP := nP, mkC := ⟨fI, _, ⟨mk, aI, iI, kc⟩, init_mk lI cI kI lD rD⟩ }
  have FM0 := fun_mk (st := sMEq) lM0 cM0 kM0
  have bM0 := FM0.binds (ps := ["self", "other"]) fun _ _ _ _ _ _ us hl => match us, hl with | [_, _], _ => rfl
  have TM0 : MethT K C "__eq__" "Amount.__eq__" sMEq ["self", "other"] := ⟨_, _, aM0, iM0, FM0, bM0⟩
  have FM1 := fun_mk (st := sMLt) lM1 cM1 kM1
  have bM1 := FM1.binds (ps := ["self", "other"]) fun _ _ _ _ _ _ us hl => match us, hl with | [_, _], _ => rfl
  have TM1 : MethT K C "__lt__" "Amount.__lt__" sMLt ["self", "other"] := ⟨_, _, aM1, iM1, FM1, bM1⟩
  have FM2 := fun_mk (st := sMLe) lM2 cM2 kM2
  have bM2 := FM2.binds (ps := ["self", "other"]) fun _ _ _ _ _ _ us hl => match us, hl with | [_, _], _ => rfl
  have TM2 : MethT K C "__le__" "Amount.__le__" sMLe ["self", "other"] := ⟨_, _, aM2, iM2, FM2, bM2⟩
  have FM3 := fun_mk (st := sMGt) lM3 cM3 kM3
  have bM3 := FM3.binds (ps := ["self", "other"]) fun _ _ _ _ _ _ us hl => match us, hl with | [_, _], _ => rfl
  have TM3 : MethT K C "__gt__" "Amount.__gt__" sMGt ["self", "other"] := ⟨_, _, aM3, iM3, FM3, bM3⟩
  have FM4 := fun_mk (st := sMGe) lM4 cM4 kM4
  have bM4 := FM4.binds (ps := ["self", "other"]) fun _ _ _ _ _ _ us hl => match us, hl with | [_, _], _ => rfl
  have TM4 : MethT K C "__ge__" "Amount.__ge__" sMGe ["self", "other"] := ⟨_, _, aM4, iM4, FM4, bM4⟩
  have FM5 := fun_mk (st := sMStr) lM5 cM5 kM5
  have bM5 := FM5.binds (ps := ["self"]) fun _ _ _ _ _ _ us hl => match us, hl with | [_], _ => rfl
  have TM5 : MethT K C "__str__" "Amount.__str__" sMStr ["self"] := ⟨_, _, aM5, iM5, FM5, bM5⟩
  have FM6 := fun_mk (st := sMRepr) lM6 cM6 kM6
  have bM6 := FM6.binds (ps := ["self"]) fun _ _ _ _ _ _ us hl => match us, hl with | [_], _ => rfl
  have TM6 : MethT K C "__repr__" "Amount.__repr__" sMRepr ["self"] := ⟨_, _, aM6, iM6, FM6, bM6⟩
  have FQ := fun_mk (st := sMTop) lQ cQ kQ
  have bQ := FQ.binds (ps := ["self"]) fun _ _ _ _ _ _ us hl => match us, hl with | [_], _ => rfl
  have TQ : PropT K C "top" "Amount.top" sMTop := ⟨_, _, _, ⟨qQ, gQ, tQ, _, aQ⟩, FQ, bQ⟩
  have cmp : AmCmp K mg C := { eq := TM0, lt := TM1, le := TM2, gt := TM3, ge := TM4, st := TM5, rp := TM6, pt := TQ, b_str := PySem.W.mg_none_of X G z_str }
  have FD0 := fun_mk (st := sPot) lD0 cD0 kD0
  have bD0 := FD0.binds (ps := ["_law_script", "_law_k"]) fun _ _ _ _ _ _ us hl => match us, hl with | [_, _], _ => rfl
  have TD0 : Top K mg "_law_pot" sPot ["_law_script", "_law_k"] := ⟨_, _, PySem.W.mg_of X G aD0, FD0, bD0⟩
  have FD1 := fun_mk (st := sDraw) lD1 cD1 kD1
  have bD1 := FD1.binds (ps := ["_law_pot_here", "_law_size"]) fun _ _ _ _ _ _ us hl => match us, hl with | [_, _], _ => rfl
  have TD1 : Top K mg "_law_draw" sDraw ["_law_pot_here", "_law_size"] := ⟨_, _, PySem.W.mg_of X G aD1, FD1, bD1⟩
  have FD2 := fun_mk (st := sChoice) lD2 cD2 kD2
  have bD2 := FD2.binds (ps := ["_law_pot_here", "_law_some"]) fun _ _ _ _ _ _ us hl => match us, hl with | [_, _], _ => rfl
  have TD2 : Top K mg "_law_choice" sChoice ["_law_pot_here", "_law_some"] := ⟨_, _, PySem.W.mg_of X G aD2, FD2, bD2⟩
  have FD3 := fun_mk (st := sNumber) lD3 cD3 kD3
  have bD3 := FD3.binds (ps := ["_law_pot_here"]) fun _ _ _ _ _ _ us hl => match us, hl with | [_], _ => rfl
  have TD3 : Top K mg "_law_number" sNumber ["_law_pot_here"] := ⟨_, _, PySem.W.mg_of X G aD3, FD3, bD3⟩
  have FD4 := fun_mk (st := sDrawn) lD4 cD4 kD4
  have bD4 := FD4.binds (ps := ["_law_pot_here"]) fun _ _ _ _ _ _ us hl => match us, hl with | [_], _ => rfl
  have TD4 : Top K mg "_law_drawn" sDrawn ["_law_pot_here"] := ⟨_, _, PySem.W.mg_of X G aD4, FD4, bD4⟩
  have FD5 := fun_mk (st := sDivided) lD5 cD5 kD5
  have bD5 := FD5.binds (ps := ["_law_one", "_law_other"]) fun _ _ _ _ _ _ us hl => match us, hl with | [_, _], _ => rfl
  have TD5 : Top K mg "_law_divided" sDivided ["_law_one", "_law_other"] := ⟨_, _, PySem.W.mg_of X G aD5, FD5, bD5⟩
  have FD6 := fun_mk (st := sNear) lD6 cD6 kD6
  have bD6 := FD6.binds (ps := ["_law_top", "_law_bottom", "_law_sign_here"]) fun _ _ _ _ _ _ us hl => match us, hl with | [_, _, _], _ => rfl
  have TD6 : Top K mg "_law_near" sNear ["_law_top", "_law_bottom", "_law_sign_here"] := ⟨_, _, PySem.W.mg_of X G aD6, FD6, bD6⟩
  have FD7 := fun_mk (st := sFractions) lD7 cD7 kD7
  have bD7 := FD7.binds (ps := ["_law_pot_here"]) fun _ _ _ _ _ _ us hl => match us, hl with | [_], _ => rfl
  have TD7 : Top K mg "_law_fractions" sFractions ["_law_pot_here"] := ⟨_, _, PySem.W.mg_of X G aD7, FD7, bD7⟩
  have FD8 := fun_mk (st := sSign) lD8 cD8 kD8
  have bD8 := FD8.binds (ps := ["_law_one", "_law_other"]) fun _ _ _ _ _ _ us hl => match us, hl with | [_, _], _ => rfl
  have TD8 : Top K mg "_law_sign" sSign ["_law_one", "_law_other"] := ⟨_, _, PySem.W.mg_of X G aD8, FD8, bD8⟩
  have FD9 := fun_mk (st := sPair) lD9 cD9 kD9
  have bD9 := FD9.binds (ps := ["_law_one", "_law_other", "_law_sign_here"]) fun _ _ _ _ _ _ us hl => match us, hl with | [_, _, _], _ => rfl
  have TD9 : Top K mg "_law_pair_right" sPair ["_law_one", "_law_other", "_law_sign_here"] := ⟨_, _, PySem.W.mg_of X G aD9, FD9, bD9⟩
  have FD10 := fun_mk (st := sAlone) lD10 cD10 kD10
  have bD10 := FD10.binds (ps := ["_law_made", "_law_fraction"]) fun _ _ _ _ _ _ us hl => match us, hl with | [_, _], _ => rfl
  have TD10 : Top K mg "_law_alone_right" sAlone ["_law_made", "_law_fraction"] := ⟨_, _, PySem.W.mg_of X G aD10, FD10, bD10⟩
  have FD11 := fun_mk (st := sRight) lD11 cD11 kD11
  have bD11 := FD11.binds (ps := ["_law_pot_here"]) fun _ _ _ _ _ _ us hl => match us, hl with | [_], _ => rfl
  have TD11 : Top K mg "_law_right" sRight ["_law_pot_here"] := ⟨_, _, PySem.W.mg_of X G aD11, FD11, bD11⟩
  have FL := fun_mk (st := sLaw) lL cL kL
  have bL := FL.binds (ps := ["_law_script"]) fun _ _ _ _ _ _ us hl => match us, hl with | [_], _ => rfl
  have TL : Top K mg "law" sLaw ["_law_script"] := ⟨_, _, PySem.W.mg_of X G aL, FL, bL⟩
  have T : LTxt K mg C := { toAmTxt := am, cmp := cmp, b_NotImplemented := PySem.W.mg_none_of X G z_NotImplemented, b_max := PySem.W.mg_none_of X G z_max, b_min := PySem.W.mg_none_of X G z_min, b_len := PySem.W.mg_none_of X G z_len, b_divmod := PySem.W.mg_none_of X G z_divmod, b_repr := PySem.W.mg_none_of X G z_repr, b_all := PySem.W.mg_none_of X G z_all, b_enumerate := PySem.W.mg_none_of X G z_enumerate, b_range := PySem.W.mg_none_of X G z_range, tPot := TD0, tDraw := TD1, tChoice := TD2, tNumber := TD3, tDrawn := TD4, tDivided := TD5, tNear := TD6, tFractions := TD7, tSign := TD8, tPair := TD9, tAlone := TD10, tRight := TD11 }
  exact ⟨_, fun s v => .of_eq rfl, fun base _ _ => ok_law T FL⟩
end SP
open PySem PySem.W PyProof.Rows
set_option maxHeartbeats 0
open_top hd for PySem.Challenge.rw_surepipes_k12_amounts_compared
open PySem PySem.W PyProof.Rows
set_option maxRecDepth 100000 in
set_option maxHeartbeats 0 in
theorem PySem.Challenge.cw_surepipes_k12_amounts_compared_holds : PySem.Challenge.rw_surepipes_k12_amounts_compared.Holds := by
  refine hd ?_
  k_fill
  refine SP.walk_ofG (l := PySem.Challenge.rw_surepipes_k12_amounts_compared) (n := 63) (k := 6) (x := "_law_script") (CX := fun _ => L2.CX0) (sp := fun w => SP.spLaw _) rfl (by decide) rfl ⟨rfl, by decide, by decide⟩ (fun w h Y => PySem.W.kIn_of Y) ?F (fun _ _ a ns hl _ hS => ⟨a, ns, rfl, hS, hl, fun _ => rfl⟩) fun _ _ _ _ _ z => z
  case F =>
    intro w mg fa h KX G hmg
    refine' SP.all_mk KX G hmg ?aC ?aA0 ?lA0 ?cA0 ?kA0 ?aA1 ?lA1 ?cA1 ?kA1 ?aA2 ?lA2 ?cA2 ?kA2 ?aI ?lI ?cI ?kI ?lD ?rD ?iI ?mk ?kc ?pg ?hd ?po ?sa ?ca ?cn ?ck ?cm ?ne ?tu ?li ?ic ?ty ?nT ?nB ?nP ?z_isinstance ?z_int ?z_bool ?z_abs ?aM0 ?lM0 ?cM0 ?kM0 ?iM0 ?aM1 ?lM1 ?cM1 ?kM1 ?iM1 ?aM2 ?lM2 ?cM2 ?kM2 ?iM2 ?aM3 ?lM3 ?cM3 ?kM3 ?iM3 ?aM4 ?lM4 ?cM4 ?kM4 ?iM4 ?aM5 ?lM5 ?cM5 ?kM5 ?iM5 ?aM6 ?lM6 ?cM6 ?kM6 ?iM6 ?qQ ?gQ ?tQ ?aQ ?lQ ?cQ ?kQ ?z_str ?aD0 ?lD0 ?cD0 ?kD0 ?aD1 ?lD1 ?cD1 ?kD1 ?aD2 ?lD2 ?cD2 ?kD2 ?aD3 ?lD3 ?cD3 ?kD3 ?aD4 ?lD4 ?cD4 ?kD4 ?aD5 ?lD5 ?cD5 ?kD5 ?aD6 ?lD6 ?cD6 ?kD6 ?aD7 ?lD7 ?cD7 ?kD7 ?aD8 ?lD8 ?cD8 ?kD8 ?aD9 ?lD9 ?cD9 ?kD9 ?aD10 ?lD10 ?cD10 ?kD10 ?aD11 ?lD11 ?cD11 ?kD11 ?aL ?lL ?cL ?kL ?z_NotImplemented ?z_max ?z_min ?z_len ?z_divmod ?z_repr ?z_all ?z_enumerate ?z_range
    (case aC => k_is)
    (case aA0 => k_is)
    (case lA0 => k_is)
    (case cA0 => k_is)
    (case kA0 => k_is)
    (case aA1 => k_is)
    (case lA1 => k_is)
    (case cA1 => k_is)
    (case kA1 => k_is)
    (case aA2 => k_is)
    (case lA2 => k_is)
    (case cA2 => k_is)
    (case kA2 => k_is)
    (case aI => k_is)
    (case lI => k_is)
    (case cI => k_is)
    (case kI => k_is)
    (case lD => k_is)
    (case rD => exact ⟨_, rfl⟩)
    (case iI => k_is)
    (case mk => k_is)
    (case kc => k_is)
    (case pg => k_is)
    (case hd => k_is)
    (case po => k_is)
    (case sa => k_is)
    (case ca => k_is)
    (case cn => k_is)
    (case ck => k_is)
    (case cm => k_is)
    (case ne => k_is)
    (case tu => k_is)
    (case li => k_is)
    (case ic => k_is)
    (case ty => k_is)
    (case nT => k_is)
    (case nB => k_is)
    (case nP => k_is)
    (case z_isinstance => k_is)
    (case z_int => k_is)
    (case z_bool => k_is)
    (case z_abs => k_is)
    (case aM0 => k_is)
    (case lM0 => k_is)
    (case cM0 => k_is)
    (case kM0 => k_is)
    (case iM0 => k_is)
    (case aM1 => k_is)
    (case lM1 => k_is)
    (case cM1 => k_is)
    (case kM1 => k_is)
    (case iM1 => k_is)
    (case aM2 => k_is)
    (case lM2 => k_is)
    (case cM2 => k_is)
    (case kM2 => k_is)
    (case iM2 => k_is)
    (case aM3 => k_is)
    (case lM3 => k_is)
    (case cM3 => k_is)
    (case kM3 => k_is)
    (case iM3 => k_is)
    (case aM4 => k_is)
    (case lM4 => k_is)
    (case cM4 => k_is)
    (case kM4 => k_is)
    (case iM4 => k_is)
    (case aM5 => k_is)
    (case lM5 => k_is)
    (case cM5 => k_is)
    (case kM5 => k_is)
    (case iM5 => k_is)
    (case aM6 => k_is)
    (case lM6 => k_is)
    (case cM6 => k_is)
    (case kM6 => k_is)
    (case iM6 => k_is)
    (case qQ => k_is)
    (case gQ => k_is)
    (case tQ => k_is)
    (case aQ => k_is)
    (case lQ => k_is)
    (case cQ => k_is)
    (case kQ => k_is)
    (case z_str => k_is)
    (case aD0 => k_is)
    (case lD0 => k_is)
    (case cD0 => k_is)
    (case kD0 => k_is)
    (case aD1 => k_is)
    (case lD1 => k_is)
    (case cD1 => k_is)
    (case kD1 => k_is)
    (case aD2 => k_is)
    (case lD2 => k_is)
    (case cD2 => k_is)
    (case kD2 => k_is)
    (case aD3 => k_is)
    (case lD3 => k_is)
    (case cD3 => k_is)
    (case kD3 => k_is)
    (case aD4 => k_is)
    (case lD4 => k_is)
    (case cD4 => k_is)
    (case kD4 => k_is)
    (case aD5 => k_is)
    (case lD5 => k_is)
    (case cD5 => k_is)
    (case kD5 => k_is)
    (case aD6 => k_is)
    (case lD6 => k_is)
    (case cD6 => k_is)
    (case kD6 => k_is)
    (case aD7 => k_is)
    (case lD7 => k_is)
    (case cD7 => k_is)
    (case kD7 => k_is)
    (case aD8 => k_is)
    (case lD8 => k_is)
    (case cD8 => k_is)
    (case kD8 => k_is)
    (case aD9 => k_is)
    (case lD9 => k_is)
    (case cD9 => k_is)
    (case kD9 => k_is)
    (case aD10 => k_is)
    (case lD10 => k_is)
    (case cD10 => k_is)
    (case kD10 => k_is)
    (case aD11 => k_is)
    (case lD11 => k_is)
    (case cD11 => k_is)
    (case kD11 => k_is)
    (case aL => k_is)
    (case lL => k_is)
    (case cL => k_is)
    (case kL => k_is)
    (case z_NotImplemented => k_is)
    (case z_max => k_is)
    (case z_min => k_is)
    (case z_len => k_is)
    (case z_divmod => k_is)
    (case z_repr => k_is)
    (case z_all => k_is)
    (case z_enumerate => k_is)
    (case z_range => k_is)
