import PyProof.Rows.All
import Wide.All
import OpenK.AllK
import Wide.FinOn
import HandS.ForMost
import HandS.IsInst
import HandS.Wide
import HandS.Style
import HandS.TupLe
import HandS.TupAny
import HandS.Property
import HandS.Evl
import HandS.Defaults
import HandS.FStr
import HandS.ClsMeth
import HandS.MakeKw
import HandS.More
import HandS.OwnEq
import HandS.Walk
import HandS.Small
import HandS.CallLocal
import HandS.Star
import HandS.MakeKwOnly
import KE.KExcSuper
import KE.KSuper
import HandS.ExcInit
import PyProof.SumWalkG
import HandS.WideBits
import HandS.RaiseMore
import HandS.Lambda
import HandS.EndTab
import HandS.TryMany
import HandS.ExcField
import KE.KExcIs
import HandS.HotCalls
import HandS.WordsExc
import KE.KTryMore
import KE.KNestM
import PySem.Challenge.RW_surepipes_k14_amounts_refused
set_option Elab.async false
set_option linter.all false
set_option maxRecDepth 100000
set_option maxHeartbeats 4000000
open PySem PySem.W PyProof.Rows
set_option maxHeartbeats 0
open_top hd for PySem.Challenge.rw_surepipes_k14_amounts_refused
/-! Own rules over the hand layer: defs that run while no repr is running, repr of data, comparisons of own instances. -/
namespace SP
open PySem PySem.Spec PyProof.Rows L2

/-! ### a def's promise where no repr is running -/
structure FnG (P : Program) (w : World) (K : PySem.W.Frag) (mg : Str → Option Value) (base : Heap) (CX : CXT) (k : Nat) (f : Addr) (fd : FuncData) (ps : List Str) (sp : Sp) : Prop where
  glen : ∀ vs H Q E, sp vs H Q E → vs.length = ps.length
  grun : ∀ (A : Around) (out : List Env) (s : Shared) (H : Hp) (ar : Args) (us : List Value) (vs : List V) (Q : VK) (E : XK), A.guards = some [] → Room k A → Env0 P w K mg base A out s H →
    BindsTo s fd ar (ps.zip us) → Vals vs us → sp vs H Q E → codeAny (model P w) A (.call (.ref f) ar) (CR CX out P w H s Q E) s
theorem FnG.of {P : Program} {w : World} {K : PySem.W.Frag} {mg : Str → Option Value} {base : Heap} {CX : CXT} {k : Nat} {f : Addr} {fd : FuncData} {ps : List Str} {sp : Sp} (F : FnOk P w K mg base CX k f fd ps sp) :
    FnG P w K mg base CX k f fd ps sp := ⟨F.len, fun A out s H ar us vs Q E _ => F.run A out s H ar us vs Q E⟩
theorem FnG.mono {P : Program} {w : World} {K : PySem.W.Frag} {mg : Str → Option Value} {base : Heap} {CX : CXT} {j k : Nat} {f : Addr} {fd : FuncData} {ps : List Str} {sp : Sp} (F : FnG P w K mg base CX j f fd ps sp) (h : j ≤ k) :
    FnG P w K mg base CX k f fd ps sp := ⟨F.glen, fun A out s H ar us vs Q E hg hr => F.grun A out s H ar us vs Q E hg (hr.mono h)⟩

/-- f, called in the context X with values, keeps the promise sp; the defaults dvs fill up -/
def Rn (X : Cx) (f : Addr) (sp : Sp) (dvs : List V) (E : XK) : Prop :=
  ∀ (pins : List (Addr × Obj)) (σ : L2.St) (H : Hp) (s : Shared) (Q : VK) (us : List Value) (vs : List V), Inv X pins σ H s → Vals vs us → sp (vs ++ dvs) H Q E → wpAny (model X.prog X.w) X.A (call (.ref f) us) (EP X pins σ Q) X.xe s
section
variable {X : Cx} {CX : CXT} {k : Nat} {f : Addr} {fd : FuncData} {ps : List Str} {sp : Sp} {dvs : List V} {ds : List Value} {E : XK}
theorem rn_of (F : FnOk X.prog X.w X.K X.mg X.base CX k f fd ps sp) (hr : Room k X.A) (hb : Binds X.K fd ps ds) (hd : Vals dvs ds) (hx : Passes CX X E) : Rn X f sp dvs E :=
  fun _ _ _ _ _ _ _ I r h => run_fn F hr hb hd hx I r h
theorem rn_g (F : FnG X.prog X.w X.K X.mg X.base CX k f fd ps sp) (gd : X.A.guards = some []) (hr : Room k X.A) (hb : Binds X.K fd ps ds) (hd : Vals dvs ds) (hx : Passes CX X E) : Rn X f sp dvs E := by
  intro pins σ H s Q us vs I r h
  have rr : Vals (vs ++ dvs) (us ++ ds) := r.append hd
  have ln : (us ++ ds).length = ps.length := rr.length.symm.trans (F.glen _ _ _ _ h)
  refine wpAny_call (codeAny_mono (F.grun X.A X.stack s H ⟨us, []⟩ (us ++ ds) (vs ++ dvs) Q E gd hr I.env0 (hb s us I.kIn ln) rr h) ?_)
  intro res s2 got
  match res, got with
  | .error e, got => exact hx pins σ H s e s2 I got
  | .ok (.ret u), got => exact I.after got
end
section
variable {X : Cx} {f : Addr} {sp : Sp} {dvs : List V} {E : XK} {x : Str} {e : Expr} {es : List Expr} {t : TA} {p pos : Pos}
theorem pe_callC (R : Rn X f sp dvs E) (hm : X.mg x = some (.ref f)) (hk : PySem.W.keepIn X.K (.ref f) = true) (ha : PA X (e :: es) t) (hg : Gl X x := by rfl) (hdb : (x == ("__debug__" : Str)) = false := by decide)
    (hst : starEach (e :: es) X.env = (false, eval e X.env) :: starEach es X.env := by rfl) (hpl : (backTo pos (starEach es X.env)).any (·.1) = false := by rfl) : PE X (.Call (.Name x p) (e :: es) [] pos) (tCall sp dvs E t) := by
  refine ⟨fun pins s σ H Q I h => wpAny_Call_Name_kw (ld_glob I hg hm ?_ hdb)⟩
  refine PySem.W.callWith_K (h₀ := X.base) I.ok.mod.kin hk (thn (ha.run pos pins s σ H _ I h) ?_) hst hpl
  intro us s1 ⟨vs, H1, I1, r1, q1⟩
  exact ⟨I1.kIn, R pins σ H1 s1 Q us vs I1 r1 q1⟩
theorem pe_callC0 (R : Rn X f sp dvs E) (hm : X.mg x = some (.ref f)) (hk : PySem.W.keepIn X.K (.ref f) = true) (hg : Gl X x := by rfl) (hdb : (x == ("__debug__" : Str)) = false := by decide) : PE X (.Call (.Name x p) [] [] pos) (tCall sp dvs E tNil) := by
  refine ⟨fun pins s σ H Q I h => wpAny_Call_Name_kw (ld_glob I hg hm ?_ hdb)⟩
  exact PySem.W.callWith_K0 I.kIn hk (R pins σ H s Q [] [] I .nil h)
end

/-! ### the rule for a def, with the guards told -/
section
variable {CX : CXT} {P : Program} {w : World} {K : PySem.W.Frag} {mg : Str → Option Value} {base : Heap} {k : Nat} {f : Addr} {fd : FuncData} {N ps : List Str} {sp : Sp}
/-- a def of the text entered: its body from the parameters' values, any end -/
theorem enter_def {name qual : Str} {params : Arguments} {body : List Stmt} {scope : Scope} {dV kV doc pm cdv ct oc : Value} {an od : Option Addr} {osl : Array (Option Value)} {R : Result → Shared → Prop} {A : Around} {out : List Env} {s : Shared} {H : Hp} {ar : Args} {us : List Value} {vs : List V} {E : XK} {kk : Nat}
    (lk : K.lookup f = some ⟨oc, od, .func (PySem.W.fnOf name qual params body scope dV kV doc pm an cdv ct), osl⟩) (hcd : PySem.W.codeIn K cdv qual = true) (S : FnScope N ps scope)
    (hr : Room kk A) (e0 : Env0 P w K mg base A out s H) (hb : BindsTo s (PySem.W.fnOf name qual params body scope dV kV doc pm an cdv ct) ar (ps.zip us)) (r : Vals vs us) (hl : vs.length = ps.length)
    (go : ∀ s1, Inv (cxOf CX P w K mg base N qual scope f cdv A out s H E) [] (start N vs) H s1 →
      wpAny (model P w) (A.deeper (envOfC qual scope s.heap.objs.size f cdv)) (execs body (envOfC qual scope s.heap.objs.size f cdv)) (fun fl s' => match fl with | .ret u => R (.ok (.ret u)) s' | .next => R (.ok (.ret .none)) s' | _ => False)
        (fun e s' => wpAny (model P w) (A.deeper (envOfC qual scope s.heap.objs.size f cdv)) (leaving (envOfC qual scope s.heap.objs.size f cdv) e) (fun _ s'' => R (.error e) s'') (fun e' s'' => R (.error e') s'') s') s1) :
    codeAny (model P w) A (.call (.ref f) ar) R s := by
  have inK : K.In s.heap := e0.mod.kin.keeps fun b o e => (e0.bs b o e).1
  have nol : s.heap.NoLimit := e0.mod.nolimit.keeps fun b o e => (e0.bs b o e).1
  have kinds : ∀ y ∈ ps.zip us, scope.names.lookup y.1 = some .local ∨ (scope.names.lookup y.1 = some .cell ∧ ((cellsFrom (s.heap.objs.size + 1) scope.names []).lookup y.1).isSome = true) := by
    intro ⟨n, v⟩ hy
    cases S.par n (List.of_mem_zip hy).1 with
    | inl q => exact .inl q
    | inr q => exact .inr ⟨q, PySem.W.cellsFrom_some _ _ _ (.inl q)⟩
  refine codeAny_call_function hr.depth (inK _ _ lk) rfl S.co S.gen rfl (PySem.W.codeRec_of inK hcd) (hb _ _ _ _ ?_)
  refine wpAny_newFunctionEnv_cells S.kind kinds ?_
  intro env he s1 x
  subst he
  refine ⟨nol.keeps x.toInCall.keep, codeAny_func ?_⟩
  refine wpAny_mono (go s1 (inv_start S hr.hd e0 hl r x)) ?_ fun _ _ z => z
  intro fl s2 z
  match fl, z with
  | .ret u, z => exact z
  | .next, z => exact z
theorem fn_ofG {name qual : Str} {params : Arguments} {body : List Stmt} {scope : Scope} {dV kV doc pm cdv ct oc : Value} {an od : Option Addr} {osl : Array (Option Value)}
    (lk : K.lookup f = some ⟨oc, od, .func (PySem.W.fnOf name qual params body scope dV kV doc pm an cdv ct), osl⟩) (hcd : PySem.W.codeIn K cdv qual = true) (S : FnScope N ps scope) (len : ∀ vs H Q E, sp vs H Q E → vs.length = ps.length)
    (hbody : ∀ (A : Around) (out : List Env) (s : Shared) (H : Hp) (vs : List V) (Q : VK) (E : XK), A.guards = some [] → Room k (A.deeper (envOfC qual scope s.heap.objs.size f cdv)) → sp vs H Q E →
      ∃ t, PSs (cxOf CX P w K mg base N qual scope f cdv A out s H E) body t ∧ t { nx := fun _ H' => Q .non H', rt := Q } (start N vs) H) :
    FnG P w K mg base CX (k + 1) f (PySem.W.fnOf name qual params body scope dV kV doc pm an cdv ct) ps sp := by
  refine ⟨len, fun A out s H ar us vs Q E gd hr e0 hb r hsp => ?_⟩
  obtain ⟨t, ht, hq⟩ := hbody A out s H vs Q E gd (hr.deeper _) hsp
  refine enter_def (CX := CX) (E := E) lk hcd S hr e0 hb r (len _ _ _ _ hsp) fun s1 I => ?_
  refine wpAny_mono (ht.run [] s1 (start N vs) H _ I hq) ?_ fun e s2 z => z
  intro fl s2 z
  cases fl with
  | ret u => exact let ⟨v, _, H2, J, rv, q⟩ := z; ⟨v, H2, J.os, J.bare, J.base, J.hok, rv, q⟩
  | next => exact let ⟨_, H2, J, q⟩ := z; ⟨.non, H2, J.os, J.bare, J.base, J.hok, rfl, q⟩
  | brk => exact let ⟨_, _, _, q⟩ := z; q
  | cont => exact let ⟨_, _, _, q⟩ := z; q
end
section
variable {P : Program} {w : World} {K : PySem.W.Frag} {mg : Str → Option Value} {base : Heap}
theorem okG {CX : CXT} {x qual : Str} {st : Stmt} {f : Addr} {fd : FuncData} {N ps : List Str} {k : Nat} {sp : Sp} (F : Fun K x qual st f fd) (S : FnScope N ps (defScope st)) (len : ∀ vs H Q E, sp vs H Q E → vs.length = ps.length)
    (hbody : ∀ (cdv : Value) (A : Around) (out : List Env) (s : Shared) (H : Hp) (vs : List V) (Q : VK) (E : XK), A.guards = some [] → Room k (A.deeper (envOfC qual (defScope st) s.heap.objs.size f cdv)) → sp vs H Q E →
      ∃ t, PSs (cxOf CX P w K mg base N qual (defScope st) f cdv A out s H E) (defBody st) t ∧ t { nx := fun _ H' => Q .non H', rt := Q } (start N vs) H) : FnG P w K mg base CX (k + 1) f fd ps sp := by
  obtain ⟨oc, od, kV, doc, pm, an, cdv, ct, osl, rfl, lk, hcd⟩ := F.ex
  exact fn_ofG lk hcd S len (hbody cdv)
end

/-! ### the law's call -/
theorem law_callG {P : Program} {w : World} {K : PySem.W.Frag} {mg mb : Str → Option Value} {CX : CXT} {k : Nat} {fa a : Addr} {fd : FuncData} {x : Str} {sp : Sp} {s₁ : Shared} {vs : List Value} {ns : List Int}
    (KX : K.In s₁.heap) (hns : s₁.heap.Ns mainGlobals mg) (hb : s₁.heap.Ns builtinsNs mb) (hbb : ∀ x : Str, x ≠ "__name__" → mb x = bootBuiltins x) (hlim : s₁.heap.NoLimit) (hg : s₁.gens = #[])
    (ha : s₁.heap.get? a = some { cls := .type "list", data := .seq vs.toArray }) (hi : IntsAre vs ns) (hl : ns.length ≤ sizeLine) (hr : Room k callerA)
    (F : ∀ base : Heap, K.In base → base.Ns mainGlobals mg → FnG P w K mg base CX k fa fd [x] sp) (hbind : ∀ (s : Shared) (u : Value), BindsTo s fd ⟨[u], []⟩ [(x, u)])
    (hsp : ∀ H : Hp, Only H → SqL K H a (ns.map V.int) → sp [.ref a] H (fun v _ => v = .bl true) fun _ _ _ => False)
    (hCX : ∀ H e s', CX [] H s₁ (fun _ _ _ => False) e s' → False) :
    codeAny (model P w) callerA (.call (.ref fa) ⟨[.ref a], []⟩) (fun r s' => r = .ok (.ret (.bool true)) ∧ OldK s₁.heap s'.heap ∧ s'.os = s₁.os ∧ AllBare s'.gens) s₁ := by
  have rv := vals_ints hi
  have vl := hi.length
  suffices core : ∀ H : Hp, Only H → SqL K H a (ns.map V.int) → HOk P w H s₁.heap → (∀ b, H b ≠ none → b = a) → (H a ≠ none → K.lookup a = none) →
      codeAny (model P w) callerA (.call (.ref fa) ⟨[.ref a], []⟩) (fun r s' => r = .ok (.ret (.bool true)) ∧ OldK s₁.heap s'.heap ∧ s'.os = s₁.os ∧ AllBare s'.gens) s₁ by
    by_cases hk : ∃ o, K.lookup a = some o
    · obtain ⟨o, hk⟩ := hk
      have e := KX a o hk
      rw [ha] at e
      cases e
      refine core (fun _ => none) (fun _ => Or.inl rfl) (Or.inr ⟨_, vs.toArray, _, hk, rfl, rfl, rfl, ?_, by simpa using rv⟩) (fun b u z => ?_) (fun b z => absurd rfl z) fun z => absurd rfl z
      · rw [List.size_toArray, vl]
        exact hl
      · cases (show (none : Option HO) = some u from z)
    · have hk0 : K.lookup a = none := by
        cases e : K.lookup a with
        | none => rfl
        | some o => exact absurd ⟨o, e⟩ hk
      have at1 : ∀ b u, (if b = a then some (HO.frz { cls := .type "list", data := .seq vs.toArray } (.lst (ns.map V.int))) else none) = some u → b = a ∧ u = HO.frz { cls := .type "list", data := .seq vs.toArray } (.lst (ns.map V.int)) := by
        intro b u z
        by_cases hb : b = a
        · rw [if_pos hb] at z
          exact ⟨hb, (Option.some.inj z).symm⟩
        · rw [if_neg hb] at z
          cases z
      refine core (fun b => if b = a then some (.frz { cls := .type "list", data := .seq vs.toArray } (.lst (ns.map V.int))) else none) (fun b => ?_) (Or.inl (Or.inr ⟨_, if_pos rfl⟩)) (fun b u z => ?_) (fun b z => ?_) fun _ => hk0
      · by_cases hb : b = a
        · exact Or.inr ⟨_, _, if_pos hb⟩
        · exact Or.inl (if_neg hb)
      · obtain ⟨e1, e2⟩ := at1 b u z
        subst e1 e2
        exact ⟨ha, by rw [List.length_map]; exact hl, vs, _, rv, ha⟩
      · by_cases hb : b = a
        · exact hb
        · exact absurd (if_neg hb) z
  intro H hO hS hok hA hK
  have keepG : ∀ {b : Addr} {o : Obj}, s₁.heap.get? b = some o → H b = none → (hidT s₁.heap H).get? b = some o := fun e n => hidT_get e n
  have dictG : ∀ {b : Addr} {o : Obj} {es : Array DictEntry} {ep : Nat}, s₁.heap.get? b = some o → o.data = .dict es ep → H b = none := by
    intro b o es ep e d
    by_cases q : H b = none
    · exact q
    · have e' := hA b q
      rw [e', ha] at e
      cases e
      cases (show Data.seq vs.toArray _ = Data.dict es ep from d)
  have nsG : ∀ {b : Addr} {m : Str → Option Value}, s₁.heap.Ns b m → (hidT s₁.heap H).Ns b m := by
    intro b m ⟨o, es, ep, e, d, r⟩
    exact ⟨o, es, ep, keepG e (dictG e d), d, r⟩
  have kG : K.In (hidT s₁.heap H) := by
    intro b o e
    refine keepG (KX b o e) ?_
    by_cases q : H b = none
    · exact q
    · have e' := hA b q
      rw [e', hK (by rw [← e']; exact q)] at e
      cases e
  have M : Mod K mg (hidT s₁.heap H) := ⟨kG, nsG hns, ⟨mb, nsG hb, hbb⟩, let ⟨mc, q1, q2⟩ := hlim; ⟨mc, nsG q1, q2⟩⟩
  have e0 : Env0 P w K mg (hidT s₁.heap H) callerA [] s₁ H := ⟨rfl, M, fun b o e => of_hidT e, Nat.le_of_eq (hidT_size _ _), trivial, fun b hb => (List.not_mem_nil (show b ∈ ([] : List Addr) from hb)).elim, hok, .of_eq hg⟩
  refine codeAny_mono ((F _ kG (nsG hns)).grun callerA [] s₁ H ⟨[.ref a], []⟩ [.ref a] [.ref a] _ _ rfl hr e0 (hbind s₁ (.ref a)) (.cons rfl .nil) (hsp H hO hS)) ?_
  intro r s' h
  match r, h with
  | .error e, h => exact (hCX H e s' h).elim
  | .ok (.ret u), ⟨v, H', os, bare, un, hok', r', q⟩ =>
    have q' : v = .bl true := q
    subst q'
    have r2 : u = Value.bool true := r'
    subst r2
    refine ⟨rfl, OldK.of_keep fun b o e => ?_, os, bare⟩
    rcases hO b with z | ⟨ob, xs, z⟩
    · exact un.keep b o e z (fun hm => (List.not_mem_nil (show b ∈ ([] : List Addr) from hm)).elim) (fun hm => (List.not_mem_nil hm).elim)
    · have z2 := un.frzs b ob _ z
      have e1 := (hok b _ z).1
      have e2 := (hok' b _ z2).1
      rw [e] at e1
      cases e1
      exact e2
theorem walk_ofG {l : PySem.W.OpenLaw} {n k : Nat} {q : Program} {loose : List Str} {XP : (Str → Option Value) → Heap → Prop} {YP : World → Heap → Prop} {d : DefRec} {K : Params → PySem.W.Frag} {CX : World → CXT} {sp : World → Sp} {x : Str}
    (hn : l.most = some n) (hn2 : n ≤ sizeLine) (hdf : d.params.defaults = []) (hr : Room k callerA) (hY : ∀ (w : World) (h : Heap), YP w h → (K w.params).In h)
    (F : ∀ (w : World) (mg : Str → Option Value) (fa : Addr) (h : Heap), (K w.params).In h → h.Ns mainGlobals mg → mg d.name = some (.ref fa) →
      ∃ fd : FuncData, (∀ (s : Shared) (u : Value), BindsTo s fd ⟨[u], []⟩ [(x, u)]) ∧ ∀ base : Heap, (K w.params).In base → base.Ns mainGlobals mg → FnG l.prog w (K w.params) mg base (CX w) k fa fd [x] (sp w))
    (hsp : ∀ (w : World) (H : Hp) (a : Addr) (ns : List Int), ns.length ≤ n → Only H → SqL (K w.params) H a (ns.map V.int) → sp w [.ref a] H (fun v _ => v = .bl true) fun _ _ _ => False)
    (hCX : ∀ (w : World) (H : Hp) (s : Shared) (e : Value) (s' : Shared), CX w [] H s (fun _ _ _ => False) e s' → False) :
    PySem.W.WalkO q loose XP YP l.row.toRowW d [] (fun f vs => PySem.call f vs) := by
  refine Att.attach_call hn hdf ?_
  intro w s₀ s₁ mg mb fa o pm cd doc a vs ns G Y ho hd hcd hmg hobj hints hlen hg
  obtain ⟨fd, hb, hF⟩ := F w mg fa _ (hY w _ Y) G.T.g hmg
  exact law_callG (hY w _ Y) G.T.g G.T.b G.T.builtins G.T.nolimit hg hobj hints (Nat.le_trans hlen hn2) hr hF hb (fun H hO hS => hsp w H a ns hlen hO hS) fun H e s' => hCX w H s₁ e s'

/-! ### repr of data -/
section
variable {X : Cx}
def rReprD (K : PySem.W.Frag) : List V → Hp → VK → Prop := fun xs H Q => ∃ (a : Addr) (d : PyData), xs = [.ref a] ∧ Dp K H (.ref a) d ∧ d.showable = true ∧ d.hasDict = false ∧ d.depth ≤ 50 ∧ d.shown.length ≤ sizeLine ∧ Q (.str d.shown) H
theorem call_reprD (gd : X.A.guards = some []) (hu : X.A.units + 64 < cLine) : CallR X (.builtin "repr") (rReprD X.K) := by
  intro pins s σ H xs us Q I r h
  obtain ⟨a, d, rfl, hD, hs, hn, hdp, hz, q⟩ := h
  obtain ⟨u, rfl, ru⟩ := vals1 r
  cases (show u = Value.ref a from ru)
  obtain ⟨as, rd⟩ := Dp.reads I d _ _ hD rfl
  refine repr_of_reads' rd hs (PyData.noDict_hsm hn) gd (by omega) (fun _ _ e => e) (fun h' u tk hk => ?_) hz
  exact ⟨.str d.shown, H, I.kept hk, ⟨u, rfl⟩, q⟩
end
end SP
/-! Own rules: comparisons of own instances; == and != against other kinds, where the own __eq__ declines. -/
namespace SP
open PySem PySem.Spec PyProof.Rows L2
section
variable {X : Cx} {pins : List (Addr × Obj)} {σ : L2.St} {H : Hp} {s : Shared}
theorem looks_typeIs {M : Model} {h : Heap} {u : Value} {T : String} (e : ∀ s : Shared, (∀ b o, h.get? b = some o → s.heap.get? b = some o) → s.TypeIs u T) : PySem.W.Looks M h (typeOf u) (.type T) :=
  fun A Q E s k q => wpAny_typeOf (e s k) q
/-- what typeOf tells of a value -/
theorem looks_ty {M : Model} {y : V} {u t : Value} (I : Inv X pins σ H s) (ry : RelV y u) (ty : TyOf X.K H y t) : PySem.W.Looks M s.heap (typeOf u) t := by
  cases ty with
  | non => cases (show u = Value.none from ry); exact looks_typeIs fun _ _ => rfl
  | bl b => cases (show u = Value.bool b from ry); exact looks_typeIs fun _ _ => rfl
  | int i => obtain ⟨t, q⟩ := (show ∃ t, u = Value.int i t from ry); cases q; exact looks_typeIs fun _ _ => rfl
  | str x => obtain ⟨t, q⟩ := (show ∃ t, u = Value.str x t from ry); cases q; exact looks_typeIs fun _ _ => rfl
  | flt x => obtain ⟨t, q⟩ := (show ∃ t, u = Value.float x t from ry); cases q; exact looks_typeIs fun _ _ => rfl
  | @lst a xs ea =>
    cases (show u = Value.ref a from ry)
    have ok : ObjOk X.prog X.w H s.heap a (.lst xs) := I.hok a _ ea
    obtain ⟨_, _, n, _, h1⟩ := ok
    exact looks_typeIs fun s' k => ⟨_, k _ _ h1, rfl⟩
  | @frz a ob xs ea =>
    cases (show u = Value.ref a from ry)
    have ok : ObjOk X.prog X.w H s.heap a (.frz ob (.lst xs)) := I.hok a _ ea
    obtain ⟨_, _, _, n, _, h1⟩ := ok
    exact looks_typeIs fun s' k => ⟨_, k _ _ h1, rfl⟩
  | @tup a xs ea =>
    cases (show u = Value.ref a from ry)
    have ok : ObjOk X.prog X.w H s.heap a (.tup xs) := I.hok a _ ea
    obtain ⟨_, _, _, o, h1, h2, _⟩ := ok
    exact looks_typeIs fun s' k => ⟨o, k _ _ h1, h2⟩
  | @dK a kvs ea =>
    cases (show u = Value.ref a from ry)
    have ok : ObjOk X.prog X.w H s.heap a (.dK kvs) := I.hok a _ ea
    obtain ⟨_, _, vs, _, o, es, ep, h1, h2, _⟩ := ok
    exact looks_typeIs fun s' k => ⟨o, k _ _ h1, h2.1⟩
  | @dT a kvs ea =>
    cases (show u = Value.ref a from ry)
    have ok : ObjOk X.prog X.w H s.heap a (.dT kvs) := I.hok a _ ea
    obtain ⟨_, _, xs, _, o, es, ep, h1, h2, _⟩ := ok
    exact looks_typeIs fun s' k => ⟨o, k _ _ h1, h2.1⟩
  | @ins a C dx fs ea cl ha hn htk hm =>
    cases (show u = Value.ref a from ry)
    obtain ⟨mA, O, _⟩ := ins_get I.hok ea
    obtain ⟨od, J, _⟩ := O.look
    exact J.type
theorem back_rel {v : V} {u : Value} {Q : Value → Shared → Prop} {s' : Shared} (r : RelV v u) (h : Q u s') : PySem.W.CmpBack Q u s' := by
  cases v with
  | non => cases r; exact h
  | bl _ => cases r; exact h
  | int _ => obtain ⟨t, rfl⟩ := r; exact h
  | str _ => obtain ⟨t, rfl⟩ := r; exact h
  | byt _ => obtain ⟨t, rfl⟩ := r; exact h
  | flt _ => obtain ⟨t, rfl⟩ := r; exact h
  | ref _ => cases r; exact h
  | ty _ => cases r; exact h
/-- o op y, o an instance of the class at C whose method (at f) answers -/
def rCmp (K : PySem.W.Frag) (C : Addr) (sp : Sp) (E : XK) : R2 := fun x y H Q => ∃ (a dx : Addr) (fs : List (Str × V)) (t : Value), x = .ref a ∧ H a = some (.ins C dx fs) ∧ TyOf K H y t ∧ PySem.W.notFirst K C t = true ∧ sp [x, y] H Q E
theorem op_cmpC {op : CmpOp} {C f : Addr} {sp : Sp} {E : XK} (hu : X.A.units < cLine) (hs : PySem.W.findIn X.K (.ref C) (cmpInfo op).2.1 = some (some (.ref f))) (hf : PySem.W.isFn X.K (.ref f) = true) (R : Rn X f sp [] E)
    (hop : ∀ a b, compareOp op a b = richCompare op a b := by intro _ _; rfl) : OpR X (compareOp op) (rCmp X.K C sp E) := by
  intro pins s σ H x y v u Q I rx ry h
  obtain ⟨a, dx, fs, t, rfl, ea, ty, hn, h⟩ := h
  cases (show v = Value.ref a from rx)
  obtain ⟨mA, O, _⟩ := ins_get I.hok ea
  obtain ⟨od, J, _⟩ := O.look
  obtain ⟨m, F⟩ := I.fr
  rw [hop]
  refine PySem.W.cmp_K hu F I.mod.kin J (looks_ty I ry ty) hn hs hf (thn (R pins σ H s Q [.ref a, u] [.ref a, y] I (.cons rfl (.cons ry .nil)) h) ?_)
  intro w' s' ⟨v', H', I', r', q'⟩
  exact back_rel r' ⟨v', H', I', r', q'⟩
/-- what the own != makes of ==: object's -/
def rNeC (K : PySem.W.Frag) (C : Addr) (sp : Sp) (E : XK) : R2 := fun x y H Q => ∃ (a dx : Addr) (fs : List (Str × V)) (t : Value), x = .ref a ∧ H a = some (.ins C dx fs) ∧ TyOf K H y t ∧ PySem.W.notFirst K C t = true ∧
  sp [x, y] H (fun v H' => ∃ b, v = .bl b ∧ Q (.bl (!b)) H') E
end
section
variable {prog : Program} {w : World} {A : Around} {E : Value → Shared → Prop} {s : Shared} {K : PySem.W.Frag} {x C f : Addr} {ox : Obj} {od : Option Obj}
/-- the slot of object found by an own class is bound and called -/
theorem ifBound_objNe {M : Model} {args : List Value} {Q : Option Value → Shared → Prop} (X : K.In s.heap) (I : PySem.W.InstAt s.heap x ox C od) (hs : PySem.W.findIn K (.ref C) "__ne__" = some (some (.builtin "object.__ne__")))
    (h : wpAny M A (call (.builtin "object.__ne__") (.ref x :: args)) (fun v => Q (some v)) E s) : wpAny M A (callSpecialIfBound? (.ref x) "__ne__" args) Q E s := by
  have last : wpAny M A (call (.builtin "object.__ne__") ([.ref x] ++ args) >>= fun v => pure (some v)) Q E s := wpAny_bind (wpAny_mono h (fun _ _ z => wpAny_pure z) fun _ _ z => z)
  simp only [callSpecialIfBound?, bindSpecialIfBound?]
  refine wpAny_holding (wpAny_bind (wpAny_bind (wpAny_bind (I.type.here ((PySem.W.looks_findIn X hs).here (wpAny_bind (wpAny_askSetting (wpAny_ite ?_))))))))
  split
  · exact wpAny_bind (wpAny_of_eq (F.cmp_object.ne.bind _) (wpAny_pure (by exact last)))
  · exact wpAny_tryCatch (wpAny_bind (wpAny_of_eq (F.cmp_object.ne.bind _) (wpAny_pure (by exact last))))
theorem ne_body {b : Value} {Q : Value → Shared → Prop} (hu : A.units + 1 < cLine) (X : K.In s.heap) (I : PySem.W.InstAt s.heap x ox C od) (hm : PySem.W.mroIn K C (.type "object") = some true)
    (hs : PySem.W.findIn K (.ref C) "__eq__" = some (some (.ref f))) (hf : PySem.W.isFn K (.ref f) = true)
    (h : wpAny (model prog w) A.in1 (call (.ref f) [.ref x, b]) (fun v s' => (∃ k, v = .bool k ∧ Q (.bool (!k)) s') ∨ (v = .notImplemented ∧ Q .notImplemented s')) E s) :
    wpAny (model prog w) A (call (.builtin "object.__ne__") [.ref x, b]) Q E s := by
  refine wpAny_call (codeAny_call_builtin F.cmp_object.ne.plain F.cmpEntry_ne (PySem.W.check_slot F.cmpKind_ne F.cmpSplit_ne (I.type.andThen (PySem.W.looks_mroIn X hm)) (F.cmpArgs_ne _ _) ?_))
  show wpAny _ _ (cRoomFor "comparison" [.ref x, b] >>= fun _ => callSpecialIfBound? (.ref x) "__eq__" [b] >>= fun r => (match r with
    | some .notImplemented | none => PySem.ret .notImplemented
    | some r => truthy r >>= fun t => PySem.ret (.bool (!t)))) _ _ _
  refine wpAny_bind (wpAny_cRoomFor hu (wpAny_bind (PySem.W.ifBound_K X I hs hf (wpAny_mono h (fun v s' hv => ?_) fun _ _ z => z))))
  rcases hv with ⟨k, rfl, q⟩ | ⟨rfl, q⟩
  · exact wpAny_bind (wpAny_truthy_bool (wpAny_pure q))
  · exact wpAny_pure q
end
/-! ### the built-in == against an own instance declines -/
section
variable {prog : Program} {w : World} {A : Around} {E : Value → Shared → Prop} {s : Shared} {K : PySem.W.Frag} {x C dx : Addr} {ox : Obj} {od : Option Obj}
theorem asInt_inst {M : Model} {Q : Option Int → Shared → Prop} (hx : s.heap.get? x = some (PySem.W.instObj C dx)) (q : Q none s) : wpAny M A (asInt? (.ref x)) Q E s := by
  show wpAny M A (load x >>= fun o => match o.data with | .prim (.int i _) => pure (some i) | _ => pure none) Q E s
  exact wpAny_bind (wpAny_load hx (wpAny_pure q))
theorem asStr_inst {M : Model} {Q : Option Str → Shared → Prop} (hx : s.heap.get? x = some (PySem.W.instObj C dx)) (q : Q none s) : wpAny M A (asStr? (.ref x)) Q E s := by
  show wpAny M A (load x >>= fun o => match o.data with | .prim (.str i _) => pure (some i) | _ => pure none) Q E s
  exact wpAny_bind (wpAny_load hx (wpAny_pure q))
theorem int_declines {i : Int} {t : Tok} {Q : Option Value → Shared → Prop} (hx : s.heap.get? x = some (PySem.W.instObj C dx)) (q : Q none s) : wpAny (model prog w) A (tryCompare (.int i t) "__eq__" (.ref x)) Q E s := by
  refine wpAny_tryCompare_declines (T := "int") rfl F.slot_int_eq_refl (GQ.call_here F.slot_int_eq_refl rfl F.entry_int_eq (F.args_int_eq_2 _ _) ?_)
  wp_walk using asInt_inst hx
  exact ⟨rfl, q⟩
theorem bool_declines {b : Bool} {Q : Option Value → Shared → Prop} (hx : s.heap.get? x = some (PySem.W.instObj C dx)) (q : Q none s) : wpAny (model prog w) A (tryCompare (.bool b) "__eq__" (.ref x)) Q E s := by
  refine wpAny_tryCompare_declines (T := "bool") rfl F.slot_bool_eq_refl (GQ.call_here F.slot_bool_eq_refl rfl F.entry_int_eq (F.args_int_eq_2 _ _) ?_)
  wp_walk using asInt_inst hx
  exact ⟨rfl, q⟩
theorem str_declines {z : Str} {t : Tok} {Q : Option Value → Shared → Prop} (hx : s.heap.get? x = some (PySem.W.instObj C dx)) (q : Q none s) : wpAny (model prog w) A (tryCompare (.str z t) "__eq__" (.ref x)) Q E s := by
  refine wpAny_tryCompare_declines (T := "str") rfl F.slot_str_eq_refl (GQ.call_here F.slot_str_eq_refl rfl F.entry_str_eq (F.args_str_eq_2 _ _) ?_)
  show wpAny _ _ (asStr? (.ref x) >>= fun r => match r with | some o => PySem.ret (.bool (z.cps.toList == o.cps.toList)) | none => rule "str.__eq__.not-a-str" >>= fun _ => PySem.ret .notImplemented) _ _ _
  exact wpAny_bind (asStr_inst hx (wpAny_bind (wpAny_rule (wpAny_pure ⟨rfl, q⟩))))
theorem none_declines {Q : Option Value → Shared → Prop} (q : Q none s) : wpAny (model prog w) A (tryCompare .none "__eq__" (.ref x)) Q E s :=
  wpAny_tryCompare_declines (show s.TypeIs .none "NoneType" from rfl) F.slot_NoneType_eq_refl (call_gives F.slot_NoneType_eq_refl rfl F.entry_NoneType_eq (F.args_NoneType_eq_2 _ _) (SeqAt.NoneType___eq___none_ref_0 x) ⟨rfl, q⟩)
theorem tuple_declines {b : Addr} {ob : Obj} {Q : Option Value → Shared → Prop} (X : K.In s.heap) (I : PySem.W.InstAt s.heap x ox C od) (hb : s.heap.get? b = some ob) (hc : ob.cls = .type "tuple")
    (hs : PySem.W.subIn K (.ref C) (.type "tuple") = some false) (q : Q none s) : wpAny (model prog w) A (tryCompare (.ref b) "__eq__" (.ref x)) Q E s := by
  refine wpAny_tryCompare_declines (T := "tuple") ⟨ob, hb, hc⟩ F.slot_tuple_eq_refl (GQ.call_here F.slot_tuple_eq_refl ⟨ob, hb, hc⟩ F.entry_tuple_eq (F.args_tuple_eq_2 _ _) ?_)
  have no : PySem.W.Looks (model prog w) s.heap (isInstance (.ref x) (.type "tuple")) false := I.type.andThen (PySem.W.looks_subIn X hs)
  refine wpAny_bind (m := isInstance (.ref x) (.type "tuple")) (no.here ?_)
  exact wpAny_pure ⟨rfl, q⟩
theorem list_declines {b : Addr} {ob : Obj} {Q : Option Value → Shared → Prop} (X : K.In s.heap) (I : PySem.W.InstAt s.heap x ox C od) (hb : s.heap.get? b = some ob) (hc : ob.cls = .type "list")
    (hs : PySem.W.subIn K (.ref C) (.type "list") = some false) (q : Q none s) : wpAny (model prog w) A (tryCompare (.ref b) "__eq__" (.ref x)) Q E s := by
  refine wpAny_tryCompare_declines (T := "list") ⟨ob, hb, hc⟩ F.slot_list_eq_refl (GQ.call_here F.slot_list_eq_refl ⟨ob, hb, hc⟩ F.entry_list_eq (F.args_list_eq_2 _ _) ?_)
  have no : PySem.W.Looks (model prog w) s.heap (isInstance (.ref x) (.type "list")) false := I.type.andThen (PySem.W.looks_subIn X hs)
  refine wpAny_bind (m := isInstance (.ref x) (.type "list")) (no.here ?_)
  exact wpAny_pure ⟨rfl, q⟩
end

/-! ### the context one C call deeper -/
abbrev in1 (X : Cx) : Cx := { X with A := X.A.in1 }
section
variable {X : Cx} {pins : List (Addr × Obj)} {σ : L2.St} {H : Hp} {s : Shared}
theorem ok_in1 (k : X.Ok) : (in1 X).Ok := ⟨k.mod, k.kind, k.glob, k.blt, k.above, k.inj, k.has, k.cab, k.hd, k.frames, k.stk, k.exf, k.bs, k.bsz, k.noex, k.exfs, k.funs, k.frf⟩
theorem ok_out1 (k : (in1 X).Ok) : X.Ok := ⟨k.mod, k.kind, k.glob, k.blt, k.above, k.inj, k.has, k.cab, k.hd, k.frames, k.stk, k.exf, k.bs, k.bsz, k.noex, k.exfs, k.funs, k.frf⟩
theorem inv_in1 (I : Inv X pins σ H s) : Inv (in1 X) pins σ H s := ⟨ok_in1 I.ok, I.os, I.bare, I.base, I.loc, I.cell, I.free, I.freeC, I.pin, I.hok, I.len⟩
theorem inv_out1 (I : Inv (in1 X) pins σ H s) : Inv X pins σ H s := ⟨ok_out1 I.ok, I.os, I.bare, I.base, I.loc, I.cell, I.free, I.freeC, I.pin, I.hok, I.len⟩
/-- a call of f with values ends in NotImplemented, and leaves what was tracked -/
def RnN (X : Cx) (f : Addr) (D : List V → Hp → Prop) : Prop :=
  ∀ (pins : List (Addr × Obj)) (σ : L2.St) (H : Hp) (s : Shared) (us : List Value) (vs : List V), Inv X pins σ H s → Vals vs us → D vs H → wpAny (model X.prog X.w) X.A (call (.ref f) us) (fun u s' => u = .notImplemented ∧ ∃ H', Inv X pins σ H' s' ∧ Same H H') X.xe s
/-- o != y, != made of the own == -/
theorem op_neC {C f : Addr} {sp : Sp} {E : XK} (hu : X.A.units + 1 < cLine) (hs : PySem.W.findIn X.K (.ref C) "__eq__" = some (some (.ref f))) (hn : PySem.W.findIn X.K (.ref C) "__ne__" = some (some (.builtin "object.__ne__")))
    (hm : PySem.W.mroIn X.K C (.type "object") = some true) (hf : PySem.W.isFn X.K (.ref f) = true) (R : Rn (in1 X) f sp [] E) : OpR X (compareOp .NotEq) (rNeC X.K C sp E) := by
  intro pins s σ H x y v u Q I rx ry h
  obtain ⟨a, dx, fs, t, rfl, ea, ty, hnf, h⟩ := h
  cases (show v = Value.ref a from rx)
  obtain ⟨mA, O, _⟩ := ins_get I.hok ea
  obtain ⟨od, J, _⟩ := O.look
  have KX := I.kIn
  have one : wpAny (model X.prog X.w) X.A (tryCompare (.ref a) "__ne__" u) (fun r s' => ∃ z, r = some z ∧ EP X pins σ Q z s') X.xe s := by
    unfold tryCompare
    refine wpAny_bind (ifBound_objNe KX J hn (ne_body hu KX J hm hs hf (thn (R pins σ H s _ [.ref a, u] [.ref a, y] (inv_in1 I) (.cons rfl (.cons ry .nil)) h) ?_)))
    intro z s' ⟨v', H', I', r', b, e, q'⟩
    subst e
    cases r'
    exact .inl ⟨b, rfl, wpAny_pure ⟨_, rfl, .bl (!b), H', inv_out1 I', rfl, q'⟩⟩
  show wpAny _ _ (richCompare .NotEq (.ref a) u) _ _ _
  unfold richCompare
  simp only [oneThing_ref]
  refine wpAny_holding (wpAny_bind (wpAny_cRoomFor (by omega) (wpAny_bind (J.type.here (wpAny_bind ((looks_ty I ry ty).here ?_))))))
  have go : ∀ c : Bool, c = false → wpAny (model X.prog X.w) X.A (if c = true then tryCompare u (cmpInfo .NotEq).2.2 (.ref a) else pure none) (fun r s' => r = none ∧ s' = s) X.xe s := by
    intro c e
    subst e
    exact wpAny_pure ⟨rfl, rfl⟩
  split
  · rename_i q
    have e : PySem.W.subIn X.K t (.ref C) = some false := by
      rcases Bool.or_eq_true_iff.mp hnf with e | e
      · rw [beq_iff_eq.mp e] at q
        simp at q
      · exact beq_iff_eq.mp e
    refine wpAny_bind ((PySem.W.looks_subIn KX e).here ?_)
    simp only [Bool.false_eq_true, if_false]
    refine wpAny_bind (wpAny_mono one (fun r s' z => ?_) fun _ _ e => e)
    obtain ⟨v', rfl, hq⟩ := z
    exact wpAny_pure hq
  · refine wpAny_bind (wpAny_pure ?_)
    simp only [Bool.false_eq_true, if_false]
    refine wpAny_bind (wpAny_mono one (fun r s' z => ?_) fun _ _ e => e)
    obtain ⟨v', rfl, hq⟩ := z
    exact wpAny_pure hq
end

/-! ### == and != against a value of another kind -/
/-- a value of a kind that is not the class's: no ref, a tuple, a list -/
inductive Fgn (H : Hp) : V → Prop where
  | non : Fgn H .non
  | bl (b : Bool) : Fgn H (.bl b)
  | int (i : Int) : Fgn H (.int i)
  | str (x : Str) : Fgn H (.str x)
  | tup {b : Addr} {xs : List V} (e : H b = some (.tup xs)) : Fgn H (.ref b)
  | lst {b : Addr} {xs : List V} (e : H b = some (.lst xs)) : Fgn H (.ref b)
structure FgnOk (K : PySem.W.Frag) (C : Addr) : Prop where
  tu : PySem.W.subIn K (.ref C) (.type "tuple") = some false
  li : PySem.W.subIn K (.ref C) (.type "list") = some false
theorem sub_built {K : PySem.W.Frag} {C : Addr} {T : String} {ms : List Value} (e : fastBuiltinMro T = some ms) (n : ms.contains (.ref C) = false) : PySem.W.subIn K (.type T) (.ref C) = some false := by
  show (fastBuiltinMro T).map (·.contains (.ref C)) = some false
  rw [e]
  exact congrArg some n
theorem mro_int : fastBuiltinMro "int" = some [.type "int", .type "object"] := by decide +kernel
theorem mro_bool : fastBuiltinMro "bool" = some [.type "bool", .type "int", .type "object"] := by decide +kernel
theorem mro_str : fastBuiltinMro "str" = some [.type "str", .type "object"] := by decide +kernel
theorem mro_none : fastBuiltinMro "NoneType" = some [.type "NoneType", .type "object"] := by decide +kernel
theorem mro_tuple : fastBuiltinMro "tuple" = some [.type "tuple", .type "object"] := by decide +kernel
theorem mro_list : fastBuiltinMro "list" = some [.type "list", .type "object"] := by decide +kernel
section
variable {X : Cx} {pins : List (Addr × Obj)} {σ : L2.St} {H : Hp} {s : Shared}
theorem Fgn.same {H H' : Hp} {y : V} (f : Fgn H y) (k : Same H H') : Fgn H' y := by
  cases f with
  | non => exact .non
  | bl b => exact .bl b
  | int i => exact .int i
  | str x => exact .str x
  | tup e => exact .tup (k _ _ e)
  | lst e => exact .lst (k _ _ e)
theorem Fgn.ty {K : PySem.W.Frag} {C : Addr} {y : V} (f : Fgn H y) : ∃ t, TyOf K H y t ∧ PySem.W.notFirst K C t = true ∧ (t == Value.ref C) = false ∧ PySem.W.subIn K t (.ref C) = some false := by
  have fin : ∀ {T : String} {ms : List Value}, fastBuiltinMro T = some ms → ms.contains (.ref C) = false → PySem.W.notFirst K C (.type T) = true ∧ (Value.type T == Value.ref C) = false ∧ PySem.W.subIn K (.type T) (.ref C) = some false := by
    intro T ms e n
    have h := sub_built (K := K) e n
    refine ⟨?_, rfl, h⟩
    unfold PySem.W.notFirst
    rw [h]
    simp
  cases f with
  | non => exact ⟨_, .non, fin mro_none rfl⟩
  | bl b => exact ⟨_, .bl b, fin mro_bool rfl⟩
  | int i => exact ⟨_, .int i, fin mro_int rfl⟩
  | str x => exact ⟨_, .str x, fin mro_str rfl⟩
  | tup e => exact ⟨_, .tup e, fin mro_tuple rfl⟩
  | lst e => exact ⟨_, .lst e, fin mro_list rfl⟩
theorem fgn_declines {C a dx : Addr} {fs : List (Str × V)} {y : V} {u : Value} {E : Value → Shared → Prop} {Q : Option Value → Shared → Prop} (O : FgnOk X.K C) (I : Inv X pins σ H s) (ea : H a = some (.ins C dx fs)) (f : Fgn H y) (ry : RelV y u) (q : Q none s) :
    wpAny (model X.prog X.w) X.A (tryCompare u "__eq__" (.ref a)) Q E s := by
  obtain ⟨mA, M, _⟩ := ins_get I.hok ea
  obtain ⟨od, J, _⟩ := M.look
  have hx : s.heap.get? a = some (PySem.W.instObj C dx) := J.1
  cases f with
  | non => cases (show u = Value.none from ry); exact none_declines q
  | bl b => cases (show u = Value.bool b from ry); exact bool_declines hx q
  | int i => obtain ⟨t, z⟩ := (show ∃ t, u = Value.int i t from ry); cases z; exact int_declines hx q
  | str x => obtain ⟨t, z⟩ := (show ∃ t, u = Value.str x t from ry); cases z; exact str_declines hx q
  | @tup b xs e =>
    cases (show u = Value.ref b from ry)
    have ok : ObjOk X.prog X.w H s.heap b (.tup xs) := I.hok b _ e
    obtain ⟨_, _, _, o, h1, h2, _⟩ := ok
    exact tuple_declines I.kIn J h1 h2 O.tu q
  | @lst b xs e =>
    cases (show u = Value.ref b from ry)
    have ok : ObjOk X.prog X.w H s.heap b (.lst xs) := I.hok b _ e
    obtain ⟨_, _, n, _, h1⟩ := ok
    exact list_declines I.kIn J h1 rfl O.li q
theorem fgn_same {C a dx : Addr} {fs : List (Str × V)} {y : V} {u : Value} {E : Value → Shared → Prop} {Q : Bool → Shared → Prop} (I : Inv X pins σ H s) (ea : H a = some (.ins C dx fs)) (f : Fgn H y) (ry : RelV y u) (q : Q false s) :
    wpAny (model X.prog X.w) X.A (isSame (.ref a) u) Q E s := by
  obtain ⟨mA, M, _⟩ := ins_get I.hok ea
  obtain ⟨od, J, _⟩ := M.look
  have hx : s.heap.get? a = some (PySem.W.instObj C dx) := J.1
  have nt : (PySem.W.instObj C dx).cls ≠ .type "tuple" := fun z => nomatch (show Value.ref C = Value.type "tuple" from z)
  cases f with
  | non => cases (show u = Value.none from ry); exact wpAny_isSame_plain rfl q
  | bl b => cases (show u = Value.bool b from ry); exact wpAny_isSame_plain rfl q
  | int i => obtain ⟨t, z⟩ := (show ∃ t, u = Value.int i t from ry); cases z; exact wpAny_isSame_plain rfl q
  | str x => obtain ⟨t, z⟩ := (show ∃ t, u = Value.str x t from ry); cases z; exact wpAny_isSame_plain rfl q
  | @tup b xs e =>
    cases (show u = Value.ref b from ry)
    have ok : ObjOk X.prog X.w H s.heap b (.tup xs) := I.hok b _ e
    obtain ⟨_, _, _, o, h1, h2, _⟩ := ok
    exact wpAny_isSame_ref_other (ne_of ea e (fun z => nomatch z)) hx h1 nt q
  | @lst b xs e =>
    cases (show u = Value.ref b from ry)
    have ok : ObjOk X.prog X.w H s.heap b (.lst xs) := I.hok b _ e
    obtain ⟨_, _, n, _, h1⟩ := ok
    exact wpAny_isSame_ref_other (ne_of ea e (fun z => nomatch z)) hx h1 nt q
/-- o == y, y of another kind: the own == declines -/
def rEqF (C : Addr) (D : List V → Hp → Prop) (k : Bool) : R2 := fun x y H Q => ∃ (a dx : Addr) (fs : List (Str × V)), x = .ref a ∧ H a = some (.ins C dx fs) ∧ Fgn H y ∧ D [x, y] H ∧ ∀ H', Same H H' → Q (.bl k) H'
theorem op_eqF {C f : Addr} {D : List V → Hp → Prop} (hu : X.A.units < cLine) (O : FgnOk X.K C) (hs : PySem.W.findIn X.K (.ref C) "__eq__" = some (some (.ref f))) (hf : PySem.W.isFn X.K (.ref f) = true) (R : RnN X f D) :
    OpR X (compareOp .Eq) (rEqF C D false) := by
  intro pins s σ H x y v u Q I rx ry h
  obtain ⟨a, dx, fs, rfl, ea, fg, hD, q⟩ := h
  cases (show v = Value.ref a from rx)
  obtain ⟨mA, M, _⟩ := ins_get I.hok ea
  obtain ⟨od, J, _⟩ := M.look
  have KX := I.kIn
  obtain ⟨t, ty, hnf, hne, hsub⟩ := fg.ty (K := X.K) (C := C)
  have one : wpAny (model X.prog X.w) X.A (tryCompare (.ref a) "__eq__" u) (fun r s' => r = none ∧ ∃ H', Inv X pins σ H' s' ∧ Same H H') X.xe s := by
    unfold tryCompare
    refine wpAny_bind (PySem.W.ifBound_K KX J hs hf (thn (R pins σ H s [.ref a, u] [.ref a, y] I (.cons rfl (.cons ry .nil)) hD) ?_))
    intro z s' ⟨e, rest⟩
    subst e
    exact wpAny_pure ⟨rfl, rest⟩
  show wpAny _ _ (richCompare .Eq (.ref a) u) _ _ _
  unfold richCompare
  simp only [oneThing_ref]
  refine wpAny_holding (wpAny_bind (wpAny_cRoomFor hu (wpAny_bind (J.type.here (wpAny_bind ((looks_ty I ry ty).here ?_))))))
  rw [if_pos (show (Value.ref C != t) = true by rw [bne, BEq.comm, hne] <;> rfl)]
  refine wpAny_bind ((PySem.W.looks_subIn KX hsub).here ?_)
  simp only [Bool.false_eq_true, if_false]
  refine wpAny_bind (wpAny_mono one (fun r s' z => ?_) fun _ _ e => e)
  obtain ⟨rfl, H', I', sm⟩ := z
  dsimp only
  rw [if_pos (show (!false) = true from rfl)]
  refine wpAny_bind (fgn_declines O I' (sm _ _ ea) (fg.same sm) ry ?_)
  dsimp only
  exact wpAny_bind (wpAny_rule (wpAny_bind (fgn_same I' (sm _ _ ea) (fg.same sm) ry (wpAny_pure ⟨.bl false, H', I', rfl, q H' sm⟩))))
end
end SP
/-! != against another kind -/
namespace SP
open PySem PySem.Spec PyProof.Rows L2
section
variable {prog : Program} {w : World} {A : Around} {E : Value → Shared → Prop} {s : Shared} {K : PySem.W.Frag} {x C dx : Addr} {ox : Obj} {od : Option Obj}
theorem int_declinesN {i : Int} {t : Tok} {Q : Option Value → Shared → Prop} (hx : s.heap.get? x = some (PySem.W.instObj C dx)) (q : Q none s) : wpAny (model prog w) A (tryCompare (.int i t) "__ne__" (.ref x)) Q E s := by
  refine wpAny_tryCompare_declines (T := "int") rfl F.slot_int_ne_refl (GQ.call_here F.slot_int_ne_refl rfl F.entry_int_ne (F.args_int_ne_2 _ _) ?_)
  wp_walk using asInt_inst hx
  exact ⟨rfl, q⟩
theorem bool_declinesN {b : Bool} {Q : Option Value → Shared → Prop} (hx : s.heap.get? x = some (PySem.W.instObj C dx)) (q : Q none s) : wpAny (model prog w) A (tryCompare (.bool b) "__ne__" (.ref x)) Q E s := by
  refine wpAny_tryCompare_declines (T := "bool") rfl F.slot_bool_ne_refl (GQ.call_here F.slot_bool_ne_refl rfl F.entry_int_ne (F.args_int_ne_2 _ _) ?_)
  wp_walk using asInt_inst hx
  exact ⟨rfl, q⟩
theorem str_declinesN {z : Str} {t : Tok} {Q : Option Value → Shared → Prop} (hx : s.heap.get? x = some (PySem.W.instObj C dx)) (q : Q none s) : wpAny (model prog w) A (tryCompare (.str z t) "__ne__" (.ref x)) Q E s := by
  refine wpAny_tryCompare_declines (T := "str") rfl F.slot_str_ne_refl (GQ.call_here F.slot_str_ne_refl rfl F.entry_str_ne (F.args_str_ne_2 _ _) ?_)
  show wpAny _ _ (asStr? (.ref x) >>= fun r => match r with | some o => PySem.ret (.bool (z.cps.toList != o.cps.toList)) | none => rule "str.__ne__.not-a-str" >>= fun _ => PySem.ret .notImplemented) _ _ _
  exact wpAny_bind (asStr_inst hx (wpAny_bind (wpAny_rule (wpAny_pure ⟨rfl, q⟩))))
theorem none_declinesN {Q : Option Value → Shared → Prop} (q : Q none s) : wpAny (model prog w) A (tryCompare .none "__ne__" (.ref x)) Q E s :=
  wpAny_tryCompare_declines (show s.TypeIs .none "NoneType" from rfl) F.slot_NoneType_ne_refl (call_gives F.slot_NoneType_ne_refl rfl F.entry_NoneType_ne (F.args_NoneType_ne_2 _ _) (SeqAt.NoneType___ne___none_ref_0 x) ⟨rfl, q⟩)
theorem tuple_declinesN {b : Addr} {ob : Obj} {Q : Option Value → Shared → Prop} (X : K.In s.heap) (I : PySem.W.InstAt s.heap x ox C od) (hb : s.heap.get? b = some ob) (hc : ob.cls = .type "tuple")
    (hs : PySem.W.subIn K (.ref C) (.type "tuple") = some false) (q : Q none s) : wpAny (model prog w) A (tryCompare (.ref b) "__ne__" (.ref x)) Q E s := by
  refine wpAny_tryCompare_declines (T := "tuple") ⟨ob, hb, hc⟩ F.slot_tuple_ne_refl (GQ.call_here F.slot_tuple_ne_refl ⟨ob, hb, hc⟩ F.entry_tuple_ne (F.args_tuple_ne_2 _ _) ?_)
  have no : PySem.W.Looks (model prog w) s.heap (isInstance (.ref x) (.type "tuple")) false := I.type.andThen (PySem.W.looks_subIn X hs)
  refine wpAny_bind (m := isInstance (.ref x) (.type "tuple")) (no.here ?_)
  exact wpAny_pure ⟨rfl, q⟩
theorem list_declinesN {b : Addr} {ob : Obj} {Q : Option Value → Shared → Prop} (X : K.In s.heap) (I : PySem.W.InstAt s.heap x ox C od) (hb : s.heap.get? b = some ob) (hc : ob.cls = .type "list")
    (hs : PySem.W.subIn K (.ref C) (.type "list") = some false) (q : Q none s) : wpAny (model prog w) A (tryCompare (.ref b) "__ne__" (.ref x)) Q E s := by
  refine wpAny_tryCompare_declines (T := "list") ⟨ob, hb, hc⟩ F.slot_list_ne_refl (GQ.call_here F.slot_list_ne_refl ⟨ob, hb, hc⟩ F.entry_list_ne (F.args_list_ne_2 _ _) ?_)
  have no : PySem.W.Looks (model prog w) s.heap (isInstance (.ref x) (.type "list")) false := I.type.andThen (PySem.W.looks_subIn X hs)
  refine wpAny_bind (m := isInstance (.ref x) (.type "list")) (no.here ?_)
  exact wpAny_pure ⟨rfl, q⟩
end
section
variable {X : Cx} {pins : List (Addr × Obj)} {σ : L2.St} {H : Hp} {s : Shared}
theorem fgn_declinesN {C a dx : Addr} {fs : List (Str × V)} {y : V} {u : Value} {E : Value → Shared → Prop} {Q : Option Value → Shared → Prop} (O : FgnOk X.K C) (I : Inv X pins σ H s) (ea : H a = some (.ins C dx fs)) (f : Fgn H y) (ry : RelV y u) (q : Q none s) :
    wpAny (model X.prog X.w) X.A (tryCompare u "__ne__" (.ref a)) Q E s := by
  obtain ⟨mA, M, _⟩ := ins_get I.hok ea
  obtain ⟨od, J, _⟩ := M.look
  have hx : s.heap.get? a = some (PySem.W.instObj C dx) := J.1
  cases f with
  | non => cases (show u = Value.none from ry); exact none_declinesN q
  | bl b => cases (show u = Value.bool b from ry); exact bool_declinesN hx q
  | int i => obtain ⟨t, z⟩ := (show ∃ t, u = Value.int i t from ry); cases z; exact int_declinesN hx q
  | str x => obtain ⟨t, z⟩ := (show ∃ t, u = Value.str x t from ry); cases z; exact str_declinesN hx q
  | @tup b xs e =>
    cases (show u = Value.ref b from ry)
    have ok : ObjOk X.prog X.w H s.heap b (.tup xs) := I.hok b _ e
    obtain ⟨_, _, _, o, h1, h2, _⟩ := ok
    exact tuple_declinesN I.kIn J h1 h2 O.tu q
  | @lst b xs e =>
    cases (show u = Value.ref b from ry)
    have ok : ObjOk X.prog X.w H s.heap b (.lst xs) := I.hok b _ e
    obtain ⟨_, _, n, _, h1⟩ := ok
    exact list_declinesN I.kIn J h1 rfl O.li q
theorem op_neF {C f : Addr} {D : List V → Hp → Prop} (hu : X.A.units + 1 < cLine) (O : FgnOk X.K C) (hs : PySem.W.findIn X.K (.ref C) "__eq__" = some (some (.ref f))) (hn : PySem.W.findIn X.K (.ref C) "__ne__" = some (some (.builtin "object.__ne__")))
    (hm : PySem.W.mroIn X.K C (.type "object") = some true) (hf : PySem.W.isFn X.K (.ref f) = true) (R : RnN (in1 X) f D) : OpR X (compareOp .NotEq) (rEqF C D true) := by
  intro pins s σ H x y v u Q I rx ry h
  obtain ⟨a, dx, fs, rfl, ea, fg, hD, q⟩ := h
  cases (show v = Value.ref a from rx)
  obtain ⟨mA, M, _⟩ := ins_get I.hok ea
  obtain ⟨od, J, _⟩ := M.look
  have KX := I.kIn
  obtain ⟨t, ty, hnf, hne, hsub⟩ := fg.ty (K := X.K) (C := C)
  have one : wpAny (model X.prog X.w) X.A (tryCompare (.ref a) "__ne__" u) (fun r s' => r = none ∧ ∃ H', Inv X pins σ H' s' ∧ Same H H') X.xe s := by
    unfold tryCompare
    refine wpAny_bind (ifBound_objNe KX J hn (ne_body hu KX J hm hs hf (thn (R pins σ H s [.ref a, u] [.ref a, y] (inv_in1 I) (.cons rfl (.cons ry .nil)) hD) ?_)))
    intro z s' ⟨e, H', I', sm⟩
    subst e
    exact .inr ⟨rfl, wpAny_pure ⟨rfl, H', inv_out1 I', sm⟩⟩
  show wpAny _ _ (richCompare .NotEq (.ref a) u) _ _ _
  unfold richCompare
  simp only [oneThing_ref]
  refine wpAny_holding (wpAny_bind (wpAny_cRoomFor (by omega) (wpAny_bind (J.type.here (wpAny_bind ((looks_ty I ry ty).here ?_))))))
  rw [if_pos (show (Value.ref C != t) = true by rw [bne, BEq.comm, hne] <;> rfl)]
  refine wpAny_bind ((PySem.W.looks_subIn KX hsub).here ?_)
  simp only [Bool.false_eq_true, if_false]
  refine wpAny_bind (wpAny_mono one (fun r s' z => ?_) fun _ _ e => e)
  obtain ⟨rfl, H', I', sm⟩ := z
  dsimp only
  rw [if_pos (show (!false) = true from rfl)]
  refine wpAny_bind (fgn_declinesN O I' (sm _ _ ea) (fg.same sm) ry ?_)
  dsimp only
  exact wpAny_bind (wpAny_rule (wpAny_bind (fgn_same I' (sm _ _ ea) (fg.same sm) ry (wpAny_pure ⟨.bl true, H', I', rfl, q H' sm⟩))))
end
end SP
/-! Plain mathematics: Euclid, the terms of a continued fraction and their order. -/
namespace M

/-- the loop of common_divisor -/
def eu (a b : Nat) : Nat := if h : b = 0 then a else eu b (a % b)
termination_by b
decreasing_by exact Nat.mod_lt _ (Nat.pos_of_ne_zero h)
theorem eu_zero (a : Nat) : eu a 0 = a := by rw [eu]; simp
theorem eu_step {a b : Nat} (h : b ≠ 0) : eu a b = eu b (a % b) := by rw [eu]; simp [h]
theorem eu_gcd (a b : Nat) : eu a b = Nat.gcd a b := by
  induction b using Nat.strongRecOn generalizing a with
  | _ b ih =>
    by_cases h : b = 0
    · subst h
      rw [eu_zero, Nat.gcd_zero_right]
    · rw [eu_step h, ih (a % b) (Nat.mod_lt _ (Nat.pos_of_ne_zero h)), Nat.gcd_comm a b, Nat.gcd_rec b a, Nat.gcd_comm]

/-- the tuple by which fractions are sorted; s: 1 or -1 -/
def plc (s t : Int) (b : Nat) : List Int := if h : b = 0 then [s] else 0 :: (s * (t / b)) :: plc (-s) b (t % b).toNat
termination_by b
decreasing_by
  have : (0 : Int) < b := by omega
  have h1 := Int.emod_lt_of_pos t this
  have h2 := Int.emod_nonneg t (show (b : Int) ≠ 0 by omega)
  omega
theorem plc_zero (s t : Int) : plc s t 0 = [s] := by rw [plc]; simp
theorem plc_step {s t : Int} {b : Nat} (h : b ≠ 0) : plc s t b = 0 :: (s * (t / b)) :: plc (-s) b (t % b).toNat := by rw [plc]; simp [h]

/-- the order of tuples of ints -/
def lt : List Int → List Int → Bool
  | [], [] => false
  | [], _ :: _ => true
  | _ :: _, [] => false
  | a :: r, b :: q => if a = b then lt r q else decide (a < b)

theorem mul_lt {a b c : Int} (h : a < b) (hc : 0 < c) : a * c < b * c := Int.mul_lt_mul_of_pos_right h hc

/-- what is compared of two fractions t1/b1, t2/b2 -/
theorem cross_step {t1 t2 q1 q2 r1 r2 b1 b2 : Int} (e1 : t1 = b1 * q1 + r1) (e2 : t2 = b2 * q2 + r2) : t1 * b2 - t2 * b1 = (q1 - q2) * (b1 * b2) + (r1 * b2 - r2 * b1) := by
  subst e1 e2
  simp only [Int.add_mul, Int.sub_mul]
  have h1 : b1 * q1 * b2 = q1 * (b1 * b2) := by
    rw [Int.mul_comm b1 q1, Int.mul_assoc]
  have h2 : b2 * q2 * b1 = q2 * (b1 * b2) := by
    rw [Int.mul_comm b2 q2, Int.mul_assoc, Int.mul_comm b2 b1]
  rw [h1, h2]
  omega
theorem cross_less {q1 q2 r1 r2 b1 b2 : Int} (hb1 : 0 < b1) (hb2 : 0 < b2) (h1 : 0 ≤ r1) (h1' : r1 < b1) (h2 : 0 ≤ r2) (h : q1 < q2) : (q1 - q2) * (b1 * b2) + (r1 * b2 - r2 * b1) < 0 := by
  have a1 : r1 * b2 < b1 * b2 := Int.mul_lt_mul_of_pos_right h1' hb2
  have a2 : 0 ≤ r2 * b1 := Int.mul_nonneg h2 (Int.le_of_lt hb1)
  have a3 : (q1 - q2) * (b1 * b2) ≤ (-1) * (b1 * b2) := Int.mul_le_mul_of_nonneg_right (by omega) (Int.le_of_lt (Int.mul_pos hb1 hb2))
  omega
theorem cross_more {q1 q2 r1 r2 b1 b2 : Int} (hb1 : 0 < b1) (hb2 : 0 < b2) (h1 : 0 ≤ r1) (h2 : 0 ≤ r2) (h2' : r2 < b2) (h : q2 < q1) : 0 < (q1 - q2) * (b1 * b2) + (r1 * b2 - r2 * b1) := by
  have a1 : r2 * b1 < b2 * b1 := Int.mul_lt_mul_of_pos_right h2' hb1
  have a2 : 0 ≤ r1 * b2 := Int.mul_nonneg h1 (Int.le_of_lt hb2)
  have a3 : 1 * (b1 * b2) ≤ (q1 - q2) * (b1 * b2) := Int.mul_le_mul_of_nonneg_right (by omega) (Int.le_of_lt (Int.mul_pos hb1 hb2))
  have a4 := Int.mul_comm b1 b2
  omega

theorem plc_order (b1 : Nat) : ∀ (b2 : Nat) (s t1 t2 : Int), (s = 1 ∨ s = -1) → (b1 = 0 → 0 < t1) → (b2 = 0 → 0 < t2) →
    (lt (plc s t1 b1) (plc s t2 b2) = decide (s * (t1 * b2 - t2 * b1) < 0)) ∧ (plc s t1 b1 = plc s t2 b2 ↔ t1 * b2 - t2 * b1 = 0) := by
  induction b1 using Nat.strongRecOn with
  | _ b1 ih =>
    intro b2 s t1 t2 hs z1 z2
    by_cases h1 : b1 = 0
    · subst h1
      have p1 := z1 rfl
      rw [plc_zero]
      by_cases h2 : b2 = 0
      · subst h2
        rw [plc_zero]
        refine ⟨?_, ?_⟩
        · simp [lt]
        · simp
      · rw [plc_step h2]
        have hb : (0 : Int) < b2 := by omega
        have hp : 0 < t1 * (b2 : Int) := Int.mul_pos p1 hb
        refine ⟨?_, ?_⟩
        · rcases hs with rfl | rfl
          · simp only [lt]
            rw [if_neg (by decide)]
            simp only [Int.mul_zero, Int.one_mul, Int.natCast_zero, Int.sub_zero]
            rw [decide_eq_false (by decide), decide_eq_false (by omega)]
          · simp only [lt]
            rw [if_neg (by decide)]
            simp only [Int.mul_zero, Int.natCast_zero, Int.sub_zero]
            rw [decide_eq_true (by decide), decide_eq_true (by omega)]
        · constructor
          · intro e
            injection e with e1 _
            rcases hs with rfl | rfl
            · exact absurd e1 (by decide)
            · exact absurd e1 (by decide)
          · intro e
            simp only [Int.mul_zero, Int.natCast_zero, Int.sub_zero] at e
            omega
    · have hb1 : (0 : Int) < b1 := by omega
      rw [plc_step h1]
      by_cases h2 : b2 = 0
      · subst h2
        have p2 := z2 rfl
        rw [plc_zero]
        have hp : 0 < t2 * (b1 : Int) := Int.mul_pos p2 hb1
        refine ⟨?_, ?_⟩
        · rcases hs with rfl | rfl
          · simp only [lt]
            rw [if_neg (by decide)]
            simp only [Int.mul_zero, Int.one_mul, Int.natCast_zero, Int.zero_sub]
            rw [decide_eq_true (by decide), decide_eq_true (by omega)]
          · simp only [lt]
            rw [if_neg (by decide)]
            simp only [Int.mul_zero, Int.natCast_zero, Int.zero_sub]
            rw [decide_eq_false (by decide), decide_eq_false (by omega)]
        · constructor
          · intro e
            injection e with e1 _
            rcases hs with rfl | rfl
            · exact absurd e1 (by decide)
            · exact absurd e1 (by decide)
          · intro e
            simp only [Int.mul_zero, Int.natCast_zero, Int.zero_sub] at e
            omega
      · have hb2 : (0 : Int) < b2 := by omega
        rw [plc_step h2]
        have r1n := Int.emod_nonneg t1 (show (b1 : Int) ≠ 0 by omega)
        have r1l := Int.emod_lt_of_pos t1 hb1
        have r2n := Int.emod_nonneg t2 (show (b2 : Int) ≠ 0 by omega)
        have r2l := Int.emod_lt_of_pos t2 hb2
        have e1 : t1 = b1 * (t1 / b1) + t1 % b1 := (Int.mul_ediv_add_emod t1 b1).symm
        have e2 : t2 = b2 * (t2 / b2) + t2 % b2 := (Int.mul_ediv_add_emod t2 b2).symm
        have cs := cross_step e1 e2
        have c1 : ((t1 % (b1 : Int)).toNat : Int) = t1 % b1 := Int.toNat_of_nonneg r1n
        have c2 : ((t2 % (b2 : Int)).toNat : Int) = t2 % b2 := Int.toNat_of_nonneg r2n
        have ihh := ih (t1 % (b1 : Int)).toNat (by omega) (t2 % (b2 : Int)).toNat (-s) b1 b2 (by omega) (fun _ => hb1) (fun _ => hb2)
        rw [c1, c2] at ihh
        obtain ⟨r1, r2⟩ := ihh
        have com1 := Int.mul_comm (b1 : Int) (t2 % b2)
        have com2 := Int.mul_comm (b2 : Int) (t1 % b1)
        generalize hq1 : t1 / (b1 : Int) = q1 at *
        generalize hq2 : t2 / (b2 : Int) = q2 at *
        have ltt : lt (0 :: (s * q1) :: plc (-s) b1 (t1 % (b1 : Int)).toNat) (0 :: (s * q2) :: plc (-s) b2 (t2 % (b2 : Int)).toNat)
            = if s * q1 = s * q2 then lt (plc (-s) b1 (t1 % (b1 : Int)).toNat) (plc (-s) b2 (t2 % (b2 : Int)).toNat) else decide (s * q1 < s * q2) := by
          simp only [lt, if_true]
        rw [ltt]
        by_cases hq : q1 = q2
        · subst hq
          rw [if_pos rfl, r1]
          have z : (q1 - q1) * ((b1 : Int) * b2) = 0 := by rw [Int.sub_self, Int.zero_mul]
          rw [z] at cs
          refine ⟨?_, ?_⟩
          · rcases hs with rfl | rfl
            · congr 1
              apply propext
              constructor <;> intro h <;> omega
            · congr 1
              apply propext
              constructor <;> intro h <;> omega
          · constructor
            · intro e
              injection e with _ e
              injection e with _ e
              have := r2.mp e
              omega
            · intro e
              have : (b1 : Int) * (t2 % b2) - b2 * (t1 % b1) = 0 := by omega
              rw [r2.mpr this]
        · have hsq : ¬ s * q1 = s * q2 := by
            rcases hs with rfl | rfl <;> omega
          rw [if_neg hsq]
          rcases Int.lt_or_gt_of_ne hq with hl | hl
          · have cl := cross_less hb1 hb2 r1n r1l r2n hl
            refine ⟨?_, ?_⟩
            · rcases hs with rfl | rfl
              · congr 1
                apply propext
                constructor <;> intro h <;> omega
              · congr 1
                apply propext
                constructor <;> intro h <;> omega
            · constructor
              · intro e
                injection e with _ e
                injection e with e _
                exact absurd e hsq
              · intro e
                omega
          · have cl := cross_more hb1 hb2 r1n r2n r2l hl
            refine ⟨?_, ?_⟩
            · rcases hs with rfl | rfl
              · congr 1
                apply propext
                constructor <;> intro h <;> omega
              · congr 1
                apply propext
                constructor <;> intro h <;> omega
            · constructor
              · intro e
                injection e with _ e
                injection e with e _
                exact absurd e hsq
              · intro e
                omega
/-- a step of Euclid halves the product -/
theorem step_bound {t m j B : Nat} (hm : 0 < m) (h : m < t) (hj : 1 ≤ j) (hp : t * m * 2 ^ (j - 1) < 2 ^ B) : m * (t % m) * 2 ^ j < 2 ^ B ∧ j ≤ B := by
  have h1 : t % m < m := Nat.mod_lt _ hm
  have h2 : t % m + m ≤ t := by
    have e := Nat.mod_add_div t m
    have d : 1 ≤ t / m := (Nat.one_le_div_iff hm).mpr (Nat.le_of_lt h)
    have : m * 1 ≤ m * (t / m) := Nat.mul_le_mul_left m d
    omega
  have h3 : t % m * 2 ≤ t := by omega
  have e : 2 ^ j = 2 * 2 ^ (j - 1) := by
    have : j = (j - 1) + 1 := by omega
    rw [this, Nat.pow_succ, Nat.mul_comm]
    simp
  refine ⟨?_, ?_⟩
  · have : m * (t % m) * 2 ^ j ≤ t * m * 2 ^ (j - 1) := by
      rw [e]
      have r : m * (t % m) * (2 * 2 ^ (j - 1)) = (t % m * 2) * m * 2 ^ (j - 1) := by
        rw [← Nat.mul_assoc, Nat.mul_comm m (t % m), Nat.mul_assoc (t % m) m 2, Nat.mul_comm m 2, ← Nat.mul_assoc]
      rw [r]
      exact Nat.mul_le_mul_right _ (Nat.mul_le_mul_right _ h3)
    omega
  · have q : 1 * 2 ^ (j - 1) ≤ t * m * 2 ^ (j - 1) := Nat.mul_le_mul_right _ (Nat.mul_pos (by omega) hm)
    have : 2 ^ (j - 1) < 2 ^ B := by omega
    have := (Nat.pow_lt_pow_iff_right (by decide : 1 < 2)).mp this
    omega
/-! ### a fraction near another one: Euclid with the factors -/
structure NearI (tp bt old new was here : Int) : Prop where
  e1 : ∃ k, new * tp - here = bt * k
  e2 : ∃ k, old * tp - was = bt * k
  g : Int.gcd was here = 1
  h0 : 0 ≤ here
  hw : here < was
  w1 : 1 < was
  wb : was ≤ bt
  sm : (old.natAbs : Int) * here + (new.natAbs : Int) * was ≤ bt
theorem NearI.start {tp bt : Int} (hb : 1 < bt) (hg : Int.gcd tp bt = 1) : NearI tp bt 0 1 bt (tp % bt) := by
  have r0 := Int.emod_nonneg tp (show bt ≠ 0 by omega)
  have r1 := Int.emod_lt_of_pos tp (show 0 < bt by omega)
  refine ⟨⟨tp / bt, ?_⟩, ⟨-1, ?_⟩, ?_, r0, r1, hb, Int.le_refl _, ?_⟩
  · have := Int.mul_ediv_add_emod tp bt
    omega
  · rw [Int.zero_mul, Int.mul_neg, Int.mul_one]
    omega
  · rw [Int.gcd_comm, Int.emod_def, Int.gcd_comm]
    have : tp - bt * (tp / bt) = tp + bt * (-(tp / bt)) := by rw [Int.mul_neg]; omega
    rw [this, Int.gcd_comm, Int.gcd_add_mul_left_left]
    exact hg
  · simp
theorem NearI.step {tp bt old new was here : Int} (I : NearI tp bt old new was here) (h : 1 < here) : NearI tp bt new (old - was / here * new) here (was - was / here * here) := by
  obtain ⟨⟨k1, e1⟩, ⟨k2, e2⟩, g, h0, hw, w1, wb, sm⟩ := I
  have hr : was - was / here * here = was % here := by
    have := Int.mul_ediv_add_emod was here
    rw [Int.mul_comm (was / here) here]
    omega
  have r0 := Int.emod_nonneg was (show here ≠ 0 by omega)
  have r1 := Int.emod_lt_of_pos was (show 0 < here by omega)
  have q0 : 0 ≤ was / here := Int.ediv_nonneg (by omega) (by omega)
  refine ⟨⟨k2 - was / here * k1, ?_⟩, ⟨k1, e1⟩, ?_, by omega, by omega, h, by omega, ?_⟩
  · have a1 : (old - was / here * new) * tp = old * tp - was / here * (new * tp) := by rw [Int.sub_mul, Int.mul_assoc]
    have a2 : bt * (k2 - was / here * k1) = bt * k2 - was / here * (bt * k1) := by
      rw [Int.mul_sub, ← Int.mul_assoc, ← Int.mul_assoc, Int.mul_comm bt (was / here)]
    rw [a1, a2, ← e1, ← e2, Int.mul_sub]
    omega
  · rw [hr, Int.emod_def]
    have : was - here * (was / here) = was + here * (-(was / here)) := by rw [Int.mul_neg]; omega
    rw [this, Int.gcd_comm, Int.gcd_add_mul_left_left]
    exact g
  · have b1 : ((old - was / here * new).natAbs : Int) ≤ old.natAbs + was / here * new.natAbs := by
      have c1 : (old - was / here * new).natAbs ≤ old.natAbs + (was / here * new).natAbs := by omega
      have c2 : ((was / here * new).natAbs : Int) = was / here * new.natAbs := by
        rw [Int.natAbs_mul, Int.natCast_mul, Int.natAbs_of_nonneg q0]
      omega
    have b2 : ((old - was / here * new).natAbs : Int) * here ≤ (old.natAbs + was / here * new.natAbs) * here := Int.mul_le_mul_of_nonneg_right b1 (by omega)
    have b3 : (new.natAbs : Int) * (was - was / here * here) = new.natAbs * was - was / here * new.natAbs * here := by
      rw [Int.mul_sub, ← Int.mul_assoc, Int.mul_comm (new.natAbs : Int) (was / here)]
    rw [Int.add_mul] at b2
    rw [b3]
    omega
theorem NearI.small {tp bt old new was here : Int} (I : NearI tp bt old new was here) : new.natAbs ≤ bt.natAbs ∧ old.natAbs * here.natAbs ≤ bt.natAbs := by
  obtain ⟨_, _, _, h0, hw, w1, wb, sm⟩ := I
  have a1 : 0 ≤ (old.natAbs : Int) * here := Int.mul_nonneg (by omega) h0
  have a2 : (new.natAbs : Int) * 1 ≤ new.natAbs * was := Int.mul_le_mul_of_nonneg_left (by omega) (by omega)
  have a3 : 0 ≤ (new.natAbs : Int) * was := Int.mul_nonneg (by omega) (by omega)
  refine ⟨by omega, ?_⟩
  have : ((old.natAbs * here.natAbs : Nat) : Int) = (old.natAbs : Int) * here := by
    rw [Int.natCast_mul, Int.natAbs_of_nonneg h0]
  omega
/-- at the loop's end -/
theorem NearI.done {tp bt old new was here s : Int} (I : NearI tp bt old new was here) (h : ¬ 1 < here) (hs : s = 1 ∨ s = -1) : (new * s) % bt ≠ 0 := by
  obtain ⟨⟨k1, e1⟩, _, g, h0, hw, w1, wb, sm⟩ := I
  have one : here = 1 := by
    rcases Int.lt_or_le 0 here with z | z
    · omega
    · have : here = 0 := by omega
      subst this
      rw [Int.gcd_zero_right] at g
      omega
  subst one
  intro z
  obtain ⟨c, hc⟩ := Int.dvd_of_emod_eq_zero z
  have d : bt ∣ new := by
    rcases hs with rfl | rfl
    · exact ⟨c, by omega⟩
    · exact ⟨-c, by rw [Int.mul_neg]; omega⟩
  obtain ⟨c, hc⟩ := d
  have : bt * (c * tp - k1) = 1 := by
    rw [Int.mul_sub, ← Int.mul_assoc, ← hc]
    omega
  have hd : bt ∣ 1 := ⟨_, this.symm⟩
  have := Int.le_of_dvd (by decide) hd
  omega
end M
/-! Tuples of ints compared; great divisors of any sign. -/
namespace SP
open PySem PySem.Spec PyProof.Rows L2
/-! ### lexAt as the order of lists -/
theorem lexAt_shift {e r : Nat → Bool} {z : Bool} : ∀ (k i : Nat), Ob.lexAt e r z (i + 1) k = Ob.lexAt (fun j => e (j + 1)) (fun j => r (j + 1)) z i k
  | 0, i => rfl
  | k + 1, i => by
    rw [Ob.lexAt_succ, Ob.lexAt_succ, lexAt_shift k (i + 1)]
theorem lex_gen {rel : Int → Int → Bool} {z : Nat → Nat → Bool} {F : List Int → List Int → Bool} (h0 : ∀ ns, F [] ns = z 0 ns.length) (h1 : ∀ ns, F ns [] = z ns.length 0) (hz : ∀ i j, z (i + 1) (j + 1) = z i j)
    (hc : ∀ a r b q, F (a :: r) (b :: q) = if a = b then F r q else rel a b) : ∀ ns ms : List Int,
    Ob.lexAt (fun j => decide (ns.getD j 0 = ms.getD j 0)) (fun j => rel (ns.getD j 0) (ms.getD j 0)) (z ns.length ms.length) 0 (min ns.length ms.length) = F ns ms
  | [], ms => by
    rw [h0]
    show Ob.lexAt _ _ _ 0 (min 0 ms.length) = _
    rw [Nat.zero_min, Ob.lexAt_zero] <;> rfl
  | a :: r, [] => by
    rw [h1]
    show Ob.lexAt _ _ _ 0 (min (a :: r).length 0) = _
    rw [Nat.min_zero, Ob.lexAt_zero] <;> rfl
  | a :: r, b :: q => by
    have ih := lex_gen h0 h1 hz hc r q
    have e : min (a :: r).length (b :: q).length = min r.length q.length + 1 := by
      show min (r.length + 1) (q.length + 1) = _
      omega
    rw [e, Ob.lexAt_succ, lexAt_shift, hc]
    have e2 : z (a :: r).length (b :: q).length = z r.length q.length := hz _ _
    rw [e2]
    by_cases h : a = b
    · have d : decide ((a :: r).getD 0 0 = (b :: q).getD 0 0) = true := by simpa using h
      rw [if_pos d, if_pos h, ← ih] <;> rfl
    · have d : ¬ decide ((a :: r).getD 0 0 = (b :: q).getD 0 0) = true := by simpa using h
      rw [if_neg d, if_neg h] <;> rfl
theorem lt_nil_l (ns : List Int) : M.lt [] ns = decide (0 < ns.length) := by cases ns <;> rfl
theorem lt_nil_r (ns : List Int) : M.lt ns [] = decide (ns.length < 0) := by cases ns <;> simp [M.lt]
theorem lt_cons (a : Int) (r : List Int) (b : Int) (q : List Int) : M.lt (a :: r) (b :: q) = if a = b then M.lt r q else decide (a < b) := rfl
theorem lex_lt (ns ms : List Int) : Ob.lexAt (fun j => decide (ns.getD j 0 = ms.getD j 0)) (fun j => decide (ns.getD j 0 < ms.getD j 0)) (decide (ns.length < ms.length)) 0 (min ns.length ms.length) = M.lt ns ms :=
  lex_gen (rel := fun a b => decide (a < b)) (z := fun i j => decide (i < j)) (F := M.lt) lt_nil_l lt_nil_r (fun i j => by simp) lt_cons ns ms
theorem lex_gt (ns ms : List Int) : Ob.lexAt (fun j => decide (ns.getD j 0 = ms.getD j 0)) (fun j => decide (ms.getD j 0 < ns.getD j 0)) (decide (ns.length > ms.length)) 0 (min ns.length ms.length) = M.lt ms ns :=
  lex_gen (rel := fun a b => decide (b < a)) (z := fun i j => decide (i > j)) (F := fun a b => M.lt b a) (fun ns => by rw [lt_nil_r]) (fun ns => by rw [lt_nil_l]) (fun i j => by simp)
    (fun a r b q => by rw [lt_cons]; by_cases h : a = b <;> simp [h, eq_comm]) ns ms
theorem lex_le (ns ms : List Int) : Ob.lexAt (fun j => decide (ns.getD j 0 = ms.getD j 0)) (fun j => decide (ns.getD j 0 ≤ ms.getD j 0)) (decide (ns.length ≤ ms.length)) 0 (min ns.length ms.length) = !M.lt ms ns :=
  lex_gen (rel := fun a b => decide (a ≤ b)) (z := fun i j => decide (i ≤ j)) (F := fun a b => !M.lt b a) (fun ns => by rw [lt_nil_r]; simp) (fun ns => by rw [lt_nil_l]; cases ns <;> simp) (fun i j => by simp)
    (fun a r b q => by
      rw [lt_cons]
      by_cases h : a = b
      · simp [h]
      · have h' : ¬ b = a := fun e => h e.symm
        rw [if_neg h, if_neg h', ← decide_not]
        congr 1
        apply propext
        constructor <;> intro k <;> omega) ns ms
theorem lex_ge (ns ms : List Int) : Ob.lexAt (fun j => decide (ns.getD j 0 = ms.getD j 0)) (fun j => decide (ms.getD j 0 ≤ ns.getD j 0)) (decide (ns.length ≥ ms.length)) 0 (min ns.length ms.length) = !M.lt ns ms :=
  lex_gen (rel := fun a b => decide (b ≤ a)) (z := fun i j => decide (i ≥ j)) (F := fun a b => !M.lt a b) (fun ns => by rw [lt_nil_l]; cases ns <;> simp) (fun ns => by rw [lt_nil_r]; simp) (fun i j => by simp)
    (fun a r b q => by
      rw [lt_cons]
      by_cases h : a = b
      · simp [h]
      · rw [if_neg h, if_neg h, ← decide_not]
        congr 1
        apply propext
        constructor <;> intro k <;> omega) ns ms
def rOrd (K : PySem.W.Frag) (F : List Int → List Int → Bool) : R2 := fun x y H Q => ∃ (a b : Addr) (ns ms : List Int), x = .ref a ∧ y = .ref b ∧ SqT K H a (ns.map V.int) ∧ SqT K H b (ms.map V.int) ∧ Q (.bl (F ns ms)) H
theorem op_ord {X : Cx} {op : CmpOp} {rel : Int → Int → Bool} {z : Nat → Nat → Bool} {F : List Int → List Int → Bool} (hop : ∀ a b, compareOp op a b = richCompare op a b) (hu : X.A.units < cLine)
    (T : ∀ {A : Around} {s : Shared} {l b : Addr} {items items2 : Array Value} {e r : Nat → Bool}, s.heap.IsTuple l items → s.heap.IsTuple b items2 → A.units < cLine → (∀ j (h1 : j < items.size) (h2 : j < items2.size), SeqAt.EqAt A.in1 s items[j] items2[j] (e j)) →
      (∀ j (h1 : j < items.size) (h2 : j < items2.size), e j = false → Ob.RcOp op A.in1 s items[j] items2[j] (r j)) → Ob.RcOp op A s (.ref l) (.ref b) (Ob.lexAt e r (z items.size items2.size) 0 (min items.size items2.size)))
    (N : ∀ {A : Around} {s : Shared} (a b : Int) (t u : Tok), Ob.RcOp op A s (.int a t) (.int b u) (rel a b))
    (L : ∀ ns ms : List Int, Ob.lexAt (fun j => decide (ns.getD j 0 = ms.getD j 0)) (fun j => rel (ns.getD j 0) (ms.getD j 0)) (z ns.length ms.length) 0 (min ns.length ms.length) = F ns ms) : OpR X (compareOp op) (rOrd X.K F) := by
  intro pins s σ H x y v u Q I rx ry h
  obtain ⟨a, b, ns, ms, rfl, rfl, ha, hb, q⟩ := h
  cases (show v = Value.ref a from rx)
  cases (show u = Value.ref b from ry)
  obtain ⟨its, r1, p1, _⟩ := I.tuple ha
  obtain ⟨its2, r2, p2, _⟩ := I.tuple hb
  have i1 : IntsAre its ns := Vals.ints r1
  have i2 : IntsAre its2 ms := Vals.ints r2
  have e1 : its.toArray.size = ns.length := by rw [List.size_toArray]; exact i1.length
  have e2 : its2.toArray.size = ms.length := by rw [List.size_toArray]; exact i2.length
  have R := T (A := X.A) (s := s) (e := fun j => decide (ns.getD j 0 = ms.getD j 0)) (r := fun j => rel (ns.getD j 0) (ms.getD j 0)) p1 p2 hu
    (fun j h1 h2 => by
      obtain ⟨t, et⟩ := PyProof.Rows.IntsAre.int_at i1 j its.toArray[j] (by simp at h1; simp [h1])
      obtain ⟨t', et'⟩ := PyProof.Rows.IntsAre.int_at i2 j its2.toArray[j] (by simp at h2; simp [h2])
      rw [et, et', ← Bool.beq_eq_decide_eq]
      exact SeqAt.EqAt.int_int _ _ _ _)
    (fun j h1 h2 _ => by
      obtain ⟨t, et⟩ := PyProof.Rows.IntsAre.int_at i1 j its.toArray[j] (by simp at h1; simp [h1])
      obtain ⟨t', et'⟩ := PyProof.Rows.IntsAre.int_at i2 j its2.toArray[j] (by simp at h2; simp [h2])
      rw [et, et']
      exact N _ _ _ _)
  rw [e1, e2, L] at R
  rw [hop]
  exact R _ _ _ _ ⟨.bl _, H, I, rfl, q⟩
section
variable {X : Cx}
theorem op_ltI (hu : X.A.units < cLine) : OpR X (compareOp .Lt) (rOrd X.K M.lt) := op_ord (z := fun i j => decide (i < j)) (fun _ _ => rfl) hu Ob.RcOp.tuples_lt Ob.RcOp.lt_int lex_lt
theorem op_gtI (hu : X.A.units < cLine) : OpR X (compareOp .Gt) (rOrd X.K fun a b => M.lt b a) := op_ord (z := fun i j => decide (i > j)) (fun _ _ => rfl) hu Ob.RcOp.tuples_gt Ob.RcOp.gt_int lex_gt
theorem op_leI (hu : X.A.units < cLine) : OpR X (compareOp .LtE) (rOrd X.K fun a b => !M.lt b a) := op_ord (z := fun i j => decide (i ≤ j)) (fun _ _ => rfl) hu Ob.RcOp.tuples_le Ob.RcOp.le_int lex_le
theorem op_geI (hu : X.A.units < cLine) : OpR X (compareOp .GtE) (rOrd X.K fun a b => !M.lt a b) := op_ord (z := fun i j => decide (i ≥ j)) (fun _ _ => rfl) hu Ob.RcOp.tuples_ge Ob.RcOp.ge_int lex_ge
end
/-! ### == of tuples of ints -/
theorem eqv_ints : ∀ ns ms : List Int, PyData.eqvAll (ns.map PyData.int) (ms.map PyData.int) = decide (ns = ms)
  | [], [] => rfl
  | [], b :: q => rfl
  | a :: r, [] => rfl
  | a :: r, b :: q => by
    show (a == b && PyData.eqvAll (r.map PyData.int) (q.map PyData.int)) = _
    rw [eqv_ints r q]
    by_cases h : a = b <;> simp [h]
theorem dp_ints {K : PySem.W.Frag} {H : Hp} : ∀ ns : List Int, DpAll K H (ns.map V.int) (ns.map PyData.int)
  | [] => .nil
  | a :: r => .cons (.int a) (dp_ints r)
theorem can_ints : ∀ ns : List Int, PyData.canLayAll0 (ns.map PyData.int) = true
  | [] => by simp [PyData.canLayAll0]
  | a :: r => by
    show (PyData.canLay0 (.int a) && PyData.canLayAll0 (r.map PyData.int)) = true
    rw [can_ints r]
    simp [PyData.canLay0]
theorem depth_ints : ∀ ns : List Int, PyData.depthAll (ns.map PyData.int) = 0
  | [] => by simp [PyData.depthAll]
  | a :: r => by
    show max (PyData.depth (.int a)) (PyData.depthAll (r.map PyData.int)) = 0
    rw [depth_ints r]
    simp [PyData.depth]
theorem shaped_ints (ns : List Int) : SeqAt.shaped (.tuple (ns.map PyData.int)) = true := by
  have e1 : PyData.canLay0 (.tuple (ns.map PyData.int)) = true := by
    show PyData.canLayAll0 _ = true
    exact can_ints ns
  have e2 : PyData.depth (.tuple (ns.map PyData.int)) = 1 := by
    show PyData.depthAll _ + 1 = 1
    rw [depth_ints]
  unfold SeqAt.shaped
  rw [e1, e2]
  rfl
def rEqI (K : PySem.W.Frag) : R2 := fun x y H Q => ∃ (a b : Addr) (ns ms : List Int), x = .ref a ∧ y = .ref b ∧ SqT K H a (ns.map V.int) ∧ SqT K H b (ms.map V.int) ∧ Q (.bl (decide (ns = ms))) H
theorem op_eqI {X : Cx} (hu : X.A.units + 64 < cLine) : OpR X (compareOp .Eq) (rEqI X.K) := by
  intro pins s σ H x y v u Q I rx ry h
  obtain ⟨a, b, ns, ms, rfl, rfl, ha, hb, q⟩ := h
  refine op_eqD hu pins s σ H _ _ v u Q I rx ry ⟨.tuple (ns.map PyData.int), .tuple (ms.map PyData.int), .tup ha (dp_ints ns), .tup hb (dp_ints ms), shaped_ints ns, shaped_ints ms, ?_⟩
  have e : PyData.eqv (.tuple (ns.map PyData.int)) (.tuple (ms.map PyData.int)) = decide (ns = ms) := eqv_ints ns ms
  rw [e]
  exact q
/-! ### floor division by a great divisor of any sign -/
def CDivA (i j : Int) : Prop := j ≠ 0 ∧ j.natAbs.log2 < 9000
theorem op_fdivA {X : Cx} : OpR X (binaryOp .FloorDiv) (rI CDivA fun i j => .int (i.fdiv j)) := opI fun i j _ _ _ _ _ hc q => floordiv_int hc.1 q (.inl (PyProof.noPylong_of_log2 hc.2))
end SP
/-! Defs of the module by their names; heaps that keep all but one object. -/
namespace SP
open PySem PySem.Spec PyProof.Rows L2
section
variable {P : Program} {w : World} {K : PySem.W.Frag} {mg : Str → Option Value} {base : Heap}
/-- the module's name x holds a def that keeps the promise sp -/
structure DefG (P : Program) (w : World) (K : PySem.W.Frag) (mg : Str → Option Value) (base : Heap) (k : Nat) (x : Str) (ps : List Str) (sp : Sp) : Prop where
  ex : ∃ (f : Addr) (fd : FuncData), mg x = some (.ref f) ∧ PySem.W.keepIn K (.ref f) = true ∧ FnG P w K mg base CX0 k f fd ps sp ∧ Binds K fd ps []
theorem okG0 {x qual : Str} {st : Stmt} {f : Addr} {fd : FuncData} {N ps : List Str} {k : Nat} {sp : Sp} (F : Fun K x qual st f fd) (S : FnScope N ps (defScope st)) (len : ∀ vs H Q E, sp vs H Q E → vs.length = ps.length)
    (hbody : ∀ (cdv : Value) (A : Around) (out : List Env) (s : Shared) (H : Hp) (vs : List V) (Q : VK) (E : XK), A.guards = some [] → Room k (A.deeper (envOfC qual (defScope st) s.heap.objs.size f cdv)) → sp vs H Q E →
      ∃ t, PSs (cxOf CX0 P w K mg base N qual (defScope st) f cdv A out s H E).nox (defBody st) t ∧ t { nx := fun _ H' => Q .non H', rt := Q } (start N vs) H) : FnG P w K mg base CX0 (k + 1) f fd ps sp :=
  okG F S len fun cdv A out s H vs Q E gd hr h => let ⟨t, a, b⟩ := hbody cdv A out s H vs Q E gd hr h; ⟨t, a.nox, b⟩
/-- a def of the module: where it stands, its function object -/
structure Top (K : PySem.W.Frag) (mg : Str → Option Value) (x : Str) (st : Stmt) (ps : List Str) : Prop where
  ex : ∃ (f : Addr) (fd : FuncData), mg x = some (.ref f) ∧ Fun K x x st f fd ∧ Binds K fd ps []
theorem Top.ok {x : Str} {st : Stmt} {N ps : List Str} {k : Nat} {sp : Sp} (T : Top K mg x st ps) (S : FnScope N ps (defScope st)) (len : ∀ vs H Q E, sp vs H Q E → vs.length = ps.length)
    (hbody : ∀ (f : Addr) (cdv : Value) (A : Around) (out : List Env) (s : Shared) (H : Hp) (vs : List V) (Q : VK) (E : XK), A.guards = some [] → Room k (A.deeper (envOfC x (defScope st) s.heap.objs.size f cdv)) → sp vs H Q E →
      ∃ t, PSs (cxOf CX0 P w K mg base N x (defScope st) f cdv A out s H E).nox (defBody st) t ∧ t { nx := fun _ H' => Q .non H', rt := Q } (start N vs) H) : DefG P w K mg base (k + 1) x ps sp := by
  obtain ⟨f, fd, hm, F, hb⟩ := T.ex
  exact ⟨f, fd, hm, F.kp, okG0 F S len (hbody f), hb⟩
/-- the same, whatever runs around -/
structure DefO (P : Program) (w : World) (K : PySem.W.Frag) (mg : Str → Option Value) (base : Heap) (k : Nat) (x : Str) (ps : List Str) (sp : Sp) : Prop where
  ex : ∃ (f : Addr) (fd : FuncData), mg x = some (.ref f) ∧ PySem.W.keepIn K (.ref f) = true ∧ FnOk P w K mg base CX0 k f fd ps sp ∧ Binds K fd ps []
theorem DefO.g {k : Nat} {x : Str} {ps : List Str} {sp : Sp} (D : DefO P w K mg base k x ps sp) : DefG P w K mg base k x ps sp := let ⟨f, fd, a, b, F, c⟩ := D.ex; ⟨f, fd, a, b, .of F, c⟩
theorem Top.okO {x : Str} {st : Stmt} {N ps : List Str} {k : Nat} {sp : Sp} (T : Top K mg x st ps) (S : FnScope N ps (defScope st)) (len : ∀ vs H Q E, sp vs H Q E → vs.length = ps.length)
    (hbody : ∀ (f : Addr) (cdv : Value) (A : Around) (out : List Env) (s : Shared) (H : Hp) (vs : List V) (Q : VK) (E : XK), Room k (A.deeper (envOfC x (defScope st) s.heap.objs.size f cdv)) → sp vs H Q E →
      ∃ t, PSs (cxOf CX0 P w K mg base N x (defScope st) f cdv A out s H E).nox (defBody st) t ∧ t { nx := fun _ H' => Q .non H', rt := Q } (start N vs) H) : DefO P w K mg base (k + 1) x ps sp := by
  obtain ⟨f, fd, hm, F, hb⟩ := T.ex
  exact ⟨f, fd, hm, F.kp, F.ok S len (hbody f), hb⟩
end
section
variable {X : Cx} {k : Nat} {x : Str} {ps : List Str} {sp : Sp} {e : Expr} {es : List Expr} {t : TA} {p pos : Pos}
theorem pe_callD (D : DefG X.prog X.w X.K X.mg X.base k x ps sp) (gd : X.A.guards = some []) (hr : Room k X.A) (ha : PA X (e :: es) t) (hg : Gl X x := by rfl) (hdb : (x == ("__debug__" : Str)) = false := by decide)
    (hst : starEach (e :: es) X.env = (false, eval e X.env) :: starEach es X.env := by rfl) (hpl : (backTo pos (starEach es X.env)).any (·.1) = false := by rfl) : PE X (.Call (.Name x p) (e :: es) [] pos) (tCall sp [] E0 t) := by
  obtain ⟨f, fd, hm, hk, F, hb⟩ := D.ex
  exact pe_callC (rn_g F gd hr hb .nil pass0) hm hk ha hg hdb hst hpl
theorem pe_callD0 (D : DefG X.prog X.w X.K X.mg X.base k x ps sp) (gd : X.A.guards = some []) (hr : Room k X.A) (hg : Gl X x := by rfl) (hdb : (x == ("__debug__" : Str)) = false := by decide) : PE X (.Call (.Name x p) [] [] pos) (tCall sp [] E0 tNil) := by
  obtain ⟨f, fd, hm, hk, F, hb⟩ := D.ex
  exact pe_callC0 (rn_g F gd hr hb .nil pass0) hm hk hg hdb
theorem pe_callO (D : DefO X.prog X.w X.K X.mg X.base k x ps sp) (hr : Room k X.A) (ha : PA X (e :: es) t) (hg : Gl X x := by rfl) (hdb : (x == ("__debug__" : Str)) = false := by decide)
    (hst : starEach (e :: es) X.env = (false, eval e X.env) :: starEach es X.env := by rfl) (hpl : (backTo pos (starEach es X.env)).any (·.1) = false := by rfl) : PE X (.Call (.Name x p) (e :: es) [] pos) (tCall sp [] E0 t) := by
  obtain ⟨f, fd, hm, hk, F, hb⟩ := D.ex
  exact pe_callC (rn_of F hr hb .nil pass0) hm hk ha hg hdb hst hpl
/-- a stronger reading -/
theorem pe_imp {e : Expr} {t t' : TE} (h : PE X e t) (i : ∀ σ H Q, t' σ H Q → t σ H Q) : PE X e t' := ⟨fun pins s σ H Q I q => h.run pins s σ H Q I (i σ H Q q)⟩
end

/-! ### heaps -/
/-- all tracked objects but the one at p are as they were -/
def Kp (p : Addr) (H H' : Hp) : Prop := ∀ b o, H b = some o → b ≠ p → H' b = some o
theorem Kp.refl (p : Addr) (H : Hp) : Kp p H H := fun _ _ h _ => h
theorem Kp.trans {p : Addr} {H H1 H2 : Hp} (a : Kp p H H1) (b : Kp p H1 H2) : Kp p H H2 := fun c o h n => b c o (a c o h n) n
theorem Kp.of {p : Addr} {H H' : Hp} (s : Same H H') : Kp p H H' := fun b o h _ => s b o h
theorem Kp.upd {p : Addr} {H : Hp} {o : HO} : Kp p H (upd H p o) := fun b u h n => by rw [upd_ne n]; exact h
theorem Kp.new {p q : Addr} {H : Hp} {o : HO} (h : H q = none) : Kp p H (L2.upd H q o) := fun b u e _ => by rw [upd_ne (ne_of_none e h)]; exact e
theorem Same.new {q : Addr} {H : Hp} {o : HO} (h : H q = none) : Same H (L2.upd H q o) := fun b u e => by rw [upd_ne (ne_of_none e h)]; exact e
theorem Same.tup {K : PySem.W.Frag} {H H' : Hp} {a : Addr} {xs : List V} (e : Same H H') (h : SqT K H a xs) : SqT K H' a xs := by
  rcases h with (h | ⟨o, h⟩) | h
  · exact .inl (.inl (e _ _ h))
  · exact .inl (.inr ⟨o, e _ _ h⟩)
  · exact .inr h
/-- an object that is no list stands where only a list may have changed -/
theorem Kp.get {p b : Addr} {H H' : Hp} {xs : List V} {o : HO} (k : Kp p H H') (hp : H p = some (.lst xs)) (h : H b = some o) (n : o ≠ .lst xs) : H' b = some o := k b o h (ne_of h hp n)
theorem Kp.tup {p b : Addr} {H H' : Hp} {xs ys : List V} (k : Kp p H H') (hp : H p = some (.lst xs)) (h : H b = some (.tup ys)) : H' b = some (.tup ys) := k.get hp h (fun z => nomatch z)
theorem Kp.ins {p b C dx : Addr} {H H' : Hp} {xs : List V} {fs : List (Str × V)} (k : Kp p H H') (hp : H p = some (.lst xs)) (h : H b = some (.ins C dx fs)) : H' b = some (.ins C dx fs) := k.get hp h (fun z => nomatch z)

/-! ### the pot that the draws are taken from: a list of two ints -/
def Pot (H : Hp) (p : Addr) : Prop := ∃ a b : Int, H p = some (.lst [.int a, .int b]) ∧ 0 ≤ a ∧ 0 ≤ b ∧ b < 2147483648
theorem Pot.same {H H' : Hp} {p : Addr} (h : Pot H p) (s : Same H H') : Pot H' p := let ⟨a, b, e, q⟩ := h; ⟨a, b, s _ _ e, q⟩
theorem Pot.lst {H : Hp} {p : Addr} (h : Pot H p) : ∃ xs, H p = some (.lst xs) := let ⟨a, b, e, _⟩ := h; ⟨_, e⟩

/-! ### an Amount -/
def amF (t b : Int) (pl : Addr) : List (Str × V) := [("own_top", .int t), ("own_bottom", .int b), ("own_place", .ref pl)]
/-- at a an Amount of the class at C: its top, its bottom above 0, its place -/
def AmAt (C : Addr) (H : Hp) (a : Addr) (t b : Int) : Prop := 0 < b ∧ ∃ dx pl : Addr, H a = some (.ins C dx (amF t b pl)) ∧ H pl = some (.tup ((M.plc 1 t b.toNat).map V.int))
theorem AmAt.same {C a : Addr} {H H' : Hp} {t b : Int} (h : AmAt C H a t b) (s : Same H H') : AmAt C H' a t b := let ⟨z, dx, pl, h1, h2⟩ := h; ⟨z, dx, pl, s _ _ h1, s _ _ h2⟩
theorem AmAt.kp {C a p : Addr} {H H' : Hp} {t b : Int} {xs : List V} (h : AmAt C H a t b) (k : Kp p H H') (hp : H p = some (.lst xs)) : AmAt C H' a t b := let ⟨z, dx, pl, h1, h2⟩ := h; ⟨z, dx, pl, k.ins hp h1, k.tup hp h2⟩
theorem n_tb : ¬ (("own_top" : Str) = "own_bottom") := by decide +kernel
theorem n_tp : ¬ (("own_top" : Str) = "own_place") := by decide +kernel
theorem n_bp : ¬ (("own_bottom" : Str) = "own_place") := by decide +kernel
theorem am_put1 (t b : Int) : putF "own_bottom" (.int b) (putF "own_top" (.int t) []) = ([("own_top", .int t), ("own_bottom", .int b)] : List (Str × V)) := by
  show (if ("own_top" : Str) = "own_bottom" then [(("own_top" : Str), V.int b)] else (("own_top" : Str), V.int t) :: [(("own_bottom" : Str), V.int b)]) = _
  rw [if_neg n_tb] <;> rfl
theorem am_put (t b : Int) (pl : Addr) : putF "own_place" (.ref pl) (putF "own_bottom" (.int b) (putF "own_top" (.int t) [])) = amF t b pl := by
  rw [am_put1]
  show (if ("own_top" : Str) = "own_place" then _ else (("own_top" : Str), V.int t) :: (if ("own_bottom" : Str) = "own_place" then _ else (("own_bottom" : Str), V.int b) :: [(("own_place" : Str), V.ref pl)])) = _
  rw [if_neg n_tp, if_neg n_bp] <;> rfl
theorem am_top (t b : Int) (pl : Addr) : (amF t b pl).lookup ("own_top" : Str) = some (.int t) := by
  rw [← am_put, lookup_putF, if_neg n_tp, lookup_putF, if_neg n_tb, lookup_putF, if_pos rfl]
theorem am_bottom (t b : Int) (pl : Addr) : (amF t b pl).lookup ("own_bottom" : Str) = some (.int b) := by
  rw [← am_put, lookup_putF, if_neg n_bp, lookup_putF, if_pos rfl]
theorem am_place (t b : Int) (pl : Addr) : (amF t b pl).lookup ("own_place" : Str) = some (.ref pl) := by
  rw [← am_put, lookup_putF, if_pos rfl]
theorem am_no (t b : Int) (pl : Addr) {m : Str} (h1 : ¬ m = "own_top") (h2 : ¬ m = "own_bottom") (h3 : ¬ m = "own_place") : (amF t b pl).lookup m = none := by
  rw [← am_put, lookup_putF, if_neg h3, lookup_putF, if_neg h2, lookup_putF, if_neg h1] <;> rfl
end SP
/-! A def whose first test leads to «return NotImplemented». -/
namespace SP
open PySem PySem.Spec PyProof.Rows L2
theorem boot_ni : bootBuiltins "NotImplemented" = some .notImplemented := by decide +kernel
theorem execs_decl {X : Cx} {c : Expr} {p pos pos2 : Pos} {rest : List Stmt} {tc : TT} (hc : PT X c tc) (hg : Gl X "NotImplemented") (hm : X.mg "NotImplemented" = none) {pins : List (Addr × Obj)} {s : Shared} {σ : L2.St} {H : Hp} (I : Inv X pins σ H s)
    (h : tc σ H (fun b H' => b = true ∧ Same H H')) :
    wpAny (model X.prog X.w) X.A (execs (.If c [.Return (some (.Name "NotImplemented" p)) pos2] [] pos :: rest) X.env) (fun fl s' => fl = .ret .notImplemented ∧ ∃ σ' H', Inv X pins σ' H' s' ∧ Same H H') X.xe s := by
  refine wpAny_execs_cons (wpAny_If (thn (hc.run pins s σ H _ I h) ?_))
  intro b s1 ⟨H1, I1, e, sm⟩
  subst e
  refine wpAny_execs_cons (wpAny_Return_some (ld_blt I1 hg hm boot_ni ?_))
  exact ⟨rfl, σ, H1, I1, sm⟩
theorem rnN_of {X : Cx} {N ps : List Str} {x qual : Str} {st : Stmt} {f : Addr} {fd : FuncData} {D : List V → Hp → Prop} {kk : Nat} {c : Expr} {p pos pos2 : Pos} {rest : List Stmt} (F : Fun X.K x qual st f fd) (S : FnScope N ps (defScope st)) (hr : Room (kk + 1) X.A) (hb : Binds X.K fd ps [])
    (len : ∀ vs H, D vs H → vs.length = ps.length) (hbody : defBody st = .If c [.Return (some (.Name "NotImplemented" p)) pos2] [] pos :: rest) (hm : X.mg "NotImplemented" = none)
    (go : ∀ (cdv : Value) (A : Around) (out : List Env) (s : Shared) (H : Hp) (vs : List V), Room kk (A.deeper (envOfC qual (defScope st) s.heap.objs.size f cdv)) → D vs H →
      ∃ tc, PT (cxOf CX0 X.prog X.w X.K X.mg X.base N qual (defScope st) f cdv A out s H E0).nox c tc ∧ Gl (cxOf CX0 X.prog X.w X.K X.mg X.base N qual (defScope st) f cdv A out s H E0).nox "NotImplemented" ∧ tc (start N vs) H (fun b H' => b = true ∧ Same H H')) : RnN X f D := by
  obtain ⟨oc, od, kV, doc, pm, an, cdv, ct, osl, rfl, lk, hcd⟩ := F.ex
  intro pins σ H s us vs I rv hD
  have hl := len vs H hD
  have ln : (us ++ []).length = ps.length := by rw [List.append_nil, ← rv.length, hl]
  have bd := hb s us I.kIn ln
  rw [List.append_nil] at bd
  obtain ⟨tc, hc, hg, ht⟩ := go cdv X.A X.stack s H vs (hr.deeper _) hD
  refine wpAny_call (codeAny_mono (enter_def (E := E0) (CX := CX0) (R := fun r s' => r = .ok (.ret .notImplemented) ∧ ∃ H', s'.os = s.os ∧ AllBare s'.gens ∧ Un (frs X.stack) [] H H' s.heap s'.heap ∧ HOk X.prog X.w H' s'.heap ∧ Same H H') lk hcd S hr I.env0 bd rv hl ?_) ?_)
  · intro s1 J
    rw [hbody]
    refine wpAny_mono (execs_decl hc hg hm (J.wish fun _ _ => False) ht) ?_ fun _ _ z => z.elim
    intro fl s2 z
    obtain ⟨rfl, σ2, H2, J2, sm⟩ := z
    exact ⟨rfl, H2, J2.os, J2.bare, J2.base, J2.hok, sm⟩
  · intro r s2 z
    obtain ⟨rfl, H2, z1, z2, z3, z4, sm⟩ := z
    obtain ⟨hh, g, d, t, os'⟩ := s2
    have e : os' = s.os := z1
    subst e
    exact ⟨rfl, H2, I.call (h' := hh) (g' := g) (d' := d) (t' := t) (ch := []) z3 z4 z2 (fun b z => (List.not_mem_nil z).elim), sm⟩
end SP
/-! str and repr of own instances; lists of bools shown. -/
namespace SP
open PySem PySem.Spec PyProof.Rows L2
theorem str_back {X : Cx} {pins : List (Addr × Obj)} {σ : L2.St} {Q : VK} {u : Value} {s' : Shared} (h : EP X pins σ (fun v H' => ∃ z, v = .str z ∧ Q v H') u s') : PySem.W.StrBack (EP X pins σ Q) u s' := by
  obtain ⟨v, H', I', r, z, rfl, q⟩ := h
  obtain ⟨t, rfl⟩ := r
  exact ⟨.str z, H', I', ⟨t, rfl⟩, q⟩
theorem ep_out1 {X : Cx} {pins : List (Addr × Obj)} {σ : L2.St} {Q : VK} {u : Value} {s' : Shared} (h : EP (in1 X) pins σ Q u s') : EP X pins σ Q u s' := let ⟨v, H', I', r, q⟩ := h; ⟨v, H', inv_out1 I', r, q⟩
/-- f(o), o an instance whose own method (promise sp) answers with a text -/
def rShow (C : Addr) (sp : Sp) (E : XK) : List V → Hp → VK → Prop := fun xs H Q => ∃ (a dx : Addr) (fs : List (Str × V)), xs = [.ref a] ∧ H a = some (.ins C dx fs) ∧ sp [.ref a] H (fun v H' => ∃ z, v = .str z ∧ Q v H') E
section
variable {X : Cx} {C f : Addr} {sp : Sp} {E : XK}
theorem call_reprO (hu : X.A.units + 1 < cLine) (hs : PySem.W.findIn X.K (.ref C) "__repr__" = some (some (.ref f))) (hf : PySem.W.isFn X.K (.ref f) = true) (R : Rn (in1 X) f sp [] E) : CallR X (.builtin "repr") (rShow C sp E) := by
  intro pins s σ H xs us Q I r h
  obtain ⟨a, dx, fs, rfl, ea, h⟩ := h
  obtain ⟨u, rfl, ru⟩ := vals1 r
  cases (show u = Value.ref a from ru)
  obtain ⟨mA, O, _⟩ := ins_get I.hok ea
  obtain ⟨od, J, _⟩ := O.look
  obtain ⟨m, F⟩ := I.fr
  exact PySem.W.repr_K hu F I.mod.kin J hs hf (thn (R pins σ H s _ [.ref a] [.ref a] (inv_in1 I) (.cons rfl .nil) h) fun v s' q => str_back (ep_out1 q))
theorem call_strO (hu : X.A.units + 2 < cLine) (hs : PySem.W.findIn X.K (.ref C) "__str__" = some (some (.ref f))) (hf : PySem.W.isFn X.K (.ref f) = true) (R : Rn (in1 (in1 X)) f sp [] E) : CallR X (.type "str") (rShow C sp E) := by
  intro pins s σ H xs us Q I r h
  obtain ⟨a, dx, fs, rfl, ea, h⟩ := h
  obtain ⟨u, rfl, ru⟩ := vals1 r
  cases (show u = Value.ref a from ru)
  obtain ⟨mA, O, _⟩ := ins_get I.hok ea
  obtain ⟨od, J, _⟩ := O.look
  exact PySem.W.kso_call hu I.kIn J hs hf (thn (R pins σ H s _ [.ref a] [.ref a] (inv_in1 (inv_in1 I)) (.cons rfl .nil) h) fun v s' q => str_back (ep_out1 (ep_out1 q)))
end
/-! ### lists of bools -/
theorem dp_bools {K : PySem.W.Frag} {H : Hp} : ∀ bs : List Bool, DpAll K H (bs.map V.bl) (bs.map PyData.bool)
  | [] => .nil
  | a :: r => .cons (.bl a) (dp_bools r)
theorem len1921 {i : Int} (h : i.natAbs.log2 < 1920) : (PySem.Str.ofString (toString i)).length ≤ 1921 := by
  have e := int_text_length_le (k := 1920) (by decide) h
  rw [PySem.ofString_length]
  omega
theorem small_log {i : Int} {n : Nat} (h : i.natAbs < 2 ^ n) (h0 : 0 < n) (hn : n ≤ 1920) : i.natAbs.log2 < 1920 := Nat.lt_of_lt_of_le (PySem.Flt.log2_lt_of h0 h) hn
end SP
/-! +, -, * of own instances: both of one class, one of them an int; the own sign, abs and bool. -/
namespace SP
open PySem PySem.Spec PyProof.Rows L2
/-- back: no NotImplemented -/
theorem back_val {X : Cx} {pins : List (Addr × Obj)} {σ : L2.St} {Q : VK} {v : Value} {s' : Shared} (h : EP X pins σ Q v s') : PySem.W.CmpBack (EP X pins σ Q) v s' := by
  obtain ⟨v', H', I', r', q'⟩ := h
  exact back_rel r' ⟨v', H', I', r', q'⟩
section
variable {X : Cx} {C f g : Addr} {sp : Sp} {E : XK} {op : Operator}
/-- x op y, both of the class at C -/
def rBinS (C : Addr) (sp : Sp) (E : XK) : R2 := fun x y H Q => ∃ (a b dx dy : Addr) (fs gs : List (Str × V)), x = .ref a ∧ y = .ref b ∧ H a = some (.ins C dx fs) ∧ H b = some (.ins C dy gs) ∧ sp [.ref a, .ref b] H Q E
theorem op_binS (hc : PySem.W.selfFirst X.K C = true) (hs : PySem.W.findIn X.K (.ref C) (PySem.dunder op.info.2) = some (some (.ref f))) (hf : PySem.W.isFn X.K (.ref f) = true) (R : Rn X f sp [] E) : OpR X (binaryOp op) (rBinS C sp E) := by
  intro pins s σ H x y v u Q I rx ry h
  obtain ⟨a, b, dx, dy, fs, gs, rfl, rfl, ea, eb, h⟩ := h
  cases (show v = Value.ref a from rx)
  cases (show u = Value.ref b from ry)
  obtain ⟨mA, O, _⟩ := ins_get I.hok ea
  obtain ⟨od, J, _⟩ := O.look
  obtain ⟨mB, O2, _⟩ := ins_get I.hok eb
  obtain ⟨od2, J2, _⟩ := O2.look
  obtain ⟨m, F⟩ := I.fr
  exact PySem.W.binop_K F I.mod.kin J J2.type hc hs hf (thn (R pins σ H s Q [.ref a, .ref b] [.ref a, .ref b] I (.cons rfl (.cons rfl .nil)) h) fun w' s' z => back_val z)
/-- x op i -/
def rBinI (C : Addr) (sp : Sp) (E : XK) : R2 := fun x y H Q => ∃ (a dx : Addr) (fs : List (Str × V)) (i : Int), x = .ref a ∧ y = .int i ∧ H a = some (.ins C dx fs) ∧ sp [.ref a, .int i] H Q E
theorem op_binI {fo ro : Option Value} (hc : PySem.W.selfFirst X.K C = true) (hs : PySem.W.findIn X.K (.ref C) (PySem.dunder op.info.2) = some (some (.ref f))) (hf : PySem.W.isFn X.K (.ref f) = true) (hr : PySem.W.findIn X.K (.ref C) (dunderR op.info.2) = some (some (.ref g)))
    (h1 : fastLookup "int" (PySem.dunder op.info.2) = some fo) (h2 : fastLookup "int" (dunderR op.info.2) = some ro) (R : Rn X f sp [] E) : OpR X (binaryOp op) (rBinI C sp E) := by
  intro pins s σ H x y v u Q I rx ry h
  obtain ⟨a, dx, fs, i, rfl, rfl, ea, h⟩ := h
  cases (show v = Value.ref a from rx)
  obtain ⟨t, z⟩ := (show ∃ t, u = Value.int i t from ry)
  cases z
  obtain ⟨mA, O, _⟩ := ins_get I.hok ea
  obtain ⟨od, J, _⟩ := O.look
  obtain ⟨m, F⟩ := I.fr
  exact PySem.W.ksp_binT F I.mod.kin J (T := "int") rfl hc hs hf hr (.inr ⟨g, rfl⟩) h1 h2 (sub_built mro_int rfl) (thn (R pins σ H s Q [.ref a, .int i t] [.ref a, .int i] I (.cons rfl (.cons ⟨t, rfl⟩ .nil)) h) fun w' s' z => back_val z)
end
/-- both forms -/
def rBinM (C : Addr) (sp : Sp) (E : XK) : R2 := fun x y H Q => rBinS C sp E x y H Q ∨ rBinI C sp E x y H Q
section
variable {prog : Program} {w : World} {A : Around} {E : Value → Shared → Prop} {s : Shared} {K : PySem.W.Frag} {x C f : Addr} {ox : Obj} {od : Option Obj} {nm : String}
/-- int op own: the own reflected method -/
theorem binI_K {op : Operator} {i : Int} {t : Tok} {id : String} {Q : Value → Shared → Prop} {dx : Addr} (X : K.In s.heap) (I : PySem.W.InstAt s.heap x ox C od) (hx : s.heap.get? x = some (PySem.W.instObj C dx)) (hc : PySem.W.selfFirst K C = true)
    (hs : PySem.W.findIn K (.ref C) (PySem.dunder op.info.2) = some (some (.ref f))) {g : Addr} (hr : PySem.W.findIn K (.ref C) (dunderR op.info.2) = some (some (.ref g))) (hf : PySem.W.isFn K (.ref g) = true) (hsub : PySem.W.subIn K (.ref C) (.type "int") = some false)
    (fI : fillsNumberSlot (.type "int") op.info.2 = pure true) (slot : Slot "int" (PySem.dunder op.info.2) id)
    (no : ∀ {Q' : Shared → Prop}, Q' s → wpAny (model prog w) A (call (.builtin id) [.int i t, .ref x]) (fun v s' => v = .notImplemented ∧ Q' s') E s)
    (h : wpAny (model prog w) A (call (.ref g) [.ref x, .int i t]) (PySem.W.CmpBack Q) E s) : wpAny (model prog w) A (binaryOp op (.int i t) (.ref x)) Q E s := by
  obtain ⟨cd, rest, hcd, hm⟩ := PySem.W.ksp_first hc
  rcases hi : op.info with ⟨sym, nm'⟩
  rw [hi] at hs hr fI slot
  dsimp only at hs hr fI slot
  have one := PySem.W.ksp_try X I hr hf h
  have L1 : PySem.W.Looks (model prog w) s.heap (typeOf (.ref x)) (.ref C) := I.type
  have L3 : PySem.W.Looks (model prog w) s.heap (fillsNumberSlot (.ref C) nm') true := PySem.W.fills_K X hcd hm hs
  have L5 : PySem.W.Looks (model prog w) s.heap (isSubtype (.ref C) (.type "int")) false := PySem.W.looks_subIn X hsub
  have hne : (Value.type "int" == Value.ref C) = false := Bool.eq_false_iff.mpr fun q => by cases beq_iff_eq.mp q
  simp only [binaryOp, hi]
  refine wpAny_holding (wpAny_bind ?_)
  unfold binaryOp1
  refine wpAny_bind (wpAny_pure (wpAny_bind (L1.here (wpAny_bind (wpAny_of_eq fI ?_)))))
  simp only [hne, Bool.false_eq_true, if_false]
  refine wpAny_bind (L3.here ?_)
  simp only [Bool.and_self, if_true]
  refine wpAny_bind (L5.here ?_)
  simp only [Bool.false_eq_true, if_false]
  rw [if_pos (show (true && !false) = true from rfl)]
  refine wpAny_bind (wpAny_pure ?_)
  simp only [Bool.false_eq_true, if_false]
  refine wpAny_bind (wpAny_tryMethod_declines (T := "int") rfl slot (no ?_))
  dsimp only
  rw [if_pos (show (true && !false) = true from rfl)]
  refine wpAny_bind (wpAny_mono one (fun r s' hr' => ?_) fun _ _ e => e)
  obtain ⟨v, rfl, hq⟩ := hr'
  exact wpAny_bind (wpAny_rule (wpAny_pure (wpAny_pure hq)))
theorem int_add_no {dx : Addr} {i : Int} {t : Tok} {Q : Shared → Prop} (hx : s.heap.get? x = some (PySem.W.instObj C dx)) (q : Q s) : wpAny (model prog w) A (call (.builtin "int.__add__") [.int i t, .ref x]) (fun v s' => v = .notImplemented ∧ Q s') E s := by
  refine GQ.call_here F.slot_int_add rfl F.entry_int_add (F.args_int_add_2 _ _) ?_
  wp_walk using asInt_inst hx
  exact ⟨rfl, q⟩
theorem int_sub_no {dx : Addr} {i : Int} {t : Tok} {Q : Shared → Prop} (hx : s.heap.get? x = some (PySem.W.instObj C dx)) (q : Q s) : wpAny (model prog w) A (call (.builtin "int.__sub__") [.int i t, .ref x]) (fun v s' => v = .notImplemented ∧ Q s') E s := by
  refine GQ.call_here F.slot_int_sub rfl F.entry_int_sub (F.args_int_sub_2 _ _) ?_
  wp_walk using asInt_inst hx
  exact ⟨rfl, q⟩
theorem int_mul_no {dx : Addr} {i : Int} {t : Tok} {Q : Shared → Prop} (hx : s.heap.get? x = some (PySem.W.instObj C dx)) (q : Q s) : wpAny (model prog w) A (call (.builtin "int.__mul__") [.int i t, .ref x]) (fun v s' => v = .notImplemented ∧ Q s') E s := by
  refine GQ.call_here F.slot_int_mul rfl F.entry_int_mul (F.args_int_mul_2 _ _) ?_
  wp_walk using asInt_inst hx
  exact ⟨rfl, q⟩
end
section
variable {X : Cx} {C f g : Addr} {sp : Sp} {E : XK}
/-- i op x -/
def rBinR (C : Addr) (sp : Sp) (E : XK) : R2 := fun x y H Q => ∃ (a dx : Addr) (fs : List (Str × V)) (i : Int), x = .int i ∧ y = .ref a ∧ H a = some (.ins C dx fs) ∧ sp [.ref a, .int i] H Q E
theorem op_binR {op : Operator} {id : String} (hc : PySem.W.selfFirst X.K C = true) (hs : PySem.W.findIn X.K (.ref C) (PySem.dunder op.info.2) = some (some (.ref f))) (hr : PySem.W.findIn X.K (.ref C) (dunderR op.info.2) = some (some (.ref g))) (hf : PySem.W.isFn X.K (.ref g) = true)
    (hsub : PySem.W.subIn X.K (.ref C) (.type "int") = some false) (fI : fillsNumberSlot (.type "int") op.info.2 = pure true) (slot : Slot "int" (PySem.dunder op.info.2) id)
    (no : ∀ {x dx : Addr} {i : Int} {t : Tok} {s : Shared} {Q : Shared → Prop}, s.heap.get? x = some (PySem.W.instObj C dx) → Q s → wpAny (model X.prog X.w) X.A (call (.builtin id) [.int i t, .ref x]) (fun v s' => v = .notImplemented ∧ Q s') X.xe s)
    (R : Rn X g sp [] E) : OpR X (binaryOp op) (rBinR C sp E) := by
  intro pins s σ H x y v u Q I rx ry h
  obtain ⟨a, dx, fs, i, rfl, rfl, ea, h⟩ := h
  cases (show u = Value.ref a from ry)
  obtain ⟨t, z⟩ := (show ∃ t, v = Value.int i t from rx)
  cases z
  obtain ⟨mA, O, _⟩ := ins_get I.hok ea
  obtain ⟨od, J, _⟩ := O.look
  exact binI_K (dx := dx) I.kIn J J.1 hc hs hr hf hsub fI slot (fun q => no J.1 q) (thn (R pins σ H s Q [.ref a, .int i t] [.ref a, .int i] I (.cons rfl (.cons ⟨t, rfl⟩ .nil)) h) fun w' s' z => back_val z)
/-- -x -/
def rUnC (C : Addr) (sp : Sp) (E : XK) : V → Hp → VK → Prop := fun x H Q => ∃ (a dx : Addr) (fs : List (Str × V)), x = .ref a ∧ H a = some (.ins C dx fs) ∧ sp [.ref a] H Q E
theorem un_negC (hs : PySem.W.findIn X.K (.ref C) "__neg__" = some (some (.ref f))) (hf : PySem.W.isFn X.K (.ref f) = true) (R : Rn X f sp [] E) : UnR X (unaryOp .USub) (rUnC C sp E) := by
  intro pins s σ H x v Q I rx h
  obtain ⟨a, dx, fs, rfl, ea, h⟩ := h
  cases (show v = Value.ref a from rx)
  obtain ⟨mA, O, _⟩ := ins_get I.hok ea
  obtain ⟨od, J, _⟩ := O.look
  obtain ⟨m, F⟩ := I.fr
  exact PySem.W.ksp_neg F I.mod.kin J hs hf (R pins σ H s Q [.ref a] [.ref a] I (.cons rfl .nil) h)
end
end SP
/-! abs, bool of own instances; keywords alone; a class in a local name. -/
namespace SP
open PySem PySem.Spec PyProof.Rows L2
section
variable {X : Cx} {C f : Addr} {sp : Sp} {E : XK}
def rOne1 (C : Addr) (sp : Sp) (E : XK) : List V → Hp → VK → Prop := fun xs H Q => ∃ (a dx : Addr) (fs : List (Str × V)), xs = [.ref a] ∧ H a = some (.ins C dx fs) ∧ sp [.ref a] H Q E
theorem call_absC (hs : PySem.W.findIn X.K (.ref C) "__abs__" = some (some (.ref f))) (hf : PySem.W.isFn X.K (.ref f) = true) (R : Rn (in1 X) f sp [] E) : CallR X (.builtin "abs") (rOne1 C sp E) := by
  intro pins s σ H xs us Q I r h
  obtain ⟨a, dx, fs, rfl, ea, h⟩ := h
  obtain ⟨u, rfl, ru⟩ := vals1 r
  cases (show u = Value.ref a from ru)
  obtain ⟨mA, O, _⟩ := ins_get I.hok ea
  obtain ⟨od, J, _⟩ := O.look
  refine PySem.Calls.call_function_entry kind_abs plain_abs entry_abs (args_abs _) ?_
  unfold Builtin.«abs»
  refine wpAny_bind (m := oneArg "abs" _) (wpAny_pure ?_)
  refine wpAny_bind (m := callSpecial? (.ref a) (Str.ofString "__abs__")) (PySem.W.special_fn I.kIn J hs (beq_iff_eq.mp hf) (thn (R pins σ H s _ [.ref a] [.ref a] (inv_in1 I) (.cons rfl .nil) h) fun v s' q => ?_))
  exact wpAny_pure ⟨_, rfl, ep_out1 q⟩
def rBool1 (C : Addr) (sp : Sp) (E : XK) : List V → Hp → VK → Prop := fun xs H Q => ∃ (a dx : Addr) (fs : List (Str × V)), xs = [.ref a] ∧ H a = some (.ins C dx fs) ∧ sp [.ref a] H (fun v H' => ∃ b, v = .bl b ∧ Q (.bl b) H') E
theorem meets_bool_own {prog : Program} {w : World} (x : Addr) : MeetsIn prog w (Builtin.«bool.__new__» ⟨[.type "bool", .ref x], []⟩) (fun A R s => wpAny (model prog w) A.in1 (truthy (.ref x)) (fun b s' => R (.ok (.ret (.bool b))) s') (fun e s' => R (.error e) s') s) :=
  MeetsIn.of_wp fun A R s hs => by
    have f1 := F.conv_sub_bool
    unfold Builtin.«bool.__new__»
    refine wpAny_bind (wpAny_pure ?_)
    rw [if_neg (show ¬ (!true) = true from by decide)]
    refine wpAny_bind (wpAny_of_eq f1 ?_)
    rw [if_neg (show ¬ (!true) = true from by decide)]
    refine wpAny_bind (wpAny_pure ?_)
    refine wpAny_bind (wpAny_mono hs (fun b s' q => ?_) fun _ _ e => e)
    exact wpAny_pure ⟨_, rfl, q⟩
theorem call_boolC (hs : PySem.W.findIn X.K (.ref C) "__bool__" = some (some (.ref f))) (hf : PySem.W.isFn X.K (.ref f) = true) (R : Rn (in1 (in1 X)) f sp [] E) : CallR X (.type "bool") (rBool1 C sp E) := by
  intro pins s σ H xs us Q I r h
  obtain ⟨a, dx, fs, rfl, ea, h⟩ := h
  obtain ⟨u, rfl, ru⟩ := vals1 r
  cases (show u = Value.ref a from ru)
  obtain ⟨mA, O, _⟩ := ins_get I.hok ea
  obtain ⟨od, J, _⟩ := O.look
  obtain ⟨m, Fm⟩ := I.fr
  refine callType_newIn F.called_bool F.newNe_bool (F.typeCall_bool_1 _) (F.newCall_bool_1 _) (fun obj => F.args_object_init_2 obj _) F.entry_bool_new (meets_bool_own a) ?_
  refine PySem.W.truthy_K Fm I.mod.kin J hs hf (thn (R pins σ H s _ [.ref a] [.ref a] (inv_in1 (inv_in1 I)) (.cons rfl .nil) h) fun v s' q => ?_)
  obtain ⟨v', H', I', r', b, rfl, q'⟩ := q
  cases (show v = Value.bool b from r')
  exact ⟨rfl, .bl b, H', inv_out1 (inv_out1 I'), rfl, q'⟩
/-! ### keywords alone -/
variable {fd : FuncData} {ps ks : List Str} {k : Nat} {CX : CXT} {x m : Str} {p pos apos : Pos} {o : Expr} {kws : List Keyword} {ta : TE} {tk : TA} {g : List Value → List Value → List Value} {gV : List V → List V → List V}
/-- f(k = v, ..) -/
theorem pe_callK0 (F : FnOk X.prog X.w X.K X.mg X.base CX k f fd ps sp) (hr : Room k X.A) (hg : Gl X x) (hm : X.mg x = some (.ref f)) (hk : PySem.W.keepIn X.K (.ref f) = true) (hb : KBn X.K fd ps 0 ks g gV) (hx : Passes CX X E)
    (hkw : PK X kws tk) (hall : (backToKw pos (keywordEach kws X.env)).all (·.1.isSome) = true := by rfl) (hks : (backToKw pos (keywordEach kws X.env)).filterMap (·.1) = ks := by rfl)
    (hdb : (x == ("__debug__" : Str)) = false := by decide)
    (hpl : ((backTo pos (starEach [] X.env)).any (·.1) || (backToKw pos (keywordEach kws X.env)).any (·.1.isNone)) = false := by rfl) :
    PE X (.Call (.Name x p) [] kws pos) (tCallN 0 ks.length sp gV E tNil tk) := by
  refine ⟨fun pins s σ H Q I h => ?_⟩
  refine wpAny_Call_Name_kw (ld_glob I hg hm ?_ hdb)
  refine PySem.W.callWith_KW0 (h₀ := X.base) I.ok.mod.kin hk hall ?_ hpl
  refine thn (hkw.run pos pins s σ H _ I h) fun ws s2 ⟨zs, H2, I2, rz, l1, l2, q2⟩ => ⟨I2.kIn, ?_⟩
  rw [hks]
  exact run_fnN (us := []) (vs := []) F hr hb hx I2 .nil rz l1 l2 q2
/-- o.m(k = v, ..) -/
def tMethK (C : Addr) (m : Str) (n : Nat) (sp : Sp) (gV : List V → List V → List V) (E : XK) (ta : TE) (tk : TA) : TE := fun σ H Q => ta σ H fun x H1 => ∃ (a dx : Addr) (fs : List (Str × V)), x = .ref a ∧ H1 a = some (.ins C dx fs) ∧ fs.lookup m = none ∧ tk σ H1 fun zs H2 => zs.length = n ∧ sp (gV [.ref a] zs) H2 Q E
theorem pe_methK0 {pl : Sem Bool} (he : PE X o ta) (c : Cls X.K C) (hm : Meth X.K C m f) (F : FnOk X.prog X.w X.K X.mg X.base CX k f fd ps sp) (hr : Room k X.A) (hb : KBn X.K fd ps 1 ks g gV) (hx : Passes CX X E) (hkw : PK X kws tk)
    (hall : (backToKw pos (keywordEach kws X.env)).all (·.1.isSome) = true := by rfl) (hks : (backToKw pos (keywordEach kws X.env)).filterMap (·.1) = ks := by rfl)
    (hpl : ((backTo pos (starEach [] X.env)).any (·.1) || (backToKw pos (keywordEach kws X.env)).any (·.1.isNone)) = false := by rfl)
    (ht : eval (.Call (.Attribute o m apos) [] kws pos) X.env = (do
      let ov ← eval o X.env
      standAt apos.atName
      let (f, first) ← holding [ov] (getMethod ov m pl)
      callWith pos f first (backTo pos (starEach [] X.env)) (backToKw pos (keywordEach kws X.env))) := by rfl) :
    PE X (.Call (.Attribute o m apos) [] kws pos) (tMethK C m ks.length sp gV E ta tk) := by
  refine ⟨fun pins s σ H Q I h => ?_⟩
  refine PySem.W.methodCall_KW (pl := pl) (thn (he.run pins s σ H _ I h) fun u s1 ⟨x, H1, I1, rx, a, dx, fs, ex, ea, l, q⟩ => ?_) ht
  subst ex
  obtain rfl : u = Value.ref a := rx
  refine getmeth_ok I1 ea c hm l ?_
  refine PySem.W.callWith_KW0 (first := [.ref a]) (h₀ := X.base) I1.ok.mod.kin hm.kp hall ?_ hpl
  refine thn (hkw.run pos pins s1 σ H1 _ I1 q) fun ws s2 ⟨zs, H2, I2, rz, l2, q2⟩ => ⟨I2.kIn, ?_⟩
  rw [hks]
  exact run_fnN (us := [.ref a]) (vs := [.ref a]) F hr hb hx I2 (.cons rfl .nil) rz rfl l2 q2
/-- positional ones, then the named ones, in the parameters' order -/
theorem fun_kbn {K : PySem.W.Frag} {x qual : Str} {st : Stmt} {f : Addr} {fd : FuncData} {ps ks : List Str} {n : Nat} (F : Fun K x qual st f fd)
    (h : ∀ (kV doc pm : Value) (an : Option Addr) (cdv ct : Value) (us ws : List Value), us.length = n → ws.length = ks.length → bindArgs (PySem.W.fnOf x qual (defArgs st) (defBody st) (defScope st) .none kV doc pm an cdv ct) ⟨us, ks.zip ws⟩ = pure (ps.zip (us ++ ws))) :
    KBn K fd ps n ks (fun us ws => us ++ ws) (fun vs zs => vs ++ zs) := by
  obtain ⟨oc, od, kV, doc, pm, an, cdv, ct, osl, rfl, lk, hcd⟩ := F.ex
  exact ⟨fun s us ws X l1 l2 => .of_eq (h kV doc pm an cdv ct us ws l1 l2), fun r1 r2 => r1.append r2⟩
/-! ### a class in a local name -/
variable {i : Nat} {dvs : List V} {e : Expr} {es : List Expr} {t : TA}
theorem pe_callV (R : Rn X f sp dvs E) (hN : X.N[i]? = some x) (hv : Vis X.env.scope x) (hk : PySem.W.keepIn X.K (.ref f) = true) (ha : PA X (e :: es) t)
    (hdb : (x == ("__debug__" : Str)) = false := by decide) (hcd : (x == ("__classdict__" : Str)) = false := by decide)
    (he : starEach (e :: es) X.env = (false, eval e X.env) :: starEach es X.env := by rfl) (hpl : (backTo pos (starEach es X.env)).any (·.1) = false := by rfl) : PE X (.Call (.Name x p) (e :: es) [] pos) (tCallL i f sp dvs E t) := by
  refine ⟨fun pins s σ H Q I h => ?_⟩
  obtain ⟨hs, ht⟩ := h
  refine wpAny_Call_Name_kw (thn ((pe_var (pos := p) hN hv hdb hcd).run pins s σ H (fun v H1 => v = .ref f ∧ H1 = H) I ⟨.ref f, hs, rfl, rfl⟩) fun u s1 ⟨v, H1, I1, r1, q1⟩ => ?_)
  obtain ⟨rfl, rfl⟩ := q1
  cases r1
  refine PySem.W.callWith_K (h₀ := X.base) I.ok.mod.kin hk (thn (ha.run pos pins s1 σ _ _ I1 ht) fun us s2 ⟨vs, H2, I2, r, q⟩ => ⟨I2.kIn, ?_⟩) he hpl
  exact R pins σ H2 s2 Q us vs I2 r q
end
end SP
/-! Own errors whose __init__ says super().__init__(text), then self.f = value. -/
namespace SP
open PySem PySem.Spec PyProof.Rows L2
section
open PySem.W PySem.Calls
variable {prog : Program} {w : World} {A : Around} {E : Value → Shared → Prop} {s : Shared} {h₀ : Heap} {L : Addr} {m mg mb : Str → Option Value} {news : List (Addr × Obj)} {K : Frag} {x C D f cc cda so u : Addr} {ox : Obj} {odx : Option Obj} {B i newId : String} {bmB : List Value}
/-- super() in a def of a class -/
theorem sup_node {body : List Stmt} {q : Str} {scope : Scope} {p0 p1 : Pos} {attr : Str} {whole : Sem Value} {fd : FuncData} {ar : Arg} {vs : Array Value} {file : Str} {tf : Tok} {oc ccl cl : Value} {od cdd cld : Option Addr} {osl ccs csl : Array (Option Value)} {cdD : ClassData} {Q : Value → Shared → Prop}
    (F : Fr h₀ L s.heap m) (X₀ : K.In h₀) (N : News h₀ L s.heap news) (Tg : h₀.Ns mainGlobals mg) (Tb : h₀.Ns builtinsNs mb) (Tn : ∀ x : Str, x ≠ "__name__" → mb x = bootBuiltins x)
    (hf : K.lookup f = some ⟨oc, od, .func fd, osl⟩) (hp : (fd.params.posonlyargs ++ fd.params.args).head? = some ar) (hv : m ar.arg = some (.ref x)) (I : InstAt s.heap x ox C odx)
    (hcode : K.lookup cda = some ⟨ccl, cdd, .fields vs, ccs⟩) (hvs : vs[2]? = some (.str file tf)) (hfile : ((prog.main.file : Str) == file) = true)
    (hcell : K.lookup cc = some ⟨cl, cld, .cell (some (.ref D)), csl⟩) (hD : clsIn K D = some cdD) (hsub : mroIn K C (.ref D) = some true) (hsuper : nsIn K mainGlobals "super" = some none)
    (hat : (attr == ("__class__" : Str)) = false) (hks : scope.names.lookup ("super" : Str) = some .globalImplicit) (hkc : scope.names.lookup ("__class__" : Str) = some .free) (hka : scope.names.lookup ar.arg = some .local) (hk : scope.kind = .function)
    (htop : (prog.main.scope.names.lookup ("super" : Str)).isSome = false) (hboot : bootBuiltins "super" = some (.type "super"))
    (h : ∀ so h', Fr h₀ L h' m → News h₀ L h' ((so, ks_superObj D x C) :: news) → (∀ b o, s.heap.get? b = some o → h'.get? b = some o) → Q (.ref so) { s with heap := h' }) :
    _root_.PySem.wpAt (model prog w) A (.func body (ksEnv q scope L f (.ref cda) cc)) (attributeBase (.Call (.Name "super" p0) [] [] p1) attr (ksEnv q scope L f (.ref cda) cc) whole) Q E s := by
  have X : K.In s.heap := X₀.keeps F.keep
  obtain ⟨hh, g, d, t, os⟩ := s
  obtain ⟨oD, hD1, hD2⟩ : ∃ oD, hh.get? D = some oD ∧ oD.data = .cls cdD := by
    unfold clsIn at hD
    split at hD
    · rename_i c d cd' sl ho
      cases hD
      exact ⟨_, X _ _ ho, rfl⟩
    · cases hD
  refine ks_wpAt_super_base (env := ksEnv q scope L f (.ref cda) cc) hks hkc hat rfl (X _ _ hf) rfl hp rfl (X _ _ hcode) rfl hvs hfile htop ?_
  refine ks_loadName_global hk hks (loadGlobal_builtin (env := ksEnv q scope L f (.ref cda) cc) (Tg.keeps F.keep) (mg_none_of X₀ Tg hsuper) (Tb.keeps F.keep) ((Tn _ (by decide +kernel)).trans hboot) ⟨rfl, ?_⟩)
  refine wpAny_loadName_free hk hkc rfl ⟨_, X _ _ hcell, rfl⟩ ?_
  refine wpAny_loadName_local hk hka F.ns hv ?_
  refine ks_wpAny_isType_cls hD1 hD2 ⟨rfl, ?_⟩
  refine ks_wpAny_call_super hD1 hD2 I.at_ I.cls (fun c e => ?_) (looks_mroIn X hsub) (fun h' e k => ?_)
  · have := I.no
    unfold notCls at this
    rw [e] at this
    exact Bool.noConfusion this
  · obtain ⟨F', N', l'⟩ := ks_newsPush (s := ⟨hh, g, d, t, os⟩) F N rfl e k
    exact h _ _ F' N' k
/-- the bound __init__ of the base, called -/
theorem sup_call {t : Addr} {dv : Option Addr} {c2 : Value} {rest : List Value} {Q : Value → Shared → Prop} (X : K.In s.heap) (FB : ExcBaseFacts B newId i bmB) (q : excInitIn K C bmB newId = true) (hu : s.heap.get? u = some (kxs_mw i x))
    (he : s.heap.get? x = some (excObj C t dv c2)) (hz : rest.length ≤ sizeLine)
    (h : ∀ t' h', (∀ b o, b ≠ x → s.heap.get? b = some o → h'.get? b = some o) → h'.get? x = some (excObj C t' dv c2) → Q .none { s with heap := h' }) :
    wpAny (model prog w) A (call (.ref u) rest) Q E s := by
  obtain ⟨nm, N', qn, bs, bm, hdct, sn, sub, ab, col, dd, k0, k1, k2, k3, k5, hC, hT⟩ := excInit_of X q
  obtain ⟨hh, g, d, tk, os⟩ := s
  refine wpAny_call (codeAny_of_tree ?_)
  show wpAny _ A.in1 (callAny (.ref u) ⟨rest, []⟩) _ _ _
  simp only [callAny]
  refine wpAny_bind (wpAny_load hu ?_)
  simp only [kxs_mw, show (Value.type "method-wrapper" == Value.type "method" || Value.type "method-wrapper" == Value.type "builtin_function_or_method" || Value.type "method-wrapper" == Value.type "method-wrapper") = true by decide, if_true]
  refine KFB.if_so (by decide) ?_
  refine wpAny_bind (check_bound_init FB.toExcCallFacts hC he rfl ?_)
  refine wpAny_bind (wpAny_pure (wpAny_pure ?_))
  refine ⟨plainId_quiet FB.init.plain _, codeAny_builtin FB.initEntry ?_⟩
  exact exc_init_tree (cls := .ref C) (t0 := t) (dv := dv) (c2 := c2) (c3 := .none) (b4 := .bool false) he hz fun h' k e' _ => h _ h' k e'
end
end SP
/-! An own error's __init__ as a def's promise: super().__init__(text), then self.field = value. -/
namespace SP
open PySem PySem.Spec PyProof.Rows L2 PySem.W PySem.Calls
/-- the body -/
def errB (txt fld vn : Str) (k0 : Nat) (p0 p1 p2 p3 p4 p5 p6 p7 p8 p9 : Pos) : List Stmt :=
  [.Expr (.Call (.Attribute (.Call (.Name "super" p0) [] [] p1) "__init__" p2) [.Constant (.str txt) k0 p3] [] p4) p5, .Assign [.Attribute (.Name "self" p6) fld p7] (.Name vn p8) p9]
/-- what the body promises: the exception at a bears the field -/
def spErr (C : Addr) (fld : Str) : Sp := fun vs H Q _ => ∃ a y, vs = [.ref a, y] ∧ H a = some (exo a C none) ∧ ∀ dx, H dx = none → dx ≠ a → Q .non (upd (upd H dx (exd dx [(fld, y)])) a (exo a C (some dx)))
/-- what the written part says -/
structure ErrIn (K : Frag) (C D f cc cda : Addr) (fd : FuncData) (q file fld B i newId : String) (bmB : List Value) : Prop where
  oex : OexC K C
  fn : ∃ oc od osl, K.lookup f = some ⟨oc, od, .func fd, osl⟩
  code : ∃ ccl cdd vs ccs tf, K.lookup cda = some ⟨ccl, cdd, .fields vs, ccs⟩ ∧ vs[2]? = some (.str (Str.ofString file) tf)
  rec' : codeIn K (.ref cda) (Str.ofString q) = true
  cell : ∃ cl cld csl, K.lookup cc = some ⟨cl, cld, .cell (some (.ref D)), csl⟩
  cls : ∃ cdD, clsIn K D = some cdD
  sub : mroIn K C (.ref D) = some true
  sup : nsIn K mainGlobals "super" = some none
  st : nsIn K cStatics "thirdparty.any" = some none
  ini : ks_superIn K C D "__init__" = some (some (.builtin i))
  subB : subIn K (.ref C) (.type B) = some true
  exI : excInitIn K C bmB newId = true
  fld' : findIn K (.ref C) (Str.ofString fld) = some none
section
variable {P : Program} {w : World} {K : Frag} {mg : Str → Option Value} {base : Heap} {CX : CXT} {k : Nat} {C D f cc cda : Addr} {name q file fld : String} {txt vn : Str} {k0 : Nat} {p0 p1 p2 p3 p4 p5 p6 p7 p8 p9 : Pos} {params : Arguments} {scope : Scope}
  {dV kV doc pm ct : Value} {an : Option Addr} {B i newId : String} {bmB : List Value}
theorem err_run (T : ErrIn K C D f cc cda (ksFn (Str.ofString name) (Str.ofString q) params (errB txt (Str.ofString fld) vn k0 p0 p1 p2 p3 p4 p5 p6 p7 p8 p9) scope dV kV doc pm an (.ref cda) ct cc) q file fld B i newId bmB)
    (KF : KxsFacts B i) (FB : ExcBaseFacts B newId i bmB) (hfile : ((P.main.file : Str) == Str.ofString file) = true) (htop : (P.main.scope.names.lookup ("super" : Str)).isSome = false)
    (hp : ∃ ar, (params.posonlyargs ++ params.args).head? = some ar ∧ ar.arg = "self") (hne : ("self" : Str) ≠ vn)
    (hks : scope.names.lookup ("super" : Str) = some .globalImplicit) (hkc : scope.names.lookup ("__class__" : Str) = some .free) (hka : scope.names.lookup ("self" : Str) = some .local) (hkv : scope.names.lookup vn = some .local)
    (hdv : (vn == ("__debug__" : Str)) = false) (hk : scope.kind = .function) (hcell : ∀ x ∈ scope.names, x.2 ≠ .cell) (hco : scope.isCoroutine = false) (hgen : scope.isGenerator = false)
    (hcall : ∀ L, eval (.Call (.Attribute (.Call (.Name "super" p0) [] [] p1) "__init__" p2) [.Constant (.str txt) k0 p3] [] p4) (ksEnv (Str.ofString q) scope L f (.ref cda) cc) = (do
      let ov ← attributeBase (.Call (.Name "super" p0) [] [] p1) "__init__" (ksEnv (Str.ofString q) scope L f (.ref cda) cc) (eval (.Call (.Name "super" p0) [] [] p1) (ksEnv (Str.ofString q) scope L f (.ref cda) cc))
      standAt p2.atName
      let (g, first) ← holding [ov] (getMethod ov "__init__" (do return (← importBound (.Call (.Name "super" p0) [] [] p1) (ksEnv (Str.ofString q) scope L f (.ref cda) cc)).getD true))
      callWith p4 g first (backTo p4 (starEach [.Constant (.str txt) k0 p3] (ksEnv (Str.ofString q) scope L f (.ref cda) cc))) [])) :
    FnOk P w K mg base CX (k + 1) f (ksFn (Str.ofString name) (Str.ofString q) params (errB txt (Str.ofString fld) vn k0 p0 p1 p2 p3 p4 p5 p6 p7 p8 p9) scope dV kV doc pm an (.ref cda) ct cc) ["self", vn] (spErr C (Str.ofString fld)) := by
  refine ⟨fun vs H Q E ⟨a, y, e, _⟩ => by rw [e]; rfl, fun A outer s H args us vs Q E hr e0 hb r hsp => ?_⟩
  obtain ⟨a, y, rfl, ea, hq⟩ := hsp
  cases r with
  | @cons _ u0 _ ur ra r2 =>
  cases r2 with
  | @cons _ u _ ur2 ry r3 =>
  cases r3
  obtain rfl : u0 = Value.ref a := ra
  have kb : ∀ b o, base.get? b = some o → s.heap.get? b = some o := fun b o e => (e0.bs b o e).1
  have X₀ : K.In s.heap := e0.mod.kin.keeps kb
  have lim : s.heap.NoLimit := e0.mod.nolimit.keeps kb
  have Tg : s.heap.Ns mainGlobals mg := e0.mod.glob.keeps kb
  obtain ⟨mb, Tb0, Tn⟩ := e0.mod.blt
  have Tb : s.heap.Ns builtinsNs mb := Tb0.keeps kb
  obtain ⟨oc, od, osl, hf⟩ := T.fn
  obtain ⟨ccl, cdd, cvs, ccs, tf, hcode, hvs⟩ := T.code
  obtain ⟨cl, cld, csl, hcc⟩ := T.cell
  obtain ⟨cdD, hD⟩ := T.cls
  obtain ⟨ar, hp1, hp2⟩ := hp
  obtain ⟨t1, ho⟩ := exo_at e0.hok ea
  refine ks_codeAny_call_defAt hr.depth (X₀ _ _ hf) rfl lim (codeRec_of X₀ T.rec') rfl hb hcell ?_ (fun h₁ hns k₁ => ?_) hco hgen hk
  · intro x hx
    simp only [List.zip_cons_cons, List.zip_nil_right, List.mem_cons, List.not_mem_nil, or_false] at hx
    rcases hx with rfl | rfl
    · exact hka
    · exact hkv
  have F : Fr s.heap s.heap.objs.size h₁ (fun x => (List.zip ([("self" : Str), vn] : List Str) [Value.ref a, u]).reverse.lookup x) := ⟨hns, k₁, Nat.le_refl _⟩
  have I1 : InstAt h₁ a (excObj C t1 none .none) C none := ⟨k₁ _ _ ho, rfl, rfl, trivial⟩
  have ms : (List.zip ([("self" : Str), vn] : List Str) [Value.ref a, u]).reverse.lookup ("self" : Str) = some (.ref a) := by
    show List.lookup ("self" : Str) ([(vn, u), (("self" : Str), Value.ref a)] : List (Str × Value)) = _
    have e : (("self" : Str) == vn) = false := by simpa using hne
    simp [List.lookup, e]
  have mv : (List.zip ([("self" : Str), vn] : List Str) [Value.ref a, u]).reverse.lookup vn = some u := by
    show List.lookup vn ([(vn, u), (("self" : Str), Value.ref a)] : List (Str × Value)) = _
    simp [List.lookup]
  have kd : (callEnv (ksFn (Str.ofString name) (Str.ofString q) params (errB txt (Str.ofString fld) vn k0 p0 p1 p2 p3 p4 p5 p6 p7 p8 p9) scope dV kV doc pm an (.ref cda) ct cc) s.heap.objs.size f) = ksEnv (Str.ofString q) scope s.heap.objs.size f (.ref cda) cc := rfl
  rw [kd]
  have hi : interactive (ksEnv (Str.ofString q) scope s.heap.objs.size f (.ref cda) cc) = false := by
    show (scope.kind == .module && _) = false
    rw [hk]
    rfl
  refine ks_wpAt_execs_cons (ks_wpAt_Expr_any (ks_wpAt_MethodCall (pl := (do return (← importBound (.Call (.Name "super" p0) [] [] p1) (ksEnv (Str.ofString q) scope s.heap.objs.size f (.ref cda) cc)).getD true)) ?_ (hcall _)) hi)
  refine sup_node (s := { s with heap := h₁, toks := _ }) (news := []) F X₀ News.nil Tg Tb Tn hf hp1 (by rw [hp2]; exact ms) I1 hcode hvs hfile hcc hD T.sub T.sup (by decide) hks hkc (by rw [hp2]; exact hka) hk htop (by kernel_rfl) ?_
  intro so h2 F2 N2 k2
  have I2 : InstAt h2 a (excObj C t1 none .none) C none := ⟨k2 _ _ I1.at_, rfl, rfl, trivial⟩
  refine kxs_method (s := { s with heap := h2, toks := _ }) KF F2 X₀ N2 (List.mem_cons_self ..) I2 T.st T.ini T.subB (by decide) ?_
  intro q3 h3 F3 N3 _
  refine kxs_callWith1 (s := { s with heap := h3, toks := _ }) (i := i) (x := a) N3 (List.mem_cons_self ..) ?_
  refine spliced_more (wpAny_Constant_str (spliced_none ?_))
  refine ⟨kxs_at N3 (List.mem_cons_self ..), ?_⟩
  refine sup_call (s := { s with heap := h3, toks := _ }) (X₀.keeps F3.keep) FB T.exI (kxs_at N3 (List.mem_cons_self ..)) (F3.keep _ _ ho) (by rw [sizeLine_eq]; exact Nat.le_of_ble_eq_true rfl) ?_
  intro t4 h4 k4 e4
  have n4 : h4.Ns s.heap.objs.size (fun x => (List.zip ([("self" : Str), vn] : List Str) [Value.ref a, u]).reverse.lookup x) := by
    obtain ⟨oL, es, ep, hL, rr⟩ := F3.ns
    exact ⟨oL, es, ep, k4 _ _ (Nat.ne_of_gt (Heap.lt_size ho)) hL, rr⟩
  have k5 : ∀ b o, b ≠ a → s.heap.get? b = some o → h4.get? b = some o := fun b o hb e => k4 b o hb (F3.keep b o e)
  have X4 : K.In h4 := fun b o e => by
    by_cases hb : b = a
    · subst hb
      have e2 := X₀ _ _ e
      have e3 := (e0.bs b o (e0.mod.kin _ _ e)).2
      rw [ea] at e3
      cases e3
    · exact k5 b o hb (X₀ _ _ e)
  obtain ⟨nm, q', N', bs', bm, sn, sb, ab, col, dd, c0, c1, c2, c3, c5, hC, hbm⟩ := T.oex.cls
  have hcl : clsIn K C = some { name := nm, bases := bs', mro := .ref C :: bm, ns := N', qualname := q', hasDict := true, slotNames := sn, subclasses := sb, abstract := ab, collection := col, hasDel := false } := by unfold clsIn; rw [hC] <;> rfl
  refine ks_wpAt_execs_cons (ks_wpAt_Assign_Attr ?_)
  refine wpAt_of_wpAny (wpAny_Name (wpAny_loadName_local hk hkv n4 mv ?_) hdv)
  refine wpAny_Name (wpAny_loadName_local hk hka n4 ms ?_)
  refine set_plain X4 (ox := excObj C t4 none .none) (od := none) ⟨e4, rfl, rfl, trivial⟩ T.oex.sa ?_
  refine PySem.HandSPX.exc_osa X4 e4 hcl (show PySem.HandSPX.refsVE (.ref C :: bm) = true from hbm) rfl T.fld' (fun h' tk' dx k' dn dne hx hn => ?_)
  refine wpAt_of_wpAny (wpAny_execs_nil ?_)
  have sz : s.heap.objs.size ≤ h4.objs.size := by
    obtain ⟨oL, es, ep, hL, rr⟩ := n4
    exact Nat.le_of_lt (Heap.lt_size hL)
  have hnd : H dx = none := e0.hok.fresh (Nat.le_trans sz dn)
  have nd : ∀ {b : Addr} {o : Obj}, s.heap.get? b = some o → b ≠ dx := fun {b o} z => Nat.ne_of_lt (Nat.lt_of_lt_of_le (Heap.lt_size z) (Nat.le_trans sz dn))
  have na : ∀ {b : Addr}, H b = none → b ≠ a := fun {b} n z => by
    rw [z, ea] at n
    cases n
  have k6 : ∀ b o, b ≠ a → s.heap.get? b = some o → h'.get? b = some o := fun b o hb e => k' b o hb (k5 b o hb e)
  refine ⟨V.non, upd (upd H dx (exd dx [(Str.ofString fld, y)])) a (exo a C (some dx)), rfl, e0.bare, ?_, ?_, rfl, hq dx hnd dne⟩
  · exact {
      keep := fun b o z n _ _ => k6 b o (na n) z
      slot := fun b o z n _ _ => ⟨o.slots, k6 b o (na n) z⟩
      free := fun b o z n _ => by rw [upd_ne (na n), upd_ne (nd z)]; exact n
      there := fun b o z _ => by
        by_cases hb : b = a
        · exact ⟨_, by rw [hb]; exact hx⟩
        · exact ⟨o, k6 b o hb z⟩
      tups := fun b xs z => by rw [upd_ne (at_ne ea z exo_tup), upd_ne (ne_of_none z hnd)]; exact z
      frzs := fun b o v z => by rw [upd_ne (at_ne ea z exo_frz), upd_ne (ne_of_none z hnd)]; exact z
      tbls := fun b ps z => ⟨#[], by rw [upd_ne (at_ne ea z exo_tbl), upd_ne (ne_of_none z hnd), z]; simp⟩ }
  · intro b o z
    by_cases hb : b = a
    · subst hb
      rw [upd_same] at z
      cases z
      exact exo_ok hx
    · rw [upd_ne hb] at z
      by_cases hd : b = dx
      · subst hd
        rw [upd_same] at z
        cases z
        exact exd_ok hn (relO_put (fs := []) ry fun g => True.intro)
      · rw [upd_ne hd] at z
        exact (e0.hok b o z).stay (fun c v hc zz => k6 c v (by
            rcases hc with hc | hc
            · rw [hc]
              exact hb
            · exact at_ne ea hc exo_own) zz)
          (fun c hc => by rw [upd_ne (at_ne ea hc exo_own), upd_ne (ne_of_none hc hnd)]; exact hc) (fun c xs hc => by rw [upd_ne (at_ne ea hc exo_tup), upd_ne (ne_of_none hc hnd)]; exact hc)
end
end SP
/-! An own error over ValueError: made, raised. -/
namespace SP
open PySem PySem.Spec PyProof.Rows L2
/-- the module's name x holds the error class at C, whose __init__ keeps one field -/
structure ErrOk (P : Program) (w : World) (K : PySem.W.Frag) (mg : Str → Option Value) (base : Heap) (x : Str) (C : Addr) (fld : Str) : Prop where
  at_ : mg x = some (.ref C)
  oex : OexC K C
  ini : ∃ (fI : Addr) (fd : FuncData) (vn : Str), PySem.W.findIn K (.ref C) "__init__" = some (some (.ref fI)) ∧ PySem.W.typeIn K (.ref fI) = some (.type "function") ∧ FnOk P w K mg base CX0 1 fI fd ["self", vn] (spErr C fld) ∧ Binds K fd ["self", vn] []
/-- C(e): the error's dict is told, the error itself is let go -/
def tErr (C : Addr) (fld : Str) (ta : TA) : L2.St → Hp → XK → Prop := fun σ H Q => ta σ H fun vs H1 => ∃ y, vs = [y] ∧ ∀ d, H1 d = none → Q (.ref C) (some d) (upd H1 d (.xd [(fld, y)]))
section
variable {X : Cx} {W : WX} {C : Addr} {x fld : Str} {e : Expr} {ta : TA} {p pos p' : Pos}
theorem pa_wk {es : List Expr} (ha : PA X es ta) : PA X es (fun σ H Q2 => ∃ Q1 : List V → Hp → Prop, ta σ H Q1 ∧ ∀ vs H1, Q1 vs H1 → Q2 vs H1) :=
  ⟨fun pos pins s σ H Q I ⟨Q1, h, k⟩ => wpAny_mono (ha.run pos pins s σ H Q1 I h) (fun us s1 ⟨vs, H1, I1, r, q⟩ => ⟨vs, H1, I1, r, k _ _ q⟩) fun _ _ x => x⟩
theorem pmk_err (T : ErrOk X.prog X.w X.K X.mg X.base x C fld) (hr : Room 2 X.A) (ha : PA X [e] ta) (hg : Gl X x := by rfl)
    (hdb : (x == ("__debug__" : Str)) = false := by decide) (he : starEach [e] X.env = (false, eval e X.env) :: starEach [] X.env := by rfl) : PMk X (.Call (.Name x p) [e] [] pos) (tErr C fld ta) := by
  obtain ⟨fI, fd, vn, i1, i2, F, hb⟩ := T.ini
  intro pins s σ H Q I h
  refine pmk_oex (ds := []) (dvs := []) T.oex i1 i2 F hr hb .nil (fun pins σ H s e s' _ h => h.elim) hg T.at_ (pa_wk ha) hdb he (by rfl) pins s σ H Q I ⟨_, h, fun vs H1 hq => ?_⟩
  obtain ⟨y, rfl, q⟩ := hq
  refine ⟨Nat.le_of_ble_eq_true rfl, fun a na => ⟨a, y, rfl, upd_same, fun dx nd ne => ⟨rfl, dx, [(fld, y)], upd_same, ?_, ?_, ?_⟩⟩⟩
  · rw [upd_ne ne, upd_same]
  · rw [upd_ne ne] at nd
    exact nd
  · have nd' : H1 dx = none := by
      rw [upd_ne ne] at nd
      exact nd
    have e : upd (del (upd (upd (upd H1 a (exo a C none)) dx (exd dx [(fld, y)])) a (exo a C (some dx))) a) dx (.xd [(fld, y)]) = upd H1 dx (.xd [(fld, y)]) := by
      funext b
      by_cases h1 : b = dx
      · rw [h1, upd_same, upd_same]
      · rw [upd_ne h1, upd_ne h1]
        by_cases h2 : b = a
        · rw [h2, del_same, na]
        · rw [del_ne h2, upd_ne h2, upd_ne h1, upd_ne h2]
    rw [e]
    exact q dx nd'
/-- raise C(e) -/
theorem ps_err (T : ErrOk X.prog X.w X.K X.mg X.base x C fld) (hr : Room 2 X.A) (hc : X.calm = true) (tk : Takes X W) (ha : PA X [e] ta) (hg : Gl X x := by rfl)
    (hdb : (x == ("__debug__" : Str)) = false := by decide) (he : starEach [e] X.env = (false, eval e X.env) :: starEach [] X.env := by rfl) :
    PS X (.Raise (some (.Call (.Name x p) [e] [] pos)) none p') (fun _ σ H => tErr C fld ta σ H fun cls d H' => W cls d σ H') := ps_raise hc tk (pmk_err T hr ha hg hdb he)
end
end SP
/-! sum of a list of own instances. -/
namespace SP
open PySem PySem.Spec PyProof.Rows L2
section
variable {X : Cx} {R1 : R2} {pins : List (Addr × Obj)} {σ : L2.St} {it l S : Addr} {xs : List V} {RR : Result → Shared → Prop} {Pv : Nat → V → Hp → Prop}
/-- the accumulator's list -/
abbrev accO (u : Value) (c : Nat) : Obj := { cls := .type "list", dict := none, data := .seq #[u] c, slots := #[] }
theorem sum_loopO (hc : X.calm = true) (hop : OpR (in1 X).nox (binaryOp .Add) R1) (hne : S ≠ it)
    (hx : ∀ i v H, i ≤ xs.length → Pv i v H → SqL X.K H l xs)
    (hstep : ∀ i v x H, xs[i]? = some x → Pv i v H → (∃ b, x = .ref b) ∧ R1 v x H fun r H' => (∃ c, r = .ref c) ∧ Pv (i + 1) r H')
    (hv : ∀ i v H, Pv i v H → (i = 0 ∧ v = .int 0) ∨ (0 < i ∧ ∃ c, v = .ref c))
    (hR : ∀ s' H' v u, Inv (in1 X) pins σ H' s' → RelV v u → Pv xs.length v H' → RR (.ok (.ret u)) s') :
    ∀ (k i : Nat) (s : Shared) (H : Hp) (v : V) (u : Value) (c : Nat) (stage : Int), xs.length - i = k → i ≤ xs.length → (i = 0 ∧ stage = 0 ∨ 0 < i ∧ stage = 2) → Inv (in1 X) pins σ H s → FpOk (in1 X) pins H it → FpOk (in1 X) pins H S →
      s.heap.IsListIter it l i → s.heap.get? S = some (accO u c) → RelV v u → Pv i v H → codeAny (model X.prog X.w) X.A (.builtin "sum.loop" ⟨[.ref it, .ref S, rawInt stage, rawInt 0], []⟩) RR s := by
  intro k
  induction k with
  | zero =>
    intro i s H v u c stage hk hi hst I fi fS hit hS hu hP
    have hin : i = xs.length := by omega
    subst hin
    refine codeAny_builtin F.entry_sum_loop ?_
    rw [Around.under_plainId F.plain_sum_loop _]
    show wpAny _ X.A.in1 (seqItems? (.ref S) >>= _) _ _ s
    refine wpAny_bind (wpAny_seqItems hS rfl ?_)
    show wpAny _ X.A.in1 (tryCatch (pyNext (.ref it)) _ >>= _) _ _ s
    obtain ⟨its, rv, p, hz⟩ := I.list (hx _ _ _ (Nat.le_refl _) hP)
    have hl := rv.length
    obtain ⟨f0, f1, f2, f3, f4, f5⟩ := id fi
    refine wpAny_bind (wpAny_tryCatch (wpAny_pyNext_list_end (I.ok.hd hc) hit p.isList (by simp; omega) fun h' eb => ?_))
    have I2 : Inv (in1 X) pins σ H { s with heap := h' } := I.turned (t' := s.toks) (fun b o hb e => eb b o hb e) f0 f1 f3 f4 f5
    rcases hv _ _ _ hP with ⟨_, rfl⟩ | ⟨_, b, rfl⟩
    · obtain ⟨t, rfl⟩ := (show ∃ t, u = Value.int 0 t from hu)
      exact wpAny_pure (hR _ H (.int 0) _ I2 ⟨t, rfl⟩ hP)
    · cases (show u = Value.ref b from hu)
      exact wpAny_pure (hR _ H (.ref b) _ I2 rfl hP)
  | succ k ih =>
    intro i s H v u c stage hk hi hst I fi fS hit hS hu hP
    have hlt : i < xs.length := by omega
    refine codeAny_builtin F.entry_sum_loop ?_
    rw [Around.under_plainId F.plain_sum_loop _]
    show wpAny _ X.A.in1 (seqItems? (.ref S) >>= _) _ _ s
    refine wpAny_bind (wpAny_seqItems hS rfl ?_)
    show wpAny _ X.A.in1 (tryCatch (pyNext (.ref it)) _ >>= _) _ _ s
    obtain ⟨its, rv, p, hz⟩ := I.list (hx _ _ _ hi hP)
    obtain ⟨x, hxi⟩ : ∃ x, xs[i]? = some x := ⟨_, List.getElem?_eq_getElem hlt⟩
    obtain ⟨⟨b, rfl⟩, hs⟩ := hstep i v x H hxi hP
    obtain ⟨ub, hub, ru⟩ := rv.get hxi
    cases (show ub = Value.ref b from ru)
    obtain ⟨f0, f1, f2, f3, f4, f5⟩ := id fi
    obtain ⟨g0, g1, g2, g3, g4, g5⟩ := id fS
    refine wpAny_bind (wpAny_tryCatch (wpAny_pyNext_list_item hit p.isList (x := Value.ref b) (by simpa using hub) fun h' st' sb => ?_))
    have I2 : Inv (in1 X) pins σ H { s with heap := h' } := I.turned (t' := s.toks) (fun b o hb e => (sb.2 b hb).trans e) f0 f1 f3 f4 f5
    have hS' : h'.get? S = some (accO u c) := (sb.2 S hne).trans hS
    obtain ⟨oi, ei, ci, di⟩ := id st'
    have I3 : Inv (in1 X) ((S, accO u c) :: (it, oi) :: pins) σ H { s with heap := h' } := I2.pins_of fun q hq => by
      rcases List.mem_cons.mp hq with e | hq
      · subst e
        exact ⟨hS', g0, g1, g2, fun v z => by cases z⟩
      · rcases List.mem_cons.mp hq with e | hq
        · subst e
          exact ⟨ei, f0, f1, f2, fun v z => by rw [di] at z; cases z⟩
        · exact I2.pin q (List.mem_append_right _ hq)
    -- the sum of both
    have one := hop _ { s with heap := h' } σ H v (.ref b) u (.ref b) _ (I3.wish _) hu rfl hs
    have step : ∀ (r : Value) (s' : Shared) (H' : Hp) (r' : V) (e : Addr), Inv (in1 X) ((S, accO u c) :: (it, oi) :: pins) σ H' s' → r' = .ref e → RelV r' r → Pv (i + 1) r' H' →
        wpAny (model X.prog X.w) X.A.in1 (updateSeq S (fun _ => #[r]) >>= fun _ => letGo [u, Value.ref b] >>= fun _ => updateSeq S (fun _ => #[r]) >>= fun _ => again (.builtin "sum.loop" ⟨[.ref it, .ref S, rawInt 2, rawInt 0], []⟩))
          (fun fin s' => match fin with | .done f => RR (.ok f) s' | .again c' => c'.quiet = true ∧ codeAny (model X.prog X.w) X.A c' RR s') (fun e s' => RR (.error e) s') s' := by
      intro r s' H' r' e I4 er rr hP'
      subst er
      have hS4 : s'.heap.get? S = some (accO u c) := ClX.pin_at I4
      have n0 : H' S = none := ClX.pin_un I4
      have I5 := ClX.unpin I4
      have e4 : s'.heap.get? it = some oi := ClX.pin_at I5
      have m0 : H' it = none := ClX.pin_un I5
      have I6 := ClX.unpin I5
      refine wpAny_bind (wpAny_updateSeq hS4 rfl ?_)
      have hS5 := Heap.get?_update_self (Obj.mapSeq fun _ => #[r]) hS4 rfl
      refine wpAny_bind (wpAny_letGo ?_)
      refine wpAny_bind (wpAny_updateSeq hS5 rfl (wpAny_pure ⟨plainId_quiet F.plain_sum_loop _, ?_⟩))
      have hS6 := Heap.get?_update_self (Obj.mapSeq fun _ => #[r]) hS5 rfl
      have oth : ∀ b o, b ≠ S → s'.heap.get? b = some o → ((s'.heap.update S (Obj.mapSeq fun _ => #[r])).update S (Obj.mapSeq fun _ => #[r])).get? b = some o := fun b o hb eb =>
        (Heap.get?_update_other _ _ (Ne.symm hb)).trans ((Heap.get?_update_other _ _ (Ne.symm hb)).trans eb)
      have I7 : Inv (in1 X) pins σ H' { s' with heap := (s'.heap.update S (Obj.mapSeq fun _ => #[r])).update S (Obj.mapSeq fun _ => #[r]) } := I6.turned (t' := s'.toks) (fun b o hb e => oth b o hb e) n0 g1 g3 g4 g5
      exact ih (i + 1) _ H' (.ref e) r c 2 (by omega) hlt (.inr ⟨by omega, rfl⟩) I7 ⟨m0, f1, f2, f3, f4, f5⟩ ⟨n0, g1, g2, g3, g4, g5⟩ ⟨oi, oth _ _ (Ne.symm hne) e4, ci, di⟩ hS6 rr hP'
    rcases hv _ _ _ hP with ⟨rfl, rfl⟩ | ⟨hi0, d, rfl⟩
    · obtain ⟨t, rfl⟩ := (show ∃ t, u = Value.int 0 t from hu)
      have hst0 : stage = 0 := by omega
      subst hst0
      show wpAny _ X.A.in1 (rule "sum.leaves-ints" >>= fun _ => (holding [Value.ref b] (binaryOp .Add (.int 0 t) (.ref b))).attempt >>= _) _ _ _
      refine wpAny_bind (wpAny_rule ?_)
      refine wpAny_bind (wpAny_attempt (wpAny_holding (wpAny_mono one (fun r s' z => ?_) fun _ _ z => z.elim)))
      obtain ⟨r', H', I4, rr, ⟨e, er⟩, hP'⟩ := z
      have st := step r s' H' r' e I4.unwish er rr hP'
      subst er
      cases (show r = Value.ref e from rr)
      exact st
    · cases (show u = Value.ref d from hu)
      have hst2 : stage = 2 := by omega
      subst hst2
      show wpAny _ X.A.in1 ((holding [Value.ref b] (binaryOp .Add (.ref d) (.ref b))).attempt >>= _) _ _ _
      refine wpAny_bind (wpAny_attempt (wpAny_holding (wpAny_mono one (fun r s' z => ?_) fun _ _ z => z.elim)))
      obtain ⟨r', H', I4, rr, ⟨e, er⟩, hP'⟩ := z
      exact step r s' H' r' e I4.unwish er rr hP'
def rSumO (K : PySem.W.Frag) (R1 : R2) : List V → Hp → VK → Prop := fun vs H Q => ∃ (l : Addr) (xs : List V) (Pv : Nat → V → Hp → Prop), vs = [.ref l] ∧ SqL K H l xs ∧ (∀ i v H, i ≤ xs.length → Pv i v H → SqL K H l xs) ∧
  (∀ i v x H, xs[i]? = some x → Pv i v H → (∃ b, x = .ref b) ∧ R1 v x H fun r H' => (∃ c, r = .ref c) ∧ Pv (i + 1) r H') ∧ (∀ i v H, Pv i v H → (i = 0 ∧ v = .int 0) ∨ (0 < i ∧ ∃ c, v = .ref c)) ∧ Pv 0 (.int 0) H ∧ ∀ v H', Pv xs.length v H' → Q v H'
theorem call_sumO (hc : X.calm = true) (hop : OpR (in1 X).nox (binaryOp .Add) R1) : CallR X (.builtin "sum") (rSumO X.K R1) := by
  intro pins s σ H vs us Q I r h
  obtain ⟨l, xs, Pv, rfl, hq, hx, hstep, hv, h0, hQ⟩ := h
  obtain ⟨its, rv, p, hz⟩ := I.list hq
  rw [Vals.ref1 r]
  refine call_function_tree F.kind_sum F.plain_sum F.entry_sum (F.args_sum1 _) ?_
  unfold Builtin.«sum»
  simp only [List.length_cons, List.length_nil]
  rw [if_neg (by decide)]
  refine wpAny_bind (wpAny_of_eq (show Builtin.Builtins.bindParams "sum" ["start"] 0 { } = pure [none] from rfl) ?_)
  refine wpAny_bind (wpAny_pyIter_list p.isList ?_)
  refine wpAny_bind (wpAny_mkInt ?_)
  refine wpAny_bind (wpAny_pure ?_)
  simp only [List.forIn_cons, List.forIn_nil]
  refine wpAny_bind (wpAny_bind (wpAny_bind (wpAny_isInstance (T := "int") (b := false) (typeIs_int _ _ _) PySem.sub_int_str ?_)))
  simp only [Bool.false_eq_true, if_false]
  refine wpAny_pure (wpAny_bind (wpAny_bind (wpAny_isInstance (T := "int") (b := false) (typeIs_int _ _ _) PySem.sub_int_bytes ?_)))
  simp only [Bool.false_eq_true, if_false]
  refine wpAny_pure (wpAny_bind (wpAny_bind (wpAny_isInstance (T := "int") (b := false) (typeIs_int _ _ _) PySem.sub_int_bytearray ?_)))
  simp only [Bool.false_eq_true, if_false]
  refine wpAny_pure (wpAny_pure ?_)
  refine wpAny_bind (wpAny_newObj_type ?_)
  have I1 : Inv X pins σ H { s with heap := s.heap.push { cls := .type "list_iterator", data := .fields #[.ref l, .int 0 0] } } := I.kept (t' := s.toks) fun b o e => Heap.get?_push_of_some _ e
  have I2 : Inv X pins σ H { s with heap := (s.heap.push { cls := .type "list_iterator", data := .fields #[.ref l, .int 0 0] }).push { cls := .type "list", data := .seq #[.int 0 s.toks] }, toks := s.toks + 1 } := I.kept (t' := s.toks + 1) fun b o e => Heap.get?_push_of_some _ (Heap.get?_push_of_some _ e)
  have sz : (s.heap.push { cls := .type "list_iterator", data := .fields #[.ref l, .int 0 0] }).objs.size = s.heap.objs.size + 1 := Array.size_push _
  refine wpAny_pure ⟨plainId_quiet F.plain_sum_loop _, ?_⟩
  refine sum_loopO (pins := pins) (σ := σ) (l := l) (xs := xs) (Pv := Pv) hc hop ?_ hx hstep hv (fun s' H' v u I' r' hp => ⟨v, H', inv_out1 I', r', hQ v H' hp⟩) xs.length 0 _ H (.int 0) (.int 0 s.toks) 0 0 rfl (Nat.zero_le _) (.inl ⟨rfl, rfl⟩) (inv_in1 I2) ?_ ?_ ?_ ?_ ⟨_, rfl⟩ h0
  · show (s.heap.push _).objs.size ≠ s.heap.objs.size
    rw [sz]
    omega
  · exact I.fpOk (Nat.le_refl _) (I.hok.fresh (Nat.le_refl _))
  · refine I.fpOk ?_ (I.hok.fresh ?_)
    · show s.heap.objs.size ≤ (s.heap.push _).objs.size
      rw [sz]
      omega
    · show s.heap.objs.size ≤ (s.heap.push _).objs.size
      rw [sz]
      omega
  · exact ⟨_, Heap.get?_push_of_some _ (Heap.get?_push_size _ rfl), rfl, rfl⟩
  · exact Heap.get?_push_size _ rfl
end
end SP
namespace SP
open PySem PySem.Spec PyProof.Rows L2
/-- the text by places -/
def top (i : Nat) : Stmt := PySem.Challenge.pw_surepipes_k14_amounts_refused.main.body.getD i (.Pass ⟨0, 0, 0, 0⟩)
end SP
namespace SP
open PySem PySem.Spec PyProof.Rows L2
abbrev sIsInt : Stmt := top 10
abbrev sCD : Stmt := top 12
abbrev sPl : Stmt := top 13
abbrev sMEq : Stmt := inClass (top 16) 16
abbrev sMLt : Stmt := inClass (top 16) 17
abbrev sMLe : Stmt := inClass (top 16) 18
abbrev sMGt : Stmt := inClass (top 16) 19
abbrev sMGe : Stmt := inClass (top 16) 20
abbrev sMStr : Stmt := inClass (top 16) 21
abbrev sMRepr : Stmt := inClass (top 16) 22
abbrev sMTop : Stmt := inClass (top 16) 3
abbrev sInit : Stmt := inClass (top 16) 0


/-- a method as the top has written it -/
structure MethT (K : PySem.W.Frag) (C : Addr) (x qual : Str) (st : Stmt) (ps : List Str) : Prop where
  ex : ∃ (f : Addr) (fd : FuncData), PySem.W.findIn K (.ref C) x = some (some (.ref f)) ∧ PySem.W.isFn K (.ref f) = true ∧ Fun K x qual st f fd ∧ Binds K fd ps []
/-- a property -/
structure PropT (K : PySem.W.Frag) (C : Addr) (x qual : Str) (st : Stmt) : Prop where
  ex : ∃ (p g : Addr) (fd : FuncData), PropOf K C x p g ∧ Fun K x qual st g fd ∧ Binds K fd ["self"] []
/-- what isinstance(y, Amount) asks of the kinds that are not the class's -/
structure NotAm (K : PySem.W.Frag) (C : Addr) : Prop where
  i : PySem.W.kitOne K (.type "int") (.ref C) = some false
  b : PySem.W.kitOne K (.type "bool") (.ref C) = some false
  s : PySem.W.kitOne K (.type "str") (.ref C) = some false
  n : PySem.W.kitOne K (.type "NoneType") (.ref C) = some false
  t : PySem.W.kitOne K (.type "tuple") (.ref C) = some false
  l : PySem.W.kitOne K (.type "list") (.ref C) = some false
/-- what the top has written of the amounts' part -/
structure AmTxt (K : PySem.W.Frag) (mg : Str → Option Value) (C : Addr) : Prop where
  b_isinstance : mg "isinstance" = none
  b_int : mg "int" = none
  b_bool : mg "bool" = none
  b_abs : mg "abs" = none
  tII : Top K mg "is_integer" sIsInt ["value"]
  tCD : Top K mg "common_divisor" sCD ["one", "other"]
  tPl : Top K mg "place_of" sPl ["top", "bottom"]
  gC : mg "Amount" = some (.ref C)
  cl : Cls K C
  ca : PySem.W.findIn K (.ref C) "__class__" = some (some (.builtin "object.__class__"))
  cn : PySem.W.specialIn K (.builtin "object.__class__") "__get__" = some (some (.builtin "getset_descriptor.__get__"))
  ck : PySem.W.takesIn K (.builtin "object.__class__") = some true
  cm : PySem.W.mroIn K C (.type "object") = some true
  ne : PySem.W.findIn K (.ref C) "__ne__" = some (some (.builtin "object.__ne__"))
  fg : FgnOk K C
  na : NotAm K C
  nT : NoAttr K C "own_top"
  nB : NoAttr K C "own_bottom"
  nP : NoAttr K C "own_place"
  mkC : ∃ (fI : Addr) (fd : FuncData), Mk K C fI ∧ FunD K "__init__" "Amount.__init__" (defArgs sInit) (defBody sInit) (defScope sInit) [.int 1] [] fI fd
section
variable {P : Program} {w : World} {K : PySem.W.Frag} {mg : Str → Option Value} {base : Heap} {C : Addr}
/-! ### is_integer -/
/-- of any value whose kind is told -/
def spII (K : PySem.W.Frag) : Sp := fun vs H Q _ => ∃ (v : V) (t : Value) (b1 b2 : Bool), vs = [v] ∧ TyX K H v t ∧ PySem.W.kitOne K t (.type "int") = some b1 ∧ PySem.W.kitOne K t (.type "bool") = some b2 ∧ Q (.bl (b1 && !b2)) H
theorem scII : FnScope ["value"] ["value"] (defScope sIsInt) := ⟨rfl, rfl, rfl, by decide +kernel, rfl, by decide +kernel, by decide +kernel⟩
theorem d_ii (T : AmTxt K mg C) : DefO P w K mg base 1 "is_integer" ["value"] (spII K) := by
  refine T.tII.okO scII (fun vs H Q E h => ?_) (fun f cdv A out s H vs Q E hr h => ?_)
  · obtain ⟨v, t, b1, b2, rfl, _⟩ := h
    rfl
  · obtain ⟨v, t, b1, b2, rfl, ty, k1, k2, q⟩ := h
    refine ⟨_, (pss_one (ps_ret (pe_and (pe_callB call_isi (by rfl) T.b_isinstance (by decide +kernel) (pa_cons (pv 0) (pa_cons (pe_bltn (v := .ty "int") (by rfl) T.b_int (by decide +kernel) rfl) pa_nil))) (pe_one (pe_not (pe_callB call_isi (by rfl) T.b_isinstance (by decide +kernel) (pa_cons (pv 0) (pa_cons (pe_bltn (v := .ty "bool") (by rfl) T.b_bool (by decide +kernel) rfl) pa_nil)))))))), ?_⟩
    refine ⟨_, rfl, v, .ty "int", t, _, b1, rfl, .ty _, ty, k1, b1, rfl, ?_⟩
    cases b1 with
    | true => exact iteT ⟨_, rfl, v, .ty "bool", t, _, b2, rfl, .ty _, ty, k2, b2, rfl, q⟩
    | false => exact iteF q
/-! ### common_divisor -/
def spCD : Sp := fun vs H Q _ => ∃ a b : Int, vs = [.int a, .int b] ∧ Q (.int (Int.gcd a b : Nat)) H
theorem scCD : FnScope ["one", "other"] ["one", "other"] (defScope sCD) := ⟨rfl, rfl, rfl, by decide +kernel, rfl, by decide +kernel, by decide +kernel⟩
theorem abs_if (a : Int) : (if a < 0 then -a else a) = (a.natAbs : Int) := by split <;> omega
theorem d_cd (T : AmTxt K mg C) : DefO P w K mg base 1 "common_divisor" ["one", "other"] spCD := by
  refine T.tCD.okO scCD (fun vs H Q E h => ?_) (fun f cdv A out s H vs Q E hr h => ?_)
  · obtain ⟨a, b, rfl, _⟩ := h
    rfl
  · obtain ⟨a, b, rfl, q⟩ := h
    refine ⟨_, (pss_cons (ps_par (i := 0) (j := 1) (by rfl) scCD.nd rfl rfl (by decide) rfl rfl (pa_cons (pe_callB call_abs (by rfl) T.b_abs (by decide +kernel) (pa_cons (pv 0) pa_nil)) (pa_cons (pe_callB call_abs (by rfl) T.b_abs (by decide +kernel) (pa_cons (pv 1) pa_nil)) pa_nil)) (by rfl))
  (pss_cons (ps_while PassesOwn.never (pt_cmpR op_ne (pv 1) pe_int (nomark _)) (pss_one (ps_par (i := 0) (j := 1) (by rfl) scCD.nd rfl rfl (by decide) rfl rfl (pa_cons (pv 1) (pa_cons (pe_op op_mod (pv 0) (pv 1)) pa_nil)) (by rfl))))
  (pss_one (ps_ret (pv 0))))), ?_⟩
    refine ⟨_, rfl, a, rfl, _, rfl, b, rfl, _, _, rfl, ?_⟩
    refine ⟨fun m σ H' => H' = H ∧ ∃ x : Nat, σ = [some (.int x), some (.int m)] ∧ M.eu x m = Int.gcd a b, ⟨b.natAbs, rfl, a.natAbs, ?_, ?_⟩, ?_⟩
    · rw [abs_if, abs_if] <;> rfl
    · rw [M.eu_gcd] <;> rfl
    · rintro m σ H' ⟨rfl, x, rfl, e⟩
      refine ⟨_, rfl, rfl, _, rfl, ?_⟩
      by_cases hm : m = 0
      · subst hm
        refine iteNS rfl ?_
        refine ⟨_, rfl, ?_⟩
        rw [M.eu_zero] at e
        show Q (.int (x : Int)) H'
        rw [e]
        exact q
      · have hd : decide (V.int (m : Int) = V.int 0) = false := decide_eq_false (fun z => hm (by injection z; omega))
        show (if (!decide (V.int (m : Int) = V.int 0)) = true then _ else _)
        rw [hd]
        refine iteT ⟨fun σ1 H1 => H1 = H' ∧ σ1 = [some (.int (m : Int)), some (.int ((x % m : Nat) : Int))], ?_, ?_⟩
        · rintro σ1 H1 ⟨rfl, rfl⟩
          exact ⟨x % m, Nat.mod_lt _ (Nat.pos_of_ne_zero hm), rfl, m, rfl, by rw [← M.eu_step hm]; exact e⟩
        · exact ⟨_, rfl, _, rfl, _, rfl, _, _, rfl, rfl, (by show (0 : Int) < (m : Int); omega), _, _, rfl, rfl, rfl⟩
/-! ### place_of -/
def spPl : Sp := fun vs H Q _ => ∃ t b : Int, vs = [.int t, .int b] ∧ 0 < b ∧ b.natAbs < 2 ^ 8000 ∧ ∀ p H', Same H H' → H p = none → H' p = some (.tup ((M.plc 1 t b.toNat).map V.int)) → Q (.ref p) H'
theorem scPl : FnScope ["top", "bottom", "found", "sign"] ["top", "bottom"] (defScope sPl) := ⟨rfl, rfl, rfl, by decide +kernel, rfl, by decide +kernel, by decide +kernel⟩
/-- what the loop of place_of has found ahead of what is left -/
def PlI (H : Hp) (t0 : Int) (b0 : Nat) (m : Nat) (σ : L2.St) (H' : Hp) : Prop := Same H H' ∧ ∃ (t s : Int) (p : Addr) (xs : List Int), σ = [some (.int t), some (.int (m : Int)), some (.ref p), some (.int s)] ∧ (s = 1 ∨ s = -1) ∧ H p = none ∧ H' p = some (.tup (xs.map V.int)) ∧
  xs ++ M.plc s t m = M.plc 1 t0 b0 ∧ m ≤ b0 ∧ ∃ j : Nat, xs.length = 2 * j ∧ j ≤ 16001 ∧ (j = 0 ∨ ∃ t' : Nat, t = t' ∧ m < t' ∧ t' * m * 2 ^ (j - 1) < 2 ^ 16000)
theorem d_pl (T : AmTxt K mg C) : DefO P w K mg base 1 "place_of" ["top", "bottom"] spPl := by
  refine T.tPl.okO scPl (fun vs H Q E h => ?_) (fun f cdv A out s H vs Q E hr h => ?_)
  · obtain ⟨t, b, rfl, _⟩ := h
    rfl
  · obtain ⟨t, bi, rfl, hbi, hw, q⟩ := h
    obtain ⟨b, rfl⟩ : ∃ b : Nat, bi = (b : Int) := ⟨bi.toNat, by omega⟩
    have hb : 0 < b := by omega
    have hw : b < 2 ^ 8000 := hw
    have q : ∀ p H', Same H H' → H p = none → H' p = some (.tup ((M.plc 1 t b).map V.int)) → Q (.ref p) H' := q
    refine ⟨_, (pss_cons (ps_asg (pe_tup (pa_cons (pe_tup pa_nil) (pa_cons pe_int pa_nil))) (pg_tup (by rfl) (pgs_cons (pg_name (i := 2) scPl.nd rfl (Or.inl rfl)) (pgs_cons (pg_name (i := 3) scPl.nd rfl (Or.inl rfl)) pgs_nil))))
  (pss_cons (ps_while PassesOwn.never (pt_cmpR op_ne (pv 1) pe_int (nomark _)) (pss_cons (ps_set (i := 2) scPl.nd rfl (Or.inl rfl) (pe_op op_catA (pv 2) (pe_tup (pa_cons pe_int (pa_cons (pe_op op_mul (pv 3) (pe_op op_fdivW (pv 0) (pv 1))) pa_nil)))))
  (pss_one (ps_par3 (i := 0) (j := 1) (l := 3) (by rfl) scPl.nd rfl rfl rfl (by decide) (by decide) (by decide) rfl rfl rfl (pa_cons (pv 1) (pa_cons (pe_op op_mod (pv 0) (pv 1)) (pa_cons (pe_un un_neg (pv 3)) pa_nil))) (by rfl)))))
  (pss_one (ps_ret (pe_op op_catA (pv 2) (pe_tup (pa_cons (pv 3) pa_nil))))))), ?_⟩
    refine ⟨by show 0 ≤ sizeLine; decide, fun p hp => ⟨by show 2 ≤ sizeLine; decide, fun z hz => ⟨z, _, rfl, SqT.of upd_same, rfl, _, _, rfl, _, _, rfl, rfl, ?_⟩⟩⟩
    have pz : p ≠ z := ne_of_none upd_same hz
    refine ⟨fun m σ H' => PlI H t b m σ H', ⟨b, (Same.new hp).trans (Same.new hz), t, 1, p, [], rfl, .inl rfl, hp, by rw [upd_ne pz]; exact upd_same, rfl, Nat.le_refl _, 0, rfl, by decide, .inl rfl⟩, ?_⟩
    rintro m σ H' ⟨sm, t1, s1, p1, xs, rfl, hs, hn, hx, ee, hm1, j, hl, hj, hjt⟩
    refine ⟨_, rfl, rfl, _, rfl, ?_⟩
    by_cases hm : m = 0
    · subst hm
      refine iteNS rfl ?_
      rw [M.plc_zero] at ee
      refine ⟨_, rfl, _, rfl, by show 1 ≤ sizeLine; decide, fun u hu => ?_⟩
      have pu : p1 ≠ u := ne_of_none hx hu
      have sm2 : Same H' (upd H' u (.tup [.int s1])) := Same.new hu
      have fin : ((xs ++ [s1]).map V.int) = xs.map V.int ++ [V.int s1] := by simp
      refine ⟨p1, u, xs.map V.int, [.int s1], rfl, rfl, SqT.of (sm2 _ _ hx), SqT.of upd_same, ?_, fun e0 => ?_, fun _ e1 => ?_, fun _ _ v hv => ?_⟩
      · rw [List.length_map]
        show xs.length + 1 ≤ sizeLine
        exact Nat.le_trans (by omega : xs.length + 1 ≤ 40000) (by decide)
      · have x0 : xs = [] := List.map_eq_nil_iff.mp e0
        subst x0
        refine q u _ (sm.trans sm2) (sm.free hu) ?_
        rw [← ee]
        exact upd_same
      · cases e1
      · refine q v _ ((sm.trans sm2).trans (Same.new hv)) ((sm.trans sm2).free hv) ?_
        rw [← ee, fin]
        exact upd_same
    · have hd : decide (V.int (m : Int) = V.int 0) = false := decide_eq_false (fun z => hm (by injection z; omega))
      show (if (!decide (V.int (m : Int) = V.int 0)) = true then _ else _)
      rw [hd]
      have hmp : (0 : Int) < (m : Int) := by omega
      refine iteT ⟨fun σ1 H1 => PlI H t b (t1 % (m : Int)).toNat σ1 H1, ?_, ?_⟩
      · rintro σ1 H1 ⟨h1, t2, s2, p2, ys, rfl, rest⟩
        refine ⟨_, ?_, h1, t2, s2, p2, ys, rfl, rest⟩
        have := Int.emod_lt_of_pos t1 hmp
        have := Int.emod_nonneg t1 (show (m : Int) ≠ 0 by omega)
        omega
      · refine ⟨_, rfl, _, rfl, _, rfl, _, rfl, _, _, rfl, rfl, wide_div hmp (b := 8000) ?_ (by decide) (by decide), _, _, rfl, rfl, ?_, by show 2 ≤ sizeLine; decide, fun u hu => ?_⟩
        · have : (m : Int).natAbs = m := rfl
          rw [this]
          omega
        · refine .inl ?_
          rcases hs with rfl | rfl <;> exact ⟨by decide, by decide⟩
        · have pu : p1 ≠ u := ne_of_none hx hu
          have r0 := Int.emod_nonneg t1 (show (m : Int) ≠ 0 by omega)
          have r1 := Int.emod_lt_of_pos t1 hmp
          have rc : ((t1 % (m : Int)).toNat : Int) = t1 % m := Int.toNat_of_nonneg r0
          have cut : ∀ (v : Addr) (H2 : Hp), Same H H2 → H v = none → H2 v = some (.tup ((xs ++ [0, s1 * (t1 / m)]).map V.int)) → PlI H t b (t1 % (m : Int)).toNat [some (.int (m : Int)), some (.int (t1 % m)), some (.ref v), some (.int (-s1))] H2 := by
            intro v H2 k1 k2 k3
            refine ⟨k1, m, -s1, v, xs ++ [0, s1 * (t1 / m)], by rw [rc], by rcases hs with h | h <;> rw [h] <;> decide, k2, k3, ?_, by omega, j + 1, by rw [List.length_append, hl] <;> rfl, ?_, ?_⟩
            · rw [← ee, M.plc_step hm, List.append_assoc]
              rfl
            · rcases hjt with rfl | ⟨t', rfl, h1, h2⟩
              · decide
              · by_cases h0 : j = 0
                · omega
                · have := (M.step_bound (by omega) h1 (by omega) h2).2
                  omega
            · refine .inr ⟨m, rfl, by omega, ?_⟩
              rcases hjt with rfl | ⟨t', rfl, h1, h2⟩
              · show m * (t1 % (m : Int)).toNat * 2 ^ 0 < 2 ^ 16000
                have a1 : (t1 % (m : Int)).toNat < m := by omega
                have a2 : m * (t1 % (m : Int)).toNat ≤ m * m := Nat.mul_le_mul_left _ (Nat.le_of_lt a1)
                have a3 : m < 2 ^ 8000 := by omega
                have a4 : m * m < 2 ^ 8000 * 2 ^ 8000 := Nat.mul_lt_mul'' a3 a3
                have a5 : (2 : Nat) ^ 8000 * 2 ^ 8000 = 2 ^ 16000 := by rw [← Nat.pow_add]
                omega
              · by_cases h0 : j = 0
                · subst h0
                  have a1 : ((t' : Int) % (m : Int)).toNat < m := by omega
                  have a2 : m * ((t' : Int) % (m : Int)).toNat ≤ m * m := Nat.mul_le_mul_left _ (Nat.le_of_lt a1)
                  have a3 : m < 2 ^ 8000 := by omega
                  have a4 : m * m < 2 ^ 8000 * 2 ^ 8000 := Nat.mul_lt_mul'' a3 a3
                  have a5 : (2 : Nat) ^ 8000 * 2 ^ 8000 = 2 ^ 16000 := by rw [← Nat.pow_add]
                  show m * ((t' : Int) % (m : Int)).toNat * 2 ^ 0 < 2 ^ 16000
                  omega
                · have := (M.step_bound (by omega) h1 (by omega) h2).1
                  have e : ((t' : Int) % (m : Int)).toNat = t' % m := rfl
                  rw [e]
                  exact this
          have lx : (xs.map V.int).length + 2 ≤ sizeLine := by
            rw [List.length_map]
            exact Nat.le_trans (by omega : xs.length + 2 ≤ 40000) (by decide)
          have ap : (xs ++ [0, s1 * (t1 / m)]).map V.int = xs.map V.int ++ [.int 0, .int (s1 * (t1 / m))] := by simp
          have sm2 : Same H' (upd H' u (.tup [.int 0, .int (s1 * (t1 / m))])) := Same.new hu
          refine ⟨p1, u, xs.map V.int, [.int 0, .int (s1 * (t1 / m))], rfl, rfl, SqT.of (sm2 _ _ hx), SqT.of upd_same, lx, fun e0 => ?_, fun _ e1 => ?_, fun _ _ v hv => ?_⟩
          · have x0 : xs = [] := List.map_eq_nil_iff.mp e0
            subst x0
            refine ⟨_, rfl, _, rfl, _, rfl, _, _, rfl, rfl, hmp, _, rfl, s1, rfl, _, _, _, rfl, cut u _ (sm.trans sm2) (sm.free hu) upd_same⟩
          · cases e1
          · refine ⟨_, rfl, _, rfl, _, rfl, _, _, rfl, rfl, hmp, _, rfl, s1, rfl, _, _, _, rfl, cut v _ ((sm.trans sm2).trans (Same.new hv)) ((sm.trans sm2).free hv) ?_⟩
            rw [ap]
            exact upd_same
/-! ### Amount(top, bottom) -/
/-- what __init__ stores: in lowest terms, the bottom above 0 -/
structure Low (top bottom t b : Int) : Prop where
  pos : 0 < b
  one : Int.gcd t b = 1
  eq : t * bottom = top * b
  lt : t.natAbs ≤ top.natAbs
  lb : b.natAbs ≤ bottom.natAbs
def spInit (C : Addr) : Sp := fun vs H Q _ => ∃ (x dx : Addr) (tp bt : Int), vs = [.ref x, .int tp, .int bt] ∧ H x = some (.ins C dx []) ∧ bt ≠ 0 ∧ tp.natAbs < 2 ^ 8000 ∧ bt.natAbs < 2 ^ 8000 ∧
  ∀ (t b : Int) (H' : Hp), Low tp bt t b → AmAt C H' x t b → (∀ c o, H c = some o → c ≠ x → H' c = some o) → Q .non H'
theorem scIn : FnScope ["self", "top", "bottom", "divisor"] ["self", "top", "bottom"] (defScope sInit) := ⟨rfl, rfl, rfl, by decide +kernel, rfl, by decide +kernel, by decide +kernel⟩
theorem low_of {tp bt d s : Int} (hb : bt ≠ 0) (hs : (s = 1 ∧ 0 < bt) ∨ (s = -1 ∧ bt < 0)) (hd : d = (Int.gcd tp bt : Nat) * s) : d ≠ 0 ∧ d.natAbs ≤ bt.natAbs ∧ Low tp bt (tp.fdiv d) (bt.fdiv d) := by
  have g0 : 0 < Int.gcd tp bt := Int.gcd_pos_of_ne_zero_right _ hb
  obtain ⟨u, hu⟩ := Int.gcd_dvd_left (a := tp) (b := bt)
  obtain ⟨v, hv⟩ := Int.gcd_dvd_right (a := tp) (b := bt)
  generalize hg : Int.gcd tp bt = g at *
  have gp : (0 : Int) < g := by omega
  have dn : d ≠ 0 := by
    rcases hs with ⟨rfl, _⟩ | ⟨rfl, _⟩ <;> omega
  have e1 : tp.fdiv d = s * u := by
    have : tp = d * (s * u) := by
      rw [hu, hd]
      rcases hs with ⟨rfl, _⟩ | ⟨rfl, _⟩
      · simp
      · simp [Int.neg_mul, Int.mul_neg]
    rw [this]
    exact Int.mul_fdiv_cancel_left _ dn
  have e2 : bt.fdiv d = s * v := by
    have : bt = d * (s * v) := by
      rw [hv, hd]
      rcases hs with ⟨rfl, _⟩ | ⟨rfl, _⟩
      · simp
      · simp [Int.neg_mul, Int.mul_neg]
    rw [this]
    exact Int.mul_fdiv_cancel_left _ dn
  have dabs : d.natAbs = g := by
    rcases hs with ⟨rfl, _⟩ | ⟨rfl, _⟩ <;> omega
  have vn : v ≠ 0 := by
    intro e
    rw [e] at hv
    simp at hv
    exact hb hv
  have va : 1 ≤ v.natAbs := by omega
  have btn : bt.natAbs = g * v.natAbs := by
    rw [hv, Int.natAbs_mul]
    rfl
  have tpn : tp.natAbs = g * u.natAbs := by
    rw [hu, Int.natAbs_mul]
    rfl
  have sabs : ∀ z : Int, (s * z).natAbs = z.natAbs := by
    intro z
    rcases hs with ⟨rfl, _⟩ | ⟨rfl, _⟩ <;> simp
  have gg : g * Int.gcd u v = g := by
    have q := Int.gcd_mul_left (g : Int) u v
    rw [← hu, ← hv, hg] at q
    have : (g : Int).natAbs = g := rfl
    rw [this] at q
    exact q.symm
  have g1 : Int.gcd u v = 1 := by
    have : g * Int.gcd u v = g * 1 := by rw [gg, Nat.mul_one]
    exact Nat.eq_of_mul_eq_mul_left g0 this
  refine ⟨dn, ?_, ?_⟩
  · rw [dabs, btn]
    exact Nat.le_mul_of_pos_right _ va
  rw [e1, e2]
  refine ⟨?_, ?_, ?_, ?_, ?_⟩
  · rcases hs with ⟨rfl, h⟩ | ⟨rfl, h⟩
    · have : 0 < v := by
        rcases Int.lt_or_le 0 v with z | z
        · exact z
        · have q := Int.mul_le_mul_of_nonneg_left z (Int.le_of_lt gp)
          rw [Int.mul_zero] at q
          omega
      omega
    · have : v < 0 := by
        rcases Int.lt_or_le v 0 with z | z
        · exact z
        · have q := Int.mul_nonneg (Int.le_of_lt gp) z
          omega
      omega
  · have q : Int.gcd (s * u) (s * v) = Int.gcd u v := by
      unfold Int.gcd
      rw [sabs, sabs]
    rw [q, g1]
  · rw [hu, hv]
    rw [Int.mul_assoc, Int.mul_comm u, Int.mul_assoc, Int.mul_assoc, ← Int.mul_assoc s, Int.mul_comm s, Int.mul_assoc, Int.mul_comm v u]
    rw [Int.mul_comm u (s * v)]
    rw [Int.mul_assoc s v u, Int.mul_comm v u]
  · rw [sabs, tpn]
    exact Nat.le_mul_of_pos_left _ g0
  · rw [sabs, btn]
    exact Nat.le_mul_of_pos_left _ g0
theorem kII {K : PySem.W.Frag} : PySem.W.kitOne K (.type "int") (.type "int") = some true := kit_ty (by decide +kernel)
theorem kIB {K : PySem.W.Frag} : PySem.W.kitOne K (.type "int") (.type "bool") = some false := kit_ty (by decide +kernel)
theorem ok_init {fI : Addr} {fd : FuncData} (F : FunD K "__init__" "Amount.__init__" (defArgs sInit) (defBody sInit) (defScope sInit) [.int 1] [] fI fd) (T : AmTxt K mg C) : FnOk P w K mg base CX0 2 fI fd ["self", "top", "bottom"] (spInit C) := by
  have DI := d_ii (P := P) (w := w) (base := base) T
  have DC := d_cd (P := P) (w := w) (base := base) T
  have DP := d_pl (P := P) (w := w) (base := base) T
  refine F.ok scIn (fun vs H Q E h => ?_) (fun cdv A out s H vs Q E hr h => ?_)
  · obtain ⟨x, dx, tp, bt, rfl, _⟩ := h
    rfl
  · obtain ⟨x, dx, tp, bt, rfl, hx, hb, h1, h2, q⟩ := h
    refine ⟨_, PSs.nox (pss_cons (ps_if (pt_not (pt_val (pe_callO DI (hr.mono (by decide)) (pa_cons (pv 1) pa_nil)))) (pss_one ps_never) pss_nil)
  (pss_cons (ps_if (PW.pt (pw_or (pt_not (pt_val (pe_callO DI (hr.mono (by decide)) (pa_cons (pv 2) pa_nil)))) (pw_or1 (pt_cmpR op_eq (pv 2) pe_int (nomark _))))) (pss_one ps_never) pss_nil)
  (pss_cons (ps_set (i := 3) scIn.nd rfl (Or.inl rfl) (pe_op op_mul (pe_callO DC (hr.mono (by decide)) (pa_cons (pv 1) (pa_cons (pv 2) pa_nil))) (pe_ifExp (pt_cmpR op_gt (pv 2) pe_int (nomark _)) pe_int (pe_un un_neg pe_int))))
  (pss_cons (ps_fld (pv 0) (pe_op op_fdivA (pv 1) (pv 3)) rfl)
  (pss_cons (ps_fld (pv 0) (pe_op op_fdivA (pv 2) (pv 3)) rfl)
  (pss_one (ps_fld (pv 0) (pe_callO DP (hr.mono (by decide)) (pa_cons (pe_fld (pv 0) rfl) (pa_cons (pe_fld (pv 0) rfl) pa_nil))) rfl))))))), ?_⟩
    refine ⟨_, rfl, _, _, true, false, rfl, .base (.int tp), kII, kIB, true, rfl, iteF ?_⟩
    refine ⟨_, rfl, _, _, true, false, rfl, .base (.int bt), kII, kIB, true, rfl, iteF ?_⟩
    refine ⟨_, rfl, rfl, _, rfl, ?_⟩
    rw [decide_eq_false (show ¬ V.int bt = V.int 0 from fun z => hb (by injection z))]
    refine iteF ?_
    have sg : (((1 : Int) = 1 ∧ 0 < bt) ∨ ((1 : Int) = -1 ∧ bt < 0)) ∨ (((-1 : Int) = 1 ∧ 0 < bt) ∨ ((-1 : Int) = -1 ∧ bt < 0)) := by omega
    have key : ∀ d : Int, d ≠ 0 → d.natAbs ≤ bt.natAbs → Low tp bt (tp.fdiv d) (bt.fdiv d) → CDivA tp d ∧ CDivA bt d := fun d dn dl _ =>
      have z : d.natAbs.log2 < 9000 := Nat.lt_of_lt_of_le (PySem.Flt.log2_lt_of (by decide) (Nat.lt_of_le_of_lt dl h2)) (by decide)
      ⟨⟨dn, z⟩, ⟨dn, z⟩⟩
    refine ⟨_, rfl, _, rfl, tp, bt, rfl, _, rfl, _, _, rfl, rfl, _, rfl, ?_⟩
    rcases sg with sg | sg
    · obtain ⟨dn, dl, lw⟩ := low_of hb sg (d := (Int.gcd tp bt : Nat) * 1) rfl
      rw [decide_eq_true (show 0 < bt by omega)]
      refine iteT ⟨_, _, rfl, rfl, .inr ⟨by decide, by decide⟩, ?_⟩
      obtain ⟨k1, k2⟩ := key _ dn dl lw
      refine ⟨_, rfl, _, rfl, _, _, rfl, rfl, k1, _, rfl, x, C, dx, [], rfl, hx, T.cl, T.nT, (by show 0 < 1000; decide), ?_⟩
      refine ⟨_, rfl, _, rfl, _, _, rfl, rfl, k2, _, rfl, x, C, dx, _, rfl, upd_same, T.cl, T.nB, (by show 1 < 1000; decide), ?_⟩
      refine ⟨_, rfl, x, C, dx, _, _, rfl, upd_same, T.cl, T.nT, (by rw [lookup_putF, if_neg n_tb, lookup_putF, if_pos rfl]), _, rfl, x, C, dx, _, _, rfl, upd_same, T.cl, T.nB, (by rw [lookup_putF, if_pos rfl]), ?_⟩
      refine ⟨_, _, rfl, lw.pos, Nat.lt_of_le_of_lt lw.lb h2, fun p H' sm hn hp => ?_⟩
      refine ⟨_, rfl, x, C, dx, _, rfl, sm _ _ upd_same, T.cl, T.nP, (by rw [am_put1]; show 2 < 1000; decide), ?_⟩
      have xp : x ≠ p := ne_of_none upd_same hn
      refine q _ _ _ lw ⟨lw.pos, dx, p, by rw [am_put]; exact upd_same, by rw [upd_ne xp.symm]; exact hp⟩ fun c o hc hcx => ?_
      rw [upd_ne hcx]
      exact sm _ _ (by rw [upd_ne hcx, upd_ne hcx]; exact hc)
    · obtain ⟨dn, dl, lw⟩ := low_of hb sg (d := (Int.gcd tp bt : Nat) * (-1)) rfl
      rw [decide_eq_false (show ¬ 0 < bt by omega)]
      refine iteF ⟨1, rfl, _, _, rfl, rfl, .inr ⟨by decide, by decide⟩, ?_⟩
      obtain ⟨k1, k2⟩ := key _ dn dl lw
      refine ⟨_, rfl, _, rfl, _, _, rfl, rfl, k1, _, rfl, x, C, dx, [], rfl, hx, T.cl, T.nT, (by show 0 < 1000; decide), ?_⟩
      refine ⟨_, rfl, _, rfl, _, _, rfl, rfl, k2, _, rfl, x, C, dx, _, rfl, upd_same, T.cl, T.nB, (by show 1 < 1000; decide), ?_⟩
      refine ⟨_, rfl, x, C, dx, _, _, rfl, upd_same, T.cl, T.nT, (by rw [lookup_putF, if_neg n_tb, lookup_putF, if_pos rfl]), _, rfl, x, C, dx, _, _, rfl, upd_same, T.cl, T.nB, (by rw [lookup_putF, if_pos rfl]), ?_⟩
      refine ⟨_, _, rfl, lw.pos, Nat.lt_of_le_of_lt lw.lb h2, fun p H' sm hn hp => ?_⟩
      refine ⟨_, rfl, x, C, dx, _, rfl, sm _ _ upd_same, T.cl, T.nP, (by rw [am_put1]; show 2 < 1000; decide), ?_⟩
      have xp : x ≠ p := ne_of_none upd_same hn
      refine q _ _ _ lw ⟨lw.pos, dx, p, by rw [am_put]; exact upd_same, by rw [upd_ne xp.symm]; exact hp⟩ fun c o hc hcx => ?_
      rw [upd_ne hcx]
      exact sm _ _ (by rw [upd_ne hcx, upd_ne hcx]; exact hc)
/-! ### Amount(top, bottom), called -/
def spMake (C : Addr) : Sp := fun vs H Q _ => ∃ tp bt : Int, vs = [.int tp, .int bt] ∧ bt ≠ 0 ∧ tp.natAbs < 2 ^ 8000 ∧ bt.natAbs < 2 ^ 8000 ∧
  ∀ (x : Addr) (t b : Int) (H' : Hp), Low tp bt t b → AmAt C H' x t b → Same H H' → H x = none → Q (.ref x) H'
theorem rn_amount {X : Cx} (T : AmTxt X.K X.mg C) (hr : Room 3 X.A) : Rn X C (spMake C) [] E0 := by
  obtain ⟨fI, fd, mkC, F⟩ := T.mkC
  obtain ⟨ds, r, hb⟩ := F.binds1 (ps := ["self", "top", "bottom"]) 3 1 (by simp) rfl (fun Tp kV doc pm an cdv ct us its h1 h2 => match us, its, h1, h2 with | [_, _, _], [_], _, _ => ⟨_, rfl, rfl⟩)
  intro pins σ H1 s Q us vs I rv h
  refine run_make mkC (ok_init (P := X.prog) (w := X.w) (base := X.base) F T) hr hb r pass0 I rv ?_
  obtain ⟨tp, bt, ev, hb, h1, h2, q⟩ := h
  intro x dx nx nd ne
  have ev : vs = [.int tp, .int bt] := by simpa using ev
  subst ev
  have s0 : Same H1 (upd (upd H1 dx (.own x)) x (.ins C dx [])) := fun b o e => by
    rw [upd_ne (ne_of_none e nx), upd_ne (ne_of_none e nd)]
    exact e
  exact ⟨x, dx, tp, bt, rfl, upd_same, hb, h1, h2, fun t b H' lw am k => ⟨rfl, q x t b H' lw am (fun c o e => k c o (s0 c o e) (ne_of_none e nx)) nx⟩⟩
/-! ### comparisons of two Amounts -/
theorem cmp_lt {t1 b1 t2 b2 : Int} (h1 : 0 < b1) (h2 : 0 < b2) : M.lt (M.plc 1 t1 b1.toNat) (M.plc 1 t2 b2.toNat) = decide (t1 * b2 < t2 * b1) := by
  have q := (M.plc_order b1.toNat b2.toNat 1 t1 t2 (.inl rfl) (fun z => by omega) (fun z => by omega)).1
  rw [q, Int.toNat_of_nonneg (Int.le_of_lt h1), Int.toNat_of_nonneg (Int.le_of_lt h2)]
  congr 1
  apply propext
  constructor <;> intro h <;> omega
theorem cmp_eq {t1 b1 t2 b2 : Int} (h1 : 0 < b1) (h2 : 0 < b2) : decide (M.plc 1 t1 b1.toNat = M.plc 1 t2 b2.toNat) = decide (t1 * b2 = t2 * b1) := by
  have q := (M.plc_order b1.toNat b2.toNat 1 t1 t2 (.inl rfl) (fun z => by omega) (fun z => by omega)).2
  rw [Int.toNat_of_nonneg (Int.le_of_lt h1), Int.toNat_of_nonneg (Int.le_of_lt h2)] at q
  congr 1
  apply propext
  rw [q]
  constructor <;> intro h <;> omega
theorem kSelf {K : PySem.W.Frag} {C : Addr} : PySem.W.kitOne K (.ref C) (.ref C) = some true := by
  unfold PySem.W.kitOne
  rw [if_pos (beq_self_eq_true _)]
theorem AmTxt.ty (T : AmTxt K mg C) {H : Hp} {a : Addr} {t b : Int} (h : AmAt C H a t b) : TyOf K H (.ref a) (.ref C) := let ⟨_, _, _, e, _⟩ := h; .ins e T.cl T.ca T.cn T.ck T.cm
def spCmp (C : Addr) (F : Int → Int → Int → Int → Bool) : Sp := fun vs H Q _ => ∃ (a c : Addr) (t1 b1 t2 b2 : Int), vs = [.ref a, .ref c] ∧ AmAt C H a t1 b1 ∧ AmAt C H c t2 b2 ∧ Q (.bl (F t1 b1 t2 b2)) H
theorem scEq : FnScope ["self", "other"] ["self", "other"] (defScope sMEq) := ⟨rfl, rfl, rfl, by decide +kernel, rfl, by decide +kernel, by decide +kernel⟩
def fEq : Int → Int → Int → Int → Bool := fun t1 b1 t2 b2 => decide (t1 * b2 = t2 * b1)
theorem ok_Eq {f : Addr} {fd : FuncData} (F : Fun K "__eq__" "Amount.__eq__" sMEq f fd) (T : AmTxt K mg C) : FnOk P w K mg base CX0 1 f fd ["self", "other"] (spCmp C fEq) := by
  refine F.ok scEq (fun vs H Q E h => ?_) (fun cdv A out s H vs Q E hr h => ?_)
  · obtain ⟨a, c, t1, b1, t2, b2, rfl, _⟩ := h
    rfl
  · obtain ⟨a, c, t1, b1, t2, b2, rfl, h1, h2, q⟩ := h
    obtain ⟨z1, d1, p1, e1, g1⟩ := id h1
    obtain ⟨z2, d2, p2, e2, g2⟩ := id h2
    refine ⟨_, (pss_cons (ps_if (pt_not (pt_val (pe_callB call_isi (by rfl) T.b_isinstance (by decide +kernel) (pa_cons (pv 1) (pa_cons (pe_glob (v := .ref C) (by rfl) T.gC rfl) pa_nil))))) (pss_one (ps_never)) pss_nil)
  (pss_one (ps_ret (pe_cmpR (op_eqI hr.units) (pe_fld (pv 0) rfl) (pe_fld (pv 1) rfl) (nomark _))))), ?_⟩
    refine ⟨_, rfl, .ref c, .ref C, .ref C, .ref C, true, rfl, .own C, .base (T.ty h2), kSelf, true, rfl, iteF ?_⟩
    refine ⟨_, rfl, a, C, d1, _, _, rfl, e1, T.cl, T.nP, am_place _ _ _, _, rfl, c, C, d2, _, _, rfl, e2, T.cl, T.nP, am_place _ _ _, p1, p2, _, _, rfl, rfl, SqT.of g1, SqT.of g2, ?_⟩
    show Q (.bl (decide (M.plc 1 t1 b1.toNat = M.plc 1 t2 b2.toNat))) H
    rw [cmp_eq z1 z2]
    exact q
theorem scLt : FnScope ["self", "other"] ["self", "other"] (defScope sMLt) := ⟨rfl, rfl, rfl, by decide +kernel, rfl, by decide +kernel, by decide +kernel⟩
def fLt : Int → Int → Int → Int → Bool := fun t1 b1 t2 b2 => decide (t1 * b2 < t2 * b1)
theorem ok_Lt {f : Addr} {fd : FuncData} (F : Fun K "__lt__" "Amount.__lt__" sMLt f fd) (T : AmTxt K mg C) : FnOk P w K mg base CX0 1 f fd ["self", "other"] (spCmp C fLt) := by
  refine F.ok scLt (fun vs H Q E h => ?_) (fun cdv A out s H vs Q E hr h => ?_)
  · obtain ⟨a, c, t1, b1, t2, b2, rfl, _⟩ := h
    rfl
  · obtain ⟨a, c, t1, b1, t2, b2, rfl, h1, h2, q⟩ := h
    obtain ⟨z1, d1, p1, e1, g1⟩ := id h1
    obtain ⟨z2, d2, p2, e2, g2⟩ := id h2
    refine ⟨_, (pss_cons (ps_if (pt_not (pt_val (pe_callB call_isi (by rfl) T.b_isinstance (by decide +kernel) (pa_cons (pv 1) (pa_cons (pe_glob (v := .ref C) (by rfl) T.gC rfl) pa_nil))))) (pss_one (ps_never)) pss_nil)
  (pss_one (ps_ret (pe_cmpR (op_ltI hr.units0) (pe_fld (pv 0) rfl) (pe_fld (pv 1) rfl) (nomark _))))), ?_⟩
    refine ⟨_, rfl, .ref c, .ref C, .ref C, .ref C, true, rfl, .own C, .base (T.ty h2), kSelf, true, rfl, iteF ?_⟩
    refine ⟨_, rfl, a, C, d1, _, _, rfl, e1, T.cl, T.nP, am_place _ _ _, _, rfl, c, C, d2, _, _, rfl, e2, T.cl, T.nP, am_place _ _ _, p1, p2, _, _, rfl, rfl, SqT.of g1, SqT.of g2, ?_⟩
    show Q (.bl (M.lt (M.plc 1 t1 b1.toNat) (M.plc 1 t2 b2.toNat))) H
    rw [cmp_lt z1 z2]
    exact q
theorem scLe : FnScope ["self", "other"] ["self", "other"] (defScope sMLe) := ⟨rfl, rfl, rfl, by decide +kernel, rfl, by decide +kernel, by decide +kernel⟩
def fLe : Int → Int → Int → Int → Bool := fun t1 b1 t2 b2 => !decide (t2 * b1 < t1 * b2)
theorem ok_Le {f : Addr} {fd : FuncData} (F : Fun K "__le__" "Amount.__le__" sMLe f fd) (T : AmTxt K mg C) : FnOk P w K mg base CX0 1 f fd ["self", "other"] (spCmp C fLe) := by
  refine F.ok scLe (fun vs H Q E h => ?_) (fun cdv A out s H vs Q E hr h => ?_)
  · obtain ⟨a, c, t1, b1, t2, b2, rfl, _⟩ := h
    rfl
  · obtain ⟨a, c, t1, b1, t2, b2, rfl, h1, h2, q⟩ := h
    obtain ⟨z1, d1, p1, e1, g1⟩ := id h1
    obtain ⟨z2, d2, p2, e2, g2⟩ := id h2
    refine ⟨_, (pss_cons (ps_if (pt_not (pt_val (pe_callB call_isi (by rfl) T.b_isinstance (by decide +kernel) (pa_cons (pv 1) (pa_cons (pe_glob (v := .ref C) (by rfl) T.gC rfl) pa_nil))))) (pss_one (ps_never)) pss_nil)
  (pss_one (ps_ret (pe_cmpR (op_leI hr.units0) (pe_fld (pv 0) rfl) (pe_fld (pv 1) rfl) (nomark _))))), ?_⟩
    refine ⟨_, rfl, .ref c, .ref C, .ref C, .ref C, true, rfl, .own C, .base (T.ty h2), kSelf, true, rfl, iteF ?_⟩
    refine ⟨_, rfl, a, C, d1, _, _, rfl, e1, T.cl, T.nP, am_place _ _ _, _, rfl, c, C, d2, _, _, rfl, e2, T.cl, T.nP, am_place _ _ _, p1, p2, _, _, rfl, rfl, SqT.of g1, SqT.of g2, ?_⟩
    show Q (.bl (!M.lt (M.plc 1 t2 b2.toNat) (M.plc 1 t1 b1.toNat))) H
    rw [cmp_lt z2 z1]
    exact q
theorem scGt : FnScope ["self", "other"] ["self", "other"] (defScope sMGt) := ⟨rfl, rfl, rfl, by decide +kernel, rfl, by decide +kernel, by decide +kernel⟩
def fGt : Int → Int → Int → Int → Bool := fun t1 b1 t2 b2 => decide (t2 * b1 < t1 * b2)
theorem ok_Gt {f : Addr} {fd : FuncData} (F : Fun K "__gt__" "Amount.__gt__" sMGt f fd) (T : AmTxt K mg C) : FnOk P w K mg base CX0 1 f fd ["self", "other"] (spCmp C fGt) := by
  refine F.ok scGt (fun vs H Q E h => ?_) (fun cdv A out s H vs Q E hr h => ?_)
  · obtain ⟨a, c, t1, b1, t2, b2, rfl, _⟩ := h
    rfl
  · obtain ⟨a, c, t1, b1, t2, b2, rfl, h1, h2, q⟩ := h
    obtain ⟨z1, d1, p1, e1, g1⟩ := id h1
    obtain ⟨z2, d2, p2, e2, g2⟩ := id h2
    refine ⟨_, (pss_cons (ps_if (pt_not (pt_val (pe_callB call_isi (by rfl) T.b_isinstance (by decide +kernel) (pa_cons (pv 1) (pa_cons (pe_glob (v := .ref C) (by rfl) T.gC rfl) pa_nil))))) (pss_one (ps_never)) pss_nil)
  (pss_one (ps_ret (pe_cmpR (op_gtI hr.units0) (pe_fld (pv 0) rfl) (pe_fld (pv 1) rfl) (nomark _))))), ?_⟩
    refine ⟨_, rfl, .ref c, .ref C, .ref C, .ref C, true, rfl, .own C, .base (T.ty h2), kSelf, true, rfl, iteF ?_⟩
    refine ⟨_, rfl, a, C, d1, _, _, rfl, e1, T.cl, T.nP, am_place _ _ _, _, rfl, c, C, d2, _, _, rfl, e2, T.cl, T.nP, am_place _ _ _, p1, p2, _, _, rfl, rfl, SqT.of g1, SqT.of g2, ?_⟩
    show Q (.bl (M.lt (M.plc 1 t2 b2.toNat) (M.plc 1 t1 b1.toNat))) H
    rw [cmp_lt z2 z1]
    exact q
theorem scGe : FnScope ["self", "other"] ["self", "other"] (defScope sMGe) := ⟨rfl, rfl, rfl, by decide +kernel, rfl, by decide +kernel, by decide +kernel⟩
def fGe : Int → Int → Int → Int → Bool := fun t1 b1 t2 b2 => !decide (t1 * b2 < t2 * b1)
theorem ok_Ge {f : Addr} {fd : FuncData} (F : Fun K "__ge__" "Amount.__ge__" sMGe f fd) (T : AmTxt K mg C) : FnOk P w K mg base CX0 1 f fd ["self", "other"] (spCmp C fGe) := by
  refine F.ok scGe (fun vs H Q E h => ?_) (fun cdv A out s H vs Q E hr h => ?_)
  · obtain ⟨a, c, t1, b1, t2, b2, rfl, _⟩ := h
    rfl
  · obtain ⟨a, c, t1, b1, t2, b2, rfl, h1, h2, q⟩ := h
    obtain ⟨z1, d1, p1, e1, g1⟩ := id h1
    obtain ⟨z2, d2, p2, e2, g2⟩ := id h2
    refine ⟨_, (pss_cons (ps_if (pt_not (pt_val (pe_callB call_isi (by rfl) T.b_isinstance (by decide +kernel) (pa_cons (pv 1) (pa_cons (pe_glob (v := .ref C) (by rfl) T.gC rfl) pa_nil))))) (pss_one (ps_never)) pss_nil)
  (pss_one (ps_ret (pe_cmpR (op_geI hr.units0) (pe_fld (pv 0) rfl) (pe_fld (pv 1) rfl) (nomark _))))), ?_⟩
    refine ⟨_, rfl, .ref c, .ref C, .ref C, .ref C, true, rfl, .own C, .base (T.ty h2), kSelf, true, rfl, iteF ?_⟩
    refine ⟨_, rfl, a, C, d1, _, _, rfl, e1, T.cl, T.nP, am_place _ _ _, _, rfl, c, C, d2, _, _, rfl, e2, T.cl, T.nP, am_place _ _ _, p1, p2, _, _, rfl, rfl, SqT.of g1, SqT.of g2, ?_⟩
    show Q (.bl (!M.lt (M.plc 1 t1 b1.toNat) (M.plc 1 t2 b2.toNat))) H
    rw [cmp_lt z1 z2]
    exact q
/-! ### the rules for the law: Amounts compared, and compared with other kinds -/
structure AmCmp (K : PySem.W.Frag) (mg : Str → Option Value) (C : Addr) : Prop where
  eq : MethT K C "__eq__" "Amount.__eq__" sMEq ["self", "other"]
  lt : MethT K C "__lt__" "Amount.__lt__" sMLt ["self", "other"]
  le : MethT K C "__le__" "Amount.__le__" sMLe ["self", "other"]
  gt : MethT K C "__gt__" "Amount.__gt__" sMGt ["self", "other"]
  ge : MethT K C "__ge__" "Amount.__ge__" sMGe ["self", "other"]
  st : MethT K C "__str__" "Amount.__str__" sMStr ["self"]
  rp : MethT K C "__repr__" "Amount.__repr__" sMRepr ["self"]
  pt : PropT K C "top" "Amount.top" sMTop
  b_str : mg "str" = none
/-- op of two Amounts -/
def rAm (C : Addr) (F : Int → Int → Int → Int → Bool) : R2 := fun x y H Q => ∃ (a c : Addr) (t1 b1 t2 b2 : Int), x = .ref a ∧ y = .ref c ∧ AmAt C H a t1 b1 ∧ AmAt C H c t2 b2 ∧ Q (.bl (F t1 b1 t2 b2)) H
theorem opr_imp {X : Cx} {f : Value → Value → Sem Value} {r r' : R2} (h : OpR X f r) (i : ∀ x y H Q, r' x y H Q → r x y H Q) : OpR X f r' := fun pins s σ H x y v u Q I rx ry q => h pins s σ H x y v u Q I rx ry (i x y H Q q)
theorem nf_self {K : PySem.W.Frag} {C : Addr} : PySem.W.notFirst K C (.ref C) = true := by
  unfold PySem.W.notFirst
  rw [beq_self_eq_true] <;> rfl
section
variable {X : Cx}
theorem rAm_in (T : AmTxt X.K X.mg C) {F : Int → Int → Int → Int → Bool} {x y : V} {H : Hp} {Q : VK} (h : rAm C F x y H Q) : rCmp X.K C (spCmp C F) E0 x y H Q := by
  obtain ⟨a, c, t1, b1, t2, b2, rfl, rfl, h1, h2, q⟩ := h
  obtain ⟨z1, d1, p1, e1, g1⟩ := id h1
  exact ⟨a, d1, _, .ref C, rfl, e1, T.ty h2, nf_self, a, c, t1, b1, t2, b2, rfl, h1, h2, q⟩
theorem op_eqAm (T : AmTxt X.K X.mg C) (M : AmCmp X.K X.mg C) (hr : Room 1 X.A) : OpR X (compareOp .Eq) (rAm C SP.fEq) := by
  obtain ⟨f, fd, h1, h2, F, hb⟩ := M.eq.ex
  exact opr_imp (op_cmpC hr.units0 h1 h2 (rn_of (ok_Eq (P := X.prog) (w := X.w) (base := X.base) F T) hr hb .nil pass0)) fun x y H Q h => rAm_in T h
theorem op_ltAm (T : AmTxt X.K X.mg C) (M : AmCmp X.K X.mg C) (hr : Room 1 X.A) : OpR X (compareOp .Lt) (rAm C SP.fLt) := by
  obtain ⟨f, fd, h1, h2, F, hb⟩ := M.lt.ex
  exact opr_imp (op_cmpC hr.units0 h1 h2 (rn_of (ok_Lt (P := X.prog) (w := X.w) (base := X.base) F T) hr hb .nil pass0)) fun x y H Q h => rAm_in T h
theorem op_leAm (T : AmTxt X.K X.mg C) (M : AmCmp X.K X.mg C) (hr : Room 1 X.A) : OpR X (compareOp .LtE) (rAm C SP.fLe) := by
  obtain ⟨f, fd, h1, h2, F, hb⟩ := M.le.ex
  exact opr_imp (op_cmpC hr.units0 h1 h2 (rn_of (ok_Le (P := X.prog) (w := X.w) (base := X.base) F T) hr hb .nil pass0)) fun x y H Q h => rAm_in T h
theorem op_gtAm (T : AmTxt X.K X.mg C) (M : AmCmp X.K X.mg C) (hr : Room 1 X.A) : OpR X (compareOp .Gt) (rAm C SP.fGt) := by
  obtain ⟨f, fd, h1, h2, F, hb⟩ := M.gt.ex
  exact opr_imp (op_cmpC hr.units0 h1 h2 (rn_of (ok_Gt (P := X.prog) (w := X.w) (base := X.base) F T) hr hb .nil pass0)) fun x y H Q h => rAm_in T h
theorem op_geAm (T : AmTxt X.K X.mg C) (M : AmCmp X.K X.mg C) (hr : Room 1 X.A) : OpR X (compareOp .GtE) (rAm C SP.fGe) := by
  obtain ⟨f, fd, h1, h2, F, hb⟩ := M.ge.ex
  exact opr_imp (op_cmpC hr.units0 h1 h2 (rn_of (ok_Ge (P := X.prog) (w := X.w) (base := X.base) F T) hr hb .nil pass0)) fun x y H Q h => rAm_in T h
/-- != of two Amounts -/
theorem op_neAm (T : AmTxt X.K X.mg C) (M : AmCmp X.K X.mg C) (hr : Room 2 X.A) : OpR X (compareOp .NotEq) (rAm C fun t1 b1 t2 b2 => !SP.fEq t1 b1 t2 b2) := by
  obtain ⟨f, fd, h1, h2, F, hb⟩ := M.eq.ex
  refine opr_imp (op_neC (sp := spCmp C SP.fEq) (E := E0) (by have := hr.units; omega) h1 T.ne T.cm h2 (rn_of (X := in1 X) (ok_Eq (P := X.prog) (w := X.w) (base := X.base) F T) hr.in1 hb .nil pass0)) fun x y H Q h => ?_
  obtain ⟨a, c, t1, b1, t2, b2, rfl, rfl, h1, h2, q⟩ := h
  obtain ⟨z1, d1, p1, e1, g1⟩ := id h1
  exact ⟨a, d1, _, .ref C, rfl, e1, T.ty h2, nf_self, a, c, t1, b1, t2, b2, rfl, h1, h2, _, rfl, q⟩
/-- an Amount beside a value of another kind -/
def dFgn (C : Addr) : List V → Hp → Prop := fun vs H => ∃ (a : Addr) (y : V) (t b : Int), vs = [.ref a, y] ∧ AmAt C H a t b ∧ Fgn H y
theorem not_am (T : AmTxt X.K X.mg C) {H : Hp} {y : V} (f : Fgn H y) : ∃ t, TyX X.K H y t ∧ PySem.W.kitOne X.K t (.ref C) = some false := by
  cases f with
  | non => exact ⟨_, .base .non, T.na.n⟩
  | bl b => exact ⟨_, .base (.bl b), T.na.b⟩
  | int i => exact ⟨_, .base (.int i), T.na.i⟩
  | str x => exact ⟨_, .base (.str x), T.na.s⟩
  | tup e => exact ⟨_, .base (.tup e), T.na.t⟩
  | lst e => exact ⟨_, .base (.lst e), T.na.l⟩
theorem rnN_eq (T : AmTxt X.K X.mg C) {f : Addr} {fd : FuncData} (F : Fun X.K "__eq__" "Amount.__eq__" sMEq f fd) (hb : Binds X.K fd ["self", "other"] []) (hn : X.mg "NotImplemented" = none) (hr : Room 1 X.A) : RnN X f (dFgn C) := by
  refine rnN_of F scEq hr hb (fun vs H h => ?_) rfl hn fun cdv A out s H vs hr h => ?_
  · obtain ⟨a, y, t, b, rfl, _⟩ := h
    rfl
  · obtain ⟨a, y, t, b, rfl, h1, f⟩ := h
    obtain ⟨ty, h2, h3⟩ := not_am T f
    refine ⟨_, pt_not (pt_val (pe_callB call_isi (by rfl) T.b_isinstance (by decide +kernel) (pa_cons (pv 1) (pa_cons (pe_glob (v := .ref C) (by rfl) T.gC rfl) pa_nil)))), by rfl, ?_⟩
    exact ⟨_, rfl, y, .ref C, ty, .ref C, false, rfl, .own C, h2, h3, false, rfl, rfl, Same.refl _⟩
def rAmF (C : Addr) (k : Bool) : R2 := fun x y H Q => ∃ (a : Addr) (t b : Int), x = .ref a ∧ AmAt C H a t b ∧ Fgn H y ∧ ∀ H', Same H H' → Q (.bl k) H'
theorem rAmF_in {k : Bool} {x y : V} {H : Hp} {Q : VK} (h : rAmF C k x y H Q) : rEqF C (dFgn C) k x y H Q := by
  obtain ⟨a, t, b, rfl, h1, f, q⟩ := h
  obtain ⟨z1, d1, p1, e1, g1⟩ := id h1
  exact ⟨a, d1, _, rfl, e1, f, ⟨a, y, t, b, rfl, h1, f⟩, q⟩
theorem op_eqAmF (T : AmTxt X.K X.mg C) (M : AmCmp X.K X.mg C) (hn : X.mg "NotImplemented" = none) (hr : Room 1 X.A) : OpR X (compareOp .Eq) (rAmF C false) :=
  let ⟨_, _, h1, h2, F, hb⟩ := M.eq.ex
  opr_imp (op_eqF hr.units0 T.fg h1 h2 (rnN_eq T F hb hn hr)) fun _ _ _ _ h => rAmF_in h
theorem op_neAmF (T : AmTxt X.K X.mg C) (M : AmCmp X.K X.mg C) (hn : X.mg "NotImplemented" = none) (hr : Room 2 X.A) : OpR X (compareOp .NotEq) (rAmF C true) :=
  let ⟨_, _, h1, h2, F, hb⟩ := M.eq.ex
  opr_imp (op_neF (by have := hr.units; omega) T.fg h1 T.ne T.cm h2 (rnN_eq (X := in1 X) T F hb hn hr.in1)) fun _ _ _ _ h => rAmF_in h
/-! ### an Amount shown -/
def sTxt (t b : Int) : Str := if b = 1 then PySem.Str.ofString (toString t) else Str.empty ++ PySem.Str.ofString (toString t) ++ "/" ++ PySem.Str.ofString (toString b)
def rTxt (t b : Int) : Str := Str.empty ++ "Amount(" ++ PySem.Str.ofString (toString t) ++ ", " ++ PySem.Str.ofString (toString b) ++ ")"
def spShow (C : Addr) (F : Int → Int → Str) : Sp := fun vs H Q _ => ∃ (a : Addr) (t b : Int), vs = [.ref a] ∧ AmAt C H a t b ∧ t.natAbs < 2 ^ 1900 ∧ b.natAbs < 2 ^ 1900 ∧ Q (.str (F t b)) H
theorem scStr : FnScope ["self"] ["self"] (defScope sMStr) := ⟨rfl, rfl, rfl, by decide +kernel, rfl, by decide +kernel, by decide +kernel⟩
theorem scRepr : FnScope ["self"] ["self"] (defScope sMRepr) := ⟨rfl, rfl, rfl, by decide +kernel, rfl, by decide +kernel, by decide +kernel⟩
theorem small1000' {n : Nat} (h : n ≤ 10000) : n ≤ sizeLine := Nat.le_trans h (by decide)
theorem ok_Str {f : Addr} {fd : FuncData} (F : Fun X.K "__str__" "Amount.__str__" sMStr f fd) (T : AmTxt X.K X.mg C) (M : AmCmp X.K X.mg C) : FnOk X.prog X.w X.K X.mg X.base CX0 1 f fd ["self"] (spShow C sTxt) := by
  refine F.ok scStr (fun vs H Q E h => ?_) (fun cdv A out s H vs Q E hr h => ?_)
  · obtain ⟨a, t, b, rfl, _⟩ := h
    rfl
  · obtain ⟨a, t, b, rfl, h1, hz1, hz2, q⟩ := h
    obtain ⟨z1, d1, p1, e1, g1⟩ := id h1
    refine ⟨_, (pss_cons (ps_if (pt_cmpR op_eq (pe_fld (pv 0) rfl) pe_int (nomark _)) (pss_one (ps_ret (pe_callTy call_str_int (by rfl) M.b_str (by decide +kernel) (pa_cons (pe_fld (pv 0) rfl) pa_nil)))) pss_nil)
  (pss_one (ps_ret (pe_joined (PJ.cons (pe_fmt (pe_fld (pv 0) rfl)) (PJ.cons pe_str (PJ.cons (pe_fmt (pe_fld (pv 0) rfl)) PJ.nil))))))), ?_⟩
    refine ⟨_, rfl, a, C, d1, _, _, rfl, e1, T.cl, T.nB, am_bottom _ _ _, rfl, _, rfl, ?_⟩
    have g1 := small_log hz1 (by decide) (by decide)
    have g2 := small_log hz2 (by decide) (by decide)
    have l1 := len1921 g1
    have l2 := len1921 g2
    by_cases h : b = 1
    · rw [decide_eq_true (show V.int b = V.int 1 by rw [h])]
      refine iteT ⟨_, rfl, a, C, d1, _, _, rfl, e1, T.cl, T.nT, am_top _ _ _, _, rfl, g1, ?_⟩
      have e : sTxt t b = PySem.Str.ofString (toString t) := if_pos h
      rw [e] at q
      exact q
    · rw [decide_eq_false (show ¬ V.int b = V.int 1 from fun z => h (by injection z))]
      refine iteF ⟨_, rfl, a, C, d1, _, _, rfl, e1, T.cl, T.nT, am_top _ _ _, .inr ⟨t, rfl, g1, _, rfl, ?_, _, rfl, ?_, ?_⟩⟩
      · rw [PySem.Str.length_append]
        exact small1000' (by show 0 + _ ≤ _; omega)
      · rw [PySem.Str.length_append, PySem.Str.length_append]
        exact small1000' (by show 0 + _ + 1 ≤ _; omega)
      · refine ⟨_, rfl, a, C, d1, _, _, rfl, e1, T.cl, T.nB, am_bottom _ _ _, .inr ⟨b, rfl, g2, _, rfl, ?_, ?_⟩⟩
        · rw [PySem.Str.length_append, PySem.Str.length_append, PySem.Str.length_append]
          exact small1000' (by show 0 + _ + 1 + _ ≤ _; omega)
        · have e : sTxt t b = Str.empty ++ PySem.Str.ofString (toString t) ++ "/" ++ PySem.Str.ofString (toString b) := if_neg h
          rw [e] at q
          exact q
theorem ok_Repr {f : Addr} {fd : FuncData} (F : Fun X.K "__repr__" "Amount.__repr__" sMRepr f fd) (T : AmTxt X.K X.mg C) : FnOk X.prog X.w X.K X.mg X.base CX0 1 f fd ["self"] (spShow C rTxt) := by
  refine F.ok scRepr (fun vs H Q E h => ?_) (fun cdv A out s H vs Q E hr h => ?_)
  · obtain ⟨a, t, b, rfl, _⟩ := h
    rfl
  · obtain ⟨a, t, b, rfl, h1, hz1, hz2, q⟩ := h
    obtain ⟨z1, d1, p1, e1, g1⟩ := id h1
    refine ⟨_, (pss_one (ps_ret (pe_joined (PJ.cons pe_str (PJ.cons (pe_fmt (pe_fld (pv 0) rfl)) (PJ.cons pe_str (PJ.cons (pe_fmt (pe_fld (pv 0) rfl)) (PJ.cons pe_str PJ.nil)))))))), ?_⟩
    have g1 := small_log hz1 (by decide) (by decide)
    have g2 := small_log hz2 (by decide) (by decide)
    have l1 := len1921 g1
    have l2 := len1921 g2
    refine ⟨_, rfl, by decide, _, rfl, a, C, d1, _, _, rfl, e1, T.cl, T.nT, am_top _ _ _, .inr ⟨t, rfl, g1, _, rfl, ?_, _, rfl, ?_, ?_⟩⟩
    · rw [PySem.Str.length_append, PySem.Str.length_append]
      exact small1000' (by show 0 + 7 + _ ≤ _; omega)
    · rw [PySem.Str.length_append, PySem.Str.length_append, PySem.Str.length_append]
      exact small1000' (by show 0 + 7 + _ + 2 ≤ _; omega)
    · refine ⟨_, rfl, a, C, d1, _, _, rfl, e1, T.cl, T.nB, am_bottom _ _ _, .inr ⟨b, rfl, g2, _, rfl, ?_, _, rfl, ?_, q⟩⟩
      · rw [PySem.Str.length_append, PySem.Str.length_append, PySem.Str.length_append, PySem.Str.length_append]
        exact small1000' (by show 0 + 7 + _ + 2 + _ ≤ _; omega)
      · rw [PySem.Str.length_append, PySem.Str.length_append, PySem.Str.length_append, PySem.Str.length_append, PySem.Str.length_append]
        exact small1000' (by show 0 + 7 + _ + 2 + _ + 1 ≤ _; omega)
/-- str(a), repr(a) of an Amount -/
def rAmS (C : Addr) (F : Int → Int → Str) : List V → Hp → VK → Prop := fun xs H Q => ∃ (a : Addr) (t b : Int), xs = [.ref a] ∧ AmAt C H a t b ∧ t.natAbs < 2 ^ 1900 ∧ b.natAbs < 2 ^ 1900 ∧ Q (.str (F t b)) H
theorem callr_imp {X : Cx} {f : Value} {r r' : List V → Hp → VK → Prop} (h : CallR X f r) (i : ∀ xs H Q, r' xs H Q → r xs H Q) : CallR X f r' := fun pins s σ H xs us Q I rv q => h pins s σ H xs us Q I rv (i xs H Q q)
theorem rAmS_in {F : Int → Int → Str} {xs : List V} {H : Hp} {Q : VK} (h : rAmS C F xs H Q) : rShow C (spShow C F) E0 xs H Q := by
  obtain ⟨a, t, b, rfl, h1, z1, z2, q⟩ := h
  obtain ⟨_, d1, p1, e1, g1⟩ := id h1
  exact ⟨a, d1, _, rfl, e1, a, t, b, rfl, h1, z1, z2, _, rfl, q⟩
theorem call_strAm (T : AmTxt X.K X.mg C) (M : AmCmp X.K X.mg C) (hr : Room 3 X.A) : CallR X (.type "str") (rAmS C sTxt) :=
  let ⟨_, _, h1, h2, F, hb⟩ := M.st.ex
  callr_imp (call_strO (by have := hr.units; omega) h1 h2 (rn_of (X := in1 (in1 X)) (ok_Str (X := in1 (in1 X)) F T M) hr.in1.in1 hb .nil pass0)) fun _ _ _ h => rAmS_in h
theorem call_reprAm (T : AmTxt X.K X.mg C) (M : AmCmp X.K X.mg C) (hr : Room 2 X.A) : CallR X (.builtin "repr") (rAmS C rTxt) :=
  let ⟨_, _, h1, h2, F, hb⟩ := M.rp.ex
  callr_imp (call_reprO (by have := hr.units; omega) h1 h2 (rn_of (X := in1 X) (ok_Repr (X := in1 X) F T) hr.in1 hb .nil pass0)) fun _ _ _ h => rAmS_in h
/-- a.top -/
theorem scTop : FnScope ["self"] ["self"] (defScope sMTop) := ⟨rfl, rfl, rfl, by decide +kernel, rfl, by decide +kernel, by decide +kernel⟩
def spTop (C : Addr) : Sp := fun vs H Q _ => ∃ (a : Addr) (t b : Int), vs = [.ref a] ∧ AmAt C H a t b ∧ Q (.int t) H
theorem ok_Top {f : Addr} {fd : FuncData} (F : Fun X.K "top" "Amount.top" sMTop f fd) (T : AmTxt X.K X.mg C) : FnOk X.prog X.w X.K X.mg X.base CX0 1 f fd ["self"] (spTop C) := by
  refine F.ok scTop (fun vs H Q E h => ?_) (fun cdv A out s H vs Q E hr h => ?_)
  · obtain ⟨a, t, b, rfl, _⟩ := h
    rfl
  · obtain ⟨a, t, b, rfl, h1, q⟩ := h
    obtain ⟨z1, d1, p1, e1, g1⟩ := id h1
    refine ⟨_, (pss_one (ps_ret (pe_fld (pv 0) rfl))), ?_⟩
    exact ⟨_, rfl, a, C, d1, _, _, rfl, e1, T.cl, T.nT, am_top _ _ _, q⟩
theorem pe_top {e : Expr} {te : TE} {pos : Pos} (he : PE X e te) (T : AmTxt X.K X.mg C) (M : AmCmp X.K X.mg C) (hr : Room 2 X.A) (hab : attributeBase e "top" X.env (eval e X.env) = eval e X.env := by rfl) : PE X (.Attribute e "top" pos) (tProp C (spTop C) [] E0 te) :=
  let ⟨_, _, _, hp, F, hb⟩ := M.pt.ex
  pe_prop he T.cl hp (ok_Top F T) hr hb .nil pass0 hab
end
end
end SP
namespace SP
open PySem PySem.Spec PyProof.Rows L2
abbrev sOf : Stmt := top 18
abbrev sMAdd : Stmt := inClass (top 16) 7
abbrev sMRadd : Stmt := inClass (top 16) 8
abbrev sMSub : Stmt := inClass (top 16) 9
abbrev sMRsub : Stmt := inClass (top 16) 10
abbrev sMMul : Stmt := inClass (top 16) 11
abbrev sMRmul : Stmt := inClass (top 16) 12
abbrev sMNeg : Stmt := inClass (top 16) 13
abbrev sMAbs : Stmt := inClass (top 16) 14
abbrev sMBool : Stmt := inClass (top 16) 15
abbrev sMOver : Stmt := inClass (top 16) 6
abbrev sMBot : Stmt := inClass (top 16) 4
abbrev sMSign : Stmt := inClass (top 16) 5


/-! ### lowest terms, plainly -/
theorem Low.uniq {z e t b t' b' : Int} (l : Low z e t b) (l' : Low z e t' b') (he : e ≠ 0) : t = t' ∧ b = b' := by
  have p := l.pos
  have p' := l'.pos
  have h : t * b' = t' * b := by
    have h1 : (t * b') * e = (t' * b) * e := by
      rw [show t * b' * e = (t * e) * b' by ac_rfl, l.eq, show t' * b * e = (t' * e) * b by ac_rfl, l'.eq]
      ac_rfl
    exact Int.eq_of_mul_eq_mul_right he h1
  have c1 : Nat.gcd t.natAbs b.natAbs = 1 := l.one
  have c2 : Nat.gcd t'.natAbs b'.natAbs = 1 := l'.one
  have hn : t.natAbs * b'.natAbs = t'.natAbs * b.natAbs := by rw [← Int.natAbs_mul, ← Int.natAbs_mul, h]
  have d1 : b.natAbs ∣ b'.natAbs := by
    have : b.natAbs ∣ t.natAbs * b'.natAbs := ⟨t'.natAbs, by rw [hn, Nat.mul_comm]⟩
    exact (Nat.Coprime.symm c1).dvd_of_dvd_mul_left this
  have d2 : b'.natAbs ∣ b.natAbs := by
    have : b'.natAbs ∣ t'.natAbs * b.natAbs := ⟨t.natAbs, by rw [← hn, Nat.mul_comm]⟩
    exact (Nat.Coprime.symm c2).dvd_of_dvd_mul_left this
  have e1 : b.natAbs = b'.natAbs := Nat.dvd_antisymm d1 d2
  have e2 : b = b' := by omega
  subst e2
  exact ⟨Int.eq_of_mul_eq_mul_right (by omega) h, rfl⟩
theorem low_self {t b : Int} (p : 0 < b) (g : Int.gcd t b = 1) : Low t b t b := ⟨p, g, rfl, Nat.le_refl _, Nat.le_refl _⟩
theorem gcd_one (t : Int) : Int.gcd t 1 = 1 := Int.gcd_one_right t
/-! ### an amount: an Amount or an int -/
def AmV (C : Addr) (H : Hp) (v : V) (t b : Int) : Prop := (∃ a, v = .ref a ∧ AmAt C H a t b ∧ Int.gcd t b = 1) ∨ (v = .int t ∧ b = 1)
theorem AmV.same {C : Addr} {H H' : Hp} {v : V} {t b : Int} (h : AmV C H v t b) (s : Same H H') : AmV C H' v t b := h.elim (fun ⟨a, e, k, g⟩ => .inl ⟨a, e, k.same s, g⟩) .inr
theorem AmV.cop {C : Addr} {H : Hp} {v : V} {t b : Int} (h : AmV C H v t b) : 0 < b ∧ Int.gcd t b = 1 := h.elim (fun ⟨_, _, k, g⟩ => ⟨k.1, g⟩) fun ⟨_, e⟩ => by subst e; exact ⟨by decide, gcd_one t⟩
structure AmOps (K : PySem.W.Frag) (mg : Str → Option Value) (C : Addr) : Prop where
  tOf : Top K mg "amount_of" sOf ["value"]
  sf : PySem.W.selfFirst K C = true
  si : PySem.W.subIn K (.ref C) (.type "int") = some false
  add : MethT K C "__add__" "Amount.__add__" sMAdd ["self", "other"]
  radd : MethT K C "__radd__" "Amount.__radd__" sMRadd ["self", "other"]
  sub : MethT K C "__sub__" "Amount.__sub__" sMSub ["self", "other"]
  rsub : MethT K C "__rsub__" "Amount.__rsub__" sMRsub ["self", "other"]
  mul : MethT K C "__mul__" "Amount.__mul__" sMMul ["self", "other"]
  rmul : MethT K C "__rmul__" "Amount.__rmul__" sMRmul ["self", "other"]
  neg : MethT K C "__neg__" "Amount.__neg__" sMNeg ["self"]
  abs : MethT K C "__abs__" "Amount.__abs__" sMAbs ["self"]
  bool : MethT K C "__bool__" "Amount.__bool__" sMBool ["self"]
section
variable {P : Program} {w : World} {K : PySem.W.Frag} {mg : Str → Option Value} {base : Heap} {C : Addr}
/-- Amount(i) -/
theorem rn_amount1 {X : Cx} (T : AmTxt X.K X.mg C) (hr : Room 3 X.A) : Rn X C (spMake C) [.int 1] E0 := by
  obtain ⟨fI, fd, mkC, F⟩ := T.mkC
  obtain ⟨ds, r, hb⟩ := F.binds1 (ps := ["self", "top", "bottom"]) 2 0 (by simp) rfl (fun Tp kV doc pm an cdv ct us its h1 h2 => match us, its, h1, h2 with | [_, _], [_], _, _ => ⟨_, rfl, rfl⟩)
  intro pins σ H1 s Q us vs I rv h
  refine run_make mkC (ok_init (P := X.prog) (w := X.w) (base := X.base) F T) hr hb r pass0 I rv ?_
  obtain ⟨tp, bt, ev, hb, h1, h2, q⟩ := h
  intro x dx nx nd ne
  have ev : vs ++ [V.int 1] = [.int tp, .int bt] := ev
  have s0 : Same H1 (upd (upd H1 dx (.own x)) x (.ins C dx [])) := fun b o e => by
    rw [upd_ne (ne_of_none e nx), upd_ne (ne_of_none e nd)]
    exact e
  refine ⟨x, dx, tp, bt, ?_, upd_same, hb, h1, h2, fun t b H' lw am k => ⟨rfl, q x t b H' lw am (fun c o e => k c o (s0 c o e) (ne_of_none e nx)) nx⟩⟩
  show V.ref x :: (vs ++ [V.int 1]) = _
  rw [ev]
theorem kpC (T : AmTxt K mg C) : PySem.W.keepIn K (.ref C) = true := let ⟨_, _, m, _⟩ := T.mkC; m.kp
def spOf (C : Addr) : Sp := fun vs H Q _ => ∃ (v : V) (t b : Int), vs = [v] ∧ AmV C H v t b ∧ t.natAbs < 2 ^ 8000 ∧ ∀ (a : Addr) (H' : Hp), AmAt C H' a t b → Same H H' → Q (.ref a) H'
theorem scOf : FnScope ["value"] ["value"] (defScope sOf) := ⟨rfl, rfl, rfl, by decide +kernel, rfl, by decide +kernel, by decide +kernel⟩
theorem ok_of {f : Addr} {fd : FuncData} (F : Fun K "amount_of" "amount_of" sOf f fd) (T : AmTxt K mg C) : FnOk P w K mg base CX0 4 f fd ["value"] (spOf C) := by
  have DI := d_ii (P := P) (w := w) (base := base) T
  refine F.ok scOf (fun vs H Q E h => ?_) (fun cdv A out s H vs Q E hr h => ?_)
  · obtain ⟨v, t, b, rfl, _⟩ := h
    rfl
  · obtain ⟨v, t, b, rfl, hv, ht, q⟩ := h
    refine ⟨_, (pss_cons (ps_if (pt_val (pe_callB call_isi (by rfl) T.b_isinstance (by decide +kernel) (pa_cons (pv 0) (pa_cons (pe_glob (v := .ref C) (by rfl) T.gC rfl) pa_nil)))) (pss_one (ps_ret (pv 0))) pss_nil)
  (pss_cons (ps_if (pt_not (pt_val (pe_callO DI (hr.mono (by decide)) (pa_cons (pv 0) pa_nil)))) (pss_one ps_never) pss_nil)
  (pss_one (ps_ret (pe_callC (rn_amount1 T (hr.mono (by decide))) T.gC (kpC T) (pa_cons (pv 0) pa_nil)))))), ?_⟩
    rcases hv with ⟨a, rfl, h1, hg⟩ | ⟨rfl, rfl⟩
    · refine ⟨_, rfl, .ref a, .ref C, .ref C, .ref C, true, rfl, .own C, .base (T.ty h1), kSelf, true, rfl, iteT ?_⟩
      exact ⟨_, rfl, q a H h1 (Same.refl _)⟩
    · refine ⟨_, rfl, .int t, .ref C, .type "int", .ref C, false, rfl, .own C, .base (.int t), T.na.i, false, rfl, iteF ?_⟩
      refine ⟨_, rfl, _, _, true, false, rfl, .base (.int t), kII, kIB, true, rfl, iteF ?_⟩
      refine ⟨_, rfl, t, 1, rfl, by decide, ht, by decide +kernel, fun x t' b' H' lw am s n => ?_⟩
      obtain ⟨rfl, rfl⟩ := lw.uniq (low_self (by decide) (gcd_one t)) (by decide)
      exact q x H' am s
theorem d_of (T : AmTxt K mg C) (O : AmOps K mg C) : DefO P w K mg base 4 "amount_of" ["value"] (spOf C) := let ⟨f, fd, hm, F, hb⟩ := O.tOf.ex; ⟨f, fd, hm, F.kp, ok_of F T, hb⟩
/-! ### +, -, * -/
def spAr (C : Addr) (F : Int → Int → Int → Int → Int × Int) : Sp := fun vs H Q _ => ∃ (a : Addr) (y : V) (t1 b1 t2 b2 : Int), vs = [.ref a, y] ∧ AmAt C H a t1 b1 ∧ Int.gcd t1 b1 = 1 ∧ AmV C H y t2 b2 ∧ t1.natAbs < 2 ^ 3000 ∧ b1.natAbs < 2 ^ 3000 ∧ t2.natAbs < 2 ^ 3000 ∧ b2.natAbs < 2 ^ 3000 ∧
  ∀ (r : Addr) (t b : Int) (H' : Hp), Low (F t1 b1 t2 b2).1 (F t1 b1 t2 b2).2 t b → AmAt C H' r t b → Same H H' → Q (.ref r) H'
def fAdd : Int → Int → Int → Int → Int × Int := fun t1 b1 t2 b2 => (t1 * b2 + t2 * b1, b1 * b2)
def fMul : Int → Int → Int → Int → Int × Int := fun t1 b1 t2 b2 => (t1 * t2, b1 * b2)
def fSub : Int → Int → Int → Int → Int × Int := fun t1 b1 t2 b2 => (t1 * b2 + -t2 * b1, b1 * b2)
def fRsub : Int → Int → Int → Int → Int × Int := fun t1 b1 t2 b2 => (t2 * b1 + -t1 * b2, b2 * b1)
def fRadd : Int → Int → Int → Int → Int × Int := fun t1 b1 t2 b2 => (t2 * b1 + t1 * b2, b2 * b1)
def fRmul : Int → Int → Int → Int → Int × Int := fun t1 b1 t2 b2 => (t2 * t1, b2 * b1)
theorem prod_lt {x y : Int} (hx : x.natAbs < 2 ^ 3000) (hy : y.natAbs < 2 ^ 3000) : (x * y).natAbs < 2 ^ 6000 := by
  rw [Int.natAbs_mul]
  have := Nat.mul_lt_mul'' hx hy
  rwa [← Nat.pow_add] at this
theorem p6 : 2 ^ 6000 + 2 ^ 6000 < 2 ^ 8000 := by decide +kernel
theorem mulW3 {x y : Int} (hx : x.natAbs < 2 ^ 3000) (hy : y.natAbs < 2 ^ 3000) : CMulW x y := by
  have h1 := PySem.Flt.log2_lt_of (k := 3000) (by decide) hx
  have h2 := PySem.Flt.log2_lt_of (k := 3000) (by decide) hy
  show x.natAbs.log2 + y.natAbs.log2 < 1000000
  omega
theorem scAdd : FnScope ["self", "other", "more", "top"] ["self", "other"] (defScope sMAdd) := ⟨rfl, rfl, rfl, by decide +kernel, rfl, by decide +kernel, by decide +kernel⟩
theorem ok_Add {f : Addr} {fd : FuncData} (F : Fun K "__add__" "Amount.__add__" sMAdd f fd) (T : AmTxt K mg C) (O : AmOps K mg C) : FnOk P w K mg base CX0 5 f fd ["self", "other"] (spAr C fAdd) := by
  have DOf := d_of (P := P) (w := w) (base := base) T O
  refine F.ok scAdd (fun vs H Q E h => ?_) (fun cdv A out s H vs Q E hr h => ?_)
  · obtain ⟨a, y, t1, b1, t2, b2, rfl, _⟩ := h
    rfl
  · obtain ⟨a, y, t1, b1, t2, b2, rfl, h1, hg, h2, l1, l2, l3, l4, q⟩ := h
    refine ⟨_, (pss_cons (ps_set (i := 2) scAdd.nd rfl (Or.inl rfl) (pe_callO DOf (hr.mono (by decide)) (pa_cons (pv 1) pa_nil)))
  (pss_cons (ps_set (i := 3) scAdd.nd rfl (Or.inl rfl) (pe_op op_add (pe_op op_mulW (pe_fld (pv 0) rfl) (pe_fld (pv 2) rfl)) (pe_op op_mulW (pe_fld (pv 2) rfl) (pe_fld (pv 0) rfl))))
  (pss_one (ps_ret (pe_callC (rn_amount T (hr.mono (by decide))) T.gC (kpC T) (pa_cons (pv 3) (pa_cons (pe_op op_mulW (pe_fld (pv 0) rfl) (pe_fld (pv 2) rfl)) pa_nil))))))), ?_⟩
    refine ⟨_, rfl, y, t2, b2, rfl, h2, Nat.lt_trans l3 (by decide +kernel), fun m H1 am s1 => ?_⟩
    obtain ⟨z1, d1, p1, e1, g1⟩ := h1.same s1
    obtain ⟨z2, d2, p2, e2, g2⟩ := id am
    refine ⟨_, rfl, a, C, d1, _, _, rfl, e1, T.cl, T.nT, am_top _ _ _, _, rfl, m, C, d2, _, _, rfl, e2, T.cl, T.nB, am_bottom _ _ _, _, _, rfl, rfl, mulW3 l1 l4, ?_⟩
    refine ⟨_, rfl, m, C, d2, _, _, rfl, e2, T.cl, T.nT, am_top _ _ _, _, rfl, a, C, d1, _, _, rfl, e1, T.cl, T.nB, am_bottom _ _ _, _, _, rfl, rfl, mulW3 l3 l2, _, _, rfl, rfl, ?_⟩
    refine ⟨_, rfl, _, rfl, a, C, d1, _, _, rfl, e1, T.cl, T.nB, am_bottom _ _ _, _, rfl, m, C, d2, _, _, rfl, e2, T.cl, T.nB, am_bottom _ _ _, _, _, rfl, rfl, mulW3 l2 l4, ?_⟩
    have u1 := prod_lt l1 l4
    have u2 := prod_lt l3 l2
    have u3 := prod_lt l2 l4
    have u4 := p6
    refine ⟨_, _, rfl, Int.mul_ne_zero (by omega) (by omega), ?_, by omega, fun x t b H' lw ax s2 n => q x t b H' lw ax (s1.trans s2)⟩
    have : (t1 * b2 + t2 * b1).natAbs ≤ (t1 * b2).natAbs + (t2 * b1).natAbs := Int.natAbs_add_le _ _
    omega
/-- both of them Amounts -/
def rArS (C : Addr) (F : Int → Int → Int → Int → Int × Int) : R2 := fun x y H Q => ∃ (a c : Addr) (t1 b1 t2 b2 : Int), x = .ref a ∧ y = .ref c ∧ AmAt C H a t1 b1 ∧ Int.gcd t1 b1 = 1 ∧ AmAt C H c t2 b2 ∧ Int.gcd t2 b2 = 1 ∧ t1.natAbs < 2 ^ 3000 ∧ b1.natAbs < 2 ^ 3000 ∧ t2.natAbs < 2 ^ 3000 ∧ b2.natAbs < 2 ^ 3000 ∧
  ∀ (r : Addr) (t b : Int) (H' : Hp), Low (F t1 b1 t2 b2).1 (F t1 b1 t2 b2).2 t b → AmAt C H' r t b → Same H H' → Q (.ref r) H'
theorem rArS_in {F : Int → Int → Int → Int → Int × Int} {x y : V} {H : Hp} {Q : VK} (h : rArS C F x y H Q) : rBinS C (spAr C F) E0 x y H Q := by
  obtain ⟨a, c, t1, b1, t2, b2, rfl, rfl, h1, g1, h2, g2, l1, l2, l3, l4, q⟩ := h
  obtain ⟨z1, d1, p1, e1, m1⟩ := id h1
  obtain ⟨z2, d2, p2, e2, m2⟩ := id h2
  exact ⟨a, c, d1, d2, _, _, rfl, rfl, e1, e2, a, .ref c, t1, b1, t2, b2, rfl, h1, g1, .inl ⟨c, rfl, h2, g2⟩, l1, l2, l3, l4, q⟩
section
variable {X : Cx}
theorem op_addS (T : AmTxt X.K X.mg C) (O : AmOps X.K X.mg C) (hr : Room 5 X.A) : OpR X (binaryOp .Add) (rArS C fAdd) :=
  let ⟨_, _, h1, h2, F, hb⟩ := O.add.ex
  opr_imp (op_binS O.sf h1 h2 (rn_of (ok_Add F T O) hr hb .nil pass0)) fun _ _ _ _ h => rArS_in h
end
def spOne (C : Addr) (F : Int → Int → Int × Int) : Sp := fun vs H Q _ => ∃ (a : Addr) (t b : Int), vs = [.ref a] ∧ AmAt C H a t b ∧ Int.gcd t b = 1 ∧ t.natAbs < 2 ^ 3000 ∧ b.natAbs < 2 ^ 3000 ∧ ∀ (r : Addr) (H' : Hp), AmAt C H' r (F t b).1 (F t b).2 → Same H H' → Q (.ref r) H'
theorem scNeg : FnScope ["self"] ["self"] (defScope sMNeg) := ⟨rfl, rfl, rfl, by decide +kernel, rfl, by decide +kernel, by decide +kernel⟩
theorem scAbs : FnScope ["self"] ["self"] (defScope sMAbs) := ⟨rfl, rfl, rfl, by decide +kernel, rfl, by decide +kernel, by decide +kernel⟩
theorem low_neg {t b : Int} (p : 0 < b) (g : Int.gcd t b = 1) : Low (-t) b (-t) b := low_self p (by rw [Int.neg_gcd]; exact g)
theorem ok_Neg {f : Addr} {fd : FuncData} (F : Fun K "__neg__" "Amount.__neg__" sMNeg f fd) (T : AmTxt K mg C) : FnOk P w K mg base CX0 4 f fd ["self"] (spOne C fun t b => (-t, b)) := by
  refine F.ok scNeg (fun vs H Q E h => ?_) (fun cdv A out s H vs Q E hr h => ?_)
  · obtain ⟨a, t, b, rfl, _⟩ := h
    rfl
  · obtain ⟨a, t, b, rfl, h1, hg, l1, l2, q⟩ := h
    refine ⟨_, (pss_one (ps_ret (pe_callC (rn_amount T (hr.mono (by decide))) T.gC (kpC T) (pa_cons (pe_un un_neg (pe_fld (pv 0) rfl)) (pa_cons (pe_fld (pv 0) rfl) pa_nil))))), ?_⟩
    obtain ⟨z1, d1, p1, e1, g1⟩ := id h1
    have big : 2 ^ 3000 < 2 ^ 8000 := by decide +kernel
    refine ⟨_, rfl, a, C, d1, _, _, rfl, e1, T.cl, T.nT, am_top _ _ _, _, rfl, _, rfl, a, C, d1, _, _, rfl, e1, T.cl, T.nB, am_bottom _ _ _, _, _, rfl, by omega, by rw [Int.natAbs_neg]; omega, by omega, fun x t' b' H' lw ax s2 n => ?_⟩
    obtain ⟨rfl, rfl⟩ := lw.uniq (low_neg z1 hg) (by omega)
    exact q x H' ax s2
theorem ok_Abs {f : Addr} {fd : FuncData} (F : Fun K "__abs__" "Amount.__abs__" sMAbs f fd) (T : AmTxt K mg C) : FnOk P w K mg base CX0 4 f fd ["self"] (spOne C fun t b => (if t < 0 then -t else t, b)) := by
  refine F.ok scAbs (fun vs H Q E h => ?_) (fun cdv A out s H vs Q E hr h => ?_)
  · obtain ⟨a, t, b, rfl, _⟩ := h
    rfl
  · obtain ⟨a, t, b, rfl, h1, hg, l1, l2, q⟩ := h
    refine ⟨_, (pss_one (ps_ret (pe_callC (rn_amount T (hr.mono (by decide))) T.gC (kpC T) (pa_cons (pe_callB call_abs (by rfl) T.b_abs (by decide +kernel) (pa_cons (pe_fld (pv 0) rfl) pa_nil)) (pa_cons (pe_fld (pv 0) rfl) pa_nil))))), ?_⟩
    obtain ⟨z1, d1, p1, e1, g1⟩ := id h1
    have big : 2 ^ 3000 < 2 ^ 8000 := by decide +kernel
    refine ⟨_, rfl, a, C, d1, _, _, rfl, e1, T.cl, T.nT, am_top _ _ _, _, rfl, _, rfl, a, C, d1, _, _, rfl, e1, T.cl, T.nB, am_bottom _ _ _, _, _, rfl, by omega, by split <;> omega, by omega, fun x t' b' H' lw ax s2 n => ?_⟩
    have l : Low (if t < 0 then -t else t) b (if t < 0 then -t else t) b := by
      split
      · exact low_neg z1 hg
      · exact low_self z1 hg
    obtain ⟨rfl, rfl⟩ := lw.uniq l (by omega)
    exact q x H' ax s2
section
variable {X : Cx}
def rOneC (C : Addr) (F : Int → Int → Int × Int) : V → Hp → VK → Prop := fun x H Q => ∃ (a : Addr) (t b : Int), x = .ref a ∧ AmAt C H a t b ∧ Int.gcd t b = 1 ∧ t.natAbs < 2 ^ 3000 ∧ b.natAbs < 2 ^ 3000 ∧ ∀ (r : Addr) (H' : Hp), AmAt C H' r (F t b).1 (F t b).2 → Same H H' → Q (.ref r) H'
theorem unr_imp {f : Value → Sem Value} {r r' : V → Hp → VK → Prop} (h : UnR X f r) (i : ∀ x H Q, r' x H Q → r x H Q) : UnR X f r' := fun pins s σ H x v Q I rx q => h pins s σ H x v Q I rx (i x H Q q)
theorem un_negAm (T : AmTxt X.K X.mg C) (O : AmOps X.K X.mg C) (hr : Room 4 X.A) : UnR X (unaryOp .USub) (rOneC C fun t b => (-t, b)) :=
  let ⟨_, _, h1, h2, F, hb⟩ := O.neg.ex
  unr_imp (un_negC h1 h2 (rn_of (ok_Neg F T) hr hb .nil pass0)) fun _ _ _ ⟨a, t, b, e, h1, g, l1, l2, q⟩ => let ⟨_, dx, _, e1, _⟩ := id h1; ⟨a, dx, _, e, e1, a, t, b, rfl, h1, g, l1, l2, q⟩
end
theorem scRadd : FnScope ["self", "other"] ["self", "other"] (defScope sMRadd) := ⟨rfl, rfl, rfl, by decide +kernel, rfl, by decide +kernel, by decide +kernel⟩
theorem ok_Radd {f : Addr} {fd : FuncData} (F : Fun K "__radd__" "Amount.__radd__" sMRadd f fd) (T : AmTxt K mg C) (O : AmOps K mg C) : FnOk P w K mg base CX0 6 f fd ["self", "other"] (spAr C fRadd) := by
  have DOf := d_of (P := P) (w := w) (base := base) T O
  refine F.ok scRadd (fun vs H Q E h => ?_) (fun cdv A out s H vs Q E hr h => ?_)
  · obtain ⟨a, y, t1, b1, t2, b2, rfl, _⟩ := h
    rfl
  · obtain ⟨a, y, t1, b1, t2, b2, rfl, h1, hg, h2, l1, l2, l3, l4, q⟩ := h
    refine ⟨_, (pss_one (ps_ret (pe_op (op_addS T O (hr.mono (by decide))) (pe_callO DOf (hr.mono (by decide)) (pa_cons (pv 1) pa_nil)) (pv 0)))), ?_⟩
    have big : t2.natAbs < 2 ^ 8000 := Nat.lt_trans l3 (by decide +kernel)
    have c2 := h2.cop
    have n2 : (-t2).natAbs < 2 ^ 3000 := by rw [Int.natAbs_neg]; exact l3
    have n1 : (-t1).natAbs < 2 ^ 3000 := by rw [Int.natAbs_neg]; exact l1
    have gn1 : Int.gcd (-t1) b1 = 1 := by rw [Int.neg_gcd]; exact hg
    have gn2 : Int.gcd (-t2) b2 = 1 := by rw [Int.neg_gcd]; exact c2.2
    exact ⟨_, rfl, y, t2, b2, rfl, h2, big, fun m H1 am s1 => ⟨_, rfl, m, a, t2, b2, t1, b1, rfl, rfl, am, c2.2, h1.same s1, hg, l3, l4, l1, l2, fun r t b H' lw ax s2 => q r t b H' lw ax (s1.trans s2)⟩⟩
theorem scSub : FnScope ["self", "other"] ["self", "other"] (defScope sMSub) := ⟨rfl, rfl, rfl, by decide +kernel, rfl, by decide +kernel, by decide +kernel⟩
theorem ok_Sub {f : Addr} {fd : FuncData} (F : Fun K "__sub__" "Amount.__sub__" sMSub f fd) (T : AmTxt K mg C) (O : AmOps K mg C) : FnOk P w K mg base CX0 6 f fd ["self", "other"] (spAr C fSub) := by
  have DOf := d_of (P := P) (w := w) (base := base) T O
  refine F.ok scSub (fun vs H Q E h => ?_) (fun cdv A out s H vs Q E hr h => ?_)
  · obtain ⟨a, y, t1, b1, t2, b2, rfl, _⟩ := h
    rfl
  · obtain ⟨a, y, t1, b1, t2, b2, rfl, h1, hg, h2, l1, l2, l3, l4, q⟩ := h
    refine ⟨_, (pss_one (ps_ret (pe_op (op_addS T O (hr.mono (by decide))) (pv 0) (pe_un (un_negAm T O (hr.mono (by decide))) (pe_callO DOf (hr.mono (by decide)) (pa_cons (pv 1) pa_nil)))))), ?_⟩
    have big : t2.natAbs < 2 ^ 8000 := Nat.lt_trans l3 (by decide +kernel)
    have c2 := h2.cop
    have n2 : (-t2).natAbs < 2 ^ 3000 := by rw [Int.natAbs_neg]; exact l3
    have n1 : (-t1).natAbs < 2 ^ 3000 := by rw [Int.natAbs_neg]; exact l1
    have gn1 : Int.gcd (-t1) b1 = 1 := by rw [Int.neg_gcd]; exact hg
    have gn2 : Int.gcd (-t2) b2 = 1 := by rw [Int.neg_gcd]; exact c2.2
    exact ⟨_, rfl, _, rfl, y, t2, b2, rfl, h2, big, fun m H1 am s1 => ⟨m, t2, b2, rfl, am, c2.2, l3, l4, fun r H2 an s2 => ⟨a, r, t1, b1, -t2, b2, rfl, rfl, (h1.same s1).same s2, hg, an, gn2, l1, l2, n2, l4, fun r t b H' lw ax s3 => q r t b H' lw ax ((s1.trans s2).trans s3)⟩⟩⟩
theorem scRsub : FnScope ["self", "other"] ["self", "other"] (defScope sMRsub) := ⟨rfl, rfl, rfl, by decide +kernel, rfl, by decide +kernel, by decide +kernel⟩
theorem ok_Rsub {f : Addr} {fd : FuncData} (F : Fun K "__rsub__" "Amount.__rsub__" sMRsub f fd) (T : AmTxt K mg C) (O : AmOps K mg C) : FnOk P w K mg base CX0 6 f fd ["self", "other"] (spAr C fRsub) := by
  have DOf := d_of (P := P) (w := w) (base := base) T O
  refine F.ok scRsub (fun vs H Q E h => ?_) (fun cdv A out s H vs Q E hr h => ?_)
  · obtain ⟨a, y, t1, b1, t2, b2, rfl, _⟩ := h
    rfl
  · obtain ⟨a, y, t1, b1, t2, b2, rfl, h1, hg, h2, l1, l2, l3, l4, q⟩ := h
    refine ⟨_, (pss_one (ps_ret (pe_op (op_addS T O (hr.mono (by decide))) (pe_callO DOf (hr.mono (by decide)) (pa_cons (pv 1) pa_nil)) (pe_un (un_negAm T O (hr.mono (by decide))) (pv 0))))), ?_⟩
    have big : t2.natAbs < 2 ^ 8000 := Nat.lt_trans l3 (by decide +kernel)
    have c2 := h2.cop
    have n2 : (-t2).natAbs < 2 ^ 3000 := by rw [Int.natAbs_neg]; exact l3
    have n1 : (-t1).natAbs < 2 ^ 3000 := by rw [Int.natAbs_neg]; exact l1
    have gn1 : Int.gcd (-t1) b1 = 1 := by rw [Int.neg_gcd]; exact hg
    have gn2 : Int.gcd (-t2) b2 = 1 := by rw [Int.neg_gcd]; exact c2.2
    exact ⟨_, rfl, y, t2, b2, rfl, h2, big, fun m H1 am s1 => ⟨_, rfl, a, t1, b1, rfl, h1.same s1, hg, l1, l2, fun r H2 an s2 => ⟨m, r, t2, b2, -t1, b1, rfl, rfl, am.same s2, c2.2, an, gn1, l3, l4, n1, l2, fun r t b H' lw ax s3 => q r t b H' lw ax ((s1.trans s2).trans s3)⟩⟩⟩
theorem scMul : FnScope ["self", "other", "more"] ["self", "other"] (defScope sMMul) := ⟨rfl, rfl, rfl, by decide +kernel, rfl, by decide +kernel, by decide +kernel⟩
theorem ok_Mul {f : Addr} {fd : FuncData} (F : Fun K "__mul__" "Amount.__mul__" sMMul f fd) (T : AmTxt K mg C) (O : AmOps K mg C) : FnOk P w K mg base CX0 5 f fd ["self", "other"] (spAr C fMul) := by
  have DOf := d_of (P := P) (w := w) (base := base) T O
  refine F.ok scMul (fun vs H Q E h => ?_) (fun cdv A out s H vs Q E hr h => ?_)
  · obtain ⟨a, y, t1, b1, t2, b2, rfl, _⟩ := h
    rfl
  · obtain ⟨a, y, t1, b1, t2, b2, rfl, h1, hg, h2, l1, l2, l3, l4, q⟩ := h
    refine ⟨_, (pss_cons (ps_set (i := 2) scMul.nd rfl (Or.inl rfl) (pe_callO DOf (hr.mono (by decide)) (pa_cons (pv 1) pa_nil)))
  (pss_one (ps_ret (pe_callC (rn_amount T (hr.mono (by decide))) T.gC (kpC T) (pa_cons (pe_op op_mulW (pe_fld (pv 0) rfl) (pe_fld (pv 2) rfl)) (pa_cons (pe_op op_mulW (pe_fld (pv 0) rfl) (pe_fld (pv 2) rfl)) pa_nil)))))), ?_⟩
    refine ⟨_, rfl, y, t2, b2, rfl, h2, Nat.lt_trans l3 (by decide +kernel), fun m H1 am s1 => ?_⟩
    obtain ⟨z1, d1, p1, e1, g1⟩ := h1.same s1
    obtain ⟨z2, d2, p2, e2, g2⟩ := id am
    refine ⟨_, rfl, a, C, d1, _, _, rfl, e1, T.cl, T.nT, am_top _ _ _, _, rfl, m, C, d2, _, _, rfl, e2, T.cl, T.nT, am_top _ _ _, _, _, rfl, rfl, mulW3 l1 l3, ?_⟩
    refine ⟨_, rfl, a, C, d1, _, _, rfl, e1, T.cl, T.nB, am_bottom _ _ _, _, rfl, m, C, d2, _, _, rfl, e2, T.cl, T.nB, am_bottom _ _ _, _, _, rfl, rfl, mulW3 l2 l4, ?_⟩
    have u1 := prod_lt l1 l3
    have u3 := prod_lt l2 l4
    have u4 := p6
    exact ⟨_, _, rfl, Int.mul_ne_zero (by omega) (by omega), by omega, by omega, fun x t b H' lw ax s2 n => q x t b H' lw ax (s1.trans s2)⟩
section
variable {X : Cx}
theorem op_mulS (T : AmTxt X.K X.mg C) (O : AmOps X.K X.mg C) (hr : Room 5 X.A) : OpR X (binaryOp .Mult) (rArS C fMul) :=
  let ⟨_, _, h1, h2, F, hb⟩ := O.mul.ex
  opr_imp (op_binS O.sf h1 h2 (rn_of (ok_Mul F T O) hr hb .nil pass0)) fun _ _ _ _ h => rArS_in h
end
theorem scRmul : FnScope ["self", "other"] ["self", "other"] (defScope sMRmul) := ⟨rfl, rfl, rfl, by decide +kernel, rfl, by decide +kernel, by decide +kernel⟩
theorem ok_Rmul {f : Addr} {fd : FuncData} (F : Fun K "__rmul__" "Amount.__rmul__" sMRmul f fd) (T : AmTxt K mg C) (O : AmOps K mg C) : FnOk P w K mg base CX0 6 f fd ["self", "other"] (spAr C fRmul) := by
  have DOf := d_of (P := P) (w := w) (base := base) T O
  refine F.ok scRmul (fun vs H Q E h => ?_) (fun cdv A out s H vs Q E hr h => ?_)
  · obtain ⟨a, y, t1, b1, t2, b2, rfl, _⟩ := h
    rfl
  · obtain ⟨a, y, t1, b1, t2, b2, rfl, h1, hg, h2, l1, l2, l3, l4, q⟩ := h
    refine ⟨_, (pss_one (ps_ret (pe_op (op_mulS T O (hr.mono (by decide))) (pe_callO DOf (hr.mono (by decide)) (pa_cons (pv 1) pa_nil)) (pv 0)))), ?_⟩
    have big : t2.natAbs < 2 ^ 8000 := Nat.lt_trans l3 (by decide +kernel)
    exact ⟨_, rfl, y, t2, b2, rfl, h2, big, fun m H1 am s1 => ⟨_, rfl, m, a, t2, b2, t1, b1, rfl, rfl, am, h2.cop.2, h1.same s1, hg, l3, l4, l1, l2, fun r t b H' lw ax s2 => q r t b H' lw ax (s1.trans s2)⟩⟩
theorem scBool : FnScope ["self"] ["self"] (defScope sMBool) := ⟨rfl, rfl, rfl, by decide +kernel, rfl, by decide +kernel, by decide +kernel⟩
def spBool (C : Addr) : Sp := fun vs H Q _ => ∃ (a : Addr) (t b : Int), vs = [.ref a] ∧ AmAt C H a t b ∧ Q (.bl (!decide (t = 0))) H
theorem ok_Bool {f : Addr} {fd : FuncData} (F : Fun K "__bool__" "Amount.__bool__" sMBool f fd) (T : AmTxt K mg C) : FnOk P w K mg base CX0 1 f fd ["self"] (spBool C) := by
  refine F.ok scBool (fun vs H Q E h => ?_) (fun cdv A out s H vs Q E hr h => ?_)
  · obtain ⟨a, t, b, rfl, _⟩ := h
    rfl
  · obtain ⟨a, t, b, rfl, h1, q⟩ := h
    refine ⟨_, (pss_one (ps_ret (pe_callTy call_bool1 (by rfl) T.b_bool (by decide +kernel) (pa_cons (pe_cmpR op_ne (pe_fld (pv 0) rfl) pe_int (nomark _)) pa_nil)))), ?_⟩
    obtain ⟨z1, d1, p1, e1, g1⟩ := id h1
    refine ⟨_, rfl, a, C, d1, _, _, rfl, e1, T.cl, T.nT, am_top _ _ _, ?_⟩
    refine ⟨rfl, .inr ⟨_, rfl, ?_⟩⟩
    rw [show decide (V.int t = V.int 0) = decide (t = 0) from decide_eq_decide.mpr ⟨fun z => by injection z, fun z => by rw [z]⟩]
    exact q
/-! ### over -/
def fDiv : Int → Int → Int → Int → Int × Int := fun t1 b1 t2 b2 => (t1 * b2, b1 * t2)
def spDiv (C : Addr) : Sp := fun vs H Q E => spAr C fDiv vs H Q E ∧ ∃ (a : Addr) (y : V) (t2 b2 : Int), vs = [.ref a, y] ∧ AmV C H y t2 b2 ∧ t2 ≠ 0
theorem AmV.uniq {H : Hp} {v : V} {t b t' b' : Int} (h : AmV C H v t b) (h' : AmV C H v t' b') : t = t' ∧ b = b' := by
  rcases h with ⟨a, rfl, ⟨_, dx, pl, e, _⟩, _⟩ | ⟨rfl, rfl⟩
  · rcases h' with ⟨a', e', ⟨_, dx', pl', k, _⟩, _⟩ | ⟨e', _⟩
    · cases e'
      rw [e] at k
      injection k with k
      injection k with _ _ k
      simp only [amF, List.cons.injEq, Prod.mk.injEq, V.int.injEq] at k
      exact ⟨k.1.2, k.2.1.2⟩
    · cases e'
  · rcases h' with ⟨a', e', _⟩ | ⟨e', rfl⟩
    · cases e'
    · cases e'
      exact ⟨rfl, rfl⟩
theorem scOver : FnScope ["self", "other", "divisor"] ["self", "other"] (defScope sMOver) := ⟨rfl, rfl, rfl, by decide +kernel, rfl, by decide +kernel, by decide +kernel⟩
theorem ok_Over {f : Addr} {fd : FuncData} (F : Fun K "over" "Amount.over" sMOver f fd) (T : AmTxt K mg C) (O : AmOps K mg C) : FnOk P w K mg base CX0 5 f fd ["self", "other"] (spDiv C) := by
  have DOf := d_of (P := P) (w := w) (base := base) T O
  refine F.ok scOver (fun vs H Q E h => ?_) (fun cdv A out s H vs Q E hr h => ?_)
  · obtain ⟨⟨a, y, t1, b1, t2, b2, rfl, _⟩, _⟩ := h
    rfl
  · obtain ⟨⟨a, y, t1, b1, t2, b2, rfl, h1, hg, h2, l1, l2, l3, l4, q⟩, a', y', t2', b2', ev, h2', nz⟩ := h
    cases ev
    obtain ⟨rfl, rfl⟩ := h2.uniq h2'
    refine ⟨_, (pss_cons (ps_set (i := 2) scOver.nd rfl (Or.inl rfl) (pe_callO DOf (hr.mono (by decide)) (pa_cons (pv 1) pa_nil)))
  (pss_cons (ps_if (pt_cmpR op_eq (pe_fld (pv 2) rfl) pe_int (nomark _)) (pss_one ps_never) pss_nil)
  (pss_one (ps_ret (pe_callC (rn_amount T (hr.mono (by decide))) T.gC (kpC T) (pa_cons (pe_op op_mulW (pe_fld (pv 0) rfl) (pe_fld (pv 2) rfl)) (pa_cons (pe_op op_mulW (pe_fld (pv 0) rfl) (pe_fld (pv 2) rfl)) pa_nil))))))), ?_⟩
    refine ⟨_, rfl, y, t2, b2, rfl, h2, Nat.lt_trans l3 (by decide +kernel), fun m H1 am s1 => ?_⟩
    obtain ⟨z1, d1, p1, e1, g1⟩ := h1.same s1
    obtain ⟨z2, d2, p2, e2, g2⟩ := id am
    refine ⟨_, rfl, m, C, d2, _, _, rfl, e2, T.cl, T.nT, am_top _ _ _, rfl, _, rfl, ?_⟩
    rw [decide_eq_false (show ¬ V.int t2 = V.int 0 from fun z => nz (by injection z))]
    refine iteF ?_
    refine ⟨_, rfl, a, C, d1, _, _, rfl, e1, T.cl, T.nT, am_top _ _ _, _, rfl, m, C, d2, _, _, rfl, e2, T.cl, T.nB, am_bottom _ _ _, _, _, rfl, rfl, mulW3 l1 l4, ?_⟩
    refine ⟨_, rfl, a, C, d1, _, _, rfl, e1, T.cl, T.nB, am_bottom _ _ _, _, rfl, m, C, d2, _, _, rfl, e2, T.cl, T.nT, am_top _ _ _, _, _, rfl, rfl, mulW3 l2 l3, ?_⟩
    have u1 := prod_lt l1 l4
    have u3 := prod_lt l2 l3
    have u4 := p6
    exact ⟨_, _, rfl, Int.mul_ne_zero (by omega) nz, by omega, by omega, fun x t b H' lw ax s2 n => q x t b H' lw ax (s1.trans s2)⟩
/-! ### bottom, sign -/
theorem scBot : FnScope ["self"] ["self"] (defScope sMBot) := ⟨rfl, rfl, rfl, by decide +kernel, rfl, by decide +kernel, by decide +kernel⟩
theorem scSgn : FnScope ["self"] ["self"] (defScope sMSign) := ⟨rfl, rfl, rfl, by decide +kernel, rfl, by decide +kernel, by decide +kernel⟩
def spBot (C : Addr) : Sp := fun vs H Q _ => ∃ (a : Addr) (t b : Int), vs = [.ref a] ∧ AmAt C H a t b ∧ Q (.int b) H
def sg1 (t : Int) : Int := (if decide (t > 0) = true then 1 else 0) - (if decide (t < 0) = true then 1 else 0)
def spSgn (C : Addr) : Sp := fun vs H Q _ => ∃ (a : Addr) (t b : Int), vs = [.ref a] ∧ AmAt C H a t b ∧ Q (.int (sg1 t)) H
theorem ok_Bot {f : Addr} {fd : FuncData} (F : Fun K "bottom" "Amount.bottom" sMBot f fd) (T : AmTxt K mg C) : FnOk P w K mg base CX0 1 f fd ["self"] (spBot C) := by
  refine F.ok scBot (fun vs H Q E h => ?_) (fun cdv A out s H vs Q E hr h => ?_)
  · obtain ⟨a, t, b, rfl, _⟩ := h
    rfl
  · obtain ⟨a, t, b, rfl, h1, q⟩ := h
    obtain ⟨z1, d1, p1, e1, g1⟩ := id h1
    refine ⟨_, (pss_one (ps_ret (pe_fld (pv 0) rfl))), ?_⟩
    exact ⟨_, rfl, a, C, d1, _, _, rfl, e1, T.cl, T.nB, am_bottom _ _ _, q⟩
theorem ok_Sgn {f : Addr} {fd : FuncData} (F : Fun K "sign" "Amount.sign" sMSign f fd) (T : AmTxt K mg C) : FnOk P w K mg base CX0 1 f fd ["self"] (spSgn C) := by
  refine F.ok scSgn (fun vs H Q E h => ?_) (fun cdv A out s H vs Q E hr h => ?_)
  · obtain ⟨a, t, b, rfl, _⟩ := h
    rfl
  · obtain ⟨a, t, b, rfl, h1, q⟩ := h
    obtain ⟨z1, d1, p1, e1, g1⟩ := id h1
    refine ⟨_, (pss_one (ps_ret (pe_op op_sub (pe_callTy call_int1 (by rfl) T.b_int (by decide +kernel) (pa_cons (pe_cmpR op_gt (pe_fld (pv 0) rfl) pe_int (nomark _)) pa_nil)) (pe_callTy call_int1 (by rfl) T.b_int (by decide +kernel) (pa_cons (pe_cmpR op_lt (pe_fld (pv 0) rfl) pe_int (nomark _)) pa_nil))))), ?_⟩
    refine ⟨_, rfl, a, C, d1, _, _, rfl, e1, T.cl, T.nT, am_top _ _ _, _, _, rfl, rfl, .inr ⟨_, rfl, ?_⟩⟩
    exact ⟨_, rfl, a, C, d1, _, _, rfl, e1, T.cl, T.nT, am_top _ _ _, _, _, rfl, rfl, .inr ⟨_, rfl, _, _, rfl, rfl, q⟩⟩
/-! ### the rules for a law -/
section
variable {X : Cx}
theorem opr_or {f : Value → Value → Sem Value} {r1 r2 : R2} (h1 : OpR X f r1) (h2 : OpR X f r2) : OpR X f fun x y H Q => r1 x y H Q ∨ r2 x y H Q := fun pins s σ H x y v u Q I rx ry q => q.elim (h1 pins s σ H x y v u Q I rx ry) (h2 pins s σ H x y v u Q I rx ry)
/-- two amounts, at least one of them an Amount -/
def rArV (C : Addr) (F : Int → Int → Int → Int → Int × Int) : R2 := fun x y H Q => ∃ (t1 b1 t2 b2 : Int), AmV C H x t1 b1 ∧ AmV C H y t2 b2 ∧ ((∃ a, x = .ref a) ∨ ∃ a, y = .ref a) ∧ t1.natAbs < 2 ^ 3000 ∧ b1.natAbs < 2 ^ 3000 ∧ t2.natAbs < 2 ^ 3000 ∧ b2.natAbs < 2 ^ 3000 ∧
  ∀ (r : Addr) (t b : Int) (H' : Hp), Low (F t1 b1 t2 b2).1 (F t1 b1 t2 b2).2 t b → AmAt C H' r t b → Same H H' → Q (.ref r) H'
theorem rArV_in {F G : Int → Int → Int → Int → Int × Int} {x y : V} {H : Hp} {Q : VK} (e : ∀ t1 b1 t2 b2, G t2 b2 t1 b1 = F t1 b1 t2 b2) (h : rArV C F x y H Q) : (rBinS C (spAr C F) E0 x y H Q ∨ rBinI C (spAr C F) E0 x y H Q) ∨ rBinR C (spAr C G) E0 x y H Q := by
  obtain ⟨t1, b1, t2, b2, hx, hy, ho, l1, l2, l3, l4, q⟩ := h
  rcases hx with ⟨a, rfl, h1, g1⟩ | ⟨rfl, rfl⟩
  · obtain ⟨z1, d1, p1, e1, m1⟩ := id h1
    refine .inl ?_
    rcases hy with ⟨c, rfl, h2, g2⟩ | ⟨rfl, rfl⟩
    · obtain ⟨z2, d2, p2, e2, m2⟩ := id h2
      exact .inl ⟨a, c, d1, d2, _, _, rfl, rfl, e1, e2, a, .ref c, t1, b1, t2, b2, rfl, h1, g1, .inl ⟨c, rfl, h2, g2⟩, l1, l2, l3, l4, q⟩
    · exact .inr ⟨a, d1, _, t2, rfl, rfl, e1, a, .int t2, t1, b1, t2, 1, rfl, h1, g1, .inr ⟨rfl, rfl⟩, l1, l2, l3, l4, q⟩
  · rcases hy with ⟨c, rfl, h2, g2⟩ | ⟨rfl, rfl⟩
    · obtain ⟨z2, d2, p2, e2, m2⟩ := id h2
      exact .inr ⟨c, d2, _, t1, rfl, rfl, e2, c, .int t1, t2, b2, t1, 1, rfl, h2, g2, .inr ⟨rfl, rfl⟩, l3, l4, l1, l2, by rw [e]; exact q⟩
    · rcases ho with ⟨_, z⟩ | ⟨_, z⟩ <;> cases z
theorem op_addAm (T : AmTxt X.K X.mg C) (O : AmOps X.K X.mg C) (hr : Room 6 X.A) : OpR X (binaryOp .Add) (rArV C fAdd) :=
  let ⟨_, _, h1, h2, F1, hb⟩ := O.add.ex
  let ⟨_, _, h3, h4, F2, hb2⟩ := O.radd.ex
  opr_imp (opr_or (opr_or (op_binS O.sf h1 h2 (rn_of (ok_Add F1 T O) (hr.mono (by decide)) hb .nil pass0)) (op_binI (fo := some (.builtin "int.__add__")) (ro := some (.builtin "int.__radd__")) O.sf h1 h2 h3 (by decide +kernel) (by decide +kernel) (rn_of (ok_Add F1 T O) (hr.mono (by decide)) hb .nil pass0)))
    (op_binR (id := "int.__add__") O.sf h1 h3 h4 O.si F.fills_int_add F.slot_int_add (fun hx q => int_add_no hx q) (rn_of (ok_Radd F2 T O) hr hb2 .nil pass0))) fun _ _ _ _ h => rArV_in (fun _ _ _ _ => rfl) h
theorem op_subAm (T : AmTxt X.K X.mg C) (O : AmOps X.K X.mg C) (hr : Room 6 X.A) : OpR X (binaryOp .Sub) (rArV C fSub) :=
  let ⟨_, _, h1, h2, F1, hb⟩ := O.sub.ex
  let ⟨_, _, h3, h4, F2, hb2⟩ := O.rsub.ex
  opr_imp (opr_or (opr_or (op_binS O.sf h1 h2 (rn_of (ok_Sub F1 T O) hr hb .nil pass0)) (op_binI (fo := some (.builtin "int.__sub__")) (ro := some (.builtin "int.__rsub__")) O.sf h1 h2 h3 (by decide +kernel) (by decide +kernel) (rn_of (ok_Sub F1 T O) hr hb .nil pass0)))
    (op_binR (id := "int.__sub__") O.sf h1 h3 h4 O.si F.fills_int_sub F.slot_int_sub (fun hx q => int_sub_no hx q) (rn_of (ok_Rsub F2 T O) hr hb2 .nil pass0))) fun _ _ _ _ h => rArV_in (fun _ _ _ _ => rfl) h
theorem op_mulAm (T : AmTxt X.K X.mg C) (O : AmOps X.K X.mg C) (hr : Room 6 X.A) : OpR X (binaryOp .Mult) (rArV C fMul) :=
  let ⟨_, _, h1, h2, F1, hb⟩ := O.mul.ex
  let ⟨_, _, h3, h4, F2, hb2⟩ := O.rmul.ex
  opr_imp (opr_or (opr_or (op_binS O.sf h1 h2 (rn_of (ok_Mul F1 T O) (hr.mono (by decide)) hb .nil pass0)) (op_binI (fo := some (.builtin "int.__mul__")) (ro := some (.builtin "int.__rmul__")) O.sf h1 h2 h3 (by decide +kernel) (by decide +kernel) (rn_of (ok_Mul F1 T O) (hr.mono (by decide)) hb .nil pass0)))
    (op_binR (id := "int.__mul__") O.sf h1 h3 h4 O.si F.fills_int_mul F.slot_int_mul (fun hx q => int_mul_no hx q) (rn_of (ok_Rmul F2 T O) hr hb2 .nil pass0))) fun _ _ _ _ h => rArV_in (fun _ _ _ _ => rfl) h
theorem callr_imp2 {f : Value} {r r' : List V → Hp → VK → Prop} (h : CallR X f r) (i : ∀ xs H Q, r' xs H Q → r xs H Q) : CallR X f r' := fun pins s σ H xs us Q I rv q => h pins s σ H xs us Q I rv (i xs H Q q)
theorem call_absAm (T : AmTxt X.K X.mg C) (O : AmOps X.K X.mg C) (hr : Room 5 X.A) : CallR X (.builtin "abs") (fun xs H Q => ∃ x, xs = [x] ∧ rOneC C (fun t b => (if t < 0 then -t else t, b)) x H Q) :=
  let ⟨_, _, h1, h2, F1, hb⟩ := O.abs.ex
  callr_imp2 (call_absC h1 h2 (rn_of (X := in1 X) (ok_Abs F1 T) hr.in1 hb .nil pass0)) fun _ _ _ ⟨x, ex, a, t, b, e, h1, g, l1, l2, q⟩ => let ⟨_, dx, _, e1, _⟩ := id h1; ⟨a, dx, _, by rw [ex, e], e1, a, t, b, rfl, h1, g, l1, l2, q⟩
theorem call_boolAm (T : AmTxt X.K X.mg C) (O : AmOps X.K X.mg C) (hr : Room 3 X.A) : CallR X (.type "bool") (fun xs H Q => ∃ (a : Addr) (t b : Int), xs = [.ref a] ∧ AmAt C H a t b ∧ Q (.bl (!decide (t = 0))) H) :=
  let ⟨_, _, h1, h2, F1, hb⟩ := O.bool.ex
  callr_imp2 (call_boolC h1 h2 (rn_of (X := in1 (in1 X)) (ok_Bool F1 T) hr.in1.in1 hb .nil pass0)) fun _ _ _ ⟨a, t, b, ex, h1, q⟩ => let ⟨_, dx, _, e1, _⟩ := id h1; ⟨a, dx, _, ex, e1, a, t, b, rfl, h1, _, rfl, q⟩
end
end
end SP
/-! Refusals of the amounts' part: defs that raise. -/
namespace SP
open PySem PySem.Spec PyProof.Rows L2


section
variable {P : Program} {w : World} {K : PySem.W.Frag} {mg : Str → Option Value} {base : Heap} {C CE : Addr}
/-- a value whose kind is told, that is no amount -/
def NoAm (K : PySem.W.Frag) (C : Addr) (H : Hp) (v : V) : Prop := ∃ (t : Value) (b1 b2 : Bool), TyX K H v t ∧ PySem.W.kitOne K t (.ref C) = some false ∧ PySem.W.kitOne K t (.type "int") = some b1 ∧ PySem.W.kitOne K t (.type "bool") = some b2 ∧ (b1 && !b2) = false
/-- refused with an error of the class at CE that bears v -/
def Refused (CE : Addr) (H : Hp) (E : XK) (v : V) : Prop := ∀ d, H d = none → E (.ref CE) (some d) (upd H d (.xd [(Str.ofString "value", v)]))
def spOfR (K : PySem.W.Frag) (C CE : Addr) : Sp := fun vs H _ E => ∃ v : V, vs = [v] ∧ NoAm K C H v ∧ Refused CE H E v
theorem ok_ofR {f : Addr} {fd : FuncData} (F : Fun K "amount_of" "amount_of" sOf f fd) (T : AmTxt K mg C) (R : ErrOk P w K mg base "InvalidAmount" CE (Str.ofString "value")) : FnG P w K mg base (L2.CX P w) 4 f fd ["value"] (spOfR K C CE) := by
  have DI := d_ii (P := P) (w := w) (base := base) T
  refine okG F scOf (fun vs H Q E h => ?_) (fun cdv A out s H vs Q E gd hr h => ?_)
  · obtain ⟨v, rfl, _⟩ := h
    rfl
  · obtain ⟨v, rfl, ⟨t, b1, b2, ty, kC, k1, k2, no⟩, q⟩ := h
    have TK : Takes (cxOf (L2.CX P w) P w K mg base ["value"] "amount_of" (defScope sOf) f cdv A out s H E) (fun cls d _ H => E cls d H) := takes_of rfl rfl rfl rfl
    refine ⟨_, (pss_cons (ps_if (pt_val (pe_callB call_isi (by rfl) T.b_isinstance (by decide +kernel) (pa_cons (pv 0) (pa_cons (pe_glob (v := .ref C) (by rfl) T.gC rfl) pa_nil)))) (pss_one (ps_ret (pv 0))) pss_nil)
  (pss_cons (ps_if (pt_not (pt_val (pe_callO DI (hr.mono (by decide)) (pa_cons (pv 0) pa_nil)))) (pss_one (ps_err R (hr.mono (by decide)) rfl TK (pa_cons (pv 0) pa_nil))) pss_nil)
  (pss_one (ps_ret (pe_callC (rn_amount1 T (hr.mono (by decide))) T.gC (kpC T) (pa_cons (pv 0) pa_nil)))))), ?_⟩
    refine ⟨_, rfl, v, .ref C, t, .ref C, false, rfl, .own C, ty, kC, false, rfl, iteF ?_⟩
    refine ⟨_, rfl, v, t, b1, b2, rfl, ty, k1, k2, ?_⟩
    rw [no]
    refine ⟨false, rfl, iteT ?_⟩
    exact ⟨_, rfl, _, rfl, q⟩
/-- a value whose kind is told, that is no INTEGER -/
def NoI (K : PySem.W.Frag) (H : Hp) (v : V) : Prop := ∃ (t : Value) (b1 b2 : Bool), TyX K H v t ∧ PySem.W.kitOne K t (.type "int") = some b1 ∧ PySem.W.kitOne K t (.type "bool") = some b2 ∧ (b1 && !b2) = false
/-- which of the two is refused -/
def BadIn (K : PySem.W.Frag) (H : Hp) (tp bt v : V) : Prop := (NoI K H tp ∧ v = tp) ∨ (∃ i : Int, tp = .int i ∧ v = bt ∧ (NoI K H bt ∨ bt = .int 0))
def spInitR (K : PySem.W.Frag) (CE : Addr) : Sp := fun vs H _ E => ∃ s tp bt v : V, vs = [s, tp, bt] ∧ BadIn K H tp bt v ∧ Refused CE H E v
theorem ok_initR {fI : Addr} {fd : FuncData} (F : FunD K "__init__" "Amount.__init__" (defArgs sInit) (defBody sInit) (defScope sInit) [.int 1] [] fI fd) (T : AmTxt K mg C) (R : ErrOk P w K mg base "InvalidInteger" CE (Str.ofString "value")) :
    FnOk P w K mg base (L2.CX P w) 3 fI fd ["self", "top", "bottom"] (spInitR K CE) := by
  have DI := d_ii (P := P) (w := w) (base := base) T
  have DC := d_cd (P := P) (w := w) (base := base) T
  have DP := d_pl (P := P) (w := w) (base := base) T
  refine F.ok scIn (fun vs H Q E h => ?_) (fun cdv A out s H vs Q E hr h => ?_)
  · obtain ⟨z, tp, bt, v, rfl, _⟩ := h
    rfl
  · obtain ⟨z, tp, bt, v, rfl, bad, q⟩ := h
    have TK : Takes (cxOf (L2.CX P w) P w K mg base ["self", "top", "bottom", "divisor"] "Amount.__init__" (defScope sInit) fI cdv A out s H E) (fun cls d _ H => E cls d H) := takes_of rfl rfl rfl rfl
    refine ⟨_, (pss_cons (ps_if (pt_not (pt_val (pe_callO DI (hr.mono (by decide)) (pa_cons (pv 1) pa_nil)))) (pss_one (ps_err R hr rfl TK (pa_cons (pv 1) pa_nil))) pss_nil)
  (pss_cons (ps_if (PW.pt (pw_or (pt_not (pt_val (pe_callO DI (hr.mono (by decide)) (pa_cons (pv 2) pa_nil)))) (pw_or1 (pt_cmpR op_eq (pv 2) pe_int (nomark _))))) (pss_one (ps_err R hr rfl TK (pa_cons (pv 2) pa_nil))) pss_nil)
  (pss_cons (ps_set (i := 3) scIn.nd rfl (Or.inl rfl) (pe_op op_mul (pe_callO DC (hr.mono (by decide)) (pa_cons (pv 1) (pa_cons (pv 2) pa_nil))) (pe_ifExp (pt_cmpR op_gt (pv 2) pe_int (nomark _)) pe_int (pe_un un_neg pe_int))))
  (pss_cons (ps_fld (pv 0) (pe_op op_fdivA (pv 1) (pv 3)) rfl)
  (pss_cons (ps_fld (pv 0) (pe_op op_fdivA (pv 2) (pv 3)) rfl)
  (pss_one (ps_fld (pv 0) (pe_callO DP (hr.mono (by decide)) (pa_cons (pe_fld (pv 0) rfl) (pa_cons (pe_fld (pv 0) rfl) pa_nil))) rfl))))))), ?_⟩
    rcases bad with ⟨⟨t, b1, b2, ty, k1, k2, no⟩, rfl⟩ | ⟨i, rfl, rfl, bad⟩
    · refine ⟨_, rfl, _, t, b1, b2, rfl, ty, k1, k2, ?_⟩
      rw [no]
      exact ⟨false, rfl, iteT ⟨_, rfl, _, rfl, q⟩⟩
    · refine ⟨_, rfl, _, _, true, false, rfl, .base (.int i), kII, kIB, true, rfl, iteF ?_⟩
      rcases bad with ⟨t, b1, b2, ty, k1, k2, no⟩ | rfl
      · refine ⟨_, rfl, _, t, b1, b2, rfl, ty, k1, k2, ?_⟩
        rw [no]
        refine ⟨false, rfl, iteT (iteT ⟨_, rfl, _, rfl, q⟩)⟩
      · refine ⟨_, rfl, _, _, true, false, rfl, .base (.int 0), kII, kIB, true, rfl, iteF ?_⟩
        refine ⟨_, rfl, rfl, _, rfl, ?_⟩
        rw [decide_eq_true (show V.int 0 = V.int 0 from rfl)]
        exact iteT ⟨_, rfl, _, rfl, q⟩
theorem tyOf_same {H H' : Hp} {v : V} {t : Value} (h : TyOf K H v t) (s : Same H H') : TyOf K H' v t := by
  cases h with
  | non => exact .non
  | bl x => exact .bl x
  | int i => exact .int i
  | str x => exact .str x
  | flt x => exact .flt x
  | lst e => exact .lst (s _ _ e)
  | frz e => exact .frz (s _ _ e)
  | tup e => exact .tup (s _ _ e)
  | dK e => exact .dK (s _ _ e)
  | dT e => exact .dT (s _ _ e)
  | ins e cl ha hn htk hm => exact .ins (s _ _ e) cl ha hn htk hm
theorem tyX_same {H H' : Hp} {v : V} {t : Value} (h : TyX K H v t) (s : Same H H') : TyX K H' v t := by
  cases h with
  | base h => exact .base (tyOf_same h s)
  | byt b => exact .byt b
  | set e => exact .set (s _ _ e)
  | kList e c => exact .kList e c
  | kTuple e c => exact .kTuple e c
  | kDict e c => exact .kDict e c
  | fTuple e => exact .fTuple (s _ _ e)
  | fDict e => exact .fDict (s _ _ e)
theorem NoI.same {H H' : Hp} {v : V} (h : NoI K H v) (s : Same H H') : NoI K H' v := let ⟨t, b1, b2, ty, r⟩ := h; ⟨t, b1, b2, tyX_same ty s, r⟩
theorem BadIn.same {H H' : Hp} {tp bt v : V} (h : BadIn K H tp bt v) (s : Same H H') : BadIn K H' tp bt v := h.elim (fun ⟨a, b⟩ => .inl ⟨a.same s, b⟩) fun ⟨i, a, b, c⟩ => .inr ⟨i, a, b, c.elim (fun c => .inl (c.same s)) .inr⟩
/-- Amount(tp, bt), refused -/
def spMakeR (K : PySem.W.Frag) (CE : Addr) : Sp := fun vs H _ E => ∃ tp bt v : V, vs = [tp, bt] ∧ BadIn K H tp bt v ∧ ∀ H1, Same H H1 → Refused CE H1 E v
theorem pass_of {X : Cx} {E : XK} (tk : Takes X (fun cls d _ H => E cls d H)) : Passes (L2.CX X.prog X.w) X E := fun pins σ H s e s' I c => tk e s' (XE.of_call I (fun _ _ _ h => h) c)
theorem rn_amountR {X : Cx} {E : XK} (T : AmTxt X.K X.mg C) (R : ErrOk X.prog X.w X.K X.mg X.base "InvalidInteger" CE (Str.ofString "value")) (tk : Takes X (fun cls d _ H => E cls d H)) (hr : Room 4 X.A) :
    Rn X C (spMakeR X.K CE) [] E ∧ Rn X C (spMakeR X.K CE) [.int 1] E := by
  obtain ⟨fI, fd, mkC, F⟩ := T.mkC
  have key : ∀ (dvs : List V) (ds : List Value), Vals dvs ds → Binds X.K fd ["self", "top", "bottom"] ds → Rn X C (spMakeR X.K CE) dvs E := fun dvs ds r hb => by
    intro pins σ H1 s Q us vs I rv h
    refine run_make mkC (ok_initR (P := X.prog) (w := X.w) (base := X.base) F T R) hr hb r (pass_of tk) I rv ?_
    obtain ⟨tp, bt, v, ev, bad, q⟩ := h
    intro x dx nx nd ne
    have s0 : Same H1 (upd (upd H1 dx (.own x)) x (.ins C dx [])) := fun b o e => by
      rw [upd_ne (ne_of_none e nx), upd_ne (ne_of_none e nd)]
      exact e
    exact ⟨.ref x, tp, bt, v, by rw [ev], bad.same s0, q _ s0⟩
  constructor
  · obtain ⟨ds, r, hb⟩ := F.binds1 (ps := ["self", "top", "bottom"]) 3 1 (by simp) rfl (fun Tp kV doc pm an cdv ct us its h1 h2 => match us, its, h1, h2 with | [_, _, _], [_], _, _ => ⟨_, rfl, rfl⟩)
    exact key _ _ r hb
  · obtain ⟨ds, r, hb⟩ := F.binds1 (ps := ["self", "top", "bottom"]) 2 0 (by simp) rfl (fun Tp kV doc pm an cdv ct us its h1 h2 => match us, its, h1, h2 with | [_, _], [_], _, _ => ⟨_, rfl, rfl⟩)
    exact key _ _ r hb
/-- amount_of(v), refused -/
theorem rn_ofR {X : Cx} {E : XK} (T : AmTxt X.K X.mg C) (O : AmOps X.K X.mg C) (R : ErrOk X.prog X.w X.K X.mg X.base "InvalidAmount" CE (Str.ofString "value")) (tk : Takes X (fun cls d _ H => E cls d H)) (gd : X.A.guards = some []) (hr : Room 4 X.A) :
    ∃ f, X.mg "amount_of" = some (.ref f) ∧ PySem.W.keepIn X.K (.ref f) = true ∧ Rn X f (spOfR X.K C CE) [] E := by
  obtain ⟨f, fd, hm, F, hb⟩ := O.tOf.ex
  exact ⟨f, hm, F.kp, rn_g (ok_ofR F T R) gd hr hb .nil (pass_of tk)⟩
/-- a.over(v), refused: v is no amount -/
def spOverR (K : PySem.W.Frag) (C CE : Addr) : Sp := fun vs H _ E => ∃ z v : V, vs = [z, v] ∧ NoAm K C H v ∧ Refused CE H E v
theorem ok_overR {f : Addr} {fd : FuncData} (F : Fun K "over" "Amount.over" sMOver f fd) (T : AmTxt K mg C) (O : AmOps K mg C) (R : ErrOk P w K mg base "InvalidAmount" CE (Str.ofString "value")) : FnG P w K mg base (L2.CX P w) 5 f fd ["self", "other"] (spOverR K C CE) := by
  refine okG F scOver (fun vs H Q E h => ?_) (fun cdv A out s H vs Q E gd hr h => ?_)
  · obtain ⟨z, v, rfl, _⟩ := h
    rfl
  · obtain ⟨z, v, rfl, no, q⟩ := h
    have TK : Takes (cxOf (L2.CX P w) P w K mg base ["self", "other", "divisor"] "Amount.over" (defScope sMOver) f cdv A out s H E) (fun cls d _ H => E cls d H) := takes_of rfl rfl rfl rfl
    obtain ⟨g, hm, hk, rn⟩ := rn_ofR T O R TK gd (hr.mono (by decide))
    refine ⟨_, (pss_cons (ps_set (i := 2) scOver.nd rfl (Or.inl rfl) (pe_callC rn hm hk (pa_cons (pv 1) pa_nil)))
  (pss_cons (ps_if (pt_cmpR op_eq (pe_fld (pv 2) rfl) pe_int (nomark _)) (pss_one (ps_never)) pss_nil)
  (pss_one (ps_ret (pe_callC (rn_amount T (hr.mono (by decide))) T.gC (kpC T) (pa_cons (pe_op op_mulW (pe_fld (pv 0) rfl) (pe_fld (pv 2) rfl)) (pa_cons (pe_op op_mulW (pe_fld (pv 0) rfl) (pe_fld (pv 2) rfl)) pa_nil))))))), ?_⟩
    exact ⟨_, rfl, v, rfl, no, q⟩
/-- .. v is an amount of 0 -/
def spOver0 (C CE : Addr) : Sp := fun vs H _ E => ∃ (z v : V) (b : Int), vs = [z, v] ∧ AmV C H v 0 b ∧ ∀ H1, Same H H1 → Refused CE H1 E v
theorem ok_over0 {f : Addr} {fd : FuncData} (F : Fun K "over" "Amount.over" sMOver f fd) (T : AmTxt K mg C) (O : AmOps K mg C) (R : ErrOk P w K mg base "InvalidAmount" CE (Str.ofString "value")) : FnG P w K mg base (L2.CX P w) 5 f fd ["self", "other"] (spOver0 C CE) := by
  have DOf := d_of (P := P) (w := w) (base := base) T O
  refine okG F scOver (fun vs H Q E h => ?_) (fun cdv A out s H vs Q E gd hr h => ?_)
  · obtain ⟨z, v, b, rfl, _⟩ := h
    rfl
  · obtain ⟨z, v, b, rfl, h2, q⟩ := h
    have TK : Takes (cxOf (L2.CX P w) P w K mg base ["self", "other", "divisor"] "Amount.over" (defScope sMOver) f cdv A out s H E) (fun cls d _ H => E cls d H) := takes_of rfl rfl rfl rfl
    refine ⟨_, (pss_cons (ps_set (i := 2) scOver.nd rfl (Or.inl rfl) (pe_callO DOf (hr.mono (by decide)) (pa_cons (pv 1) pa_nil)))
  (pss_cons (ps_if (pt_cmpR op_eq (pe_fld (pv 2) rfl) pe_int (nomark _)) (pss_one (ps_err R (hr.mono (by decide)) rfl TK (pa_cons (pv 1) pa_nil))) pss_nil)
  (pss_one (ps_ret (pe_callC (rn_amount T (hr.mono (by decide))) T.gC (kpC T) (pa_cons (pe_op op_mulW (pe_fld (pv 0) rfl) (pe_fld (pv 2) rfl)) (pa_cons (pe_op op_mulW (pe_fld (pv 0) rfl) (pe_fld (pv 2) rfl)) pa_nil))))))), ?_⟩
    refine ⟨_, rfl, v, 0, b, rfl, h2, by decide +kernel, fun m H1 am s1 => ?_⟩
    obtain ⟨z2, d2, p2, e2, g2⟩ := id am
    refine ⟨_, rfl, m, C, d2, _, _, rfl, e2, T.cl, T.nT, am_top _ _ _, rfl, _, rfl, ?_⟩
    rw [decide_eq_true (show V.int 0 = V.int 0 from rfl)]
    exact iteT ⟨_, rfl, _, rfl, q H1 s1⟩
end
end SP
namespace SP
open PySem PySem.Spec PyProof.Rows L2
abbrev sMSum : Stmt := inClass (top 16) 1


/-! ### in lowest terms, as a function -/
def lod (z b : Int) : Int := (Int.gcd z b : Nat) * (if 0 < b then 1 else -1)
def lo (z b : Int) : Int × Int := (z.fdiv (lod z b), b.fdiv (lod z b))
theorem low_lo {z b : Int} (h : b ≠ 0) : Low z b (lo z b).1 (lo z b).2 := by
  refine (low_of (s := if 0 < b then 1 else -1) h ?_ rfl).2.2
  split
  · exact .inl ⟨rfl, by assumption⟩
  · exact .inr ⟨rfl, by omega⟩
theorem Low.is {z b t d : Int} (l : Low z b t d) (h : b ≠ 0) : (t, d) = lo z b := by
  obtain ⟨e1, e2⟩ := l.uniq (low_lo h) h
  rw [e1, e2]
theorem lo_cop {t b : Int} (p : 0 < b) (g : Int.gcd t b = 1) : lo t b = (t, b) := ((low_self p g).is (by omega)).symm
/-- a fraction in lowest terms -/
def Cop (f : Int × Int) : Prop := 0 < f.2 ∧ Int.gcd f.1 f.2 = 1
theorem lo_Cop {z b : Int} (h : b ≠ 0) : Cop (lo z b) := ⟨(low_lo h).pos, (low_lo h).one⟩
/-- both parts below 2 ^ n -/
def Bd (n : Nat) (f : Int × Int) : Prop := f.1.natAbs < 2 ^ n ∧ f.2.natAbs < 2 ^ n
theorem Bd.mono {n m : Nat} {f : Int × Int} (h : Bd n f) (k : n ≤ m) : Bd m f := ⟨Nat.lt_of_lt_of_le h.1 (Nat.pow_le_pow_right (by decide) k), Nat.lt_of_lt_of_le h.2 (Nat.pow_le_pow_right (by decide) k)⟩
theorem lo_Bd {n : Nat} {z b : Int} (h : b ≠ 0) (k : Bd n (z, b)) : Bd n (lo z b) := ⟨Nat.lt_of_le_of_lt (low_lo h).lt k.1, Nat.lt_of_le_of_lt (low_lo h).lb k.2⟩
def plus (p q : Int × Int) : Int × Int := lo (p.1 * q.2 + q.1 * p.2) (p.2 * q.2)
def times (p q : Int × Int) : Int × Int := lo (p.1 * q.1) (p.2 * q.2)
theorem mul_Bd {n m : Nat} {x y : Int} (hx : x.natAbs < 2 ^ n) (hy : y.natAbs < 2 ^ m) : (x * y).natAbs < 2 ^ (n + m) := by
  rw [Int.natAbs_mul, Nat.pow_add]
  exact Nat.mul_lt_mul'' hx hy
theorem add_Bd {n : Nat} {x y : Int} (hx : x.natAbs < 2 ^ n) (hy : y.natAbs < 2 ^ n) : (x + y).natAbs < 2 ^ (n + 1) := by
  have := Int.natAbs_add_le x y
  rw [Nat.pow_succ]
  omega
theorem plus_Bd {n m : Nat} {p q : Int × Int} (hp : Bd n p) (hq : Bd m q) (p0 : Cop p) (q0 : Cop q) : Bd (n + m + 1) (plus p q) ∧ Cop (plus p q) := by
  have nz : p.2 * q.2 ≠ 0 := Int.mul_ne_zero (by have := p0.1; omega) (by have := q0.1; omega)
  refine ⟨lo_Bd nz ⟨add_Bd (mul_Bd hp.1 hq.2) ?_, Nat.lt_of_lt_of_le (mul_Bd hp.2 hq.2) (Nat.pow_le_pow_right (by decide) (by omega))⟩, lo_Cop nz⟩
  rw [Nat.add_comm]
  exact mul_Bd hq.1 hp.2
theorem times_Bd {n m : Nat} {p q : Int × Int} (hp : Bd n p) (hq : Bd m q) (p0 : Cop p) (q0 : Cop q) : Bd (n + m) (times p q) ∧ Cop (times p q) := by
  have nz : p.2 * q.2 ≠ 0 := Int.mul_ne_zero (by have := p0.1; omega) (by have := q0.1; omega)
  exact ⟨lo_Bd nz ⟨mul_Bd hp.1 hq.1, mul_Bd hp.2 hq.2⟩, lo_Cop nz⟩
def neg1 (p : Int × Int) : Int × Int := (-p.1, p.2)
theorem neg1_Cop {p : Int × Int} (h : Cop p) : Cop (neg1 p) := ⟨h.1, by show Int.gcd (-p.1) p.2 = 1; rw [Int.neg_gcd]; exact h.2⟩
theorem neg1_Bd {n : Nat} {p : Int × Int} (h : Bd n p) : Bd n (neg1 p) := ⟨by show (-p.1).natAbs < 2 ^ n; rw [Int.natAbs_neg]; exact h.1, h.2⟩
/-- v is the amount f -/
def AV (C : Addr) (H : Hp) (v : V) (f : Int × Int) : Prop := AmV C H v f.1 f.2
theorem AV.same {C : Addr} {H H' : Hp} {v : V} {f : Int × Int} (h : AV C H v f) (s : Same H H') : AV C H' v f := AmV.same h s
theorem AV.cop {C : Addr} {H : Hp} {v : V} {f : Int × Int} (h : AV C H v f) : Cop f := AmV.cop h
/-- at a the Amount f -/
def AA (C : Addr) (H : Hp) (a : Addr) (f : Int × Int) : Prop := AmAt C H a f.1 f.2 ∧ Cop f
theorem AA.av {C : Addr} {H : Hp} {a : Addr} {f : Int × Int} (h : AA C H a f) : AV C H (.ref a) f := .inl ⟨a, rfl, h.1, h.2.2⟩
theorem AA.same {C : Addr} {H H' : Hp} {a : Addr} {f : Int × Int} (h : AA C H a f) (s : Same H H') : AA C H' a f := ⟨h.1.same s, h.2⟩
theorem AA.of {C : Addr} {H : Hp} {a : Addr} {z e t b : Int} (l : Low z e t b) (ne : e ≠ 0) (h : AmAt C H a t b) : AA C H a (lo z e) := by
  rw [← l.is ne]
  exact ⟨h, l.pos, l.one⟩
/-- the sum of some, from f on -/
def sumL (f : Int × Int) (fs : List (Int × Int)) : Int × Int := fs.foldl plus f
def AVs (C : Addr) (H : Hp) (n : Nat) : List V → List (Int × Int) → Prop
  | [], [] => True
  | v :: vs, f :: fs => AV C H v f ∧ Bd n f ∧ AVs C H n vs fs
  | _, _ => False
theorem AVs.same {C : Addr} {H H' : Hp} {n : Nat} (s : Same H H') : ∀ {vs : List V} {fs : List (Int × Int)}, AVs C H n vs fs → AVs C H' n vs fs
  | [], [], _ => trivial
  | _ :: _, _ :: _, h => ⟨h.1.same s, h.2.1, h.2.2.same s⟩
  | [], _ :: _, h => h.elim
  | _ :: _, [], h => h.elim
theorem AVs.len {C : Addr} {H : Hp} {n : Nat} : ∀ {vs : List V} {fs : List (Int × Int)}, AVs C H n vs fs → vs.length = fs.length
  | [], [], _ => rfl
  | _ :: _, _ :: _, h => congrArg (· + 1) h.2.2.len
  | [], _ :: _, h => h.elim
  | _ :: _, [], h => h.elim
theorem AVs.at {C : Addr} {H : Hp} {n : Nat} : ∀ {vs : List V} {fs : List (Int × Int)} {i : Nat} {v : V}, AVs C H n vs fs → vs[i]? = some v → ∃ f, fs[i]? = some f ∧ AV C H v f ∧ Bd n f
  | _ :: _, f :: _, 0, _, h, e => by cases e; exact ⟨f, rfl, h.1, h.2.1⟩
  | _ :: _, _ :: _, i + 1, _, h, e => h.2.2.at (i := i) e
  | [], [], _, _, _, e => by simp at e
  | [], _ :: _, _, _, h, _ => h.elim
  | _ :: _, [], _, _, h, _ => h.elim
theorem sumL_take {f g : Int × Int} {fs : List (Int × Int)} {i : Nat} (h : fs[i]? = some g) : sumL f (fs.take (i + 1)) = plus (sumL f (fs.take i)) g := by
  unfold sumL
  rw [List.take_add_one, h, List.foldl_append]
  rfl
section
variable {P : Program} {w : World} {K : PySem.W.Frag} {mg : Str → Option Value} {base : Heap} {C : Addr}
structure AmSum (K : PySem.W.Frag) (C : Addr) : Prop where
  ex : ∃ (mc : Value) (p g : Addr) (fd : FuncData), ClX.CRead K C mc ∧ ClX.CMet K C mc "sum_of" p g ∧ Fun K "sum_of" "Amount.sum_of" sMSum g fd
theorem scSum : FnScope ["cls", "amounts", "found", "amount"] ["cls", "amounts"] (defScope sMSum) := ⟨rfl, rfl, rfl, by decide +kernel, rfl, by decide +kernel, by decide +kernel⟩
def spSum0 (C : Addr) : Sp := fun vs H Q _ => ∃ (p : Addr) (xs : List V) (fs : List (Int × Int)) (n : Nat), vs = [.ref C, .ref p] ∧ H p = some (.tup xs) ∧ AVs C H n xs fs ∧ (n + 1) * (xs.length + 1) ≤ 2900 ∧ ∀ (r : Addr) (H' : Hp), AA C H' r (sumL (0, 1) fs) → Same H H' → Q (.ref r) H'
def spSumOf (C : Addr) : Sp := fun vs H Q _ => ∃ (xs : List V) (fs : List (Int × Int)) (n : Nat), vs = .ref C :: xs ∧ AVs C H n xs fs ∧ (n + 1) * (xs.length + 1) ≤ 2900 ∧ ∀ (r : Addr) (H' : Hp), AA C H' r (sumL (0, 1) fs) → Same H H' → Q (.ref r) H'
theorem kp_fn {f : Addr} {fd : FuncData} {x q : Str} {st : Stmt} (F : Fun K x q st f fd) : PySem.W.keepIn K (.ref f) = true := F.kp
theorem low_ge {a b c : Nat} (h : a ≤ b) (k : b * c ≤ 2900) : a * c ≤ 2900 := Nat.le_trans (Nat.mul_le_mul_right c h) k
theorem d_sum (T : AmTxt K mg C) (O : AmOps K mg C) {g : Addr} {fd : FuncData} (F : Fun K "sum_of" "Amount.sum_of" sMSum g fd) : FnR P w K mg base CX0 6 g (spSumOf C) := by
  have DOf := d_of (P := P) (w := w) (base := base) T O
  obtain ⟨oc, od, kV, doc, pm, an, cdv, ct, osl, rfl, lk, hcd⟩ := F.ex
  refine FnR.imp (StX.fn_star (k := 5) (ps := ["cls"]) (pv := "amounts") (sp := spSum0 C) lk hcd scSum StX.cxUp_none (StX.bind_star1 (B := fun us => bindArgs (PySem.W.fnOf "sum_of" "Amount.sum_of" (defArgs sMSum) (defBody sMSum) (defScope sMSum) .none kV doc pm an cdv ct) ⟨us, []⟩) (fun _ => rfl) (fun _ _ _ => rfl)) fun A out s H vs Q E hr h => ?_) fun vs H Q E h => ?_
  · obtain ⟨p, xs, fs, n, rfl, hp, hv, hn, q⟩ := h
    refine ⟨_, PSs.nox (pss_cons (ps_set (i := 2) scSum.nd rfl (Or.inl rfl) (pe_callV (rn_amount1 T (hr.mono (by decide))) (i := 0) rfl (by first | exact Or.inl rfl | exact Or.inr rfl) (kpC T) (pa_cons pe_int pa_nil)))
  (pss_cons (ps_for PassesOwn.never rfl (pi_tup (pv 1)) (pg_name (i := 3) scSum.nd rfl (Or.inl rfl)) (pss_one (ps_set (i := 2) scSum.nd rfl (Or.inl rfl) (pe_op (op_addS T O (hr.mono (by decide))) (pv 2) (pe_callO DOf (hr.mono (by decide)) (pa_cons (pv 3) pa_nil))))))
  (pss_one (ps_ret (pv 2))))), ?_⟩
    refine ⟨rfl, 0, 1, rfl, by decide, by decide +kernel, by decide +kernel, fun x t b H1 lw am s1 n1 => ?_⟩
    obtain ⟨rfl, rfl⟩ := lw.uniq (low_self (by decide) (gcd_one 0)) (by decide)
    have le := hv.len
    refine ⟨_, rfl, p, rfl, ⟨xs, SqT.of (s1 _ _ hp)⟩, ?_⟩
    refine for_it (walk_tup (xs := xs)) (fun i σ H' => Same H H' ∧ ∃ (r : Addr) (o3 : Option V), σ = [some (.ref C), some (.ref p), some (.ref r), o3] ∧ AA C H' r (sumL (0, 1) (fs.take i)) ∧ Bd ((n + 1) * i + 1) (sumL (0, 1) (fs.take i)))
      ⟨s1, x, _, rfl, ⟨am, (by show (0 : Int) < 1; decide), gcd_one 0⟩, (by show (0 : Int).natAbs < 2 ^ ((n + 1) * 0 + 1); rw [Nat.mul_zero]; decide), (by show (1 : Int).natAbs < 2 ^ ((n + 1) * 0 + 1); rw [Nat.mul_zero]; decide)⟩ (fun i σ H' _ k => SqT.of (k.1 _ _ hp)) (fun i v σ H' H'' hi k y => ?_) (fun σ H' k => ?_)
    · obtain ⟨s2, r, o3, rfl, ha, hb⟩ := k
      obtain ⟨rfl, hx⟩ := y
      obtain ⟨f, hf, av, bf⟩ := (hv.same s2).at hx
      have c1 : (n + 1) * (i + 1) + 1 ≤ 2901 := by
        have := low_ge (a := i + 1) (b := xs.length + 1) (c := n + 1) (by omega) (by rw [Nat.mul_comm]; exact hn)
        rw [Nat.mul_comm] at this
        omega
      have c2 : (n + 1) * i + 1 + n + 1 = (n + 1) * (i + 1) + 1 := by
        rw [Nat.mul_add]
        omega
      have b1 := hb.mono (show (n + 1) * i + 1 ≤ 3000 by omega)
      have b2 := bf.mono (show n ≤ 3000 by omega)
      have e8 : (2 : Nat) ^ 3000 ≤ 2 ^ 8000 := Nat.pow_le_pow_right (by decide) (by decide)
      refine ⟨_, rfl, _, rfl, v, f.1, f.2, rfl, av, Nat.lt_of_lt_of_le b2.1 e8, fun m H2 am2 s3 => ?_⟩
      have ha2 := ha.same s3
      refine ⟨r, m, _, _, f.1, f.2, rfl, rfl, ha2.1, ha2.2.2, am2, av.cop.2, b1.1, b1.2, b2.1, b2.2, fun z t d H3 lw a3 s4 => ?_⟩
      have ne : (sumL (0, 1) (fs.take i)).2 * f.2 ≠ 0 := Int.mul_ne_zero (by have := ha.2.1; omega) (by have := av.cop.1; omega)
      have pb := plus_Bd hb bf ha.2 av.cop
      rw [c2] at pb
      refine ⟨(s2.trans s3).trans s4, z, _, rfl, ?_, ?_⟩
      · rw [sumL_take hf]
        exact AA.of lw ne a3
      · rw [sumL_take hf]
        exact pb.1
    · obtain ⟨s2, r, o3, rfl, ha, hb⟩ := k
      refine ⟨_, rfl, q r H' ?_ s2⟩
      rw [le, List.take_length] at ha
      exact ha
  · obtain ⟨xs, fs, n, rfl, hv, hn, q⟩ := h
    have hl : xs.length ≤ 2900 := Nat.le_trans (by omega) (low_ge (Nat.le_add_left 1 n) hn)
    refine ⟨[.ref C], xs, rfl, rfl, Nat.le_trans hl (by decide), fun p hp => ⟨p, xs, fs, n, rfl, upd_same, hv.same (Same.new hp), hn, fun r H' a s => q r H' a ((Same.new hp).trans s)⟩⟩
end
end SP
namespace SP
open PySem PySem.Spec PyProof.Rows L2
abbrev sPot : Stmt := top 20
abbrev sDraw : Stmt := top 21
abbrev sChoice : Stmt := top 22

/-- what the top has written of the draws -/
structure PotT (K : PySem.W.Frag) (mg : Str → Option Value) : Prop where
  b_int : mg "int" = none
  b_abs : mg "abs" = none
  b_max : mg "max" = none
  b_len : mg "len" = none
  b_divmod : mg "divmod" = none
  tPot : Top K mg "_law_pot" sPot ["_law_script", "_law_k"]
  tDraw : Top K mg "_law_draw" sDraw ["_law_pot_here", "_law_size"]
  tChoice : Top K mg "_law_choice" sChoice ["_law_pot_here", "_law_some"]
section
variable {P : Program} {w : World} {K : PySem.W.Frag} {mg : Str → Option Value} {base : Heap}
/-! ### the pot -/
def spPot (K : PySem.W.Frag) : Sp := fun vs H Q _ => ∃ (a : Addr) (ns : List Int) (k : Int), vs = [.ref a, .int k] ∧ SqL K H a (ns.map V.int) ∧ ns.length ≤ 63 ∧ 0 ≤ k ∧ k < 64 ∧ ∀ p H', Same H H' → H p = none → Pot H' p → Q (.ref p) H'
theorem scPot : FnScope ["_law_script", "_law_k", "_law_cell"] ["_law_script", "_law_k"] (defScope sPot) := ⟨rfl, rfl, rfl, by decide +kernel, rfl, by decide +kernel, by decide +kernel⟩
theorem pot_end {H : Hp} {p : Addr} {Q : VK} {z : Int} {o : HO} (q : ∀ p H', Same H H' → H p = none → Pot H' p → Q (.ref p) H') (hp : H p = none) {a : Int} (e : o = .lst [.int (if a > 0 then a else 0), .int (z + 1)]) (h0 : 0 ≤ z) (h1 : z < 2147483629) : Q (.ref p) (upd H p o) := by
  subst e
  exact q p _ (Same.new hp) hp ⟨_, _, upd_same, by split <;> omega, by omega, by omega⟩
theorem d_pot (T : PotT K mg) : DefG P w K mg base 1 "_law_pot" ["_law_script", "_law_k"] (spPot K) := by
  refine T.tPot.ok scPot (fun vs H Q E h => ?_) (fun f cdv A out s H vs Q E gd hr h => ?_)
  · obtain ⟨a, ns, k, rfl, _⟩ := h
    rfl
  · obtain ⟨a, ns, k, rfl, hS, hn, h0, h1, q⟩ := h
    refine ⟨_, (pss_cons (ps_set (i := 2) scPot.nd rfl (Or.inl rfl) (pe_op op_add (pe_op op_mul pe_int (pv 1)) pe_int))
  (pss_cons (ps_if (pt_cmpR op_lt (pv 1) (pe_callB call_len (by rfl) T.b_len (by decide +kernel) (pa_cons (pv 0) pa_nil)) (nomark _)) (pss_one (ps_set (i := 2) scPot.nd rfl (Or.inl rfl) (pe_callB call_abs (by rfl) T.b_abs (by decide +kernel) (pa_cons (pe_ix ix_list (pv 0) (pv 1) (fun _ _ => rfl)) pa_nil)))) pss_nil)
  (pss_one (ps_ret (pe_lst (pa_cons (pe_callB (call_max2 rfl) (by rfl) T.b_max (by decide +kernel) (pa_cons pe_int (pa_cons (pe_op op_sub (pv 2) (pe_op op_pow pe_int pe_int)) pa_nil))) (pa_cons (pe_op op_add (pe_op op_mod (pe_callTy call_int1 (by rfl) T.b_int (by decide +kernel) (pa_cons (pe_op op_add (pe_op op_add (pe_op op_mul (pe_op op_mod (pe_callTy call_int1 (by rfl) T.b_int (by decide +kernel) (pa_cons (pv 2) pa_nil)) pe_int) pe_int) (pe_op op_mul pe_int (pv 1))) pe_int) pa_nil)) pe_int) pe_int) pa_nil))))))), ?_⟩
    refine ⟨_, rfl, _, _, rfl, rfl, .inl ⟨by decide, by decide⟩, _, _, rfl, rfl, ?_⟩
    refine ⟨_, rfl, _, rfl, _, ns.length, rfl, .inl ⟨_, hS, by rw [List.length_map]⟩, _, _, rfl, rfl, _, rfl, ?_⟩
    obtain ⟨cell, hc, hcell⟩ : ∃ cell : Int, 0 ≤ cell ∧ (if decide (k < (ns.length : Int)) = true then ∃ z : Int, (ns.map V.int)[k.toNat]? = some (.int z) ∧ cell = (if z < 0 then -z else z) else cell = 31 * k + 17) := by
      by_cases hk : k < (ns.length : Int)
      · obtain ⟨z, hz⟩ : ∃ z, ns[k.toNat]? = some z := ⟨_, List.getElem?_eq_getElem (by omega)⟩
        refine ⟨if z < 0 then -z else z, by split <;> omega, ?_⟩
        rw [decide_eq_true hk]
        exact iteT ⟨z, by rw [List.getElem?_map, hz] <;> rfl, rfl⟩
      · refine ⟨31 * k + 17, by omega, ?_⟩
        rw [decide_eq_false hk]
        exact iteF rfl
    by_cases hk : k < (ns.length : Int)
    · rw [decide_eq_true hk] at hcell ⊢
      rw [if_pos rfl] at hcell
      obtain ⟨z, hz, ez⟩ := hcell
      refine iteT ?_
      refine ⟨_, rfl, _, rfl, a, _, k, _, rfl, rfl, hS, at_of (j := k.toNat) (by omega) hz, z, rfl, ?_⟩
      refine ⟨_, rfl, _, _, rfl, rfl, ⟨by decide, by decide, by decide⟩, _, _, rfl, rfl, _, _, rfl, ?_⟩
      refine ⟨_, rfl, .inl ⟨_, rfl, _, _, rfl, rfl, (by show (0 : Int) < 2147483563; decide), _, _, rfl, rfl, .inr ⟨by decide, by decide⟩, _, rfl, _, _, rfl, rfl, .inl ⟨by decide, by decide⟩, _, _, rfl, rfl, _, _, rfl, rfl, .inl ⟨_, rfl, ?_⟩⟩⟩
      refine ⟨_, _, rfl, rfl, (by show (0 : Int) < 2147483629; decide), _, _, rfl, rfl, (by show 2 ≤ sizeLine; decide), fun p hp => ?_⟩
      exact pot_end q hp rfl (Int.emod_nonneg _ (by decide)) (Int.emod_lt_of_pos _ (by decide))
    · rw [decide_eq_false hk] at hcell ⊢
      rw [if_neg Bool.false_ne_true] at hcell
      subst hcell
      refine iteF ?_
      refine ⟨_, rfl, _, _, rfl, rfl, ⟨by decide, by decide, by decide⟩, _, _, rfl, rfl, _, _, rfl, ?_⟩
      refine ⟨_, rfl, .inl ⟨_, rfl, _, _, rfl, rfl, (by show (0 : Int) < 2147483563; decide), _, _, rfl, rfl, .inr ⟨by decide, by decide⟩, _, rfl, _, _, rfl, rfl, .inl ⟨by decide, by decide⟩, _, _, rfl, rfl, _, _, rfl, rfl, .inl ⟨_, rfl, ?_⟩⟩⟩
      refine ⟨_, _, rfl, rfl, (by show (0 : Int) < 2147483629; decide), _, _, rfl, rfl, (by show 2 ≤ sizeLine; decide), fun p hp => ?_⟩
      exact pot_end q hp rfl (Int.emod_nonneg _ (by decide)) (Int.emod_lt_of_pos _ (by decide))
/-! ### a draw -/
def spDraw : Sp := fun vs H Q _ => ∃ (p : Addr) (n : Int), vs = [.ref p, .int n] ∧ Pot H p ∧ 0 < n ∧ n < 18446744073709551616 ∧ ∀ (d : Int) (H' : Hp), 0 ≤ d → d < n → Pot H' p → Kp p H H' → Q (.int d) H'
theorem scDraw : FnScope ["_law_pot_here", "_law_size", "_law_digit"] ["_law_pot_here", "_law_size"] (defScope sDraw) := ⟨rfl, rfl, rfl, by decide +kernel, rfl, by decide +kernel, by decide +kernel⟩
theorem d_draw (T : PotT K mg) : DefG P w K mg base 1 "_law_draw" ["_law_pot_here", "_law_size"] spDraw := by
  refine T.tDraw.ok scDraw (fun vs H Q E h => ?_) (fun f cdv A out s H vs Q E gd hr h => ?_)
  · obtain ⟨p, n, rfl, _⟩ := h
    rfl
  · obtain ⟨p, n, rfl, ⟨a, b, hp, ha, hb, hb2⟩, hn, hn2, q⟩ := h
    refine ⟨_, (pss_cons (ps_if (pt_cmpR op_gt (pe_ix ix_list (pv 0) pe_int (fun _ _ => rfl)) pe_int (nomark _)) (pss_cons (ps_asg (pe_callB call_divmodW (by rfl) T.b_divmod (by decide +kernel) (pa_cons (pe_ix ix_list (pv 0) pe_int (fun _ _ => rfl)) (pa_cons (pv 1) pa_nil))) (pg_tup (by rfl) (pgs_cons (pg_sub (pv 0) pe_int set_list) (pgs_cons (pg_name (i := 2) scDraw.nd rfl (Or.inl rfl)) pgs_nil))))
  (pss_one (ps_ret (pv 2)))) pss_nil)
  (pss_cons (ps_asg (pe_op op_mod (pe_callTy call_int1 (by rfl) T.b_int (by decide +kernel) (pa_cons (pe_op op_add (pe_op op_mul (pe_ix ix_list (pv 0) pe_int (fun _ _ => rfl)) pe_int) pe_int) pa_nil)) pe_int) (pg_sub (pv 0) pe_int set_list))
  (pss_one (ps_ret (pe_op op_mod (pe_callTy call_int1 (by rfl) T.b_int (by decide +kernel) (pa_cons (pe_op op_fdivA (pe_op op_mod (pe_callTy call_int1 (by rfl) T.b_int (by decide +kernel) (pa_cons (pe_op op_mul (pe_ix ix_list (pv 0) pe_int (fun _ _ => rfl)) (pe_ix ix_list (pv 0) pe_int (fun _ _ => rfl))) pa_nil)) pe_int) pe_int) pa_nil)) (pv 1)))))), ?_⟩
    refine ⟨_, rfl, p, _, _, _, rfl, rfl, SqL.of hp, at_of (j := 0) rfl rfl, _, _, rfl, rfl, _, rfl, ?_⟩
    refine ite2 (fun c => ?_) (fun c => ?_)
    · refine ⟨_, rfl, p, _, _, _, rfl, rfl, SqL.of hp, at_of (j := 0) rfl rfl, _, rfl, _, _, rfl, ⟨hn, PyProof.noPylong_of_log2 (Nat.lt_of_lt_of_le (PySem.Flt.log2_lt_of (k := 64) (by decide) (show n.natAbs < 2 ^ 64 by omega)) (by decide))⟩, fun t ht => ?_⟩
      have pt : p ≠ t := ne_of_none hp ht
      refine ⟨t, _, rfl, SqT.of upd_same, rfl, _, _, rfl, _, rfl, p, _, _, 0, rfl, rfl, by rw [upd_ne pt]; exact hp, rfl, ?_⟩
      refine ⟨_, _, rfl, rfl, _, rfl, ?_⟩
      refine q _ _ (Int.emod_nonneg _ (by omega)) (Int.emod_lt_of_pos _ hn) ⟨_, _, upd_same, Int.ediv_nonneg ha (by omega), hb, hb2⟩ ?_
      intro c o hc hcp
      rw [upd_ne hcp, upd_ne (ne_of_none hc ht)]
      exact hc
    · refine ⟨_, rfl, p, _, _, _, rfl, rfl, SqL.of hp, at_of (j := 1) rfl rfl, _, _, rfl, rfl, .inr ⟨by decide, by decide⟩, _, _, rfl, rfl, .inl ⟨_, rfl, ?_⟩⟩
      refine ⟨_, _, rfl, rfl, (by show (0 : Int) < 2147483629; decide), _, rfl, p, _, _, 1, rfl, rfl, hp, rfl, ?_⟩
      have e0 := Int.emod_nonneg (b * 48271 + 20011) (show (2147483629 : Int) ≠ 0 by decide)
      have e1 := Int.emod_lt_of_pos (b * 48271 + 20011) (show (0 : Int) < 2147483629 by decide)
      refine ⟨_, rfl, p, _, _, _, rfl, rfl, SqL.of upd_same, at_of (j := 1) rfl rfl, _, rfl, p, _, _, _, rfl, rfl, SqL.of upd_same, at_of (j := 1) rfl rfl, _, _, rfl, rfl, .inl ⟨by omega, by omega⟩, .inl ⟨_, rfl, ?_⟩⟩
      refine ⟨_, _, rfl, rfl, (by show (0 : Int) < 2147483587; decide), _, _, rfl, rfl, ⟨by decide, by decide⟩, .inl ⟨_, rfl, ?_⟩⟩
      refine ⟨_, rfl, _, _, rfl, rfl, hn, ?_⟩
      exact q _ _ (Int.emod_nonneg _ (by omega)) (Int.emod_lt_of_pos _ hn) ⟨_, _, upd_same, ha, e0, by omega⟩ Kp.upd
/-! ### one of a list -/
def spChoice (K : PySem.W.Frag) : Sp := fun vs H Q _ => ∃ (p q : Addr) (xs : List V), vs = [.ref p, .ref q] ∧ Pot H p ∧ q ≠ p ∧ H q = some (.lst xs) ∧ 0 < xs.length ∧ xs.length < 100000 ∧ ∀ (v : V) (H' : Hp), v ∈ xs → Pot H' p → Kp p H H' → Q v H'
theorem scChoice : FnScope ["_law_pot_here", "_law_some"] ["_law_pot_here", "_law_some"] (defScope sChoice) := ⟨rfl, rfl, rfl, by decide +kernel, rfl, by decide +kernel, by decide +kernel⟩
theorem d_choice (T : PotT K mg) : DefG P w K mg base 2 "_law_choice" ["_law_pot_here", "_law_some"] (spChoice K) := by
  have DD := d_draw (P := P) (w := w) (base := base) T
  refine T.tChoice.ok scChoice (fun vs H Q E h => ?_) (fun f cdv A out s H vs Q E gd hr h => ?_)
  · obtain ⟨p, q, xs, rfl, _⟩ := h
    rfl
  · obtain ⟨p, l, xs, rfl, hp, hq, hx, h0, h1, q⟩ := h
    refine ⟨_, (pss_one (ps_ret (pe_ix ix_list (pv 1) (pe_callD DD gd (hr.mono (by decide)) (pa_cons (pv 0) (pa_cons (pe_callB call_len (by rfl) T.b_len (by decide +kernel) (pa_cons (pv 1) pa_nil)) pa_nil))) (fun _ _ => rfl)))), ?_⟩
    refine ⟨_, rfl, _, rfl, _, rfl, _, xs.length, rfl, .inl ⟨_, SqL.of hx, rfl⟩, p, _, rfl, hp, by omega, by omega, fun d H' d0 d1 hp' kp => ?_⟩
    obtain ⟨v, hv⟩ : ∃ v, xs[d.toNat]? = some v := ⟨_, List.getElem?_eq_getElem (by omega)⟩
    exact ⟨l, _, _, v, rfl, rfl, SqL.of (kp _ _ hx hq), at_of (j := d.toNat) (by omega) hv, q v H' (List.mem_of_getElem? hv) hp' kp⟩
end
end SP
/-! Small common lemmas of the laws' texts (K11*, K12* have their own). -/
namespace SP
open PySem PySem.Spec PyProof.Rows L2
theorem yes_t {σ : L2.St} {H : Hp} {A B : Hp → Prop} (h : A H) : tYes σ H fun b H3 => if b = true then A H3 else B H3 := by
  show (if true = true then A H else B H)
  rw [if_pos rfl]
  exact h
theorem rep_add {i : Nat} {v : V} : List.replicate i v ++ [v] = List.replicate (i + 1) v := by rw [List.replicate_succ']
theorem Same.put {H H' : Hp} {q : Addr} {o : HO} (s : Same H H') (n : H q = none) : Same H (upd H' q o) := fun b u e => by rw [upd_ne (ne_of_none e n)]; exact s b u e
theorem Kp.put {p : Addr} {H H' : Hp} {q : Addr} {o : HO} (k : Kp p H H') (n : H q = none) : Kp p H (L2.upd H' q o) := fun b u e h => by rw [upd_ne (ne_of_none e n)]; exact k b u e h
theorem mko {H : Hp} {q : Addr} (n : H q = none) (o : HO) : ∃ H', upd H q o = H' ∧ Same H H' ∧ H' q = some o := ⟨_, rfl, Same.new n, upd_same⟩
/-- a fact about the outcome of an equality of values -/
theorem dec_t {p : Prop} [Decidable p] (h : p) : decide p = true := decide_eq_true h
theorem int_ne {i j : Int} (h : i ≠ j) : ¬ V.int i = V.int j := fun z => h (by injection z)
theorem str_ne {i j : Str} (h : i ≠ j) : ¬ V.str i = V.str j := fun z => h (by injection z)
end SP
/-! is_name: of what is no text. -/
namespace SP
open PySem PySem.Spec PyProof.Rows L2
abbrev sName : Stmt := top 11
structure NmTxt (K : PySem.W.Frag) (mg : Str → Option Value) : Prop where
  b_isinstance : mg "isinstance" = none
  b_str : mg "str" = none
  b_len : mg "len" = none
  b_all : mg "all" = none
  letters : ∃ u, mg "LETTERS" = some u ∧ RelV (.str "abcdefghijklmnopqrstuvwxyz") u
  most : ∃ u, mg "MOST_LETTERS" = some u ∧ RelV (.int 8) u
  tNm : Top K mg "is_name" sName ["value"]
theorem scNm : FnScope ["value", "sign"] ["value"] (defScope sName) := ⟨rfl, rfl, rfl, by decide +kernel, rfl, by decide +kernel, by decide +kernel⟩
section
variable {P : Program} {w : World} {K : PySem.W.Frag} {mg : Str → Option Value} {base : Heap}
/-- of a value that is no text -/
def spNmN (K : PySem.W.Frag) : Sp := fun vs H Q _ => ∃ (v : V) (t : Value), vs = [v] ∧ TyX K H v t ∧ PySem.W.kitOne K t (.type "str") = some false ∧ Q (.bl false) H

theorem ok_nmN {f : Addr} {fd : FuncData} (F : Fun K "is_name" "is_name" sName f fd) (T : NmTxt K mg) : FnOk P w K mg base CX0 2 f fd ["value"] (spNmN K) := by
  obtain ⟨uL, hL, rL⟩ := T.letters
  obtain ⟨uM, hM, rM⟩ := T.most
  refine F.ok scNm (fun vs H Q E h => ?_) (fun cdv A out s H vs Q E hr h => ?_)
  · obtain ⟨v, t, rfl, _⟩ := h
    rfl
  · obtain ⟨v, t, rfl, ty, k1, q⟩ := h
    refine ⟨_, (pss_cons (ps_if (PW.pt (pw_or (pt_not (pt_val (pe_callB call_isi (by rfl) T.b_isinstance (by decide +kernel) (pa_cons (pv 0) (pa_cons (pe_bltn (v := .ty "str") (by rfl) T.b_str (by decide +kernel) rfl) pa_nil))))) (pw_or1 (pt_not (pt_chain op_le op_le pe_int (pe_callB call_len (by rfl) T.b_len (by decide +kernel) (pa_cons (pv 0) pa_nil)) (pe_glob (v := .int 8) (by rfl) hM rM)))))) (pss_one (ps_ret pe_bl)) pss_nil)
  (pss_one (ps_ret (pe_callB (cr_all rfl) (by rfl) T.b_all (by decide +kernel) (pa_cons (pe_lc (own := [("sign", 1)]) (g := (gName 1)) (by rfl) scNm.nd (pi_list (pv 0)) (blkOk_by (own := [("sign", 1)]) (N := ["value", "sign"]) (sc := defScope sName) (by decide +kernel)) (fun _ _ _ _ _ => (pg_name (i := 1) scNm.nd rfl (Or.inl rfl))) (fun _ _ _ _ _ => pts_nil) (fun _ _ _ _ _ => (pe_cmpR op_in_sign (pv 1) (pe_glob (v := .str "abcdefghijklmnopqrstuvwxyz") (by rfl) hL rL) (by rfl)))) pa_nil))))), ?_⟩
    refine ⟨_, rfl, v, .ty "str", t, _, false, rfl, .ty _, ty, k1, false, rfl, ?_⟩
    exact iteT (iteT q)
/-- of a text -/
def nameOk (z : Str) : Bool := decide (1 ≤ z.cps.size) && decide (z.cps.size ≤ 8) && z.cps.toList.all fun c => decide (c ∈ ("abcdefghijklmnopqrstuvwxyz" : Str).cps.toList)
def spNm : Sp := fun vs H Q _ => ∃ z : Str, vs = [.str z] ∧ z.length ≤ sizeLine ∧ ∀ H', Same H H' → Q (.bl (nameOk z)) H'
theorem ok_nm {f : Addr} {fd : FuncData} (F : Fun K "is_name" "is_name" sName f fd) (T : NmTxt K mg) : FnOk P w K mg base CX0 2 f fd ["value"] spNm := by
  obtain ⟨uL, hL, rL⟩ := T.letters
  obtain ⟨uM, hM, rM⟩ := T.most
  refine F.ok scNm (fun vs H Q E h => ?_) (fun cdv A out s H vs Q E hr h => ?_)
  · obtain ⟨z, rfl, _⟩ := h
    rfl
  · obtain ⟨z, rfl, hz, q⟩ := h
    refine ⟨_, (pss_cons (ps_if (PW.pt (pw_or (pt_not (pt_val (pe_callB call_isi (by rfl) T.b_isinstance (by decide +kernel) (pa_cons (pv 0) (pa_cons (pe_bltn (v := .ty "str") (by rfl) T.b_str (by decide +kernel) rfl) pa_nil))))) (pw_or1 (pt_not (pt_chain op_le op_le pe_int (pe_callB call_len (by rfl) T.b_len (by decide +kernel) (pa_cons (pv 0) pa_nil)) (pe_glob (v := .int 8) (by rfl) hM rM)))))) (pss_one (ps_ret pe_bl)) pss_nil)
  (pss_one (ps_ret (pe_callB (cr_all rfl) (by rfl) T.b_all (by decide +kernel) (pa_cons (pe_lc (own := [("sign", 1)]) (g := (gName 1)) (by rfl) scNm.nd (pi_str (pv 0)) (blkOk_by (own := [("sign", 1)]) (N := ["value", "sign"]) (sc := defScope sName) (by decide +kernel)) (fun _ _ _ _ _ => (pg_name (i := 1) scNm.nd rfl (Or.inl rfl))) (fun _ _ _ _ _ => pts_nil) (fun _ _ _ _ _ => (pe_cmpR op_in_sign (pv 1) (pe_glob (v := .str "abcdefghijklmnopqrstuvwxyz") (by rfl) hL rL) (by rfl)))) pa_nil))))), ?_⟩
    refine ⟨_, rfl, .str z, .ty "str", .type "str", _, true, rfl, .ty _, .base (.str z), kit_ty (by decide +kernel), true, rfl, iteF ?_⟩
    refine ⟨_, rfl, _, z.length, rfl, ⟨hz, rfl⟩, ?_⟩
    refine ⟨_, _, rfl, rfl, _, rfl, ?_⟩
    by_cases h1 : 1 ≤ z.length
    case neg =>
      rw [decide_eq_false (show ¬ (1 : Int) ≤ (z.length : Int) from fun e => h1 (by omega))]
      refine iteF ⟨_, rfl, iteT ?_⟩
      have e : nameOk z = false := by
        have h1 : ¬ 1 ≤ z.cps.size := h1
        simp [nameOk, h1]
      rw [← e]
      exact q H (Same.refl _)
    rw [decide_eq_true (show (1 : Int) ≤ (z.length : Int) by omega)]
    refine iteT ⟨_, _, rfl, rfl, _, rfl, ?_⟩
    by_cases h8 : z.length ≤ 8
    case neg =>
      rw [decide_eq_false (show ¬ (z.length : Int) ≤ 8 from fun e => h8 (by omega))]
      refine iteT ?_
      have e : nameOk z = false := by
        have h8 : ¬ z.cps.size ≤ 8 := h8
        simp [nameOk, h8]
      rw [← e]
      exact q H (Same.refl _)
    rw [decide_eq_true (show (z.length : Int) ≤ 8 by omega)]
    refine iteF ?_
    refine ⟨_, rfl, z, rfl, fun D nD => ?_⟩
    refine lc_it walk_str (fun i H' => Same H H' ∧ H' D = some (.lst (((z.cps.toList.take i).map fun c => decide (c ∈ ("abcdefghijklmnopqrstuvwxyz" : Str).cps.toList)).map V.bl))) ⟨Same.new nD, upd_same⟩ (fun i H' _ k => trivial) (fun i x H' H'' hi k y => ?_) (fun H' k => ?_)
    · obtain ⟨rfl, c, hc, rfl⟩ := y
      obtain ⟨s1, hD⟩ := k
      refine ⟨rfl, yes_t ⟨_, rfl, c, _, rfl, rfl, ?_⟩⟩
      have hl : z.cps.toList[i]? = some c := by rw [Array.getElem?_toList]; exact hc
      refine ⟨_, hD, ?_, Same.put s1 nD, ?_⟩
      · rw [List.length_map, List.length_map]
        exact Nat.lt_of_le_of_lt (List.length_take_le ..) (Nat.lt_of_lt_of_le hi (Nat.le_trans h8 (by decide)))
      · rw [upd_same, List.take_add_one, hl]
        simp
    · obtain ⟨s1, hD⟩ := k
      refine ⟨D, _, rfl, SqL.of hD, ?_⟩
      have e : (List.map (fun c => decide (c ∈ ("abcdefghijklmnopqrstuvwxyz" : Str).cps.toList)) (z.cps.toList.take z.cps.size)).all id = nameOk z := by
        have h1 : 1 ≤ z.cps.size := h1
        have h8 : z.cps.size ≤ 8 := h8
        rw [List.take_of_length_le (by simp)]
        simp only [nameOk, h1, h8, decide_true, Bool.true_and, List.all_map]
        rfl
      rw [e]
      exact q _ s1
theorem d_nm (T : NmTxt K mg) : DefO P w K mg base 2 "is_name" ["value"] spNm := let ⟨f, fd, hm, F, hb⟩ := T.tNm.ex; ⟨f, fd, hm, F.kp, ok_nm F T, hb⟩
theorem d_nmN (T : NmTxt K mg) : DefO P w K mg base 2 "is_name" ["value"] (spNmN K) := let ⟨f, fd, hm, F, hb⟩ := T.tNm.ex; ⟨f, fd, hm, F.kp, ok_nmN F T, hb⟩
theorem fn_or {CX : CXT} {k : Nat} {f : Addr} {fd : FuncData} {ps : List Str} {sp1 sp2 : Sp} (F1 : FnOk P w K mg base CX k f fd ps sp1) (F2 : FnOk P w K mg base CX k f fd ps sp2) : FnOk P w K mg base CX k f fd ps (fun vs H Q E => sp1 vs H Q E ∨ sp2 vs H Q E) :=
  ⟨fun vs H Q E h => h.elim (F1.len vs H Q E) (F2.len vs H Q E), fun A out s H ar us vs Q E hr e0 hb r h => h.elim (F1.run A out s H ar us vs Q E hr e0 hb r) (F2.run A out s H ar us vs Q E hr e0 hb r)⟩
/-- is_name of a text, or of what is none -/
def spNmA (K : PySem.W.Frag) : Sp := fun vs H Q E => spNm vs H Q E ∨ spNmN K vs H Q E
theorem d_nmA (T : NmTxt K mg) : DefO P w K mg base 2 "is_name" ["value"] (spNmA K) := let ⟨f, fd, hm, F, hb⟩ := T.tNm.ex; ⟨f, fd, hm, F.kp, fn_or (ok_nm F T) (ok_nmN F T), hb⟩
end
end SP
/-! repr of any plain data, a dict of plain things among them. -/
namespace SP
open PySem PySem.Spec PyProof.Rows L2
def scD : V → Option PyData
  | .non => some .none
  | .bl b => some (.bool b)
  | .int i => some (.int i)
  | .str x => some (.str x)
  | _ => none
def kD : Key → PyData
  | .inl i => .int i
  | .inr x => .str x
def dkD : List (Key × V) → Option (List (PyData × PyData))
  | [] => some []
  | p :: r => match scD p.2, dkD r with
    | some d, some ds => some ((kD p.1, d) :: ds)
    | _, _ => none
theorem reads_sc {h : Heap} {v : V} {u : Value} {d : PyData} (e : scD v = some d) (r : RelV v u) : Reads h u d [] := by
  cases v with
  | non => cases e; cases r; exact .none
  | bl b => cases e; cases r; exact .bool b
  | int i => cases e; obtain ⟨t, rfl⟩ := r; exact .int i t
  | str x => cases e; obtain ⟨t, rfl⟩ := r; exact .str x t
  | _ => cases e
theorem reads_key {h : Heap} {k : Key} {u : Value} (e : keyIs k u = true) : Reads h u (kD k) [] := by
  cases k with
  | inl i =>
    have e : Value.isInt i u = true := e
    cases u <;> simp [Value.isInt] at e
    subst e
    exact .int _ _
  | inr x =>
    have e : Value.isStrOf x u = true := e
    cases u <;> simp [Value.isStrOf] at e
    subst e
    exact .str _ _
theorem reads_dk {P : Program} {w : World} {h : Heap} : ∀ {es : List DictEntry} {vs : List (Key × Value)} {kvs : List (Key × V)} {ds : List (PyData × PyData)}, Pairs (mixKind P w) es vs → KV kvs vs → dkD kvs = some ds →
    ReadsAll h (es.map (·.key)) (ds.map (·.1)) [] ∧ ReadsAll h (es.map (·.val)) (ds.map (·.2)) []
  | [], _, _, ds, .nil, r, e => by
    cases r
    cases e
    exact ⟨.nil, .nil⟩
  | en :: es, _, _, ds, .cons h1 h2 hp, r, e => by
    cases r with
    | @cons p _ ps _ q r =>
      obtain ⟨q1, q2⟩ := q
      have e : (match scD p.2, dkD ps with | some d, some ds => some ((kD p.1, d) :: ds) | _, _ => none) = some ds := e
      split at e
      · rename_i d ds' e1 e2
        cases e
        obtain ⟨i1, i2⟩ := reads_dk (h := h) hp r e2
        rw [← q1] at h1
        exact ⟨.cons (reads_key h1) i1, .cons (reads_sc e1 (show L2.RelV p.2 en.val from h2 ▸ q2)) i2⟩
      · cases e
/-- plain data, or a dict of plain things -/
def Rp (K : PySem.W.Frag) (H : Hp) (x : V) (d : PyData) : Prop := (Dp K H x d ∧ d.hasDict = false) ∨ ∃ (a : Addr) (kvs : List (Key × V)) (ds : List (PyData × PyData)), x = .ref a ∧ H a = some (.dK kvs) ∧ dkD kvs = some ds ∧ d = .dict ds
def Shown (d : PyData) : Prop := d.showable = true ∧ d.depth ≤ 50 ∧ d.shown.length ≤ sizeLine ∧ PyData.strOk d.shown = true
def rReprW (K : PySem.W.Frag) : List V → Hp → VK → Prop := fun xs H Q => ∃ (x : V) (d : PyData), xs = [x] ∧ Rp K H x d ∧ Shown d ∧ Q (.str d.shown) H
theorem call_reprW {X : Cx} (gd : X.A.guards = some []) (hu : X.A.units + 64 < cLine) : CallR X (.builtin "repr") (rReprW X.K) := by
  intro pins s σ H xs us Q I r h
  obtain ⟨x, d, rfl, hD, ⟨hs, hdp, hz, _⟩, q⟩ := h
  obtain ⟨u, rfl, ru⟩ := vals1 r
  have back : ∀ (h' : Heap) (u : Tok) (tk : Nat), (∀ b o, s.heap.get? b = some o → h'.get? b = some o) → EP X pins σ Q (.str d.shown u) { s with heap := h', toks := tk } := fun h' u tk hk => ⟨.str d.shown, H, I.kept hk, ⟨u, rfl⟩, q⟩
  rcases hD with ⟨hD, hn⟩ | ⟨a, kvs, ds, rfl, ea, ed, rfl⟩
  · cases hD with
    | non => cases ru; exact PySem.P.repr_of_none (back s.heap _ _ fun _ _ e => e)
    | bl b => cases ru; exact PySem.P.repr_of_bool (back s.heap _ _ fun _ _ e => e)
    | int i =>
      obtain ⟨t, rfl⟩ := ru
      exact PySem.P.repr_of_int (by simpa [PyData.showable] using hs) (back s.heap _ _ fun _ _ e => e)
    | str z =>
      obtain ⟨t, rfl⟩ := ru
      exact PySem.P.repr_of_str (back s.heap _ _ fun _ _ e => e) hz
    | @lst a xs ds h1 h2 =>
      cases (show u = Value.ref a from ru)
      obtain ⟨as, rd⟩ := Dp.reads I _ _ _ (.lst h1 h2) rfl
      exact repr_of_reads' rd hs (PyData.noDict_hsm hn) gd (by omega) (fun _ _ e => e) back hz
    | @tup a xs ds h1 h2 =>
      cases (show u = Value.ref a from ru)
      obtain ⟨as, rd⟩ := Dp.reads I _ _ _ (.tup h1 h2) rfl
      exact repr_of_reads' rd hs (PyData.noDict_hsm hn) gd (by omega) (fun _ _ e => e) back hz
  · cases (show u = Value.ref a from ru)
    obtain ⟨z, hm, vs, rel, o, es, ep, e1, e2, e3, e4, e5, e6⟩ := dk_of I.hok ea
    obtain ⟨r1, r2⟩ := reads_dk (h := s.heap) e5 rel ed
    have rd : Reads s.heap (.ref a) (.dict ds) (a :: [] ++ []) := .dict e1 e2.1 e3 r1 r2
    refine repr_of_reads' rd hs (fun _ hmem => ?_) gd (by omega) (fun _ _ e => e) back hz
    simp at hmem
    rw [hmem] at hm
    simp at hm
theorem strOk_app {x y : Str} (hx : PyData.strOk x = true) (hy : PyData.strOk y = true) : PyData.strOk (x ++ y) = true := by
  show (x.cps ++ y.cps).all (· < 0x110000) = true
  have hx : x.cps.all (· < 0x110000) = true := hx
  have hy : y.cps.all (· < 0x110000) = true := hy
  simp only [Array.all_append, hx, hy, Bool.and_self]
theorem strOk_of (s : String) : PyData.strOk (PySem.Str.ofString s) = true := by
  rw [PySem.Str.ofString_eq_toList]
  show ((s.toList.map Char.toNat).toArray).all (· < 0x110000) = true
  rw [List.all_toArray, List.all_map, List.all_eq_true]
  intro c _
  refine decide_eq_true ?_
  have h := c.valid
  show c.val.toNat < 0x110000
  rcases h with h | h
  · have h : c.val.toNat < 0xd800 := h
    omega
  · have h : c.val.toNat < 0x110000 := h.2
    omega
end SP
/-! Lambdas handed to a def of the text; several named clauses; a caught error asked for its class. -/
namespace SP
open PySem PySem.Spec PyProof.Rows L2 LamX
/-! ### several clauses, each with a name -/
/-- the clauses' wishes: a class, its name's slot, its suite's reading -/
def wNm (K : PySem.W.Frag) (Wout : WX) (D : Ends) : List (Value × Nat × (Addr → Value → Option Addr → TS)) → WX
  | [] => Wout
  | (c, i, ts) :: r => fun cls d σ H => ∃ b, PySem.W.exmOne K cls c = some b ∧
      (b = true → ∀ a, H a = none → ts a cls d { nx := fun σ' H' => D.nx (σ'.set i none) H', rt := D.rt, bk := fun σ' H' => D.bk (σ'.set i none) H', ct := fun σ' H' => D.ct (σ'.set i none) H' } (σ.set i (some (.ref a))) H) ∧ (b = false → wNm K Wout D r cls d σ H)
inductive HdsNm (X : Cx) : List ExceptHandler → List (Value × Nat × (Addr → Value → Option Addr → TS)) → Prop
  | nil : HdsNm X [] []
  | cons {x n : Str} {c : Value} {i : Nat} {ts : Addr → Value → Option Addr → TS} {b₀ : Stmt} {suite : List Stmt} {np pos' : Pos} {hds : List ExceptHandler} {l : List (Value × Nat × (Addr → Value → Option Addr → TS))} (hi : X.N[i]? = some n) (hln : X.env.kindOf n = some .local) (hc : Names X x c)
      (hsu : ∀ (a : Addr) (oe : Obj) (cls : Value) (d : Option Addr) (pn : List (Addr × Obj)), Zc cls d oe → (∃ vs, oe.data = .fields vs) → PSs (X.suite a ((a, oe) :: pn)) (b₀ :: suite) (ts a cls d)) (r : HdsNm X hds l) :
      HdsNm X (.ExceptHandler (some (.Name x np)) (some n) (b₀ :: suite) pos' :: hds) ((c, i, ts) :: l)
section
variable {X : Cx} {body : List Stmt} {h₀ : ExceptHandler} {hds : List ExceptHandler} {l : List (Value × Nat × (Addr → Value → Option Addr → TS))} {pos : Pos} {tb : WX → TS} {Wout : WX}
theorem ps_try_nm (ek : X.stack = X.env :: X.outer) (ef : X.env.frame = some X.env.locals) (ndN : X.N.Nodup) (tk : Takes X Wout)
    (hb : ∀ (W : WX) (pn : List (Addr × Obj)) (xe : Value → Shared → Prop), Takes (X.tr pn xe) W → PassesOwn (model X.prog X.w) X.A X.env xe → PSs (X.tr pn xe) body (tb W)) (hh : HdsNm X (h₀ :: hds) l) :
    PS X (.Try body (h₀ :: hds) [] [] pos) (fun D σ H => tb (wNm X.K Wout D l) D σ H) := by
  refine ⟨fun pins s σ H D I h => ?_⟩
  have ok := I.ok
  have efr : X.A.frames = some (X.env :: X.outer) := by rw [ok.frames, ek]
  refine wpAny_Try_except (wpAny_mono ((hb (wNm X.K Wout D l) (X.pn ++ pins) (fun e s₁ => wpAny (model X.prog X.w) X.A (noteFrame e X.env) (fun _ s₂ => wpAny (model X.prog X.w) X.A (setFlight e none) (fun _ s₃ =>
    wpAny (model X.prog X.w) X.A (handleBy e X.env (h₀ :: hds)) (SP X pins D) X.xe s₃) X.xe s₂) X.xe s₁) (fun u s' got => ?_) PassesOwn.looking).run [] s σ H D (I.toTry _) h) (fun f s1 hsp => ?_) (fun e s1 he => he))
  · obtain ⟨a, B, sI, pins', σ', H', cls, d, rfl, J', nb, up, sky, na, os, ag, w⟩ := got
    have J : Inv X pins σ' H' sI := J'.ofTry ok
    have sky2 : Sky B (X.env :: X.outer) a (Zc cls d) X.env.locals s'.heap := by rw [← ek]; exact sky
    refine show wpAny (model X.prog X.w) X.A (noteFrame (.ref a) X.env) _ _ _ from Sky.land Zc.steady efr ef sky2 fun h3 fl3 up3 => ?_
    have J3 : Inv X pins σ' H' { s' with heap := h3 } := J.landed nb fl3.1 (up.trans up3) os ag
    obtain ⟨oe3, vs3, e3, z3, d3⟩ := fl3.there
    have offFr : ∀ {h : Heap} {o : Obj} {vs : Array Value}, h.FunFrames B (X.env :: X.outer) → h.get? a = some o → o.data = .fields vs → a ∉ frs (X.env :: X.outer) := fun {h o vs} ff e dd hm => by
      obtain ⟨_, o2, e2, hn⟩ := ff.mem hm
      rw [e] at e2
      cases e2
      exact hn _ dd
    have outF := offFr fl3.2.2.1 e3 d3
    have outL : a ≠ X.env.locals := fun z => outF (List.mem_filterMap.mpr ⟨X.env, List.mem_cons_self, by rw [ef, z]⟩)
    have outS : a ∉ X.fs := fun hm => by
      obtain ⟨e, he, q⟩ := List.mem_filterMap.mp hm
      exact outF (List.mem_filterMap.mpr ⟨e, List.mem_cons_of_mem _ he, q⟩)
    have S3 := J3.suite e3 d3 na outL outS
    have go : ∀ {hs2 : List ExceptHandler} {l2 : List (Value × Nat × (Addr → Value → Option Addr → TS))}, HdsNm X hs2 l2 → wNm X.K Wout D l2 cls d σ' H' →
        wpAny (model X.prog X.w) X.A (handleBy (.ref a) X.env hs2) (SP X pins D) X.xe { s' with heap := h3 } := by
      intro hs2 l2 hk
      induction hk with
      | nil =>
        intro w
        refine wpAny_handleBy_nil ?_
        obtain ⟨k1, k2, k3, oe, vs, T, oT, ts', he, hz, hd, h1, hr⟩ := id fl3
        unfold PySem.passOn
        refine wpAny_bind (wpAny_field he hd h1 ?_)
        have noN : ¬ ((Value.ref T == Value.none) = true) := by simp
        rw [if_neg noN]
        have fin : wpAny (model X.prog X.w) X.A (setFlight (.ref a) X.env.frame) (fun _ s4 => wpAny (model X.prog X.w) X.A (throw (.ref a) : Sem Flow) (SP X pins D) X.xe s4) X.xe { s' with heap := h3 } := by
          rw [ef]
          exact HandSPX.setFlight_upZ fl3 fun h4 hh4 up4 => wpAny_throw (tk _ _ ⟨a, B, sI, pins, σ', H', cls, d, rfl, J, nb, (up.trans up3).trans up4, .inr (.inr (by rw [ek]; exact hh4)), na, os, ag, w⟩)
        first
          | exact wpAny_bind (wpAny_pure (wpAny_bind fin))
          | exact wpAny_bind fin
      | @cons x n c i ts b₀ suite np pos2 hds2 l2 hi hln hc hsu r ih =>
        intro w
        obtain ⟨b, hb1, hyes, hno⟩ := w
        refine wpAny_handleBy_cons (codeAny_handlers_test ?_) (by intro q; cases q)
        have LT : PySem.W.Looks (model X.prog X.w) h3 (typeOf (.ref a)) cls := fun A Q E s k q => wpAny_typeOf_ref (k _ _ e3) (by rw [z3.1]; exact q)
        have LM := PySem.W.exm_one (M := model X.prog X.w) (J3.kIn) LT hb1
        have tst : ∀ {Q : Value → Shared → Prop} {E : Value → Shared → Prop}, Q c { s' with heap := h3 } → wpAny (model X.prog X.w) (X.A.mark (some (.ref a))) (eval (.Name x np) X.env) Q E { s' with heap := h3 } := fun {Q E} q => by
          obtain ⟨hg, hdbg, hm | ⟨hm, hv, hnn⟩⟩ := hc
          · exact ld_glob (X := X.suite a ((a, oe3) :: (X.pn ++ pins))) S3 hg hm q hdbg
          · exact ld_blt (X := X.suite a ((a, oe3) :: (X.pn ++ pins))) S3 hg hm hv q hnn hdbg
        refine tst (LM.here ?_)
        cases b with
        | true =>
          refine codeAny_handlers_suite_as (HandSPX.lands_againZ fl3 fun h4 fl4 up4 => ?_)
          have J4 : Inv X pins σ' H' { s' with heap := h4 } := J.landed nb fl4.1 ((up.trans up3).trans up4) os ag
          obtain ⟨oe4, vs4, e4, z4, d4⟩ := fl4.there
          have S4 := J4.suite e4 d4 na outL outS
          refine store_ok (X := X.suite a ((a, oe4) :: (X.pn ++ pins))) (v := .ref a) S4 ndN hi (.inl hln) rfl (fun s5 S5 => ?_) (.inr hln)
          refine wpAny_mono ((hsu a oe4 cls d (X.pn ++ pins) z4 ⟨_, d4⟩).run [] s5 _ H' _ S5 (hyes rfl a na)) (fun f s6 hsp => ?_) (fun _ _ z => z.elim)
          have ends : ∀ {σ6 : L2.St} {H6 : Hp} {Q : Shared → Prop}, Inv (X.suite a ((a, oe4) :: (X.pn ++ pins))) [] σ6 H6 s6 → (∀ s7, Inv X pins (σ6.set i none) H6 s7 → Q s7) →
              wpAny (model X.prog X.w) X.A (do bindName X.env n .none; unbindBehindTheSuite X.env n pos2) (fun _ s7 => Q s7) X.xe s6 := fun {σ6 H6 Q} S6 hq => gone_ok (S6.unsuite ok) ndN hi hln hq
          match f, hsp with
          | .next, ⟨σ6, H6, S6, q6⟩ => exact ends S6 fun s7 J7 => ⟨_, _, J7, q6⟩
          | .brk, ⟨σ6, H6, S6, q6⟩ => exact ends S6 fun s7 J7 => ⟨_, _, J7, q6⟩
          | .cont, ⟨σ6, H6, S6, q6⟩ => exact ends S6 fun s7 J7 => ⟨_, _, J7, q6⟩
          | .ret u, ⟨v6, σ6, H6, S6, r6, q6⟩ => exact ends S6 fun s7 J7 => ⟨_, _, _, J7, r6, q6⟩
        | false => exact show wpAny _ X.A (handleBy (.ref a) X.env hds2) _ _ _ from ih (hno rfl)
    exact go hh w
  · match f, hsp with
    | .next, ⟨σ', H', J', q⟩ => exact wpAny_execs_nil ⟨σ', H', J'.ofTry ok, q⟩
    | .brk, ⟨σ', H', J', q⟩ => exact ⟨σ', H', J'.ofTry ok, q⟩
    | .cont, ⟨σ', H', J', q⟩ => exact ⟨σ', H', J'.ofTry ok, q⟩
    | .ret u, ⟨v, σ', H', J', r, q⟩ => exact ⟨v, σ', H', J'.ofTry ok, r, q⟩
end
/-! ### isinstance of a caught error that bears a dict -/
/-- what its class must say -/
structure EcC (K : PySem.W.Frag) (D : Addr) : Prop where
  cl : (PySem.W.clsIn K D).isSome = true
  ga : PySem.W.findIn K (.ref D) "__getattribute__" = some (some (.builtin "BaseException.__getattribute__"))
  gt : ∃ g, PySem.W.findIn K (.ref D) "__getattr__" = some g
  sb : PySem.W.subIn K (.ref D) (.type "BaseException") = some true
  ca : PySem.W.findIn K (.ref D) "__class__" = some (some (.builtin "object.__class__"))
  cn : PySem.W.specialIn K (.builtin "object.__class__") "__get__" = some (some (.builtin "getset_descriptor.__get__"))
  ck : PySem.W.takesIn K (.builtin "object.__class__") = some true
  cm : PySem.W.mroIn K D (.type "object") = some true
def rIsX (K : PySem.W.Frag) (D a : Addr) (cls : Value) (d : Option Addr) : List V → Hp → VK → Prop := fun xs H Q => cls = .ref D ∧ ∃ (c : V) (cv : Value) (b : Bool), xs = [.ref a, c] ∧ (∃ (dd : Addr) (fs : List (Str × V)), d = some dd ∧ H dd = some (.xd fs)) ∧ (∀ u, RelV c u → u = cv) ∧ PySem.W.kitOne K (.ref D) cv = some b ∧ Q (.bl b) H
theorem call_isX {X : Cx} {a D : Addr} {oe : Obj} {cls : Value} {d : Option Addr} {pn : List (Addr × Obj)} (C : EcC X.K D) (hz : Zc cls d oe) (hf : ∃ vs, oe.data = .fields vs) : CallR (X.suite a ((a, oe) :: pn)) (.builtin "isinstance") (rIsX X.K D a cls d) := by
  intro pins s σ H xs us Q I r h
  obtain ⟨ec, c, cv, b, rfl, ⟨dd, fs, rfl, ed⟩, hcv, e, q⟩ := h
  subst ec
  match r with
  | .cons rx (.cons rt .nil) =>
    cases rx
    cases hcv _ rt
    obtain ⟨hget, _⟩ := I.pin (a, oe) (List.mem_append_left _ List.mem_cons_self)
    obtain ⟨vs, hv⟩ := hf
    have hx : ObjOk X.prog X.w H s.heap dd (.xd fs) := I.hok dd _ ed
    obtain ⟨mA, hns, _⟩ := hx
    obtain ⟨od, ho, _⟩ := lookIn_ns hns
    have J : PySem.W.InstAt s.heap a oe D (some od) := ⟨hget, hz.1, by unfold PySem.W.notCls; rw [hv] <;> rfl, by rw [hz.2]; exact ho⟩
    obtain ⟨g, hgt⟩ := C.gt
    have hgo : ∃ gt : Option Value, PySem.W.findIn X.K (.ref D) "__getattr__" = some gt := ⟨g, hgt⟩
    obtain ⟨gt, hgt2⟩ := hgo
    exact PySem.W.kia_one (PySem.W.kitx_exc C.cl C.ga hgt2 C.sb C.ca C.cn C.ck C.cm) I.kIn J e (fun z => nomatch z) fun tk => ⟨.bl b, H, I.kept (t' := tk) fun _ _ z => z, rfl, q⟩
/-! ### lambdas -/
theorem ext_same {H H' : Hp} (s : Same H H') : ExtN H H' := fun b o e _ => s b o e
theorem tabs_same {T : List (Addr × Str)} {H H' : Hp} (t : Tabs T H) (s : Same H H') : Tabs T H' := t.ext s
theorem codeO_lst {c : Addr} {q : Str} (xs : List V) : CodeO c q ≠ .lst xs := fun z => by
  unfold CodeO at z
  cases z
theorem tabs_kp {T : List (Addr × Str)} {H H' : Hp} {p : Addr} {xs : List V} (t : Tabs T H) (hp : H p = some (.lst xs)) (k : Kp p H H') : Tabs T H' := fun y hy => by
  obtain ⟨ps, h1, h2, h3⟩ := t y hy
  refine ⟨ps, k.get hp h1 (fun z => nomatch z), h2, fun pos cv hc => ?_⟩
  obtain ⟨c, e1, e2⟩ := h3 pos cv hc
  exact ⟨c, e1, k.get hp e2 (codeO_lst xs)⟩
/-- the lambda's errors are its caller's -/
theorem takes_lam {X : Cx} {A : Around} {outer : List Env} {s : Shared} {H : Hp} {E : XK} {scope : Scope} {f c' : Addr} : Takes (lamCx X A outer s H E scope f c') (fun cls d _ H => E cls d H) := takes_of rfl rfl rfl rfl
/-- a def of the module whose code object's address is told -/
structure TopC (K : PySem.W.Frag) (mg : Str → Option Value) (x : Str) (st : Stmt) (ps : List Str) (c : Addr) : Prop where
  ex : ∃ (f : Addr) (oc : Value) (od : Option Addr) (kV doc pm : Value) (an : Option Addr) (ct : Value) (osl : Array (Option Value)), mg x = some (.ref f) ∧ K.lookup f = some ⟨oc, od, .func (PySem.W.fnOf x x (defArgs st) (defBody st) (defScope st) .none kV doc pm an (.ref c) ct), osl⟩ ∧
    PySem.W.codeIn K (.ref c) x = true ∧ PySem.W.keepIn K (.ref f) = true ∧ Binds K (PySem.W.fnOf x x (defArgs st) (defBody st) (defScope st) .none kV doc pm an (.ref c) ct) ps []
section
variable {P : Program} {w : World} {K : PySem.W.Frag} {mg : Str → Option Value} {base : Heap}
theorem TopC.ok {x : Str} {st : Stmt} {N ps : List Str} {c : Addr} {k : Nat} {sp : Sp} (T : TopC K mg x st ps c) (S : FnScope N ps (defScope st)) (len : ∀ vs H Q E, sp vs H Q E → vs.length = ps.length)
    (hbody : ∀ (f : Addr) (A : Around) (out : List Env) (s : Shared) (H : Hp) (vs : List V) (Q : VK) (E : XK), A.guards = some [] → Room k (A.deeper (envOfC x (defScope st) s.heap.objs.size f (.ref c))) → sp vs H Q E →
      ∃ t, PSs (cxOf CX0 P w K mg base N x (defScope st) f (.ref c) A out s H E).nox (defBody st) t ∧ t { nx := fun _ H' => Q .non H', rt := Q } (start N vs) H) : DefG P w K mg base (k + 1) x ps sp := by
  obtain ⟨f, oc, od, kV, doc, pm, an, ct, osl, hm, lk, hcd, hk, hb⟩ := T.ex
  exact ⟨f, _, hm, hk, fn_ofG lk hcd S len (fun A out s H vs Q E gd hr h => let ⟨t, a, b⟩ := hbody f A out s H vs Q E gd hr h; ⟨t, a.nox, b⟩), hb⟩
end
/-- a(), in the def that got the lambda, whose errors are wished for at the slots there -/
theorem pe_actS {X : Cx} {pins : List (Addr × Obj)} {σ : L2.St} {H : Hp} {s : Shared} {CXg : CXT} {Eg : XK} {Ng : List Str} {qg : Str} {sg : Scope} {g f c' : Addr} {cdg pm ctv : Value} {params : Arguments} {body : Expr} {scope : Scope} {k i : Nat} {a : Str} {pn : List (Addr × Obj)} {xe : Value → Shared → Prop} {W : WX} {tb : XK → TE} {p1 p2 : Pos}
    (I : Inv X pins σ H s) (L : LamS X.env.scope scope) (hf : s.heap.get? f = some (PySem.W.kla_obj "<lambda>" (X.env.qual ++ "<lambda>") params body scope (cloFrom X.env.cells scope.names []) pm c' ctv)) (nf : H f = none) (rf : f ∉ frs X.stack)
    (hbind : bindArgs (PySem.W.kla_fn "<lambda>" (X.env.qual ++ "<lambda>") params body scope (cloFrom X.env.cells scope.names []) pm (.ref c') ctv) ⟨[], []⟩ = pure [])
    (tk : Takes ((cxOf CXg X.prog X.w X.K X.mg X.base Ng qg sg g cdg X.A X.stack s H Eg).tr pn xe) W) (hr : Room (k + 1) (X.A.deeper (envOfC qg sg s.heap.objs.size g cdg)))
    (hbody : ∀ (A : Around) (outer : List Env) (s : Shared) (H : Hp) (E : XK), Room k (A.deeper (lamEnv X scope s.heap.objs.size f c')) → A.guards = X.A.guards → PE (lamCx X A outer s H E scope f c') body (tb E))
    (hN : Ng[i]? = some a) (hv : Vis sg a) (hd : (a == ("__debug__" : Str)) = false := by decide) (hcd : (a == ("__classdict__" : Str)) = false := by decide) :
    PE ((cxOf CXg X.prog X.w X.K X.mg X.base Ng qg sg g cdg X.A X.stack s H Eg).tr pn xe) (.Call (.Name a p1) [] [] p2)
      (fun σZ HZ Q => σZ[i]? = some (some (.ref f)) ∧ HZ c' = some (CodeO c' (X.env.qual ++ "<lambda>")) ∧ ∃ E : XK, (∀ cls d H', E cls d H' → W cls d σZ H') ∧ tb E σ HZ Q) := by
  refine ⟨fun pz sZ σZ HZ Q IZ h => ?_⟩
  obtain ⟨hs, hc, E, hW, ht⟩ := h
  refine wpAny_Call_Name_kw (thn ((pe_var (pos := p1) (i := i) hN hv hd hcd).run pz sZ σZ HZ (fun v H1 => v = .ref f ∧ H1 = HZ) IZ ⟨.ref f, hs, rfl, rfl⟩) fun u s1 got => ?_)
  obtain ⟨v, H1, I1, r1, ev, eH⟩ := got
  subst ev
  rw [eH] at I1
  cases (show u = Value.ref f from r1)
  have at1 : s1.heap.get? f = some (PySem.W.kla_obj "<lambda>" (X.env.qual ++ "<lambda>") params body scope (cloFrom X.env.cells scope.names []) pm c' ctv) := I1.base.keep f _ hf nf rf (fun z => nomatch (show f ∈ ([] : List Addr) from z))
  refine PySem.W.callWith_F0 ⟨_, _, _, _, at1⟩ ?_
  have un : Un (frs X.stack) [] H HZ s.heap s1.heap := I1.base
  obtain ⟨⟨oc, vs, t, hoc, hdc, hvc⟩, _, _⟩ := I1.hok c' _ hc
  refine wpAny_call (codeAny_mono (show codeAny (model X.prog X.w) (X.A.deeper (envOfC qg sg s.heap.objs.size g cdg)) (.call (.ref f) ⟨[], []⟩) (CR (L2.CX X.prog X.w) (envOfC qg sg s.heap.objs.size g cdg :: X.stack) X.prog X.w HZ s1 Q E) s1 from ?_) fun r s' hq => ?_)
  · refine PySem.W.kla_callFunE hr.depth at1 rfl L.co L.gen rfl ⟨c', oc, vs, t, rfl, hoc, hdc, hvc⟩ ?_
    rw [hbind]
    refine wpAny_pure (wpAny_newFunctionEnv (fun y hy => (L.own y hy).2) (fun y hy => absurd hy (by simp)) (fun h₁ hns hsb => ⟨I1.nolimit.fresh _ hsb, ?_⟩) L.kind)
    show codeAny _ _ (.expr body (lamEnv X scope s1.heap.objs.size f c')) _ _
    have kp : ∀ b o, s1.heap.get? b = some o → h₁.get? b = some o := fun b o e => hsb.extBut b o (Nat.ne_of_lt (Heap.lt_size e)) (Heap.get?_push_of_some _ e)
    have J : Inv (lamCx X (X.A.deeper (envOfC qg sg s.heap.objs.size g cdg)) (envOfC qg sg s.heap.objs.size g cdg :: X.stack) s1 HZ E scope f c') [] σ HZ { s1 with heap := h₁, toks := s1.toks + ([] : List (Str × Value)).length } := lam_start2 I L I1.env0 hr.hd un hns kp
    refine PySem.W.kla_codeExpr (wpAny_mono ((hbody _ _ s1 HZ E (hr.deeper _) rfl).run [] _ _ HZ Q J ht) (fun v s' hq => ?_) fun e s' hq => hq)
    obtain ⟨w', H', J', rv, q⟩ := hq
    exact ⟨w', H', J'.os, J'.bare, J'.base, J'.hok, rv, q⟩
  · match r, hq with
    | .error e, hq => exact tk e s' (XE.of_call I1 (fun cls d H' h => hW cls d H' h) hq)
    | .ok (.ret u), hq => exact I1.after hq
/-- the def that calls what it got; TT: what it makes of the lambda's reading -/
def GivesS (X : Cx) (Ng : List Str) (x : Str) (sg : Scope) (g : Addr) (cdg : Value) (bg : List Stmt) (a : Str) (q : Str) (TT : (XK → Hp → VK → Prop) → Hp → VK → Prop) : Prop :=
  ∀ (f c' : Addr) (s : Shared) (H : Hp) (Q : VK) (tl : XK → Hp → VK → Prop),
    (∀ (W : WX) (pn : List (Addr × Obj)) (xe : Value → Shared → Prop) (p1 p2 : Pos), Takes ((cxOf C8.CX0 X.prog X.w X.K X.mg X.base Ng x sg g cdg X.A X.stack s H C8.E0).tr pn xe) W →
      PE ((cxOf C8.CX0 X.prog X.w X.K X.mg X.base Ng x sg g cdg X.A X.stack s H C8.E0).tr pn xe) (.Call (.Name a p1) [] [] p2) (fun σZ HZ Q => σZ[0]? = some (some (.ref f)) ∧ HZ c' = some (CodeO c' q) ∧ ∃ E : XK, (∀ cls d H', E cls d H' → W cls d σZ H') ∧ tl E HZ Q)) →
    H c' = some (CodeO c' q) → TT tl H Q → ∃ t, PSs (cxOf C8.CX0 X.prog X.w X.K X.mg X.base Ng x sg g cdg X.A X.stack s H C8.E0).nox bg t ∧ t { nx := fun _ H' => Q .non H', rt := Q } (L2.start Ng [.ref f]) H
/-- x(lambda: body): x's def gives TT -/
theorem pe_lamT {X : Cx} {T : List (Addr × Str)} {TT : (XK → Hp → VK → Prop) → Hp → VK → Prop} {x a : Str} {st : Stmt} {Ng : List Str} {c P : Addr} {k : Nat} {params : Arguments} {body : Expr} {scope : Scope} {t : XK → TE} {p lpos pos : Pos}
    (TP : Top X.K X.mg x st [a]) (Sg : FnScope Ng [a] (defScope st)) (hNg : Ng[0]? = some a) (hva : Vis (defScope st) a)
    (hG : ∀ (g : Addr) (cdv : Value), (∀ s : Shared, Room (k + 1) (X.A.deeper (envOfC x (defScope st) s.heap.objs.size g cdv))) → GivesS X Ng x (defScope st) g cdv (defBody st) a (X.env.qual ++ "<lambda>") TT)
    (TB : TabB X.base X.mg c P) (hmT : (P, X.env.qual ++ "<lambda>") ∈ T) (hu : ∀ p ∈ T, p.1 = P → p.2 = X.env.qual ++ "<lambda>") (hr : Room (k + 2) X.A)
    (hbody : ∀ (A : Around) (outer : List Env) (s : Shared) (H : Hp) (E : XK) (f c' : Addr), Room k (A.deeper (lamEnv X scope s.heap.objs.size f c')) → A.guards = X.A.guards → PE (lamCx X A outer s H E scope f c') body (t E))
    (hcode : X.env.code = .ref c := by rfl) (hg : Gl X x := by rfl) (L : LamS X.env.scope scope := by exact lamS_by (by decide +kernel)) (hdef : defaultsOf params X.env = ([], []) := by rfl)
    (hbind : ∀ (q : Str) (cl : List (Str × Addr)) (pm cv ctv : Value), bindArgs (PySem.W.kla_fn "<lambda>" q params body scope cl pm cv ctv) ⟨[], []⟩ = pure [] := by exact fun _ _ _ _ _ => rfl)
    (hdb : (x == ("__debug__" : Str)) = false := by decide) (hd : (a == ("__debug__" : Str)) = false := by decide) (hcd : (a == ("__classdict__" : Str)) = false := by decide) :
    PE X (.Call (.Name x p) [.Lambda params body scope lpos] [] pos) (tLam T TT t) := by
  obtain ⟨g, fd, hm, F, hb⟩ := TP.ex
  have hk := F.kp
  obtain ⟨oc, od, kV, doc, pm, an, cdv, ct, osl, rfl, lk, hcg⟩ := F.ex
  refine ⟨fun pins s σ H Q I h => ?_⟩
  obtain ⟨hT, h⟩ := h
  refine wpAny_Call_Name_kw (ld_glob I hg hm (PySem.W.callWith_K (h₀ := X.base) I.ok.mod.kin hk ?_ (by rfl) (by rfl)) hdb)
  show wpAny _ _ (spliced ((false, eval (.Lambda params body scope lpos) X.env) :: backTo pos (starEach [] X.env))) _ _ s
  refine Calls.spliced_cons (lam_make2 I TB hcode hmT hu hT hdef (L.has I.ok) fun f c' pm' ctv H1 s' I1 eN T1 hf hfn hfr hco => Calls.spliced_nil ⟨I1.kIn, ?_⟩)
  refine wpAny_call (codeAny_mono (show codeAny (model X.prog X.w) X.A (.call (.ref g) ⟨[.ref f], []⟩) (CR C8.CX0 X.stack X.prog X.w H1 s' Q C8.E0) s' from ?_) fun r s2 hq => ?_)
  · refine run_ofS (N := Ng) (ps := [a]) (us := [.ref f]) (vs := [.ref f]) lk hcg Sg hr I1.env0 (hb s' [.ref f] I1.kIn rfl) (.cons rfl .nil) rfl fun hr' => ?_
    obtain ⟨t', ht', hq'⟩ := hG g cdv (fun s => hr.deeper _) f c' s' H1 Q (fun E H' Q' => t E σ H' Q') (fun W pn xe p1 p2 tk => pe_actS (i := 0) I1 L hf hfn hfr (hbind _ _ _ _ _) tk hr' (fun A outer s H E hr2 eg => hbody A outer s H E f c' hr2 eg) hNg hva hd hcd) hco (h H1 eN T1)
    exact ⟨t', ht'.nox, hq'⟩
  · match r, hq with
    | .error e, hq => exact (show False from hq).elim
    | .ok (.ret u), hq => exact I1.after hq
end SP
namespace SP
open PySem PySem.Spec PyProof.Rows L2 LamX
abbrev sIsAm : Stmt := top 17
abbrev sOdd : Stmt := top 23
abbrev sWord : Stmt := top 24
abbrev sTold : Stmt := top 25
abbrev sDue : Stmt := top 26
abbrev sLooks : Stmt := top 27
abbrev sParts : Stmt := top 28
abbrev sUses : Stmt := top 29
abbrev sRight : Stmt := top 30
abbrev sLaw : Stmt := top 31
/-- the error classes, as the law reads them -/
structure ErX (K : PySem.W.Frag) (mg : Str → Option Value) (x : Str) (CE CP : Addr) : Prop where
  gE : mg x = some (.ref CE)
  xf : XfC K CE
  ec : EcC K CE
  nv : PySem.W.findIn K (.ref CE) (Str.ofString "value") = some none
  kP : PySem.W.kitOne K (.ref CE) (.ref CP) = some true
  kV : PySem.W.kitOne K (.ref CE) (.type "ValueError") = some true
  own : PySem.W.exmOne K (.ref CE) (.ref CE) = some true
structure LTxt (K : PySem.W.Frag) (mg : Str → Option Value) (C CI CE CP c1 P1 c2 P2 : Addr) : Prop extends AmTxt K mg C where
  cmp : AmCmp K mg C
  ops : AmOps K mg C
  sm : AmSum K C
  pot : PotT K mg
  nm : NmTxt K mg
  na_d : PySem.W.kitOne K (.type "dict") (.ref C) = some false
  kCI : PySem.W.kitOne K (.ref C) (.type "int") = some false
  kCB : PySem.W.kitOne K (.ref C) (.type "bool") = some false
  kCS : PySem.W.kitOne K (.ref C) (.type "str") = some false
  over : MethT K C "over" "Amount.over" sMOver ["self", "other"]
  bot : PropT K C "bottom" "Amount.bottom" sMBot
  eI : ErX K mg "InvalidInteger" CI CP
  eA : ErX K mg "InvalidAmount" CE CP
  nIA : PySem.W.exmOne K (.ref CE) (.ref CI) = some false
  gP : mg "PipeError" = some (.ref CP)
  b_ValueError : mg "ValueError" = none
  b_str : mg "str" = none
  b_repr : mg "repr" = none
  b_len : mg "len" = none
  b_all : mg "all" = none
  b_any : mg "any" = none
  b_range : mg "range" = none
  b_max : mg "max" = none
  b_min : mg "min" = none
  tAm : Top K mg "is_amount" sIsAm ["value"]
  tOdd : Top K mg "_law_odd" sOdd ["_law_pot_here"]
  tWord : Top K mg "_law_word" sWord ["_law_pot_here"]
  tTold : Top K mg "_law_told" sTold ["_law_call"]
  tDue : Top K mg "_law_due" sDue ["_law_kind", "_law_thing"]
  tLooks : Top K mg "_law_looks_right" sLooks ["_law_pot_here", "_law_made"]
  tParts : TopC K mg "_law_parts_right" sParts ["_law_pot_here", "_law_made"] c1
  tUses : TopC K mg "_law_uses_right" sUses ["_law_pot_here", "_law_made"] c2
  tRight : Top K mg "_law_right" sRight ["_law_pot_here"]
section
variable {P : Program} {w : World} {K : PySem.W.Frag} {mg : Str → Option Value} {base : Heap} {C CI CE CP c1 P1 c2 P2 : Addr}


/-! ### values that are no amounts -/
/-- an odd value: what it shows as, its kind; p: the pot's address -/
inductive Odd (p : Addr) (H : Hp) : V → PyData → String → Prop
  | non : Odd p H .non .none "NoneType"
  | bl (b : Bool) : Odd p H (.bl b) (.bool b) "bool"
  | str (z : Str) : Shown (.str z) → Odd p H (.str z) (.str z) "str"
  | tup {a : Addr} {ns : List Int} : H a = some (.tup (ns.map V.int)) → Shown (.tuple (ns.map PyData.int)) → Odd p H (.ref a) (.tuple (ns.map PyData.int)) "tuple"
  | lst {a : Addr} {ns : List Int} : H a = some (.lst (ns.map V.int)) → a ≠ p → Shown (.list (ns.map PyData.int)) → Odd p H (.ref a) (.list (ns.map PyData.int)) "list"
  | dK {a : Addr} {kvs : List (Key × V)} {ds : List (PyData × PyData)} : H a = some (.dK kvs) → dkD kvs = some ds → Shown (.dict ds) → Odd p H (.ref a) (.dict ds) "dict"
theorem Odd.ext {p : Addr} {H H' : Hp} {v : V} {d : PyData} {t : String} (h : Odd p H v d t) (s : ExtN H H') : Odd p H' v d t := by
  cases h with
  | non => exact .non
  | bl b => exact .bl b
  | str z q => exact .str z q
  | tup e q => exact .tup (s _ _ e (fun _ z => nomatch z)) q
  | lst e n q => exact .lst (s _ _ e (fun _ z => nomatch z)) n q
  | dK e d q => exact .dK (s _ _ e (fun _ z => nomatch z)) d q
theorem Odd.same {p : Addr} {H H' : Hp} {v : V} {d : PyData} {t : String} (h : Odd p H v d t) (s : Same H H') : Odd p H' v d t := h.ext (ext_same s)
theorem Odd.kp {p : Addr} {H H' : Hp} {v : V} {d : PyData} {t : String} {xs : List V} (h : Odd p H v d t) (hp : H p = some (.lst xs)) (k : Kp p H H') : Odd p H' v d t := by
  cases h with
  | non => exact .non
  | bl b => exact .bl b
  | str z q => exact .str z q
  | tup e q => exact .tup (k.tup hp e) q
  | lst e n q => exact .lst (k _ _ e n) n q
  | dK e d q => exact .dK (k.get hp e (fun z => nomatch z)) d q
theorem noD_ints : ∀ ns : List Int, PyData.hasDictAll (ns.map PyData.int) = false
  | [] => by simp [PyData.hasDictAll]
  | i :: r => by simp [PyData.hasDictAll, PyData.hasDict, noD_ints r]
theorem Odd.rp {p : Addr} {H : Hp} {v : V} {d : PyData} {t : String} (h : Odd p H v d t) : Rp K H v d ∧ Shown d := by
  cases h with
  | non => exact ⟨.inl ⟨.non, by simp [PyData.hasDict]⟩, by decide +kernel, by decide +kernel, by decide +kernel, by decide +kernel⟩
  | bl b => exact ⟨.inl ⟨.bl b, by simp [PyData.hasDict]⟩, by simp [PyData.showable], by simp [PyData.depth], by cases b <;> decide +kernel, by cases b <;> decide +kernel⟩
  | str z q => exact ⟨.inl ⟨.str z, by simp [PyData.hasDict]⟩, q⟩
  | tup e q => exact ⟨.inl ⟨.tup (SqT.of e) (dp_ints _), by simp [PyData.hasDict, noD_ints]⟩, q⟩
  | lst e n q => exact ⟨.inl ⟨.lst (SqL.of e) (dp_ints _), by simp [PyData.hasDict, noD_ints]⟩, q⟩
  | dK e d q => exact ⟨.inr ⟨_, _, _, rfl, e, d, rfl⟩, q⟩
theorem Odd.ty {p : Addr} {H : Hp} {v : V} {d : PyData} {t : String} (h : Odd p H v d t) : TyX K H v (.type t) ∧ (t = "NoneType" ∨ t = "bool" ∨ t = "str" ∨ t = "tuple" ∨ t = "list" ∨ t = "dict") := by
  cases h with
  | non => exact ⟨.base .non, by simp⟩
  | bl b => exact ⟨.base (.bl b), by simp⟩
  | str z q => exact ⟨.base (.str z), by simp⟩
  | tup e q => exact ⟨.base (.tup e), by simp⟩
  | lst e n q => exact ⟨.base (.lst e), by simp⟩
  | dK e d q => exact ⟨.base (.dK e), by simp⟩
theorem odd_kits {t : String} (h : t = "NoneType" ∨ t = "bool" ∨ t = "str" ∨ t = "tuple" ∨ t = "list" ∨ t = "dict") : ∃ b1 b2, PySem.W.kitOne K (.type t) (.type "int") = some b1 ∧ PySem.W.kitOne K (.type t) (.type "bool") = some b2 ∧ (b1 && !b2) = false := by
  rcases h with rfl | rfl | rfl | rfl | rfl | rfl
  · exact ⟨false, false, kit_ty (by decide +kernel), kit_ty (by decide +kernel), rfl⟩
  · exact ⟨true, true, kit_ty (by decide +kernel), kit_ty (by decide +kernel), rfl⟩
  · exact ⟨false, false, kit_ty (by decide +kernel), kit_ty (by decide +kernel), rfl⟩
  · exact ⟨false, false, kit_ty (by decide +kernel), kit_ty (by decide +kernel), rfl⟩
  · exact ⟨false, false, kit_ty (by decide +kernel), kit_ty (by decide +kernel), rfl⟩
  · exact ⟨false, false, kit_ty (by decide +kernel), kit_ty (by decide +kernel), rfl⟩
theorem Odd.noI {p : Addr} {H : Hp} {v : V} {d : PyData} {t : String} (h : Odd p H v d t) : NoI K H v := by
  obtain ⟨ty, kt⟩ := h.ty (K := K)
  obtain ⟨b1, b2, k1, k2, k3⟩ := odd_kits (K := K) kt
  exact ⟨_, b1, b2, ty, k1, k2, k3⟩
theorem Odd.noAm {p : Addr} {H : Hp} {v : V} {d : PyData} {t : String} (h : Odd p H v d t) (N : NotAm K C) (nd : PySem.W.kitOne K (.type "dict") (.ref C) = some false) : NoAm K C H v := by
  obtain ⟨ty, kt⟩ := h.ty (K := K)
  obtain ⟨b1, b2, k1, k2, k3⟩ := odd_kits (K := K) kt
  refine ⟨_, b1, b2, ty, ?_, k1, k2, k3⟩
  rcases kt with rfl | rfl | rfl | rfl | rfl | rfl
  · exact N.n
  · exact N.b
  · exact N.s
  · exact N.t
  · exact N.l
  · exact nd
def spOdd : Sp := fun vs H Q _ => ∃ p : Addr, vs = [.ref p] ∧ Pot H p ∧ ∀ (v : V) (d : PyData) (t : String) (H' : Hp), Odd p H' v d t → Pot H' p → Kp p H H' → Q v H'
theorem scOdd : FnScope ["_law_pot_here", "_law_some"] ["_law_pot_here"] (defScope sOdd) := ⟨rfl, rfl, rfl, by decide +kernel, rfl, by decide +kernel, by decide +kernel⟩
theorem d_odd (T : LTxt K mg C CI CE CP c1 P1 c2 P2) : DefG P w K mg base 3 "_law_odd" ["_law_pot_here"] spOdd := by
  have DCh := d_choice (P := P) (w := w) (base := base) T.pot
  refine T.tOdd.ok scOdd (fun vs H Q E h => ?_) (fun f cdv A out s H vs Q E gd hr h => ?_)
  · obtain ⟨p, rfl, _⟩ := h
    rfl
  · obtain ⟨p, rfl, hp, q⟩ := h
    refine ⟨_, (pss_cons (ps_set (i := 1) scOdd.nd rfl (Or.inl rfl) (pe_lst (pa_cons pe_non (pa_cons pe_bl (pa_cons pe_bl (pa_cons pe_str (pa_cons pe_str (pa_cons pe_str (pa_cons (pe_tup (pa_cons pe_int pa_nil)) (pa_cons (pe_tup (pa_cons pe_int (pa_cons pe_int pa_nil))) (pa_cons (pe_lst pa_nil) (pa_cons (pe_lst (pa_cons pe_int pa_nil)) (pa_cons pe_dnewK (pa_cons (pe_disp (pps_cons pe_int pe_int pps_nil) (by rfl) (by rfl) (fun z => by cases z) (by decide)) (pa_cons pe_str pa_nil)))))))))))))))
  (pss_one (ps_ret (pe_callD DCh gd (hr.mono (by decide)) (pa_cons (pv 0) (pa_cons (pv 1) pa_nil)))))), ?_⟩
    refine ⟨(by show 1 ≤ sizeLine; decide), fun t1 n1 => ?_⟩
    obtain ⟨H1, e1, s1, a1⟩ := mko n1 (.tup [.int 1])
    rw [e1]
    refine ⟨(by show 2 ≤ sizeLine; decide), fun t2 n2 => ?_⟩
    obtain ⟨H2, e2, s2, a2⟩ := mko n2 (.tup [.int 1, .int 2])
    rw [e2]
    refine ⟨(by show 0 ≤ sizeLine; decide), fun l1 n3 => ?_⟩
    obtain ⟨H3, e3, s3, a3⟩ := mko n3 (.lst [])
    rw [e3]
    refine ⟨(by show 1 ≤ sizeLine; decide), fun l2 n4 => ?_⟩
    obtain ⟨H4, e4, s4, a4⟩ := mko n4 (.lst [.int 1])
    rw [e4]
    refine fun d1 n5 => ?_
    obtain ⟨H5, e5, s5, a5⟩ := mko n5 (.dK [])
    rw [e5]
    refine fun d2 n6 => ?_
    obtain ⟨H6, e6, s6, a6⟩ := mko n6 (.dK [])
    rw [e6]
    refine ⟨a6, [(.inl 1, .int 1)], rfl, by decide, ?_⟩
    refine ⟨(by show 13 ≤ sizeLine; decide), fun l nl => ?_⟩
    have z6 : Same H H5 := (((s1.trans s2).trans s3).trans s4).trans s5
    have p3 : Pot H3 p := hp.same ((s1.trans s2).trans s3)
    have np3 : l1 ≠ p := fun z => by
      obtain ⟨a, b, e, _⟩ := hp.same (s1.trans s2)
      rw [z, e] at n3
      cases n3
    have np4 : l2 ≠ p := fun z => by
      obtain ⟨a, b, e, _⟩ := p3
      rw [z, e] at n4
      cases n4
    have nd2 : H5 d2 = none := n6
    have s7 : Same H5 (upd H6 d2 (.dK (mergeK [] [(Sum.inl 1, V.int 1)]))) := fun b o e => by
      rw [← e6, upd_ne (ne_of_none e nd2), upd_ne (ne_of_none e nd2)]
      exact e
    obtain ⟨H7, e7⟩ : ∃ H7, upd H6 d2 (.dK (mergeK [] [(Sum.inl 1, V.int 1)])) = H7 := ⟨_, rfl⟩
    have a7 : H7 d2 = some (.dK [(Sum.inl 1, V.int 1)]) := by
      rw [← e7, upd_same]
      rfl
    rw [e7] at s7
    have nl : H7 l = none := by rw [← e7]; exact nl
    rw [e7]
    obtain ⟨H8, e8, s8, a8⟩ := mko nl (.lst [.non, .bl true, .bl false, .str "", .str "1", .str "-1/2", .ref t1, .ref t2, .ref l1, .ref l2, .ref d1, .ref d2, .str "a"])
    rw [e8]
    have s58 : Same H5 H8 := s7.trans s8
    have s48 := s5.trans s58
    have s38 := s4.trans s48
    have s28 := s3.trans s38
    have s18 := s2.trans s28
    have sA : Same H H8 := s1.trans s18
    have hp8 := hp.same sA
    have lp : l ≠ p := fun z => by
      obtain ⟨a, b, e, _⟩ := hp.same (z6.trans s7)
      rw [z, e] at nl
      cases nl
    refine ⟨_, rfl, _, rfl, p, l, _, rfl, hp8, lp, a8, (by show 0 < 13; decide), (by show 13 < 100000; decide), fun v H9 hv p9 k9 => ?_⟩
    obtain ⟨xs, hx⟩ := hp8.lst
    suffices od : ∃ d t, Odd p H8 v d t by
      obtain ⟨d, t, od⟩ := od
      exact q v d t H9 (od.kp hx k9) p9 ((Kp.of sA).trans k9)
    simp only [List.mem_cons, List.not_mem_nil, or_false] at hv
    rcases hv with rfl | rfl | rfl | rfl | rfl | rfl | rfl | rfl | rfl | rfl | rfl | rfl | rfl
    · exact ⟨_, _, .non⟩
    · exact ⟨_, _, .bl _⟩
    · exact ⟨_, _, .bl _⟩
    · exact ⟨_, _, .str _ ⟨by decide +kernel, by decide +kernel, by decide +kernel, by decide +kernel⟩⟩
    · exact ⟨_, _, .str _ ⟨by decide +kernel, by decide +kernel, by decide +kernel, by decide +kernel⟩⟩
    · exact ⟨_, _, .str _ ⟨by decide +kernel, by decide +kernel, by decide +kernel, by decide +kernel⟩⟩
    · exact ⟨_, _, .tup (ns := [1]) (s18 _ _ a1) ⟨by decide +kernel, by decide +kernel, by decide +kernel, by decide +kernel⟩⟩
    · exact ⟨_, _, .tup (ns := [1, 2]) (s28 _ _ a2) ⟨by decide +kernel, by decide +kernel, by decide +kernel, by decide +kernel⟩⟩
    · exact ⟨_, _, .lst (ns := []) (s38 _ _ a3) np3 ⟨by decide +kernel, by decide +kernel, by decide +kernel, by decide +kernel⟩⟩
    · exact ⟨_, _, .lst (ns := [1]) (s48 _ _ a4) np4 ⟨by decide +kernel, by decide +kernel, by decide +kernel, by decide +kernel⟩⟩
    · exact ⟨_, _, .dK (s58 _ _ a5) rfl ⟨by decide +kernel, by decide +kernel, by decide +kernel, by decide +kernel⟩⟩
    · exact ⟨_, _, .dK (s8 _ _ a7) rfl ⟨by decide +kernel, by decide +kernel, by decide +kernel, by decide +kernel⟩⟩
    · exact ⟨_, _, .str _ ⟨by decide +kernel, by decide +kernel, by decide +kernel, by decide +kernel⟩⟩
end
end SP
namespace SP
open PySem PySem.Spec PyProof.Rows L2 LamX


section
variable {P : Program} {w : World} {K : PySem.W.Frag} {mg : Str → Option Value} {base : Heap} {C CI CE CP c1 P1 c2 P2 : Addr}
/-! ### a text and whether it is a name -/
def ltr : List Nat := ("abcdefghijklmnopqrstuvwxyz" : Str).cps.toList
def Ltrs (z : Str) (n : Nat) : Prop := z.cps.size = n ∧ ∀ c ∈ z.cps.toList, c ∈ ltr
theorem cps_app (x y : Str) : (x ++ y).cps.toList = x.cps.toList ++ y.cps.toList := by
  show (x.cps ++ y.cps).toList = _
  simp
theorem name_ltrs {z : Str} {n : Nat} (h : Ltrs z n) : nameOk z = (decide (1 ≤ n) && decide (n ≤ 8)) := by
  obtain ⟨h1, h2⟩ := h
  have e : z.cps.toList.all (fun c => decide (c ∈ ltr)) = true := by
    rw [List.all_eq_true]
    intro c hc
    exact decide_eq_true (h2 c hc)
  have e : z.cps.toList.all (fun c => decide (c ∈ ("abcdefghijklmnopqrstuvwxyz" : Str).cps.toList)) = true := e
  unfold nameOk
  rw [e, Bool.and_true, h1]
theorem name_no {z : Str} {c : Nat} (hc : c ∈ z.cps.toList) (h : ¬ c ∈ ltr) : nameOk z = false := by
  have e : z.cps.toList.all (fun c => decide (c ∈ ("abcdefghijklmnopqrstuvwxyz" : Str).cps.toList)) = false := by
    rw [List.all_eq_false]
    exact ⟨c, hc, fun q => h (of_decide_eq_true q)⟩
  unfold nameOk
  rw [e, Bool.and_false]
def spWord : Sp := fun vs H Q _ => ∃ p : Addr, vs = [.ref p] ∧ Pot H p ∧ ∀ (t : Addr) (z : Str) (b : Bool) (H' : Hp), H' t = some (.tup [.str z, .bl b]) → z.length ≤ 30 → nameOk z = b → Pot H' p → Kp p H H' → Q (.ref t) H'
theorem scWord : FnScope ["_law_pot_here", "_law_size", "_law_found", "_law_turn", "_law_at", "_law_sign"] ["_law_pot_here"] (defScope sWord) := ⟨rfl, rfl, rfl, by decide +kernel, rfl, by decide +kernel, by decide +kernel⟩
theorem d_word (T : LTxt K mg C CI CE CP c1 P1 c2 P2) : DefG P w K mg base 3 "_law_word" ["_law_pot_here"] spWord := by
  have DCh := d_choice (P := P) (w := w) (base := base) T.pot
  have DD := d_draw (P := P) (w := w) (base := base) T.pot
  refine T.tWord.ok scWord (fun vs H Q E h => ?_) (fun f cdv A out s H vs Q E gd hr h => ?_)
  · obtain ⟨p, rfl, _⟩ := h
    rfl
  · obtain ⟨p, rfl, hp, q⟩ := h
    refine ⟨_, (pss_cons (ps_par (i := 1) (j := 2) (by rfl) scWord.nd rfl rfl (by decide) rfl rfl (pa_cons (pe_callD DD gd (hr.mono (by decide)) (pa_cons (pv 0) (pa_cons pe_int pa_nil))) (pa_cons pe_str pa_nil)) (by rfl))
  (pss_cons (ps_for PassesOwn.never rfl (pi_range1 (by rfl) T.b_range (pa_cons (pv 1) pa_nil)) (pg_name (i := 3) scWord.nd rfl (Or.inl rfl)) (pss_one (ps_set (i := 2) scWord.nd rfl (Or.inl rfl) (pe_op op_add_str (pv 2) (pe_ix ix_str pe_str (pe_callD DD gd (hr.mono (by decide)) (pa_cons (pv 0) (pa_cons pe_int pa_nil))) (fun _ _ => rfl))))))
  (pss_cons (ps_if (pt_cmpR op_gt (pe_callD DD gd (hr.mono (by decide)) (pa_cons (pv 0) (pa_cons pe_int pa_nil))) pe_int (nomark _)) (pss_one (ps_ret (pe_tup (pa_cons (pv 2) (pa_cons (pe_chain op_le op_le pe_int (pv 1) pe_int) pa_nil))))) pss_nil)
  (pss_cons (ps_set (i := 4) scWord.nd rfl (Or.inl rfl) (pe_callD DD gd (hr.mono (by decide)) (pa_cons (pv 0) (pa_cons (pe_op op_add (pv 1) pe_int) pa_nil))))
  (pss_cons (ps_set (i := 5) scWord.nd rfl (Or.inl rfl) (pe_callD DCh gd (hr.mono (by decide)) (pa_cons (pv 0) (pa_cons (pe_lst (pa_cons pe_str (pa_cons pe_str (pa_cons pe_str (pa_cons pe_str (pa_cons pe_str (pa_cons pe_str (pa_cons pe_str (pa_cons pe_str (pa_cons pe_str pa_nil)))))))))) pa_nil))))
  (pss_one (ps_ret (pe_tup (pa_cons (pe_op op_add_str (pe_op op_add_str (pe_slice sl_str (pv 2) po_none (po_some (pv 4))) (pv 5)) (pe_slice sl_str (pv 2) (po_some (pv 4)) po_none)) (pa_cons pe_bl pa_nil)))))))))), ?_⟩
    refine ⟨_, rfl, p, 11, rfl, hp, by decide, by decide, fun n H1 n0 n1 p1 k1 => ⟨_, _, rfl, ?_⟩⟩
    refine ⟨_, rfl, n.toNat, ?_, by omega, by omega, ?_⟩
    · rw [Int.toNat_of_nonneg n0]
    refine for_it (walk_range (lo := 0) (n := n.toNat)) (fun i σ H' => Pot H' p ∧ Kp p H H' ∧ ∃ (z : Str) (o3 : Option V), σ = [some (.ref p), some (.int n), some (.str z), o3, none, none] ∧ Ltrs z i) ⟨p1, k1, "", _, rfl, rfl, fun c hc => by cases hc⟩ (fun i σ H' _ k => trivial) (fun i v σ H' H'' hi k y => ?_) (fun σ H' k => ?_)
    · obtain ⟨p2, k2, z, o3, rfl, hz⟩ := k
      obtain ⟨rfl, rfl⟩ := y
      refine ⟨_, rfl, _, rfl, p, 26, rfl, p2, by decide, by decide, fun d H3 d0 d1 p3 k3 => ?_⟩
      obtain ⟨c, hc⟩ : ∃ c, ltr[d.toNat]? = some c := ⟨_, List.getElem?_eq_getElem (by show d.toNat < 26; omega)⟩
      have hat := atI_nat (xs := ltr) (j := d.toNat) hc
      rw [Int.toNat_of_nonneg d0] at hat
      refine ⟨_, d, c, rfl, rfl, by decide +kernel, hat, ?_⟩
      have zl : z.length = i := hz.1
      refine ⟨_, _, rfl, rfl, ?_, ?_⟩
      · show z.length + 1 ≤ sizeLine
        rw [zl]
        exact Nat.le_trans (show i + 1 ≤ 11 by omega) (by decide)
      · refine ⟨p3, k2.trans k3, _, _, rfl, ?_, fun x hx => ?_⟩
        · show (z.cps ++ #[c]).size = i + 1
          rw [Array.size_append, hz.1]
          rfl
        · rw [cps_app] at hx
          rcases List.mem_append.mp hx with hx | hx
          · exact hz.2 x hx
          · have hx : x ∈ [c] := hx
            rw [List.mem_singleton] at hx
            rw [hx]
            exact List.mem_of_getElem? hc
    · obtain ⟨p2, k2, z, o3, rfl, hz⟩ := k
      have zl : z.length = n.toNat := hz.1
      refine ⟨_, rfl, p, 3, rfl, p2, by decide, by decide, fun d H3 d0 d1 p3 k3 => ⟨_, _, rfl, rfl, _, rfl, ?_⟩⟩
      refine ite2 (fun c => ?_) (fun c => ?_)
      · have fin : ∀ b : Bool, nameOk z = b → (2 ≤ sizeLine ∧ ∀ t, H3 t = none → Q (.ref t) (upd H3 t (.tup [.str z, .bl b]))) := fun b e => ⟨by decide, fun t nt => q t z b _ upd_same (by omega) e (p3.same (Same.new nt)) (((k2.trans k3)).trans (Kp.of (Same.new nt)))⟩
        refine ⟨_, rfl, _, rfl, _, _, rfl, rfl, _, rfl, ?_⟩
        refine ite2 (fun e1 => ?_) (fun e1 => ?_)
        · refine ⟨_, _, rfl, rfl, fin _ ?_⟩
          rw [name_ltrs hz]
          have e1 := of_decide_eq_true e1
          rw [decide_eq_true (show 1 ≤ n.toNat by omega), Bool.true_and]
          exact decide_eq_decide.mpr ⟨fun x => by omega, fun x => by omega⟩
        · refine fin _ ?_
          have e1 : ¬ 1 ≤ n := fun x => e1 (decide_eq_true x)
          rw [name_ltrs hz, decide_eq_false (show ¬ 1 ≤ n.toNat by omega), Bool.false_and]
      · refine ⟨_, rfl, _, rfl, _, _, rfl, rfl, p, n + 1, rfl, p3, by omega, by omega, fun at_ H4 a0 a1 p4 k4 => ?_⟩
        have e0 : n + 1 = n + 1 := rfl
        refine ⟨_, rfl, by decide, fun l nl => ?_⟩
        obtain ⟨H5, e5, s5, l5⟩ := mko nl (.lst [.str "A", .str "Z", .str "1", .str " ", .str "_", .str "-", .str "?", .str "\n", .str "."])
        rw [e5]
        have lp : l ≠ p := fun e => by
          obtain ⟨a, b, x, _⟩ := p4
          rw [e, x] at nl
          cases nl
        refine ⟨p, l, _, rfl, p4.same s5, lp, l5, by show 0 < 9; decide, by show 9 < 100000; decide, fun v H6 hv p6 k6 => ?_⟩
        obtain ⟨c, rfl, hc⟩ : ∃ c : Nat, v = .str ⟨#[c]⟩ ∧ ¬ c ∈ ltr := by
          simp only [List.mem_cons, List.not_mem_nil, or_false] at hv
          rcases hv with rfl | rfl | rfl | rfl | rfl | rfl | rfl | rfl | rfl
          · exact ⟨65, rfl, by decide +kernel⟩
          · exact ⟨90, rfl, by decide +kernel⟩
          · exact ⟨49, rfl, by decide +kernel⟩
          · exact ⟨32, rfl, by decide +kernel⟩
          · exact ⟨95, rfl, by decide +kernel⟩
          · exact ⟨45, rfl, by decide +kernel⟩
          · exact ⟨63, rfl, by decide +kernel⟩
          · exact ⟨10, rfl, by decide +kernel⟩
          · exact ⟨46, rfl, by decide +kernel⟩
        have zs : z.length ≤ sizeLine := Nat.le_trans (show z.length ≤ 10 by omega) (by decide)
        have cl : ∀ lo hi : Option Int, (cutS z lo hi).length ≤ 10 := fun lo hi => by
          show (List.toArray _).size ≤ 10
          rw [List.size_toArray]
          refine Nat.le_trans (List.length_take_le' ..) ?_
          rw [List.length_drop]
          have : z.cps.toList.length = z.length := by simp [Str.length]
          omega
        have c1 := cl none (some at_)
        have c2 := cl (some at_) none
        have big : 21 ≤ sizeLine := by decide
        have l1 : (cutS z none (some at_) ++ (⟨#[c]⟩ : Str)).length = (cutS z none (some at_)).length + 1 := by
          show (_ ++ #[c] : Array Nat).size = _
          rw [Array.size_append]
          rfl
        have l2 : (cutS z none (some at_) ++ (⟨#[c]⟩ : Str) ++ cutS z (some at_) none).length = (cutS z none (some at_) ++ (⟨#[c]⟩ : Str)).length + (cutS z (some at_) none).length := by
          show (_ ++ _ : Array Nat).size = _
          rw [Array.size_append]
          rfl
        refine ⟨_, rfl, _, rfl, _, rfl, z, rfl, zs, _, rfl, _, _, rfl, rfl, ?_, _, rfl, _, rfl, _, rfl, z, rfl, zs, _, _, rfl, rfl, ?_, (by show 2 ≤ sizeLine; decide), fun t nt => ?_⟩
        · show (cutS z none (some at_)).length + 1 ≤ sizeLine
          omega
        · rw [l1]
          omega
        · refine q t _ false _ upd_same ?_ (name_no (c := c) ?_ hc) (p6.same (Same.new nt)) (((((k2.trans k3).trans k4).trans (Kp.of s5)).trans k6).trans (Kp.of (Same.new nt)))
          · rw [l2, l1]
            omega
          · rw [cps_app, cps_app]
            exact List.mem_append_left _ (List.mem_append_right _ (List.mem_singleton.mpr rfl))
end
end SP
/-! Defs that raise nothing, called wherever: also while an exception is handled. -/
namespace SP
open PySem PySem.Spec PyProof.Rows L2
/-- the context of such a def's body -/
def cxQ (CX : CXT) (P : Program) (w : World) (K : PySem.W.Frag) (mg : Str → Option Value) (base : Heap) (N : List Str) (qual : Str) (scope : Scope) (f : Addr) (cd : Value) (A : Around) (out : List Env) (s : Shared) (H : Hp) (E : XK) : Cx := { cxOf CX P w K mg base N qual scope f cd A out s H E with calm := false }
theorem inv_startQ {CX : CXT} {P : Program} {w : World} {K : PySem.W.Frag} {mg : Str → Option Value} {base : Heap} {N ps : List Str} {qual : Str} {scope : Scope} {f : Addr} {cd : Value} {A : Around} {out : List Env} {s s1 : Shared} {H : Hp} {E : XK} {us : List Value} {vs : List V}
    (S : FnScope N ps scope) (e0 : Env0 P w K mg base A out s H) (hl : vs.length = ps.length) (r : Vals vs us)
    (x : InCallC s s.heap.objs.size (bindL (envOfC qual scope s.heap.objs.size f cd).kindOf (ps.zip us) fun _ => none) (cellsFrom (s.heap.objs.size + 1) scope.names []) (bindC (envOfC qual scope s.heap.objs.size f cd).kindOf (ps.zip us) fun _ => none) s1) : Inv (cxQ CX P w K mg base N qual scope f cd A out s H E) [] (L2.start N vs) H s1 := by
  have e1 : Env0 P w K mg base { A with handled := none } out s H := ⟨e0.frames, e0.mod, e0.bs, e0.bsz, e0.funs, e0.frf, e0.hok, e0.bare⟩
  have J := inv_start (CX := CX) (E := E) (cd := cd) S rfl e1 hl r x
  have o := J.ok
  exact ⟨⟨o.mod, o.kind, o.glob, o.blt, o.above, o.inj, o.has, o.cab, (fun z => nomatch (show false = true from z)), o.frames, o.stk, o.exf, o.bs, o.bsz, o.noex, o.exfs, o.funs, o.frf⟩, J.os, J.bare, J.base, J.loc, J.cell, J.free, J.freeC, J.pin, J.hok, J.len⟩
structure FnQ (P : Program) (w : World) (K : PySem.W.Frag) (mg : Str → Option Value) (base : Heap) (k : Nat) (f : Addr) (fd : FuncData) (ps : List Str) (sp : Sp) : Prop where
  qlen : ∀ vs H Q E, sp vs H Q E → vs.length = ps.length
  qrun : ∀ (A : Around) (out : List Env) (s : Shared) (H : Hp) (ar : Args) (us : List Value) (vs : List V) (Q : VK), L2H.RoomH k A → Env0 P w K mg base A out s H → BindsTo s fd ar (ps.zip us) → Vals vs us → sp vs H Q E0 → codeAny (model P w) A (.call (.ref f) ar) (CR CX0 out P w H s Q E0) s
section
variable {P : Program} {w : World} {K : PySem.W.Frag} {mg : Str → Option Value} {base : Heap} {k : Nat} {f : Addr} {fd : FuncData} {N ps : List Str} {sp : Sp}
theorem okQ {x qual : Str} {st : Stmt} (F : Fun K x qual st f fd) (S : FnScope N ps (defScope st)) (len : ∀ vs H Q E, sp vs H Q E → vs.length = ps.length)
    (hbody : ∀ (cdv : Value) (A : Around) (out : List Env) (s : Shared) (H : Hp) (vs : List V) (Q : VK), L2H.RoomH k (A.deeper (envOfC qual (defScope st) s.heap.objs.size f cdv)) → sp vs H Q E0 →
      ∃ t, PSs (cxQ CX0 P w K mg base N qual (defScope st) f cdv A out s H E0).nox (defBody st) t ∧ t { nx := fun _ H' => Q .non H', rt := Q } (start N vs) H) : FnQ P w K mg base (k + 1) f fd ps sp := by
  obtain ⟨oc, od, kV, doc, pm, an, cdv, ct, osl, rfl, lk, hcd⟩ := F.ex
  refine ⟨len, fun A out s H ar us vs Q hr e0 hb r h => ?_⟩
  have inK : K.In s.heap := e0.mod.kin.keeps fun b o e => (e0.bs b o e).1
  have nol : s.heap.NoLimit := e0.mod.nolimit.keeps fun b o e => (e0.bs b o e).1
  have kinds : ∀ y ∈ ps.zip us, (defScope st).names.lookup y.1 = some .local ∨ ((defScope st).names.lookup y.1 = some .cell ∧ ((cellsFrom (s.heap.objs.size + 1) (defScope st).names []).lookup y.1).isSome = true) := by
    intro ⟨n, v⟩ hy
    cases S.par n (List.of_mem_zip hy).1 with
    | inl q => exact .inl q
    | inr q => exact .inr ⟨q, PySem.W.cellsFrom_some _ _ _ (.inl q)⟩
  refine codeAny_call_function hr.depth (inK _ _ lk) rfl S.co S.gen rfl (PySem.W.codeRec_of inK hcd) (hb _ _ _ _ (wpAny_newFunctionEnv_cells S.kind kinds ?_))
  intro env he s1 x
  subst he
  refine ⟨nol.keeps x.toInCall.keep, codeAny_func ?_⟩
  obtain ⟨t, ht, hq⟩ := hbody cdv A out s H vs Q (hr.deeper _) h
  have I : Inv (cxQ CX0 P w K mg base N qual (defScope st) f cdv A out s H E0) [] (start N vs) H s1 := inv_startQ S e0 (len _ _ _ _ h) r x
  refine wpAny_mono (ht.nox.run [] s1 (start N vs) H _ I hq) ?_ fun e s2 z => z
  intro fl s2 z
  match fl, z with
  | .ret u, ⟨v, _, H2, J, rv, q⟩ => exact ⟨v, H2, J.os, J.bare, J.base, J.hok, rv, q⟩
  | .next, ⟨_, H2, J, q⟩ => exact ⟨.non, H2, J.os, J.bare, J.base, J.hok, rfl, q⟩
  | .brk, ⟨_, _, _, q⟩ => exact (show False from q).elim
  | .cont, ⟨_, _, _, q⟩ => exact (show False from q).elim
end
theorem rn_q {X : Cx} {k : Nat} {f : Addr} {fd : FuncData} {ps : List Str} {sp : Sp} (F : FnQ X.prog X.w X.K X.mg X.base k f fd ps sp) (hr : L2H.RoomH k X.A) (hb : Binds X.K fd ps []) : Rn X f sp [] E0 := by
  intro pins σ H s Q us vs I r h
  rw [List.append_nil] at h
  have ln : us.length = ps.length := r.length.symm.trans (F.qlen _ _ _ _ h)
  have bd := hb s us I.kIn (by rw [List.append_nil]; exact ln)
  rw [List.append_nil] at bd
  refine wpAny_call (codeAny_mono (F.qrun X.A X.stack s H ⟨us, []⟩ us vs Q hr I.env0 bd r h) ?_)
  intro res s2 got
  match res, got with
  | .error e, got => exact got.elim
  | .ok (.ret u), got => exact I.after got
end SP
/-! repr of an Amount, also while an exception is handled; repr of any value. -/
namespace SP
open PySem PySem.Spec PyProof.Rows L2
section
variable {P : Program} {w : World} {K : PySem.W.Frag} {mg : Str → Option Value} {base : Heap} {C : Addr}
theorem okQ_Repr {f : Addr} {fd : FuncData} (F : Fun K "__repr__" "Amount.__repr__" sMRepr f fd) (T : AmTxt K mg C) : FnQ P w K mg base 1 f fd ["self"] (spShow C rTxt) := by
  refine okQ F scRepr (fun vs H Q E h => ?_) (fun cdv A out s H vs Q hr h => ?_)
  · obtain ⟨a, t, b, rfl, _⟩ := h
    rfl
  · obtain ⟨a, t, b, rfl, h1, hz1, hz2, q⟩ := h
    obtain ⟨z1, d1, p1, e1, g1⟩ := id h1
    refine ⟨_, (pss_one (ps_ret (pe_joined (PJ.cons pe_str (PJ.cons (pe_fmt (pe_fld (pv 0) rfl)) (PJ.cons pe_str (PJ.cons (pe_fmt (pe_fld (pv 0) rfl)) (PJ.cons pe_str PJ.nil)))))))), ?_⟩
    have g1 := small_log hz1 (by decide) (by decide)
    have g2 := small_log hz2 (by decide) (by decide)
    have l1 := len1921 g1
    have l2 := len1921 g2
    refine ⟨_, rfl, by decide, _, rfl, a, C, d1, _, _, rfl, e1, T.cl, T.nT, am_top _ _ _, .inr ⟨t, rfl, g1, _, rfl, ?_, _, rfl, ?_, ?_⟩⟩
    · rw [PySem.Str.length_append, PySem.Str.length_append]
      exact small1000' (by show 0 + 7 + _ ≤ _; omega)
    · rw [PySem.Str.length_append, PySem.Str.length_append, PySem.Str.length_append]
      exact small1000' (by show 0 + 7 + _ + 2 ≤ _; omega)
    · refine ⟨_, rfl, a, C, d1, _, _, rfl, e1, T.cl, T.nB, am_bottom _ _ _, .inr ⟨b, rfl, g2, _, rfl, ?_, _, rfl, ?_, q⟩⟩
      · rw [PySem.Str.length_append, PySem.Str.length_append, PySem.Str.length_append, PySem.Str.length_append]
        exact small1000' (by show 0 + 7 + _ + 2 + _ ≤ _; omega)
      · rw [PySem.Str.length_append, PySem.Str.length_append, PySem.Str.length_append, PySem.Str.length_append, PySem.Str.length_append]
        exact small1000' (by show 0 + 7 + _ + 2 + _ + 1 ≤ _; omega)
end
/-- v shows as z -/
def Sh (K : PySem.W.Frag) (C : Addr) (H : Hp) (v : V) (z : Str) : Prop := (∃ d, Rp K H v d ∧ Shown d ∧ z = d.shown) ∨ ∃ (a : Addr) (t b : Int), v = .ref a ∧ AmAt C H a t b ∧ t.natAbs < 2 ^ 1900 ∧ b.natAbs < 2 ^ 1900 ∧ z = rTxt t b
def rSh (K : PySem.W.Frag) (C : Addr) : List V → Hp → VK → Prop := fun xs H Q => ∃ v z, xs = [v] ∧ Sh K C H v z ∧ Q (.str z) H
theorem call_reprSh {X : Cx} {C : Addr} (T : AmTxt X.K X.mg C) (M : AmCmp X.K X.mg C) (gd : X.A.guards = some []) (hr : L2H.RoomH 2 X.A) : CallR X (.builtin "repr") (rSh X.K C) := by
  obtain ⟨_, _, h1, h2, F, hb⟩ := M.rp.ex
  have hr1 : L2H.RoomH 1 (in1 X).A := ⟨by have := hr.dp; show X.A.depth + _ < _; omega, by have := hr.un; show X.A.units + 1 + _ < _; omega⟩
  have R := call_reprO (X := X) (sp := spShow C rTxt) (E := E0) (by have := hr.un; omega) h1 h2 (rn_q (X := in1 X) (okQ_Repr F T) hr1 hb)
  have D := call_reprW gd (by have := hr.un; omega)
  intro pins s σ H xs us Q I r h
  obtain ⟨v, z, rfl, hv, q⟩ := h
  rcases hv with ⟨d, h1, h2, rfl⟩ | ⟨a, t, b, rfl, h1, z1, z2, rfl⟩
  · exact D pins s σ H _ us Q I r ⟨v, d, rfl, h1, h2, q⟩
  · exact R pins s σ H _ us Q I r (rAmS_in ⟨a, t, b, rfl, h1, z1, z2, q⟩)
end SP
namespace SP
open PySem PySem.Spec PyProof.Rows L2 LamX


section
variable {P : Program} {w : World} {K : PySem.W.Frag} {mg : Str → Option Value} {base : Heap} {C CI CE CP c1 P1 c2 P2 : Addr}
/-! ### what is due, what is told -/
def spDue (K : PySem.W.Frag) (C : Addr) : Sp := fun vs H Q _ => ∃ (k : Str) (v : V) (z : Str), vs = [.str k, v] ∧ Sh K C H v z ∧ ∀ (l : Addr) (H' : Hp), H' l = some (.lst [.str k, .str z, .bl true, .bl true]) → Same H H' → H l = none → Q (.ref l) H'
theorem scDue : FnScope ["_law_kind", "_law_thing"] ["_law_kind", "_law_thing"] (defScope sDue) := ⟨rfl, rfl, rfl, by decide +kernel, rfl, by decide +kernel, by decide +kernel⟩
theorem d_due (T : LTxt K mg C CI CE CP c1 P1 c2 P2) : DefG P w K mg base 3 "_law_due" ["_law_kind", "_law_thing"] (spDue K C) := by
  refine T.tDue.ok scDue (fun vs H Q E h => ?_) (fun f cdv A out s H vs Q E gd hr h => ?_)
  · obtain ⟨k, v, z, rfl, _⟩ := h
    rfl
  · obtain ⟨k, v, z, rfl, hv, q⟩ := h
    refine ⟨_, (pss_one (ps_ret (pe_lst (pa_cons (pv 0) (pa_cons (pe_callB (call_reprSh T.toAmTxt T.cmp gd (L2H.roomH_of hr)) (by rfl) T.b_repr (by decide +kernel) (pa_cons (pv 1) pa_nil)) (pa_cons pe_bl (pa_cons pe_bl pa_nil))))))), ?_⟩
    exact ⟨_, rfl, _, rfl, v, z, rfl, hv, (by show 4 ≤ sizeLine; decide), fun l nl => q l _ upd_same (Same.new nl) nl⟩
/-- told: what the lambda raises -/
def TTd (K : PySem.W.Frag) (C CI CE : Addr) : (XK → Hp → VK → Prop) → Hp → VK → Prop := fun tl H Q => ∀ Qd : VK, ∀ l0, H l0 = none →
  tl (fun cls d H' => ∃ (CC dd : Addr) (v : V) (z k : Str), cls = .ref CC ∧ d = some dd ∧ H' dd = some (.xd [(Str.ofString "value", v)]) ∧ ((CC = CI ∧ k = "integer") ∨ (CC = CE ∧ k = "amount")) ∧ Sh K C H' v z ∧
    ∀ (l : Addr) (H'' : Hp), H'' l = some (.lst [.str k, .str z, .bl true, .bl true]) → Same H' H'' → H' l = none → Q (.ref l) H'') (upd H l0 (.lst [.str "other", .non])) Qd
theorem scTold : FnScope ["_law_call", "_law_told_here", "e"] ["_law_call"] (defScope sTold) := ⟨rfl, rfl, rfl, by decide +kernel, rfl, by decide +kernel, by decide +kernel⟩
theorem takesN {X : Cx} : Takes X (fun _ _ _ _ => False) := fun _ _ ⟨_, _, _, _, _, _, _, _, _, _, _, _, _, _, _, _, z⟩ => z.elim
theorem told_gv {X : Cx} (T : LTxt X.K X.mg C CI CE CP c1 P1 c2 P2) (gd : X.A.guards = some []) {g : Addr} {cdv : Value} {q : Str} (hr : ∀ s : Shared, Room 3 (X.A.deeper (envOfC "_law_told" (defScope sTold) s.heap.objs.size g cdv))) :
    GivesS X ["_law_call", "_law_told_here", "e"] "_law_told" (defScope sTold) g cdv (defBody sTold) "_law_call" q (TTd X.K C CI CE) := by
  have hr2 : ∀ s : Shared, L2H.RoomH 2 (X.A.deeper (envOfC "_law_told" (defScope sTold) s.heap.objs.size g cdv)) := fun s => L2H.roomH_of ((hr s).mono (by decide))
  intro f c' s H Q tl act hc h
  refine ⟨_, pss_cons (ps_set (i := 1) scTold.nd rfl (Or.inl rfl) (pe_lst (pa_cons pe_str (pa_cons pe_non pa_nil)))) (pss_cons (ps_try_nm rfl rfl scTold.nd takesN
    (fun W pn xe tk _ => pss_one (ps_set (i := 1) scTold.nd rfl (Or.inl rfl) (pe_lst (pa_cons pe_str (pa_cons (pe_callB (id := "repr") (r := rSh X.K C) (by exact call_reprSh T.toAmTxt T.cmp gd (hr2 s)) (by rfl) T.b_repr (by decide +kernel) (pa_cons (act W pn xe _ _ tk) pa_nil)) pa_nil)))))
    (.cons (i := 2) rfl rfl ⟨by rfl, by decide, .inl T.eI.gE⟩ (fun a oe cls d pn hz hf => pss_one (ps_set (i := 1) scTold.nd rfl (Or.inl rfl) (pe_lst (pa_cons pe_str (pa_cons (pe_callB (id := "repr") (r := rSh X.K C) (by exact call_reprSh T.toAmTxt T.cmp gd ⟨(hr2 s).dp, (hr2 s).un⟩) (by rfl) T.b_repr (by decide +kernel) (pa_cons (pe_xf T.eI.xf T.eI.nv hz hf (pv 2)) pa_nil)) (pa_cons (pe_callB (id := "isinstance") (r := rIsX X.K CI a cls d) (by exact call_isX T.eI.ec hz hf) (by rfl) T.b_isinstance (by decide +kernel) (pa_cons (pv 2) (pa_cons (pe_glob (v := .ref CP) (by rfl) T.gP rfl) pa_nil))) (pa_cons (pe_callB (id := "isinstance") (r := rIsX X.K CI a cls d) (by exact call_isX T.eI.ec hz hf) (by rfl) T.b_isinstance (by decide +kernel) (pa_cons (pv 2) (pa_cons (pe_bltn (v := .ty "ValueError") (by rfl) T.b_ValueError (by decide +kernel) rfl) pa_nil))) pa_nil))))))) 
    (.cons (i := 2) rfl rfl ⟨by rfl, by decide, .inl T.eA.gE⟩ (fun a oe cls d pn hz hf => pss_one (ps_set (i := 1) scTold.nd rfl (Or.inl rfl) (pe_lst (pa_cons pe_str (pa_cons (pe_callB (id := "repr") (r := rSh X.K C) (by exact call_reprSh T.toAmTxt T.cmp gd ⟨(hr2 s).dp, (hr2 s).un⟩) (by rfl) T.b_repr (by decide +kernel) (pa_cons (pe_xf T.eA.xf T.eA.nv hz hf (pv 2)) pa_nil)) (pa_cons (pe_callB (id := "isinstance") (r := rIsX X.K CE a cls d) (by exact call_isX T.eA.ec hz hf) (by rfl) T.b_isinstance (by decide +kernel) (pa_cons (pv 2) (pa_cons (pe_glob (v := .ref CP) (by rfl) T.gP rfl) pa_nil))) (pa_cons (pe_callB (id := "isinstance") (r := rIsX X.K CE a cls d) (by exact call_isX T.eA.ec hz hf) (by rfl) T.b_isinstance (by decide +kernel) (pa_cons (pv 2) (pa_cons (pe_bltn (v := .ty "ValueError") (by rfl) T.b_ValueError (by decide +kernel) rfl) pa_nil))) pa_nil))))))) .nil))) (pss_one (ps_ret (pv 1)))), ?_⟩
  refine ⟨(by show 2 ≤ sizeLine; decide), fun l0 n0 => ⟨rfl, ?_, _, fun cls d H' k => ?_, h _ l0 n0⟩⟩
  · rw [upd_ne (ne_of_none hc n0)]
    exact hc
  · obtain ⟨CC, dd, v, z, k, rfl, rfl, hd, kind, sh, q⟩ := k
    rcases kind with ⟨rfl, rfl⟩ | ⟨rfl, rfl⟩
    · refine ⟨true, T.eI.own, fun _ a na => ?_, fun z => nomatch z⟩
      refine ⟨_, rfl, rfl, rfl, dd, _, v, rfl, hd, by rfl, v, z, rfl, sh, _, rfl, rfl, _, _, true, rfl, ⟨dd, _, rfl, hd⟩, fun _ r => r, T.eI.kP, _, rfl, rfl, _, _, true, rfl, ⟨dd, _, rfl, hd⟩, fun _ r => r, T.eI.kV, (by show 4 ≤ sizeLine; decide), fun l nl => ?_⟩
      exact ⟨_, rfl, q l _ upd_same (Same.new nl) nl⟩
    · refine ⟨false, T.nIA, (fun z => nomatch z), fun _ => ⟨true, T.eA.own, fun _ a na => ?_, fun z => nomatch z⟩⟩
      refine ⟨_, rfl, rfl, rfl, dd, _, v, rfl, hd, by rfl, v, z, rfl, sh, _, rfl, rfl, _, _, true, rfl, ⟨dd, _, rfl, hd⟩, fun _ r => r, T.eA.kP, _, rfl, rfl, _, _, true, rfl, ⟨dd, _, rfl, hd⟩, fun _ r => r, T.eA.kV, (by show 4 ≤ sizeLine; decide), fun l nl => ?_⟩
      exact ⟨_, rfl, q l _ upd_same (Same.new nl) nl⟩
end
end SP
namespace SP
open PySem PySem.Spec PyProof.Rows L2 LamX


section
variable {P : Program} {w : World} {K : PySem.W.Frag} {mg : Str → Option Value} {base : Heap} {C CI CE CP c1 P1 c2 P2 : Addr}
/-! ### the looks -/
theorem ok_ii {f : Addr} {fd : FuncData} (F : Fun K "is_integer" "is_integer" sIsInt f fd) (T : AmTxt K mg C) : FnOk P w K mg base CX0 1 f fd ["value"] (spII K) := by
  refine F.ok scII (fun vs H Q E h => ?_) (fun cdv A out s H vs Q E hr h => ?_)
  · obtain ⟨v, t, b1, b2, rfl, _⟩ := h
    rfl
  · obtain ⟨v, t, b1, b2, rfl, ty, k1, k2, q⟩ := h
    refine ⟨_, (pss_one (ps_ret (pe_and (pe_callB call_isi (by rfl) T.b_isinstance (by decide +kernel) (pa_cons (pv 0) (pa_cons (pe_bltn (v := .ty "int") (by rfl) T.b_int (by decide +kernel) rfl) pa_nil))) (pe_one (pe_not (pe_callB call_isi (by rfl) T.b_isinstance (by decide +kernel) (pa_cons (pv 0) (pa_cons (pe_bltn (v := .ty "bool") (by rfl) T.b_bool (by decide +kernel) rfl) pa_nil)))))))), ?_⟩
    refine ⟨_, rfl, v, .ty "int", t, _, b1, rfl, .ty _, ty, k1, b1, rfl, ?_⟩
    cases b1 with
    | true => exact iteT ⟨_, rfl, v, .ty "bool", t, _, b2, rfl, .ty _, ty, k2, b2, rfl, q⟩
    | false => exact iteF q
def spAm (K : PySem.W.Frag) (C : Addr) : Sp := fun vs H Q _ => ∃ (v : V) (t : Value) (b1 b2 b3 : Bool), vs = [v] ∧ TyX K H v t ∧ PySem.W.kitOne K t (.type "int") = some b1 ∧ PySem.W.kitOne K t (.type "bool") = some b2 ∧ PySem.W.kitOne K t (.ref C) = some b3 ∧ Q (.bl ((b1 && !b2) || b3)) H
theorem scAm : FnScope ["value"] ["value"] (defScope sIsAm) := ⟨rfl, rfl, rfl, by decide +kernel, rfl, by decide +kernel, by decide +kernel⟩
theorem ok_am {f : Addr} {fd : FuncData} (F : Fun K "is_amount" "is_amount" sIsAm f fd) (T : AmTxt K mg C) : FnOk P w K mg base CX0 2 f fd ["value"] (spAm K C) := by
  have DI := d_ii (P := P) (w := w) (base := base) T
  refine F.ok scAm (fun vs H Q E h => ?_) (fun cdv A out s H vs Q E hr h => ?_)
  · obtain ⟨v, t, b1, b2, b3, rfl, _⟩ := h
    rfl
  · obtain ⟨v, t, b1, b2, b3, rfl, ty, k1, k2, k3, q⟩ := h
    refine ⟨_, (pss_one (ps_ret (pe_or (pe_callO DI (hr.mono (by decide)) (pa_cons (pv 0) pa_nil)) (pe_one (pe_callB call_isi (by rfl) T.b_isinstance (by decide +kernel) (pa_cons (pv 0) (pa_cons (pe_glob (v := .ref C) (by rfl) T.gC rfl) pa_nil))))))), ?_⟩
    refine ⟨_, rfl, v, t, b1, b2, rfl, ty, k1, k2, _, rfl, ?_⟩
    cases e : (b1 && !b2) with
    | true =>
      rw [e, Bool.true_or] at q
      exact iteT q
    | false =>
      rw [e, Bool.false_or] at q
      exact iteF ⟨_, rfl, v, .ref C, t, .ref C, b3, rfl, .own C, ty, k3, q⟩
theorem d_am (T : LTxt K mg C CI CE CP c1 P1 c2 P2) : DefO P w K mg base 2 "is_amount" ["value"] (spAm K C) := let ⟨f, fd, hm, F, hb⟩ := T.tAm.ex; ⟨f, fd, hm, F.kp, ok_am F T.toAmTxt, hb⟩
section
variable {H : Hp} {Q : VK} {E : XK} {v : V}
theorem str_am (N : NotAm K C) {z : Str} : NoAm K C H (.str z) := ⟨_, false, false, .base (.str z), N.s, kit_ty (by decide +kernel), kit_ty (by decide +kernel), rfl⟩
/-- a list of bools that is shown -/
theorem bools_sh : ∀ bs : List Bool, PyData.showableAll (bs.map PyData.bool) = true ∧ PyData.hasDictAll (bs.map PyData.bool) = false ∧ PyData.depthAll (bs.map PyData.bool) ≤ 1
  | [] => ⟨by simp [PyData.showableAll], by simp [PyData.hasDictAll], by simp [PyData.depthAll]⟩
  | b :: r => by
    obtain ⟨h1, h2, h3⟩ := bools_sh r
    refine ⟨by simp [PyData.showableAll, PyData.showable, h1], by simp [PyData.hasDictAll, PyData.hasDict, h2], ?_⟩
    simp only [List.map_cons, PyData.depthAll, PyData.depth]
    omega
end
def spLooks (C : Addr) : Sp := fun vs H Q _ => ∃ (p a : Addr) (f : Int × Int), vs = [.ref p, .ref a] ∧ Pot H p ∧ AA C H a f ∧ ∀ H', Pot H' p → Kp p H H' → Q (.bl true) H'
theorem scLooks : FnScope ["_law_pot_here", "_law_made", "_law_odd_here", "_law_word_here", "_law_is_due", "_law_number", "_law_told_here", "_law_some", "_law_thing"] ["_law_pot_here", "_law_made"] (defScope sLooks) := ⟨rfl, rfl, rfl, by decide +kernel, rfl, by decide +kernel, by decide +kernel⟩
theorem d_looks (T : LTxt K mg C CI CE CP c1 P1 c2 P2) : DefG P w K mg base 5 "_law_looks_right" ["_law_pot_here", "_law_made"] (spLooks C) := by
  have DOdd := d_odd (P := P) (w := w) (base := base) T
  have DW := d_word (P := P) (w := w) (base := base) T
  have DD := d_draw (P := P) (w := w) (base := base) T.pot
  have DI := d_ii (P := P) (w := w) (base := base) T.toAmTxt
  have DAm := d_am (P := P) (w := w) (base := base) T
  have DNm := d_nmA (P := P) (w := w) (base := base) T.nm
  obtain ⟨fI, fdI, mI, FI, _⟩ := T.tII.ex
  obtain ⟨fA, fdA, mA, FA, _⟩ := T.tAm.ex
  obtain ⟨fN, fdN, mN, FN, _⟩ := T.nm.tNm.ex
  have kI : KBn K fdI ["value"] 0 ["value"] (fun us ws => us ++ ws) (fun vs zs => vs ++ zs) := fun_kbn FI fun _ _ _ _ _ _ us ws h1 h2 => match us, ws, h1, h2 with | [], [_], _, _ => rfl
  have kA : KBn K fdA ["value"] 0 ["value"] (fun us ws => us ++ ws) (fun vs zs => vs ++ zs) := fun_kbn FA fun _ _ _ _ _ _ us ws h1 h2 => match us, ws, h1, h2 with | [], [_], _, _ => rfl
  have kN : KBn K fdN ["value"] 0 ["value"] (fun us ws => us ++ ws) (fun vs zs => vs ++ zs) := fun_kbn FN fun _ _ _ _ _ _ us ws h1 h2 => match us, ws, h1, h2 with | [], [_], _, _ => rfl
  refine T.tLooks.ok scLooks (fun vs H Q E h => ?_) (fun f cdv A out s H vs Q E gd hr h => ?_)
  · obtain ⟨p, a, f, rfl, _⟩ := h
    rfl
  · obtain ⟨p, a, f, rfl, hp, ha, q⟩ := h
    refine ⟨_, (pss_cons (ps_set (i := 2) scLooks.nd rfl (Or.inl rfl) (pe_callD DOdd gd (hr.mono (by decide)) (pa_cons (pv 0) pa_nil)))
  (pss_cons (ps_asg (pe_callD DW gd (hr.mono (by decide)) (pa_cons (pv 0) pa_nil)) (pg_tup (by rfl) (pgs_cons (pg_name (i := 3) scLooks.nd rfl (Or.inl rfl)) (pgs_cons (pg_name (i := 4) scLooks.nd rfl (Or.inl rfl)) pgs_nil))))
  (pss_cons (ps_set (i := 5) scLooks.nd rfl (Or.inl rfl) (pe_op op_sub (pe_callD DD gd (hr.mono (by decide)) (pa_cons (pv 0) (pa_cons (pe_op op_pow pe_int pe_int) pa_nil))) (pe_op op_pow pe_int pe_int)))
  (pss_cons (ps_set (i := 6) scLooks.nd rfl (Or.inl rfl) (pe_lst (pa_cons (pe_callO DI (hr.mono (by decide)) (pa_cons (pv 2) pa_nil)) (pa_cons (pe_callO DI (hr.mono (by decide)) (pa_cons (pv 5) pa_nil)) (pa_cons (pe_callK0 (ok_ii FI T.toAmTxt) (hr.mono (by decide)) (by rfl) mI FI.kp kI pass0 (pk_cons (pv 1) pk_nil)) (pa_cons (pe_callO DI (hr.mono (by decide)) (pa_cons (pe_un un_neg (pv 5)) pa_nil)) (pa_cons (pe_callO DI (hr.mono (by decide)) (pa_cons pe_int pa_nil)) pa_nil)))))))
  (pss_cons (ps_if (pt_cmpR op_ne (pe_callB (call_reprD gd (hr.units)) (by rfl) T.b_repr (by decide +kernel) (pa_cons (pv 6) pa_nil)) (pe_callB (call_reprD gd (hr.units)) (by rfl) T.b_repr (by decide +kernel) (pa_cons (pe_lst (pa_cons pe_bl (pa_cons pe_bl (pa_cons pe_bl (pa_cons pe_bl (pa_cons pe_bl pa_nil)))))) pa_nil)) (nomark _)) (pss_one (ps_ret pe_bl)) pss_nil)
  (pss_cons (ps_set (i := 6) scLooks.nd rfl (Or.inl rfl) (pe_lst (pa_cons (pe_callO DAm (hr.mono (by decide)) (pa_cons (pv 2) pa_nil)) (pa_cons (pe_callO DAm (hr.mono (by decide)) (pa_cons (pv 5) pa_nil)) (pa_cons (pe_callO DAm (hr.mono (by decide)) (pa_cons (pv 1) pa_nil)) (pa_cons (pe_callK0 (ok_am FA T.toAmTxt) (hr.mono (by decide)) (by rfl) mA FA.kp kA pass0 (pk_cons pe_int pk_nil)) (pa_cons (pe_callO DAm (hr.mono (by decide)) (pa_cons (pv 3) pa_nil)) pa_nil)))))))
  (pss_cons (ps_if (pt_cmpR op_ne (pe_callB (call_reprD gd (hr.units)) (by rfl) T.b_repr (by decide +kernel) (pa_cons (pv 6) pa_nil)) (pe_callB (call_reprD gd (hr.units)) (by rfl) T.b_repr (by decide +kernel) (pa_cons (pe_lst (pa_cons pe_bl (pa_cons pe_bl (pa_cons pe_bl (pa_cons pe_bl (pa_cons pe_bl pa_nil)))))) pa_nil)) (nomark _)) (pss_one (ps_ret pe_bl)) pss_nil)
  (pss_cons (ps_set (i := 6) scLooks.nd rfl (Or.inl rfl) (pe_lst (pa_cons (pe_callO DNm (hr.mono (by decide)) (pa_cons (pv 3) pa_nil)) (pa_cons (pe_callK0 (ok_nm FN T.nm) (hr.mono (by decide)) (by rfl) mN FN.kp kN pass0 (pk_cons (pv 3) pk_nil)) (pa_cons (pe_callO DNm (hr.mono (by decide)) (pa_cons (pv 5) pa_nil)) (pa_cons (pe_callO DNm (hr.mono (by decide)) (pa_cons (pv 1) pa_nil)) (pa_cons (pe_callO DNm (hr.mono (by decide)) (pa_cons (pe_lst (pa_cons (pv 3) pa_nil)) pa_nil)) (pa_cons (pe_callO DNm (hr.mono (by decide)) (pa_cons (pe_tup (pa_cons (pv 3) pa_nil)) pa_nil)) pa_nil))))))))
  (pss_cons (ps_if (pt_cmpR op_ne (pe_callB (call_reprD gd (hr.units)) (by rfl) T.b_repr (by decide +kernel) (pa_cons (pv 6) pa_nil)) (pe_callB (call_reprD gd (hr.units)) (by rfl) T.b_repr (by decide +kernel) (pa_cons (pe_lst (pa_cons (pv 4) (pa_cons (pv 4) (pa_cons pe_bl (pa_cons pe_bl (pa_cons pe_bl (pa_cons pe_bl pa_nil))))))) pa_nil)) (nomark _)) (pss_one (ps_ret pe_bl)) pss_nil)
  (pss_cons (ps_set (i := 7) scLooks.nd rfl (Or.inl rfl) (pe_lst (pa_cons pe_non (pa_cons pe_bl (pa_cons pe_str (pa_cons pe_str (pa_cons pe_str (pa_cons pe_str (pa_cons (pe_lst (pa_cons pe_str pa_nil)) (pa_cons (pe_disp (pps_cons pe_str pe_int pps_nil) (by rfl) (by rfl) (fun z => by cases z) (by decide)) pa_nil))))))))))
  (pss_cons (ps_if (PW.pt (pw_or (pt_not (pt_val (pe_callO DNm (hr.mono (by decide)) (pa_cons pe_str pa_nil)))) (pw_or1 (pt_not (pt_val (pe_callO DNm (hr.mono (by decide)) (pa_cons pe_str pa_nil))))))) (pss_one (ps_ret pe_bl)) pss_nil)
  (pss_one (ps_ret (pe_not (pe_callB (cr_any rfl) (by rfl) T.b_any (by decide +kernel) (pa_cons (pe_lc (own := [("_law_thing", 8)]) (g := (gName 8)) (by rfl) scLooks.nd (pi_list (pv 7)) (blkOk_by (own := [("_law_thing", 8)]) (N := ["_law_pot_here", "_law_made", "_law_odd_here", "_law_word_here", "_law_is_due", "_law_number", "_law_told_here", "_law_some", "_law_thing"]) (sc := defScope sLooks) (by decide +kernel)) (fun _ _ _ _ _ => (pg_name (i := 8) scLooks.nd rfl (Or.inl rfl))) (fun _ _ _ _ _ => pts_nil) (fun _ _ _ _ _ => (pe_callO DNm (hr.mono (by decide)) (pa_cons (pv 8) pa_nil)))) pa_nil)))))))))))))))), ?_⟩
    refine ⟨_, rfl, p, rfl, hp, fun v d t H1 od p1 k1 => ⟨_, rfl, p, rfl, p1, fun tw z b H2 tt zl nz p2 k2 => ⟨tw, _, rfl, SqT.of tt, rfl, _, _, rfl, _, _, rfl, rfl, ?_⟩⟩⟩
    refine ⟨_, rfl, _, _, rfl, rfl, ⟨by decide, by decide, by decide⟩, p, _, rfl, p2, by decide, by decide, fun n H3 n0 n1 p3 k3 => ?_⟩
    refine ⟨_, _, rfl, rfl, ⟨by decide, by decide, by decide⟩, _, _, rfl, rfl, ?_⟩
    obtain ⟨x1, hx1⟩ := p1.lst
    obtain ⟨x2, hx2⟩ := p2.lst
    have od : Odd p H3 v d t := (od.kp hx1 k2).kp hx2 k3
    have ha3 : AmAt C H3 a f.1 f.2 := by
      obtain ⟨x0, hx0⟩ := hp.lst
      exact ha.1.kp ((k1.trans k2).trans k3) hx0
    obtain ⟨ty, kt⟩ := od.ty (K := K)
    obtain ⟨b1, b2, kk1, kk2, kk3⟩ := odd_kits (K := K) kt
    have kk0 : PySem.W.kitOne K (.type t) (.ref C) = some false := by
      rcases kt with rfl | rfl | rfl | rfl | rfl | rfl
      · exact T.na.n
      · exact T.na.b
      · exact T.na.s
      · exact T.na.t
      · exact T.na.l
      · exact T.na_d
    have kH := (k1.trans k2).trans k3
    clear hx1 hx2 k1 k2 k3
    refine ⟨_, rfl, v, _, b1, b2, rfl, ty, kk1, kk2, _, rfl, _, _, true, false, rfl, .base (.int _), kII, kIB, _, rfl, rfl, rfl, _, _, false, false, rfl, .base (T.toAmTxt.ty ha3), T.kCI, T.kCB, _, rfl, _, rfl, _, _, true, false, rfl, .base (.int _), kII, kIB, _, _, true, false, rfl, .base (.int 0), kII, kIB, (by show 5 ≤ sizeLine; decide), fun l nl => ?_⟩
    rw [kk3]
    obtain ⟨H4, e4, s4, a4⟩ := mko nl (.lst [.bl false, .bl true, .bl false, .bl true, .bl true])
    show gName 6 _ _ (upd H3 l (.lst [.bl false, .bl true, .bl false, .bl true, .bl true])) _
    rw [e4]
    refine ⟨_, rfl, l, .list ([false, true, false, true, true].map .bool), rfl, .lst (SqL.of a4) (dp_bools [false, true, false, true, true]), by decide +kernel, by decide +kernel, by decide +kernel, by decide +kernel, ?_⟩
    refine ⟨(by show 5 ≤ sizeLine; decide), fun l2 nl2 => ?_⟩
    refine ⟨l2, .list ([false, true, false, true, true].map .bool), rfl, .lst (SqL.of upd_same) (dp_bools [false, true, false, true, true]), by decide +kernel, by decide +kernel, by decide +kernel, by decide +kernel, ?_⟩
    obtain ⟨H5, e5, s5, a5⟩ := mko nl2 (.lst [.bl false, .bl true, .bl false, .bl true, .bl true])
    rw [e5]
    refine ⟨rfl, _, rfl, iteNS rfl ?_⟩
    have s45 := s4.trans s5
    have od5 := od.same s45
    have ha5 := ha3.same s45
    obtain ⟨ty5, _⟩ := od5.ty (K := K)
    have kH5 := kH.trans (Kp.of s45)
    have p5 := p3.same s45
    clear e4 e5 a4 a5 s4 s5 nl nl2 s45 od od5 ha3 ty kH p3
    refine ⟨_, rfl, v, _, b1, b2, false, rfl, ty5, kk1, kk2, kk0, _, rfl, _, _, true, false, false, rfl, .base (.int _), kII, kIB, T.na.i, _, rfl, _, _, false, false, true, rfl, .base (T.toAmTxt.ty ha5), T.kCI, T.kCB, kSelf, rfl, rfl, _, _, true, false, false, rfl, .base (.int 0), kII, kIB, T.na.i, _, rfl, .str z, .type "str", false, false, false, rfl, .base (.str z), kit_ty (by decide +kernel), kit_ty (by decide +kernel), T.na.s, (by show 5 ≤ sizeLine; decide), fun l nl => ?_⟩
    rw [kk3]
    obtain ⟨H6, e6, s6, a6⟩ := mko nl (.lst [.bl false, .bl true, .bl true, .bl true, .bl false])
    show gName 6 _ _ (upd H5 l (.lst [.bl false, .bl true, .bl true, .bl true, .bl false])) _
    rw [e6]
    refine ⟨_, rfl, l, .list ([false, true, true, true, false].map .bool), rfl, .lst (SqL.of a6) (dp_bools [false, true, true, true, false]), by decide +kernel, by decide +kernel, by decide +kernel, by decide +kernel, ?_⟩
    refine ⟨(by show 5 ≤ sizeLine; decide), fun l2 nl2 => ?_⟩
    refine ⟨l2, .list ([false, true, true, true, false].map .bool), rfl, .lst (SqL.of upd_same) (dp_bools [false, true, true, true, false]), by decide +kernel, by decide +kernel, by decide +kernel, by decide +kernel, ?_⟩
    obtain ⟨H7, e7, s7, a7⟩ := mko nl2 (.lst [.bl false, .bl true, .bl true, .bl true, .bl false])
    rw [e7]
    refine ⟨rfl, _, rfl, iteNS rfl ?_⟩
    have s57 := s6.trans s7
    have ha7 := ha5.same s57
    have kH7 := kH5.trans (Kp.of s57)
    have p7 := p5.same s57
    clear e6 e7 a6 a7 s6 s7 nl nl2 s57 ha5 kH5 p5 ty5
    have zz : z.length ≤ sizeLine := Nat.le_trans zl (by decide)
    have iS : PySem.W.kitOne K (.type "int") (.type "str") = some false := kit_ty (by decide +kernel)
    have lS : PySem.W.kitOne K (.type "list") (.type "str") = some false := kit_ty (by decide +kernel)
    have tS : PySem.W.kitOne K (.type "tuple") (.type "str") = some false := kit_ty (by decide +kernel)
    refine ⟨_, rfl, .inl ⟨z, rfl, zz, fun H8 s8 => ⟨_, rfl, rfl, rfl, z, rfl, zz, fun H9 s9 => ⟨_, rfl, .inr ⟨_, .type "int", rfl, .base (.int _), iS, ?_⟩⟩⟩⟩⟩
    have s89 := s8.trans s9
    have ha9 := ha7.same s89
    have kH9 := kH7.trans (Kp.of s89)
    have p9 := p7.same s89
    clear s8 s9 s89 ha7 kH7 p7
    rw [nz]
    refine ⟨_, rfl, .inr ⟨_, _, rfl, .base (T.toAmTxt.ty ha9), T.kCS, ?_⟩⟩
    refine ⟨_, rfl, (by show 1 ≤ sizeLine; decide), fun l nl => .inr ⟨_, .type "list", rfl, .base (.lst upd_same), lS, ?_⟩⟩
    obtain ⟨Ha, ea, sa, aa⟩ := mko nl (.lst [.str z])
    rw [ea]
    refine ⟨_, rfl, (by show 1 ≤ sizeLine; decide), fun t2 nt => .inr ⟨_, .type "tuple", rfl, .base (.tup upd_same), tS, ?_⟩⟩
    obtain ⟨Hb, eb, sb, ab⟩ := mko nt (.tup [.str z])
    rw [eb]
    refine ⟨(by show 6 ≤ sizeLine; decide), fun l3 n3 => ?_⟩
    obtain ⟨Hc, ec, sc, ac⟩ := mko n3 (.lst ([b, b, false, false, false, false].map V.bl))
    show gName 6 _ _ (upd Hb l3 (.lst ([b, b, false, false, false, false].map V.bl))) _
    rw [ec]
    obtain ⟨d0, g1, g2, g3, g4, g5⟩ : ∃ d0 : PyData, d0.showable = true ∧ d0.hasDict = false ∧ d0.depth ≤ 50 ∧ d0.shown.length ≤ sizeLine ∧ ∀ (H : Hp) (l : Addr), H l = some (.lst ([b, b, false, false, false, false].map V.bl)) → Dp K H (.ref l) d0 := by
      refine ⟨.list ([b, b, false, false, false, false].map .bool), ?_, ?_, ?_, ?_, fun H l e => .lst (SqL.of e) (dp_bools [b, b, false, false, false, false])⟩ <;> cases b <;> decide +kernel
    refine ⟨_, rfl, l3, d0, rfl, g5 _ _ ac, g1, g2, g3, g4, ?_⟩
    refine ⟨_, rfl, _, rfl, (by show 6 ≤ sizeLine; decide), fun l4 n4 => ?_⟩
    obtain ⟨Hd, ed, sd, ad⟩ := mko n4 (.lst ([b, b, false, false, false, false].map V.bl))
    have ed : upd Hc l4 (.lst [.bl b, .bl b, .bl false, .bl false, .bl false, .bl false]) = Hd := ed
    rw [ed]
    refine ⟨l4, d0, rfl, g5 _ _ ad, g1, g2, g3, g4, ?_⟩
    refine ⟨rfl, _, rfl, iteNS rfl ?_⟩
    have sad := ((sa.trans sb).trans sc).trans sd
    have kHd := kH9.trans (Kp.of sad)
    have pd := p9.same sad
    clear ea eb ec ed aa ab ac ad sa sb sc sd nl nt n3 n4 sad ha9 kH9 p9
    refine ⟨(by show 1 ≤ sizeLine; decide), fun m1 n1 => ?_⟩
    obtain ⟨J1, e1, s1, x1⟩ := mko n1 (.lst [.str "a"])
    rw [e1]
    refine fun m2 n2 => ?_
    obtain ⟨J2, e2, s2, x2⟩ := mko n2 (.dK [])
    rw [e2]
    refine ⟨x2, [(.inr "a", .int 1)], rfl, by decide, ?_⟩
    obtain ⟨J3, e3⟩ : ∃ J3, upd J2 m2 (.dK (mergeK [] [(Sum.inr "a", V.int 1)])) = J3 := ⟨_, rfl⟩
    have x3 : J3 m2 = some (.dK [(Sum.inr "a", V.int 1)]) := by
      rw [← e3, upd_same]
      rfl
    have n2 : J1 m2 = none := n2
    have s3 : Same J1 J3 := fun c o e => by
      rw [← e3, ← e2, upd_ne (ne_of_none e n2), upd_ne (ne_of_none e n2)]
      exact e
    rw [e3]
    refine ⟨(by show 8 ≤ sizeLine; decide), fun m4 n4 => ?_⟩
    obtain ⟨J4, e4, s4, x4⟩ := mko n4 (.lst [.non, .bl true, .str "", .str "abcdefghi", .str "aB", .str "a1", .ref m1, .ref m2])
    rw [e4]
    have nnA : ∀ x ∈ ([.non, .bl true, .str "", .str "abcdefghi", .str "aB", .str "a1", .ref m1, .ref m2] : List V), (∃ z : Str, x = .str z ∧ z.length ≤ sizeLine ∧ nameOk z = false) ∨ ∃ t : String, TyOf K J4 x (.type t) ∧ PySem.W.kitOne K (.type t) (.type "str") = some false := by
      intro x hx
      simp only [List.mem_cons, List.not_mem_nil, or_false] at hx
      rcases hx with rfl | rfl | rfl | rfl | rfl | rfl | rfl | rfl
      · exact .inr ⟨_, .non, kit_ty (by decide +kernel)⟩
      · exact .inr ⟨_, .bl _, kit_ty (by decide +kernel)⟩
      · exact .inl ⟨_, rfl, by decide +kernel, by decide +kernel⟩
      · exact .inl ⟨_, rfl, by decide +kernel, by decide +kernel⟩
      · exact .inl ⟨_, rfl, by decide +kernel, by decide +kernel⟩
      · exact .inl ⟨_, rfl, by decide +kernel, by decide +kernel⟩
      · exact .inr ⟨_, .lst (s4 _ _ (s3 _ _ x1)), lS⟩
      · exact .inr ⟨_, .dK (s4 _ _ x3), kit_ty (by decide +kernel)⟩
    have sJ := (s1.trans s3).trans s4
    have kJ := kHd.trans (Kp.of sJ)
    have pJ := pd.same sJ
    have m4p : m4 ≠ p := fun e => by
      obtain ⟨c0, c1, c2, _⟩ := pd.same (s1.trans s3)
      rw [e, c2] at n4
      cases n4
    have len : ([.non, .bl true, .str "", .str "abcdefghi", .str "aB", .str "a1", .ref m1, .ref m2] : List V).length = 8 := rfl
    clear e1 e2 e3 e4 x1 x2 x3 s1 s2 s3 s4 n1 n2 n4 sJ kHd pd
    generalize [V.non, .bl true, .str "", .str "abcdefghi", .str "aB", .str "a1", .ref m1, .ref m2] = xs at *
    refine .inl ⟨"a", rfl, by decide, fun J5 s5 => ⟨true, rfl, iteF ?_⟩⟩
    refine .inl ⟨"abcdefgh", rfl, by decide, fun J6 s6 => ⟨true, rfl, iteF ?_⟩⟩
    have s56 := s5.trans s6
    refine ⟨_, rfl, m4, rfl, ⟨_, SqL.of (s56 _ _ x4)⟩, fun D nD => ?_⟩
    refine lc_it (walk_list (xs := xs)) (fun i H' => i ≤ 8 ∧ Same J6 H' ∧ H' D = some (.lst (List.replicate i (.bl false)))) ⟨by decide, Same.new nD, upd_same⟩ (fun i H' _ k => SqL.of (k.2.1 _ _ (s56 _ _ x4))) (fun i x H' H'' hi k y => ?_) (fun H' k => ?_)
    · obtain ⟨rfl, hx⟩ := y
      refine ⟨rfl, yes_t ⟨_, rfl, ?_⟩⟩
      have fin : ∀ Hz : Hp, Same H'' Hz → ∃ acc, Hz D = some (.lst acc) ∧ acc.length < sizeLine ∧ i + 1 ≤ 8 ∧ Same J6 (upd Hz D (.lst (acc ++ [V.bl false]))) ∧ upd Hz D (.lst (acc ++ [V.bl false])) D = some (.lst (List.replicate (i + 1) (.bl false))) := fun Hz st => ⟨_, st _ _ k.2.2, by rw [List.length_replicate]; exact Nat.lt_of_lt_of_le hi (by rw [len]; decide), by omega, Same.put (k.2.1.trans st) nD, by rw [upd_same, rep_add]⟩
      rcases nnA x (List.mem_of_getElem? hx) with ⟨z, rfl, h1, h2⟩ | ⟨t, h1, h2⟩
      · refine .inl ⟨z, rfl, h1, fun Hz st => ?_⟩
        rw [h2]
        exact fin Hz st
      · exact .inr ⟨x, _, rfl, .base (tyOf_same h1 (s56.trans k.2.1)), h2, fin H'' (Same.refl _)⟩
    · refine ⟨D, List.replicate 8 false, rfl, SqL.of ?_, ?_⟩
      · rw [k.2.2, len]
        rfl
      · exact ⟨false, rfl, q H' (pJ.same (s56.trans k.2.1)) (kJ.trans (Kp.of (s56.trans k.2.1)))⟩
end
end SP
/-! Amount.sum_of, refused. -/
namespace SP
open PySem PySem.Spec PyProof.Rows L2


section
variable {P : Program} {w : World} {K : PySem.W.Frag} {mg : Str → Option Value} {base : Heap} {C CE : Addr}
theorem rn_or {X : Cx} {f : Addr} {sp1 sp2 : Sp} {dvs : List V} {E : XK} (R1 : Rn X f sp1 dvs E0) (R2 : Rn X f sp2 dvs E) : Rn X f (fun vs H Q E' => sp1 vs H Q E0 ∨ sp2 vs H Q E') dvs E := fun pins σ H s Q us vs I r h => h.elim (R1 pins σ H s Q us vs I r) (R2 pins σ H s Q us vs I r)
theorem ok_ofX {f : Addr} {fd : FuncData} (F : Fun K "amount_of" "amount_of" sOf f fd) (T : AmTxt K mg C) (R : ErrOk P w K mg base "InvalidAmount" CE (Str.ofString "value")) : FnOk P w K mg base (L2.CX P w) 4 f fd ["value"] (spOfR K C CE) := by
  have DI := d_ii (P := P) (w := w) (base := base) T
  refine F.okX scOf (fun vs H Q E h => ?_) (fun cdv A out s H vs Q E hr h => ?_)
  · obtain ⟨v, rfl, _⟩ := h
    rfl
  · obtain ⟨v, rfl, ⟨t, b1, b2, ty, kC, k1, k2, no⟩, q⟩ := h
    have TK : Takes (cxOf (L2.CX P w) P w K mg base ["value"] "amount_of" (defScope sOf) f cdv A out s H E) (fun cls d _ H => E cls d H) := takes_of rfl rfl rfl rfl
    refine ⟨_, (pss_cons (ps_if (pt_val (pe_callB call_isi (by rfl) T.b_isinstance (by decide +kernel) (pa_cons (pv 0) (pa_cons (pe_glob (v := .ref C) (by rfl) T.gC rfl) pa_nil)))) (pss_one (ps_ret (pv 0))) pss_nil)
  (pss_cons (ps_if (pt_not (pt_val (pe_callO DI (hr.mono (by decide)) (pa_cons (pv 0) pa_nil)))) (pss_one (ps_err R (hr.mono (by decide)) rfl TK (pa_cons (pv 0) pa_nil))) pss_nil)
  (pss_one (ps_ret (pe_callC (rn_amount1 T (hr.mono (by decide))) T.gC (kpC T) (pa_cons (pv 0) pa_nil)))))), ?_⟩
    refine ⟨_, rfl, v, .ref C, t, .ref C, false, rfl, .own C, ty, kC, false, rfl, iteF ?_⟩
    refine ⟨_, rfl, v, t, b1, b2, rfl, ty, k1, k2, ?_⟩
    rw [no]
    exact ⟨false, rfl, iteT ⟨_, rfl, _, rfl, q⟩⟩
theorem NoAm.same {H H' : Hp} {v : V} (h : NoAm K C H v) (s : Same H H') : NoAm K C H' v := let ⟨t, b1, b2, ty, r⟩ := h; ⟨t, b1, b2, tyX_same ty s, r⟩
theorem at_mid {α : Type} {pre post : List α} {v x : α} {i : Nat} (h : (pre ++ v :: post)[i]? = some x) (hi : i ≤ pre.length) : (i < pre.length ∧ pre[i]? = some x) ∨ (i = pre.length ∧ x = v) := by
  by_cases h1 : i < pre.length
  · rw [List.getElem?_append_left h1] at h
    exact .inl ⟨h1, h⟩
  · have e : i = pre.length := by omega
    subst e
    rw [List.getElem?_append_right (Nat.le_refl _), Nat.sub_self] at h
    exact .inr ⟨rfl, by simpa using h.symm⟩
/-- sum_of(pre .., v, ..): v is no amount -/
def spSumR0 (K : PySem.W.Frag) (C CE : Addr) : Sp := fun vs H _ E => ∃ (p : Addr) (pre post : List V) (v : V) (fs : List (Int × Int)) (n : Nat), vs = [.ref C, .ref p] ∧ H p = some (.tup (pre ++ v :: post)) ∧ AVs C H n pre fs ∧ (n + 1) * (pre.length + 1) ≤ 2900 ∧ NoAm K C H v ∧ ∀ H', Same H H' → Refused CE H' E v
def spSumR (K : PySem.W.Frag) (C CE : Addr) : Sp := fun vs H _ E => ∃ (pre post : List V) (v : V) (fs : List (Int × Int)) (n : Nat), vs = .ref C :: (pre ++ v :: post) ∧ (pre ++ v :: post).length ≤ 2900 ∧ AVs C H n pre fs ∧ (n + 1) * (pre.length + 1) ≤ 2900 ∧ NoAm K C H v ∧ ∀ H', Same H H' → Refused CE H' E v
theorem d_sumR (T : AmTxt K mg C) (O : AmOps K mg C) (R : ErrOk P w K mg base "InvalidAmount" CE (Str.ofString "value")) {g : Addr} {fd : FuncData} (F : Fun K "sum_of" "Amount.sum_of" sMSum g fd) : FnR P w K mg base (L2.CX P w) 6 g (spSumR K C CE) := by
  obtain ⟨oc, od, kV, doc, pm, an, cdv, ct, osl, rfl, lk, hcd⟩ := F.ex
  refine FnR.imp (StX.fn_star (k := 5) (ps := ["cls"]) (pv := "amounts") (sp := spSumR0 K C CE) lk hcd scSum StX.cxUp (StX.bind_star1 (B := fun us => bindArgs (PySem.W.fnOf "sum_of" "Amount.sum_of" (defArgs sMSum) (defBody sMSum) (defScope sMSum) .none kV doc pm an cdv ct) ⟨us, []⟩) (fun _ => rfl) (fun _ _ _ => rfl)) fun A out s H vs Q E hr h => ?_) fun vs H Q E h => ?_
  · obtain ⟨p, pre, post, v, fs, n, rfl, hp, hv, hn, no, q⟩ := h
    have TK : Takes (cxOf (L2.CX P w) P w K mg base ["cls", "amounts", "found", "amount"] "Amount.sum_of" (defScope sMSum) g cdv A out s H E) (fun cls d _ H => E cls d H) := takes_of rfl rfl rfl rfl
    obtain ⟨fO, fdO, mO, FO, bO⟩ := O.tOf.ex
    have RO := rn_or (X := cxOf (L2.CX P w) P w K mg base ["cls", "amounts", "found", "amount"] "Amount.sum_of" (defScope sMSum) g cdv A out s H E) (rn_of (ok_of FO T) (hr.mono (by decide)) bO .nil pass0) (rn_of (ok_ofX FO T R) (hr.mono (by decide)) bO .nil (pass_of TK))
    refine ⟨_, (pss_cons (ps_set (i := 2) scSum.nd rfl (Or.inl rfl) (pe_callV (rn_amount1 T (hr.mono (by decide))) (i := 0) rfl (by first | exact Or.inl rfl | exact Or.inr rfl) (kpC T) (pa_cons pe_int pa_nil)))
  (pss_cons (ps_for (passes_of rfl) rfl (pi_tup (pv 1)) (pg_name (i := 3) scSum.nd rfl (Or.inl rfl)) (pss_one (ps_set (i := 2) scSum.nd rfl (Or.inl rfl) (pe_op (op_addS T O (hr.mono (by decide))) (pv 2) (pe_callC RO mO FO.kp (pa_cons (pv 3) pa_nil))))))
  (pss_one (ps_ret (pv 2))))), ?_⟩
    refine ⟨rfl, 0, 1, rfl, by decide, by decide +kernel, by decide +kernel, fun x t b H1 lw am s1 n1 => ?_⟩
    obtain ⟨rfl, rfl⟩ := lw.uniq (low_self (by decide) (gcd_one 0)) (by decide)
    have le := hv.len
    refine ⟨_, rfl, p, rfl, ⟨_, SqT.of (s1 _ _ hp)⟩, ?_⟩
    refine for_it (walk_tup (xs := pre ++ v :: post)) (fun i σ H' => i ≤ pre.length ∧ Same H H' ∧ ∃ (r : Addr) (o3 : Option V), σ = [some (.ref C), some (.ref p), some (.ref r), o3] ∧ AA C H' r (sumL (0, 1) (fs.take i)) ∧ Bd ((n + 1) * i + 1) (sumL (0, 1) (fs.take i)))
      ⟨Nat.zero_le _, s1, x, _, rfl, ⟨am, (by show (0 : Int) < 1; decide), gcd_one 0⟩, (by show (0 : Int).natAbs < 2 ^ ((n + 1) * 0 + 1); rw [Nat.mul_zero]; decide), (by show (1 : Int).natAbs < 2 ^ ((n + 1) * 0 + 1); rw [Nat.mul_zero]; decide)⟩ (fun i σ H' _ k => SqT.of (k.2.1 _ _ hp)) (fun i v' σ H' H'' hi k y => ?_) (fun σ H' k => ?_)
    · obtain ⟨li, s2, r, o3, rfl, ha, hb⟩ := k
      obtain ⟨rfl, hx⟩ := y
      rcases at_mid hx li with ⟨li2, hx⟩ | ⟨rfl, rfl⟩
      · obtain ⟨f, hf, av, bf⟩ := (hv.same s2).at hx
        have c1 : (n + 1) * (i + 1) + 1 ≤ 2901 := by
          have := low_ge (a := i + 1) (b := pre.length + 1) (c := n + 1) (by omega) (by rw [Nat.mul_comm]; exact hn)
          rw [Nat.mul_comm] at this
          omega
        have c2 : (n + 1) * i + 1 + n + 1 = (n + 1) * (i + 1) + 1 := by
          rw [Nat.mul_add]
          omega
        have b1 := hb.mono (show (n + 1) * i + 1 ≤ 3000 by omega)
        have b2 := bf.mono (show n ≤ 3000 by omega)
        have e8 : (2 : Nat) ^ 3000 ≤ 2 ^ 8000 := Nat.pow_le_pow_right (by decide) (by decide)
        refine ⟨_, rfl, _, rfl, .inl ⟨v', f.1, f.2, rfl, av, Nat.lt_of_lt_of_le b2.1 e8, fun m H2 am2 s3 => ?_⟩⟩
        have ha2 := ha.same s3
        refine ⟨r, m, _, _, f.1, f.2, rfl, rfl, ha2.1, ha2.2.2, am2, av.cop.2, b1.1, b1.2, b2.1, b2.2, fun z t d H3 lw a3 s4 => ?_⟩
        have ne : (sumL (0, 1) (fs.take i)).2 * f.2 ≠ 0 := Int.mul_ne_zero (by have := ha.2.1; omega) (by have := av.cop.1; omega)
        have pb := plus_Bd hb bf ha.2 av.cop
        rw [c2] at pb
        refine ⟨by omega, (s2.trans s3).trans s4, z, _, rfl, ?_, ?_⟩
        · rw [sumL_take hf]
          exact AA.of lw ne a3
        · rw [sumL_take hf]
          exact pb.1
      · exact ⟨_, rfl, _, rfl, .inr ⟨v', rfl, no.same s2, q _ s2⟩⟩
    · obtain ⟨li, _⟩ := k
      rw [List.length_append, List.length_cons] at li
      omega
  · obtain ⟨pre, post, v, fs, n, rfl, hl, hv, hn, no, q⟩ := h
    refine ⟨[.ref C], pre ++ v :: post, rfl, rfl, Nat.le_trans hl (by decide), fun p hp => ⟨p, pre, post, v, fs, n, rfl, upd_same, hv.same (Same.new hp), hn, no.same (Same.new hp), fun H' s => q H' ((Same.new hp).trans s)⟩⟩
/-- a.over(v), refused -/
def spOverX (K : PySem.W.Frag) (C CE : Addr) : Sp := fun vs H Q E => spOverR K C CE vs H Q E ∨ spOver0 C CE vs H Q E
theorem ok_overX {f : Addr} {fd : FuncData} (F : Fun K "over" "Amount.over" sMOver f fd) (T : AmTxt K mg C) (O : AmOps K mg C) (R : ErrOk P w K mg base "InvalidAmount" CE (Str.ofString "value")) : FnOk P w K mg base (L2.CX P w) 5 f fd ["self", "other"] (spOverX K C CE) := by
  refine F.okX scOver (fun vs H Q E h => ?_) (fun cdv A out s H vs Q E hr h => ?_)
  · rcases h with ⟨z, v, rfl, _⟩ | ⟨z, v, b, rfl, _⟩ <;> rfl
  · have TK : Takes (cxOf (L2.CX P w) P w K mg base ["self", "other", "divisor"] "Amount.over" (defScope sMOver) f cdv A out s H E) (fun cls d _ H => E cls d H) := takes_of rfl rfl rfl rfl
    obtain ⟨fO, fdO, mO, FO, bO⟩ := O.tOf.ex
    have RO := rn_or (X := cxOf (L2.CX P w) P w K mg base ["self", "other", "divisor"] "Amount.over" (defScope sMOver) f cdv A out s H E) (rn_of (ok_of FO T) (hr.mono (by decide)) bO .nil pass0) (rn_of (ok_ofX FO T R) (hr.mono (by decide)) bO .nil (pass_of TK))
    refine ⟨_, (pss_cons (ps_set (i := 2) scOver.nd rfl (Or.inl rfl) (pe_callC RO mO FO.kp (pa_cons (pv 1) pa_nil)))
  (pss_cons (ps_if (pt_cmpR op_eq (pe_fld (pv 2) rfl) pe_int (nomark _)) (pss_one (ps_err R (hr.mono (by decide)) rfl TK (pa_cons (pv 1) pa_nil))) pss_nil)
  (pss_one (ps_ret (pe_callC (rn_amount T (hr.mono (by decide))) T.gC (kpC T) (pa_cons (pe_op op_mulW (pe_fld (pv 0) rfl) (pe_fld (pv 2) rfl)) (pa_cons (pe_op op_mulW (pe_fld (pv 0) rfl) (pe_fld (pv 2) rfl)) pa_nil))))))), ?_⟩
    rcases h with ⟨z, v, rfl, no, q⟩ | ⟨z, v, b, rfl, h2, q⟩
    · exact ⟨_, rfl, .inr ⟨v, rfl, no, q⟩⟩
    · refine ⟨_, rfl, .inl ⟨v, 0, b, rfl, h2, by decide +kernel, fun m H1 am s1 => ?_⟩⟩
      obtain ⟨z2, d2, p2, e2, g2⟩ := id am
      refine ⟨_, rfl, m, C, d2, _, _, rfl, e2, T.cl, T.nT, am_top _ _ _, rfl, _, rfl, ?_⟩
      rw [decide_eq_true (show V.int 0 = V.int 0 from rfl)]
      exact iteT ⟨_, rfl, _, rfl, q H1 s1⟩
/-- Amount(bottom=.., top=..), refused -/
def tAmKR (K : PySem.W.Frag) (C CI : Addr) (E : XK) (tb tt : TE) : TE := tMakeK C 0 2 (spInitR K CI) (fun vs zs => vs ++ (zs.drop 1 ++ zs.take 1)) E tNil (tCons tb (tCons tt tNil))
theorem pe_amountKR {X : Cx} {CI : Addr} {E : XK} {eb et : Expr} {tb tt : TE} {p pos k1 k2 : Pos} (T : AmTxt X.K X.mg C) (R : ErrOk X.prog X.w X.K X.mg X.base "InvalidInteger" CI (Str.ofString "value")) (tk : Takes X (fun cls d _ H => E cls d H)) (hr : Room 4 X.A) (hb : PE X eb tb) (ht : PE X et tt) (hg : Gl X "Amount" := by rfl) :
    PE X (.Call (.Name "Amount" p) [] [⟨some "bottom", eb, k1⟩, ⟨some "top", et, k2⟩] pos) (tAmKR X.K C CI E tb tt) := by
  obtain ⟨fI, fd, mkC, F⟩ := T.mkC
  obtain ⟨its, hb'⟩ := F.kbindsD (ps := ["self", "top", "bottom"]) 1 ["bottom", "top"] (fun us _ ws => us ++ (ws.drop 1 ++ ws.take 1)) (by simp) (fun r1 _ r3 => r1.append ((r3.drop 1).append (r3.take 1))) (fun Tp kV doc pm an cdv ct us its ws h1 h2 h3 => match us, its, ws, h1, h2, h3 with | [_], [_], [_, _], _, _, _ => ⟨_, rfl, rfl⟩)
  exact pe_makeK0 mkC (ok_initR (P := X.prog) (w := X.w) (base := X.base) F T R) hr hg T.gC hb' (pass_of tk) (pk_cons hb (pk_cons ht pk_nil))
end
end SP
namespace SP
open PySem PySem.Spec PyProof.Rows L2 LamX


section
variable {P : Program} {w : World} {K : PySem.W.Frag} {mg : Str → Option Value} {base : Heap} {C CI CE CP c1 P1 c2 P2 : Addr}
/-! ### refusals, told and due -/
/-- all but the object at p and the tables are kept -/
def KpN (p : Addr) (H H' : Hp) : Prop := ∀ b o, H b = some o → b ≠ p → (∀ ps, o ≠ .tbl ps) → H' b = some o
theorem KpN.of {p : Addr} {H H' : Hp} (k : Kp p H H') : KpN p H H' := fun b o e n _ => k b o e n
theorem KpN.trans {p : Addr} {H H1 H2 : Hp} (a : KpN p H H1) (b : KpN p H1 H2) : KpN p H H2 := fun c o e n t => b c o (a c o e n t) n t
theorem KpN.ext {p : Addr} {H H1 H2 : Hp} (a : KpN p H H1) (b : ExtN H1 H2) : KpN p H H2 := fun c o e n t => b c o (a c o e n t) t
theorem Pot.ext {H H' : Hp} {p : Addr} (h : Pot H p) (x : ExtN H H') : Pot H' p := let ⟨a, b, e, q⟩ := h; ⟨a, b, x _ _ e (fun _ z => nomatch z), q⟩
theorem AmAt.ext {H H' : Hp} {a : Addr} {t b : Int} (h : AmAt C H a t b) (x : ExtN H H') : AmAt C H' a t b := let ⟨z, dx, pl, h1, h2⟩ := h; ⟨z, dx, pl, x _ _ h1 (fun _ z => nomatch z), x _ _ h2 (fun _ z => nomatch z)⟩
theorem AA.ext {H H' : Hp} {a : Addr} {f : Int × Int} (h : AA C H a f) (x : ExtN H H') : AA C H' a f := ⟨h.1.ext x, h.2⟩
/-- a thing that shows as z -/
inductive Th (p C : Addr) (H : Hp) : V → Str → Prop
  | odd {v : V} {d : PyData} {t : String} : Odd p H v d t → Th p C H v d.shown
  | am {a : Addr} {t b : Int} : AmAt C H a t b → t.natAbs < 2 ^ 1900 → b.natAbs < 2 ^ 1900 → Th p C H (.ref a) (rTxt t b)
  | zero : Th p C H (.int 0) (PyData.int 0).shown
theorem Th.ext {p : Addr} {H H' : Hp} {v : V} {z : Str} (h : Th p C H v z) (x : ExtN H H') : Th p C H' v z := by
  cases h with
  | odd o => exact .odd (o.ext x)
  | am a h1 h2 => exact .am (a.ext x) h1 h2
  | zero => exact .zero
theorem Th.sh {p : Addr} {H : Hp} {v : V} {z : Str} (h : Th p C H v z) : Sh K C H v z := by
  cases h with
  | odd o => exact .inl ⟨_, (o.rp (K := K)).1, (o.rp (K := K)).2, rfl⟩
  | am a h1 h2 => exact .inr ⟨_, _, _, rfl, a, h1, h2, rfl⟩
  | zero => exact .inl ⟨.int 0, .inl ⟨.int 0, by decide +kernel⟩, ⟨by decide +kernel, by decide +kernel, by decide +kernel, by decide +kernel⟩, rfl⟩
theorem Th.sh' {p : Addr} {H H' : Hp} {v : V} {z : Str} (h : Th p C H v z) (s : Same H H') : Sh K C H' v z := (h.ext (ext_same s)).sh
theorem ttd_gen {tl : XK → Hp → VK → Prop} {H : Hp} {Q : VK} {CC p : Addr} {k z : Str} (kind : (CC = CI ∧ k = "integer") ∨ (CC = CE ∧ k = "amount"))
    (run : ∀ (E : XK) (H0 : Hp) (Qd : VK), Same H H0 → (∀ (v : V) (Hz : Hp), Same H0 Hz → Th p C Hz v z → Refused CC Hz E v) → tl E H0 Qd) (q : ∀ (l : Addr) (H2 : Hp), H2 l = some (.lst [.str k, .str z, .bl true, .bl true]) → Same H H2 → H l = none → Q (.ref l) H2) : TTd K C CI CE tl H Q := by
  intro Qd l0 n0
  refine run _ _ _ (Same.new n0) fun v Hz sz th d nd => ?_
  have s1 : Same Hz (upd Hz d (.xd [(Str.ofString "value", v)])) := Same.new nd
  have s2 : Same H (upd Hz d (.xd [(Str.ofString "value", v)])) := ((Same.new n0).trans sz).trans s1
  exact ⟨CC, d, v, z, k, rfl, rfl, upd_same, kind, th.sh' s1, fun l H'' e s nl => q l H'' e (s2.trans s) (s2.free nl)⟩
theorem ttd_of {tl : XK → Hp → VK → Prop} {H : Hp} {Q : VK} {CC p : Addr} {k z : Str} {v : V} (kind : (CC = CI ∧ k = "integer") ∨ (CC = CE ∧ k = "amount")) (th : Th p C H v z)
    (run : ∀ (E : XK) (H0 : Hp) (Qd : VK), Same H H0 → (∀ Hz, Same H0 Hz → Refused CC Hz E v) → tl E H0 Qd) (q : ∀ (l : Addr) (H2 : Hp), H2 l = some (.lst [.str k, .str z, .bl true, .bl true]) → Same H H2 → H l = none → Q (.ref l) H2) : TTd K C CI CE tl H Q :=
  ttd_gen kind (fun E H0 Qd s0 rf => run E H0 Qd s0 fun Hz sz => rf v Hz sz (th.ext (ext_same (s0.trans sz)))) q
def tld (k z : Str) : PyData := .list [.str k, .str z, .bool true, .bool true]
theorem dp_tld {H : Hp} {l : Addr} {k z : Str} (e : H l = some (.lst [.str k, .str z, .bl true, .bl true])) : Dp K H (.ref l) (tld k z) := .lst (SqL.of e) (.cons (.str k) (.cons (.str z) (.cons (.bl true) (.cons (.bl true) .nil))))
theorem eqv_tld {k z : Str} : PyData.eqv (tld k z) (tld k z) = true := by simp [tld, PyData.eqv, PyData.eqvAll]
theorem Th.ok {p : Addr} {H : Hp} {v : V} {z : Str} (h : Th p C H v z) : PyData.strOk z = true := by
  cases h with
  | odd o => exact (o.rp (K := ([] : PySem.W.Frag))).2.2.2.2
  | am a h1 h2 => exact strOk_app (strOk_app (strOk_app (strOk_app (strOk_app (by decide +kernel) (by decide +kernel)) (strOk_of _)) (by decide +kernel)) (strOk_of _)) (by decide +kernel)
  | zero => decide +kernel
theorem shp_tld {k z : Str} (hk : PyData.strOk k = true) (hz : PyData.strOk z = true) : SeqAt.shaped (tld k z) = true := by simp [tld, SeqAt.shaped, PyData.canLay0, PyData.canLayAll0, hk, hz, PyData.depth, PyData.depthAll]
theorem ite_tld {k z : Str} {A B : Prop} (h : B) : if (!PyData.eqv (tld k z) (tld k z)) = true then A else B := by
  rw [eqv_tld]
  exact h
theorem noI_am (T : LTxt K mg C CI CE CP c1 P1 c2 P2) {H : Hp} {a : Addr} {t b : Int} (h : AmAt C H a t b) : NoI K H (.ref a) := ⟨_, false, false, .base (T.toAmTxt.ty h), T.kCI, T.kCB, rfl⟩
theorem same_ins {H : Hp} {x dx : Addr} (nx : H x = none) (nd : H dx = none) : Same H (upd (upd H dx (.own x)) x (.ins C dx [])) := fun b o e => by
  rw [upd_ne (ne_of_none e nx), upd_ne (ne_of_none e nd)]
  exact e
def spParts (C : Addr) (TS : List (Addr × Str)) : Sp := fun vs H Q _ => ∃ (p a : Addr) (f : Int × Int), vs = [.ref p, .ref a] ∧ Pot H p ∧ AA C H a f ∧ Bd 50 f ∧ Tabs TS H ∧ ∀ H', Pot H' p → Tabs TS H' → KpN p H H' → Q (.bl true) H'
theorem scParts : FnScope ["_law_pot_here", "_law_made", "_law_odd_here", "_law_more", "_law_number"] ["_law_pot_here", "_law_made"] (defScope sParts) := ⟨rfl, rfl, rfl, by decide +kernel, rfl, by decide +kernel, by decide +kernel⟩
theorem d_parts (T : LTxt K mg C CI CE CP c1 P1 c2 P2) (RI : ErrOk P w K mg base "InvalidInteger" CI (Str.ofString "value")) (TB : TabB base mg c1 P1) {TS : List (Addr × Str)} (hmT : (P1, ("_law_parts_right.<locals>.<lambda>" : Str)) ∈ TS) (huT : ∀ y ∈ TS, y.1 = P1 → y.2 = ("_law_parts_right.<locals>.<lambda>" : Str)) :
    DefG P w K mg base 11 "_law_parts_right" ["_law_pot_here", "_law_made"] (spParts C TS) := by
  have DOdd := d_odd (P := P) (w := w) (base := base) T
  have DD := d_draw (P := P) (w := w) (base := base) T.pot
  have DDue := d_due (P := P) (w := w) (base := base) T
  refine T.tParts.ok scParts (fun vs H Q E h => ?_) (fun f A out s H vs Q E gd hr h => ?_)
  · obtain ⟨p, a, f, rfl, _⟩ := h
    rfl
  · obtain ⟨p, a, fr, rfl, hp, ha, bf, tb, q⟩ := h
    refine ⟨_, (pss_cons (ps_asg (pe_tup (pa_cons (pe_callD DOdd gd (hr.mono (by decide)) (pa_cons (pv 0) pa_nil)) (pa_cons (pe_callD DOdd gd (hr.mono (by decide)) (pa_cons (pv 0) pa_nil)) pa_nil))) (pg_tup (by rfl) (pgs_cons (pg_name (i := 2) scParts.nd rfl (Or.inr rfl)) (pgs_cons (pg_name (i := 3) scParts.nd rfl (Or.inr rfl)) pgs_nil))))
  (pss_cons (ps_set (i := 4) scParts.nd rfl (Or.inr rfl) (pe_op op_add pe_int (pe_callD DD gd (hr.mono (by decide)) (pa_cons (pv 0) (pa_cons pe_int pa_nil)))))
  (pss_cons (ps_if (pt_cmpR (op_neD (hr.units)) (pe_lamT (X := (cxOf CX0 P w K mg base ["_law_pot_here", "_law_made", "_law_odd_here", "_law_more", "_law_number"] "_law_parts_right" (defScope sParts) f (.ref c1) A out s H E).nox) (T := TS) (TT := TTd K C CI CE) T.tTold scTold rfl (.inl rfl) (fun g cdv hrr => told_gv (X := (cxOf CX0 P w K mg base ["_law_pot_here", "_law_made", "_law_odd_here", "_law_more", "_law_number"] "_law_parts_right" (defScope sParts) f (.ref c1) A out s H E).nox) T gd fun s => (hrr s).mono (by decide)) TB hmT huT hr (fun A' out' s' H' E' f' c' hr2 eg => pe_callC (show Rn _ C (spMakeR K CI) [] E' from (rn_amountR (X := lamCx (cxOf CX0 P w K mg base ["_law_pot_here", "_law_made", "_law_odd_here", "_law_more", "_law_number"] "_law_parts_right" (defScope sParts) f (.ref c1) A out s H E).nox A' out' s' H' E' _ f' c') T.toAmTxt RI takes_lam (hr2.mono (by decide))).1) T.gC (kpC T.toAmTxt) (pa_cons (pv 2) (pa_cons (pv 3) pa_nil))) (L := lamS_by (sc := defScope sParts) (by decide +kernel))) (pe_callD DDue gd (hr.mono (by decide)) (pa_cons pe_str (pa_cons (pv 2) pa_nil))) (nomark _)) (pss_one (ps_ret pe_bl)) pss_nil)
  (pss_cons (ps_if (pt_cmpR (op_neD (hr.units)) (pe_lamT (X := (cxOf CX0 P w K mg base ["_law_pot_here", "_law_made", "_law_odd_here", "_law_more", "_law_number"] "_law_parts_right" (defScope sParts) f (.ref c1) A out s H E).nox) (T := TS) (TT := TTd K C CI CE) T.tTold scTold rfl (.inl rfl) (fun g cdv hrr => told_gv (X := (cxOf CX0 P w K mg base ["_law_pot_here", "_law_made", "_law_odd_here", "_law_more", "_law_number"] "_law_parts_right" (defScope sParts) f (.ref c1) A out s H E).nox) T gd fun s => (hrr s).mono (by decide)) TB hmT huT hr (fun A' out' s' H' E' f' c' hr2 eg => show PE _ _ (tAmKR K C CI E' (tVar 3) (tVar 2)) from pe_amountKR (X := lamCx (cxOf CX0 P w K mg base ["_law_pot_here", "_law_made", "_law_odd_here", "_law_more", "_law_number"] "_law_parts_right" (defScope sParts) f (.ref c1) A out s H E).nox A' out' s' H' E' _ f' c') T.toAmTxt RI takes_lam (hr2.mono (by decide)) (pv 3) (pv 2)) (L := lamS_by (sc := defScope sParts) (by decide +kernel))) (pe_callD DDue gd (hr.mono (by decide)) (pa_cons pe_str (pa_cons (pv 2) pa_nil))) (nomark _)) (pss_one (ps_ret pe_bl)) pss_nil)
  (pss_cons (ps_if (pt_cmpR (op_neD (hr.units)) (pe_lamT (X := (cxOf CX0 P w K mg base ["_law_pot_here", "_law_made", "_law_odd_here", "_law_more", "_law_number"] "_law_parts_right" (defScope sParts) f (.ref c1) A out s H E).nox) (T := TS) (TT := TTd K C CI CE) T.tTold scTold rfl (.inl rfl) (fun g cdv hrr => told_gv (X := (cxOf CX0 P w K mg base ["_law_pot_here", "_law_made", "_law_odd_here", "_law_more", "_law_number"] "_law_parts_right" (defScope sParts) f (.ref c1) A out s H E).nox) T gd fun s => (hrr s).mono (by decide)) TB hmT huT hr (fun A' out' s' H' E' f' c' hr2 eg => pe_callC (show Rn _ C (spMakeR K CI) [.int 1] E' from (rn_amountR (X := lamCx (cxOf CX0 P w K mg base ["_law_pot_here", "_law_made", "_law_odd_here", "_law_more", "_law_number"] "_law_parts_right" (defScope sParts) f (.ref c1) A out s H E).nox A' out' s' H' E' _ f' c') T.toAmTxt RI takes_lam (hr2.mono (by decide))).2) T.gC (kpC T.toAmTxt) (pa_cons (pv 2) pa_nil)) (L := lamS_by (sc := defScope sParts) (by decide +kernel))) (pe_callD DDue gd (hr.mono (by decide)) (pa_cons pe_str (pa_cons (pv 2) pa_nil))) (nomark _)) (pss_one (ps_ret pe_bl)) pss_nil)
  (pss_cons (ps_if (pt_cmpR (op_neD (hr.units)) (pe_lamT (X := (cxOf CX0 P w K mg base ["_law_pot_here", "_law_made", "_law_odd_here", "_law_more", "_law_number"] "_law_parts_right" (defScope sParts) f (.ref c1) A out s H E).nox) (T := TS) (TT := TTd K C CI CE) T.tTold scTold rfl (.inl rfl) (fun g cdv hrr => told_gv (X := (cxOf CX0 P w K mg base ["_law_pot_here", "_law_made", "_law_odd_here", "_law_more", "_law_number"] "_law_parts_right" (defScope sParts) f (.ref c1) A out s H E).nox) T gd fun s => (hrr s).mono (by decide)) TB hmT huT hr (fun A' out' s' H' E' f' c' hr2 eg => pe_callC (show Rn _ C (spMakeR K CI) [] E' from (rn_amountR (X := lamCx (cxOf CX0 P w K mg base ["_law_pot_here", "_law_made", "_law_odd_here", "_law_more", "_law_number"] "_law_parts_right" (defScope sParts) f (.ref c1) A out s H E).nox A' out' s' H' E' _ f' c') T.toAmTxt RI takes_lam (hr2.mono (by decide))).1) T.gC (kpC T.toAmTxt) (pa_cons (pv 4) (pa_cons (pv 3) pa_nil))) (L := lamS_by (sc := defScope sParts) (by decide +kernel))) (pe_callD DDue gd (hr.mono (by decide)) (pa_cons pe_str (pa_cons (pv 3) pa_nil))) (nomark _)) (pss_one (ps_ret pe_bl)) pss_nil)
  (pss_cons (ps_if (pt_cmpR (op_neD (hr.units)) (pe_lamT (X := (cxOf CX0 P w K mg base ["_law_pot_here", "_law_made", "_law_odd_here", "_law_more", "_law_number"] "_law_parts_right" (defScope sParts) f (.ref c1) A out s H E).nox) (T := TS) (TT := TTd K C CI CE) T.tTold scTold rfl (.inl rfl) (fun g cdv hrr => told_gv (X := (cxOf CX0 P w K mg base ["_law_pot_here", "_law_made", "_law_odd_here", "_law_more", "_law_number"] "_law_parts_right" (defScope sParts) f (.ref c1) A out s H E).nox) T gd fun s => (hrr s).mono (by decide)) TB hmT huT hr (fun A' out' s' H' E' f' c' hr2 eg => pe_callC (show Rn _ C (spMakeR K CI) [] E' from (rn_amountR (X := lamCx (cxOf CX0 P w K mg base ["_law_pot_here", "_law_made", "_law_odd_here", "_law_more", "_law_number"] "_law_parts_right" (defScope sParts) f (.ref c1) A out s H E).nox A' out' s' H' E' _ f' c') T.toAmTxt RI takes_lam (hr2.mono (by decide))).1) T.gC (kpC T.toAmTxt) (pa_cons (pv 2) (pa_cons pe_int pa_nil))) (L := lamS_by (sc := defScope sParts) (by decide +kernel))) (pe_callD DDue gd (hr.mono (by decide)) (pa_cons pe_str (pa_cons (pv 2) pa_nil))) (nomark _)) (pss_one (ps_ret pe_bl)) pss_nil)
  (pss_cons (ps_if (pt_cmpR (op_neD (hr.units)) (pe_lamT (X := (cxOf CX0 P w K mg base ["_law_pot_here", "_law_made", "_law_odd_here", "_law_more", "_law_number"] "_law_parts_right" (defScope sParts) f (.ref c1) A out s H E).nox) (T := TS) (TT := TTd K C CI CE) T.tTold scTold rfl (.inl rfl) (fun g cdv hrr => told_gv (X := (cxOf CX0 P w K mg base ["_law_pot_here", "_law_made", "_law_odd_here", "_law_more", "_law_number"] "_law_parts_right" (defScope sParts) f (.ref c1) A out s H E).nox) T gd fun s => (hrr s).mono (by decide)) TB hmT huT hr (fun A' out' s' H' E' f' c' hr2 eg => pe_callC (show Rn _ C (spMakeR K CI) [] E' from (rn_amountR (X := lamCx (cxOf CX0 P w K mg base ["_law_pot_here", "_law_made", "_law_odd_here", "_law_more", "_law_number"] "_law_parts_right" (defScope sParts) f (.ref c1) A out s H E).nox A' out' s' H' E' _ f' c') T.toAmTxt RI takes_lam (hr2.mono (by decide))).1) T.gC (kpC T.toAmTxt) (pa_cons (pe_un un_neg (pv 4)) (pa_cons pe_int pa_nil))) (L := lamS_by (sc := defScope sParts) (by decide +kernel))) (pe_callD DDue gd (hr.mono (by decide)) (pa_cons pe_str (pa_cons pe_int pa_nil))) (nomark _)) (pss_one (ps_ret pe_bl)) pss_nil)
  (pss_cons (ps_if (pt_cmpR (op_neD (hr.units)) (pe_lamT (X := (cxOf CX0 P w K mg base ["_law_pot_here", "_law_made", "_law_odd_here", "_law_more", "_law_number"] "_law_parts_right" (defScope sParts) f (.ref c1) A out s H E).nox) (T := TS) (TT := TTd K C CI CE) T.tTold scTold rfl (.inl rfl) (fun g cdv hrr => told_gv (X := (cxOf CX0 P w K mg base ["_law_pot_here", "_law_made", "_law_odd_here", "_law_more", "_law_number"] "_law_parts_right" (defScope sParts) f (.ref c1) A out s H E).nox) T gd fun s => (hrr s).mono (by decide)) TB hmT huT hr (fun A' out' s' H' E' f' c' hr2 eg => pe_callC (show Rn _ C (spMakeR K CI) [] E' from (rn_amountR (X := lamCx (cxOf CX0 P w K mg base ["_law_pot_here", "_law_made", "_law_odd_here", "_law_more", "_law_number"] "_law_parts_right" (defScope sParts) f (.ref c1) A out s H E).nox A' out' s' H' E' _ f' c') T.toAmTxt RI takes_lam (hr2.mono (by decide))).1) T.gC (kpC T.toAmTxt) (pa_cons pe_int (pa_cons pe_int pa_nil))) (L := lamS_by (sc := defScope sParts) (by decide +kernel))) (pe_callD DDue gd (hr.mono (by decide)) (pa_cons pe_str (pa_cons pe_int pa_nil))) (nomark _)) (pss_one (ps_ret pe_bl)) pss_nil)
  (pss_one (ps_ret (pe_cmpR (op_eqD (hr.units)) (pe_lamT (X := (cxOf CX0 P w K mg base ["_law_pot_here", "_law_made", "_law_odd_here", "_law_more", "_law_number"] "_law_parts_right" (defScope sParts) f (.ref c1) A out s H E).nox) (T := TS) (TT := TTd K C CI CE) T.tTold scTold rfl (.inl rfl) (fun g cdv hrr => told_gv (X := (cxOf CX0 P w K mg base ["_law_pot_here", "_law_made", "_law_odd_here", "_law_more", "_law_number"] "_law_parts_right" (defScope sParts) f (.ref c1) A out s H E).nox) T gd fun s => (hrr s).mono (by decide)) TB hmT huT hr (fun A' out' s' H' E' f' c' hr2 eg => pe_callC (show Rn _ C (spMakeR K CI) [.int 1] E' from (rn_amountR (X := lamCx (cxOf CX0 P w K mg base ["_law_pot_here", "_law_made", "_law_odd_here", "_law_more", "_law_number"] "_law_parts_right" (defScope sParts) f (.ref c1) A out s H E).nox A' out' s' H' E' _ f' c') T.toAmTxt RI takes_lam (hr2.mono (by decide))).2) T.gC (kpC T.toAmTxt) (pa_cons (pv 1) pa_nil)) (L := lamS_by (sc := defScope sParts) (by decide +kernel))) (pe_callD DDue gd (hr.mono (by decide)) (pa_cons pe_str (pa_cons (pv 1) pa_nil))) (nomark _))))))))))))), ?_⟩
    refine ⟨_, rfl, p, rfl, hp, fun vo d t H1 od p1 k1 => ⟨_, rfl, p, rfl, p1, fun vm dm tm H2 om p2 k2 => ?_⟩⟩
    refine ⟨(by show 2 ≤ sizeLine; decide), fun t0 n0 => ⟨t0, _, rfl, SqT.of upd_same, rfl, _, _, rfl, _, _, rfl, rfl, ?_⟩⟩
    obtain ⟨H3, e3, s3, a3⟩ := mko n0 (.tup [vo, vm])
    rw [e3]
    obtain ⟨x0, hx0⟩ := hp.lst
    obtain ⟨x1, hx1⟩ := p1.lst
    obtain ⟨x2, hx2⟩ := p2.lst
    have p3 := p2.same s3
    obtain ⟨x3, hx3⟩ := p3.lst
    refine ⟨_, rfl, p, 50, rfl, p3, by decide, by decide, fun n H4 m0 m1 p4 k4 => ?_⟩
    have kk : KpN p H H4 := KpN.of (((k1.trans k2).trans (Kp.of s3)).trans k4)
    have od : Odd p H4 vo d t := ((od.kp hx1 k2).same s3).kp hx3 k4
    have om : Odd p H4 vm dm tm := (om.same s3).kp hx3 k4
    have ha : AA C H4 a fr := ⟨((ha.1.kp ((k1.trans k2).trans (Kp.of s3)) hx0).kp k4 hx3), ha.2⟩
    have tb : Tabs TS H4 := tabs_kp (tabs_kp tb hx0 ((k1.trans k2).trans (Kp.of s3))) hx3 k4
    have hp := p4
    clear e3 a3 n0 hx0 hx1 hx2 hx3 p1 p2 p3 p4 k1 k2 k4 s3
    refine ⟨_, _, rfl, rfl, ?_⟩
    refine ⟨tb, fun Ha xa ta => ttd_of (CC := CI) (k := "integer") (v := vo) (z := d.shown) (.inl ⟨rfl, rfl⟩) ((Th.odd (C := C) od).ext xa) (fun Ex H0 Qd s0 rf => ?_) (fun l Hb eb sb nb => ?_)⟩
    · have x0 := xa.trans (ext_same s0)
      have od := od.ext x0
      have om := om.ext x0
      have ha := ha.ext x0
      exact ⟨_, rfl, _, rfl, vo, vm, vo, rfl, .inl ⟨od.noI, rfl⟩, rf⟩
    refine ⟨_, rfl, "integer", vo, d.shown, rfl, ((Th.odd (C := C) od).ext xa).sh' sb, fun l2 Hc ec sc nc => ?_⟩
    have xc := (xa.trans (ext_same sb)).trans (ext_same sc)
    replace od := od.ext xc
    replace om := om.ext xc
    replace ha := ha.ext xc
    replace tb := tabs_same (tabs_same ta sb) sc
    replace kk := kk.ext xc
    replace hp := hp.ext xc
    refine ⟨_, _, dp_tld (sc _ _ eb), dp_tld ec, shp_tld (by decide +kernel) (Th.ok (Th.odd (C := C) od)), shp_tld (by decide +kernel) (Th.ok (Th.odd (C := C) od)), _, rfl, ite_tld ?_⟩
    clear ec eb sb sc nb nc xa xc ta
    refine ⟨tb, fun Ha xa ta => ttd_of (CC := CI) (k := "integer") (v := vo) (z := d.shown) (.inl ⟨rfl, rfl⟩) ((Th.odd (C := C) od).ext xa) (fun Ex H0 Qd s0 rf => ?_) (fun l Hb eb sb nb => ?_)⟩
    · have x0 := xa.trans (ext_same s0)
      have od := od.ext x0
      have om := om.ext x0
      have ha := ha.ext x0
      exact ⟨_, rfl, _, rfl, rfl, rfl, fun x dx nx nd ne => ⟨.ref x, vo, vm, vo, rfl, .inl ⟨(od.same (same_ins nx nd)).noI, rfl⟩, rf _ (same_ins nx nd)⟩⟩
    refine ⟨_, rfl, "integer", vo, d.shown, rfl, ((Th.odd (C := C) od).ext xa).sh' sb, fun l2 Hc ec sc nc => ?_⟩
    have xc := (xa.trans (ext_same sb)).trans (ext_same sc)
    replace od := od.ext xc
    replace om := om.ext xc
    replace ha := ha.ext xc
    replace tb := tabs_same (tabs_same ta sb) sc
    replace kk := kk.ext xc
    replace hp := hp.ext xc
    refine ⟨_, _, dp_tld (sc _ _ eb), dp_tld ec, shp_tld (by decide +kernel) (Th.ok (Th.odd (C := C) od)), shp_tld (by decide +kernel) (Th.ok (Th.odd (C := C) od)), _, rfl, ite_tld ?_⟩
    clear ec eb sb sc nb nc xa xc ta
    refine ⟨tb, fun Ha xa ta => ttd_of (CC := CI) (k := "integer") (v := vo) (z := d.shown) (.inl ⟨rfl, rfl⟩) ((Th.odd (C := C) od).ext xa) (fun Ex H0 Qd s0 rf => ?_) (fun l Hb eb sb nb => ?_)⟩
    · have x0 := xa.trans (ext_same s0)
      have od := od.ext x0
      have om := om.ext x0
      have ha := ha.ext x0
      exact ⟨_, rfl, vo, .int 1, vo, rfl, .inl ⟨od.noI, rfl⟩, rf⟩
    refine ⟨_, rfl, "integer", vo, d.shown, rfl, ((Th.odd (C := C) od).ext xa).sh' sb, fun l2 Hc ec sc nc => ?_⟩
    have xc := (xa.trans (ext_same sb)).trans (ext_same sc)
    replace od := od.ext xc
    replace om := om.ext xc
    replace ha := ha.ext xc
    replace tb := tabs_same (tabs_same ta sb) sc
    replace kk := kk.ext xc
    replace hp := hp.ext xc
    refine ⟨_, _, dp_tld (sc _ _ eb), dp_tld ec, shp_tld (by decide +kernel) (Th.ok (Th.odd (C := C) od)), shp_tld (by decide +kernel) (Th.ok (Th.odd (C := C) od)), _, rfl, ite_tld ?_⟩
    clear ec eb sb sc nb nc xa xc ta
    refine ⟨tb, fun Ha xa ta => ttd_of (CC := CI) (k := "integer") (v := vm) (z := dm.shown) (.inl ⟨rfl, rfl⟩) ((Th.odd (C := C) om).ext xa) (fun Ex H0 Qd s0 rf => ?_) (fun l Hb eb sb nb => ?_)⟩
    · have x0 := xa.trans (ext_same s0)
      have od := od.ext x0
      have om := om.ext x0
      have ha := ha.ext x0
      exact ⟨_, rfl, _, rfl, .int _, vm, vm, rfl, .inr ⟨_, rfl, rfl, .inl om.noI⟩, rf⟩
    refine ⟨_, rfl, "integer", vm, dm.shown, rfl, ((Th.odd (C := C) om).ext xa).sh' sb, fun l2 Hc ec sc nc => ?_⟩
    have xc := (xa.trans (ext_same sb)).trans (ext_same sc)
    replace od := od.ext xc
    replace om := om.ext xc
    replace ha := ha.ext xc
    replace tb := tabs_same (tabs_same ta sb) sc
    replace kk := kk.ext xc
    replace hp := hp.ext xc
    refine ⟨_, _, dp_tld (sc _ _ eb), dp_tld ec, shp_tld (by decide +kernel) (Th.ok (Th.odd (C := C) om)), shp_tld (by decide +kernel) (Th.ok (Th.odd (C := C) om)), _, rfl, ite_tld ?_⟩
    clear ec eb sb sc nb nc xa xc ta
    refine ⟨tb, fun Ha xa ta => ttd_of (CC := CI) (k := "integer") (v := vo) (z := d.shown) (.inl ⟨rfl, rfl⟩) ((Th.odd (C := C) od).ext xa) (fun Ex H0 Qd s0 rf => ?_) (fun l Hb eb sb nb => ?_)⟩
    · have x0 := xa.trans (ext_same s0)
      have od := od.ext x0
      have om := om.ext x0
      have ha := ha.ext x0
      exact ⟨_, rfl, vo, .int 0, vo, rfl, .inl ⟨od.noI, rfl⟩, rf⟩
    refine ⟨_, rfl, "integer", vo, d.shown, rfl, ((Th.odd (C := C) od).ext xa).sh' sb, fun l2 Hc ec sc nc => ?_⟩
    have xc := (xa.trans (ext_same sb)).trans (ext_same sc)
    replace od := od.ext xc
    replace om := om.ext xc
    replace ha := ha.ext xc
    replace tb := tabs_same (tabs_same ta sb) sc
    replace kk := kk.ext xc
    replace hp := hp.ext xc
    refine ⟨_, _, dp_tld (sc _ _ eb), dp_tld ec, shp_tld (by decide +kernel) (Th.ok (Th.odd (C := C) od)), shp_tld (by decide +kernel) (Th.ok (Th.odd (C := C) od)), _, rfl, ite_tld ?_⟩
    clear ec eb sb sc nb nc xa xc ta
    refine ⟨tb, fun Ha xa ta => ttd_of (CC := CI) (k := "integer") (v := (.int 0)) (z := (PyData.int 0).shown) (.inl ⟨rfl, rfl⟩) ((Th.zero (p := p) (C := C) (H := _)).ext xa) (fun Ex H0 Qd s0 rf => ?_) (fun l Hb eb sb nb => ?_)⟩
    · have x0 := xa.trans (ext_same s0)
      have od := od.ext x0
      have om := om.ext x0
      have ha := ha.ext x0
      exact ⟨_, rfl, _, rfl, .int _, .int 0, .int 0, rfl, .inr ⟨_, rfl, rfl, .inr rfl⟩, rf⟩
    refine ⟨"integer", (.int 0), (PyData.int 0).shown, rfl, ((Th.zero (p := p) (C := C) (H := _)).ext xa).sh' sb, fun l2 Hc ec sc nc => ?_⟩
    have xc := (xa.trans (ext_same sb)).trans (ext_same sc)
    replace od := od.ext xc
    replace om := om.ext xc
    replace ha := ha.ext xc
    replace tb := tabs_same (tabs_same ta sb) sc
    replace kk := kk.ext xc
    replace hp := hp.ext xc
    refine ⟨_, _, dp_tld (sc _ _ eb), dp_tld ec, shp_tld (by decide +kernel) (Th.ok (Th.zero (p := p) (C := C) (H := H))), shp_tld (by decide +kernel) (Th.ok (Th.zero (p := p) (C := C) (H := H))), _, rfl, ite_tld ?_⟩
    clear ec eb sb sc nb nc xa xc ta
    refine ⟨tb, fun Ha xa ta => ttd_of (CC := CI) (k := "integer") (v := (.int 0)) (z := (PyData.int 0).shown) (.inl ⟨rfl, rfl⟩) ((Th.zero (p := p) (C := C) (H := _)).ext xa) (fun Ex H0 Qd s0 rf => ?_) (fun l Hb eb sb nb => ?_)⟩
    · have x0 := xa.trans (ext_same s0)
      have od := od.ext x0
      have om := om.ext x0
      have ha := ha.ext x0
      exact ⟨.int 0, .int 0, .int 0, rfl, .inr ⟨0, rfl, rfl, .inr rfl⟩, rf⟩
    refine ⟨"integer", (.int 0), (PyData.int 0).shown, rfl, ((Th.zero (p := p) (C := C) (H := _)).ext xa).sh' sb, fun l2 Hc ec sc nc => ?_⟩
    have xc := (xa.trans (ext_same sb)).trans (ext_same sc)
    replace od := od.ext xc
    replace om := om.ext xc
    replace ha := ha.ext xc
    replace tb := tabs_same (tabs_same ta sb) sc
    replace kk := kk.ext xc
    replace hp := hp.ext xc
    refine ⟨_, _, dp_tld (sc _ _ eb), dp_tld ec, shp_tld (by decide +kernel) (Th.ok (Th.zero (p := p) (C := C) (H := H))), shp_tld (by decide +kernel) (Th.ok (Th.zero (p := p) (C := C) (H := H))), _, rfl, ite_tld ?_⟩
    clear ec eb sb sc nb nc xa xc ta
    refine ⟨tb, fun Ha xa ta => ttd_of (CC := CI) (k := "integer") (v := (.ref a)) (z := (rTxt fr.1 fr.2)) (.inl ⟨rfl, rfl⟩) ((Th.am (p := p) ha.1 (bf.mono (show 50 ≤ 1900 by decide)).1 (bf.mono (show 50 ≤ 1900 by decide)).2).ext xa) (fun Ex H0 Qd s0 rf => ?_) (fun l Hb eb sb nb => ?_)⟩
    · have x0 := xa.trans (ext_same s0)
      have od := od.ext x0
      have om := om.ext x0
      have ha := ha.ext x0
      exact ⟨_, rfl, .ref a, .int 1, .ref a, rfl, .inl ⟨noI_am T ha.1, rfl⟩, rf⟩
    refine ⟨_, rfl, "integer", (.ref a), (rTxt fr.1 fr.2), rfl, ((Th.am (p := p) ha.1 (bf.mono (show 50 ≤ 1900 by decide)).1 (bf.mono (show 50 ≤ 1900 by decide)).2).ext xa).sh' sb, fun l2 Hc ec sc nc => ?_⟩
    have xc := (xa.trans (ext_same sb)).trans (ext_same sc)
    replace od := od.ext xc
    replace om := om.ext xc
    replace ha := ha.ext xc
    replace tb := tabs_same (tabs_same ta sb) sc
    replace kk := kk.ext xc
    replace hp := hp.ext xc
    refine ⟨_, _, dp_tld (sc _ _ eb), dp_tld ec, shp_tld (by decide +kernel) (Th.ok (Th.am (p := p) ha.1 (bf.mono (show 50 ≤ 1900 by decide)).1 (bf.mono (show 50 ≤ 1900 by decide)).2)), shp_tld (by decide +kernel) (Th.ok (Th.am (p := p) ha.1 (bf.mono (show 50 ≤ 1900 by decide)).1 (bf.mono (show 50 ≤ 1900 by decide)).2)), ?_⟩
    rw [eqv_tld]
    exact q Hc hp tb kk
end
end SP
namespace SP
open PySem PySem.Spec PyProof.Rows L2 LamX


section
variable {P : Program} {w : World} {K : PySem.W.Frag} {mg : Str → Option Value} {base : Heap} {C CI CE CP c1 P1 c2 P2 : Addr}
theorem scUses : FnScope ["_law_pot_here", "_law_made", "_law_odd_here", "_law_more", "_law_number"] ["_law_pot_here", "_law_made"] (defScope sUses) := ⟨rfl, rfl, rfl, by decide +kernel, rfl, by decide +kernel, by decide +kernel⟩
theorem d_uses (T : LTxt K mg C CI CE CP c1 P1 c2 P2) (RA : ErrOk P w K mg base "InvalidAmount" CE (Str.ofString "value")) (TB : TabB base mg c2 P2) {TS : List (Addr × Str)} (hmT : (P2, ("_law_uses_right.<locals>.<lambda>" : Str)) ∈ TS) (huT : ∀ y ∈ TS, y.1 = P2 → y.2 = ("_law_uses_right.<locals>.<lambda>" : Str)) :
    DefG P w K mg base 11 "_law_uses_right" ["_law_pot_here", "_law_made"] (spParts C TS) := by
  have DOdd := d_odd (P := P) (w := w) (base := base) T
  have DD := d_draw (P := P) (w := w) (base := base) T.pot
  obtain ⟨fO, fdO, mO, FO, bO⟩ := T.ops.tOf.ex
  have kO : KBn K fdO ["value"] 0 ["value"] (fun us ws => us ++ ws) (fun vs zs => vs ++ zs) := fun_kbn FO fun _ _ _ _ _ _ us ws h1 h2 => match us, ws, h1, h2 with | [], [_], _, _ => rfl
  obtain ⟨fOv, fdOv, o1, o2, FOv, hbOv⟩ := T.over.ex
  have kOv : KBn K fdOv ["self", "other"] 1 ["other"] (fun us ws => us ++ ws) (fun vs zs => vs ++ zs) := fun_kbn FOv fun _ _ _ _ _ _ us ws h1 h2 => match us, ws, h1, h2 with | [_], [_], _, _ => rfl
  obtain ⟨mc, pS, gS, fdS, cr, cm, FS⟩ := T.sm.ex
  have DDue := d_due (P := P) (w := w) (base := base) T
  refine T.tUses.ok scUses (fun vs H Q E h => ?_) (fun f A out s H vs Q E gd hr h => ?_)
  · obtain ⟨p, a, f, rfl, _⟩ := h
    rfl
  · obtain ⟨p, a, fr, rfl, hp, ha, bf, tb, q⟩ := h
    refine ⟨_, (pss_cons (ps_asg (pe_tup (pa_cons (pe_callD DOdd gd (hr.mono (by decide)) (pa_cons (pv 0) pa_nil)) (pa_cons (pe_callD DOdd gd (hr.mono (by decide)) (pa_cons (pv 0) pa_nil)) pa_nil))) (pg_tup (by rfl) (pgs_cons (pg_name (i := 2) scUses.nd rfl (Or.inr rfl)) (pgs_cons (pg_name (i := 3) scUses.nd rfl (Or.inr rfl)) pgs_nil))))
  (pss_cons (ps_set (i := 4) scUses.nd rfl (Or.inr rfl) (pe_op op_sub (pe_callD DD gd (hr.mono (by decide)) (pa_cons (pv 0) (pa_cons pe_int pa_nil))) pe_int))
  (pss_cons (ps_if (pt_cmpR (op_neD (hr.units)) (pe_lamT (X := (cxOf CX0 P w K mg base ["_law_pot_here", "_law_made", "_law_odd_here", "_law_more", "_law_number"] "_law_uses_right" (defScope sUses) f (.ref c2) A out s H E).nox) (T := TS) (TT := TTd K C CI CE) T.tTold scTold rfl (.inl rfl) (fun g cdv hrr => told_gv (X := (cxOf CX0 P w K mg base ["_law_pot_here", "_law_made", "_law_odd_here", "_law_more", "_law_number"] "_law_uses_right" (defScope sUses) f (.ref c2) A out s H E).nox) T gd fun s => (hrr s).mono (by decide)) TB hmT huT hr (fun A' out' s' H' E' f' c' hr2 eg => pe_callC (X := lamCx (cxOf CX0 P w K mg base ["_law_pot_here", "_law_made", "_law_odd_here", "_law_more", "_law_number"] "_law_uses_right" (defScope sUses) f (.ref c2) A out s H E).nox A' out' s' H' E' _ f' c') (sp := spOfR K C CE) (E := E') (rn_of (ok_ofX FO T.toAmTxt RA) (hr2.mono (by decide)) bO .nil (pass_of (X := lamCx (cxOf CX0 P w K mg base ["_law_pot_here", "_law_made", "_law_odd_here", "_law_more", "_law_number"] "_law_uses_right" (defScope sUses) f (.ref c2) A out s H E).nox A' out' s' H' E' _ f' c') takes_lam)) mO FO.kp (pa_cons (pv 2) pa_nil)) (L := lamS_by (sc := defScope sUses) (by decide +kernel))) (pe_callD DDue gd (hr.mono (by decide)) (pa_cons pe_str (pa_cons (pv 2) pa_nil))) (nomark _)) (pss_one (ps_ret pe_bl)) pss_nil)
  (pss_cons (ps_if (pt_cmpR (op_neD (hr.units)) (pe_lamT (X := (cxOf CX0 P w K mg base ["_law_pot_here", "_law_made", "_law_odd_here", "_law_more", "_law_number"] "_law_uses_right" (defScope sUses) f (.ref c2) A out s H E).nox) (T := TS) (TT := TTd K C CI CE) T.tTold scTold rfl (.inl rfl) (fun g cdv hrr => told_gv (X := (cxOf CX0 P w K mg base ["_law_pot_here", "_law_made", "_law_odd_here", "_law_more", "_law_number"] "_law_uses_right" (defScope sUses) f (.ref c2) A out s H E).nox) T gd fun s => (hrr s).mono (by decide)) TB hmT huT hr (fun A' out' s' H' E' f' c' hr2 eg => pe_callK0 (X := lamCx (cxOf CX0 P w K mg base ["_law_pot_here", "_law_made", "_law_odd_here", "_law_more", "_law_number"] "_law_uses_right" (defScope sUses) f (.ref c2) A out s H E).nox A' out' s' H' E' _ f' c') (sp := spOfR K C CE) (E := E') (ok_ofX FO T.toAmTxt RA) (hr2.mono (by decide)) (by rfl) mO FO.kp kO (pass_of (X := lamCx (cxOf CX0 P w K mg base ["_law_pot_here", "_law_made", "_law_odd_here", "_law_more", "_law_number"] "_law_uses_right" (defScope sUses) f (.ref c2) A out s H E).nox A' out' s' H' E' _ f' c') takes_lam) (pk_cons (pv 2) pk_nil)) (L := lamS_by (sc := defScope sUses) (by decide +kernel))) (pe_callD DDue gd (hr.mono (by decide)) (pa_cons pe_str (pa_cons (pv 2) pa_nil))) (nomark _)) (pss_one (ps_ret pe_bl)) pss_nil)
  (pss_cons (ps_if (pt_cmpR (op_neD (hr.units)) (pe_lamT (X := (cxOf CX0 P w K mg base ["_law_pot_here", "_law_made", "_law_odd_here", "_law_more", "_law_number"] "_law_uses_right" (defScope sUses) f (.ref c2) A out s H E).nox) (T := TS) (TT := TTd K C CI CE) T.tTold scTold rfl (.inl rfl) (fun g cdv hrr => told_gv (X := (cxOf CX0 P w K mg base ["_law_pot_here", "_law_made", "_law_odd_here", "_law_more", "_law_number"] "_law_uses_right" (defScope sUses) f (.ref c2) A out s H E).nox) T gd fun s => (hrr s).mono (by decide)) TB hmT huT hr (fun A' out' s' H' E' f' c' hr2 eg => pe_meth (X := lamCx (cxOf CX0 P w K mg base ["_law_pot_here", "_law_made", "_law_odd_here", "_law_more", "_law_number"] "_law_uses_right" (defScope sUses) f (.ref c2) A out s H E).nox A' out' s' H' E' _ f' c') (sp := spOverX K C CE) (E := E') (pv 1) T.cl ⟨o1, o2, FOv.kp⟩ (ok_overX FOv T.toAmTxt T.ops RA) (hr2.mono (by decide)) hbOv .nil (pass_of (X := lamCx (cxOf CX0 P w K mg base ["_law_pot_here", "_law_made", "_law_odd_here", "_law_more", "_law_number"] "_law_uses_right" (defScope sUses) f (.ref c2) A out s H E).nox A' out' s' H' E' _ f' c') takes_lam) (pa_cons (pv 2) pa_nil)) (L := lamS_by (sc := defScope sUses) (by decide +kernel))) (pe_callD DDue gd (hr.mono (by decide)) (pa_cons pe_str (pa_cons (pv 2) pa_nil))) (nomark _)) (pss_one (ps_ret pe_bl)) pss_nil)
  (pss_cons (ps_if (pt_cmpR (op_neD (hr.units)) (pe_lamT (X := (cxOf CX0 P w K mg base ["_law_pot_here", "_law_made", "_law_odd_here", "_law_more", "_law_number"] "_law_uses_right" (defScope sUses) f (.ref c2) A out s H E).nox) (T := TS) (TT := TTd K C CI CE) T.tTold scTold rfl (.inl rfl) (fun g cdv hrr => told_gv (X := (cxOf CX0 P w K mg base ["_law_pot_here", "_law_made", "_law_odd_here", "_law_more", "_law_number"] "_law_uses_right" (defScope sUses) f (.ref c2) A out s H E).nox) T gd fun s => (hrr s).mono (by decide)) TB hmT huT hr (fun A' out' s' H' E' f' c' hr2 eg => pe_methK0 (X := lamCx (cxOf CX0 P w K mg base ["_law_pot_here", "_law_made", "_law_odd_here", "_law_more", "_law_number"] "_law_uses_right" (defScope sUses) f (.ref c2) A out s H E).nox A' out' s' H' E' _ f' c') (sp := spOverX K C CE) (E := E') (pv 1) T.cl ⟨o1, o2, FOv.kp⟩ (ok_overX FOv T.toAmTxt T.ops RA) (hr2.mono (by decide)) kOv (pass_of (X := lamCx (cxOf CX0 P w K mg base ["_law_pot_here", "_law_made", "_law_odd_here", "_law_more", "_law_number"] "_law_uses_right" (defScope sUses) f (.ref c2) A out s H E).nox A' out' s' H' E' _ f' c') takes_lam) (pk_cons pe_int pk_nil)) (L := lamS_by (sc := defScope sUses) (by decide +kernel))) (pe_callD DDue gd (hr.mono (by decide)) (pa_cons pe_str (pa_cons pe_int pa_nil))) (nomark _)) (pss_one (ps_ret pe_bl)) pss_nil)
  (pss_cons (ps_if (pt_cmpR (op_neD (hr.units)) (pe_lamT (X := (cxOf CX0 P w K mg base ["_law_pot_here", "_law_made", "_law_odd_here", "_law_more", "_law_number"] "_law_uses_right" (defScope sUses) f (.ref c2) A out s H E).nox) (T := TS) (TT := TTd K C CI CE) T.tTold scTold rfl (.inl rfl) (fun g cdv hrr => told_gv (X := (cxOf CX0 P w K mg base ["_law_pot_here", "_law_made", "_law_odd_here", "_law_more", "_law_number"] "_law_uses_right" (defScope sUses) f (.ref c2) A out s H E).nox) T gd fun s => (hrr s).mono (by decide)) TB hmT huT hr (fun A' out' s' H' E' f' c' hr2 eg => pe_meth (X := lamCx (cxOf CX0 P w K mg base ["_law_pot_here", "_law_made", "_law_odd_here", "_law_more", "_law_number"] "_law_uses_right" (defScope sUses) f (.ref c2) A out s H E).nox A' out' s' H' E' _ f' c') (sp := spOverX K C CE) (E := E') (pv 1) T.cl ⟨o1, o2, FOv.kp⟩ (ok_overX FOv T.toAmTxt T.ops RA) (hr2.mono (by decide)) hbOv .nil (pass_of (X := lamCx (cxOf CX0 P w K mg base ["_law_pot_here", "_law_made", "_law_odd_here", "_law_more", "_law_number"] "_law_uses_right" (defScope sUses) f (.ref c2) A out s H E).nox A' out' s' H' E' _ f' c') takes_lam) (pa_cons (pe_callC (X := lamCx (cxOf CX0 P w K mg base ["_law_pot_here", "_law_made", "_law_odd_here", "_law_more", "_law_number"] "_law_uses_right" (defScope sUses) f (.ref c2) A out s H E).nox A' out' s' H' E' _ f' c') (rn_amount T.toAmTxt (hr2.mono (by decide))) T.gC (kpC T.toAmTxt) (pa_cons pe_int (pa_cons pe_int pa_nil))) pa_nil)) (L := lamS_by (sc := defScope sUses) (by decide +kernel))) (pe_callD DDue gd (hr.mono (by decide)) (pa_cons pe_str (pa_cons (pe_callC (rn_amount1 T.toAmTxt (hr.mono (by decide))) T.gC (kpC T.toAmTxt) (pa_cons pe_int pa_nil)) pa_nil))) (nomark _)) (pss_one (ps_ret pe_bl)) pss_nil)
  (pss_cons (ps_if (pt_cmpR (op_neD (hr.units)) (pe_lamT (X := (cxOf CX0 P w K mg base ["_law_pot_here", "_law_made", "_law_odd_here", "_law_more", "_law_number"] "_law_uses_right" (defScope sUses) f (.ref c2) A out s H E).nox) (T := TS) (TT := TTd K C CI CE) T.tTold scTold rfl (.inl rfl) (fun g cdv hrr => told_gv (X := (cxOf CX0 P w K mg base ["_law_pot_here", "_law_made", "_law_odd_here", "_law_more", "_law_number"] "_law_uses_right" (defScope sUses) f (.ref c2) A out s H E).nox) T gd fun s => (hrr s).mono (by decide)) TB hmT huT hr (fun A' out' s' H' E' f' c' hr2 eg => pe_meth (X := lamCx (cxOf CX0 P w K mg base ["_law_pot_here", "_law_made", "_law_odd_here", "_law_more", "_law_number"] "_law_uses_right" (defScope sUses) f (.ref c2) A out s H E).nox A' out' s' H' E' _ f' c') (sp := spOverX K C CE) (E := E') (pe_callC (X := lamCx (cxOf CX0 P w K mg base ["_law_pot_here", "_law_made", "_law_odd_here", "_law_more", "_law_number"] "_law_uses_right" (defScope sUses) f (.ref c2) A out s H E).nox A' out' s' H' E' _ f' c') (rn_amount1 T.toAmTxt (hr2.mono (by decide))) T.gC (kpC T.toAmTxt) (pa_cons pe_int pa_nil)) T.cl ⟨o1, o2, FOv.kp⟩ (ok_overX FOv T.toAmTxt T.ops RA) (hr2.mono (by decide)) hbOv .nil (pass_of (X := lamCx (cxOf CX0 P w K mg base ["_law_pot_here", "_law_made", "_law_odd_here", "_law_more", "_law_number"] "_law_uses_right" (defScope sUses) f (.ref c2) A out s H E).nox A' out' s' H' E' _ f' c') takes_lam) (pa_cons (pv 3) pa_nil)) (L := lamS_by (sc := defScope sUses) (by decide +kernel))) (pe_callD DDue gd (hr.mono (by decide)) (pa_cons pe_str (pa_cons (pv 3) pa_nil))) (nomark _)) (pss_one (ps_ret pe_bl)) pss_nil)
  (pss_cons (ps_if (pt_cmpR (op_neD (hr.units)) (pe_lamT (X := (cxOf CX0 P w K mg base ["_law_pot_here", "_law_made", "_law_odd_here", "_law_more", "_law_number"] "_law_uses_right" (defScope sUses) f (.ref c2) A out s H E).nox) (T := TS) (TT := TTd K C CI CE) T.tTold scTold rfl (.inl rfl) (fun g cdv hrr => told_gv (X := (cxOf CX0 P w K mg base ["_law_pot_here", "_law_made", "_law_odd_here", "_law_more", "_law_number"] "_law_uses_right" (defScope sUses) f (.ref c2) A out s H E).nox) T gd fun s => (hrr s).mono (by decide)) TB hmT huT hr (fun A' out' s' H' E' f' c' hr2 eg => ClX.pe_cmeth (X := lamCx (cxOf CX0 P w K mg base ["_law_pot_here", "_law_made", "_law_odd_here", "_law_more", "_law_number"] "_law_uses_right" (defScope sUses) f (.ref c2) A out s H E).nox A' out' s' H' E' _ f' c') (sp := spSumR K C CE) (E := E') (pe_glob (v := .ref C) (by rfl) T.gC rfl) cr cm (d_sumR T.toAmTxt T.ops RA FS) (hr2.mono (by decide)) (pass_of (X := lamCx (cxOf CX0 P w K mg base ["_law_pot_here", "_law_made", "_law_odd_here", "_law_more", "_law_number"] "_law_uses_right" (defScope sUses) f (.ref c2) A out s H E).nox A' out' s' H' E' _ f' c') takes_lam) (pa_cons (pv 4) (pa_cons (pv 2) (pa_cons (pv 3) pa_nil)))) (L := lamS_by (sc := defScope sUses) (by decide +kernel))) (pe_callD DDue gd (hr.mono (by decide)) (pa_cons pe_str (pa_cons (pv 2) pa_nil))) (nomark _)) (pss_one (ps_ret pe_bl)) pss_nil)
  (pss_cons (ps_if (pt_cmpR (op_neD (hr.units)) (pe_lamT (X := (cxOf CX0 P w K mg base ["_law_pot_here", "_law_made", "_law_odd_here", "_law_more", "_law_number"] "_law_uses_right" (defScope sUses) f (.ref c2) A out s H E).nox) (T := TS) (TT := TTd K C CI CE) T.tTold scTold rfl (.inl rfl) (fun g cdv hrr => told_gv (X := (cxOf CX0 P w K mg base ["_law_pot_here", "_law_made", "_law_odd_here", "_law_more", "_law_number"] "_law_uses_right" (defScope sUses) f (.ref c2) A out s H E).nox) T gd fun s => (hrr s).mono (by decide)) TB hmT huT hr (fun A' out' s' H' E' f' c' hr2 eg => ClX.pe_cmeth (X := lamCx (cxOf CX0 P w K mg base ["_law_pot_here", "_law_made", "_law_odd_here", "_law_more", "_law_number"] "_law_uses_right" (defScope sUses) f (.ref c2) A out s H E).nox A' out' s' H' E' _ f' c') (sp := spSumR K C CE) (E := E') (pe_glob (v := .ref C) (by rfl) T.gC rfl) cr cm (d_sumR T.toAmTxt T.ops RA FS) (hr2.mono (by decide)) (pass_of (X := lamCx (cxOf CX0 P w K mg base ["_law_pot_here", "_law_made", "_law_odd_here", "_law_more", "_law_number"] "_law_uses_right" (defScope sUses) f (.ref c2) A out s H E).nox A' out' s' H' E' _ f' c') takes_lam) (pa_cons (pv 1) (pa_cons (pv 4) (pa_cons (pv 1) (pa_cons (pv 3) pa_nil))))) (L := lamS_by (sc := defScope sUses) (by decide +kernel))) (pe_callD DDue gd (hr.mono (by decide)) (pa_cons pe_str (pa_cons (pv 3) pa_nil))) (nomark _)) (pss_one (ps_ret pe_bl)) pss_nil)
  (pss_one (ps_ret (pe_cmpR (op_eqD (hr.units)) (pe_lamT (X := (cxOf CX0 P w K mg base ["_law_pot_here", "_law_made", "_law_odd_here", "_law_more", "_law_number"] "_law_uses_right" (defScope sUses) f (.ref c2) A out s H E).nox) (T := TS) (TT := TTd K C CI CE) T.tTold scTold rfl (.inl rfl) (fun g cdv hrr => told_gv (X := (cxOf CX0 P w K mg base ["_law_pot_here", "_law_made", "_law_odd_here", "_law_more", "_law_number"] "_law_uses_right" (defScope sUses) f (.ref c2) A out s H E).nox) T gd fun s => (hrr s).mono (by decide)) TB hmT huT hr (fun A' out' s' H' E' f' c' hr2 eg => ClX.pe_cmeth (X := lamCx (cxOf CX0 P w K mg base ["_law_pot_here", "_law_made", "_law_odd_here", "_law_more", "_law_number"] "_law_uses_right" (defScope sUses) f (.ref c2) A out s H E).nox A' out' s' H' E' _ f' c') (sp := spSumR K C CE) (E := E') (pe_glob (v := .ref C) (by rfl) T.gC rfl) cr cm (d_sumR T.toAmTxt T.ops RA FS) (hr2.mono (by decide)) (pass_of (X := lamCx (cxOf CX0 P w K mg base ["_law_pot_here", "_law_made", "_law_odd_here", "_law_more", "_law_number"] "_law_uses_right" (defScope sUses) f (.ref c2) A out s H E).nox A' out' s' H' E' _ f' c') takes_lam) (pa_cons (pv 2) pa_nil)) (L := lamS_by (sc := defScope sUses) (by decide +kernel))) (pe_callD DDue gd (hr.mono (by decide)) (pa_cons pe_str (pa_cons (pv 2) pa_nil))) (nomark _)))))))))))))), ?_⟩
    refine ⟨_, rfl, p, rfl, hp, fun vo d t H1 od p1 k1 => ⟨_, rfl, p, rfl, p1, fun vm dm tm H2 om p2 k2 => ?_⟩⟩
    refine ⟨(by show 2 ≤ sizeLine; decide), fun t0 n0 => ⟨t0, _, rfl, SqT.of upd_same, rfl, _, _, rfl, _, _, rfl, rfl, ?_⟩⟩
    obtain ⟨H3, e3, s3, a3⟩ := mko n0 (.tup [vo, vm])
    rw [e3]
    obtain ⟨x0, hx0⟩ := hp.lst
    obtain ⟨x1, hx1⟩ := p1.lst
    obtain ⟨x2, hx2⟩ := p2.lst
    have p3 := p2.same s3
    obtain ⟨x3, hx3⟩ := p3.lst
    refine ⟨_, rfl, p, 50, rfl, p3, by decide, by decide, fun n H4 m0 m1 p4 k4 => ?_⟩
    have kk : KpN p H H4 := KpN.of (((k1.trans k2).trans (Kp.of s3)).trans k4)
    have od : Odd p H4 vo d t := ((od.kp hx1 k2).same s3).kp hx3 k4
    have om : Odd p H4 vm dm tm := (om.same s3).kp hx3 k4
    have ha : AA C H4 a fr := ⟨((ha.1.kp ((k1.trans k2).trans (Kp.of s3)) hx0).kp k4 hx3), ha.2⟩
    have tb : Tabs TS H4 := tabs_kp (tabs_kp tb hx0 ((k1.trans k2).trans (Kp.of s3))) hx3 k4
    have hp := p4
    clear e3 a3 n0 hx0 hx1 hx2 hx3 p1 p2 p3 p4 k1 k2 k4 s3
    have nb : Bd 10 (n - 25, 1) := by
      constructor
      · show (n - 25).natAbs < 2 ^ 10
        omega
      · show (1 : Int).natAbs < 2 ^ 10
        decide
    refine ⟨_, _, rfl, rfl, ?_⟩
    refine ⟨tb, fun Ha xa ta => ttd_of (CC := CE) (k := "amount") (v := vo) (z := d.shown) (.inr ⟨rfl, rfl⟩) ((Th.odd (C := C) od).ext xa) (fun Ex H0 Qd s0 rf => ?_) (fun l Hb eb sb nb => ?_)⟩
    · have x0 := xa.trans (ext_same s0)
      have od := od.ext x0
      have om := om.ext x0
      have ha := ha.ext x0
      exact ⟨_, rfl, vo, rfl, (od.noAm T.na T.na_d), rf _ (Same.refl _)⟩
    refine ⟨_, rfl, "amount", vo, d.shown, rfl, ((Th.odd (C := C) od).ext xa).sh' sb, fun l2 Hc ec sc nc => ?_⟩
    have xc := (xa.trans (ext_same sb)).trans (ext_same sc)
    replace od := od.ext xc
    replace om := om.ext xc
    replace ha := ha.ext xc
    replace tb := tabs_same (tabs_same ta sb) sc
    replace kk := kk.ext xc
    replace hp := hp.ext xc
    refine ⟨_, _, dp_tld (sc _ _ eb), dp_tld ec, shp_tld (by decide +kernel) (Th.ok (Th.odd (C := C) od)), shp_tld (by decide +kernel) (Th.ok (Th.odd (C := C) od)), _, rfl, ite_tld ?_⟩
    clear ec eb sb sc nb nc xa xc ta
    refine ⟨tb, fun Ha xa ta => ttd_of (CC := CE) (k := "amount") (v := vo) (z := d.shown) (.inr ⟨rfl, rfl⟩) ((Th.odd (C := C) od).ext xa) (fun Ex H0 Qd s0 rf => ?_) (fun l Hb eb sb nb => ?_)⟩
    · have x0 := xa.trans (ext_same s0)
      have od := od.ext x0
      have om := om.ext x0
      have ha := ha.ext x0
      exact ⟨_, rfl, rfl, rfl, vo, rfl, (od.noAm T.na T.na_d), rf _ (Same.refl _)⟩
    refine ⟨_, rfl, "amount", vo, d.shown, rfl, ((Th.odd (C := C) od).ext xa).sh' sb, fun l2 Hc ec sc nc => ?_⟩
    have xc := (xa.trans (ext_same sb)).trans (ext_same sc)
    replace od := od.ext xc
    replace om := om.ext xc
    replace ha := ha.ext xc
    replace tb := tabs_same (tabs_same ta sb) sc
    replace kk := kk.ext xc
    replace hp := hp.ext xc
    refine ⟨_, _, dp_tld (sc _ _ eb), dp_tld ec, shp_tld (by decide +kernel) (Th.ok (Th.odd (C := C) od)), shp_tld (by decide +kernel) (Th.ok (Th.odd (C := C) od)), _, rfl, ite_tld ?_⟩
    clear ec eb sb sc nb nc xa xc ta
    refine ⟨tb, fun Ha xa ta => ttd_of (CC := CE) (k := "amount") (v := vo) (z := d.shown) (.inr ⟨rfl, rfl⟩) ((Th.odd (C := C) od).ext xa) (fun Ex H0 Qd s0 rf => ?_) (fun l Hb eb sb nb => ?_)⟩
    · have x0 := xa.trans (ext_same s0)
      have od := od.ext x0
      have om := om.ext x0
      have ha := ha.ext x0
      obtain ⟨z1, dx, pl, e1, _⟩ := id ha.1
      exact ⟨_, rfl, a, dx, _, rfl, e1, am_no _ _ _ (by decide +kernel) (by decide +kernel) (by decide +kernel), _, rfl, .inl ⟨.ref a, vo, rfl, (od.noAm T.na T.na_d), rf _ (Same.refl _)⟩⟩
    refine ⟨_, rfl, "amount", vo, d.shown, rfl, ((Th.odd (C := C) od).ext xa).sh' sb, fun l2 Hc ec sc nc => ?_⟩
    have xc := (xa.trans (ext_same sb)).trans (ext_same sc)
    replace od := od.ext xc
    replace om := om.ext xc
    replace ha := ha.ext xc
    replace tb := tabs_same (tabs_same ta sb) sc
    replace kk := kk.ext xc
    replace hp := hp.ext xc
    refine ⟨_, _, dp_tld (sc _ _ eb), dp_tld ec, shp_tld (by decide +kernel) (Th.ok (Th.odd (C := C) od)), shp_tld (by decide +kernel) (Th.ok (Th.odd (C := C) od)), _, rfl, ite_tld ?_⟩
    clear ec eb sb sc nb nc xa xc ta
    refine ⟨tb, fun Ha xa ta => ttd_of (CC := CE) (k := "amount") (v := (.int 0)) (z := (PyData.int 0).shown) (.inr ⟨rfl, rfl⟩) ((Th.zero (p := p) (C := C) (H := _)).ext xa) (fun Ex H0 Qd s0 rf => ?_) (fun l Hb eb sb nb => ?_)⟩
    · have x0 := xa.trans (ext_same s0)
      have od := od.ext x0
      have om := om.ext x0
      have ha := ha.ext x0
      obtain ⟨z1, dx, pl, e1, _⟩ := id ha.1
      exact ⟨_, rfl, a, dx, _, rfl, e1, am_no _ _ _ (by decide +kernel) (by decide +kernel) (by decide +kernel), rfl, .inr ⟨.ref a, .int 0, 1, rfl, .inr ⟨rfl, rfl⟩, rf⟩⟩
    refine ⟨"amount", (.int 0), (PyData.int 0).shown, rfl, ((Th.zero (p := p) (C := C) (H := _)).ext xa).sh' sb, fun l2 Hc ec sc nc => ?_⟩
    have xc := (xa.trans (ext_same sb)).trans (ext_same sc)
    replace od := od.ext xc
    replace om := om.ext xc
    replace ha := ha.ext xc
    replace tb := tabs_same (tabs_same ta sb) sc
    replace kk := kk.ext xc
    replace hp := hp.ext xc
    refine ⟨_, _, dp_tld (sc _ _ eb), dp_tld ec, shp_tld (by decide +kernel) (Th.ok (Th.zero (p := p) (C := C) (H := H))), shp_tld (by decide +kernel) (Th.ok (Th.zero (p := p) (C := C) (H := H))), _, rfl, ite_tld ?_⟩
    clear ec eb sb sc nb nc xa xc ta
    refine ⟨tb, fun Ha xa ta => ttd_gen (CC := CE) (k := "amount") (p := p) (z := rTxt 0 1) (.inr ⟨rfl, rfl⟩) (fun Ex H0 Qd s0 rf => ?_) (fun l Hb eb sb nb => ?_)⟩
    · have x0 := xa.trans (ext_same s0)
      have ha := ha.ext x0
      obtain ⟨z1, dx, pl, e1, _⟩ := id ha.1
      refine ⟨_, rfl, a, dx, _, rfl, e1, am_no _ _ _ (by decide +kernel) (by decide +kernel) (by decide +kernel), 0, 7, rfl, by decide, by decide +kernel, by decide +kernel, fun x t7 b7 H5 lw am s5 n5 => ?_⟩
      have e7 := lw.is (by decide)
      rw [show lo 0 7 = (0, 1) from by decide +kernel] at e7
      cases e7
      exact .inr ⟨.ref a, .ref x, 1, rfl, .inl ⟨x, rfl, am, by decide⟩, fun Hz sz => rf (.ref x) Hz (s5.trans sz) (.am (am.same sz) (by decide +kernel) (by decide +kernel))⟩
    refine ⟨0, 1, rfl, by decide, by decide +kernel, by decide +kernel, fun x t7 b7 H5 lw am s5 n5 => ?_⟩
    have e7 := lw.is (by decide)
    rw [show lo 0 1 = (0, 1) from by decide +kernel] at e7
    cases e7
    have th5 : Th p C H5 (.ref x) (rTxt 0 1) := .am am (by decide +kernel) (by decide +kernel)
    refine ⟨"amount", .ref x, rTxt 0 1, rfl, th5.sh, fun l2 Hc ec sc nc => ?_⟩
    have xc := (xa.trans (ext_same sb)).trans (ext_same (s5.trans sc))
    replace od := od.ext xc
    replace om := om.ext xc
    replace ha := ha.ext xc
    replace tb := tabs_same (tabs_same ta sb) (s5.trans sc)
    replace kk := kk.ext xc
    replace hp := hp.ext xc
    refine ⟨_, _, dp_tld (sc _ _ (s5 _ _ eb)), dp_tld ec, shp_tld (by decide +kernel) (Th.ok th5), shp_tld (by decide +kernel) (Th.ok th5), _, rfl, ite_tld ?_⟩
    clear ec eb sb sc nb nc xa xc ta s5 th5 am lw n5
    refine ⟨tb, fun Ha xa ta => ttd_of (CC := CE) (k := "amount") (v := vm) (z := dm.shown) (.inr ⟨rfl, rfl⟩) ((Th.odd (C := C) om).ext xa) (fun Ex H0 Qd s0 rf => ?_) (fun l Hb eb sb nb => ?_)⟩
    · have x0 := xa.trans (ext_same s0)
      have od := od.ext x0
      have om := om.ext x0
      have ha := ha.ext x0
      refine ⟨0, 1, rfl, by decide, by decide +kernel, by decide +kernel, fun x t7 b7 H5 lw am s5 n5 => ?_⟩
      obtain ⟨z1, dx, pl, e1, _⟩ := id am
      exact ⟨x, dx, _, rfl, e1, am_no _ _ _ (by decide +kernel) (by decide +kernel) (by decide +kernel), _, rfl, .inl ⟨.ref x, vm, rfl, (om.same s5).noAm T.na T.na_d, rf _ s5⟩⟩
    refine ⟨_, rfl, "amount", vm, dm.shown, rfl, ((Th.odd (C := C) om).ext xa).sh' sb, fun l2 Hc ec sc nc => ?_⟩
    have xc := (xa.trans (ext_same sb)).trans (ext_same sc)
    replace od := od.ext xc
    replace om := om.ext xc
    replace ha := ha.ext xc
    replace tb := tabs_same (tabs_same ta sb) sc
    replace kk := kk.ext xc
    replace hp := hp.ext xc
    refine ⟨_, _, dp_tld (sc _ _ eb), dp_tld ec, shp_tld (by decide +kernel) (Th.ok (Th.odd (C := C) om)), shp_tld (by decide +kernel) (Th.ok (Th.odd (C := C) om)), _, rfl, ite_tld ?_⟩
    clear ec eb sb sc nb nc xa xc ta
    refine ⟨tb, fun Ha xa ta => ttd_of (CC := CE) (k := "amount") (v := vo) (z := d.shown) (.inr ⟨rfl, rfl⟩) ((Th.odd (C := C) od).ext xa) (fun Ex H0 Qd s0 rf => ?_) (fun l Hb eb sb nb => ?_)⟩
    · have x0 := xa.trans (ext_same s0)
      have od := od.ext x0
      have om := om.ext x0
      have ha := ha.ext x0
      exact ⟨rfl, _, rfl, _, rfl, _, rfl, [.int (n - 25)], [vm], vo, [(n - 25, 1)], 10, rfl, (by show 3 ≤ 2900; decide), ⟨.inr ⟨rfl, rfl⟩, nb, trivial⟩, (by show 11 * 2 ≤ 2900; decide), (od.noAm T.na T.na_d), rf⟩
    refine ⟨_, rfl, "amount", vo, d.shown, rfl, ((Th.odd (C := C) od).ext xa).sh' sb, fun l2 Hc ec sc nc => ?_⟩
    have xc := (xa.trans (ext_same sb)).trans (ext_same sc)
    replace od := od.ext xc
    replace om := om.ext xc
    replace ha := ha.ext xc
    replace tb := tabs_same (tabs_same ta sb) sc
    replace kk := kk.ext xc
    replace hp := hp.ext xc
    refine ⟨_, _, dp_tld (sc _ _ eb), dp_tld ec, shp_tld (by decide +kernel) (Th.ok (Th.odd (C := C) od)), shp_tld (by decide +kernel) (Th.ok (Th.odd (C := C) od)), _, rfl, ite_tld ?_⟩
    clear ec eb sb sc nb nc xa xc ta
    refine ⟨tb, fun Ha xa ta => ttd_of (CC := CE) (k := "amount") (v := vm) (z := dm.shown) (.inr ⟨rfl, rfl⟩) ((Th.odd (C := C) om).ext xa) (fun Ex H0 Qd s0 rf => ?_) (fun l Hb eb sb nb => ?_)⟩
    · have x0 := xa.trans (ext_same s0)
      have od := od.ext x0
      have om := om.ext x0
      have ha := ha.ext x0
      exact ⟨rfl, _, rfl, _, rfl, _, rfl, _, rfl, [.ref a, .int (n - 25), .ref a], [], vm, [fr, (n - 25, 1), fr], 50, rfl, (by show 4 ≤ 2900; decide), ⟨ha.av, bf, .inr ⟨rfl, rfl⟩, nb.mono (by decide), ha.av, bf, trivial⟩, (by show 51 * 4 ≤ 2900; decide), (om.noAm T.na T.na_d), rf⟩
    refine ⟨_, rfl, "amount", vm, dm.shown, rfl, ((Th.odd (C := C) om).ext xa).sh' sb, fun l2 Hc ec sc nc => ?_⟩
    have xc := (xa.trans (ext_same sb)).trans (ext_same sc)
    replace od := od.ext xc
    replace om := om.ext xc
    replace ha := ha.ext xc
    replace tb := tabs_same (tabs_same ta sb) sc
    replace kk := kk.ext xc
    replace hp := hp.ext xc
    refine ⟨_, _, dp_tld (sc _ _ eb), dp_tld ec, shp_tld (by decide +kernel) (Th.ok (Th.odd (C := C) om)), shp_tld (by decide +kernel) (Th.ok (Th.odd (C := C) om)), _, rfl, ite_tld ?_⟩
    clear ec eb sb sc nb nc xa xc ta
    refine ⟨tb, fun Ha xa ta => ttd_of (CC := CE) (k := "amount") (v := vo) (z := d.shown) (.inr ⟨rfl, rfl⟩) ((Th.odd (C := C) od).ext xa) (fun Ex H0 Qd s0 rf => ?_) (fun l Hb eb sb nb => ?_)⟩
    · have x0 := xa.trans (ext_same s0)
      have od := od.ext x0
      have om := om.ext x0
      have ha := ha.ext x0
      exact ⟨rfl, _, rfl, [], [], vo, [], 0, rfl, (by show 1 ≤ 2900; decide), trivial, (by show 1 * 1 ≤ 2900; decide), (od.noAm T.na T.na_d), rf⟩
    refine ⟨_, rfl, "amount", vo, d.shown, rfl, ((Th.odd (C := C) od).ext xa).sh' sb, fun l2 Hc ec sc nc => ?_⟩
    have xc := (xa.trans (ext_same sb)).trans (ext_same sc)
    replace od := od.ext xc
    replace om := om.ext xc
    replace ha := ha.ext xc
    replace tb := tabs_same (tabs_same ta sb) sc
    replace kk := kk.ext xc
    replace hp := hp.ext xc
    refine ⟨_, _, dp_tld (sc _ _ eb), dp_tld ec, shp_tld (by decide +kernel) (Th.ok (Th.odd (C := C) od)), shp_tld (by decide +kernel) (Th.ok (Th.odd (C := C) od)), ?_⟩
    rw [eqv_tld]
    exact q Hc hp tb kk
end
end SP
/-! A law's end with tables of code objects, where no repr is running. -/
namespace SP
open PySem PySem.Spec PyProof.Rows L2 LamX
theorem law_callGT {P : Program} {w : World} {K : PySem.W.Frag} {mg mb : Str → Option Value} {CX : CXT} {k : Nat} {fa a : Addr} {cs : List (Addr × Addr)} {fd : FuncData} {x : Str} {sp : Sp} {s₁ : Shared} {vs : List Value} {ns : List Int}
    (KX : K.In s₁.heap) (hns : s₁.heap.Ns mainGlobals mg) (hb : s₁.heap.Ns builtinsNs mb) (hbb : ∀ x : Str, x ≠ "__name__" → mb x = bootBuiltins x) (hlim : s₁.heap.NoLimit) (hg : s₁.gens = #[])
    (eT : ∀ p ∈ cs, s₁.heap.get? p.2 = some { cls := .none, data := .fields #[] }) (nT : ∀ p ∈ cs, K.lookup p.2 = none) (C : ∀ p ∈ cs, PySem.W.CodeHd s₁.heap p.1 p.2)
    (hbm : ∃ (bm : Addr) (ob : Obj), mg "__builtins__" = some (.ref bm) ∧ bm ≠ builtinsNs ∧ s₁.heap.get? bm = some ob ∧ ob.cls = .type "module" ∧ ob.dict = some builtinsNs ∧ ob.data = .plain)
    (ha : s₁.heap.get? a = some { cls := .type "list", data := .seq vs.toArray }) (hi : IntsAre vs ns) (hl : ns.length ≤ sizeLine) (hr : Room k callerA)
    (F : ∀ base : Heap, K.In base → base.Ns mainGlobals mg → (∀ p ∈ cs, TabB base mg p.1 p.2) → FnG P w K mg base CX k fa fd [x] sp) (hbind : ∀ (s : Shared) (u : Value), BindsTo s fd ⟨[u], []⟩ [(x, u)])
    (hsp : ∀ H : Hp, (∀ p ∈ cs, H p.2 = some (.tbl #[])) → SqL K H a (ns.map V.int) → sp [.ref a] H (fun v _ => v = .bl true) fun _ _ _ => False)
    (hCX : ∀ H e s', CX [] H s₁ (fun _ _ _ => False) e s' → False) :
    codeAny (model P w) callerA (.call (.ref fa) ⟨[.ref a], []⟩) (fun r s' => r = .ok (.ret (.bool true)) ∧ OldK s₁.heap s'.heap ∧ s'.os = s₁.os ∧ AllBare s'.gens) s₁ := by
  have rv := vals_ints hi
  have vl := hi.length
  have tabAt : ∀ b : Addr, b ∈ cs.map (·.2) → s₁.heap.get? b = some { cls := .none, data := .fields #[] } := fun b hb => by
    obtain ⟨p, hp, rfl⟩ := List.mem_map.mp hb
    exact eT p hp
  have inT : ∀ p ∈ cs, p.2 ∈ cs.map (·.2) := fun p hp => List.mem_map_of_mem hp
  have notT : a ∉ cs.map (·.2) := fun z => by
    have q := tabAt a z
    rw [ha] at q
    cases (show Data.seq vs.toArray _ = Data.fields #[] from congrArg Obj.data (Option.some.inj q))
  suffices core : ∀ H : Hp, (∀ p ∈ cs, H p.2 = some (.tbl #[])) → (∀ b, H b = none ∨ b ∈ cs.map (·.2) ∨ ∃ o xs, H b = some (.frz o (.lst xs))) → SqL K H a (ns.map V.int) → HOk P w H s₁.heap → (∀ b, H b ≠ none → b = a ∨ b ∈ cs.map (·.2)) → (H a ≠ none → K.lookup a = none) →
      codeAny (model P w) callerA (.call (.ref fa) ⟨[.ref a], []⟩) (fun r s' => r = .ok (.ret (.bool true)) ∧ OldK s₁.heap s'.heap ∧ s'.os = s₁.os ∧ AllBare s'.gens) s₁ by
    by_cases hk : ∃ o, K.lookup a = some o
    · obtain ⟨o, hk⟩ := hk
      have e := KX a o hk
      rw [ha] at e
      cases e
      let H0 : Hp := fun b => if b ∈ cs.map (·.2) then some (.tbl #[]) else none
      have y0 : ∀ b, b ∈ cs.map (·.2) → H0 b = some (.tbl #[]) := fun b h => if_pos h
      have n0 : ∀ b, ¬ b ∈ cs.map (·.2) → H0 b = none := fun b h => if_neg h
      refine core H0 (fun p hp => y0 _ (inT p hp)) (fun b => ?_) (Or.inr ⟨_, vs.toArray, _, hk, rfl, rfl, rfl, ?_, by simpa using rv⟩) (fun b u z => ?_) (fun b z => ?_) (fun z => absurd (n0 a notT) z)
      · by_cases hb : b ∈ cs.map (·.2)
        · exact .inr (.inl hb)
        · exact .inl (n0 b hb)
      · rw [List.size_toArray, vl]
        exact hl
      · by_cases hb : b ∈ cs.map (·.2)
        · rw [y0 b hb] at z
          cases z
          exact tabAt b hb
        · rw [n0 b hb] at z
          cases z
      · by_cases hb : b ∈ cs.map (·.2)
        · exact .inr hb
        · exact absurd (n0 b hb) z
    · have hk0 : K.lookup a = none := by
        cases e : K.lookup a with
        | none => rfl
        | some o => exact absurd ⟨o, e⟩ hk
      let H1 : Hp := fun b => if b = a then some (.frz { cls := .type "list", data := .seq vs.toArray } (.lst (ns.map V.int))) else if b ∈ cs.map (·.2) then some (.tbl #[]) else none
      have ya : H1 a = some (.frz { cls := .type "list", data := .seq vs.toArray } (.lst (ns.map V.int))) := if_pos rfl
      have yt : ∀ b, b ∈ cs.map (·.2) → H1 b = some (.tbl #[]) := fun b h => (if_neg (show ¬ b = a from fun z => notT (z ▸ h))).trans (if_pos h)
      have yn : ∀ b, ¬ b = a → ¬ b ∈ cs.map (·.2) → H1 b = none := fun b h h' => (if_neg h).trans (if_neg h')
      refine core H1 (fun p hp => yt _ (inT p hp)) (fun b => ?_) (Or.inl (Or.inr ⟨_, ya⟩)) (fun b u z => ?_) (fun b z => ?_) fun _ => hk0
      · by_cases h1 : b = a
        · exact Or.inr (Or.inr ⟨_, _, by rw [h1]; exact ya⟩)
        · by_cases h2 : b ∈ cs.map (·.2)
          · exact .inr (.inl h2)
          · exact .inl (yn b h1 h2)
      · by_cases h1 : b = a
        · subst h1
          rw [ya] at z
          cases z
          exact ⟨ha, by rw [List.length_map]; exact hl, vs, _, rv, ha⟩
        · by_cases h2 : b ∈ cs.map (·.2)
          · rw [yt b h2] at z
            cases z
            exact tabAt b h2
          · rw [yn b h1 h2] at z
            cases z
      · by_cases h1 : b = a
        · exact .inl h1
        · by_cases h2 : b ∈ cs.map (·.2)
          · exact .inr h2
          · exact absurd (yn b h1 h2) z
  intro H hH hO hS hok hA hK
  have keepG : ∀ {b : Addr} {o : Obj}, s₁.heap.get? b = some o → H b = none → (hidT s₁.heap H).get? b = some o := fun e n => hidT_get e n
  have free : ∀ {b : Addr} {o : Obj}, s₁.heap.get? b = some o → (∀ vs n, o.data ≠ .seq vs n) → o.data ≠ .fields #[] → H b = none := by
    intro b o e h1 h2
    by_cases q : H b = none
    · exact q
    · rcases hA b q with e' | e'
      · rw [e', ha] at e
        cases e
        exact (h1 _ _ rfl).elim
      · rw [tabAt b e'] at e
        cases e
        exact (h2 rfl).elim
  have dictG : ∀ {b : Addr} {o : Obj} {es : Array DictEntry} {ep : Nat}, s₁.heap.get? b = some o → o.data = .dict es ep → H b = none := by
    intro b o es ep e d
    refine free e (fun vs n z => ?_) fun z => ?_
    · cases d.symm.trans z
    · cases d.symm.trans z
  have nsG : ∀ {b : Addr} {m : Str → Option Value}, s₁.heap.Ns b m → (hidT s₁.heap H).Ns b m := by
    intro b m ⟨o, es, ep, e, d, r⟩
    exact ⟨o, es, ep, keepG e (dictG e d), d, r⟩
  have kG : K.In (hidT s₁.heap H) := by
    intro b o e
    refine keepG (KX b o e) ?_
    by_cases q : H b = none
    · exact q
    · rcases hA b q with e' | e'
      · rw [e', hK (by rw [← e']; exact q)] at e
        cases e
      · obtain ⟨p, hp, ep⟩ := List.mem_map.mp e'
        rw [← ep, nT p hp] at e
        cases e
  have M : Mod K mg (hidT s₁.heap H) := ⟨kG, nsG hns, ⟨mb, nsG hb, hbb⟩, let ⟨mc, q1, q2⟩ := hlim; ⟨mc, nsG q1, q2⟩⟩
  have TB : ∀ p ∈ cs, TabB (hidT s₁.heap H) mg p.1 p.2 := by
    intro p hp
    have eP := eT p hp
    have c0 : PySem.W.CodeHd (hidT s₁.heap H) p.1 p.2 := by
      obtain ⟨o, us, file, tf, flags, tg, inF, text, tt, e1, r1, r2, r3, r⟩ := C p hp
      refine ⟨o, us, file, tf, flags, tg, inF, text, tt, keepG e1 (free e1 (fun vs n z => ?_) fun z => ?_), r1, r2, r3, r⟩
      · cases r2.symm.trans z
      · cases r2.symm.trans z
        simp at r3
    have b0 : (hidT s₁.heap H).BuiltinsAt mg p.2 := by
      obtain ⟨bm, ob, b1, b2, b3, b4, b5, b6⟩ := hbm
      have gne : bm ≠ mainGlobals := fun q => by
        obtain ⟨o, es, ep, e, hd, _⟩ := hns
        rw [q, e] at b3
        cases b3
        cases hd.symm.trans b6
      have pne : bm ≠ p.2 := fun q => by
        rw [q, eP] at b3
        cases b3
        cases b6
      refine ⟨bm, ob, b1, b2, gne, pne, keepG b3 (free b3 (fun vs n z => ?_) fun z => ?_), b4, b5, b6⟩
      · cases b6.symm.trans z
      · cases b6.symm.trans z
    refine ⟨c0, b0, fun z => ?_⟩
    obtain ⟨o, es, ep, e, hd, _⟩ := hns
    rw [z, eP] at e
    cases e
    cases hd
  have e0 : Env0 P w K mg (hidT s₁.heap H) callerA [] s₁ H := ⟨rfl, M, fun b o e => of_hidT e, Nat.le_of_eq (hidT_size _ _), trivial, fun b hb => (List.not_mem_nil (show b ∈ ([] : List Addr) from hb)).elim, hok, .of_eq hg⟩
  refine codeAny_mono ((F _ kG (nsG hns) TB).grun callerA [] s₁ H ⟨[.ref a], []⟩ [.ref a] [.ref a] _ _ rfl hr e0 (hbind s₁ (.ref a)) (.cons rfl .nil) (hsp H hH hS)) ?_
  intro r s' h
  match r, h with
  | .error e, h => exact (hCX H e s' h).elim
  | .ok (.ret u), ⟨v, H', os, bare, un, hok', r', q⟩ =>
    have q' : v = .bl true := q
    subst q'
    have r2 : u = Value.bool true := r'
    subst r2
    have stays : ∀ b o, b ∉ cs.map (·.2) → s₁.heap.get? b = some o → s'.heap.get? b = some o := by
      intro b o nb e
      rcases hO b with z | z | ⟨ob, xs, z⟩
      · exact un.keep b o e z (fun hm => (List.not_mem_nil (show b ∈ ([] : List Addr) from hm)).elim) (fun hm => (List.not_mem_nil hm).elim)
      · exact absurd z nb
      · have z2 := un.frzs b ob _ z
        have e1 := (hok b _ z).1
        have e2 := (hok' b _ z2).1
        rw [e] at e1
        cases e1
        exact e2
    have grew : ∀ p ∈ cs, ∃ more : Array Value, s'.heap.get? p.2 = some { cls := .none, data := .fields more } := by
      intro p hp
      obtain ⟨more, z⟩ := un.tbls p.2 #[] (hH p hp)
      exact ⟨_, hok' p.2 _ z⟩
    refine ⟨rfl, ⟨fun b o e => ?_, fun b o e => ?_⟩, os, bare⟩
    · by_cases hb : b ∈ cs.map (·.2)
      · obtain ⟨p, hp, ep⟩ := List.mem_map.mp hb
        obtain ⟨more, hm⟩ := grew p hp
        rw [← ep] at e ⊢
        rw [eT p hp] at e
        cases e
        exact .inr (.inl ⟨((C p hp).tab (eT p hp)).isCodeTable, rfl, #[], more, rfl, by rw [Array.empty_append]; exact hm⟩)
      · exact .inl (stays b o hb e)
    · by_cases hb : b ∈ cs.map (·.2)
      · obtain ⟨p, hp, ep⟩ := List.mem_map.mp hb
        obtain ⟨more, hm⟩ := grew p hp
        rw [← ep]
        exact ⟨_, hm⟩
      · exact ⟨o, stays b o hb e⟩
theorem walk_ofGT {l : PySem.W.OpenLaw} {n k : Nat} {q : Program} {loose : List Str} {XP : (Str → Option Value) → Heap → Prop} {YP : World → Heap → Prop} {d : DefRec} {K : Params → PySem.W.Frag} {CX : World → CXT} {x : Str}
    (hn : l.most = some n) (hn2 : n ≤ sizeLine) (hdf : d.params.defaults = []) (hr : Room k callerA) (hY : ∀ (w : World) (h : Heap), YP w h → (K w.params).In h)
    (F : ∀ (w : World) (mg : Str → Option Value) (fa : Addr) (h : Heap), YP w h → (K w.params).In h → h.Ns mainGlobals mg → mg d.name = some (.ref fa) →
      ∃ (fd : FuncData) (cs : List (Addr × Addr)) (sp : Sp), (∀ p ∈ cs, h.get? p.2 = some { cls := .none, data := .fields #[] }) ∧ (∀ p ∈ cs, (K w.params).lookup p.2 = none) ∧ (∀ p ∈ cs, PySem.W.CodeHd h p.1 p.2) ∧ (∀ (s : Shared) (u : Value), BindsTo s fd ⟨[u], []⟩ [(x, u)]) ∧
        (∀ (H : Hp) (a : Addr) (ns : List Int), ns.length ≤ n → (∀ p ∈ cs, H p.2 = some (.tbl #[])) → SqL (K w.params) H a (ns.map V.int) → sp [.ref a] H (fun v _ => v = .bl true) fun _ _ _ => False) ∧
        ∀ base : Heap, (K w.params).In base → base.Ns mainGlobals mg → (∀ p ∈ cs, TabB base mg p.1 p.2) → FnG l.prog w (K w.params) mg base (CX w) k fa fd [x] sp)
    (hCX : ∀ (w : World) (H : Hp) (s : Shared) (e : Value) (s' : Shared), CX w [] H s (fun _ _ _ => False) e s' → False) :
    PySem.W.WalkO q loose XP YP l.row.toRowW d [] (fun f vs => PySem.call f vs) := by
  refine Att.attach_callB hn hdf ?_
  intro w s₀ s₁ mg mb fa o pm cd doc a vs ns G Y ho hd hcd hmg hobj hints hlen hbits hg
  obtain ⟨fd, cs, sp, eT, nT, C, hb, hsp, hF⟩ := F w mg fa _ Y (hY w _ Y) G.T.g hmg
  exact law_callGT (hY w _ Y) G.T.g G.T.b G.T.builtins G.T.nolimit hg eT nT C G.T.bmain hobj hints (Nat.le_trans hlen hn2) hr hF hb (fun H hH hS => hsp H a ns hlen hH hS) fun H e s' => hCX w H s₁ e s'
end SP
namespace SP
open PySem PySem.Spec PyProof.Rows L2 LamX


section
variable {P : Program} {w : World} {K : PySem.W.Frag} {mg : Str → Option Value} {base : Heap} {C CI CE CP c1 P1 c2 P2 : Addr}
theorem pe_bot {X : Cx} {e : Expr} {te : TE} {pos : Pos} (he : PE X e te) (T : AmTxt X.K X.mg C) (B : PropT X.K C "bottom" "Amount.bottom" sMBot) (hr : Room 2 X.A) (hab : attributeBase e "bottom" X.env (eval e X.env) = eval e X.env := by rfl) : PE X (.Attribute e "bottom" pos) (tProp C (spBot C) [] E0 te) :=
  let ⟨_, _, _, hp, F, hb⟩ := B.ex
  pe_prop he T.cl hp (ok_Bot F T) hr hb .nil pass0 hab
def spRight (TS : List (Addr × Str)) : Sp := fun vs H Q _ => ∃ (p : Addr), vs = [.ref p] ∧ Pot H p ∧ Tabs TS H ∧ ∀ H', Tabs TS H' → KpN p H H' → Q (.bl true) H'
theorem scRight : FnScope ["_law_pot_here", "_law_made", "_law_before", "_law_turn"] ["_law_pot_here"] (defScope sRight) := ⟨rfl, rfl, rfl, by decide +kernel, rfl, by decide +kernel, by decide +kernel⟩
theorem lst_strOk {t b : Int} {z : Str} (hz : PyData.strOk z = true) : SeqAt.shaped (.list [.int t, .int b, .str z]) = true := by simp [SeqAt.shaped, PyData.canLay0, PyData.canLayAll0, hz, PyData.depth, PyData.depthAll]
theorem sTxt_ok (t b : Int) : PyData.strOk (sTxt t b) = true := by
  unfold sTxt
  split
  · exact strOk_of _
  · exact strOk_app (strOk_app (strOk_app (by decide +kernel) (strOk_of _)) (by decide +kernel)) (strOk_of _)
def tl1 : Str := "_law_parts_right.<locals>.<lambda>"
def tl2 : Str := "_law_uses_right.<locals>.<lambda>"
theorem d_right (T : LTxt K mg C CI CE CP c1 P1 c2 P2) (RI : ErrOk P w K mg base "InvalidInteger" CI (Str.ofString "value")) (RA : ErrOk P w K mg base "InvalidAmount" CE (Str.ofString "value")) (TB1 : TabB base mg c1 P1) (TB2 : TabB base mg c2 P2) (hne : P1 ≠ P2) :
    DefG P w K mg base 12 "_law_right" ["_law_pot_here"] (spRight [(P1, tl1), (P2, tl2)]) := by
  have DD := d_draw (P := P) (w := w) (base := base) T.pot
  have DLk := d_looks (P := P) (w := w) (base := base) T
  have DPt := d_parts (TS := [(P1, tl1), (P2, tl2)]) T RI TB1 (List.mem_cons_self) (fun y hy e => by
    rcases List.mem_cons.mp hy with rfl | hy
    · rfl
    · rw [List.mem_singleton.mp hy] at e
      exact absurd e.symm hne)
  have DUs := d_uses (TS := [(P1, tl1), (P2, tl2)]) T RA TB2 (List.mem_cons_of_mem _ (List.mem_singleton.mpr rfl)) (fun y hy e => by
    rcases List.mem_cons.mp hy with rfl | hy
    · exact absurd e hne
    · rw [List.mem_singleton.mp hy]
      rfl)
  refine T.tRight.ok scRight (fun vs H Q E h => ?_) (fun f cdv A out s H vs Q E gd hr h => ?_)
  · obtain ⟨p, rfl, _⟩ := h
    rfl
  · obtain ⟨p, rfl, hp, tb, q⟩ := h
    refine ⟨_, (pss_cons (ps_set (i := 1) scRight.nd rfl (Or.inl rfl) (pe_callC (rn_amount T.toAmTxt (hr.mono (by decide))) T.gC (kpC T.toAmTxt) (pa_cons (pe_op op_sub (pe_callD DD gd (hr.mono (by decide)) (pa_cons (pv 0) (pa_cons (pe_op op_pow pe_int pe_int) pa_nil))) (pe_op op_pow pe_int pe_int)) (pa_cons (pe_op op_add pe_int (pe_callD DD gd (hr.mono (by decide)) (pa_cons (pv 0) (pa_cons (pe_op op_pow pe_int pe_int) pa_nil)))) pa_nil))))
  (pss_cons (ps_set (i := 2) scRight.nd rfl (Or.inl rfl) (pe_lst (pa_cons (pe_top (pv 1) T.toAmTxt T.cmp (hr.mono (by decide))) (pa_cons (pe_bot (pv 1) T.toAmTxt T.bot (hr.mono (by decide))) (pa_cons (pe_callTy (call_strAm T.toAmTxt T.cmp (hr.mono (by decide))) (by rfl) T.b_str (by decide +kernel) (pa_cons (pv 1) pa_nil)) pa_nil)))))
  (pss_cons (ps_for PassesOwn.never rfl (pi_range1 (by rfl) T.b_range (pa_cons pe_int pa_nil)) (pg_name (i := 3) scRight.nd rfl (Or.inl rfl)) (pss_cons (ps_if (PW.pt (pw_or (pt_not (pt_val (pe_callD DLk gd (hr.mono (by decide)) (pa_cons (pv 0) (pa_cons (pv 1) pa_nil))))) (pw_or1 (pt_not (pt_val (pe_callD DPt gd (hr.mono (by decide)) (pa_cons (pv 0) (pa_cons (pv 1) pa_nil)))))))) (pss_one (ps_ret pe_bl)) pss_nil)
  (pss_one (ps_if (pt_not (pt_val (pe_callD DUs gd (hr.mono (by decide)) (pa_cons (pv 0) (pa_cons (pv 1) pa_nil))))) (pss_one (ps_ret pe_bl)) pss_nil))))
  (pss_one (ps_ret (pe_cmpR (op_eqD (hr.units)) (pe_lst (pa_cons (pe_top (pv 1) T.toAmTxt T.cmp (hr.mono (by decide))) (pa_cons (pe_bot (pv 1) T.toAmTxt T.bot (hr.mono (by decide))) (pa_cons (pe_callTy (call_strAm T.toAmTxt T.cmp (hr.mono (by decide))) (by rfl) T.b_str (by decide +kernel) (pa_cons (pv 1) pa_nil)) pa_nil)))) (pv 2) (nomark _))))))), ?_⟩
    refine ⟨_, rfl, _, _, rfl, rfl, ⟨by decide, by decide, by decide⟩, p, _, rfl, hp, by decide, by decide, fun n H1 n0 n1 p1 k1 => ?_⟩
    refine ⟨_, _, rfl, rfl, ⟨by decide, by decide, by decide⟩, _, _, rfl, rfl, ?_⟩
    refine ⟨_, rfl, _, _, rfl, rfl, ⟨by decide, by decide, by decide⟩, p, _, rfl, p1, by decide, by decide, fun m H2 m0 m1 p2 k2 => ?_⟩
    refine ⟨_, _, rfl, rfl, ?_⟩
    have n1 : n < 1000000000000 := n1
    have m1 : m < 1000000 := m1
    have e11 : (10 : Int) ^ Int.toNat 11 = 100000000000 := by decide +kernel
    rw [e11]
    have b50 : (2 : Nat) ^ 50 = 1125899906842624 := by decide +kernel
    have b80 : (2 : Nat) ^ 50 ≤ 2 ^ 8000 := Nat.pow_le_pow_right (by decide) (by decide)
    refine ⟨n - 100000000000, 1 + m, rfl, by omega, by omega, by omega, fun a t b H3 lw am s3 n3 => ?_⟩
    have ha : AA C H3 a (t, b) := ⟨am, lw.pos, lw.one⟩
    have bf : Bd 50 (t, b) := ⟨Nat.lt_of_le_of_lt lw.lt (by omega), Nat.lt_of_le_of_lt lw.lb (by omega)⟩
    have bf19 := bf.mono (show 50 ≤ 1900 by decide)
    have hp3 := p2.same s3
    obtain ⟨x0, hx0⟩ := hp.lst
    have tb3 : Tabs [(P1, tl1), (P2, tl2)] H3 := tabs_same (tabs_kp tb hx0 (k1.trans k2)) s3
    have kk3 : KpN p H H3 := KpN.of ((k1.trans k2).trans (Kp.of s3))
    obtain ⟨z1, dx, pl, e1, _⟩ := id am
    refine ⟨_, rfl, a, dx, _, rfl, e1, a, t, b, rfl, am, _, rfl, a, dx, _, rfl, e1, a, t, b, rfl, am, _, rfl, a, t, b, rfl, am, bf19.1, bf19.2, (by show 3 ≤ sizeLine; decide), fun l nl => ?_⟩
    obtain ⟨H4, e4, s4, l4⟩ := mko nl (.lst [.int t, .int b, .str (sTxt t b)])
    rw [e4]
    have lp : l ≠ p := fun e => by
      obtain ⟨c0, c1, c2, _⟩ := hp3
      rw [e, c2] at nl
      cases nl
    refine ⟨3, rfl, by decide, by decide, ?_⟩
    refine for_it (walk_range (lo := 0) (n := 3)) (fun i σ H' => ∃ o3 : Option V, σ = [some (.ref p), some (.ref a), some (.ref l), o3] ∧ Pot H' p ∧ AA C H' a (t, b) ∧ H' l = some (.lst [.int t, .int b, .str (sTxt t b)]) ∧ Tabs [(P1, tl1), (P2, tl2)] H' ∧ KpN p H H')
      ⟨_, rfl, hp3.same s4, AA.same ha s4, l4, tabs_same tb3 s4, kk3.trans (KpN.of (Kp.of s4))⟩ (fun i σ H' _ k => trivial) (fun i v σ H' H'' hi k y => ?_) (fun σ H' k => ?_)
    · obtain ⟨o3, rfl, hp5, ha5, l5, tb5, kk5⟩ := k
      obtain ⟨rfl, rfl⟩ := y
      refine ⟨_, rfl, _, rfl, p, a, (t, b), rfl, hp5, ha5, fun H6 p6 k6 => ⟨true, rfl, iteF ?_⟩⟩
      obtain ⟨x5, hx5⟩ := hp5.lst
      have ha6 : AA C H6 a (t, b) := ⟨ha5.1.kp k6 hx5, ha5.2⟩
      have l6 := k6 _ _ l5 lp
      have tb6 := tabs_kp tb5 hx5 k6
      refine ⟨_, rfl, _, rfl, p, a, (t, b), rfl, p6, ha6, bf, tb6, fun H7 p7 tb7 k7 => ⟨true, rfl, iteF ?_⟩⟩
      obtain ⟨x6, hx6⟩ := p6.lst
      have amN : ∀ {G G' : Hp} {xs : List V}, G p = some (.lst xs) → KpN p G G' → AA C G a (t, b) → AA C G' a (t, b) := fun {G G' xs} hx kN h => by
        obtain ⟨⟨y0, y1, y2, y3, y4⟩, y5⟩ := h
        exact ⟨⟨y0, y1, y2, kN _ _ y3 (ne_of y3 hx (fun z => nomatch z)) (fun _ z => nomatch z), kN _ _ y4 (ne_of y4 hx (fun z => nomatch z)) (fun _ z => nomatch z)⟩, y5⟩
      have ha7 := amN hx6 k7 ha6
      have l7 := k7 _ _ l6 lp (fun _ z => nomatch z)
      refine ⟨_, rfl, _, rfl, p, a, (t, b), rfl, p7, ha7, bf, tb7, fun H8 p8 tb8 k8 => ⟨true, rfl, iteF ?_⟩⟩
      obtain ⟨x7, hx7⟩ := p7.lst
      exact ⟨_, rfl, p8, amN hx7 k8 ha7, k8 _ _ l7 lp (fun _ z => nomatch z), tb8, ((kk5.trans (KpN.of k6)).trans k7).trans k8⟩
    · obtain ⟨o3, rfl, hp5, ha5, l5, tb5, kk5⟩ := k
      obtain ⟨⟨y0, y1, y2, y3, y4⟩, y5⟩ := id ha5
      have am5 := ha5.1
      refine ⟨_, rfl, a, y1, _, rfl, y3, a, t, b, rfl, am5, _, rfl, a, y1, _, rfl, y3, a, t, b, rfl, am5, _, rfl, a, t, b, rfl, am5, bf19.1, bf19.2, (by show 3 ≤ sizeLine; decide), fun l2 nl2 => ?_⟩
      have dp : ∀ (G : Hp) (c : Addr), G c = some (.lst [.int t, .int b, .str (sTxt t b)]) → Dp K G (.ref c) (.list [.int t, .int b, .str (sTxt t b)]) := fun G c e => .lst (SqL.of e) (.cons (.int t) (.cons (.int b) (.cons (.str _) .nil)))
      refine ⟨_, rfl, _, _, dp _ _ upd_same, dp _ _ (Same.new nl2 _ _ l5), lst_strOk (sTxt_ok t b), lst_strOk (sTxt_ok t b), ?_⟩
      rw [show PyData.eqv (.list [.int t, .int b, .str (sTxt t b)]) (.list [.int t, .int b, .str (sTxt t b)]) = true from by simp [PyData.eqv, PyData.eqvAll]]
      exact q _ (tabs_same tb5 (Same.new nl2)) (kk5.trans (KpN.of (Kp.of (Same.new nl2))))
/-! ### the law -/
def spLaw (K : PySem.W.Frag) (TS : List (Addr × Str)) : Sp := fun vs H Q _ => ∃ (a : Addr) (ns : List Int), vs = [.ref a] ∧ SqL K H a (ns.map V.int) ∧ ns.length ≤ 63 ∧ Tabs TS H ∧ ∀ H', Q (.bl true) H'
theorem scLaw : FnScope ["_law_script", "_law_k"] ["_law_script"] (defScope sLaw) := ⟨rfl, rfl, rfl, by decide +kernel, rfl, by decide +kernel, by decide +kernel⟩
/-- the script's list stands, apart from D -/
def Scr (K : PySem.W.Frag) (a D : Addr) (xs : List V) (H : Hp) : Prop := (∃ u, H a = some u ∧ (∀ ps, u ≠ .tbl ps) ∧ a ≠ D ∧ ∀ G : Hp, G a = some u → SqL K G a xs) ∨ ∀ G : Hp, SqL K G a xs
theorem Scr.mk {a D : Addr} {xs : List V} {H H' : Hp} (h : SqL K H a xs) (nD : H D = none) (s : Same H H') : Scr K a D xs H' := by
  rcases h with (h | ⟨o, h⟩) | h
  · exact .inl ⟨_, s _ _ h, (fun _ z => nomatch z), ne_of_none h nD, fun G e => .inl (.inl e)⟩
  · exact .inl ⟨_, s _ _ h, (fun _ z => nomatch z), ne_of_none h nD, fun G e => .inl (.inr ⟨o, e⟩)⟩
  · exact .inr fun G => .inr h
theorem Scr.sq {a D : Addr} {xs : List V} {H : Hp} (h : Scr K a D xs H) : SqL K H a xs := h.elim (fun ⟨u, e, _, _, m⟩ => m _ e) fun m => m _
theorem Scr.step {a D p : Addr} {xs : List V} {H H1 H2 : Hp} {o : HO} (h : Scr K a D xs H) (np : H p = none) (s : Same H H1) (k : KpN p H1 H2) : Scr K a D xs (upd H2 D o) := by
  rcases h with ⟨u, e, nt, nD, m⟩ | m
  · exact .inl ⟨u, by rw [upd_ne nD]; exact k _ _ (s _ _ e) (ne_of_none e np) nt, nt, nD, m⟩
  · exact .inr m
theorem ok_law {f : Addr} {fd : FuncData} (T : LTxt K mg C CI CE CP c1 P1 c2 P2) (RI : ErrOk P w K mg base "InvalidInteger" CI (Str.ofString "value")) (RA : ErrOk P w K mg base "InvalidAmount" CE (Str.ofString "value")) (TB1 : TabB base mg c1 P1) (TB2 : TabB base mg c2 P2) (hne : P1 ≠ P2) (F : Fun K "law" "law" sLaw f fd) : FnG P w K mg base CX0 13 f fd ["_law_script"] (spLaw K [(P1, tl1), (P2, tl2)]) := by
  have DR := d_right (P := P) (w := w) (base := base) T RI RA TB1 TB2 hne
  have DPo := d_pot (P := P) (w := w) (base := base) T.pot
  refine okG0 F scLaw (fun vs H Q E h => ?_) (fun cdv A out s H vs Q E gd hr h => ?_)
  · obtain ⟨a, ns, rfl, _⟩ := h
    rfl
  · obtain ⟨a, ns, rfl, hS, hn, tb, q⟩ := h
    refine ⟨_, (pss_one (ps_ret (pe_callB (cr_all rfl) (by rfl) T.b_all (by decide +kernel) (pa_cons (pe_lc (own := [("_law_k", 1)]) (g := (gName 1)) (by rfl) scLaw.nd (pi_range1 (by rfl) T.b_range (pa_cons (pe_callB (call_max2 rfl) (by rfl) T.b_max (by decide +kernel) (pa_cons pe_int (pa_cons (pe_callB (call_min2 rfl) (by rfl) T.b_min (by decide +kernel) (pa_cons pe_int (pa_cons (pe_callB call_len (by rfl) T.b_len (by decide +kernel) (pa_cons (pv 0) pa_nil)) pa_nil))) pa_nil))) pa_nil)) (blkOk_by (own := [("_law_k", 1)]) (N := ["_law_script", "_law_k"]) (sc := defScope sLaw) (by decide +kernel)) (fun _ _ _ _ _ => (pg_name (i := 1) scLaw.nd rfl (Or.inl rfl))) (fun _ _ _ _ _ => pts_nil) (fun _ _ _ _ _ => (pe_callD DR gd (hr.mono (by decide)) (pa_cons (pe_callD DPo gd (hr.mono (by decide)) (pa_cons (pv 0) (pa_cons (pv 1) pa_nil))) pa_nil)))) pa_nil)))), ?_⟩
    refine ⟨_, rfl, _, ns.length, rfl, .inl ⟨_, hS, by rw [List.length_map]⟩, ?_⟩
    have hm : ∃ m : Nat, m ≤ 6 ∧ (if (if (ns.length : Int) < 6 then (ns.length : Int) else 6) > 1 then (if (ns.length : Int) < 6 then (ns.length : Int) else 6) else 1) = (m : Int) := by
      refine ⟨(if (if (ns.length : Int) < 6 then (ns.length : Int) else 6) > 1 then (if (ns.length : Int) < 6 then (ns.length : Int) else 6) else 1).toNat, ?_, ?_⟩ <;> split <;> split <;> omega
    obtain ⟨m, m6, em⟩ := hm
    refine ⟨_, _, rfl, _, _, rfl, m, by rw [em], by omega, by omega, fun D nD => ?_⟩
    refine lc_it (walk_range (lo := 0) (n := m)) (fun i H' => Scr K a D (ns.map V.int) H' ∧ Tabs [(P1, tl1), (P2, tl2)] H' ∧ H' D = some (.lst (List.replicate i (.bl true)))) ⟨Scr.mk hS nD (Same.new nD), tabs_same tb (Same.new nD), upd_same⟩ (fun i H' _ k => trivial) (fun i x H' H'' hi k y => ?_) (fun H' k => ?_)
    · obtain ⟨rfl, rfl⟩ := y
      obtain ⟨sq, tb1, hD⟩ := k
      refine ⟨rfl, yes_t ?_⟩
      refine ⟨_, rfl, _, rfl, a, ns, (i : Int), (by show [V.ref a, V.int (0 + (i : Int))] = _; rw [Int.zero_add]), sq.sq, hn, by omega, by omega, fun p H1 s2 np hp => ?_⟩
      refine ⟨p, rfl, hp, tabs_same tb1 s2, fun H2 tb2 k2 => ?_⟩
      have pD : D ≠ p := ne_of_none hD np
      have hD2 : H2 D = some (.lst (List.replicate i (.bl true))) := k2 _ _ (s2 _ _ hD) pD (fun _ z => nomatch z)
      have kD : Kp D H2 (upd H2 D (.lst (List.replicate i (.bl true) ++ [.bl true]))) := Kp.upd
      refine ⟨_, hD2, ?_, sq.step np s2 k2, tabs_kp tb2 hD2 kD, ?_⟩
      · rw [List.length_replicate]
        exact Nat.lt_of_lt_of_le (show i < 6 by omega) (by decide)
      · rw [upd_same, rep_add]
    · refine ⟨D, List.replicate m true, rfl, SqL.of ?_, ?_⟩
      · rw [k.2.2, List.map_replicate]
      · rw [show (List.replicate m true).all id = true from by simp]
        exact q _
end
end SP
namespace SP
open PySem PySem.Spec PyProof.Rows L2
theorem kit_own {K : PySem.W.Frag} {C : Addr} {T : String} {ms : List Value} (hC : PySem.W.isClsIn K C = true) (hT : PySem.W.typeIn K (.ref C) = some (.type "type")) (e : fastBuiltinMro T = some ms) (n : ms.contains (.ref C) = false) : PySem.W.kitOne K (.type T) (.ref C) = some false := by
  have h2' : (PySem.W.clsIn K C).isSome = true := hC
  have e2 : ((PySem.W.clsIn K C).isSome && PySem.W.typeIn K (.ref C) == some (.type "type")) = true := by rw [h2', hT] <;> rfl
  show (if ((Value.type T) == (Value.ref C)) = true then some true else if ((PySem.W.clsIn K C).isSome && PySem.W.typeIn K (.ref C) == some (.type "type")) = true then PySem.W.subIn K (.type T) (.ref C) else none) = some false
  rw [if_neg (show ¬ ((Value.type T) == (Value.ref C)) = true from fun z => by cases (beq_iff_eq.mp z)), if_pos e2]
  exact sub_built e n
theorem not_own {K : PySem.W.Frag} {C : Addr} (hC : PySem.W.isClsIn K C = true) (hT : PySem.W.typeIn K (.ref C) = some (.type "type")) : NotAm K C :=
  ⟨kit_own hC hT mro_int rfl, kit_own hC hT mro_bool rfl, kit_own hC hT mro_str rfl, kit_own hC hT mro_none rfl, kit_own hC hT mro_tuple rfl, kit_own hC hT mro_list rfl⟩
theorem init_mk {K : PySem.W.Frag} {f TD : Addr} {oc kV doc pm cdv ct ocD vD : Value} {od an odD : Option Addr} {sl slD : Array (Option Value)} {nD : Nat}
    (l : K.lookup f = some ⟨oc, od, .func (PySem.W.fnOf "__init__" "Amount.__init__" (defArgs sInit) (defBody sInit) (defScope sInit) (.ref TD) kV doc pm an cdv ct), sl⟩) (c : PySem.W.codeIn K cdv "Amount.__init__" = true) (k : PySem.W.keepIn K (.ref f) = true)
    (lD : K.lookup TD = some ⟨ocD, odD, .seq #[vD] nD, slD⟩) (rD : RelV (.int 1) vD) : FunD K "__init__" "Amount.__init__" (defArgs sInit) (defBody sInit) (defScope sInit) [.int 1] [] f (PySem.W.fnOf "__init__" "Amount.__init__" (defArgs sInit) (defBody sInit) (defScope sInit) (.ref TD) kV doc pm an cdv ct) :=
  ⟨⟨oc, od, _, kV, doc, pm, an, cdv, ct, sl, rfl, l, c, .inr ⟨by simp, TD, _, [vD], nD, rfl, lD, rfl, .cons rD .nil⟩, .inl rfl⟩, k⟩
/-- isinstance by an own class, by a built-in one, of an own instance -/
theorem kit_refT {K : PySem.W.Frag} {t : Value} {D : Addr} (hC : PySem.W.isClsIn K D = true) (hT : PySem.W.typeIn K (.ref D) = some (.type "type")) (e : PySem.W.subIn K t (.ref D) = some true) : PySem.W.kitOne K t (.ref D) = some true := by
  have h1 : (PySem.W.clsIn K D).isSome = true := hC
  have h2 : ((PySem.W.clsIn K D).isSome && PySem.W.typeIn K (.ref D) == some (.type "type")) = true := by rw [h1, hT] <;> rfl
  unfold PySem.W.kitOne
  split
  · rfl
  · show (if ((PySem.W.clsIn K D).isSome && PySem.W.typeIn K (.ref D) == some (.type "type")) = true then PySem.W.subIn K t (.ref D) else none) = some true
    rw [if_pos h2]
    exact e
theorem kit_bi {K : PySem.W.Frag} {C : Addr} {T : String} {b : Bool} (m : PySem.W.kitMeta T = true) (e : PySem.W.subIn K (.ref C) (.type T) = some b) : PySem.W.kitOne K (.ref C) (.type T) = some b := by
  unfold PySem.W.kitOne
  rw [if_neg (show ¬ ((Value.ref C) == (Value.type T)) = true from fun z => by cases (beq_iff_eq.mp z))]
  show (if PySem.W.kitMeta T = true then PySem.W.subIn K (.ref C) (.type T) else none) = some b
  rw [if_pos m]
  exact e
theorem exm_own {K : PySem.W.Frag} {cls : Value} {D : Addr} {b : Bool} (hB : PySem.W.subIn K (.ref D) (.type "BaseException") = some true) (hC : PySem.W.isClsIn K D = true) (hT : PySem.W.typeIn K (.ref D) = some (.type "type")) (e : PySem.W.subIn K cls (.ref D) = some b) : PySem.W.exmOne K cls (.ref D) = some b := by
  have h1 : (PySem.W.clsIn K D).isSome = true := hC
  have h2 : ((PySem.W.clsIn K D).isSome && PySem.W.typeIn K (.ref D) == some (.type "type")) = true := by rw [h1, hT] <;> rfl
  have h3 : (PySem.W.subIn K (.ref D) (.type "BaseException") == some true) = true := by rw [hB] <;> rfl
  unfold PySem.W.exmOne
  rw [if_pos h3]
  show (if ((PySem.W.clsIn K D).isSome && PySem.W.typeIn K (.ref D) == some (.type "type")) = true then PySem.W.subIn K cls (.ref D) else none) = some b
  rw [if_pos h2]
  exact e
end SP
/-! The own errors of the text: what k_is finds, put together. -/
namespace SP
open PySem PySem.Spec PyProof.Rows L2 PySem.W PySem.Calls
/-- how a def of an error's __init__ reads -/
structure ErrTxt (st : Stmt) (fld : String) (vn : Str) : Prop where
  body : ∃ (txt : Str) (k0 : Nat) (p0 p1 p2 p3 p4 p5 p6 p7 p8 p9 : Pos), defBody st = errB txt (Str.ofString fld) vn k0 p0 p1 p2 p3 p4 p5 p6 p7 p8 p9 ∧
    ∀ (q : Str) (L f cda cc : Addr), eval (.Call (.Attribute (.Call (.Name "super" p0) [] [] p1) "__init__" p2) [.Constant (.str txt) k0 p3] [] p4) (ksEnv q (defScope st) L f (.ref cda) cc) = (do
      let ov ← attributeBase (.Call (.Name "super" p0) [] [] p1) "__init__" (ksEnv q (defScope st) L f (.ref cda) cc) (eval (.Call (.Name "super" p0) [] [] p1) (ksEnv q (defScope st) L f (.ref cda) cc))
      standAt p2.atName
      let (g, first) ← holding [ov] (getMethod ov "__init__" (do return (← importBound (.Call (.Name "super" p0) [] [] p1) (ksEnv q (defScope st) L f (.ref cda) cc)).getD true))
      callWith p4 g first (backTo p4 (starEach [.Constant (.str txt) k0 p3] (ksEnv q (defScope st) L f (.ref cda) cc))) [])
  hp : ∃ ar, ((defArgs st).posonlyargs ++ (defArgs st).args).head? = some ar ∧ ar.arg = "self"
  hne : ("self" : Str) ≠ vn
  hks : (defScope st).names.lookup ("super" : Str) = some .globalImplicit
  hkc : (defScope st).names.lookup ("__class__" : Str) = some .free
  hka : (defScope st).names.lookup ("self" : Str) = some .local
  hkv : (defScope st).names.lookup vn = some .local
  hdv : (vn == ("__debug__" : Str)) = false
  hk : (defScope st).kind = .function
  hcell : ∀ x ∈ (defScope st).names, x.2 ≠ .cell
  hco : (defScope st).isCoroutine = false
  hgen : (defScope st).isGenerator = false
section
variable {P : Program} {w : World} {K : Frag} {mg : Str → Option Value} {base : Heap} {x : Str} {C D f cc cda : Addr} {name q file fld : String} {vn : Str} {st : Stmt}
  {kV doc pm ct : Value} {an od : Option Addr} {osl : Array (Option Value)} {oc : Value} {bmB : List Value}
theorem err_ok (R : ErrTxt st fld vn) (T : ErrIn K C D f cc cda (ksFn (Str.ofString name) (Str.ofString q) (defArgs st) (defBody st) (defScope st) .none kV doc pm an (.ref cda) ct cc) q file fld "ValueError" "ValueError.__init__" "ValueError.__new__" bmB)
    (FB : ExcBaseFacts "ValueError" "ValueError.__new__" "ValueError.__init__" bmB)
    (hfile : ((P.main.file : Str) == Str.ofString file) = true) (htop : (P.main.scope.names.lookup ("super" : Str)).isSome = false) (hm : mg x = some (.ref C)) (iC : findIn K (.ref C) "__init__" = some (some (.ref f))) (tI : typeIn K (.ref f) = some (.type "function"))
    (hb : Binds K (ksFn (Str.ofString name) (Str.ofString q) (defArgs st) (defBody st) (defScope st) .none kV doc pm an (.ref cda) ct cc) ["self", vn] []) : ErrOk P w K mg base x C (Str.ofString fld) := by
  obtain ⟨txt, k0, p0, p1, p2, p3, p4, p5, p6, p7, p8, p9, eb, hc⟩ := R.body
  rw [eb] at T hb
  exact ⟨hm, T.oex, f, _, vn, iC, tI, err_run T kxs_ValueError FB hfile htop R.hp R.hne R.hks R.hkc R.hka R.hkv R.hdv R.hk R.hcell R.hco R.hgen (hc _ · _ _ _), hb⟩
end
section
variable {P : Program} {w : World} {K : Frag} {h : Heap} {mg : Str → Option Value} {base : Heap} {x : Str} {C f cc cda : Addr} {cn q file fld : String} {vn : Str} {st : Stmt}
  {kV doc pm ct oc ccl cl : Value} {an od cdd cld : Option Addr} {osl ccs csl : Array (Option Value)} {bmB : List Value} {nm qn : Str} {N : Addr} {bs bm : List Value} {sn : List Str} {vs : Array Value} {tf : Tok}
theorem err_mk (R : ErrTxt st fld vn) (FB : ExcBaseFacts "ValueError" "ValueError.__new__" "ValueError.__init__" bmB) (hfile : ((P.main.file : Str) == Str.ofString file) = true) (htop : (P.main.scope.names.lookup ("super" : Str)).isSome = false)
    (hb : ∀ us : List Value, us.length = 2 → bindArgs (ksFn "__init__" (Str.ofString q) (defArgs st) (defBody st) (defScope st) .none kV doc pm an (.ref cda) ct cc) ⟨us, []⟩ = pure (([("self" : Str), vn] : List Str).zip us))
    (X : K.In h) (G : h.Ns mainGlobals mg) (aC : nsIn K mainGlobals x = some (some (.ref C)))
    (lC : ∃ nm q N bs bm sn sub ab col dd k0 k1 k2 k3 k5, K.lookup C = some (excClassObj nm q C N bs bm true sn sub ab col dd k0 k1 k2 k3 k5 "ValueError.__new__") ∧ PySem.HandSPX.refsVE bm = true)
    (sa : findIn K (.ref C) "__setattr__" = some (some (.builtin "object.__setattr__"))) (ex : subIn K (.ref C) (.type "BaseException") = some true) (ty : typeIn K (.ref C) = some (.type "type")) (kC : keepIn K (.ref C) = true)
    (iC : findIn K (.ref C) "__init__" = some (some (.ref f)))
    (lf : K.lookup f = some ⟨oc, od, .func (ksFn "__init__" (Str.ofString q) (defArgs st) (defBody st) (defScope st) .none kV doc pm an (.ref cda) ct cc), osl⟩) (tI : typeIn K (.ref f) = some (.type "function"))
    (lcd : K.lookup cda = some ⟨ccl, cdd, .fields vs, ccs⟩) (vcd : vs[2]? = some (.str (Str.ofString file) tf)) (rc : codeIn K (.ref cda) (Str.ofString q) = true) (lcc : K.lookup cc = some ⟨cl, cld, .cell (some (.ref C)), csl⟩)
    (sb : mroIn K C (.ref C) = some true) (su : nsIn K mainGlobals "super" = some none) (tp : nsIn K cStatics "thirdparty.any" = some none) (ini : ks_superIn K C C "__init__" = some (some (.builtin "ValueError.__init__")))
    (sv : subIn K (.ref C) (.type "ValueError") = some true) (ei : excInitIn K C bmB "ValueError.__new__" = true) (nf : findIn K (.ref C) (Str.ofString fld) = some none) : ErrOk P w K mg base x C (Str.ofString fld) := by
  have hcl : ∃ cdD, clsIn K C = some cdD := by
    obtain ⟨nm, q, N, bs, bm, sn, sub, ab, col, dd, k0, k1, k2, k3, k5, hC, hbm⟩ := lC
    exact ⟨{ name := nm, bases := bs, mro := .ref C :: bm, ns := N, qualname := q, hasDict := true, slotNames := sn, subclasses := sub, abstract := ab, collection := col, hasDel := false }, by unfold clsIn; rw [hC] <;> rfl⟩
  exact err_ok (name := "__init__") R ⟨⟨lC, sa, ex, ty, kC⟩, ⟨oc, od, osl, lf⟩, ⟨ccl, cdd, vs, ccs, tf, lcd, vcd⟩, rc, ⟨cl, cld, csl, lcc⟩, hcl, sb, su, tp, ini, sv, ei, nf⟩ FB hfile htop (mg_of X G aC) iC tI (.all hb)
end
/-- the text's -/
def sEII : Stmt := inClass (top 2) 0
theorem r_sEII : ErrTxt sEII "value" "value" := ⟨⟨_, _, _, _, _, _, _, _, _, _, _, _, rfl, fun q L f cda cc => by rfl⟩, ⟨_, rfl, rfl⟩, by decide, by rfl, by rfl, by rfl, by rfl, by decide, rfl, by decide, rfl, rfl⟩
def sEIA : Stmt := inClass (top 3) 0
theorem r_sEIA : ErrTxt sEIA "value" "value" := ⟨⟨_, _, _, _, _, _, _, _, _, _, _, _, rfl, fun q L f cda cc => by rfl⟩, ⟨_, rfl, rfl⟩, by decide, by rfl, by rfl, by rfl, by rfl, by decide, rfl, by decide, rfl, rfl⟩
end SP
namespace SP
open PySem PySem.Spec PyProof.Rows L2 PySem.Calls LamX
theorem mro_dict : fastBuiltinMro "dict" = some [.type "dict", .type "object"] := by decide +kernel
theorem all_mk {P : Program} {w : World} {K : PySem.W.Frag} {h : Heap} {mg : Str → Option Value} {fa C fA0 fA1 fA2 TD fI fM0 fM1 fM2 fM3 fM4 fM5 fM6 pQ fQ fOf fOadd fOradd fOsub fOrsub fOmul fOrmul fOneg fOabs fObool pS fS fP0 fP1 fP2 fOv pBt fBt CP CE1 fE1 uE1 cE1 CE2 fE2 uE2 cE2 fNm fAm fD0 fD1 fD2 fD3 fD4 fD5 fX1 cX1_ PX1_ fX2 cX2_ PX2_ fL : Addr} (X : K.In h) (G : h.Ns mainGlobals mg) (hfa : mg "law" = some (.ref fa))
    {odA0 anA0 : Option Addr} {slA0 : Array (Option Value)} {ocA0 kVA0 dcA0 pmA0 cdA0 ctA0 : Value}
    {odA1 anA1 : Option Addr} {slA1 : Array (Option Value)} {ocA1 kVA1 dcA1 pmA1 cdA1 ctA1 : Value}
    {odA2 anA2 : Option Addr} {slA2 : Array (Option Value)} {ocA2 kVA2 dcA2 pmA2 cdA2 ctA2 : Value}
    {ocD vD : Value} {odD : Option Addr} {slD : Array (Option Value)} {nD : Nat}
    {odI anI : Option Addr} {slI : Array (Option Value)} {ocI kVI dcI pmI cdI ctI : Value}
    {odM0 anM0 : Option Addr} {slM0 : Array (Option Value)} {ocM0 kVM0 dcM0 pmM0 cdM0 ctM0 : Value}
    {odM1 anM1 : Option Addr} {slM1 : Array (Option Value)} {ocM1 kVM1 dcM1 pmM1 cdM1 ctM1 : Value}
    {odM2 anM2 : Option Addr} {slM2 : Array (Option Value)} {ocM2 kVM2 dcM2 pmM2 cdM2 ctM2 : Value}
    {odM3 anM3 : Option Addr} {slM3 : Array (Option Value)} {ocM3 kVM3 dcM3 pmM3 cdM3 ctM3 : Value}
    {odM4 anM4 : Option Addr} {slM4 : Array (Option Value)} {ocM4 kVM4 dcM4 pmM4 cdM4 ctM4 : Value}
    {odM5 anM5 : Option Addr} {slM5 : Array (Option Value)} {ocM5 kVM5 dcM5 pmM5 cdM5 ctM5 : Value}
    {odM6 anM6 : Option Addr} {slM6 : Array (Option Value)} {ocM6 kVM6 dcM6 pmM6 cdM6 ctM6 : Value}
    {rsQ : List Value}
    {odQ anQ : Option Addr} {slQ : Array (Option Value)} {ocQ kVQ dcQ pmQ cdQ ctQ : Value}
    {odOf anOf : Option Addr} {slOf : Array (Option Value)} {ocOf kVOf dcOf pmOf cdOf ctOf : Value}
    {odOadd anOadd : Option Addr} {slOadd : Array (Option Value)} {ocOadd kVOadd dcOadd pmOadd cdOadd ctOadd : Value}
    {odOradd anOradd : Option Addr} {slOradd : Array (Option Value)} {ocOradd kVOradd dcOradd pmOradd cdOradd ctOradd : Value}
    {odOsub anOsub : Option Addr} {slOsub : Array (Option Value)} {ocOsub kVOsub dcOsub pmOsub cdOsub ctOsub : Value}
    {odOrsub anOrsub : Option Addr} {slOrsub : Array (Option Value)} {ocOrsub kVOrsub dcOrsub pmOrsub cdOrsub ctOrsub : Value}
    {odOmul anOmul : Option Addr} {slOmul : Array (Option Value)} {ocOmul kVOmul dcOmul pmOmul cdOmul ctOmul : Value}
    {odOrmul anOrmul : Option Addr} {slOrmul : Array (Option Value)} {ocOrmul kVOrmul dcOrmul pmOrmul cdOrmul ctOrmul : Value}
    {odOneg anOneg : Option Addr} {slOneg : Array (Option Value)} {ocOneg kVOneg dcOneg pmOneg cdOneg ctOneg : Value}
    {odOabs anOabs : Option Addr} {slOabs : Array (Option Value)} {ocOabs kVOabs dcOabs pmOabs cdOabs ctOabs : Value}
    {odObool anObool : Option Addr} {slObool : Array (Option Value)} {ocObool kVObool dcObool pmObool cdObool ctObool : Value}
    {rsS : List Value}
    {odS anS : Option Addr} {slS : Array (Option Value)} {ocS kVS dcS pmS cdS ctS : Value}
    {odP0 anP0 : Option Addr} {slP0 : Array (Option Value)} {ocP0 kVP0 dcP0 pmP0 cdP0 ctP0 : Value}
    {odP1 anP1 : Option Addr} {slP1 : Array (Option Value)} {ocP1 kVP1 dcP1 pmP1 cdP1 ctP1 : Value}
    {odP2 anP2 : Option Addr} {slP2 : Array (Option Value)} {ocP2 kVP2 dcP2 pmP2 cdP2 ctP2 : Value}
    {odOv anOv : Option Addr} {slOv : Array (Option Value)} {ocOv kVOv dcOv pmOv cdOv ctOv : Value}
    {rsBt : List Value}
    {odBt anBt : Option Addr} {slBt : Array (Option Value)} {ocBt kVBt dcBt pmBt cdBt ctBt : Value}
    {kE1 dE1 pE1 tE1 oE1 gE1 nE1 : Value} {an1 od1 ud1 nd1 : Option Addr} {os1 us1 ns1 : Array (Option Value)} {vE1 : Array Value} {wE1 : Tok} {FE1 : String}
    {kE2 dE2 pE2 tE2 oE2 gE2 nE2 : Value} {an2 od2 ud2 nd2 : Option Addr} {os2 us2 ns2 : Array (Option Value)} {vE2 : Array Value} {wE2 : Tok} {FE2 : String}
    {vLt vMl : Value}
    {odNm anNm : Option Addr} {slNm : Array (Option Value)} {ocNm kVNm dcNm pmNm cdNm ctNm : Value}
    {odAm anAm : Option Addr} {slAm : Array (Option Value)} {ocAm kVAm dcAm pmAm cdAm ctAm : Value}
    {odD0 anD0 : Option Addr} {slD0 : Array (Option Value)} {ocD0 kVD0 dcD0 pmD0 cdD0 ctD0 : Value}
    {odD1 anD1 : Option Addr} {slD1 : Array (Option Value)} {ocD1 kVD1 dcD1 pmD1 cdD1 ctD1 : Value}
    {odD2 anD2 : Option Addr} {slD2 : Array (Option Value)} {ocD2 kVD2 dcD2 pmD2 cdD2 ctD2 : Value}
    {odD3 anD3 : Option Addr} {slD3 : Array (Option Value)} {ocD3 kVD3 dcD3 pmD3 cdD3 ctD3 : Value}
    {odD4 anD4 : Option Addr} {slD4 : Array (Option Value)} {ocD4 kVD4 dcD4 pmD4 cdD4 ctD4 : Value}
    {odD5 anD5 : Option Addr} {slD5 : Array (Option Value)} {ocD5 kVD5 dcD5 pmD5 cdD5 ctD5 : Value}
    {odX1 anX1 : Option Addr} {slX1 : Array (Option Value)} {ocX1 kVX1 dcX1 pmX1 ctX1 : Value}
    {ceX1 : Value} {cfX1 : Option Addr} {cvX1 : Array Value} {cgX1 : Array (Option Value)}
    {odX2 anX2 : Option Addr} {slX2 : Array (Option Value)} {ocX2 kVX2 dcX2 pmX2 ctX2 : Value}
    {ceX2 : Value} {cfX2 : Option Addr} {cvX2 : Array Value} {cgX2 : Array (Option Value)}
    {odL anL : Option Addr} {slL : Array (Option Value)} {ocL kVL dcL pmL cdL ctL : Value}
    (aC : PySem.W.nsIn K mainGlobals "Amount" = some (some (.ref C)))
    (aA0 : PySem.W.nsIn K mainGlobals "is_integer" = some (some (.ref fA0)))
    (lA0 : K.lookup fA0 = some ⟨ocA0, odA0, .func (PySem.W.fnOf "is_integer" "is_integer" (defArgs sIsInt) (defBody sIsInt) (defScope sIsInt) .none kVA0 dcA0 pmA0 anA0 cdA0 ctA0), slA0⟩)
    (cA0 : PySem.W.codeIn K cdA0 "is_integer" = true)
    (kA0 : PySem.W.keepIn K (.ref fA0) = true)
    (aA1 : PySem.W.nsIn K mainGlobals "common_divisor" = some (some (.ref fA1)))
    (lA1 : K.lookup fA1 = some ⟨ocA1, odA1, .func (PySem.W.fnOf "common_divisor" "common_divisor" (defArgs sCD) (defBody sCD) (defScope sCD) .none kVA1 dcA1 pmA1 anA1 cdA1 ctA1), slA1⟩)
    (cA1 : PySem.W.codeIn K cdA1 "common_divisor" = true)
    (kA1 : PySem.W.keepIn K (.ref fA1) = true)
    (aA2 : PySem.W.nsIn K mainGlobals "place_of" = some (some (.ref fA2)))
    (lA2 : K.lookup fA2 = some ⟨ocA2, odA2, .func (PySem.W.fnOf "place_of" "place_of" (defArgs sPl) (defBody sPl) (defScope sPl) .none kVA2 dcA2 pmA2 anA2 cdA2 ctA2), slA2⟩)
    (cA2 : PySem.W.codeIn K cdA2 "place_of" = true)
    (kA2 : PySem.W.keepIn K (.ref fA2) = true)
    (aI : PySem.W.findIn K (.ref C) "__init__" = some (some (.ref fI)))
    (lI : K.lookup fI = some ⟨ocI, odI, .func (PySem.W.fnOf "__init__" "Amount.__init__" (defArgs sInit) (defBody sInit) (defScope sInit) (.ref TD) kVI dcI pmI anI cdI ctI), slI⟩)
    (cI : PySem.W.codeIn K cdI "Amount.__init__" = true)
    (kI : PySem.W.keepIn K (.ref fI) = true)
    (lD : K.lookup TD = some ⟨ocD, odD, .seq #[vD] nD, slD⟩)
    (rD : RelV (.int 1) vD)
    (iI : PySem.W.isFn K (.ref fI) = true)
    (mk : PySem.W.makesIn K C = true)
    (kc : PySem.W.keepIn K (.ref C) = true)
    (pg : PySem.W.plainGet K C Str.empty = true)
    (hd : PySem.W.hasDictIn K C = true)
    (po : PySem.W.plainOver K C = true)
    (sa : PySem.W.findIn K (.ref C) "__setattr__" = some (some (.builtin "object.__setattr__")))
    (ca : PySem.W.findIn K (.ref C) "__class__" = some (some (.builtin "object.__class__")))
    (cn : PySem.W.specialIn K (.builtin "object.__class__") "__get__" = some (some (.builtin "getset_descriptor.__get__")))
    (ck : PySem.W.takesIn K (.builtin "object.__class__") = some true)
    (cm : PySem.W.mroIn K C (.type "object") = some true)
    (ne : PySem.W.findIn K (.ref C) "__ne__" = some (some (.builtin "object.__ne__")))
    (tu : PySem.W.subIn K (.ref C) (.type "tuple") = some false)
    (li : PySem.W.subIn K (.ref C) (.type "list") = some false)
    (ic : PySem.W.isClsIn K C = true)
    (ty : PySem.W.typeIn K (.ref C) = some (.type "type"))
    (nT : PySem.W.findIn K (.ref C) "own_top" = some none)
    (nB : PySem.W.findIn K (.ref C) "own_bottom" = some none)
    (nP : PySem.W.findIn K (.ref C) "own_place" = some none)
    (z_isinstance : PySem.W.nsIn K mainGlobals "isinstance" = some none)
    (z_int : PySem.W.nsIn K mainGlobals "int" = some none)
    (z_bool : PySem.W.nsIn K mainGlobals "bool" = some none)
    (z_abs : PySem.W.nsIn K mainGlobals "abs" = some none)
    (aM0 : PySem.W.findIn K (.ref C) "__eq__" = some (some (.ref fM0)))
    (lM0 : K.lookup fM0 = some ⟨ocM0, odM0, .func (PySem.W.fnOf "__eq__" "Amount.__eq__" (defArgs sMEq) (defBody sMEq) (defScope sMEq) .none kVM0 dcM0 pmM0 anM0 cdM0 ctM0), slM0⟩)
    (cM0 : PySem.W.codeIn K cdM0 "Amount.__eq__" = true)
    (kM0 : PySem.W.keepIn K (.ref fM0) = true)
    (iM0 : PySem.W.isFn K (.ref fM0) = true)
    (aM1 : PySem.W.findIn K (.ref C) "__lt__" = some (some (.ref fM1)))
    (lM1 : K.lookup fM1 = some ⟨ocM1, odM1, .func (PySem.W.fnOf "__lt__" "Amount.__lt__" (defArgs sMLt) (defBody sMLt) (defScope sMLt) .none kVM1 dcM1 pmM1 anM1 cdM1 ctM1), slM1⟩)
    (cM1 : PySem.W.codeIn K cdM1 "Amount.__lt__" = true)
    (kM1 : PySem.W.keepIn K (.ref fM1) = true)
    (iM1 : PySem.W.isFn K (.ref fM1) = true)
    (aM2 : PySem.W.findIn K (.ref C) "__le__" = some (some (.ref fM2)))
    (lM2 : K.lookup fM2 = some ⟨ocM2, odM2, .func (PySem.W.fnOf "__le__" "Amount.__le__" (defArgs sMLe) (defBody sMLe) (defScope sMLe) .none kVM2 dcM2 pmM2 anM2 cdM2 ctM2), slM2⟩)
    (cM2 : PySem.W.codeIn K cdM2 "Amount.__le__" = true)
    (kM2 : PySem.W.keepIn K (.ref fM2) = true)
    (iM2 : PySem.W.isFn K (.ref fM2) = true)
    (aM3 : PySem.W.findIn K (.ref C) "__gt__" = some (some (.ref fM3)))
    (lM3 : K.lookup fM3 = some ⟨ocM3, odM3, .func (PySem.W.fnOf "__gt__" "Amount.__gt__" (defArgs sMGt) (defBody sMGt) (defScope sMGt) .none kVM3 dcM3 pmM3 anM3 cdM3 ctM3), slM3⟩)
    (cM3 : PySem.W.codeIn K cdM3 "Amount.__gt__" = true)
    (kM3 : PySem.W.keepIn K (.ref fM3) = true)
    (iM3 : PySem.W.isFn K (.ref fM3) = true)
    (aM4 : PySem.W.findIn K (.ref C) "__ge__" = some (some (.ref fM4)))
    (lM4 : K.lookup fM4 = some ⟨ocM4, odM4, .func (PySem.W.fnOf "__ge__" "Amount.__ge__" (defArgs sMGe) (defBody sMGe) (defScope sMGe) .none kVM4 dcM4 pmM4 anM4 cdM4 ctM4), slM4⟩)
    (cM4 : PySem.W.codeIn K cdM4 "Amount.__ge__" = true)
    (kM4 : PySem.W.keepIn K (.ref fM4) = true)
    (iM4 : PySem.W.isFn K (.ref fM4) = true)
    (aM5 : PySem.W.findIn K (.ref C) "__str__" = some (some (.ref fM5)))
    (lM5 : K.lookup fM5 = some ⟨ocM5, odM5, .func (PySem.W.fnOf "__str__" "Amount.__str__" (defArgs sMStr) (defBody sMStr) (defScope sMStr) .none kVM5 dcM5 pmM5 anM5 cdM5 ctM5), slM5⟩)
    (cM5 : PySem.W.codeIn K cdM5 "Amount.__str__" = true)
    (kM5 : PySem.W.keepIn K (.ref fM5) = true)
    (iM5 : PySem.W.isFn K (.ref fM5) = true)
    (aM6 : PySem.W.findIn K (.ref C) "__repr__" = some (some (.ref fM6)))
    (lM6 : K.lookup fM6 = some ⟨ocM6, odM6, .func (PySem.W.fnOf "__repr__" "Amount.__repr__" (defArgs sMRepr) (defBody sMRepr) (defScope sMRepr) .none kVM6 dcM6 pmM6 anM6 cdM6 ctM6), slM6⟩)
    (cM6 : PySem.W.codeIn K cdM6 "Amount.__repr__" = true)
    (kM6 : PySem.W.keepIn K (.ref fM6) = true)
    (iM6 : PySem.W.isFn K (.ref fM6) = true)
    (qQ : PySem.W.findIn K (.ref C) "top" = some (some (.ref pQ)))
    (gQ : PySem.W.specialIn K (.ref pQ) "__get__" = some (some (.builtin "property.__get__")))
    (tQ : PySem.W.takesIn K (.ref pQ) = some true)
    (aQ : PySem.W.recIn K pQ "property" = some (.ref fQ :: rsQ))
    (lQ : K.lookup fQ = some ⟨ocQ, odQ, .func (PySem.W.fnOf "top" "Amount.top" (defArgs sMTop) (defBody sMTop) (defScope sMTop) .none kVQ dcQ pmQ anQ cdQ ctQ), slQ⟩)
    (cQ : PySem.W.codeIn K cdQ "Amount.top" = true)
    (kQ : PySem.W.keepIn K (.ref fQ) = true)
    (z_str : PySem.W.nsIn K mainGlobals "str" = some none)
    (aOf : PySem.W.nsIn K mainGlobals "amount_of" = some (some (.ref fOf)))
    (lOf : K.lookup fOf = some ⟨ocOf, odOf, .func (PySem.W.fnOf "amount_of" "amount_of" (defArgs sOf) (defBody sOf) (defScope sOf) .none kVOf dcOf pmOf anOf cdOf ctOf), slOf⟩)
    (cOf : PySem.W.codeIn K cdOf "amount_of" = true)
    (kOf : PySem.W.keepIn K (.ref fOf) = true)
    (sf : PySem.W.selfFirst K C = true)
    (si : PySem.W.subIn K (.ref C) (.type "int") = some false)
    (aOadd : PySem.W.findIn K (.ref C) "__add__" = some (some (.ref fOadd)))
    (lOadd : K.lookup fOadd = some ⟨ocOadd, odOadd, .func (PySem.W.fnOf "__add__" "Amount.__add__" (defArgs sMAdd) (defBody sMAdd) (defScope sMAdd) .none kVOadd dcOadd pmOadd anOadd cdOadd ctOadd), slOadd⟩)
    (cOadd : PySem.W.codeIn K cdOadd "Amount.__add__" = true)
    (kOadd : PySem.W.keepIn K (.ref fOadd) = true)
    (iOadd : PySem.W.isFn K (.ref fOadd) = true)
    (aOradd : PySem.W.findIn K (.ref C) "__radd__" = some (some (.ref fOradd)))
    (lOradd : K.lookup fOradd = some ⟨ocOradd, odOradd, .func (PySem.W.fnOf "__radd__" "Amount.__radd__" (defArgs sMRadd) (defBody sMRadd) (defScope sMRadd) .none kVOradd dcOradd pmOradd anOradd cdOradd ctOradd), slOradd⟩)
    (cOradd : PySem.W.codeIn K cdOradd "Amount.__radd__" = true)
    (kOradd : PySem.W.keepIn K (.ref fOradd) = true)
    (iOradd : PySem.W.isFn K (.ref fOradd) = true)
    (aOsub : PySem.W.findIn K (.ref C) "__sub__" = some (some (.ref fOsub)))
    (lOsub : K.lookup fOsub = some ⟨ocOsub, odOsub, .func (PySem.W.fnOf "__sub__" "Amount.__sub__" (defArgs sMSub) (defBody sMSub) (defScope sMSub) .none kVOsub dcOsub pmOsub anOsub cdOsub ctOsub), slOsub⟩)
    (cOsub : PySem.W.codeIn K cdOsub "Amount.__sub__" = true)
    (kOsub : PySem.W.keepIn K (.ref fOsub) = true)
    (iOsub : PySem.W.isFn K (.ref fOsub) = true)
    (aOrsub : PySem.W.findIn K (.ref C) "__rsub__" = some (some (.ref fOrsub)))
    (lOrsub : K.lookup fOrsub = some ⟨ocOrsub, odOrsub, .func (PySem.W.fnOf "__rsub__" "Amount.__rsub__" (defArgs sMRsub) (defBody sMRsub) (defScope sMRsub) .none kVOrsub dcOrsub pmOrsub anOrsub cdOrsub ctOrsub), slOrsub⟩)
    (cOrsub : PySem.W.codeIn K cdOrsub "Amount.__rsub__" = true)
    (kOrsub : PySem.W.keepIn K (.ref fOrsub) = true)
    (iOrsub : PySem.W.isFn K (.ref fOrsub) = true)
    (aOmul : PySem.W.findIn K (.ref C) "__mul__" = some (some (.ref fOmul)))
    (lOmul : K.lookup fOmul = some ⟨ocOmul, odOmul, .func (PySem.W.fnOf "__mul__" "Amount.__mul__" (defArgs sMMul) (defBody sMMul) (defScope sMMul) .none kVOmul dcOmul pmOmul anOmul cdOmul ctOmul), slOmul⟩)
    (cOmul : PySem.W.codeIn K cdOmul "Amount.__mul__" = true)
    (kOmul : PySem.W.keepIn K (.ref fOmul) = true)
    (iOmul : PySem.W.isFn K (.ref fOmul) = true)
    (aOrmul : PySem.W.findIn K (.ref C) "__rmul__" = some (some (.ref fOrmul)))
    (lOrmul : K.lookup fOrmul = some ⟨ocOrmul, odOrmul, .func (PySem.W.fnOf "__rmul__" "Amount.__rmul__" (defArgs sMRmul) (defBody sMRmul) (defScope sMRmul) .none kVOrmul dcOrmul pmOrmul anOrmul cdOrmul ctOrmul), slOrmul⟩)
    (cOrmul : PySem.W.codeIn K cdOrmul "Amount.__rmul__" = true)
    (kOrmul : PySem.W.keepIn K (.ref fOrmul) = true)
    (iOrmul : PySem.W.isFn K (.ref fOrmul) = true)
    (aOneg : PySem.W.findIn K (.ref C) "__neg__" = some (some (.ref fOneg)))
    (lOneg : K.lookup fOneg = some ⟨ocOneg, odOneg, .func (PySem.W.fnOf "__neg__" "Amount.__neg__" (defArgs sMNeg) (defBody sMNeg) (defScope sMNeg) .none kVOneg dcOneg pmOneg anOneg cdOneg ctOneg), slOneg⟩)
    (cOneg : PySem.W.codeIn K cdOneg "Amount.__neg__" = true)
    (kOneg : PySem.W.keepIn K (.ref fOneg) = true)
    (iOneg : PySem.W.isFn K (.ref fOneg) = true)
    (aOabs : PySem.W.findIn K (.ref C) "__abs__" = some (some (.ref fOabs)))
    (lOabs : K.lookup fOabs = some ⟨ocOabs, odOabs, .func (PySem.W.fnOf "__abs__" "Amount.__abs__" (defArgs sMAbs) (defBody sMAbs) (defScope sMAbs) .none kVOabs dcOabs pmOabs anOabs cdOabs ctOabs), slOabs⟩)
    (cOabs : PySem.W.codeIn K cdOabs "Amount.__abs__" = true)
    (kOabs : PySem.W.keepIn K (.ref fOabs) = true)
    (iOabs : PySem.W.isFn K (.ref fOabs) = true)
    (aObool : PySem.W.findIn K (.ref C) "__bool__" = some (some (.ref fObool)))
    (lObool : K.lookup fObool = some ⟨ocObool, odObool, .func (PySem.W.fnOf "__bool__" "Amount.__bool__" (defArgs sMBool) (defBody sMBool) (defScope sMBool) .none kVObool dcObool pmObool anObool cdObool ctObool), slObool⟩)
    (cObool : PySem.W.codeIn K cdObool "Amount.__bool__" = true)
    (kObool : PySem.W.keepIn K (.ref fObool) = true)
    (iObool : PySem.W.isFn K (.ref fObool) = true)
    (rdS : PySem.W.readsIn K C (.type "type") = true)
    (gaS : PySem.W.specialIn K (.ref C) "__getattribute__" = some (some (.builtin "type.__getattribute__")))
    (atS : PySem.W.findCls K (.ref C) (.type "type") "sum_of" = some (.get (.builtin "classmethod.__get__") (.ref pS) .none (.ref C)))
    (aS : PySem.W.recIn K pS "classmethod" = some (.ref fS :: rsS))
    (lS : K.lookup fS = some ⟨ocS, odS, .func (PySem.W.fnOf "sum_of" "Amount.sum_of" (defArgs sMSum) (defBody sMSum) (defScope sMSum) .none kVS dcS pmS anS cdS ctS), slS⟩)
    (cS : PySem.W.codeIn K cdS "Amount.sum_of" = true)
    (kS : PySem.W.keepIn K (.ref fS) = true)
    (fiS : PySem.W.fnIn K fS = true)
    (z_max : PySem.W.nsIn K mainGlobals "max" = some none)
    (z_len : PySem.W.nsIn K mainGlobals "len" = some none)
    (z_divmod : PySem.W.nsIn K mainGlobals "divmod" = some none)
    (aP0 : PySem.W.nsIn K mainGlobals "_law_pot" = some (some (.ref fP0)))
    (lP0 : K.lookup fP0 = some ⟨ocP0, odP0, .func (PySem.W.fnOf "_law_pot" "_law_pot" (defArgs sPot) (defBody sPot) (defScope sPot) .none kVP0 dcP0 pmP0 anP0 cdP0 ctP0), slP0⟩)
    (cP0 : PySem.W.codeIn K cdP0 "_law_pot" = true)
    (kP0 : PySem.W.keepIn K (.ref fP0) = true)
    (aP1 : PySem.W.nsIn K mainGlobals "_law_draw" = some (some (.ref fP1)))
    (lP1 : K.lookup fP1 = some ⟨ocP1, odP1, .func (PySem.W.fnOf "_law_draw" "_law_draw" (defArgs sDraw) (defBody sDraw) (defScope sDraw) .none kVP1 dcP1 pmP1 anP1 cdP1 ctP1), slP1⟩)
    (cP1 : PySem.W.codeIn K cdP1 "_law_draw" = true)
    (kP1 : PySem.W.keepIn K (.ref fP1) = true)
    (aP2 : PySem.W.nsIn K mainGlobals "_law_choice" = some (some (.ref fP2)))
    (lP2 : K.lookup fP2 = some ⟨ocP2, odP2, .func (PySem.W.fnOf "_law_choice" "_law_choice" (defArgs sChoice) (defBody sChoice) (defScope sChoice) .none kVP2 dcP2 pmP2 anP2 cdP2 ctP2), slP2⟩)
    (cP2 : PySem.W.codeIn K cdP2 "_law_choice" = true)
    (kP2 : PySem.W.keepIn K (.ref fP2) = true)
    (aOv : PySem.W.findIn K (.ref C) "over" = some (some (.ref fOv)))
    (lOv : K.lookup fOv = some ⟨ocOv, odOv, .func (PySem.W.fnOf "over" "Amount.over" (defArgs sMOver) (defBody sMOver) (defScope sMOver) .none kVOv dcOv pmOv anOv cdOv ctOv), slOv⟩)
    (cOv : PySem.W.codeIn K cdOv "Amount.over" = true)
    (kOv : PySem.W.keepIn K (.ref fOv) = true)
    (iOv : PySem.W.isFn K (.ref fOv) = true)
    (qBt : PySem.W.findIn K (.ref C) "bottom" = some (some (.ref pBt)))
    (gBt : PySem.W.specialIn K (.ref pBt) "__get__" = some (some (.builtin "property.__get__")))
    (tBt : PySem.W.takesIn K (.ref pBt) = some true)
    (aBt : PySem.W.recIn K pBt "property" = some (.ref fBt :: rsBt))
    (lBt : K.lookup fBt = some ⟨ocBt, odBt, .func (PySem.W.fnOf "bottom" "Amount.bottom" (defArgs sMBot) (defBody sMBot) (defScope sMBot) .none kVBt dcBt pmBt anBt cdBt ctBt), slBt⟩)
    (cBt : PySem.W.codeIn K cdBt "Amount.bottom" = true)
    (kBt : PySem.W.keepIn K (.ref fBt) = true)
    (aPE : PySem.W.nsIn K mainGlobals "PipeError" = some (some (.ref CP)))
    (icP : PySem.W.isClsIn K CP = true)
    (tyP : PySem.W.typeIn K (.ref CP) = some (.type "type"))
    (eaC1 : PySem.W.nsIn K mainGlobals "InvalidInteger" = some (some (.ref CE1)))
    (eiC1 : PySem.W.findIn K (.ref CE1) "__init__" = some (some (.ref fE1)))
    (elf1 : K.lookup fE1 = some ⟨oE1, od1, .func (PySem.W.ksFn "__init__" (Str.ofString "InvalidInteger.__init__") (defArgs sEII) (defBody sEII) (defScope sEII) .none kE1 dE1 pE1 an1 (.ref uE1) tE1 cE1), os1⟩)
    (elu1 : K.lookup uE1 = some ⟨gE1, ud1, .fields vE1, us1⟩)
    (evu1 : vE1[2]? = some (.str (Str.ofString FE1) wE1))
    (ehf1 : ((P.main.file : Str) == Str.ofString FE1) = true)
    (eht1 : (P.main.scope.names.lookup ("super" : Str)).isSome = false)
    (elC1 : ∃ nm q N bs bm sn sub ab col dd k0 k1 k2 k3 k5, K.lookup CE1 = some (excClassObj nm q CE1 N bs bm true sn sub ab col dd k0 k1 k2 k3 k5 "ValueError.__new__") ∧ PySem.HandSPX.refsVE bm = true)
    (esa1 : PySem.W.findIn K (.ref CE1) "__setattr__" = some (some (.builtin "object.__setattr__")))
    (eex1 : PySem.W.subIn K (.ref CE1) (.type "BaseException") = some true)
    (ety1 : PySem.W.typeIn K (.ref CE1) = some (.type "type"))
    (ekC1 : PySem.W.keepIn K (.ref CE1) = true)
    (etI1 : PySem.W.typeIn K (.ref fE1) = some (.type "function"))
    (erc1 : PySem.W.codeIn K (.ref uE1) (Str.ofString "InvalidInteger.__init__") = true)
    (elc1 : K.lookup cE1 = some ⟨nE1, nd1, .cell (some (.ref CE1)), ns1⟩)
    (esb1 : PySem.W.mroIn K CE1 (.ref CE1) = some true)
    (esu1 : PySem.W.nsIn K mainGlobals "super" = some none)
    (etp1 : PySem.W.nsIn K cStatics "thirdparty.any" = some none)
    (eni1 : PySem.W.ks_superIn K CE1 CE1 "__init__" = some (some (.builtin "ValueError.__init__")))
    (esv1 : PySem.W.subIn K (.ref CE1) (.type "ValueError") = some true)
    (eei1 : PySem.W.excInitIn K CE1 [.type "ValueError", .type "Exception", .type "BaseException", .type "object"] "ValueError.__new__" = true)
    (enf1 : PySem.W.findIn K (.ref CE1) (Str.ofString "value") = some none)
    (eaC2 : PySem.W.nsIn K mainGlobals "InvalidAmount" = some (some (.ref CE2)))
    (eiC2 : PySem.W.findIn K (.ref CE2) "__init__" = some (some (.ref fE2)))
    (elf2 : K.lookup fE2 = some ⟨oE2, od2, .func (PySem.W.ksFn "__init__" (Str.ofString "InvalidAmount.__init__") (defArgs sEIA) (defBody sEIA) (defScope sEIA) .none kE2 dE2 pE2 an2 (.ref uE2) tE2 cE2), os2⟩)
    (elu2 : K.lookup uE2 = some ⟨gE2, ud2, .fields vE2, us2⟩)
    (evu2 : vE2[2]? = some (.str (Str.ofString FE2) wE2))
    (ehf2 : ((P.main.file : Str) == Str.ofString FE2) = true)
    (eht2 : (P.main.scope.names.lookup ("super" : Str)).isSome = false)
    (elC2 : ∃ nm q N bs bm sn sub ab col dd k0 k1 k2 k3 k5, K.lookup CE2 = some (excClassObj nm q CE2 N bs bm true sn sub ab col dd k0 k1 k2 k3 k5 "ValueError.__new__") ∧ PySem.HandSPX.refsVE bm = true)
    (esa2 : PySem.W.findIn K (.ref CE2) "__setattr__" = some (some (.builtin "object.__setattr__")))
    (eex2 : PySem.W.subIn K (.ref CE2) (.type "BaseException") = some true)
    (ety2 : PySem.W.typeIn K (.ref CE2) = some (.type "type"))
    (ekC2 : PySem.W.keepIn K (.ref CE2) = true)
    (etI2 : PySem.W.typeIn K (.ref fE2) = some (.type "function"))
    (erc2 : PySem.W.codeIn K (.ref uE2) (Str.ofString "InvalidAmount.__init__") = true)
    (elc2 : K.lookup cE2 = some ⟨nE2, nd2, .cell (some (.ref CE2)), ns2⟩)
    (esb2 : PySem.W.mroIn K CE2 (.ref CE2) = some true)
    (esu2 : PySem.W.nsIn K mainGlobals "super" = some none)
    (etp2 : PySem.W.nsIn K cStatics "thirdparty.any" = some none)
    (eni2 : PySem.W.ks_superIn K CE2 CE2 "__init__" = some (some (.builtin "ValueError.__init__")))
    (esv2 : PySem.W.subIn K (.ref CE2) (.type "ValueError") = some true)
    (eei2 : PySem.W.excInitIn K CE2 [.type "ValueError", .type "Exception", .type "BaseException", .type "object"] "ValueError.__new__" = true)
    (enf2 : PySem.W.findIn K (.ref CE2) (Str.ofString "value") = some none)
    (xga1 : PySem.W.findIn K (.ref CE1) "__getattribute__" = some (some (.builtin "BaseException.__getattribute__")))
    (xgg1 : PySem.W.findIn K (.ref CE1) "__getattr__" = some none)
    (xhd1 : PySem.W.hasDictIn K CE1 = true)
    (xic1 : PySem.W.isClsIn K CE1 = true)
    (xca1 : PySem.W.findIn K (.ref CE1) "__class__" = some (some (.builtin "object.__class__")))
    (xcm1 : PySem.W.mroIn K CE1 (.type "object") = some true)
    (xkP1 : PySem.W.subIn K (.ref CE1) (.ref CP) = some true)
    (xow1 : PySem.W.subIn K (.ref CE1) (.ref CE1) = some true)
    (xga2 : PySem.W.findIn K (.ref CE2) "__getattribute__" = some (some (.builtin "BaseException.__getattribute__")))
    (xgg2 : PySem.W.findIn K (.ref CE2) "__getattr__" = some none)
    (xhd2 : PySem.W.hasDictIn K CE2 = true)
    (xic2 : PySem.W.isClsIn K CE2 = true)
    (xca2 : PySem.W.findIn K (.ref CE2) "__class__" = some (some (.builtin "object.__class__")))
    (xcm2 : PySem.W.mroIn K CE2 (.type "object") = some true)
    (xkP2 : PySem.W.subIn K (.ref CE2) (.ref CP) = some true)
    (xow2 : PySem.W.subIn K (.ref CE2) (.ref CE2) = some true)
    (nIA : PySem.W.subIn K (.ref CE2) (.ref CE1) = some false)
    (kCI : PySem.W.subIn K (.ref C) (.type "int") = some false)
    (kCB : PySem.W.subIn K (.ref C) (.type "bool") = some false)
    (kCS : PySem.W.subIn K (.ref C) (.type "str") = some false)
    (aLt : PySem.W.nsIn K mainGlobals "LETTERS" = some (some vLt))
    (rLt : RelV (.str "abcdefghijklmnopqrstuvwxyz") vLt)
    (aMl : PySem.W.nsIn K mainGlobals "MOST_LETTERS" = some (some vMl))
    (rMl : RelV (.int 8) vMl)
    (aNm : PySem.W.nsIn K mainGlobals "is_name" = some (some (.ref fNm)))
    (lNm : K.lookup fNm = some ⟨ocNm, odNm, .func (PySem.W.fnOf "is_name" "is_name" (defArgs sName) (defBody sName) (defScope sName) .none kVNm dcNm pmNm anNm cdNm ctNm), slNm⟩)
    (cNm : PySem.W.codeIn K cdNm "is_name" = true)
    (kNm : PySem.W.keepIn K (.ref fNm) = true)
    (aAm : PySem.W.nsIn K mainGlobals "is_amount" = some (some (.ref fAm)))
    (lAm : K.lookup fAm = some ⟨ocAm, odAm, .func (PySem.W.fnOf "is_amount" "is_amount" (defArgs sIsAm) (defBody sIsAm) (defScope sIsAm) .none kVAm dcAm pmAm anAm cdAm ctAm), slAm⟩)
    (cAm : PySem.W.codeIn K cdAm "is_amount" = true)
    (kAm : PySem.W.keepIn K (.ref fAm) = true)
    (aD0 : PySem.W.nsIn K mainGlobals "_law_odd" = some (some (.ref fD0)))
    (lD0 : K.lookup fD0 = some ⟨ocD0, odD0, .func (PySem.W.fnOf "_law_odd" "_law_odd" (defArgs sOdd) (defBody sOdd) (defScope sOdd) .none kVD0 dcD0 pmD0 anD0 cdD0 ctD0), slD0⟩)
    (cD0 : PySem.W.codeIn K cdD0 "_law_odd" = true)
    (kD0 : PySem.W.keepIn K (.ref fD0) = true)
    (aD1 : PySem.W.nsIn K mainGlobals "_law_word" = some (some (.ref fD1)))
    (lD1 : K.lookup fD1 = some ⟨ocD1, odD1, .func (PySem.W.fnOf "_law_word" "_law_word" (defArgs sWord) (defBody sWord) (defScope sWord) .none kVD1 dcD1 pmD1 anD1 cdD1 ctD1), slD1⟩)
    (cD1 : PySem.W.codeIn K cdD1 "_law_word" = true)
    (kD1 : PySem.W.keepIn K (.ref fD1) = true)
    (aD2 : PySem.W.nsIn K mainGlobals "_law_told" = some (some (.ref fD2)))
    (lD2 : K.lookup fD2 = some ⟨ocD2, odD2, .func (PySem.W.fnOf "_law_told" "_law_told" (defArgs sTold) (defBody sTold) (defScope sTold) .none kVD2 dcD2 pmD2 anD2 cdD2 ctD2), slD2⟩)
    (cD2 : PySem.W.codeIn K cdD2 "_law_told" = true)
    (kD2 : PySem.W.keepIn K (.ref fD2) = true)
    (aD3 : PySem.W.nsIn K mainGlobals "_law_due" = some (some (.ref fD3)))
    (lD3 : K.lookup fD3 = some ⟨ocD3, odD3, .func (PySem.W.fnOf "_law_due" "_law_due" (defArgs sDue) (defBody sDue) (defScope sDue) .none kVD3 dcD3 pmD3 anD3 cdD3 ctD3), slD3⟩)
    (cD3 : PySem.W.codeIn K cdD3 "_law_due" = true)
    (kD3 : PySem.W.keepIn K (.ref fD3) = true)
    (aD4 : PySem.W.nsIn K mainGlobals "_law_looks_right" = some (some (.ref fD4)))
    (lD4 : K.lookup fD4 = some ⟨ocD4, odD4, .func (PySem.W.fnOf "_law_looks_right" "_law_looks_right" (defArgs sLooks) (defBody sLooks) (defScope sLooks) .none kVD4 dcD4 pmD4 anD4 cdD4 ctD4), slD4⟩)
    (cD4 : PySem.W.codeIn K cdD4 "_law_looks_right" = true)
    (kD4 : PySem.W.keepIn K (.ref fD4) = true)
    (aD5 : PySem.W.nsIn K mainGlobals "_law_right" = some (some (.ref fD5)))
    (lD5 : K.lookup fD5 = some ⟨ocD5, odD5, .func (PySem.W.fnOf "_law_right" "_law_right" (defArgs sRight) (defBody sRight) (defScope sRight) .none kVD5 dcD5 pmD5 anD5 cdD5 ctD5), slD5⟩)
    (cD5 : PySem.W.codeIn K cdD5 "_law_right" = true)
    (kD5 : PySem.W.keepIn K (.ref fD5) = true)
    (aX1 : PySem.W.nsIn K mainGlobals "_law_parts_right" = some (some (.ref fX1)))
    (lX1 : K.lookup fX1 = some ⟨ocX1, odX1, .func (PySem.W.fnOf "_law_parts_right" "_law_parts_right" (defArgs sParts) (defBody sParts) (defScope sParts) .none kVX1 dcX1 pmX1 anX1 (.ref cX1_) ctX1), slX1⟩)
    (cX1 : PySem.W.codeIn K (.ref cX1_) "_law_parts_right" = true)
    (kX1 : PySem.W.keepIn K (.ref fX1) = true)
    (lcX1 : K.lookup cX1_ = some ⟨ceX1, cfX1, .fields cvX1, cgX1⟩)
    (vcX1 : cvX1[11]? = some (.ref PX1_))
    (hcX1 : PySem.W.codeHdIn K cX1_ PX1_ = true)
    (ntX1 : K.lookup PX1_ = none)
    (etX1 : h.get? PX1_ = some (PySem.W.tabObj #[]))
    (aX2 : PySem.W.nsIn K mainGlobals "_law_uses_right" = some (some (.ref fX2)))
    (lX2 : K.lookup fX2 = some ⟨ocX2, odX2, .func (PySem.W.fnOf "_law_uses_right" "_law_uses_right" (defArgs sUses) (defBody sUses) (defScope sUses) .none kVX2 dcX2 pmX2 anX2 (.ref cX2_) ctX2), slX2⟩)
    (cX2 : PySem.W.codeIn K (.ref cX2_) "_law_uses_right" = true)
    (kX2 : PySem.W.keepIn K (.ref fX2) = true)
    (lcX2 : K.lookup cX2_ = some ⟨ceX2, cfX2, .fields cvX2, cgX2⟩)
    (vcX2 : cvX2[11]? = some (.ref PX2_))
    (hcX2 : PySem.W.codeHdIn K cX2_ PX2_ = true)
    (ntX2 : K.lookup PX2_ = none)
    (etX2 : h.get? PX2_ = some (PySem.W.tabObj #[]))
    (hne : PX1_ ≠ PX2_)
    (aL : PySem.W.nsIn K mainGlobals "law" = some (some (.ref fL)))
    (lL : K.lookup fL = some ⟨ocL, odL, .func (PySem.W.fnOf "law" "law" (defArgs sLaw) (defBody sLaw) (defScope sLaw) .none kVL dcL pmL anL cdL ctL), slL⟩)
    (cL : PySem.W.codeIn K cdL "law" = true)
    (kL : PySem.W.keepIn K (.ref fL) = true)
    (z_repr : PySem.W.nsIn K mainGlobals "repr" = some none)
    (z_all : PySem.W.nsIn K mainGlobals "all" = some none)
    (z_any : PySem.W.nsIn K mainGlobals "any" = some none)
    (z_range : PySem.W.nsIn K mainGlobals "range" = some none)
    (z_min : PySem.W.nsIn K mainGlobals "min" = some none)
    (z_ValueError : PySem.W.nsIn K mainGlobals "ValueError" = some none) :
    ∃ (fd : FuncData) (cs : List (Addr × Addr)) (sp : Sp), (∀ p ∈ cs, h.get? p.2 = some { cls := .none, data := .fields #[] }) ∧ (∀ p ∈ cs, K.lookup p.2 = none) ∧ (∀ p ∈ cs, PySem.W.CodeHd h p.1 p.2) ∧ (∀ (s : Shared) (u : Value), BindsTo s fd ⟨[u], []⟩ [("_law_script", u)]) ∧
      (∀ (H : Hp) (a : Addr) (ns : List Int), ns.length ≤ 63 → (∀ p ∈ cs, H p.2 = some (.tbl #[])) → SqL K H a (ns.map V.int) → sp [.ref a] H (fun v _ => v = .bl true) fun _ _ _ => False) ∧
      ∀ base : Heap, K.In base → base.Ns mainGlobals mg → (∀ p ∈ cs, LamX.TabB base mg p.1 p.2) → FnG P w K mg base CX0 13 fa fd ["_law_script"] sp := by
  have e := hfa.symm.trans (PySem.W.mg_of X G aL)
  cases e
  have FA0 := fun_mk (st := sIsInt) lA0 cA0 kA0
  have bA0 := FA0.binds (ps := ["value"]) fun _ _ _ _ _ _ us hl => match us, hl with | [_], _ => rfl
  have TA0 : Top K mg "is_integer" sIsInt ["value"] := ⟨_, _, PySem.W.mg_of X G aA0, FA0, bA0⟩
  have FA1 := fun_mk (st := sCD) lA1 cA1 kA1
  have bA1 := FA1.binds (ps := ["one", "other"]) fun _ _ _ _ _ _ us hl => match us, hl with | [_, _], _ => rfl
  have TA1 : Top K mg "common_divisor" sCD ["one", "other"] := ⟨_, _, PySem.W.mg_of X G aA1, FA1, bA1⟩
  have FA2 := fun_mk (st := sPl) lA2 cA2 kA2
  have bA2 := FA2.binds (ps := ["top", "bottom"]) fun _ _ _ _ _ _ us hl => match us, hl with | [_, _], _ => rfl
  have TA2 : Top K mg "place_of" sPl ["top", "bottom"] := ⟨_, _, PySem.W.mg_of X G aA2, FA2, bA2⟩
  have am : AmTxt K mg C := { b_isinstance := PySem.W.mg_none_of X G z_isinstance, b_int := PySem.W.mg_none_of X G z_int, b_bool := PySem.W.mg_none_of X G z_bool, b_abs := PySem.W.mg_none_of X G z_abs, tII := TA0, tCD := TA1, tPl := TA2, gC := PySem.W.mg_of X G aC, cl := ⟨pg, hd, po, sa⟩, ca := ca, cn := cn, ck := ck, cm := cm, ne := ne, fg := ⟨tu, li⟩, na := not_own ic ty, nT := nT, nB := nB, nP := nP, mkC := ⟨fI, _, ⟨mk, aI, iI, kc⟩, init_mk lI cI kI lD rD⟩ }
  have FM0 := fun_mk (st := sMEq) lM0 cM0 kM0
  have bM0 := FM0.binds (ps := ["self", "other"]) fun _ _ _ _ _ _ us hl => match us, hl with | [_, _], _ => rfl
  have TM0 : MethT K C "__eq__" "Amount.__eq__" sMEq ["self", "other"] := ⟨_, _, aM0, iM0, FM0, bM0⟩
  have FM1 := fun_mk (st := sMLt) lM1 cM1 kM1
  have bM1 := FM1.binds (ps := ["self", "other"]) fun _ _ _ _ _ _ us hl => match us, hl with | [_, _], _ => rfl
  have TM1 : MethT K C "__lt__" "Amount.__lt__" sMLt ["self", "other"] := ⟨_, _, aM1, iM1, FM1, bM1⟩
  have FM2 := fun_mk (st := sMLe) lM2 cM2 kM2
  have bM2 := FM2.binds (ps := ["self", "other"]) fun _ _ _ _ _ _ us hl => match us, hl with | [_, _], _ => rfl
  have TM2 : MethT K C "__le__" "Amount.__le__" sMLe ["self", "other"] := ⟨_, _, aM2, iM2, FM2, bM2⟩
  have FM3 := fun_mk (st := sMGt) lM3 cM3 kM3
  have bM3 := FM3.binds (ps := ["self", "other"]) fun _ _ _ _ _ _ us hl => match us, hl with | [_, _], _ => rfl
  have TM3 : MethT K C "__gt__" "Amount.__gt__" sMGt ["self", "other"] := ⟨_, _, aM3, iM3, FM3, bM3⟩
  have FM4 := fun_mk (st := sMGe) lM4 cM4 kM4
  have bM4 := FM4.binds (ps := ["self", "other"]) fun _ _ _ _ _ _ us hl => match us, hl with | [_, _], _ => rfl
  have TM4 : MethT K C "__ge__" "Amount.__ge__" sMGe ["self", "other"] := ⟨_, _, aM4, iM4, FM4, bM4⟩
  have FM5 := fun_mk (st := sMStr) lM5 cM5 kM5
  have bM5 := FM5.binds (ps := ["self"]) fun _ _ _ _ _ _ us hl => match us, hl with | [_], _ => rfl
  have TM5 : MethT K C "__str__" "Amount.__str__" sMStr ["self"] := ⟨_, _, aM5, iM5, FM5, bM5⟩
  have FM6 := fun_mk (st := sMRepr) lM6 cM6 kM6
  have bM6 := FM6.binds (ps := ["self"]) fun _ _ _ _ _ _ us hl => match us, hl with | [_], _ => rfl
  have TM6 : MethT K C "__repr__" "Amount.__repr__" sMRepr ["self"] := ⟨_, _, aM6, iM6, FM6, bM6⟩
  have FQ := fun_mk (st := sMTop) lQ cQ kQ
  have bQ := FQ.binds (ps := ["self"]) fun _ _ _ _ _ _ us hl => match us, hl with | [_], _ => rfl
  have TQ : PropT K C "top" "Amount.top" sMTop := ⟨_, _, _, ⟨qQ, gQ, tQ, _, aQ⟩, FQ, bQ⟩
  have cmp : AmCmp K mg C := { eq := TM0, lt := TM1, le := TM2, gt := TM3, ge := TM4, st := TM5, rp := TM6, pt := TQ, b_str := PySem.W.mg_none_of X G z_str }
  have FOf := fun_mk (st := sOf) lOf cOf kOf
  have bOf := FOf.binds (ps := ["value"]) fun _ _ _ _ _ _ us hl => match us, hl with | [_], _ => rfl
  have TOf : Top K mg "amount_of" sOf ["value"] := ⟨_, _, PySem.W.mg_of X G aOf, FOf, bOf⟩
  have FOadd := fun_mk (st := sMAdd) lOadd cOadd kOadd
  have bOadd := FOadd.binds (ps := ["self", "other"]) fun _ _ _ _ _ _ us hl => match us, hl with | [_, _], _ => rfl
  have TOadd : MethT K C "__add__" "Amount.__add__" sMAdd ["self", "other"] := ⟨_, _, aOadd, iOadd, FOadd, bOadd⟩
  have FOradd := fun_mk (st := sMRadd) lOradd cOradd kOradd
  have bOradd := FOradd.binds (ps := ["self", "other"]) fun _ _ _ _ _ _ us hl => match us, hl with | [_, _], _ => rfl
  have TOradd : MethT K C "__radd__" "Amount.__radd__" sMRadd ["self", "other"] := ⟨_, _, aOradd, iOradd, FOradd, bOradd⟩
  have FOsub := fun_mk (st := sMSub) lOsub cOsub kOsub
  have bOsub := FOsub.binds (ps := ["self", "other"]) fun _ _ _ _ _ _ us hl => match us, hl with | [_, _], _ => rfl
  have TOsub : MethT K C "__sub__" "Amount.__sub__" sMSub ["self", "other"] := ⟨_, _, aOsub, iOsub, FOsub, bOsub⟩
  have FOrsub := fun_mk (st := sMRsub) lOrsub cOrsub kOrsub
  have bOrsub := FOrsub.binds (ps := ["self", "other"]) fun _ _ _ _ _ _ us hl => match us, hl with | [_, _], _ => rfl
  have TOrsub : MethT K C "__rsub__" "Amount.__rsub__" sMRsub ["self", "other"] := ⟨_, _, aOrsub, iOrsub, FOrsub, bOrsub⟩
  have FOmul := fun_mk (st := sMMul) lOmul cOmul kOmul
  have bOmul := FOmul.binds (ps := ["self", "other"]) fun _ _ _ _ _ _ us hl => match us, hl with | [_, _], _ => rfl
  have TOmul : MethT K C "__mul__" "Amount.__mul__" sMMul ["self", "other"] := ⟨_, _, aOmul, iOmul, FOmul, bOmul⟩
  have FOrmul := fun_mk (st := sMRmul) lOrmul cOrmul kOrmul
  have bOrmul := FOrmul.binds (ps := ["self", "other"]) fun _ _ _ _ _ _ us hl => match us, hl with | [_, _], _ => rfl
  have TOrmul : MethT K C "__rmul__" "Amount.__rmul__" sMRmul ["self", "other"] := ⟨_, _, aOrmul, iOrmul, FOrmul, bOrmul⟩
  have FOneg := fun_mk (st := sMNeg) lOneg cOneg kOneg
  have bOneg := FOneg.binds (ps := ["self"]) fun _ _ _ _ _ _ us hl => match us, hl with | [_], _ => rfl
  have TOneg : MethT K C "__neg__" "Amount.__neg__" sMNeg ["self"] := ⟨_, _, aOneg, iOneg, FOneg, bOneg⟩
  have FOabs := fun_mk (st := sMAbs) lOabs cOabs kOabs
  have bOabs := FOabs.binds (ps := ["self"]) fun _ _ _ _ _ _ us hl => match us, hl with | [_], _ => rfl
  have TOabs : MethT K C "__abs__" "Amount.__abs__" sMAbs ["self"] := ⟨_, _, aOabs, iOabs, FOabs, bOabs⟩
  have FObool := fun_mk (st := sMBool) lObool cObool kObool
  have bObool := FObool.binds (ps := ["self"]) fun _ _ _ _ _ _ us hl => match us, hl with | [_], _ => rfl
  have TObool : MethT K C "__bool__" "Amount.__bool__" sMBool ["self"] := ⟨_, _, aObool, iObool, FObool, bObool⟩
  have ops : AmOps K mg C := { tOf := TOf, sf := sf, si := si, add := TOadd, radd := TOradd, sub := TOsub, rsub := TOrsub, mul := TOmul, rmul := TOrmul, neg := TOneg, abs := TOabs, bool := TObool }
  have FS := fun_mk (st := sMSum) lS cS kS
  have sm : AmSum K C := ⟨.type "type", pS, fS, _, ⟨rdS, gaS⟩, ⟨atS, ⟨rsS, aS⟩, fiS⟩, FS⟩
  have FP0 := fun_mk (st := sPot) lP0 cP0 kP0
  have bP0 := FP0.binds (ps := ["_law_script", "_law_k"]) fun _ _ _ _ _ _ us hl => match us, hl with | [_, _], _ => rfl
  have TP0 : Top K mg "_law_pot" sPot ["_law_script", "_law_k"] := ⟨_, _, PySem.W.mg_of X G aP0, FP0, bP0⟩
  have FP1 := fun_mk (st := sDraw) lP1 cP1 kP1
  have bP1 := FP1.binds (ps := ["_law_pot_here", "_law_size"]) fun _ _ _ _ _ _ us hl => match us, hl with | [_, _], _ => rfl
  have TP1 : Top K mg "_law_draw" sDraw ["_law_pot_here", "_law_size"] := ⟨_, _, PySem.W.mg_of X G aP1, FP1, bP1⟩
  have FP2 := fun_mk (st := sChoice) lP2 cP2 kP2
  have bP2 := FP2.binds (ps := ["_law_pot_here", "_law_some"]) fun _ _ _ _ _ _ us hl => match us, hl with | [_, _], _ => rfl
  have TP2 : Top K mg "_law_choice" sChoice ["_law_pot_here", "_law_some"] := ⟨_, _, PySem.W.mg_of X G aP2, FP2, bP2⟩
  have pot : PotT K mg := { b_int := PySem.W.mg_none_of X G z_int, b_abs := PySem.W.mg_none_of X G z_abs, b_max := PySem.W.mg_none_of X G z_max, b_len := PySem.W.mg_none_of X G z_len, b_divmod := PySem.W.mg_none_of X G z_divmod, tPot := TP0, tDraw := TP1, tChoice := TP2 }
  have FOv := fun_mk (st := sMOver) lOv cOv kOv
  have bOv := FOv.binds (ps := ["self", "other"]) fun _ _ _ _ _ _ us hl => match us, hl with | [_, _], _ => rfl
  have TOv : MethT K C "over" "Amount.over" sMOver ["self", "other"] := ⟨_, _, aOv, iOv, FOv, bOv⟩
  have FBt := fun_mk (st := sMBot) lBt cBt kBt
  have bBt := FBt.binds (ps := ["self"]) fun _ _ _ _ _ _ us hl => match us, hl with | [_], _ => rfl
  have TBt : PropT K C "bottom" "Amount.bottom" sMBot := ⟨_, _, _, ⟨qBt, gBt, tBt, _, aBt⟩, FBt, bBt⟩
  have R1 : ∀ base : Heap, ErrOk P w K mg base "InvalidInteger" CE1 (Str.ofString "value") := fun base => err_mk r_sEII PySem.F.excBase_ValueError ehf1 eht1 (fun us hl => match us, hl with | [_, _], _ => rfl) X G eaC1 elC1 esa1 eex1 ety1 ekC1 eiC1 elf1 etI1 elu1 evu1 erc1 elc1 esb1 esu1 etp1 eni1 esv1 eei1 enf1
  have R2 : ∀ base : Heap, ErrOk P w K mg base "InvalidAmount" CE2 (Str.ofString "value") := fun base => err_mk r_sEIA PySem.F.excBase_ValueError ehf2 eht2 (fun us hl => match us, hl with | [_, _], _ => rfl) X G eaC2 elC2 esa2 eex2 ety2 ekC2 eiC2 elf2 etI2 elu2 evu2 erc2 elc2 esb2 esu2 etp2 eni2 esv2 eei2 enf2
  have EX1 : ErX K mg "InvalidInteger" CE1 CP := ⟨PySem.W.mg_of X G eaC1, ⟨xga1, xgg1, eex1, xhd1⟩, ⟨xic1, xga1, ⟨none, xgg1⟩, eex1, xca1, cn, ck, xcm1⟩, enf1, kit_refT icP tyP xkP1, kit_bi (by decide +kernel) esv1, exm_own eex1 xic1 ety1 xow1⟩
  have EX2 : ErX K mg "InvalidAmount" CE2 CP := ⟨PySem.W.mg_of X G eaC2, ⟨xga2, xgg2, eex2, xhd2⟩, ⟨xic2, xga2, ⟨none, xgg2⟩, eex2, xca2, cn, ck, xcm2⟩, enf2, kit_refT icP tyP xkP2, kit_bi (by decide +kernel) esv2, exm_own eex2 xic2 ety2 xow2⟩
  have FNm := fun_mk (st := sName) lNm cNm kNm
  have bNm := FNm.binds (ps := ["value"]) fun _ _ _ _ _ _ us hl => match us, hl with | [_], _ => rfl
  have TNm : Top K mg "is_name" sName ["value"] := ⟨_, _, PySem.W.mg_of X G aNm, FNm, bNm⟩
  have FAm := fun_mk (st := sIsAm) lAm cAm kAm
  have bAm := FAm.binds (ps := ["value"]) fun _ _ _ _ _ _ us hl => match us, hl with | [_], _ => rfl
  have TAm : Top K mg "is_amount" sIsAm ["value"] := ⟨_, _, PySem.W.mg_of X G aAm, FAm, bAm⟩
  have FD0 := fun_mk (st := sOdd) lD0 cD0 kD0
  have bD0 := FD0.binds (ps := ["_law_pot_here"]) fun _ _ _ _ _ _ us hl => match us, hl with | [_], _ => rfl
  have TD0 : Top K mg "_law_odd" sOdd ["_law_pot_here"] := ⟨_, _, PySem.W.mg_of X G aD0, FD0, bD0⟩
  have FD1 := fun_mk (st := sWord) lD1 cD1 kD1
  have bD1 := FD1.binds (ps := ["_law_pot_here"]) fun _ _ _ _ _ _ us hl => match us, hl with | [_], _ => rfl
  have TD1 : Top K mg "_law_word" sWord ["_law_pot_here"] := ⟨_, _, PySem.W.mg_of X G aD1, FD1, bD1⟩
  have FD2 := fun_mk (st := sTold) lD2 cD2 kD2
  have bD2 := FD2.binds (ps := ["_law_call"]) fun _ _ _ _ _ _ us hl => match us, hl with | [_], _ => rfl
  have TD2 : Top K mg "_law_told" sTold ["_law_call"] := ⟨_, _, PySem.W.mg_of X G aD2, FD2, bD2⟩
  have FD3 := fun_mk (st := sDue) lD3 cD3 kD3
  have bD3 := FD3.binds (ps := ["_law_kind", "_law_thing"]) fun _ _ _ _ _ _ us hl => match us, hl with | [_, _], _ => rfl
  have TD3 : Top K mg "_law_due" sDue ["_law_kind", "_law_thing"] := ⟨_, _, PySem.W.mg_of X G aD3, FD3, bD3⟩
  have FD4 := fun_mk (st := sLooks) lD4 cD4 kD4
  have bD4 := FD4.binds (ps := ["_law_pot_here", "_law_made"]) fun _ _ _ _ _ _ us hl => match us, hl with | [_, _], _ => rfl
  have TD4 : Top K mg "_law_looks_right" sLooks ["_law_pot_here", "_law_made"] := ⟨_, _, PySem.W.mg_of X G aD4, FD4, bD4⟩
  have FD5 := fun_mk (st := sRight) lD5 cD5 kD5
  have bD5 := FD5.binds (ps := ["_law_pot_here"]) fun _ _ _ _ _ _ us hl => match us, hl with | [_], _ => rfl
  have TD5 : Top K mg "_law_right" sRight ["_law_pot_here"] := ⟨_, _, PySem.W.mg_of X G aD5, FD5, bD5⟩
  have FX1 := fun_mk (st := sParts) lX1 cX1 kX1
  have bX1 := FX1.binds (ps := ["_law_pot_here", "_law_made"]) fun _ _ _ _ _ _ us hl => match us, hl with | [_, _], _ => rfl
  have TX1 : TopC K mg "_law_parts_right" sParts ["_law_pot_here", "_law_made"] cX1_ := ⟨fX1, _, _, _, _, _, _, _, _, PySem.W.mg_of X G aX1, lX1, cX1, kX1, bX1⟩
  have FX2 := fun_mk (st := sUses) lX2 cX2 kX2
  have bX2 := FX2.binds (ps := ["_law_pot_here", "_law_made"]) fun _ _ _ _ _ _ us hl => match us, hl with | [_, _], _ => rfl
  have TX2 : TopC K mg "_law_uses_right" sUses ["_law_pot_here", "_law_made"] cX2_ := ⟨fX2, _, _, _, _, _, _, _, _, PySem.W.mg_of X G aX2, lX2, cX2, kX2, bX2⟩
  have FL := fun_mk (st := sLaw) lL cL kL
  have bL := FL.binds (ps := ["_law_script"]) fun _ _ _ _ _ _ us hl => match us, hl with | [_], _ => rfl
  have TL : Top K mg "law" sLaw ["_law_script"] := ⟨_, _, PySem.W.mg_of X G aL, FL, bL⟩
  have nm : NmTxt K mg := { b_isinstance := PySem.W.mg_none_of X G z_isinstance, b_str := PySem.W.mg_none_of X G z_str, b_len := PySem.W.mg_none_of X G z_len, b_all := PySem.W.mg_none_of X G z_all, letters := ⟨_, PySem.W.mg_of X G aLt, rLt⟩, most := ⟨_, PySem.W.mg_of X G aMl, rMl⟩, tNm := TNm }
  have T : LTxt K mg C CE1 CE2 CP cX1_ PX1_ cX2_ PX2_ := { toAmTxt := am, cmp := cmp, ops := ops, sm := sm, pot := pot, nm := nm, na_d := kit_own ic ty mro_dict rfl, kCI := kit_bi (by decide +kernel) kCI, kCB := kit_bi (by decide +kernel) kCB, kCS := kit_bi (by decide +kernel) kCS, over := TOv, bot := TBt, eI := EX1, eA := EX2, nIA := exm_own eex1 xic1 ety1 nIA, gP := PySem.W.mg_of X G aPE, tAm := TAm, tParts := TX1, tUses := TX2, b_repr := PySem.W.mg_none_of X G z_repr, b_all := PySem.W.mg_none_of X G z_all, b_any := PySem.W.mg_none_of X G z_any, b_range := PySem.W.mg_none_of X G z_range, b_min := PySem.W.mg_none_of X G z_min, b_ValueError := PySem.W.mg_none_of X G z_ValueError, b_str := PySem.W.mg_none_of X G z_str, b_len := PySem.W.mg_none_of X G z_len, b_max := PySem.W.mg_none_of X G z_max, tOdd := TD0, tWord := TD1, tTold := TD2, tDue := TD3, tLooks := TD4, tRight := TD5 }
  refine ⟨_, [(cX1_, PX1_), (cX2_, PX2_)], spLaw K [(PX1_, tl1), (PX2_, tl2)], ?_, ?_, ?_, fun s v => .of_eq rfl, ?_, fun base _ _ TB => ok_law T (R1 base) (R2 base) (TB _ List.mem_cons_self) (TB _ (List.mem_cons_of_mem _ List.mem_cons_self)) hne FL⟩
  · intro p hp
    rcases List.mem_cons.mp hp with rfl | hp
    · exact etX1
    · rw [List.mem_singleton.mp hp]
      exact etX2
  · intro p hp
    rcases List.mem_cons.mp hp with rfl | hp
    · exact ntX1
    · rw [List.mem_singleton.mp hp]
      exact ntX2
  · intro p hp
    rcases List.mem_cons.mp hp with rfl | hp
    · exact PySem.W.codeHd_of_K X hcX1
    · rw [List.mem_singleton.mp hp]
      exact PySem.W.codeHd_of_K X hcX2
  · intro H a ns hl hT hS
    refine ⟨a, ns, rfl, hS, hl, fun y hy => ?_, fun _ => rfl⟩
    rcases List.mem_cons.mp hy with rfl | hy
    · exact LamX.TabS.nil (hT _ List.mem_cons_self)
    · rw [List.mem_singleton.mp hy]
      exact LamX.TabS.nil (hT _ (List.mem_cons_of_mem _ List.mem_cons_self))
end SP
open PySem PySem.W PyProof.Rows
set_option maxRecDepth 100000 in
set_option maxHeartbeats 0 in
theorem PySem.Challenge.cw_surepipes_k14_amounts_refused_holds : PySem.Challenge.rw_surepipes_k14_amounts_refused.Holds := by
  refine hd ?_
  k_fill
  refine SP.walk_ofGT (l := PySem.Challenge.rw_surepipes_k14_amounts_refused) (n := 63) (k := 13) (x := "_law_script") (CX := fun _ => L2.CX0) rfl (by decide) rfl ⟨rfl, by decide, by decide⟩ (fun w h Y => PySem.W.km_in_of Y) ?F fun _ _ _ _ _ z => z
  case F =>
    intro w mg fa h Y KX G hmg
    refine' SP.all_mk KX G hmg ?aC ?aA0 ?lA0 ?cA0 ?kA0 ?aA1 ?lA1 ?cA1 ?kA1 ?aA2 ?lA2 ?cA2 ?kA2 ?aI ?lI ?cI ?kI ?lD ?rD ?iI ?mk ?kc ?pg ?hd ?po ?sa ?ca ?cn ?ck ?cm ?ne ?tu ?li ?ic ?ty ?nT ?nB ?nP ?z_isinstance ?z_int ?z_bool ?z_abs ?aM0 ?lM0 ?cM0 ?kM0 ?iM0 ?aM1 ?lM1 ?cM1 ?kM1 ?iM1 ?aM2 ?lM2 ?cM2 ?kM2 ?iM2 ?aM3 ?lM3 ?cM3 ?kM3 ?iM3 ?aM4 ?lM4 ?cM4 ?kM4 ?iM4 ?aM5 ?lM5 ?cM5 ?kM5 ?iM5 ?aM6 ?lM6 ?cM6 ?kM6 ?iM6 ?qQ ?gQ ?tQ ?aQ ?lQ ?cQ ?kQ ?z_str ?aOf ?lOf ?cOf ?kOf ?sf ?si ?aOadd ?lOadd ?cOadd ?kOadd ?iOadd ?aOradd ?lOradd ?cOradd ?kOradd ?iOradd ?aOsub ?lOsub ?cOsub ?kOsub ?iOsub ?aOrsub ?lOrsub ?cOrsub ?kOrsub ?iOrsub ?aOmul ?lOmul ?cOmul ?kOmul ?iOmul ?aOrmul ?lOrmul ?cOrmul ?kOrmul ?iOrmul ?aOneg ?lOneg ?cOneg ?kOneg ?iOneg ?aOabs ?lOabs ?cOabs ?kOabs ?iOabs ?aObool ?lObool ?cObool ?kObool ?iObool ?rdS ?gaS ?atS ?aS ?lS ?cS ?kS ?fiS ?z_max ?z_len ?z_divmod ?aP0 ?lP0 ?cP0 ?kP0 ?aP1 ?lP1 ?cP1 ?kP1 ?aP2 ?lP2 ?cP2 ?kP2 ?aOv ?lOv ?cOv ?kOv ?iOv ?qBt ?gBt ?tBt ?aBt ?lBt ?cBt ?kBt ?aPE ?icP ?tyP ?eaC1 ?eiC1 ?elf1 ?elu1 ?evu1 ?ehf1 ?eht1 ?elC1 ?esa1 ?eex1 ?ety1 ?ekC1 ?etI1 ?erc1 ?elc1 ?esb1 ?esu1 ?etp1 ?eni1 ?esv1 ?eei1 ?enf1 ?eaC2 ?eiC2 ?elf2 ?elu2 ?evu2 ?ehf2 ?eht2 ?elC2 ?esa2 ?eex2 ?ety2 ?ekC2 ?etI2 ?erc2 ?elc2 ?esb2 ?esu2 ?etp2 ?eni2 ?esv2 ?eei2 ?enf2 ?xga1 ?xgg1 ?xhd1 ?xic1 ?xca1 ?xcm1 ?xkP1 ?xow1 ?xga2 ?xgg2 ?xhd2 ?xic2 ?xca2 ?xcm2 ?xkP2 ?xow2 ?nIA ?kCI ?kCB ?kCS ?aLt ?rLt ?aMl ?rMl ?aNm ?lNm ?cNm ?kNm ?aAm ?lAm ?cAm ?kAm ?aD0 ?lD0 ?cD0 ?kD0 ?aD1 ?lD1 ?cD1 ?kD1 ?aD2 ?lD2 ?cD2 ?kD2 ?aD3 ?lD3 ?cD3 ?kD3 ?aD4 ?lD4 ?cD4 ?kD4 ?aD5 ?lD5 ?cD5 ?kD5 ?aX1 ?lX1 ?cX1 ?kX1 ?lcX1 ?vcX1 ?hcX1 ?ntX1 ?etX1 ?aX2 ?lX2 ?cX2 ?kX2 ?lcX2 ?vcX2 ?hcX2 ?ntX2 ?etX2 ?hne ?aL ?lL ?cL ?kL ?z_repr ?z_all ?z_any ?z_range ?z_min ?z_ValueError
    (case aC => k_is)
    (case aA0 => k_is)
    (case lA0 => k_is)
    (case cA0 => k_is)
    (case kA0 => k_is)
    (case aA1 => k_is)
    (case lA1 => k_is)
    (case cA1 => k_is)
    (case kA1 => k_is)
    (case aA2 => k_is)
    (case lA2 => k_is)
    (case cA2 => k_is)
    (case kA2 => k_is)
    (case aI => k_is)
    (case lI => k_is)
    (case cI => k_is)
    (case kI => k_is)
    (case lD => k_is)
    (case rD => exact ⟨_, rfl⟩)
    (case iI => k_is)
    (case mk => k_is)
    (case kc => k_is)
    (case pg => k_is)
    (case hd => k_is)
    (case po => k_is)
    (case sa => k_is)
    (case ca => k_is)
    (case cn => k_is)
    (case ck => k_is)
    (case cm => k_is)
    (case ne => k_is)
    (case tu => k_is)
    (case li => k_is)
    (case ic => k_is)
    (case ty => k_is)
    (case nT => k_is)
    (case nB => k_is)
    (case nP => k_is)
    (case z_isinstance => k_is)
    (case z_int => k_is)
    (case z_bool => k_is)
    (case z_abs => k_is)
    (case aM0 => k_is)
    (case lM0 => k_is)
    (case cM0 => k_is)
    (case kM0 => k_is)
    (case iM0 => k_is)
    (case aM1 => k_is)
    (case lM1 => k_is)
    (case cM1 => k_is)
    (case kM1 => k_is)
    (case iM1 => k_is)
    (case aM2 => k_is)
    (case lM2 => k_is)
    (case cM2 => k_is)
    (case kM2 => k_is)
    (case iM2 => k_is)
    (case aM3 => k_is)
    (case lM3 => k_is)
    (case cM3 => k_is)
    (case kM3 => k_is)
    (case iM3 => k_is)
    (case aM4 => k_is)
    (case lM4 => k_is)
    (case cM4 => k_is)
    (case kM4 => k_is)
    (case iM4 => k_is)
    (case aM5 => k_is)
    (case lM5 => k_is)
    (case cM5 => k_is)
    (case kM5 => k_is)
    (case iM5 => k_is)
    (case aM6 => k_is)
    (case lM6 => k_is)
    (case cM6 => k_is)
    (case kM6 => k_is)
    (case iM6 => k_is)
    (case qQ => k_is)
    (case gQ => k_is)
    (case tQ => k_is)
    (case aQ => k_is)
    (case lQ => k_is)
    (case cQ => k_is)
    (case kQ => k_is)
    (case z_str => k_is)
    (case aOf => k_is)
    (case lOf => k_is)
    (case cOf => k_is)
    (case kOf => k_is)
    (case sf => k_is)
    (case si => k_is)
    (case aOadd => k_is)
    (case lOadd => k_is)
    (case cOadd => k_is)
    (case kOadd => k_is)
    (case iOadd => k_is)
    (case aOradd => k_is)
    (case lOradd => k_is)
    (case cOradd => k_is)
    (case kOradd => k_is)
    (case iOradd => k_is)
    (case aOsub => k_is)
    (case lOsub => k_is)
    (case cOsub => k_is)
    (case kOsub => k_is)
    (case iOsub => k_is)
    (case aOrsub => k_is)
    (case lOrsub => k_is)
    (case cOrsub => k_is)
    (case kOrsub => k_is)
    (case iOrsub => k_is)
    (case aOmul => k_is)
    (case lOmul => k_is)
    (case cOmul => k_is)
    (case kOmul => k_is)
    (case iOmul => k_is)
    (case aOrmul => k_is)
    (case lOrmul => k_is)
    (case cOrmul => k_is)
    (case kOrmul => k_is)
    (case iOrmul => k_is)
    (case aOneg => k_is)
    (case lOneg => k_is)
    (case cOneg => k_is)
    (case kOneg => k_is)
    (case iOneg => k_is)
    (case aOabs => k_is)
    (case lOabs => k_is)
    (case cOabs => k_is)
    (case kOabs => k_is)
    (case iOabs => k_is)
    (case aObool => k_is)
    (case lObool => k_is)
    (case cObool => k_is)
    (case kObool => k_is)
    (case iObool => k_is)
    (case rdS => k_is)
    (case gaS => k_is)
    (case atS => k_is)
    (case aS => k_is)
    (case lS => k_is)
    (case cS => k_is)
    (case kS => k_is)
    (case fiS => k_is)
    (case z_max => k_is)
    (case z_len => k_is)
    (case z_divmod => k_is)
    (case aP0 => k_is)
    (case lP0 => k_is)
    (case cP0 => k_is)
    (case kP0 => k_is)
    (case aP1 => k_is)
    (case lP1 => k_is)
    (case cP1 => k_is)
    (case kP1 => k_is)
    (case aP2 => k_is)
    (case lP2 => k_is)
    (case cP2 => k_is)
    (case kP2 => k_is)
    (case aOv => k_is)
    (case lOv => k_is)
    (case cOv => k_is)
    (case kOv => k_is)
    (case iOv => k_is)
    (case qBt => k_is)
    (case gBt => k_is)
    (case tBt => k_is)
    (case aBt => k_is)
    (case lBt => k_is)
    (case cBt => k_is)
    (case kBt => k_is)
    (case aPE => k_is)
    (case icP => k_is)
    (case tyP => k_is)
    (case eaC1 => k_is)
    (case eiC1 => k_is)
    (case elf1 => k_is)
    (case elu1 => k_is)
    (case evu1 => rfl)
    (case ehf1 => rfl)
    (case eht1 => rfl)
    (case elC1 => exact ⟨_, _, _, _, _, _, _, _, _, _, _, _, _, _, _, rfl, by decide +kernel⟩)
    (case esa1 => k_is)
    (case eex1 => k_is)
    (case ety1 => k_is)
    (case ekC1 => k_is)
    (case etI1 => k_is)
    (case erc1 => k_is)
    (case elc1 => k_is)
    (case esb1 => k_is)
    (case esu1 => k_is)
    (case etp1 => k_is)
    (case eni1 => first | kernel_rfl | decide +kernel | rfl)
    (case esv1 => k_is)
    (case eei1 => first | k_is | decide +kernel | rfl)
    (case enf1 => k_is)
    (case eaC2 => k_is)
    (case eiC2 => k_is)
    (case elf2 => k_is)
    (case elu2 => k_is)
    (case evu2 => rfl)
    (case ehf2 => rfl)
    (case eht2 => rfl)
    (case elC2 => exact ⟨_, _, _, _, _, _, _, _, _, _, _, _, _, _, _, rfl, by decide +kernel⟩)
    (case esa2 => k_is)
    (case eex2 => k_is)
    (case ety2 => k_is)
    (case ekC2 => k_is)
    (case etI2 => k_is)
    (case erc2 => k_is)
    (case elc2 => k_is)
    (case esb2 => k_is)
    (case esu2 => k_is)
    (case etp2 => k_is)
    (case eni2 => first | kernel_rfl | decide +kernel | rfl)
    (case esv2 => k_is)
    (case eei2 => first | k_is | decide +kernel | rfl)
    (case enf2 => k_is)
    (case xga1 => k_is)
    (case xgg1 => k_is)
    (case xhd1 => k_is)
    (case xic1 => k_is)
    (case xca1 => k_is)
    (case xcm1 => k_is)
    (case xkP1 => k_is)
    (case xow1 => k_is)
    (case xga2 => k_is)
    (case xgg2 => k_is)
    (case xhd2 => k_is)
    (case xic2 => k_is)
    (case xca2 => k_is)
    (case xcm2 => k_is)
    (case xkP2 => k_is)
    (case xow2 => k_is)
    (case nIA => k_is)
    (case kCI => k_is)
    (case kCB => k_is)
    (case kCS => k_is)
    (case aLt => k_is)
    (case rLt => exact ⟨_, rfl⟩)
    (case aMl => k_is)
    (case rMl => exact ⟨_, rfl⟩)
    (case aNm => k_is)
    (case lNm => k_is)
    (case cNm => k_is)
    (case kNm => k_is)
    (case aAm => k_is)
    (case lAm => k_is)
    (case cAm => k_is)
    (case kAm => k_is)
    (case aD0 => k_is)
    (case lD0 => k_is)
    (case cD0 => k_is)
    (case kD0 => k_is)
    (case aD1 => k_is)
    (case lD1 => k_is)
    (case cD1 => k_is)
    (case kD1 => k_is)
    (case aD2 => k_is)
    (case lD2 => k_is)
    (case cD2 => k_is)
    (case kD2 => k_is)
    (case aD3 => k_is)
    (case lD3 => k_is)
    (case cD3 => k_is)
    (case kD3 => k_is)
    (case aD4 => k_is)
    (case lD4 => k_is)
    (case cD4 => k_is)
    (case kD4 => k_is)
    (case aD5 => k_is)
    (case lD5 => k_is)
    (case cD5 => k_is)
    (case kD5 => k_is)
    (case aX1 => k_is)
    (case lX1 => k_is)
    (case cX1 => k_is)
    (case kX1 => k_is)
    (case lcX1 => k_is)
    (case vcX1 => rfl)
    (case hcX1 => first | k_is | kernel_rfl | decide +kernel)
    (case ntX1 => first | k_is | kernel_rfl | decide +kernel)
    (case etX1 => exact PySem.W.km_tabs_of Y _ (by decide))
    (case aX2 => k_is)
    (case lX2 => k_is)
    (case cX2 => k_is)
    (case kX2 => k_is)
    (case lcX2 => k_is)
    (case vcX2 => rfl)
    (case hcX2 => first | k_is | kernel_rfl | decide +kernel)
    (case ntX2 => first | k_is | kernel_rfl | decide +kernel)
    (case etX2 => exact PySem.W.km_tabs_of Y _ (by decide))
    (case hne => decide)
    (case aL => k_is)
    (case lL => k_is)
    (case cL => k_is)
    (case kL => k_is)
    (case z_repr => k_is)
    (case z_all => k_is)
    (case z_any => k_is)
    (case z_range => k_is)
    (case z_min => k_is)
    (case z_ValueError => k_is)
