import PyProof.Rows.All
import Wide.All
import OpenK.AllK
import Wide.FinOn
import HandS.ForMost
import HandS.IsInst
import HandS.Wide
import HandS.Style
import HandS.TupLe
import HandS.TupAny
import HandS.Property
import HandS.Evl
import HandS.Defaults
import HandS.FStr
import HandS.ClsMeth
import HandS.MakeKw
import HandS.More
import HandS.OwnEq
import HandS.Walk
import HandS.Small
import HandS.CallLocal
import HandS.Star
import HandS.MakeKwOnly
import PyProof.SumWalkG
import PyProof.StrLawsRepr
import HandS.WideBits
import PySem.Challenge.RW_surepipes_k11_whole_amounts_reckoned
set_option Elab.async false
set_option linter.all false
set_option maxRecDepth 100000
set_option maxHeartbeats 4000000
/-! Own rules over the hand layer: defs that run while no repr is running, repr of data, comparisons of own instances. -/
namespace SP
open PySem PySem.Spec PyProof.Rows L2

/-! ### a def's promise where no repr is running -/
structure FnG (P : Program) (w : World) (K : PySem.W.Frag) (mg : Str → Option Value) (base : Heap) (CX : CXT) (k : Nat) (f : Addr) (fd : FuncData) (ps : List Str) (sp : Sp) : Prop where
  glen : ∀ vs H Q E, sp vs H Q E → vs.length = ps.length
  grun : ∀ (A : Around) (out : List Env) (s : Shared) (H : Hp) (ar : Args) (us : List Value) (vs : List V) (Q : VK) (E : XK), A.guards = some [] → Room k A → Env0 P w K mg base A out s H →
    BindsTo s fd ar (ps.zip us) → Vals vs us → sp vs H Q E → codeAny (model P w) A (.call (.ref f) ar) (CR CX out P w H s Q E) s
theorem FnG.of {P : Program} {w : World} {K : PySem.W.Frag} {mg : Str → Option Value} {base : Heap} {CX : CXT} {k : Nat} {f : Addr} {fd : FuncData} {ps : List Str} {sp : Sp} (F : FnOk P w K mg base CX k f fd ps sp) :
    FnG P w K mg base CX k f fd ps sp := ⟨F.len, fun A out s H ar us vs Q E _ => F.run A out s H ar us vs Q E⟩
theorem FnG.mono {P : Program} {w : World} {K : PySem.W.Frag} {mg : Str → Option Value} {base : Heap} {CX : CXT} {j k : Nat} {f : Addr} {fd : FuncData} {ps : List Str} {sp : Sp} (F : FnG P w K mg base CX j f fd ps sp) (h : j ≤ k) :
    FnG P w K mg base CX k f fd ps sp := ⟨F.glen, fun A out s H ar us vs Q E hg hr => F.grun A out s H ar us vs Q E hg (hr.mono h)⟩

/-- f, called in the context X with values, keeps the promise sp; the defaults dvs fill up -/
def Rn (X : Cx) (f : Addr) (sp : Sp) (dvs : List V) (E : XK) : Prop :=
  ∀ (pins : List (Addr × Obj)) (σ : L2.St) (H : Hp) (s : Shared) (Q : VK) (us : List Value) (vs : List V), Inv X pins σ H s → Vals vs us → sp (vs ++ dvs) H Q E → wpAny (model X.prog X.w) X.A (call (.ref f) us) (EP X pins σ Q) X.xe s
section
variable {X : Cx} {CX : CXT} {k : Nat} {f : Addr} {fd : FuncData} {ps : List Str} {sp : Sp} {dvs : List V} {ds : List Value} {E : XK}
theorem rn_of (F : FnOk X.prog X.w X.K X.mg X.base CX k f fd ps sp) (hr : Room k X.A) (hb : Binds X.K fd ps ds) (hd : Vals dvs ds) (hx : Passes CX X E) : Rn X f sp dvs E :=
  fun _ _ _ _ _ _ _ I r h => run_fn F hr hb hd hx I r h
theorem rn_g (F : FnG X.prog X.w X.K X.mg X.base CX k f fd ps sp) (gd : X.A.guards = some []) (hr : Room k X.A) (hb : Binds X.K fd ps ds) (hd : Vals dvs ds) (hx : Passes CX X E) : Rn X f sp dvs E := by
  intro pins σ H s Q us vs I r h
  have rr : Vals (vs ++ dvs) (us ++ ds) := r.append hd
  have ln : (us ++ ds).length = ps.length := rr.length.symm.trans (F.glen _ _ _ _ h)
  refine wpAny_call (codeAny_mono (F.grun X.A X.stack s H ⟨us, []⟩ (us ++ ds) (vs ++ dvs) Q E gd hr I.env0 (hb s us I.kIn ln) rr h) ?_)
  intro res s2 got
  match res, got with
  | .error e, got => exact hx pins σ H s e s2 I got
  | .ok (.ret u), got => exact I.after got
end
section
variable {X : Cx} {f : Addr} {sp : Sp} {dvs : List V} {E : XK} {x : Str} {e : Expr} {es : List Expr} {t : TA} {p pos : Pos}
theorem pe_callC (R : Rn X f sp dvs E) (hm : X.mg x = some (.ref f)) (hk : PySem.W.keepIn X.K (.ref f) = true) (ha : PA X (e :: es) t) (hg : Gl X x := by rfl) (hdb : (x == ("__debug__" : Str)) = false := by decide)
    (hst : starEach (e :: es) X.env = (false, eval e X.env) :: starEach es X.env := by rfl) (hpl : (backTo pos (starEach es X.env)).any (·.1) = false := by rfl) : PE X (.Call (.Name x p) (e :: es) [] pos) (tCall sp dvs E t) := by
  refine ⟨fun pins s σ H Q I h => wpAny_Call_Name_kw (ld_glob I hg hm ?_ hdb)⟩
  refine PySem.W.callWith_K (h₀ := X.base) I.ok.mod.kin hk (thn (ha.run pos pins s σ H _ I h) ?_) hst hpl
  intro us s1 ⟨vs, H1, I1, r1, q1⟩
  exact ⟨I1.kIn, R pins σ H1 s1 Q us vs I1 r1 q1⟩
theorem pe_callC0 (R : Rn X f sp dvs E) (hm : X.mg x = some (.ref f)) (hk : PySem.W.keepIn X.K (.ref f) = true) (hg : Gl X x := by rfl) (hdb : (x == ("__debug__" : Str)) = false := by decide) : PE X (.Call (.Name x p) [] [] pos) (tCall sp dvs E tNil) := by
  refine ⟨fun pins s σ H Q I h => wpAny_Call_Name_kw (ld_glob I hg hm ?_ hdb)⟩
  exact PySem.W.callWith_K0 I.kIn hk (R pins σ H s Q [] [] I .nil h)
end

/-! ### the rule for a def, with the guards told -/
section
variable {CX : CXT} {P : Program} {w : World} {K : PySem.W.Frag} {mg : Str → Option Value} {base : Heap} {k : Nat} {f : Addr} {fd : FuncData} {N ps : List Str} {sp : Sp}
/-- a def of the text entered: its body from the parameters' values, any end -/
theorem enter_def {name qual : Str} {params : Arguments} {body : List Stmt} {scope : Scope} {dV kV doc pm cdv ct oc : Value} {an od : Option Addr} {osl : Array (Option Value)} {R : Result → Shared → Prop} {A : Around} {out : List Env} {s : Shared} {H : Hp} {ar : Args} {us : List Value} {vs : List V} {E : XK} {kk : Nat}
    (lk : K.lookup f = some ⟨oc, od, .func (PySem.W.fnOf name qual params body scope dV kV doc pm an cdv ct), osl⟩) (hcd : PySem.W.codeIn K cdv qual = true) (S : FnScope N ps scope)
    (hr : Room kk A) (e0 : Env0 P w K mg base A out s H) (hb : BindsTo s (PySem.W.fnOf name qual params body scope dV kV doc pm an cdv ct) ar (ps.zip us)) (r : Vals vs us) (hl : vs.length = ps.length)
    (go : ∀ s1, Inv (cxOf CX P w K mg base N qual scope f cdv A out s H E) [] (start N vs) H s1 →
      wpAny (model P w) (A.deeper (envOfC qual scope s.heap.objs.size f cdv)) (execs body (envOfC qual scope s.heap.objs.size f cdv)) (fun fl s' => match fl with | .ret u => R (.ok (.ret u)) s' | .next => R (.ok (.ret .none)) s' | _ => False)
        (fun e s' => wpAny (model P w) (A.deeper (envOfC qual scope s.heap.objs.size f cdv)) (leaving (envOfC qual scope s.heap.objs.size f cdv) e) (fun _ s'' => R (.error e) s'') (fun e' s'' => R (.error e') s'') s') s1) :
    codeAny (model P w) A (.call (.ref f) ar) R s := by
  have inK : K.In s.heap := e0.mod.kin.keeps fun b o e => (e0.bs b o e).1
  have nol : s.heap.NoLimit := e0.mod.nolimit.keeps fun b o e => (e0.bs b o e).1
  have kinds : ∀ y ∈ ps.zip us, scope.names.lookup y.1 = some .local ∨ (scope.names.lookup y.1 = some .cell ∧ ((cellsFrom (s.heap.objs.size + 1) scope.names []).lookup y.1).isSome = true) := by
    intro ⟨n, v⟩ hy
    cases S.par n (List.of_mem_zip hy).1 with
    | inl q => exact .inl q
    | inr q => exact .inr ⟨q, PySem.W.cellsFrom_some _ _ _ (.inl q)⟩
  refine codeAny_call_function hr.depth (inK _ _ lk) rfl S.co S.gen rfl (PySem.W.codeRec_of inK hcd) (hb _ _ _ _ ?_)
  refine wpAny_newFunctionEnv_cells S.kind kinds ?_
  intro env he s1 x
  subst he
  refine ⟨nol.keeps x.toInCall.keep, codeAny_func ?_⟩
  refine wpAny_mono (go s1 (inv_start S hr.hd e0 hl r x)) ?_ fun _ _ z => z
  intro fl s2 z
  match fl, z with
  | .ret u, z => exact z
  | .next, z => exact z
theorem fn_ofG {name qual : Str} {params : Arguments} {body : List Stmt} {scope : Scope} {dV kV doc pm cdv ct oc : Value} {an od : Option Addr} {osl : Array (Option Value)}
    (lk : K.lookup f = some ⟨oc, od, .func (PySem.W.fnOf name qual params body scope dV kV doc pm an cdv ct), osl⟩) (hcd : PySem.W.codeIn K cdv qual = true) (S : FnScope N ps scope) (len : ∀ vs H Q E, sp vs H Q E → vs.length = ps.length)
    (hbody : ∀ (A : Around) (out : List Env) (s : Shared) (H : Hp) (vs : List V) (Q : VK) (E : XK), A.guards = some [] → Room k (A.deeper (envOfC qual scope s.heap.objs.size f cdv)) → sp vs H Q E →
      ∃ t, PSs (cxOf CX P w K mg base N qual scope f cdv A out s H E) body t ∧ t { nx := fun _ H' => Q .non H', rt := Q } (start N vs) H) :
    FnG P w K mg base CX (k + 1) f (PySem.W.fnOf name qual params body scope dV kV doc pm an cdv ct) ps sp := by
  refine ⟨len, fun A out s H ar us vs Q E gd hr e0 hb r hsp => ?_⟩
  obtain ⟨t, ht, hq⟩ := hbody A out s H vs Q E gd (hr.deeper _) hsp
  refine enter_def (CX := CX) (E := E) lk hcd S hr e0 hb r (len _ _ _ _ hsp) fun s1 I => ?_
  refine wpAny_mono (ht.run [] s1 (start N vs) H _ I hq) ?_ fun e s2 z => z
  intro fl s2 z
  cases fl with
  | ret u => exact let ⟨v, _, H2, J, rv, q⟩ := z; ⟨v, H2, J.os, J.bare, J.base, J.hok, rv, q⟩
  | next => exact let ⟨_, H2, J, q⟩ := z; ⟨.non, H2, J.os, J.bare, J.base, J.hok, rfl, q⟩
  | brk => exact let ⟨_, _, _, q⟩ := z; q
  | cont => exact let ⟨_, _, _, q⟩ := z; q
end
section
variable {P : Program} {w : World} {K : PySem.W.Frag} {mg : Str → Option Value} {base : Heap}
theorem okG {CX : CXT} {x qual : Str} {st : Stmt} {f : Addr} {fd : FuncData} {N ps : List Str} {k : Nat} {sp : Sp} (F : Fun K x qual st f fd) (S : FnScope N ps (defScope st)) (len : ∀ vs H Q E, sp vs H Q E → vs.length = ps.length)
    (hbody : ∀ (cdv : Value) (A : Around) (out : List Env) (s : Shared) (H : Hp) (vs : List V) (Q : VK) (E : XK), A.guards = some [] → Room k (A.deeper (envOfC qual (defScope st) s.heap.objs.size f cdv)) → sp vs H Q E →
      ∃ t, PSs (cxOf CX P w K mg base N qual (defScope st) f cdv A out s H E) (defBody st) t ∧ t { nx := fun _ H' => Q .non H', rt := Q } (start N vs) H) : FnG P w K mg base CX (k + 1) f fd ps sp := by
  obtain ⟨oc, od, kV, doc, pm, an, cdv, ct, osl, rfl, lk, hcd⟩ := F.ex
  exact fn_ofG lk hcd S len (hbody cdv)
end

/-! ### the law's call -/
theorem law_callG {P : Program} {w : World} {K : PySem.W.Frag} {mg mb : Str → Option Value} {CX : CXT} {k : Nat} {fa a : Addr} {fd : FuncData} {x : Str} {sp : Sp} {s₁ : Shared} {vs : List Value} {ns : List Int}
    (KX : K.In s₁.heap) (hns : s₁.heap.Ns mainGlobals mg) (hb : s₁.heap.Ns builtinsNs mb) (hbb : ∀ x : Str, x ≠ "__name__" → mb x = bootBuiltins x) (hlim : s₁.heap.NoLimit) (hg : s₁.gens = #[])
    (ha : s₁.heap.get? a = some { cls := .type "list", data := .seq vs.toArray }) (hi : IntsAre vs ns) (hl : ns.length ≤ sizeLine) (hr : Room k callerA)
    (F : ∀ base : Heap, K.In base → base.Ns mainGlobals mg → FnG P w K mg base CX k fa fd [x] sp) (hbind : ∀ (s : Shared) (u : Value), BindsTo s fd ⟨[u], []⟩ [(x, u)])
    (hsp : ∀ H : Hp, Only H → SqL K H a (ns.map V.int) → sp [.ref a] H (fun v _ => v = .bl true) fun _ _ _ => False)
    (hCX : ∀ H e s', CX [] H s₁ (fun _ _ _ => False) e s' → False) :
    codeAny (model P w) callerA (.call (.ref fa) ⟨[.ref a], []⟩) (fun r s' => r = .ok (.ret (.bool true)) ∧ OldK s₁.heap s'.heap ∧ s'.os = s₁.os ∧ AllBare s'.gens) s₁ := by
  have rv := vals_ints hi
  have vl := hi.length
  suffices core : ∀ H : Hp, Only H → SqL K H a (ns.map V.int) → HOk P w H s₁.heap → (∀ b, H b ≠ none → b = a) → (H a ≠ none → K.lookup a = none) →
      codeAny (model P w) callerA (.call (.ref fa) ⟨[.ref a], []⟩) (fun r s' => r = .ok (.ret (.bool true)) ∧ OldK s₁.heap s'.heap ∧ s'.os = s₁.os ∧ AllBare s'.gens) s₁ by
    by_cases hk : ∃ o, K.lookup a = some o
    · obtain ⟨o, hk⟩ := hk
      have e := KX a o hk
      rw [ha] at e
      cases e
      refine core (fun _ => none) (fun _ => Or.inl rfl) (Or.inr ⟨_, vs.toArray, _, hk, rfl, rfl, rfl, ?_, by simpa using rv⟩) (fun b u z => ?_) (fun b z => absurd rfl z) fun z => absurd rfl z
      · rw [List.size_toArray, vl]
        exact hl
      · cases (show (none : Option HO) = some u from z)
    · have hk0 : K.lookup a = none := by
        cases e : K.lookup a with
        | none => rfl
        | some o => exact absurd ⟨o, e⟩ hk
      have at1 : ∀ b u, (if b = a then some (HO.frz { cls := .type "list", data := .seq vs.toArray } (.lst (ns.map V.int))) else none) = some u → b = a ∧ u = HO.frz { cls := .type "list", data := .seq vs.toArray } (.lst (ns.map V.int)) := by
        intro b u z
        by_cases hb : b = a
        · rw [if_pos hb] at z
          exact ⟨hb, (Option.some.inj z).symm⟩
        · rw [if_neg hb] at z
          cases z
      refine core (fun b => if b = a then some (.frz { cls := .type "list", data := .seq vs.toArray } (.lst (ns.map V.int))) else none) (fun b => ?_) (Or.inl (Or.inr ⟨_, if_pos rfl⟩)) (fun b u z => ?_) (fun b z => ?_) fun _ => hk0
      · by_cases hb : b = a
        · exact Or.inr ⟨_, _, if_pos hb⟩
        · exact Or.inl (if_neg hb)
      · obtain ⟨e1, e2⟩ := at1 b u z
        subst e1 e2
        exact ⟨ha, by rw [List.length_map]; exact hl, vs, _, rv, ha⟩
      · by_cases hb : b = a
        · exact hb
        · exact absurd (if_neg hb) z
  intro H hO hS hok hA hK
  have keepG : ∀ {b : Addr} {o : Obj}, s₁.heap.get? b = some o → H b = none → (hidT s₁.heap H).get? b = some o := fun e n => hidT_get e n
  have dictG : ∀ {b : Addr} {o : Obj} {es : Array DictEntry} {ep : Nat}, s₁.heap.get? b = some o → o.data = .dict es ep → H b = none := by
    intro b o es ep e d
    by_cases q : H b = none
    · exact q
    · have e' := hA b q
      rw [e', ha] at e
      cases e
      cases (show Data.seq vs.toArray _ = Data.dict es ep from d)
  have nsG : ∀ {b : Addr} {m : Str → Option Value}, s₁.heap.Ns b m → (hidT s₁.heap H).Ns b m := by
    intro b m ⟨o, es, ep, e, d, r⟩
    exact ⟨o, es, ep, keepG e (dictG e d), d, r⟩
  have kG : K.In (hidT s₁.heap H) := by
    intro b o e
    refine keepG (KX b o e) ?_
    by_cases q : H b = none
    · exact q
    · have e' := hA b q
      rw [e', hK (by rw [← e']; exact q)] at e
      cases e
  have M : Mod K mg (hidT s₁.heap H) := ⟨kG, nsG hns, ⟨mb, nsG hb, hbb⟩, let ⟨mc, q1, q2⟩ := hlim; ⟨mc, nsG q1, q2⟩⟩
  have e0 : Env0 P w K mg (hidT s₁.heap H) callerA [] s₁ H := ⟨rfl, M, fun b o e => of_hidT e, Nat.le_of_eq (hidT_size _ _), trivial, fun b hb => (List.not_mem_nil (show b ∈ ([] : List Addr) from hb)).elim, hok, .of_eq hg⟩
  refine codeAny_mono ((F _ kG (nsG hns)).grun callerA [] s₁ H ⟨[.ref a], []⟩ [.ref a] [.ref a] _ _ rfl hr e0 (hbind s₁ (.ref a)) (.cons rfl .nil) (hsp H hO hS)) ?_
  intro r s' h
  match r, h with
  | .error e, h => exact (hCX H e s' h).elim
  | .ok (.ret u), ⟨v, H', os, bare, un, hok', r', q⟩ =>
    have q' : v = .bl true := q
    subst q'
    have r2 : u = Value.bool true := r'
    subst r2
    refine ⟨rfl, OldK.of_keep fun b o e => ?_, os, bare⟩
    rcases hO b with z | ⟨ob, xs, z⟩
    · exact un.keep b o e z (fun hm => (List.not_mem_nil (show b ∈ ([] : List Addr) from hm)).elim) (fun hm => (List.not_mem_nil hm).elim)
    · have z2 := un.frzs b ob _ z
      have e1 := (hok b _ z).1
      have e2 := (hok' b _ z2).1
      rw [e] at e1
      cases e1
      exact e2
theorem walk_ofG {l : PySem.W.OpenLaw} {n k : Nat} {q : Program} {loose : List Str} {XP : (Str → Option Value) → Heap → Prop} {YP : World → Heap → Prop} {d : DefRec} {K : Params → PySem.W.Frag} {CX : World → CXT} {sp : World → Sp} {x : Str}
    (hn : l.most = some n) (hn2 : n ≤ sizeLine) (hdf : d.params.defaults = []) (hr : Room k callerA) (hY : ∀ (w : World) (h : Heap), YP w h → (K w.params).In h)
    (F : ∀ (w : World) (mg : Str → Option Value) (fa : Addr) (h : Heap), (K w.params).In h → h.Ns mainGlobals mg → mg d.name = some (.ref fa) →
      ∃ fd : FuncData, (∀ (s : Shared) (u : Value), BindsTo s fd ⟨[u], []⟩ [(x, u)]) ∧ ∀ base : Heap, (K w.params).In base → base.Ns mainGlobals mg → FnG l.prog w (K w.params) mg base (CX w) k fa fd [x] (sp w))
    (hsp : ∀ (w : World) (H : Hp) (a : Addr) (ns : List Int), ns.length ≤ n → Only H → SqL (K w.params) H a (ns.map V.int) → sp w [.ref a] H (fun v _ => v = .bl true) fun _ _ _ => False)
    (hCX : ∀ (w : World) (H : Hp) (s : Shared) (e : Value) (s' : Shared), CX w [] H s (fun _ _ _ => False) e s' → False) :
    PySem.W.WalkO q loose XP YP l.row.toRowW d [] (fun f vs => PySem.call f vs) := by
  refine Att.attach_call hn hdf ?_
  intro w s₀ s₁ mg mb fa o pm cd doc a vs ns G Y ho hd hcd hmg hobj hints hlen hg
  obtain ⟨fd, hb, hF⟩ := F w mg fa _ (hY w _ Y) G.T.g hmg
  exact law_callG (hY w _ Y) G.T.g G.T.b G.T.builtins G.T.nolimit hg hobj hints (Nat.le_trans hlen hn2) hr hF hb (fun H hO hS => hsp w H a ns hlen hO hS) fun H e s' => hCX w H s₁ e s'

/-! ### repr of data -/
section
variable {X : Cx}
def rReprD (K : PySem.W.Frag) : List V → Hp → VK → Prop := fun xs H Q => ∃ (a : Addr) (d : PyData), xs = [.ref a] ∧ Dp K H (.ref a) d ∧ d.showable = true ∧ d.hasDict = false ∧ d.depth ≤ 50 ∧ d.shown.length ≤ sizeLine ∧ Q (.str d.shown) H
theorem call_reprD (gd : X.A.guards = some []) (hu : X.A.units + 64 < cLine) : CallR X (.builtin "repr") (rReprD X.K) := by
  intro pins s σ H xs us Q I r h
  obtain ⟨a, d, rfl, hD, hs, hn, hdp, hz, q⟩ := h
  obtain ⟨u, rfl, ru⟩ := vals1 r
  cases (show u = Value.ref a from ru)
  obtain ⟨as, rd⟩ := Dp.reads I d _ _ hD rfl
  refine repr_of_reads' rd hs (PyData.noDict_hsm hn) gd (by omega) (fun _ _ e => e) (fun h' u tk hk => ?_) hz
  exact ⟨.str d.shown, H, I.kept hk, ⟨u, rfl⟩, q⟩
end
end SP
/-! Own rules: comparisons of own instances; == and != against other kinds, where the own __eq__ declines. -/
namespace SP
open PySem PySem.Spec PyProof.Rows L2
section
variable {X : Cx} {pins : List (Addr × Obj)} {σ : L2.St} {H : Hp} {s : Shared}
theorem looks_typeIs {M : Model} {h : Heap} {u : Value} {T : String} (e : ∀ s : Shared, (∀ b o, h.get? b = some o → s.heap.get? b = some o) → s.TypeIs u T) : PySem.W.Looks M h (typeOf u) (.type T) :=
  fun A Q E s k q => wpAny_typeOf (e s k) q
/-- what typeOf tells of a value -/
theorem looks_ty {M : Model} {y : V} {u t : Value} (I : Inv X pins σ H s) (ry : RelV y u) (ty : TyOf X.K H y t) : PySem.W.Looks M s.heap (typeOf u) t := by
  cases ty with
  | non => cases (show u = Value.none from ry); exact looks_typeIs fun _ _ => rfl
  | bl b => cases (show u = Value.bool b from ry); exact looks_typeIs fun _ _ => rfl
  | int i => obtain ⟨t, q⟩ := (show ∃ t, u = Value.int i t from ry); cases q; exact looks_typeIs fun _ _ => rfl
  | str x => obtain ⟨t, q⟩ := (show ∃ t, u = Value.str x t from ry); cases q; exact looks_typeIs fun _ _ => rfl
  | flt x => obtain ⟨t, q⟩ := (show ∃ t, u = Value.float x t from ry); cases q; exact looks_typeIs fun _ _ => rfl
  | @lst a xs ea =>
    cases (show u = Value.ref a from ry)
    have ok : ObjOk X.prog X.w H s.heap a (.lst xs) := I.hok a _ ea
    obtain ⟨_, _, n, _, h1⟩ := ok
    exact looks_typeIs fun s' k => ⟨_, k _ _ h1, rfl⟩
  | @frz a ob xs ea =>
    cases (show u = Value.ref a from ry)
    have ok : ObjOk X.prog X.w H s.heap a (.frz ob (.lst xs)) := I.hok a _ ea
    obtain ⟨_, _, _, n, _, h1⟩ := ok
    exact looks_typeIs fun s' k => ⟨_, k _ _ h1, rfl⟩
  | @tup a xs ea =>
    cases (show u = Value.ref a from ry)
    have ok : ObjOk X.prog X.w H s.heap a (.tup xs) := I.hok a _ ea
    obtain ⟨_, _, _, o, h1, h2, _⟩ := ok
    exact looks_typeIs fun s' k => ⟨o, k _ _ h1, h2⟩
  | @dK a kvs ea =>
    cases (show u = Value.ref a from ry)
    have ok : ObjOk X.prog X.w H s.heap a (.dK kvs) := I.hok a _ ea
    obtain ⟨_, _, vs, _, o, es, ep, h1, h2, _⟩ := ok
    exact looks_typeIs fun s' k => ⟨o, k _ _ h1, h2.1⟩
  | @dT a kvs ea =>
    cases (show u = Value.ref a from ry)
    have ok : ObjOk X.prog X.w H s.heap a (.dT kvs) := I.hok a _ ea
    obtain ⟨_, _, xs, _, o, es, ep, h1, h2, _⟩ := ok
    exact looks_typeIs fun s' k => ⟨o, k _ _ h1, h2.1⟩
  | @ins a C dx fs ea cl ha hn htk hm =>
    cases (show u = Value.ref a from ry)
    obtain ⟨mA, O, _⟩ := ins_get I.hok ea
    obtain ⟨od, J, _⟩ := O.look
    exact J.type
theorem back_rel {v : V} {u : Value} {Q : Value → Shared → Prop} {s' : Shared} (r : RelV v u) (h : Q u s') : PySem.W.CmpBack Q u s' := by
  cases v with
  | non => cases r; exact h
  | bl _ => cases r; exact h
  | int _ => obtain ⟨t, rfl⟩ := r; exact h
  | str _ => obtain ⟨t, rfl⟩ := r; exact h
  | byt _ => obtain ⟨t, rfl⟩ := r; exact h
  | flt _ => obtain ⟨t, rfl⟩ := r; exact h
  | ref _ => cases r; exact h
  | ty _ => cases r; exact h
/-- o op y, o an instance of the class at C whose method (at f) answers -/
def rCmp (K : PySem.W.Frag) (C : Addr) (sp : Sp) (E : XK) : R2 := fun x y H Q => ∃ (a dx : Addr) (fs : List (Str × V)) (t : Value), x = .ref a ∧ H a = some (.ins C dx fs) ∧ TyOf K H y t ∧ PySem.W.notFirst K C t = true ∧ sp [x, y] H Q E
theorem op_cmpC {op : CmpOp} {C f : Addr} {sp : Sp} {E : XK} (hu : X.A.units < cLine) (hs : PySem.W.findIn X.K (.ref C) (cmpInfo op).2.1 = some (some (.ref f))) (hf : PySem.W.isFn X.K (.ref f) = true) (R : Rn X f sp [] E)
    (hop : ∀ a b, compareOp op a b = richCompare op a b := by intro _ _; rfl) : OpR X (compareOp op) (rCmp X.K C sp E) := by
  intro pins s σ H x y v u Q I rx ry h
  obtain ⟨a, dx, fs, t, rfl, ea, ty, hn, h⟩ := h
  cases (show v = Value.ref a from rx)
  obtain ⟨mA, O, _⟩ := ins_get I.hok ea
  obtain ⟨od, J, _⟩ := O.look
  obtain ⟨m, F⟩ := I.fr
  rw [hop]
  refine PySem.W.cmp_K hu F I.mod.kin J (looks_ty I ry ty) hn hs hf (thn (R pins σ H s Q [.ref a, u] [.ref a, y] I (.cons rfl (.cons ry .nil)) h) ?_)
  intro w' s' ⟨v', H', I', r', q'⟩
  exact back_rel r' ⟨v', H', I', r', q'⟩
/-- what the own != makes of ==: object's -/
def rNeC (K : PySem.W.Frag) (C : Addr) (sp : Sp) (E : XK) : R2 := fun x y H Q => ∃ (a dx : Addr) (fs : List (Str × V)) (t : Value), x = .ref a ∧ H a = some (.ins C dx fs) ∧ TyOf K H y t ∧ PySem.W.notFirst K C t = true ∧
  sp [x, y] H (fun v H' => ∃ b, v = .bl b ∧ Q (.bl (!b)) H') E
end
section
variable {prog : Program} {w : World} {A : Around} {E : Value → Shared → Prop} {s : Shared} {K : PySem.W.Frag} {x C f : Addr} {ox : Obj} {od : Option Obj}
/-- the slot of object found by an own class is bound and called -/
theorem ifBound_objNe {M : Model} {args : List Value} {Q : Option Value → Shared → Prop} (X : K.In s.heap) (I : PySem.W.InstAt s.heap x ox C od) (hs : PySem.W.findIn K (.ref C) "__ne__" = some (some (.builtin "object.__ne__")))
    (h : wpAny M A (call (.builtin "object.__ne__") (.ref x :: args)) (fun v => Q (some v)) E s) : wpAny M A (callSpecialIfBound? (.ref x) "__ne__" args) Q E s := by
  have last : wpAny M A (call (.builtin "object.__ne__") ([.ref x] ++ args) >>= fun v => pure (some v)) Q E s := wpAny_bind (wpAny_mono h (fun _ _ z => wpAny_pure z) fun _ _ z => z)
  simp only [callSpecialIfBound?, bindSpecialIfBound?]
  refine wpAny_holding (wpAny_bind (wpAny_bind (wpAny_bind (I.type.here ((PySem.W.looks_findIn X hs).here (wpAny_bind (wpAny_askSetting (wpAny_ite ?_))))))))
  split
  · exact wpAny_bind (wpAny_of_eq (F.cmp_object.ne.bind _) (wpAny_pure (by exact last)))
  · exact wpAny_tryCatch (wpAny_bind (wpAny_of_eq (F.cmp_object.ne.bind _) (wpAny_pure (by exact last))))
theorem ne_body {b : Value} {Q : Value → Shared → Prop} (hu : A.units + 1 < cLine) (X : K.In s.heap) (I : PySem.W.InstAt s.heap x ox C od) (hm : PySem.W.mroIn K C (.type "object") = some true)
    (hs : PySem.W.findIn K (.ref C) "__eq__" = some (some (.ref f))) (hf : PySem.W.isFn K (.ref f) = true)
    (h : wpAny (model prog w) A.in1 (call (.ref f) [.ref x, b]) (fun v s' => (∃ k, v = .bool k ∧ Q (.bool (!k)) s') ∨ (v = .notImplemented ∧ Q .notImplemented s')) E s) :
    wpAny (model prog w) A (call (.builtin "object.__ne__") [.ref x, b]) Q E s := by
  refine wpAny_call (codeAny_call_builtin F.cmp_object.ne.plain F.cmpEntry_ne (PySem.W.check_slot F.cmpKind_ne F.cmpSplit_ne (I.type.andThen (PySem.W.looks_mroIn X hm)) (F.cmpArgs_ne _ _) ?_))
  show wpAny _ _ (cRoomFor "comparison" [.ref x, b] >>= fun _ => callSpecialIfBound? (.ref x) "__eq__" [b] >>= fun r => (match r with
    | some .notImplemented | none => PySem.ret .notImplemented
    | some r => truthy r >>= fun t => PySem.ret (.bool (!t)))) _ _ _
  refine wpAny_bind (wpAny_cRoomFor hu (wpAny_bind (PySem.W.ifBound_K X I hs hf (wpAny_mono h (fun v s' hv => ?_) fun _ _ z => z))))
  rcases hv with ⟨k, rfl, q⟩ | ⟨rfl, q⟩
  · exact wpAny_bind (wpAny_truthy_bool (wpAny_pure q))
  · exact wpAny_pure q
end
/-! ### the built-in == against an own instance declines -/
section
variable {prog : Program} {w : World} {A : Around} {E : Value → Shared → Prop} {s : Shared} {K : PySem.W.Frag} {x C dx : Addr} {ox : Obj} {od : Option Obj}
theorem asInt_inst {M : Model} {Q : Option Int → Shared → Prop} (hx : s.heap.get? x = some (PySem.W.instObj C dx)) (q : Q none s) : wpAny M A (asInt? (.ref x)) Q E s := by
  show wpAny M A (load x >>= fun o => match o.data with | .prim (.int i _) => pure (some i) | _ => pure none) Q E s
  exact wpAny_bind (wpAny_load hx (wpAny_pure q))
theorem asStr_inst {M : Model} {Q : Option Str → Shared → Prop} (hx : s.heap.get? x = some (PySem.W.instObj C dx)) (q : Q none s) : wpAny M A (asStr? (.ref x)) Q E s := by
  show wpAny M A (load x >>= fun o => match o.data with | .prim (.str i _) => pure (some i) | _ => pure none) Q E s
  exact wpAny_bind (wpAny_load hx (wpAny_pure q))
theorem int_declines {i : Int} {t : Tok} {Q : Option Value → Shared → Prop} (hx : s.heap.get? x = some (PySem.W.instObj C dx)) (q : Q none s) : wpAny (model prog w) A (tryCompare (.int i t) "__eq__" (.ref x)) Q E s := by
  refine wpAny_tryCompare_declines (T := "int") rfl F.slot_int_eq_refl (GQ.call_here F.slot_int_eq_refl rfl F.entry_int_eq (F.args_int_eq_2 _ _) ?_)
  wp_walk using asInt_inst hx
  exact ⟨rfl, q⟩
theorem bool_declines {b : Bool} {Q : Option Value → Shared → Prop} (hx : s.heap.get? x = some (PySem.W.instObj C dx)) (q : Q none s) : wpAny (model prog w) A (tryCompare (.bool b) "__eq__" (.ref x)) Q E s := by
  refine wpAny_tryCompare_declines (T := "bool") rfl F.slot_bool_eq_refl (GQ.call_here F.slot_bool_eq_refl rfl F.entry_int_eq (F.args_int_eq_2 _ _) ?_)
  wp_walk using asInt_inst hx
  exact ⟨rfl, q⟩
theorem str_declines {z : Str} {t : Tok} {Q : Option Value → Shared → Prop} (hx : s.heap.get? x = some (PySem.W.instObj C dx)) (q : Q none s) : wpAny (model prog w) A (tryCompare (.str z t) "__eq__" (.ref x)) Q E s := by
  refine wpAny_tryCompare_declines (T := "str") rfl F.slot_str_eq_refl (GQ.call_here F.slot_str_eq_refl rfl F.entry_str_eq (F.args_str_eq_2 _ _) ?_)
  show wpAny _ _ (asStr? (.ref x) >>= fun r => match r with | some o => PySem.ret (.bool (z.cps.toList == o.cps.toList)) | none => rule "str.__eq__.not-a-str" >>= fun _ => PySem.ret .notImplemented) _ _ _
  exact wpAny_bind (asStr_inst hx (wpAny_bind (wpAny_rule (wpAny_pure ⟨rfl, q⟩))))
theorem none_declines {Q : Option Value → Shared → Prop} (q : Q none s) : wpAny (model prog w) A (tryCompare .none "__eq__" (.ref x)) Q E s :=
  wpAny_tryCompare_declines (show s.TypeIs .none "NoneType" from rfl) F.slot_NoneType_eq_refl (call_gives F.slot_NoneType_eq_refl rfl F.entry_NoneType_eq (F.args_NoneType_eq_2 _ _) (SeqAt.NoneType___eq___none_ref_0 x) ⟨rfl, q⟩)
theorem tuple_declines {b : Addr} {ob : Obj} {Q : Option Value → Shared → Prop} (X : K.In s.heap) (I : PySem.W.InstAt s.heap x ox C od) (hb : s.heap.get? b = some ob) (hc : ob.cls = .type "tuple")
    (hs : PySem.W.subIn K (.ref C) (.type "tuple") = some false) (q : Q none s) : wpAny (model prog w) A (tryCompare (.ref b) "__eq__" (.ref x)) Q E s := by
  refine wpAny_tryCompare_declines (T := "tuple") ⟨ob, hb, hc⟩ F.slot_tuple_eq_refl (GQ.call_here F.slot_tuple_eq_refl ⟨ob, hb, hc⟩ F.entry_tuple_eq (F.args_tuple_eq_2 _ _) ?_)
  have no : PySem.W.Looks (model prog w) s.heap (isInstance (.ref x) (.type "tuple")) false := I.type.andThen (PySem.W.looks_subIn X hs)
  refine wpAny_bind (m := isInstance (.ref x) (.type "tuple")) (no.here ?_)
  exact wpAny_pure ⟨rfl, q⟩
theorem list_declines {b : Addr} {ob : Obj} {Q : Option Value → Shared → Prop} (X : K.In s.heap) (I : PySem.W.InstAt s.heap x ox C od) (hb : s.heap.get? b = some ob) (hc : ob.cls = .type "list")
    (hs : PySem.W.subIn K (.ref C) (.type "list") = some false) (q : Q none s) : wpAny (model prog w) A (tryCompare (.ref b) "__eq__" (.ref x)) Q E s := by
  refine wpAny_tryCompare_declines (T := "list") ⟨ob, hb, hc⟩ F.slot_list_eq_refl (GQ.call_here F.slot_list_eq_refl ⟨ob, hb, hc⟩ F.entry_list_eq (F.args_list_eq_2 _ _) ?_)
  have no : PySem.W.Looks (model prog w) s.heap (isInstance (.ref x) (.type "list")) false := I.type.andThen (PySem.W.looks_subIn X hs)
  refine wpAny_bind (m := isInstance (.ref x) (.type "list")) (no.here ?_)
  exact wpAny_pure ⟨rfl, q⟩
end

/-! ### the context one C call deeper -/
abbrev in1 (X : Cx) : Cx := { X with A := X.A.in1 }
section
variable {X : Cx} {pins : List (Addr × Obj)} {σ : L2.St} {H : Hp} {s : Shared}
theorem ok_in1 (k : X.Ok) : (in1 X).Ok := ⟨k.mod, k.kind, k.glob, k.blt, k.above, k.inj, k.has, k.cab, k.hd, k.frames, k.stk, k.exf, k.bs, k.bsz, k.noex, k.exfs, k.funs, k.frf⟩
theorem ok_out1 (k : (in1 X).Ok) : X.Ok := ⟨k.mod, k.kind, k.glob, k.blt, k.above, k.inj, k.has, k.cab, k.hd, k.frames, k.stk, k.exf, k.bs, k.bsz, k.noex, k.exfs, k.funs, k.frf⟩
theorem inv_in1 (I : Inv X pins σ H s) : Inv (in1 X) pins σ H s := ⟨ok_in1 I.ok, I.os, I.bare, I.base, I.loc, I.cell, I.free, I.freeC, I.pin, I.hok, I.len⟩
theorem inv_out1 (I : Inv (in1 X) pins σ H s) : Inv X pins σ H s := ⟨ok_out1 I.ok, I.os, I.bare, I.base, I.loc, I.cell, I.free, I.freeC, I.pin, I.hok, I.len⟩
/-- a call of f with values ends in NotImplemented, and leaves what was tracked -/
def RnN (X : Cx) (f : Addr) (D : List V → Hp → Prop) : Prop :=
  ∀ (pins : List (Addr × Obj)) (σ : L2.St) (H : Hp) (s : Shared) (us : List Value) (vs : List V), Inv X pins σ H s → Vals vs us → D vs H → wpAny (model X.prog X.w) X.A (call (.ref f) us) (fun u s' => u = .notImplemented ∧ ∃ H', Inv X pins σ H' s' ∧ Same H H') X.xe s
/-- o != y, != made of the own == -/
theorem op_neC {C f : Addr} {sp : Sp} {E : XK} (hu : X.A.units + 1 < cLine) (hs : PySem.W.findIn X.K (.ref C) "__eq__" = some (some (.ref f))) (hn : PySem.W.findIn X.K (.ref C) "__ne__" = some (some (.builtin "object.__ne__")))
    (hm : PySem.W.mroIn X.K C (.type "object") = some true) (hf : PySem.W.isFn X.K (.ref f) = true) (R : Rn (in1 X) f sp [] E) : OpR X (compareOp .NotEq) (rNeC X.K C sp E) := by
  intro pins s σ H x y v u Q I rx ry h
  obtain ⟨a, dx, fs, t, rfl, ea, ty, hnf, h⟩ := h
  cases (show v = Value.ref a from rx)
  obtain ⟨mA, O, _⟩ := ins_get I.hok ea
  obtain ⟨od, J, _⟩ := O.look
  have KX := I.kIn
  have one : wpAny (model X.prog X.w) X.A (tryCompare (.ref a) "__ne__" u) (fun r s' => ∃ z, r = some z ∧ EP X pins σ Q z s') X.xe s := by
    unfold tryCompare
    refine wpAny_bind (ifBound_objNe KX J hn (ne_body hu KX J hm hs hf (thn (R pins σ H s _ [.ref a, u] [.ref a, y] (inv_in1 I) (.cons rfl (.cons ry .nil)) h) ?_)))
    intro z s' ⟨v', H', I', r', b, e, q'⟩
    subst e
    cases r'
    exact .inl ⟨b, rfl, wpAny_pure ⟨_, rfl, .bl (!b), H', inv_out1 I', rfl, q'⟩⟩
  show wpAny _ _ (richCompare .NotEq (.ref a) u) _ _ _
  unfold richCompare
  simp only [oneThing_ref]
  refine wpAny_holding (wpAny_bind (wpAny_cRoomFor (by omega) (wpAny_bind (J.type.here (wpAny_bind ((looks_ty I ry ty).here ?_))))))
  have go : ∀ c : Bool, c = false → wpAny (model X.prog X.w) X.A (if c = true then tryCompare u (cmpInfo .NotEq).2.2 (.ref a) else pure none) (fun r s' => r = none ∧ s' = s) X.xe s := by
    intro c e
    subst e
    exact wpAny_pure ⟨rfl, rfl⟩
  split
  · rename_i q
    have e : PySem.W.subIn X.K t (.ref C) = some false := by
      rcases Bool.or_eq_true_iff.mp hnf with e | e
      · rw [beq_iff_eq.mp e] at q
        simp at q
      · exact beq_iff_eq.mp e
    refine wpAny_bind ((PySem.W.looks_subIn KX e).here ?_)
    simp only [Bool.false_eq_true, if_false]
    refine wpAny_bind (wpAny_mono one (fun r s' z => ?_) fun _ _ e => e)
    obtain ⟨v', rfl, hq⟩ := z
    exact wpAny_pure hq
  · refine wpAny_bind (wpAny_pure ?_)
    simp only [Bool.false_eq_true, if_false]
    refine wpAny_bind (wpAny_mono one (fun r s' z => ?_) fun _ _ e => e)
    obtain ⟨v', rfl, hq⟩ := z
    exact wpAny_pure hq
end

/-! ### == and != against a value of another kind -/
/-- a value of a kind that is not the class's: no ref, a tuple, a list -/
inductive Fgn (H : Hp) : V → Prop where
  | non : Fgn H .non
  | bl (b : Bool) : Fgn H (.bl b)
  | int (i : Int) : Fgn H (.int i)
  | str (x : Str) : Fgn H (.str x)
  | tup {b : Addr} {xs : List V} (e : H b = some (.tup xs)) : Fgn H (.ref b)
  | lst {b : Addr} {xs : List V} (e : H b = some (.lst xs)) : Fgn H (.ref b)
structure FgnOk (K : PySem.W.Frag) (C : Addr) : Prop where
  tu : PySem.W.subIn K (.ref C) (.type "tuple") = some false
  li : PySem.W.subIn K (.ref C) (.type "list") = some false
theorem sub_built {K : PySem.W.Frag} {C : Addr} {T : String} {ms : List Value} (e : fastBuiltinMro T = some ms) (n : ms.contains (.ref C) = false) : PySem.W.subIn K (.type T) (.ref C) = some false := by
  show (fastBuiltinMro T).map (·.contains (.ref C)) = some false
  rw [e]
  exact congrArg some n
theorem mro_int : fastBuiltinMro "int" = some [.type "int", .type "object"] := by decide +kernel
theorem mro_bool : fastBuiltinMro "bool" = some [.type "bool", .type "int", .type "object"] := by decide +kernel
theorem mro_str : fastBuiltinMro "str" = some [.type "str", .type "object"] := by decide +kernel
theorem mro_none : fastBuiltinMro "NoneType" = some [.type "NoneType", .type "object"] := by decide +kernel
theorem mro_tuple : fastBuiltinMro "tuple" = some [.type "tuple", .type "object"] := by decide +kernel
theorem mro_list : fastBuiltinMro "list" = some [.type "list", .type "object"] := by decide +kernel
section
variable {X : Cx} {pins : List (Addr × Obj)} {σ : L2.St} {H : Hp} {s : Shared}
theorem Fgn.same {H H' : Hp} {y : V} (f : Fgn H y) (k : Same H H') : Fgn H' y := by
  cases f with
  | non => exact .non
  | bl b => exact .bl b
  | int i => exact .int i
  | str x => exact .str x
  | tup e => exact .tup (k _ _ e)
  | lst e => exact .lst (k _ _ e)
theorem Fgn.ty {K : PySem.W.Frag} {C : Addr} {y : V} (f : Fgn H y) : ∃ t, TyOf K H y t ∧ PySem.W.notFirst K C t = true ∧ (t == Value.ref C) = false ∧ PySem.W.subIn K t (.ref C) = some false := by
  have fin : ∀ {T : String} {ms : List Value}, fastBuiltinMro T = some ms → ms.contains (.ref C) = false → PySem.W.notFirst K C (.type T) = true ∧ (Value.type T == Value.ref C) = false ∧ PySem.W.subIn K (.type T) (.ref C) = some false := by
    intro T ms e n
    have h := sub_built (K := K) e n
    refine ⟨?_, rfl, h⟩
    unfold PySem.W.notFirst
    rw [h]
    simp
  cases f with
  | non => exact ⟨_, .non, fin mro_none rfl⟩
  | bl b => exact ⟨_, .bl b, fin mro_bool rfl⟩
  | int i => exact ⟨_, .int i, fin mro_int rfl⟩
  | str x => exact ⟨_, .str x, fin mro_str rfl⟩
  | tup e => exact ⟨_, .tup e, fin mro_tuple rfl⟩
  | lst e => exact ⟨_, .lst e, fin mro_list rfl⟩
theorem fgn_declines {C a dx : Addr} {fs : List (Str × V)} {y : V} {u : Value} {E : Value → Shared → Prop} {Q : Option Value → Shared → Prop} (O : FgnOk X.K C) (I : Inv X pins σ H s) (ea : H a = some (.ins C dx fs)) (f : Fgn H y) (ry : RelV y u) (q : Q none s) :
    wpAny (model X.prog X.w) X.A (tryCompare u "__eq__" (.ref a)) Q E s := by
  obtain ⟨mA, M, _⟩ := ins_get I.hok ea
  obtain ⟨od, J, _⟩ := M.look
  have hx : s.heap.get? a = some (PySem.W.instObj C dx) := J.1
  cases f with
  | non => cases (show u = Value.none from ry); exact none_declines q
  | bl b => cases (show u = Value.bool b from ry); exact bool_declines hx q
  | int i => obtain ⟨t, z⟩ := (show ∃ t, u = Value.int i t from ry); cases z; exact int_declines hx q
  | str x => obtain ⟨t, z⟩ := (show ∃ t, u = Value.str x t from ry); cases z; exact str_declines hx q
  | @tup b xs e =>
    cases (show u = Value.ref b from ry)
    have ok : ObjOk X.prog X.w H s.heap b (.tup xs) := I.hok b _ e
    obtain ⟨_, _, _, o, h1, h2, _⟩ := ok
    exact tuple_declines I.kIn J h1 h2 O.tu q
  | @lst b xs e =>
    cases (show u = Value.ref b from ry)
    have ok : ObjOk X.prog X.w H s.heap b (.lst xs) := I.hok b _ e
    obtain ⟨_, _, n, _, h1⟩ := ok
    exact list_declines I.kIn J h1 rfl O.li q
theorem fgn_same {C a dx : Addr} {fs : List (Str × V)} {y : V} {u : Value} {E : Value → Shared → Prop} {Q : Bool → Shared → Prop} (I : Inv X pins σ H s) (ea : H a = some (.ins C dx fs)) (f : Fgn H y) (ry : RelV y u) (q : Q false s) :
    wpAny (model X.prog X.w) X.A (isSame (.ref a) u) Q E s := by
  obtain ⟨mA, M, _⟩ := ins_get I.hok ea
  obtain ⟨od, J, _⟩ := M.look
  have hx : s.heap.get? a = some (PySem.W.instObj C dx) := J.1
  have nt : (PySem.W.instObj C dx).cls ≠ .type "tuple" := fun z => nomatch (show Value.ref C = Value.type "tuple" from z)
  cases f with
  | non => cases (show u = Value.none from ry); exact wpAny_isSame_plain rfl q
  | bl b => cases (show u = Value.bool b from ry); exact wpAny_isSame_plain rfl q
  | int i => obtain ⟨t, z⟩ := (show ∃ t, u = Value.int i t from ry); cases z; exact wpAny_isSame_plain rfl q
  | str x => obtain ⟨t, z⟩ := (show ∃ t, u = Value.str x t from ry); cases z; exact wpAny_isSame_plain rfl q
  | @tup b xs e =>
    cases (show u = Value.ref b from ry)
    have ok : ObjOk X.prog X.w H s.heap b (.tup xs) := I.hok b _ e
    obtain ⟨_, _, _, o, h1, h2, _⟩ := ok
    exact wpAny_isSame_ref_other (ne_of ea e (fun z => nomatch z)) hx h1 nt q
  | @lst b xs e =>
    cases (show u = Value.ref b from ry)
    have ok : ObjOk X.prog X.w H s.heap b (.lst xs) := I.hok b _ e
    obtain ⟨_, _, n, _, h1⟩ := ok
    exact wpAny_isSame_ref_other (ne_of ea e (fun z => nomatch z)) hx h1 nt q
/-- o == y, y of another kind: the own == declines -/
def rEqF (C : Addr) (D : List V → Hp → Prop) (k : Bool) : R2 := fun x y H Q => ∃ (a dx : Addr) (fs : List (Str × V)), x = .ref a ∧ H a = some (.ins C dx fs) ∧ Fgn H y ∧ D [x, y] H ∧ ∀ H', Same H H' → Q (.bl k) H'
theorem op_eqF {C f : Addr} {D : List V → Hp → Prop} (hu : X.A.units < cLine) (O : FgnOk X.K C) (hs : PySem.W.findIn X.K (.ref C) "__eq__" = some (some (.ref f))) (hf : PySem.W.isFn X.K (.ref f) = true) (R : RnN X f D) :
    OpR X (compareOp .Eq) (rEqF C D false) := by
  intro pins s σ H x y v u Q I rx ry h
  obtain ⟨a, dx, fs, rfl, ea, fg, hD, q⟩ := h
  cases (show v = Value.ref a from rx)
  obtain ⟨mA, M, _⟩ := ins_get I.hok ea
  obtain ⟨od, J, _⟩ := M.look
  have KX := I.kIn
  obtain ⟨t, ty, hnf, hne, hsub⟩ := fg.ty (K := X.K) (C := C)
  have one : wpAny (model X.prog X.w) X.A (tryCompare (.ref a) "__eq__" u) (fun r s' => r = none ∧ ∃ H', Inv X pins σ H' s' ∧ Same H H') X.xe s := by
    unfold tryCompare
    refine wpAny_bind (PySem.W.ifBound_K KX J hs hf (thn (R pins σ H s [.ref a, u] [.ref a, y] I (.cons rfl (.cons ry .nil)) hD) ?_))
    intro z s' ⟨e, rest⟩
    subst e
    exact wpAny_pure ⟨rfl, rest⟩
  show wpAny _ _ (richCompare .Eq (.ref a) u) _ _ _
  unfold richCompare
  simp only [oneThing_ref]
  refine wpAny_holding (wpAny_bind (wpAny_cRoomFor hu (wpAny_bind (J.type.here (wpAny_bind ((looks_ty I ry ty).here ?_))))))
  rw [if_pos (show (Value.ref C != t) = true by rw [bne, BEq.comm, hne] <;> rfl)]
  refine wpAny_bind ((PySem.W.looks_subIn KX hsub).here ?_)
  simp only [Bool.false_eq_true, if_false]
  refine wpAny_bind (wpAny_mono one (fun r s' z => ?_) fun _ _ e => e)
  obtain ⟨rfl, H', I', sm⟩ := z
  dsimp only
  rw [if_pos (show (!false) = true from rfl)]
  refine wpAny_bind (fgn_declines O I' (sm _ _ ea) (fg.same sm) ry ?_)
  dsimp only
  exact wpAny_bind (wpAny_rule (wpAny_bind (fgn_same I' (sm _ _ ea) (fg.same sm) ry (wpAny_pure ⟨.bl false, H', I', rfl, q H' sm⟩))))
end
end SP
/-! != against another kind -/
namespace SP
open PySem PySem.Spec PyProof.Rows L2
section
variable {prog : Program} {w : World} {A : Around} {E : Value → Shared → Prop} {s : Shared} {K : PySem.W.Frag} {x C dx : Addr} {ox : Obj} {od : Option Obj}
theorem int_declinesN {i : Int} {t : Tok} {Q : Option Value → Shared → Prop} (hx : s.heap.get? x = some (PySem.W.instObj C dx)) (q : Q none s) : wpAny (model prog w) A (tryCompare (.int i t) "__ne__" (.ref x)) Q E s := by
  refine wpAny_tryCompare_declines (T := "int") rfl F.slot_int_ne_refl (GQ.call_here F.slot_int_ne_refl rfl F.entry_int_ne (F.args_int_ne_2 _ _) ?_)
  wp_walk using asInt_inst hx
  exact ⟨rfl, q⟩
theorem bool_declinesN {b : Bool} {Q : Option Value → Shared → Prop} (hx : s.heap.get? x = some (PySem.W.instObj C dx)) (q : Q none s) : wpAny (model prog w) A (tryCompare (.bool b) "__ne__" (.ref x)) Q E s := by
  refine wpAny_tryCompare_declines (T := "bool") rfl F.slot_bool_ne_refl (GQ.call_here F.slot_bool_ne_refl rfl F.entry_int_ne (F.args_int_ne_2 _ _) ?_)
  wp_walk using asInt_inst hx
  exact ⟨rfl, q⟩
theorem str_declinesN {z : Str} {t : Tok} {Q : Option Value → Shared → Prop} (hx : s.heap.get? x = some (PySem.W.instObj C dx)) (q : Q none s) : wpAny (model prog w) A (tryCompare (.str z t) "__ne__" (.ref x)) Q E s := by
  refine wpAny_tryCompare_declines (T := "str") rfl F.slot_str_ne_refl (GQ.call_here F.slot_str_ne_refl rfl F.entry_str_ne (F.args_str_ne_2 _ _) ?_)
  show wpAny _ _ (asStr? (.ref x) >>= fun r => match r with | some o => PySem.ret (.bool (z.cps.toList != o.cps.toList)) | none => rule "str.__ne__.not-a-str" >>= fun _ => PySem.ret .notImplemented) _ _ _
  exact wpAny_bind (asStr_inst hx (wpAny_bind (wpAny_rule (wpAny_pure ⟨rfl, q⟩))))
theorem none_declinesN {Q : Option Value → Shared → Prop} (q : Q none s) : wpAny (model prog w) A (tryCompare .none "__ne__" (.ref x)) Q E s :=
  wpAny_tryCompare_declines (show s.TypeIs .none "NoneType" from rfl) F.slot_NoneType_ne_refl (call_gives F.slot_NoneType_ne_refl rfl F.entry_NoneType_ne (F.args_NoneType_ne_2 _ _) (SeqAt.NoneType___ne___none_ref_0 x) ⟨rfl, q⟩)
theorem tuple_declinesN {b : Addr} {ob : Obj} {Q : Option Value → Shared → Prop} (X : K.In s.heap) (I : PySem.W.InstAt s.heap x ox C od) (hb : s.heap.get? b = some ob) (hc : ob.cls = .type "tuple")
    (hs : PySem.W.subIn K (.ref C) (.type "tuple") = some false) (q : Q none s) : wpAny (model prog w) A (tryCompare (.ref b) "__ne__" (.ref x)) Q E s := by
  refine wpAny_tryCompare_declines (T := "tuple") ⟨ob, hb, hc⟩ F.slot_tuple_ne_refl (GQ.call_here F.slot_tuple_ne_refl ⟨ob, hb, hc⟩ F.entry_tuple_ne (F.args_tuple_ne_2 _ _) ?_)
  have no : PySem.W.Looks (model prog w) s.heap (isInstance (.ref x) (.type "tuple")) false := I.type.andThen (PySem.W.looks_subIn X hs)
  refine wpAny_bind (m := isInstance (.ref x) (.type "tuple")) (no.here ?_)
  exact wpAny_pure ⟨rfl, q⟩
theorem list_declinesN {b : Addr} {ob : Obj} {Q : Option Value → Shared → Prop} (X : K.In s.heap) (I : PySem.W.InstAt s.heap x ox C od) (hb : s.heap.get? b = some ob) (hc : ob.cls = .type "list")
    (hs : PySem.W.subIn K (.ref C) (.type "list") = some false) (q : Q none s) : wpAny (model prog w) A (tryCompare (.ref b) "__ne__" (.ref x)) Q E s := by
  refine wpAny_tryCompare_declines (T := "list") ⟨ob, hb, hc⟩ F.slot_list_ne_refl (GQ.call_here F.slot_list_ne_refl ⟨ob, hb, hc⟩ F.entry_list_ne (F.args_list_ne_2 _ _) ?_)
  have no : PySem.W.Looks (model prog w) s.heap (isInstance (.ref x) (.type "list")) false := I.type.andThen (PySem.W.looks_subIn X hs)
  refine wpAny_bind (m := isInstance (.ref x) (.type "list")) (no.here ?_)
  exact wpAny_pure ⟨rfl, q⟩
end
section
variable {X : Cx} {pins : List (Addr × Obj)} {σ : L2.St} {H : Hp} {s : Shared}
theorem fgn_declinesN {C a dx : Addr} {fs : List (Str × V)} {y : V} {u : Value} {E : Value → Shared → Prop} {Q : Option Value → Shared → Prop} (O : FgnOk X.K C) (I : Inv X pins σ H s) (ea : H a = some (.ins C dx fs)) (f : Fgn H y) (ry : RelV y u) (q : Q none s) :
    wpAny (model X.prog X.w) X.A (tryCompare u "__ne__" (.ref a)) Q E s := by
  obtain ⟨mA, M, _⟩ := ins_get I.hok ea
  obtain ⟨od, J, _⟩ := M.look
  have hx : s.heap.get? a = some (PySem.W.instObj C dx) := J.1
  cases f with
  | non => cases (show u = Value.none from ry); exact none_declinesN q
  | bl b => cases (show u = Value.bool b from ry); exact bool_declinesN hx q
  | int i => obtain ⟨t, z⟩ := (show ∃ t, u = Value.int i t from ry); cases z; exact int_declinesN hx q
  | str x => obtain ⟨t, z⟩ := (show ∃ t, u = Value.str x t from ry); cases z; exact str_declinesN hx q
  | @tup b xs e =>
    cases (show u = Value.ref b from ry)
    have ok : ObjOk X.prog X.w H s.heap b (.tup xs) := I.hok b _ e
    obtain ⟨_, _, _, o, h1, h2, _⟩ := ok
    exact tuple_declinesN I.kIn J h1 h2 O.tu q
  | @lst b xs e =>
    cases (show u = Value.ref b from ry)
    have ok : ObjOk X.prog X.w H s.heap b (.lst xs) := I.hok b _ e
    obtain ⟨_, _, n, _, h1⟩ := ok
    exact list_declinesN I.kIn J h1 rfl O.li q
theorem op_neF {C f : Addr} {D : List V → Hp → Prop} (hu : X.A.units + 1 < cLine) (O : FgnOk X.K C) (hs : PySem.W.findIn X.K (.ref C) "__eq__" = some (some (.ref f))) (hn : PySem.W.findIn X.K (.ref C) "__ne__" = some (some (.builtin "object.__ne__")))
    (hm : PySem.W.mroIn X.K C (.type "object") = some true) (hf : PySem.W.isFn X.K (.ref f) = true) (R : RnN (in1 X) f D) : OpR X (compareOp .NotEq) (rEqF C D true) := by
  intro pins s σ H x y v u Q I rx ry h
  obtain ⟨a, dx, fs, rfl, ea, fg, hD, q⟩ := h
  cases (show v = Value.ref a from rx)
  obtain ⟨mA, M, _⟩ := ins_get I.hok ea
  obtain ⟨od, J, _⟩ := M.look
  have KX := I.kIn
  obtain ⟨t, ty, hnf, hne, hsub⟩ := fg.ty (K := X.K) (C := C)
  have one : wpAny (model X.prog X.w) X.A (tryCompare (.ref a) "__ne__" u) (fun r s' => r = none ∧ ∃ H', Inv X pins σ H' s' ∧ Same H H') X.xe s := by
    unfold tryCompare
    refine wpAny_bind (ifBound_objNe KX J hn (ne_body hu KX J hm hs hf (thn (R pins σ H s [.ref a, u] [.ref a, y] (inv_in1 I) (.cons rfl (.cons ry .nil)) hD) ?_)))
    intro z s' ⟨e, H', I', sm⟩
    subst e
    exact .inr ⟨rfl, wpAny_pure ⟨rfl, H', inv_out1 I', sm⟩⟩
  show wpAny _ _ (richCompare .NotEq (.ref a) u) _ _ _
  unfold richCompare
  simp only [oneThing_ref]
  refine wpAny_holding (wpAny_bind (wpAny_cRoomFor (by omega) (wpAny_bind (J.type.here (wpAny_bind ((looks_ty I ry ty).here ?_))))))
  rw [if_pos (show (Value.ref C != t) = true by rw [bne, BEq.comm, hne] <;> rfl)]
  refine wpAny_bind ((PySem.W.looks_subIn KX hsub).here ?_)
  simp only [Bool.false_eq_true, if_false]
  refine wpAny_bind (wpAny_mono one (fun r s' z => ?_) fun _ _ e => e)
  obtain ⟨rfl, H', I', sm⟩ := z
  dsimp only
  rw [if_pos (show (!false) = true from rfl)]
  refine wpAny_bind (fgn_declinesN O I' (sm _ _ ea) (fg.same sm) ry ?_)
  dsimp only
  exact wpAny_bind (wpAny_rule (wpAny_bind (fgn_same I' (sm _ _ ea) (fg.same sm) ry (wpAny_pure ⟨.bl true, H', I', rfl, q H' sm⟩))))
end
end SP
/-! Plain mathematics: Euclid, the terms of a continued fraction and their order. -/
namespace M

/-- the loop of common_divisor -/
def eu (a b : Nat) : Nat := if h : b = 0 then a else eu b (a % b)
termination_by b
decreasing_by exact Nat.mod_lt _ (Nat.pos_of_ne_zero h)
theorem eu_zero (a : Nat) : eu a 0 = a := by rw [eu]; simp
theorem eu_step {a b : Nat} (h : b ≠ 0) : eu a b = eu b (a % b) := by rw [eu]; simp [h]
theorem eu_gcd (a b : Nat) : eu a b = Nat.gcd a b := by
  induction b using Nat.strongRecOn generalizing a with
  | _ b ih =>
    by_cases h : b = 0
    · subst h
      rw [eu_zero, Nat.gcd_zero_right]
    · rw [eu_step h, ih (a % b) (Nat.mod_lt _ (Nat.pos_of_ne_zero h)), Nat.gcd_comm a b, Nat.gcd_rec b a, Nat.gcd_comm]

/-- the tuple by which fractions are sorted; s: 1 or -1 -/
def plc (s t : Int) (b : Nat) : List Int := if h : b = 0 then [s] else 0 :: (s * (t / b)) :: plc (-s) b (t % b).toNat
termination_by b
decreasing_by
  have : (0 : Int) < b := by omega
  have h1 := Int.emod_lt_of_pos t this
  have h2 := Int.emod_nonneg t (show (b : Int) ≠ 0 by omega)
  omega
theorem plc_zero (s t : Int) : plc s t 0 = [s] := by rw [plc]; simp
theorem plc_step {s t : Int} {b : Nat} (h : b ≠ 0) : plc s t b = 0 :: (s * (t / b)) :: plc (-s) b (t % b).toNat := by rw [plc]; simp [h]

/-- the order of tuples of ints -/
def lt : List Int → List Int → Bool
  | [], [] => false
  | [], _ :: _ => true
  | _ :: _, [] => false
  | a :: r, b :: q => if a = b then lt r q else decide (a < b)

theorem mul_lt {a b c : Int} (h : a < b) (hc : 0 < c) : a * c < b * c := Int.mul_lt_mul_of_pos_right h hc

/-- what is compared of two fractions t1/b1, t2/b2 -/
theorem cross_step {t1 t2 q1 q2 r1 r2 b1 b2 : Int} (e1 : t1 = b1 * q1 + r1) (e2 : t2 = b2 * q2 + r2) : t1 * b2 - t2 * b1 = (q1 - q2) * (b1 * b2) + (r1 * b2 - r2 * b1) := by
  subst e1 e2
  simp only [Int.add_mul, Int.sub_mul]
  have h1 : b1 * q1 * b2 = q1 * (b1 * b2) := by
    rw [Int.mul_comm b1 q1, Int.mul_assoc]
  have h2 : b2 * q2 * b1 = q2 * (b1 * b2) := by
    rw [Int.mul_comm b2 q2, Int.mul_assoc, Int.mul_comm b2 b1]
  rw [h1, h2]
  omega
theorem cross_less {q1 q2 r1 r2 b1 b2 : Int} (hb1 : 0 < b1) (hb2 : 0 < b2) (h1 : 0 ≤ r1) (h1' : r1 < b1) (h2 : 0 ≤ r2) (h : q1 < q2) : (q1 - q2) * (b1 * b2) + (r1 * b2 - r2 * b1) < 0 := by
  have a1 : r1 * b2 < b1 * b2 := Int.mul_lt_mul_of_pos_right h1' hb2
  have a2 : 0 ≤ r2 * b1 := Int.mul_nonneg h2 (Int.le_of_lt hb1)
  have a3 : (q1 - q2) * (b1 * b2) ≤ (-1) * (b1 * b2) := Int.mul_le_mul_of_nonneg_right (by omega) (Int.le_of_lt (Int.mul_pos hb1 hb2))
  omega
theorem cross_more {q1 q2 r1 r2 b1 b2 : Int} (hb1 : 0 < b1) (hb2 : 0 < b2) (h1 : 0 ≤ r1) (h2 : 0 ≤ r2) (h2' : r2 < b2) (h : q2 < q1) : 0 < (q1 - q2) * (b1 * b2) + (r1 * b2 - r2 * b1) := by
  have a1 : r2 * b1 < b2 * b1 := Int.mul_lt_mul_of_pos_right h2' hb1
  have a2 : 0 ≤ r1 * b2 := Int.mul_nonneg h1 (Int.le_of_lt hb2)
  have a3 : 1 * (b1 * b2) ≤ (q1 - q2) * (b1 * b2) := Int.mul_le_mul_of_nonneg_right (by omega) (Int.le_of_lt (Int.mul_pos hb1 hb2))
  have a4 := Int.mul_comm b1 b2
  omega

theorem plc_order (b1 : Nat) : ∀ (b2 : Nat) (s t1 t2 : Int), (s = 1 ∨ s = -1) → (b1 = 0 → 0 < t1) → (b2 = 0 → 0 < t2) →
    (lt (plc s t1 b1) (plc s t2 b2) = decide (s * (t1 * b2 - t2 * b1) < 0)) ∧ (plc s t1 b1 = plc s t2 b2 ↔ t1 * b2 - t2 * b1 = 0) := by
  induction b1 using Nat.strongRecOn with
  | _ b1 ih =>
    intro b2 s t1 t2 hs z1 z2
    by_cases h1 : b1 = 0
    · subst h1
      have p1 := z1 rfl
      rw [plc_zero]
      by_cases h2 : b2 = 0
      · subst h2
        rw [plc_zero]
        refine ⟨?_, ?_⟩
        · simp [lt]
        · simp
      · rw [plc_step h2]
        have hb : (0 : Int) < b2 := by omega
        have hp : 0 < t1 * (b2 : Int) := Int.mul_pos p1 hb
        refine ⟨?_, ?_⟩
        · rcases hs with rfl | rfl
          · simp only [lt]
            rw [if_neg (by decide)]
            simp only [Int.mul_zero, Int.one_mul, Int.natCast_zero, Int.sub_zero]
            rw [decide_eq_false (by decide), decide_eq_false (by omega)]
          · simp only [lt]
            rw [if_neg (by decide)]
            simp only [Int.mul_zero, Int.natCast_zero, Int.sub_zero]
            rw [decide_eq_true (by decide), decide_eq_true (by omega)]
        · constructor
          · intro e
            injection e with e1 _
            rcases hs with rfl | rfl
            · exact absurd e1 (by decide)
            · exact absurd e1 (by decide)
          · intro e
            simp only [Int.mul_zero, Int.natCast_zero, Int.sub_zero] at e
            omega
    · have hb1 : (0 : Int) < b1 := by omega
      rw [plc_step h1]
      by_cases h2 : b2 = 0
      · subst h2
        have p2 := z2 rfl
        rw [plc_zero]
        have hp : 0 < t2 * (b1 : Int) := Int.mul_pos p2 hb1
        refine ⟨?_, ?_⟩
        · rcases hs with rfl | rfl
          · simp only [lt]
            rw [if_neg (by decide)]
            simp only [Int.mul_zero, Int.one_mul, Int.natCast_zero, Int.zero_sub]
            rw [decide_eq_true (by decide), decide_eq_true (by omega)]
          · simp only [lt]
            rw [if_neg (by decide)]
            simp only [Int.mul_zero, Int.natCast_zero, Int.zero_sub]
            rw [decide_eq_false (by decide), decide_eq_false (by omega)]
        · constructor
          · intro e
            injection e with e1 _
            rcases hs with rfl | rfl
            · exact absurd e1 (by decide)
            · exact absurd e1 (by decide)
          · intro e
            simp only [Int.mul_zero, Int.natCast_zero, Int.zero_sub] at e
            omega
      · have hb2 : (0 : Int) < b2 := by omega
        rw [plc_step h2]
        have r1n := Int.emod_nonneg t1 (show (b1 : Int) ≠ 0 by omega)
        have r1l := Int.emod_lt_of_pos t1 hb1
        have r2n := Int.emod_nonneg t2 (show (b2 : Int) ≠ 0 by omega)
        have r2l := Int.emod_lt_of_pos t2 hb2
        have e1 : t1 = b1 * (t1 / b1) + t1 % b1 := (Int.mul_ediv_add_emod t1 b1).symm
        have e2 : t2 = b2 * (t2 / b2) + t2 % b2 := (Int.mul_ediv_add_emod t2 b2).symm
        have cs := cross_step e1 e2
        have c1 : ((t1 % (b1 : Int)).toNat : Int) = t1 % b1 := Int.toNat_of_nonneg r1n
        have c2 : ((t2 % (b2 : Int)).toNat : Int) = t2 % b2 := Int.toNat_of_nonneg r2n
        have ihh := ih (t1 % (b1 : Int)).toNat (by omega) (t2 % (b2 : Int)).toNat (-s) b1 b2 (by omega) (fun _ => hb1) (fun _ => hb2)
        rw [c1, c2] at ihh
        obtain ⟨r1, r2⟩ := ihh
        have com1 := Int.mul_comm (b1 : Int) (t2 % b2)
        have com2 := Int.mul_comm (b2 : Int) (t1 % b1)
        generalize hq1 : t1 / (b1 : Int) = q1 at *
        generalize hq2 : t2 / (b2 : Int) = q2 at *
        have ltt : lt (0 :: (s * q1) :: plc (-s) b1 (t1 % (b1 : Int)).toNat) (0 :: (s * q2) :: plc (-s) b2 (t2 % (b2 : Int)).toNat)
            = if s * q1 = s * q2 then lt (plc (-s) b1 (t1 % (b1 : Int)).toNat) (plc (-s) b2 (t2 % (b2 : Int)).toNat) else decide (s * q1 < s * q2) := by
          simp only [lt, if_true]
        rw [ltt]
        by_cases hq : q1 = q2
        · subst hq
          rw [if_pos rfl, r1]
          have z : (q1 - q1) * ((b1 : Int) * b2) = 0 := by rw [Int.sub_self, Int.zero_mul]
          rw [z] at cs
          refine ⟨?_, ?_⟩
          · rcases hs with rfl | rfl
            · congr 1
              apply propext
              constructor <;> intro h <;> omega
            · congr 1
              apply propext
              constructor <;> intro h <;> omega
          · constructor
            · intro e
              injection e with _ e
              injection e with _ e
              have := r2.mp e
              omega
            · intro e
              have : (b1 : Int) * (t2 % b2) - b2 * (t1 % b1) = 0 := by omega
              rw [r2.mpr this]
        · have hsq : ¬ s * q1 = s * q2 := by
            rcases hs with rfl | rfl <;> omega
          rw [if_neg hsq]
          rcases Int.lt_or_gt_of_ne hq with hl | hl
          · have cl := cross_less hb1 hb2 r1n r1l r2n hl
            refine ⟨?_, ?_⟩
            · rcases hs with rfl | rfl
              · congr 1
                apply propext
                constructor <;> intro h <;> omega
              · congr 1
                apply propext
                constructor <;> intro h <;> omega
            · constructor
              · intro e
                injection e with _ e
                injection e with e _
                exact absurd e hsq
              · intro e
                omega
          · have cl := cross_more hb1 hb2 r1n r2n r2l hl
            refine ⟨?_, ?_⟩
            · rcases hs with rfl | rfl
              · congr 1
                apply propext
                constructor <;> intro h <;> omega
              · congr 1
                apply propext
                constructor <;> intro h <;> omega
            · constructor
              · intro e
                injection e with _ e
                injection e with e _
                exact absurd e hsq
              · intro e
                omega
/-- a step of Euclid halves the product -/
theorem step_bound {t m j B : Nat} (hm : 0 < m) (h : m < t) (hj : 1 ≤ j) (hp : t * m * 2 ^ (j - 1) < 2 ^ B) : m * (t % m) * 2 ^ j < 2 ^ B ∧ j ≤ B := by
  have h1 : t % m < m := Nat.mod_lt _ hm
  have h2 : t % m + m ≤ t := by
    have e := Nat.mod_add_div t m
    have d : 1 ≤ t / m := (Nat.one_le_div_iff hm).mpr (Nat.le_of_lt h)
    have : m * 1 ≤ m * (t / m) := Nat.mul_le_mul_left m d
    omega
  have h3 : t % m * 2 ≤ t := by omega
  have e : 2 ^ j = 2 * 2 ^ (j - 1) := by
    have : j = (j - 1) + 1 := by omega
    rw [this, Nat.pow_succ, Nat.mul_comm]
    simp
  refine ⟨?_, ?_⟩
  · have : m * (t % m) * 2 ^ j ≤ t * m * 2 ^ (j - 1) := by
      rw [e]
      have r : m * (t % m) * (2 * 2 ^ (j - 1)) = (t % m * 2) * m * 2 ^ (j - 1) := by
        rw [← Nat.mul_assoc, Nat.mul_comm m (t % m), Nat.mul_assoc (t % m) m 2, Nat.mul_comm m 2, ← Nat.mul_assoc]
      rw [r]
      exact Nat.mul_le_mul_right _ (Nat.mul_le_mul_right _ h3)
    omega
  · have q : 1 * 2 ^ (j - 1) ≤ t * m * 2 ^ (j - 1) := Nat.mul_le_mul_right _ (Nat.mul_pos (by omega) hm)
    have : 2 ^ (j - 1) < 2 ^ B := by omega
    have := (Nat.pow_lt_pow_iff_right (by decide : 1 < 2)).mp this
    omega
/-! ### a fraction near another one: Euclid with the factors -/
structure NearI (tp bt old new was here : Int) : Prop where
  e1 : ∃ k, new * tp - here = bt * k
  e2 : ∃ k, old * tp - was = bt * k
  g : Int.gcd was here = 1
  h0 : 0 ≤ here
  hw : here < was
  w1 : 1 < was
  wb : was ≤ bt
  sm : (old.natAbs : Int) * here + (new.natAbs : Int) * was ≤ bt
theorem NearI.start {tp bt : Int} (hb : 1 < bt) (hg : Int.gcd tp bt = 1) : NearI tp bt 0 1 bt (tp % bt) := by
  have r0 := Int.emod_nonneg tp (show bt ≠ 0 by omega)
  have r1 := Int.emod_lt_of_pos tp (show 0 < bt by omega)
  refine ⟨⟨tp / bt, ?_⟩, ⟨-1, ?_⟩, ?_, r0, r1, hb, Int.le_refl _, ?_⟩
  · have := Int.mul_ediv_add_emod tp bt
    omega
  · rw [Int.zero_mul, Int.mul_neg, Int.mul_one]
    omega
  · rw [Int.gcd_comm, Int.emod_def, Int.gcd_comm]
    have : tp - bt * (tp / bt) = tp + bt * (-(tp / bt)) := by rw [Int.mul_neg]; omega
    rw [this, Int.gcd_comm, Int.gcd_add_mul_left_left]
    exact hg
  · simp
theorem NearI.step {tp bt old new was here : Int} (I : NearI tp bt old new was here) (h : 1 < here) : NearI tp bt new (old - was / here * new) here (was - was / here * here) := by
  obtain ⟨⟨k1, e1⟩, ⟨k2, e2⟩, g, h0, hw, w1, wb, sm⟩ := I
  have hr : was - was / here * here = was % here := by
    have := Int.mul_ediv_add_emod was here
    rw [Int.mul_comm (was / here) here]
    omega
  have r0 := Int.emod_nonneg was (show here ≠ 0 by omega)
  have r1 := Int.emod_lt_of_pos was (show 0 < here by omega)
  have q0 : 0 ≤ was / here := Int.ediv_nonneg (by omega) (by omega)
  refine ⟨⟨k2 - was / here * k1, ?_⟩, ⟨k1, e1⟩, ?_, by omega, by omega, h, by omega, ?_⟩
  · have a1 : (old - was / here * new) * tp = old * tp - was / here * (new * tp) := by rw [Int.sub_mul, Int.mul_assoc]
    have a2 : bt * (k2 - was / here * k1) = bt * k2 - was / here * (bt * k1) := by
      rw [Int.mul_sub, ← Int.mul_assoc, ← Int.mul_assoc, Int.mul_comm bt (was / here)]
    rw [a1, a2, ← e1, ← e2, Int.mul_sub]
    omega
  · rw [hr, Int.emod_def]
    have : was - here * (was / here) = was + here * (-(was / here)) := by rw [Int.mul_neg]; omega
    rw [this, Int.gcd_comm, Int.gcd_add_mul_left_left]
    exact g
  · have b1 : ((old - was / here * new).natAbs : Int) ≤ old.natAbs + was / here * new.natAbs := by
      have c1 : (old - was / here * new).natAbs ≤ old.natAbs + (was / here * new).natAbs := by omega
      have c2 : ((was / here * new).natAbs : Int) = was / here * new.natAbs := by
        rw [Int.natAbs_mul, Int.natCast_mul, Int.natAbs_of_nonneg q0]
      omega
    have b2 : ((old - was / here * new).natAbs : Int) * here ≤ (old.natAbs + was / here * new.natAbs) * here := Int.mul_le_mul_of_nonneg_right b1 (by omega)
    have b3 : (new.natAbs : Int) * (was - was / here * here) = new.natAbs * was - was / here * new.natAbs * here := by
      rw [Int.mul_sub, ← Int.mul_assoc, Int.mul_comm (new.natAbs : Int) (was / here)]
    rw [Int.add_mul] at b2
    rw [b3]
    omega
theorem NearI.small {tp bt old new was here : Int} (I : NearI tp bt old new was here) : new.natAbs ≤ bt.natAbs ∧ old.natAbs * here.natAbs ≤ bt.natAbs := by
  obtain ⟨_, _, _, h0, hw, w1, wb, sm⟩ := I
  have a1 : 0 ≤ (old.natAbs : Int) * here := Int.mul_nonneg (by omega) h0
  have a2 : (new.natAbs : Int) * 1 ≤ new.natAbs * was := Int.mul_le_mul_of_nonneg_left (by omega) (by omega)
  have a3 : 0 ≤ (new.natAbs : Int) * was := Int.mul_nonneg (by omega) (by omega)
  refine ⟨by omega, ?_⟩
  have : ((old.natAbs * here.natAbs : Nat) : Int) = (old.natAbs : Int) * here := by
    rw [Int.natCast_mul, Int.natAbs_of_nonneg h0]
  omega
/-- at the loop's end -/
theorem NearI.done {tp bt old new was here s : Int} (I : NearI tp bt old new was here) (h : ¬ 1 < here) (hs : s = 1 ∨ s = -1) : (new * s) % bt ≠ 0 := by
  obtain ⟨⟨k1, e1⟩, _, g, h0, hw, w1, wb, sm⟩ := I
  have one : here = 1 := by
    rcases Int.lt_or_le 0 here with z | z
    · omega
    · have : here = 0 := by omega
      subst this
      rw [Int.gcd_zero_right] at g
      omega
  subst one
  intro z
  obtain ⟨c, hc⟩ := Int.dvd_of_emod_eq_zero z
  have d : bt ∣ new := by
    rcases hs with rfl | rfl
    · exact ⟨c, by omega⟩
    · exact ⟨-c, by rw [Int.mul_neg]; omega⟩
  obtain ⟨c, hc⟩ := d
  have : bt * (c * tp - k1) = 1 := by
    rw [Int.mul_sub, ← Int.mul_assoc, ← hc]
    omega
  have hd : bt ∣ 1 := ⟨_, this.symm⟩
  have := Int.le_of_dvd (by decide) hd
  omega
end M
/-! Tuples of ints compared; great divisors of any sign. -/
namespace SP
open PySem PySem.Spec PyProof.Rows L2
/-! ### lexAt as the order of lists -/
theorem lexAt_shift {e r : Nat → Bool} {z : Bool} : ∀ (k i : Nat), Ob.lexAt e r z (i + 1) k = Ob.lexAt (fun j => e (j + 1)) (fun j => r (j + 1)) z i k
  | 0, i => rfl
  | k + 1, i => by
    rw [Ob.lexAt_succ, Ob.lexAt_succ, lexAt_shift k (i + 1)]
theorem lex_gen {rel : Int → Int → Bool} {z : Nat → Nat → Bool} {F : List Int → List Int → Bool} (h0 : ∀ ns, F [] ns = z 0 ns.length) (h1 : ∀ ns, F ns [] = z ns.length 0) (hz : ∀ i j, z (i + 1) (j + 1) = z i j)
    (hc : ∀ a r b q, F (a :: r) (b :: q) = if a = b then F r q else rel a b) : ∀ ns ms : List Int,
    Ob.lexAt (fun j => decide (ns.getD j 0 = ms.getD j 0)) (fun j => rel (ns.getD j 0) (ms.getD j 0)) (z ns.length ms.length) 0 (min ns.length ms.length) = F ns ms
  | [], ms => by
    rw [h0]
    show Ob.lexAt _ _ _ 0 (min 0 ms.length) = _
    rw [Nat.zero_min, Ob.lexAt_zero] <;> rfl
  | a :: r, [] => by
    rw [h1]
    show Ob.lexAt _ _ _ 0 (min (a :: r).length 0) = _
    rw [Nat.min_zero, Ob.lexAt_zero] <;> rfl
  | a :: r, b :: q => by
    have ih := lex_gen h0 h1 hz hc r q
    have e : min (a :: r).length (b :: q).length = min r.length q.length + 1 := by
      show min (r.length + 1) (q.length + 1) = _
      omega
    rw [e, Ob.lexAt_succ, lexAt_shift, hc]
    have e2 : z (a :: r).length (b :: q).length = z r.length q.length := hz _ _
    rw [e2]
    by_cases h : a = b
    · have d : decide ((a :: r).getD 0 0 = (b :: q).getD 0 0) = true := by simpa using h
      rw [if_pos d, if_pos h, ← ih] <;> rfl
    · have d : ¬ decide ((a :: r).getD 0 0 = (b :: q).getD 0 0) = true := by simpa using h
      rw [if_neg d, if_neg h] <;> rfl
theorem lt_nil_l (ns : List Int) : M.lt [] ns = decide (0 < ns.length) := by cases ns <;> rfl
theorem lt_nil_r (ns : List Int) : M.lt ns [] = decide (ns.length < 0) := by cases ns <;> simp [M.lt]
theorem lt_cons (a : Int) (r : List Int) (b : Int) (q : List Int) : M.lt (a :: r) (b :: q) = if a = b then M.lt r q else decide (a < b) := rfl
theorem lex_lt (ns ms : List Int) : Ob.lexAt (fun j => decide (ns.getD j 0 = ms.getD j 0)) (fun j => decide (ns.getD j 0 < ms.getD j 0)) (decide (ns.length < ms.length)) 0 (min ns.length ms.length) = M.lt ns ms :=
  lex_gen (rel := fun a b => decide (a < b)) (z := fun i j => decide (i < j)) (F := M.lt) lt_nil_l lt_nil_r (fun i j => by simp) lt_cons ns ms
theorem lex_gt (ns ms : List Int) : Ob.lexAt (fun j => decide (ns.getD j 0 = ms.getD j 0)) (fun j => decide (ms.getD j 0 < ns.getD j 0)) (decide (ns.length > ms.length)) 0 (min ns.length ms.length) = M.lt ms ns :=
  lex_gen (rel := fun a b => decide (b < a)) (z := fun i j => decide (i > j)) (F := fun a b => M.lt b a) (fun ns => by rw [lt_nil_r]) (fun ns => by rw [lt_nil_l]) (fun i j => by simp)
    (fun a r b q => by rw [lt_cons]; by_cases h : a = b <;> simp [h, eq_comm]) ns ms
theorem lex_le (ns ms : List Int) : Ob.lexAt (fun j => decide (ns.getD j 0 = ms.getD j 0)) (fun j => decide (ns.getD j 0 ≤ ms.getD j 0)) (decide (ns.length ≤ ms.length)) 0 (min ns.length ms.length) = !M.lt ms ns :=
  lex_gen (rel := fun a b => decide (a ≤ b)) (z := fun i j => decide (i ≤ j)) (F := fun a b => !M.lt b a) (fun ns => by rw [lt_nil_r]; simp) (fun ns => by rw [lt_nil_l]; cases ns <;> simp) (fun i j => by simp)
    (fun a r b q => by
      rw [lt_cons]
      by_cases h : a = b
      · simp [h]
      · have h' : ¬ b = a := fun e => h e.symm
        rw [if_neg h, if_neg h', ← decide_not]
        congr 1
        apply propext
        constructor <;> intro k <;> omega) ns ms
theorem lex_ge (ns ms : List Int) : Ob.lexAt (fun j => decide (ns.getD j 0 = ms.getD j 0)) (fun j => decide (ms.getD j 0 ≤ ns.getD j 0)) (decide (ns.length ≥ ms.length)) 0 (min ns.length ms.length) = !M.lt ns ms :=
  lex_gen (rel := fun a b => decide (b ≤ a)) (z := fun i j => decide (i ≥ j)) (F := fun a b => !M.lt a b) (fun ns => by rw [lt_nil_l]; cases ns <;> simp) (fun ns => by rw [lt_nil_r]; simp) (fun i j => by simp)
    (fun a r b q => by
      rw [lt_cons]
      by_cases h : a = b
      · simp [h]
      · rw [if_neg h, if_neg h, ← decide_not]
        congr 1
        apply propext
        constructor <;> intro k <;> omega) ns ms
def rOrd (K : PySem.W.Frag) (F : List Int → List Int → Bool) : R2 := fun x y H Q => ∃ (a b : Addr) (ns ms : List Int), x = .ref a ∧ y = .ref b ∧ SqT K H a (ns.map V.int) ∧ SqT K H b (ms.map V.int) ∧ Q (.bl (F ns ms)) H
theorem op_ord {X : Cx} {op : CmpOp} {rel : Int → Int → Bool} {z : Nat → Nat → Bool} {F : List Int → List Int → Bool} (hop : ∀ a b, compareOp op a b = richCompare op a b) (hu : X.A.units < cLine)
    (T : ∀ {A : Around} {s : Shared} {l b : Addr} {items items2 : Array Value} {e r : Nat → Bool}, s.heap.IsTuple l items → s.heap.IsTuple b items2 → A.units < cLine → (∀ j (h1 : j < items.size) (h2 : j < items2.size), SeqAt.EqAt A.in1 s items[j] items2[j] (e j)) →
      (∀ j (h1 : j < items.size) (h2 : j < items2.size), e j = false → Ob.RcOp op A.in1 s items[j] items2[j] (r j)) → Ob.RcOp op A s (.ref l) (.ref b) (Ob.lexAt e r (z items.size items2.size) 0 (min items.size items2.size)))
    (N : ∀ {A : Around} {s : Shared} (a b : Int) (t u : Tok), Ob.RcOp op A s (.int a t) (.int b u) (rel a b))
    (L : ∀ ns ms : List Int, Ob.lexAt (fun j => decide (ns.getD j 0 = ms.getD j 0)) (fun j => rel (ns.getD j 0) (ms.getD j 0)) (z ns.length ms.length) 0 (min ns.length ms.length) = F ns ms) : OpR X (compareOp op) (rOrd X.K F) := by
  intro pins s σ H x y v u Q I rx ry h
  obtain ⟨a, b, ns, ms, rfl, rfl, ha, hb, q⟩ := h
  cases (show v = Value.ref a from rx)
  cases (show u = Value.ref b from ry)
  obtain ⟨its, r1, p1, _⟩ := I.tuple ha
  obtain ⟨its2, r2, p2, _⟩ := I.tuple hb
  have i1 : IntsAre its ns := Vals.ints r1
  have i2 : IntsAre its2 ms := Vals.ints r2
  have e1 : its.toArray.size = ns.length := by rw [List.size_toArray]; exact i1.length
  have e2 : its2.toArray.size = ms.length := by rw [List.size_toArray]; exact i2.length
  have R := T (A := X.A) (s := s) (e := fun j => decide (ns.getD j 0 = ms.getD j 0)) (r := fun j => rel (ns.getD j 0) (ms.getD j 0)) p1 p2 hu
    (fun j h1 h2 => by
      obtain ⟨t, et⟩ := PyProof.Rows.IntsAre.int_at i1 j its.toArray[j] (by simp at h1; simp [h1])
      obtain ⟨t', et'⟩ := PyProof.Rows.IntsAre.int_at i2 j its2.toArray[j] (by simp at h2; simp [h2])
      rw [et, et', ← Bool.beq_eq_decide_eq]
      exact SeqAt.EqAt.int_int _ _ _ _)
    (fun j h1 h2 _ => by
      obtain ⟨t, et⟩ := PyProof.Rows.IntsAre.int_at i1 j its.toArray[j] (by simp at h1; simp [h1])
      obtain ⟨t', et'⟩ := PyProof.Rows.IntsAre.int_at i2 j its2.toArray[j] (by simp at h2; simp [h2])
      rw [et, et']
      exact N _ _ _ _)
  rw [e1, e2, L] at R
  rw [hop]
  exact R _ _ _ _ ⟨.bl _, H, I, rfl, q⟩
section
variable {X : Cx}
theorem op_ltI (hu : X.A.units < cLine) : OpR X (compareOp .Lt) (rOrd X.K M.lt) := op_ord (z := fun i j => decide (i < j)) (fun _ _ => rfl) hu Ob.RcOp.tuples_lt Ob.RcOp.lt_int lex_lt
theorem op_gtI (hu : X.A.units < cLine) : OpR X (compareOp .Gt) (rOrd X.K fun a b => M.lt b a) := op_ord (z := fun i j => decide (i > j)) (fun _ _ => rfl) hu Ob.RcOp.tuples_gt Ob.RcOp.gt_int lex_gt
theorem op_leI (hu : X.A.units < cLine) : OpR X (compareOp .LtE) (rOrd X.K fun a b => !M.lt b a) := op_ord (z := fun i j => decide (i ≤ j)) (fun _ _ => rfl) hu Ob.RcOp.tuples_le Ob.RcOp.le_int lex_le
theorem op_geI (hu : X.A.units < cLine) : OpR X (compareOp .GtE) (rOrd X.K fun a b => !M.lt a b) := op_ord (z := fun i j => decide (i ≥ j)) (fun _ _ => rfl) hu Ob.RcOp.tuples_ge Ob.RcOp.ge_int lex_ge
end
/-! ### == of tuples of ints -/
theorem eqv_ints : ∀ ns ms : List Int, PyData.eqvAll (ns.map PyData.int) (ms.map PyData.int) = decide (ns = ms)
  | [], [] => rfl
  | [], b :: q => rfl
  | a :: r, [] => rfl
  | a :: r, b :: q => by
    show (a == b && PyData.eqvAll (r.map PyData.int) (q.map PyData.int)) = _
    rw [eqv_ints r q]
    by_cases h : a = b <;> simp [h]
theorem dp_ints {K : PySem.W.Frag} {H : Hp} : ∀ ns : List Int, DpAll K H (ns.map V.int) (ns.map PyData.int)
  | [] => .nil
  | a :: r => .cons (.int a) (dp_ints r)
theorem can_ints : ∀ ns : List Int, PyData.canLayAll0 (ns.map PyData.int) = true
  | [] => by simp [PyData.canLayAll0]
  | a :: r => by
    show (PyData.canLay0 (.int a) && PyData.canLayAll0 (r.map PyData.int)) = true
    rw [can_ints r]
    simp [PyData.canLay0]
theorem depth_ints : ∀ ns : List Int, PyData.depthAll (ns.map PyData.int) = 0
  | [] => by simp [PyData.depthAll]
  | a :: r => by
    show max (PyData.depth (.int a)) (PyData.depthAll (r.map PyData.int)) = 0
    rw [depth_ints r]
    simp [PyData.depth]
theorem shaped_ints (ns : List Int) : SeqAt.shaped (.tuple (ns.map PyData.int)) = true := by
  have e1 : PyData.canLay0 (.tuple (ns.map PyData.int)) = true := by
    show PyData.canLayAll0 _ = true
    exact can_ints ns
  have e2 : PyData.depth (.tuple (ns.map PyData.int)) = 1 := by
    show PyData.depthAll _ + 1 = 1
    rw [depth_ints]
  unfold SeqAt.shaped
  rw [e1, e2]
  rfl
def rEqI (K : PySem.W.Frag) : R2 := fun x y H Q => ∃ (a b : Addr) (ns ms : List Int), x = .ref a ∧ y = .ref b ∧ SqT K H a (ns.map V.int) ∧ SqT K H b (ms.map V.int) ∧ Q (.bl (decide (ns = ms))) H
theorem op_eqI {X : Cx} (hu : X.A.units + 64 < cLine) : OpR X (compareOp .Eq) (rEqI X.K) := by
  intro pins s σ H x y v u Q I rx ry h
  obtain ⟨a, b, ns, ms, rfl, rfl, ha, hb, q⟩ := h
  refine op_eqD hu pins s σ H _ _ v u Q I rx ry ⟨.tuple (ns.map PyData.int), .tuple (ms.map PyData.int), .tup ha (dp_ints ns), .tup hb (dp_ints ms), shaped_ints ns, shaped_ints ms, ?_⟩
  have e : PyData.eqv (.tuple (ns.map PyData.int)) (.tuple (ms.map PyData.int)) = decide (ns = ms) := eqv_ints ns ms
  rw [e]
  exact q
/-! ### floor division by a great divisor of any sign -/
def CDivA (i j : Int) : Prop := j ≠ 0 ∧ j.natAbs.log2 < 9000
theorem op_fdivA {X : Cx} : OpR X (binaryOp .FloorDiv) (rI CDivA fun i j => .int (i.fdiv j)) := opI fun i j _ _ _ _ _ hc q => floordiv_int hc.1 q (.inl (PyProof.noPylong_of_log2 hc.2))
end SP
/-! Defs of the module by their names; heaps that keep all but one object. -/
namespace SP
open PySem PySem.Spec PyProof.Rows L2
section
variable {P : Program} {w : World} {K : PySem.W.Frag} {mg : Str → Option Value} {base : Heap}
/-- the module's name x holds a def that keeps the promise sp -/
structure DefG (P : Program) (w : World) (K : PySem.W.Frag) (mg : Str → Option Value) (base : Heap) (k : Nat) (x : Str) (ps : List Str) (sp : Sp) : Prop where
  ex : ∃ (f : Addr) (fd : FuncData), mg x = some (.ref f) ∧ PySem.W.keepIn K (.ref f) = true ∧ FnG P w K mg base CX0 k f fd ps sp ∧ Binds K fd ps []
theorem okG0 {x qual : Str} {st : Stmt} {f : Addr} {fd : FuncData} {N ps : List Str} {k : Nat} {sp : Sp} (F : Fun K x qual st f fd) (S : FnScope N ps (defScope st)) (len : ∀ vs H Q E, sp vs H Q E → vs.length = ps.length)
    (hbody : ∀ (cdv : Value) (A : Around) (out : List Env) (s : Shared) (H : Hp) (vs : List V) (Q : VK) (E : XK), A.guards = some [] → Room k (A.deeper (envOfC qual (defScope st) s.heap.objs.size f cdv)) → sp vs H Q E →
      ∃ t, PSs (cxOf CX0 P w K mg base N qual (defScope st) f cdv A out s H E).nox (defBody st) t ∧ t { nx := fun _ H' => Q .non H', rt := Q } (start N vs) H) : FnG P w K mg base CX0 (k + 1) f fd ps sp :=
  okG F S len fun cdv A out s H vs Q E gd hr h => let ⟨t, a, b⟩ := hbody cdv A out s H vs Q E gd hr h; ⟨t, a.nox, b⟩
/-- a def of the module: where it stands, its function object -/
structure Top (K : PySem.W.Frag) (mg : Str → Option Value) (x : Str) (st : Stmt) (ps : List Str) : Prop where
  ex : ∃ (f : Addr) (fd : FuncData), mg x = some (.ref f) ∧ Fun K x x st f fd ∧ Binds K fd ps []
theorem Top.ok {x : Str} {st : Stmt} {N ps : List Str} {k : Nat} {sp : Sp} (T : Top K mg x st ps) (S : FnScope N ps (defScope st)) (len : ∀ vs H Q E, sp vs H Q E → vs.length = ps.length)
    (hbody : ∀ (f : Addr) (cdv : Value) (A : Around) (out : List Env) (s : Shared) (H : Hp) (vs : List V) (Q : VK) (E : XK), A.guards = some [] → Room k (A.deeper (envOfC x (defScope st) s.heap.objs.size f cdv)) → sp vs H Q E →
      ∃ t, PSs (cxOf CX0 P w K mg base N x (defScope st) f cdv A out s H E).nox (defBody st) t ∧ t { nx := fun _ H' => Q .non H', rt := Q } (start N vs) H) : DefG P w K mg base (k + 1) x ps sp := by
  obtain ⟨f, fd, hm, F, hb⟩ := T.ex
  exact ⟨f, fd, hm, F.kp, okG0 F S len (hbody f), hb⟩
/-- the same, whatever runs around -/
structure DefO (P : Program) (w : World) (K : PySem.W.Frag) (mg : Str → Option Value) (base : Heap) (k : Nat) (x : Str) (ps : List Str) (sp : Sp) : Prop where
  ex : ∃ (f : Addr) (fd : FuncData), mg x = some (.ref f) ∧ PySem.W.keepIn K (.ref f) = true ∧ FnOk P w K mg base CX0 k f fd ps sp ∧ Binds K fd ps []
theorem DefO.g {k : Nat} {x : Str} {ps : List Str} {sp : Sp} (D : DefO P w K mg base k x ps sp) : DefG P w K mg base k x ps sp := let ⟨f, fd, a, b, F, c⟩ := D.ex; ⟨f, fd, a, b, .of F, c⟩
theorem Top.okO {x : Str} {st : Stmt} {N ps : List Str} {k : Nat} {sp : Sp} (T : Top K mg x st ps) (S : FnScope N ps (defScope st)) (len : ∀ vs H Q E, sp vs H Q E → vs.length = ps.length)
    (hbody : ∀ (f : Addr) (cdv : Value) (A : Around) (out : List Env) (s : Shared) (H : Hp) (vs : List V) (Q : VK) (E : XK), Room k (A.deeper (envOfC x (defScope st) s.heap.objs.size f cdv)) → sp vs H Q E →
      ∃ t, PSs (cxOf CX0 P w K mg base N x (defScope st) f cdv A out s H E).nox (defBody st) t ∧ t { nx := fun _ H' => Q .non H', rt := Q } (start N vs) H) : DefO P w K mg base (k + 1) x ps sp := by
  obtain ⟨f, fd, hm, F, hb⟩ := T.ex
  exact ⟨f, fd, hm, F.kp, F.ok S len (hbody f), hb⟩
end
section
variable {X : Cx} {k : Nat} {x : Str} {ps : List Str} {sp : Sp} {e : Expr} {es : List Expr} {t : TA} {p pos : Pos}
theorem pe_callD (D : DefG X.prog X.w X.K X.mg X.base k x ps sp) (gd : X.A.guards = some []) (hr : Room k X.A) (ha : PA X (e :: es) t) (hg : Gl X x := by rfl) (hdb : (x == ("__debug__" : Str)) = false := by decide)
    (hst : starEach (e :: es) X.env = (false, eval e X.env) :: starEach es X.env := by rfl) (hpl : (backTo pos (starEach es X.env)).any (·.1) = false := by rfl) : PE X (.Call (.Name x p) (e :: es) [] pos) (tCall sp [] E0 t) := by
  obtain ⟨f, fd, hm, hk, F, hb⟩ := D.ex
  exact pe_callC (rn_g F gd hr hb .nil pass0) hm hk ha hg hdb hst hpl
theorem pe_callD0 (D : DefG X.prog X.w X.K X.mg X.base k x ps sp) (gd : X.A.guards = some []) (hr : Room k X.A) (hg : Gl X x := by rfl) (hdb : (x == ("__debug__" : Str)) = false := by decide) : PE X (.Call (.Name x p) [] [] pos) (tCall sp [] E0 tNil) := by
  obtain ⟨f, fd, hm, hk, F, hb⟩ := D.ex
  exact pe_callC0 (rn_g F gd hr hb .nil pass0) hm hk hg hdb
theorem pe_callO (D : DefO X.prog X.w X.K X.mg X.base k x ps sp) (hr : Room k X.A) (ha : PA X (e :: es) t) (hg : Gl X x := by rfl) (hdb : (x == ("__debug__" : Str)) = false := by decide)
    (hst : starEach (e :: es) X.env = (false, eval e X.env) :: starEach es X.env := by rfl) (hpl : (backTo pos (starEach es X.env)).any (·.1) = false := by rfl) : PE X (.Call (.Name x p) (e :: es) [] pos) (tCall sp [] E0 t) := by
  obtain ⟨f, fd, hm, hk, F, hb⟩ := D.ex
  exact pe_callC (rn_of F hr hb .nil pass0) hm hk ha hg hdb hst hpl
/-- a stronger reading -/
theorem pe_imp {e : Expr} {t t' : TE} (h : PE X e t) (i : ∀ σ H Q, t' σ H Q → t σ H Q) : PE X e t' := ⟨fun pins s σ H Q I q => h.run pins s σ H Q I (i σ H Q q)⟩
end

/-! ### heaps -/
/-- all tracked objects but the one at p are as they were -/
def Kp (p : Addr) (H H' : Hp) : Prop := ∀ b o, H b = some o → b ≠ p → H' b = some o
theorem Kp.refl (p : Addr) (H : Hp) : Kp p H H := fun _ _ h _ => h
theorem Kp.trans {p : Addr} {H H1 H2 : Hp} (a : Kp p H H1) (b : Kp p H1 H2) : Kp p H H2 := fun c o h n => b c o (a c o h n) n
theorem Kp.of {p : Addr} {H H' : Hp} (s : Same H H') : Kp p H H' := fun b o h _ => s b o h
theorem Kp.upd {p : Addr} {H : Hp} {o : HO} : Kp p H (upd H p o) := fun b u h n => by rw [upd_ne n]; exact h
theorem Kp.new {p q : Addr} {H : Hp} {o : HO} (h : H q = none) : Kp p H (L2.upd H q o) := fun b u e _ => by rw [upd_ne (ne_of_none e h)]; exact e
theorem Same.new {q : Addr} {H : Hp} {o : HO} (h : H q = none) : Same H (L2.upd H q o) := fun b u e => by rw [upd_ne (ne_of_none e h)]; exact e
theorem Same.tup {K : PySem.W.Frag} {H H' : Hp} {a : Addr} {xs : List V} (e : Same H H') (h : SqT K H a xs) : SqT K H' a xs := by
  rcases h with (h | ⟨o, h⟩) | h
  · exact .inl (.inl (e _ _ h))
  · exact .inl (.inr ⟨o, e _ _ h⟩)
  · exact .inr h
/-- an object that is no list stands where only a list may have changed -/
theorem Kp.get {p b : Addr} {H H' : Hp} {xs : List V} {o : HO} (k : Kp p H H') (hp : H p = some (.lst xs)) (h : H b = some o) (n : o ≠ .lst xs) : H' b = some o := k b o h (ne_of h hp n)
theorem Kp.tup {p b : Addr} {H H' : Hp} {xs ys : List V} (k : Kp p H H') (hp : H p = some (.lst xs)) (h : H b = some (.tup ys)) : H' b = some (.tup ys) := k.get hp h (fun z => nomatch z)
theorem Kp.ins {p b C dx : Addr} {H H' : Hp} {xs : List V} {fs : List (Str × V)} (k : Kp p H H') (hp : H p = some (.lst xs)) (h : H b = some (.ins C dx fs)) : H' b = some (.ins C dx fs) := k.get hp h (fun z => nomatch z)

/-! ### the pot that the draws are taken from: a list of two ints -/
def Pot (H : Hp) (p : Addr) : Prop := ∃ a b : Int, H p = some (.lst [.int a, .int b]) ∧ 0 ≤ a ∧ 0 ≤ b ∧ b < 2147483648
theorem Pot.same {H H' : Hp} {p : Addr} (h : Pot H p) (s : Same H H') : Pot H' p := let ⟨a, b, e, q⟩ := h; ⟨a, b, s _ _ e, q⟩
theorem Pot.lst {H : Hp} {p : Addr} (h : Pot H p) : ∃ xs, H p = some (.lst xs) := let ⟨a, b, e, _⟩ := h; ⟨_, e⟩

/-! ### an Amount -/
def amF (t b : Int) (pl : Addr) : List (Str × V) := [("own_top", .int t), ("own_bottom", .int b), ("own_place", .ref pl)]
/-- at a an Amount of the class at C: its top, its bottom above 0, its place -/
def AmAt (C : Addr) (H : Hp) (a : Addr) (t b : Int) : Prop := 0 < b ∧ ∃ dx pl : Addr, H a = some (.ins C dx (amF t b pl)) ∧ H pl = some (.tup ((M.plc 1 t b.toNat).map V.int))
theorem AmAt.same {C a : Addr} {H H' : Hp} {t b : Int} (h : AmAt C H a t b) (s : Same H H') : AmAt C H' a t b := let ⟨z, dx, pl, h1, h2⟩ := h; ⟨z, dx, pl, s _ _ h1, s _ _ h2⟩
theorem AmAt.kp {C a p : Addr} {H H' : Hp} {t b : Int} {xs : List V} (h : AmAt C H a t b) (k : Kp p H H') (hp : H p = some (.lst xs)) : AmAt C H' a t b := let ⟨z, dx, pl, h1, h2⟩ := h; ⟨z, dx, pl, k.ins hp h1, k.tup hp h2⟩
theorem n_tb : ¬ (("own_top" : Str) = "own_bottom") := by decide +kernel
theorem n_tp : ¬ (("own_top" : Str) = "own_place") := by decide +kernel
theorem n_bp : ¬ (("own_bottom" : Str) = "own_place") := by decide +kernel
theorem am_put1 (t b : Int) : putF "own_bottom" (.int b) (putF "own_top" (.int t) []) = ([("own_top", .int t), ("own_bottom", .int b)] : List (Str × V)) := by
  show (if ("own_top" : Str) = "own_bottom" then [(("own_top" : Str), V.int b)] else (("own_top" : Str), V.int t) :: [(("own_bottom" : Str), V.int b)]) = _
  rw [if_neg n_tb] <;> rfl
theorem am_put (t b : Int) (pl : Addr) : putF "own_place" (.ref pl) (putF "own_bottom" (.int b) (putF "own_top" (.int t) [])) = amF t b pl := by
  rw [am_put1]
  show (if ("own_top" : Str) = "own_place" then _ else (("own_top" : Str), V.int t) :: (if ("own_bottom" : Str) = "own_place" then _ else (("own_bottom" : Str), V.int b) :: [(("own_place" : Str), V.ref pl)])) = _
  rw [if_neg n_tp, if_neg n_bp] <;> rfl
theorem am_top (t b : Int) (pl : Addr) : (amF t b pl).lookup ("own_top" : Str) = some (.int t) := by
  rw [← am_put, lookup_putF, if_neg n_tp, lookup_putF, if_neg n_tb, lookup_putF, if_pos rfl]
theorem am_bottom (t b : Int) (pl : Addr) : (amF t b pl).lookup ("own_bottom" : Str) = some (.int b) := by
  rw [← am_put, lookup_putF, if_neg n_bp, lookup_putF, if_pos rfl]
theorem am_place (t b : Int) (pl : Addr) : (amF t b pl).lookup ("own_place" : Str) = some (.ref pl) := by
  rw [← am_put, lookup_putF, if_pos rfl]
theorem am_no (t b : Int) (pl : Addr) {m : Str} (h1 : ¬ m = "own_top") (h2 : ¬ m = "own_bottom") (h3 : ¬ m = "own_place") : (amF t b pl).lookup m = none := by
  rw [← am_put, lookup_putF, if_neg h3, lookup_putF, if_neg h2, lookup_putF, if_neg h1] <;> rfl
end SP
/-! A def whose first test leads to «return NotImplemented». -/
namespace SP
open PySem PySem.Spec PyProof.Rows L2
theorem boot_ni : bootBuiltins "NotImplemented" = some .notImplemented := by decide +kernel
theorem execs_decl {X : Cx} {c : Expr} {p pos pos2 : Pos} {rest : List Stmt} {tc : TT} (hc : PT X c tc) (hg : Gl X "NotImplemented") (hm : X.mg "NotImplemented" = none) {pins : List (Addr × Obj)} {s : Shared} {σ : L2.St} {H : Hp} (I : Inv X pins σ H s)
    (h : tc σ H (fun b H' => b = true ∧ Same H H')) :
    wpAny (model X.prog X.w) X.A (execs (.If c [.Return (some (.Name "NotImplemented" p)) pos2] [] pos :: rest) X.env) (fun fl s' => fl = .ret .notImplemented ∧ ∃ σ' H', Inv X pins σ' H' s' ∧ Same H H') X.xe s := by
  refine wpAny_execs_cons (wpAny_If (thn (hc.run pins s σ H _ I h) ?_))
  intro b s1 ⟨H1, I1, e, sm⟩
  subst e
  refine wpAny_execs_cons (wpAny_Return_some (ld_blt I1 hg hm boot_ni ?_))
  exact ⟨rfl, σ, H1, I1, sm⟩
theorem rnN_of {X : Cx} {N ps : List Str} {x qual : Str} {st : Stmt} {f : Addr} {fd : FuncData} {D : List V → Hp → Prop} {kk : Nat} {c : Expr} {p pos pos2 : Pos} {rest : List Stmt} (F : Fun X.K x qual st f fd) (S : FnScope N ps (defScope st)) (hr : Room (kk + 1) X.A) (hb : Binds X.K fd ps [])
    (len : ∀ vs H, D vs H → vs.length = ps.length) (hbody : defBody st = .If c [.Return (some (.Name "NotImplemented" p)) pos2] [] pos :: rest) (hm : X.mg "NotImplemented" = none)
    (go : ∀ (cdv : Value) (A : Around) (out : List Env) (s : Shared) (H : Hp) (vs : List V), Room kk (A.deeper (envOfC qual (defScope st) s.heap.objs.size f cdv)) → D vs H →
      ∃ tc, PT (cxOf CX0 X.prog X.w X.K X.mg X.base N qual (defScope st) f cdv A out s H E0).nox c tc ∧ Gl (cxOf CX0 X.prog X.w X.K X.mg X.base N qual (defScope st) f cdv A out s H E0).nox "NotImplemented" ∧ tc (start N vs) H (fun b H' => b = true ∧ Same H H')) : RnN X f D := by
  obtain ⟨oc, od, kV, doc, pm, an, cdv, ct, osl, rfl, lk, hcd⟩ := F.ex
  intro pins σ H s us vs I rv hD
  have hl := len vs H hD
  have ln : (us ++ []).length = ps.length := by rw [List.append_nil, ← rv.length, hl]
  have bd := hb s us I.kIn ln
  rw [List.append_nil] at bd
  obtain ⟨tc, hc, hg, ht⟩ := go cdv X.A X.stack s H vs (hr.deeper _) hD
  refine wpAny_call (codeAny_mono (enter_def (E := E0) (CX := CX0) (R := fun r s' => r = .ok (.ret .notImplemented) ∧ ∃ H', s'.os = s.os ∧ AllBare s'.gens ∧ Un (frs X.stack) [] H H' s.heap s'.heap ∧ HOk X.prog X.w H' s'.heap ∧ Same H H') lk hcd S hr I.env0 bd rv hl ?_) ?_)
  · intro s1 J
    rw [hbody]
    refine wpAny_mono (execs_decl hc hg hm (J.wish fun _ _ => False) ht) ?_ fun _ _ z => z.elim
    intro fl s2 z
    obtain ⟨rfl, σ2, H2, J2, sm⟩ := z
    exact ⟨rfl, H2, J2.os, J2.bare, J2.base, J2.hok, sm⟩
  · intro r s2 z
    obtain ⟨rfl, H2, z1, z2, z3, z4, sm⟩ := z
    obtain ⟨hh, g, d, t, os'⟩ := s2
    have e : os' = s.os := z1
    subst e
    exact ⟨rfl, H2, I.call (h' := hh) (g' := g) (d' := d) (t' := t) (ch := []) z3 z4 z2 (fun b z => (List.not_mem_nil z).elim), sm⟩
end SP
/-! str and repr of own instances; lists of bools shown. -/
namespace SP
open PySem PySem.Spec PyProof.Rows L2
theorem str_back {X : Cx} {pins : List (Addr × Obj)} {σ : L2.St} {Q : VK} {u : Value} {s' : Shared} (h : EP X pins σ (fun v H' => ∃ z, v = .str z ∧ Q v H') u s') : PySem.W.StrBack (EP X pins σ Q) u s' := by
  obtain ⟨v, H', I', r, z, rfl, q⟩ := h
  obtain ⟨t, rfl⟩ := r
  exact ⟨.str z, H', I', ⟨t, rfl⟩, q⟩
theorem ep_out1 {X : Cx} {pins : List (Addr × Obj)} {σ : L2.St} {Q : VK} {u : Value} {s' : Shared} (h : EP (in1 X) pins σ Q u s') : EP X pins σ Q u s' := let ⟨v, H', I', r, q⟩ := h; ⟨v, H', inv_out1 I', r, q⟩
/-- f(o), o an instance whose own method (promise sp) answers with a text -/
def rShow (C : Addr) (sp : Sp) (E : XK) : List V → Hp → VK → Prop := fun xs H Q => ∃ (a dx : Addr) (fs : List (Str × V)), xs = [.ref a] ∧ H a = some (.ins C dx fs) ∧ sp [.ref a] H (fun v H' => ∃ z, v = .str z ∧ Q v H') E
section
variable {X : Cx} {C f : Addr} {sp : Sp} {E : XK}
theorem call_reprO (hu : X.A.units + 1 < cLine) (hs : PySem.W.findIn X.K (.ref C) "__repr__" = some (some (.ref f))) (hf : PySem.W.isFn X.K (.ref f) = true) (R : Rn (in1 X) f sp [] E) : CallR X (.builtin "repr") (rShow C sp E) := by
  intro pins s σ H xs us Q I r h
  obtain ⟨a, dx, fs, rfl, ea, h⟩ := h
  obtain ⟨u, rfl, ru⟩ := vals1 r
  cases (show u = Value.ref a from ru)
  obtain ⟨mA, O, _⟩ := ins_get I.hok ea
  obtain ⟨od, J, _⟩ := O.look
  obtain ⟨m, F⟩ := I.fr
  exact PySem.W.repr_K hu F I.mod.kin J hs hf (thn (R pins σ H s _ [.ref a] [.ref a] (inv_in1 I) (.cons rfl .nil) h) fun v s' q => str_back (ep_out1 q))
theorem call_strO (hu : X.A.units + 2 < cLine) (hs : PySem.W.findIn X.K (.ref C) "__str__" = some (some (.ref f))) (hf : PySem.W.isFn X.K (.ref f) = true) (R : Rn (in1 (in1 X)) f sp [] E) : CallR X (.type "str") (rShow C sp E) := by
  intro pins s σ H xs us Q I r h
  obtain ⟨a, dx, fs, rfl, ea, h⟩ := h
  obtain ⟨u, rfl, ru⟩ := vals1 r
  cases (show u = Value.ref a from ru)
  obtain ⟨mA, O, _⟩ := ins_get I.hok ea
  obtain ⟨od, J, _⟩ := O.look
  exact PySem.W.kso_call hu I.kIn J hs hf (thn (R pins σ H s _ [.ref a] [.ref a] (inv_in1 (inv_in1 I)) (.cons rfl .nil) h) fun v s' q => str_back (ep_out1 (ep_out1 q)))
end
/-! ### lists of bools -/
theorem dp_bools {K : PySem.W.Frag} {H : Hp} : ∀ bs : List Bool, DpAll K H (bs.map V.bl) (bs.map PyData.bool)
  | [] => .nil
  | a :: r => .cons (.bl a) (dp_bools r)
theorem len1921 {i : Int} (h : i.natAbs.log2 < 1920) : (PySem.Str.ofString (toString i)).length ≤ 1921 := by
  have e := int_text_length_le (k := 1920) (by decide) h
  rw [PySem.ofString_length]
  omega
theorem small_log {i : Int} {n : Nat} (h : i.natAbs < 2 ^ n) (h0 : 0 < n) (hn : n ≤ 1920) : i.natAbs.log2 < 1920 := Nat.lt_of_lt_of_le (PySem.Flt.log2_lt_of h0 h) hn
end SP
/-! +, -, * of own instances: both of one class, one of them an int; the own sign, abs and bool. -/
namespace SP
open PySem PySem.Spec PyProof.Rows L2
/-- back: no NotImplemented -/
theorem back_val {X : Cx} {pins : List (Addr × Obj)} {σ : L2.St} {Q : VK} {v : Value} {s' : Shared} (h : EP X pins σ Q v s') : PySem.W.CmpBack (EP X pins σ Q) v s' := by
  obtain ⟨v', H', I', r', q'⟩ := h
  exact back_rel r' ⟨v', H', I', r', q'⟩
section
variable {X : Cx} {C f g : Addr} {sp : Sp} {E : XK} {op : Operator}
/-- x op y, both of the class at C -/
def rBinS (C : Addr) (sp : Sp) (E : XK) : R2 := fun x y H Q => ∃ (a b dx dy : Addr) (fs gs : List (Str × V)), x = .ref a ∧ y = .ref b ∧ H a = some (.ins C dx fs) ∧ H b = some (.ins C dy gs) ∧ sp [.ref a, .ref b] H Q E
theorem op_binS (hc : PySem.W.selfFirst X.K C = true) (hs : PySem.W.findIn X.K (.ref C) (PySem.dunder op.info.2) = some (some (.ref f))) (hf : PySem.W.isFn X.K (.ref f) = true) (R : Rn X f sp [] E) : OpR X (binaryOp op) (rBinS C sp E) := by
  intro pins s σ H x y v u Q I rx ry h
  obtain ⟨a, b, dx, dy, fs, gs, rfl, rfl, ea, eb, h⟩ := h
  cases (show v = Value.ref a from rx)
  cases (show u = Value.ref b from ry)
  obtain ⟨mA, O, _⟩ := ins_get I.hok ea
  obtain ⟨od, J, _⟩ := O.look
  obtain ⟨mB, O2, _⟩ := ins_get I.hok eb
  obtain ⟨od2, J2, _⟩ := O2.look
  obtain ⟨m, F⟩ := I.fr
  exact PySem.W.binop_K F I.mod.kin J J2.type hc hs hf (thn (R pins σ H s Q [.ref a, .ref b] [.ref a, .ref b] I (.cons rfl (.cons rfl .nil)) h) fun w' s' z => back_val z)
/-- x op i -/
def rBinI (C : Addr) (sp : Sp) (E : XK) : R2 := fun x y H Q => ∃ (a dx : Addr) (fs : List (Str × V)) (i : Int), x = .ref a ∧ y = .int i ∧ H a = some (.ins C dx fs) ∧ sp [.ref a, .int i] H Q E
theorem op_binI {fo ro : Option Value} (hc : PySem.W.selfFirst X.K C = true) (hs : PySem.W.findIn X.K (.ref C) (PySem.dunder op.info.2) = some (some (.ref f))) (hf : PySem.W.isFn X.K (.ref f) = true) (hr : PySem.W.findIn X.K (.ref C) (dunderR op.info.2) = some (some (.ref g)))
    (h1 : fastLookup "int" (PySem.dunder op.info.2) = some fo) (h2 : fastLookup "int" (dunderR op.info.2) = some ro) (R : Rn X f sp [] E) : OpR X (binaryOp op) (rBinI C sp E) := by
  intro pins s σ H x y v u Q I rx ry h
  obtain ⟨a, dx, fs, i, rfl, rfl, ea, h⟩ := h
  cases (show v = Value.ref a from rx)
  obtain ⟨t, z⟩ := (show ∃ t, u = Value.int i t from ry)
  cases z
  obtain ⟨mA, O, _⟩ := ins_get I.hok ea
  obtain ⟨od, J, _⟩ := O.look
  obtain ⟨m, F⟩ := I.fr
  exact PySem.W.ksp_binT F I.mod.kin J (T := "int") rfl hc hs hf hr (.inr ⟨g, rfl⟩) h1 h2 (sub_built mro_int rfl) (thn (R pins σ H s Q [.ref a, .int i t] [.ref a, .int i] I (.cons rfl (.cons ⟨t, rfl⟩ .nil)) h) fun w' s' z => back_val z)
end
/-- both forms -/
def rBinM (C : Addr) (sp : Sp) (E : XK) : R2 := fun x y H Q => rBinS C sp E x y H Q ∨ rBinI C sp E x y H Q
section
variable {prog : Program} {w : World} {A : Around} {E : Value → Shared → Prop} {s : Shared} {K : PySem.W.Frag} {x C f : Addr} {ox : Obj} {od : Option Obj} {nm : String}
/-- int op own: the own reflected method -/
theorem binI_K {op : Operator} {i : Int} {t : Tok} {id : String} {Q : Value → Shared → Prop} {dx : Addr} (X : K.In s.heap) (I : PySem.W.InstAt s.heap x ox C od) (hx : s.heap.get? x = some (PySem.W.instObj C dx)) (hc : PySem.W.selfFirst K C = true)
    (hs : PySem.W.findIn K (.ref C) (PySem.dunder op.info.2) = some (some (.ref f))) {g : Addr} (hr : PySem.W.findIn K (.ref C) (dunderR op.info.2) = some (some (.ref g))) (hf : PySem.W.isFn K (.ref g) = true) (hsub : PySem.W.subIn K (.ref C) (.type "int") = some false)
    (fI : fillsNumberSlot (.type "int") op.info.2 = pure true) (slot : Slot "int" (PySem.dunder op.info.2) id)
    (no : ∀ {Q' : Shared → Prop}, Q' s → wpAny (model prog w) A (call (.builtin id) [.int i t, .ref x]) (fun v s' => v = .notImplemented ∧ Q' s') E s)
    (h : wpAny (model prog w) A (call (.ref g) [.ref x, .int i t]) (PySem.W.CmpBack Q) E s) : wpAny (model prog w) A (binaryOp op (.int i t) (.ref x)) Q E s := by
  obtain ⟨cd, rest, hcd, hm⟩ := PySem.W.ksp_first hc
  rcases hi : op.info with ⟨sym, nm'⟩
  rw [hi] at hs hr fI slot
  dsimp only at hs hr fI slot
  have one := PySem.W.ksp_try X I hr hf h
  have L1 : PySem.W.Looks (model prog w) s.heap (typeOf (.ref x)) (.ref C) := I.type
  have L3 : PySem.W.Looks (model prog w) s.heap (fillsNumberSlot (.ref C) nm') true := PySem.W.fills_K X hcd hm hs
  have L5 : PySem.W.Looks (model prog w) s.heap (isSubtype (.ref C) (.type "int")) false := PySem.W.looks_subIn X hsub
  have hne : (Value.type "int" == Value.ref C) = false := Bool.eq_false_iff.mpr fun q => by cases beq_iff_eq.mp q
  simp only [binaryOp, hi]
  refine wpAny_holding (wpAny_bind ?_)
  unfold binaryOp1
  refine wpAny_bind (wpAny_pure (wpAny_bind (L1.here (wpAny_bind (wpAny_of_eq fI ?_)))))
  simp only [hne, Bool.false_eq_true, if_false]
  refine wpAny_bind (L3.here ?_)
  simp only [Bool.and_self, if_true]
  refine wpAny_bind (L5.here ?_)
  simp only [Bool.false_eq_true, if_false]
  rw [if_pos (show (true && !false) = true from rfl)]
  refine wpAny_bind (wpAny_pure ?_)
  simp only [Bool.false_eq_true, if_false]
  refine wpAny_bind (wpAny_tryMethod_declines (T := "int") rfl slot (no ?_))
  dsimp only
  rw [if_pos (show (true && !false) = true from rfl)]
  refine wpAny_bind (wpAny_mono one (fun r s' hr' => ?_) fun _ _ e => e)
  obtain ⟨v, rfl, hq⟩ := hr'
  exact wpAny_bind (wpAny_rule (wpAny_pure (wpAny_pure hq)))
theorem int_add_no {dx : Addr} {i : Int} {t : Tok} {Q : Shared → Prop} (hx : s.heap.get? x = some (PySem.W.instObj C dx)) (q : Q s) : wpAny (model prog w) A (call (.builtin "int.__add__") [.int i t, .ref x]) (fun v s' => v = .notImplemented ∧ Q s') E s := by
  refine GQ.call_here F.slot_int_add rfl F.entry_int_add (F.args_int_add_2 _ _) ?_
  wp_walk using asInt_inst hx
  exact ⟨rfl, q⟩
theorem int_sub_no {dx : Addr} {i : Int} {t : Tok} {Q : Shared → Prop} (hx : s.heap.get? x = some (PySem.W.instObj C dx)) (q : Q s) : wpAny (model prog w) A (call (.builtin "int.__sub__") [.int i t, .ref x]) (fun v s' => v = .notImplemented ∧ Q s') E s := by
  refine GQ.call_here F.slot_int_sub rfl F.entry_int_sub (F.args_int_sub_2 _ _) ?_
  wp_walk using asInt_inst hx
  exact ⟨rfl, q⟩
theorem int_mul_no {dx : Addr} {i : Int} {t : Tok} {Q : Shared → Prop} (hx : s.heap.get? x = some (PySem.W.instObj C dx)) (q : Q s) : wpAny (model prog w) A (call (.builtin "int.__mul__") [.int i t, .ref x]) (fun v s' => v = .notImplemented ∧ Q s') E s := by
  refine GQ.call_here F.slot_int_mul rfl F.entry_int_mul (F.args_int_mul_2 _ _) ?_
  wp_walk using asInt_inst hx
  exact ⟨rfl, q⟩
end
section
variable {X : Cx} {C f g : Addr} {sp : Sp} {E : XK}
/-- i op x -/
def rBinR (C : Addr) (sp : Sp) (E : XK) : R2 := fun x y H Q => ∃ (a dx : Addr) (fs : List (Str × V)) (i : Int), x = .int i ∧ y = .ref a ∧ H a = some (.ins C dx fs) ∧ sp [.ref a, .int i] H Q E
theorem op_binR {op : Operator} {id : String} (hc : PySem.W.selfFirst X.K C = true) (hs : PySem.W.findIn X.K (.ref C) (PySem.dunder op.info.2) = some (some (.ref f))) (hr : PySem.W.findIn X.K (.ref C) (dunderR op.info.2) = some (some (.ref g))) (hf : PySem.W.isFn X.K (.ref g) = true)
    (hsub : PySem.W.subIn X.K (.ref C) (.type "int") = some false) (fI : fillsNumberSlot (.type "int") op.info.2 = pure true) (slot : Slot "int" (PySem.dunder op.info.2) id)
    (no : ∀ {x dx : Addr} {i : Int} {t : Tok} {s : Shared} {Q : Shared → Prop}, s.heap.get? x = some (PySem.W.instObj C dx) → Q s → wpAny (model X.prog X.w) X.A (call (.builtin id) [.int i t, .ref x]) (fun v s' => v = .notImplemented ∧ Q s') X.xe s)
    (R : Rn X g sp [] E) : OpR X (binaryOp op) (rBinR C sp E) := by
  intro pins s σ H x y v u Q I rx ry h
  obtain ⟨a, dx, fs, i, rfl, rfl, ea, h⟩ := h
  cases (show u = Value.ref a from ry)
  obtain ⟨t, z⟩ := (show ∃ t, v = Value.int i t from rx)
  cases z
  obtain ⟨mA, O, _⟩ := ins_get I.hok ea
  obtain ⟨od, J, _⟩ := O.look
  exact binI_K (dx := dx) I.kIn J J.1 hc hs hr hf hsub fI slot (fun q => no J.1 q) (thn (R pins σ H s Q [.ref a, .int i t] [.ref a, .int i] I (.cons rfl (.cons ⟨t, rfl⟩ .nil)) h) fun w' s' z => back_val z)
/-- -x -/
def rUnC (C : Addr) (sp : Sp) (E : XK) : V → Hp → VK → Prop := fun x H Q => ∃ (a dx : Addr) (fs : List (Str × V)), x = .ref a ∧ H a = some (.ins C dx fs) ∧ sp [.ref a] H Q E
theorem un_negC (hs : PySem.W.findIn X.K (.ref C) "__neg__" = some (some (.ref f))) (hf : PySem.W.isFn X.K (.ref f) = true) (R : Rn X f sp [] E) : UnR X (unaryOp .USub) (rUnC C sp E) := by
  intro pins s σ H x v Q I rx h
  obtain ⟨a, dx, fs, rfl, ea, h⟩ := h
  cases (show v = Value.ref a from rx)
  obtain ⟨mA, O, _⟩ := ins_get I.hok ea
  obtain ⟨od, J, _⟩ := O.look
  obtain ⟨m, F⟩ := I.fr
  exact PySem.W.ksp_neg F I.mod.kin J hs hf (R pins σ H s Q [.ref a] [.ref a] I (.cons rfl .nil) h)
end
end SP
/-! abs, bool of own instances; keywords alone; a class in a local name. -/
namespace SP
open PySem PySem.Spec PyProof.Rows L2
section
variable {X : Cx} {C f : Addr} {sp : Sp} {E : XK}
def rOne1 (C : Addr) (sp : Sp) (E : XK) : List V → Hp → VK → Prop := fun xs H Q => ∃ (a dx : Addr) (fs : List (Str × V)), xs = [.ref a] ∧ H a = some (.ins C dx fs) ∧ sp [.ref a] H Q E
theorem call_absC (hs : PySem.W.findIn X.K (.ref C) "__abs__" = some (some (.ref f))) (hf : PySem.W.isFn X.K (.ref f) = true) (R : Rn (in1 X) f sp [] E) : CallR X (.builtin "abs") (rOne1 C sp E) := by
  intro pins s σ H xs us Q I r h
  obtain ⟨a, dx, fs, rfl, ea, h⟩ := h
  obtain ⟨u, rfl, ru⟩ := vals1 r
  cases (show u = Value.ref a from ru)
  obtain ⟨mA, O, _⟩ := ins_get I.hok ea
  obtain ⟨od, J, _⟩ := O.look
  refine PySem.Calls.call_function_entry kind_abs plain_abs entry_abs (args_abs _) ?_
  unfold Builtin.«abs»
  refine wpAny_bind (m := oneArg "abs" _) (wpAny_pure ?_)
  refine wpAny_bind (m := callSpecial? (.ref a) (Str.ofString "__abs__")) (PySem.W.special_fn I.kIn J hs (beq_iff_eq.mp hf) (thn (R pins σ H s _ [.ref a] [.ref a] (inv_in1 I) (.cons rfl .nil) h) fun v s' q => ?_))
  exact wpAny_pure ⟨_, rfl, ep_out1 q⟩
def rBool1 (C : Addr) (sp : Sp) (E : XK) : List V → Hp → VK → Prop := fun xs H Q => ∃ (a dx : Addr) (fs : List (Str × V)), xs = [.ref a] ∧ H a = some (.ins C dx fs) ∧ sp [.ref a] H (fun v H' => ∃ b, v = .bl b ∧ Q (.bl b) H') E
theorem meets_bool_own {prog : Program} {w : World} (x : Addr) : MeetsIn prog w (Builtin.«bool.__new__» ⟨[.type "bool", .ref x], []⟩) (fun A R s => wpAny (model prog w) A.in1 (truthy (.ref x)) (fun b s' => R (.ok (.ret (.bool b))) s') (fun e s' => R (.error e) s') s) :=
  MeetsIn.of_wp fun A R s hs => by
    have f1 := F.conv_sub_bool
    unfold Builtin.«bool.__new__»
    refine wpAny_bind (wpAny_pure ?_)
    rw [if_neg (show ¬ (!true) = true from by decide)]
    refine wpAny_bind (wpAny_of_eq f1 ?_)
    rw [if_neg (show ¬ (!true) = true from by decide)]
    refine wpAny_bind (wpAny_pure ?_)
    refine wpAny_bind (wpAny_mono hs (fun b s' q => ?_) fun _ _ e => e)
    exact wpAny_pure ⟨_, rfl, q⟩
theorem call_boolC (hs : PySem.W.findIn X.K (.ref C) "__bool__" = some (some (.ref f))) (hf : PySem.W.isFn X.K (.ref f) = true) (R : Rn (in1 (in1 X)) f sp [] E) : CallR X (.type "bool") (rBool1 C sp E) := by
  intro pins s σ H xs us Q I r h
  obtain ⟨a, dx, fs, rfl, ea, h⟩ := h
  obtain ⟨u, rfl, ru⟩ := vals1 r
  cases (show u = Value.ref a from ru)
  obtain ⟨mA, O, _⟩ := ins_get I.hok ea
  obtain ⟨od, J, _⟩ := O.look
  obtain ⟨m, Fm⟩ := I.fr
  refine callType_newIn F.called_bool F.newNe_bool (F.typeCall_bool_1 _) (F.newCall_bool_1 _) (fun obj => F.args_object_init_2 obj _) F.entry_bool_new (meets_bool_own a) ?_
  refine PySem.W.truthy_K Fm I.mod.kin J hs hf (thn (R pins σ H s _ [.ref a] [.ref a] (inv_in1 (inv_in1 I)) (.cons rfl .nil) h) fun v s' q => ?_)
  obtain ⟨v', H', I', r', b, rfl, q'⟩ := q
  cases (show v = Value.bool b from r')
  exact ⟨rfl, .bl b, H', inv_out1 (inv_out1 I'), rfl, q'⟩
/-! ### keywords alone -/
variable {fd : FuncData} {ps ks : List Str} {k : Nat} {CX : CXT} {x m : Str} {p pos apos : Pos} {o : Expr} {kws : List Keyword} {ta : TE} {tk : TA} {g : List Value → List Value → List Value} {gV : List V → List V → List V}
/-- f(k = v, ..) -/
theorem pe_callK0 (F : FnOk X.prog X.w X.K X.mg X.base CX k f fd ps sp) (hr : Room k X.A) (hg : Gl X x) (hm : X.mg x = some (.ref f)) (hk : PySem.W.keepIn X.K (.ref f) = true) (hb : KBn X.K fd ps 0 ks g gV) (hx : Passes CX X E)
    (hkw : PK X kws tk) (hall : (backToKw pos (keywordEach kws X.env)).all (·.1.isSome) = true := by rfl) (hks : (backToKw pos (keywordEach kws X.env)).filterMap (·.1) = ks := by rfl)
    (hdb : (x == ("__debug__" : Str)) = false := by decide)
    (hpl : ((backTo pos (starEach [] X.env)).any (·.1) || (backToKw pos (keywordEach kws X.env)).any (·.1.isNone)) = false := by rfl) :
    PE X (.Call (.Name x p) [] kws pos) (tCallN 0 ks.length sp gV E tNil tk) := by
  refine ⟨fun pins s σ H Q I h => ?_⟩
  refine wpAny_Call_Name_kw (ld_glob I hg hm ?_ hdb)
  refine PySem.W.callWith_KW0 (h₀ := X.base) I.ok.mod.kin hk hall ?_ hpl
  refine thn (hkw.run pos pins s σ H _ I h) fun ws s2 ⟨zs, H2, I2, rz, l1, l2, q2⟩ => ⟨I2.kIn, ?_⟩
  rw [hks]
  exact run_fnN (us := []) (vs := []) F hr hb hx I2 .nil rz l1 l2 q2
/-- o.m(k = v, ..) -/
def tMethK (C : Addr) (m : Str) (n : Nat) (sp : Sp) (gV : List V → List V → List V) (E : XK) (ta : TE) (tk : TA) : TE := fun σ H Q => ta σ H fun x H1 => ∃ (a dx : Addr) (fs : List (Str × V)), x = .ref a ∧ H1 a = some (.ins C dx fs) ∧ fs.lookup m = none ∧ tk σ H1 fun zs H2 => zs.length = n ∧ sp (gV [.ref a] zs) H2 Q E
theorem pe_methK0 {pl : Sem Bool} (he : PE X o ta) (c : Cls X.K C) (hm : Meth X.K C m f) (F : FnOk X.prog X.w X.K X.mg X.base CX k f fd ps sp) (hr : Room k X.A) (hb : KBn X.K fd ps 1 ks g gV) (hx : Passes CX X E) (hkw : PK X kws tk)
    (hall : (backToKw pos (keywordEach kws X.env)).all (·.1.isSome) = true := by rfl) (hks : (backToKw pos (keywordEach kws X.env)).filterMap (·.1) = ks := by rfl)
    (hpl : ((backTo pos (starEach [] X.env)).any (·.1) || (backToKw pos (keywordEach kws X.env)).any (·.1.isNone)) = false := by rfl)
    (ht : eval (.Call (.Attribute o m apos) [] kws pos) X.env = (do
      let ov ← eval o X.env
      standAt apos.atName
      let (f, first) ← holding [ov] (getMethod ov m pl)
      callWith pos f first (backTo pos (starEach [] X.env)) (backToKw pos (keywordEach kws X.env))) := by rfl) :
    PE X (.Call (.Attribute o m apos) [] kws pos) (tMethK C m ks.length sp gV E ta tk) := by
  refine ⟨fun pins s σ H Q I h => ?_⟩
  refine PySem.W.methodCall_KW (pl := pl) (thn (he.run pins s σ H _ I h) fun u s1 ⟨x, H1, I1, rx, a, dx, fs, ex, ea, l, q⟩ => ?_) ht
  subst ex
  obtain rfl : u = Value.ref a := rx
  refine getmeth_ok I1 ea c hm l ?_
  refine PySem.W.callWith_KW0 (first := [.ref a]) (h₀ := X.base) I1.ok.mod.kin hm.kp hall ?_ hpl
  refine thn (hkw.run pos pins s1 σ H1 _ I1 q) fun ws s2 ⟨zs, H2, I2, rz, l2, q2⟩ => ⟨I2.kIn, ?_⟩
  rw [hks]
  exact run_fnN (us := [.ref a]) (vs := [.ref a]) F hr hb hx I2 (.cons rfl .nil) rz rfl l2 q2
/-- positional ones, then the named ones, in the parameters' order -/
theorem fun_kbn {K : PySem.W.Frag} {x qual : Str} {st : Stmt} {f : Addr} {fd : FuncData} {ps ks : List Str} {n : Nat} (F : Fun K x qual st f fd)
    (h : ∀ (kV doc pm : Value) (an : Option Addr) (cdv ct : Value) (us ws : List Value), us.length = n → ws.length = ks.length → bindArgs (PySem.W.fnOf x qual (defArgs st) (defBody st) (defScope st) .none kV doc pm an cdv ct) ⟨us, ks.zip ws⟩ = pure (ps.zip (us ++ ws))) :
    KBn K fd ps n ks (fun us ws => us ++ ws) (fun vs zs => vs ++ zs) := by
  obtain ⟨oc, od, kV, doc, pm, an, cdv, ct, osl, rfl, lk, hcd⟩ := F.ex
  exact ⟨fun s us ws X l1 l2 => .of_eq (h kV doc pm an cdv ct us ws l1 l2), fun r1 r2 => r1.append r2⟩
/-! ### a class in a local name -/
variable {i : Nat} {dvs : List V} {e : Expr} {es : List Expr} {t : TA}
theorem pe_callV (R : Rn X f sp dvs E) (hN : X.N[i]? = some x) (hv : Vis X.env.scope x) (hk : PySem.W.keepIn X.K (.ref f) = true) (ha : PA X (e :: es) t)
    (hdb : (x == ("__debug__" : Str)) = false := by decide) (hcd : (x == ("__classdict__" : Str)) = false := by decide)
    (he : starEach (e :: es) X.env = (false, eval e X.env) :: starEach es X.env := by rfl) (hpl : (backTo pos (starEach es X.env)).any (·.1) = false := by rfl) : PE X (.Call (.Name x p) (e :: es) [] pos) (tCallL i f sp dvs E t) := by
  refine ⟨fun pins s σ H Q I h => ?_⟩
  obtain ⟨hs, ht⟩ := h
  refine wpAny_Call_Name_kw (thn ((pe_var (pos := p) hN hv hdb hcd).run pins s σ H (fun v H1 => v = .ref f ∧ H1 = H) I ⟨.ref f, hs, rfl, rfl⟩) fun u s1 ⟨v, H1, I1, r1, q1⟩ => ?_)
  obtain ⟨rfl, rfl⟩ := q1
  cases r1
  refine PySem.W.callWith_K (h₀ := X.base) I.ok.mod.kin hk (thn (ha.run pos pins s1 σ _ _ I1 ht) fun us s2 ⟨vs, H2, I2, r, q⟩ => ⟨I2.kIn, ?_⟩) he hpl
  exact R pins σ H2 s2 Q us vs I2 r q
end
end SP
/-! sum of a list of own instances. -/
namespace SP
open PySem PySem.Spec PyProof.Rows L2
section
variable {X : Cx} {R1 : R2} {pins : List (Addr × Obj)} {σ : L2.St} {it l S : Addr} {xs : List V} {RR : Result → Shared → Prop} {Pv : Nat → V → Hp → Prop}
/-- the accumulator's list -/
abbrev accO (u : Value) (c : Nat) : Obj := { cls := .type "list", dict := none, data := .seq #[u] c, slots := #[] }
theorem sum_loopO (hc : X.calm = true) (hop : OpR (in1 X).nox (binaryOp .Add) R1) (hne : S ≠ it)
    (hx : ∀ i v H, i ≤ xs.length → Pv i v H → SqL X.K H l xs)
    (hstep : ∀ i v x H, xs[i]? = some x → Pv i v H → (∃ b, x = .ref b) ∧ R1 v x H fun r H' => (∃ c, r = .ref c) ∧ Pv (i + 1) r H')
    (hv : ∀ i v H, Pv i v H → (i = 0 ∧ v = .int 0) ∨ (0 < i ∧ ∃ c, v = .ref c))
    (hR : ∀ s' H' v u, Inv (in1 X) pins σ H' s' → RelV v u → Pv xs.length v H' → RR (.ok (.ret u)) s') :
    ∀ (k i : Nat) (s : Shared) (H : Hp) (v : V) (u : Value) (c : Nat) (stage : Int), xs.length - i = k → i ≤ xs.length → (i = 0 ∧ stage = 0 ∨ 0 < i ∧ stage = 2) → Inv (in1 X) pins σ H s → FpOk (in1 X) pins H it → FpOk (in1 X) pins H S →
      s.heap.IsListIter it l i → s.heap.get? S = some (accO u c) → RelV v u → Pv i v H → codeAny (model X.prog X.w) X.A (.builtin "sum.loop" ⟨[.ref it, .ref S, rawInt stage, rawInt 0], []⟩) RR s := by
  intro k
  induction k with
  | zero =>
    intro i s H v u c stage hk hi hst I fi fS hit hS hu hP
    have hin : i = xs.length := by omega
    subst hin
    refine codeAny_builtin F.entry_sum_loop ?_
    rw [Around.under_plainId F.plain_sum_loop _]
    show wpAny _ X.A.in1 (seqItems? (.ref S) >>= _) _ _ s
    refine wpAny_bind (wpAny_seqItems hS rfl ?_)
    show wpAny _ X.A.in1 (tryCatch (pyNext (.ref it)) _ >>= _) _ _ s
    obtain ⟨its, rv, p, hz⟩ := I.list (hx _ _ _ (Nat.le_refl _) hP)
    have hl := rv.length
    obtain ⟨f0, f1, f2, f3, f4, f5⟩ := id fi
    refine wpAny_bind (wpAny_tryCatch (wpAny_pyNext_list_end (I.ok.hd hc) hit p.isList (by simp; omega) fun h' eb => ?_))
    have I2 : Inv (in1 X) pins σ H { s with heap := h' } := I.turned (t' := s.toks) (fun b o hb e => eb b o hb e) f0 f1 f3 f4 f5
    rcases hv _ _ _ hP with ⟨_, rfl⟩ | ⟨_, b, rfl⟩
    · obtain ⟨t, rfl⟩ := (show ∃ t, u = Value.int 0 t from hu)
      exact wpAny_pure (hR _ H (.int 0) _ I2 ⟨t, rfl⟩ hP)
    · cases (show u = Value.ref b from hu)
      exact wpAny_pure (hR _ H (.ref b) _ I2 rfl hP)
  | succ k ih =>
    intro i s H v u c stage hk hi hst I fi fS hit hS hu hP
    have hlt : i < xs.length := by omega
    refine codeAny_builtin F.entry_sum_loop ?_
    rw [Around.under_plainId F.plain_sum_loop _]
    show wpAny _ X.A.in1 (seqItems? (.ref S) >>= _) _ _ s
    refine wpAny_bind (wpAny_seqItems hS rfl ?_)
    show wpAny _ X.A.in1 (tryCatch (pyNext (.ref it)) _ >>= _) _ _ s
    obtain ⟨its, rv, p, hz⟩ := I.list (hx _ _ _ hi hP)
    obtain ⟨x, hxi⟩ : ∃ x, xs[i]? = some x := ⟨_, List.getElem?_eq_getElem hlt⟩
    obtain ⟨⟨b, rfl⟩, hs⟩ := hstep i v x H hxi hP
    obtain ⟨ub, hub, ru⟩ := rv.get hxi
    cases (show ub = Value.ref b from ru)
    obtain ⟨f0, f1, f2, f3, f4, f5⟩ := id fi
    obtain ⟨g0, g1, g2, g3, g4, g5⟩ := id fS
    refine wpAny_bind (wpAny_tryCatch (wpAny_pyNext_list_item hit p.isList (x := Value.ref b) (by simpa using hub) fun h' st' sb => ?_))
    have I2 : Inv (in1 X) pins σ H { s with heap := h' } := I.turned (t' := s.toks) (fun b o hb e => (sb.2 b hb).trans e) f0 f1 f3 f4 f5
    have hS' : h'.get? S = some (accO u c) := (sb.2 S hne).trans hS
    obtain ⟨oi, ei, ci, di⟩ := id st'
    have I3 : Inv (in1 X) ((S, accO u c) :: (it, oi) :: pins) σ H { s with heap := h' } := I2.pins_of fun q hq => by
      rcases List.mem_cons.mp hq with e | hq
      · subst e
        exact ⟨hS', g0, g1, g2, fun v z => by cases z⟩
      · rcases List.mem_cons.mp hq with e | hq
        · subst e
          exact ⟨ei, f0, f1, f2, fun v z => by rw [di] at z; cases z⟩
        · exact I2.pin q (List.mem_append_right _ hq)
    -- the sum of both
    have one := hop _ { s with heap := h' } σ H v (.ref b) u (.ref b) _ (I3.wish _) hu rfl hs
    have step : ∀ (r : Value) (s' : Shared) (H' : Hp) (r' : V) (e : Addr), Inv (in1 X) ((S, accO u c) :: (it, oi) :: pins) σ H' s' → r' = .ref e → RelV r' r → Pv (i + 1) r' H' →
        wpAny (model X.prog X.w) X.A.in1 (updateSeq S (fun _ => #[r]) >>= fun _ => letGo [u, Value.ref b] >>= fun _ => updateSeq S (fun _ => #[r]) >>= fun _ => again (.builtin "sum.loop" ⟨[.ref it, .ref S, rawInt 2, rawInt 0], []⟩))
          (fun fin s' => match fin with | .done f => RR (.ok f) s' | .again c' => c'.quiet = true ∧ codeAny (model X.prog X.w) X.A c' RR s') (fun e s' => RR (.error e) s') s' := by
      intro r s' H' r' e I4 er rr hP'
      subst er
      have hS4 : s'.heap.get? S = some (accO u c) := ClX.pin_at I4
      have n0 : H' S = none := ClX.pin_un I4
      have I5 := ClX.unpin I4
      have e4 : s'.heap.get? it = some oi := ClX.pin_at I5
      have m0 : H' it = none := ClX.pin_un I5
      have I6 := ClX.unpin I5
      refine wpAny_bind (wpAny_updateSeq hS4 rfl ?_)
      have hS5 := Heap.get?_update_self (Obj.mapSeq fun _ => #[r]) hS4 rfl
      refine wpAny_bind (wpAny_letGo ?_)
      refine wpAny_bind (wpAny_updateSeq hS5 rfl (wpAny_pure ⟨plainId_quiet F.plain_sum_loop _, ?_⟩))
      have hS6 := Heap.get?_update_self (Obj.mapSeq fun _ => #[r]) hS5 rfl
      have oth : ∀ b o, b ≠ S → s'.heap.get? b = some o → ((s'.heap.update S (Obj.mapSeq fun _ => #[r])).update S (Obj.mapSeq fun _ => #[r])).get? b = some o := fun b o hb eb =>
        (Heap.get?_update_other _ _ (Ne.symm hb)).trans ((Heap.get?_update_other _ _ (Ne.symm hb)).trans eb)
      have I7 : Inv (in1 X) pins σ H' { s' with heap := (s'.heap.update S (Obj.mapSeq fun _ => #[r])).update S (Obj.mapSeq fun _ => #[r]) } := I6.turned (t' := s'.toks) (fun b o hb e => oth b o hb e) n0 g1 g3 g4 g5
      exact ih (i + 1) _ H' (.ref e) r c 2 (by omega) hlt (.inr ⟨by omega, rfl⟩) I7 ⟨m0, f1, f2, f3, f4, f5⟩ ⟨n0, g1, g2, g3, g4, g5⟩ ⟨oi, oth _ _ (Ne.symm hne) e4, ci, di⟩ hS6 rr hP'
    rcases hv _ _ _ hP with ⟨rfl, rfl⟩ | ⟨hi0, d, rfl⟩
    · obtain ⟨t, rfl⟩ := (show ∃ t, u = Value.int 0 t from hu)
      have hst0 : stage = 0 := by omega
      subst hst0
      show wpAny _ X.A.in1 (rule "sum.leaves-ints" >>= fun _ => (holding [Value.ref b] (binaryOp .Add (.int 0 t) (.ref b))).attempt >>= _) _ _ _
      refine wpAny_bind (wpAny_rule ?_)
      refine wpAny_bind (wpAny_attempt (wpAny_holding (wpAny_mono one (fun r s' z => ?_) fun _ _ z => z.elim)))
      obtain ⟨r', H', I4, rr, ⟨e, er⟩, hP'⟩ := z
      have st := step r s' H' r' e I4.unwish er rr hP'
      subst er
      cases (show r = Value.ref e from rr)
      exact st
    · cases (show u = Value.ref d from hu)
      have hst2 : stage = 2 := by omega
      subst hst2
      show wpAny _ X.A.in1 ((holding [Value.ref b] (binaryOp .Add (.ref d) (.ref b))).attempt >>= _) _ _ _
      refine wpAny_bind (wpAny_attempt (wpAny_holding (wpAny_mono one (fun r s' z => ?_) fun _ _ z => z.elim)))
      obtain ⟨r', H', I4, rr, ⟨e, er⟩, hP'⟩ := z
      exact step r s' H' r' e I4.unwish er rr hP'
def rSumO (K : PySem.W.Frag) (R1 : R2) : List V → Hp → VK → Prop := fun vs H Q => ∃ (l : Addr) (xs : List V) (Pv : Nat → V → Hp → Prop), vs = [.ref l] ∧ SqL K H l xs ∧ (∀ i v H, i ≤ xs.length → Pv i v H → SqL K H l xs) ∧
  (∀ i v x H, xs[i]? = some x → Pv i v H → (∃ b, x = .ref b) ∧ R1 v x H fun r H' => (∃ c, r = .ref c) ∧ Pv (i + 1) r H') ∧ (∀ i v H, Pv i v H → (i = 0 ∧ v = .int 0) ∨ (0 < i ∧ ∃ c, v = .ref c)) ∧ Pv 0 (.int 0) H ∧ ∀ v H', Pv xs.length v H' → Q v H'
theorem call_sumO (hc : X.calm = true) (hop : OpR (in1 X).nox (binaryOp .Add) R1) : CallR X (.builtin "sum") (rSumO X.K R1) := by
  intro pins s σ H vs us Q I r h
  obtain ⟨l, xs, Pv, rfl, hq, hx, hstep, hv, h0, hQ⟩ := h
  obtain ⟨its, rv, p, hz⟩ := I.list hq
  rw [Vals.ref1 r]
  refine call_function_tree F.kind_sum F.plain_sum F.entry_sum (F.args_sum1 _) ?_
  unfold Builtin.«sum»
  simp only [List.length_cons, List.length_nil]
  rw [if_neg (by decide)]
  refine wpAny_bind (wpAny_of_eq (show Builtin.Builtins.bindParams "sum" ["start"] 0 { } = pure [none] from rfl) ?_)
  refine wpAny_bind (wpAny_pyIter_list p.isList ?_)
  refine wpAny_bind (wpAny_mkInt ?_)
  refine wpAny_bind (wpAny_pure ?_)
  simp only [List.forIn_cons, List.forIn_nil]
  refine wpAny_bind (wpAny_bind (wpAny_bind (wpAny_isInstance (T := "int") (b := false) (typeIs_int _ _ _) PySem.sub_int_str ?_)))
  simp only [Bool.false_eq_true, if_false]
  refine wpAny_pure (wpAny_bind (wpAny_bind (wpAny_isInstance (T := "int") (b := false) (typeIs_int _ _ _) PySem.sub_int_bytes ?_)))
  simp only [Bool.false_eq_true, if_false]
  refine wpAny_pure (wpAny_bind (wpAny_bind (wpAny_isInstance (T := "int") (b := false) (typeIs_int _ _ _) PySem.sub_int_bytearray ?_)))
  simp only [Bool.false_eq_true, if_false]
  refine wpAny_pure (wpAny_pure ?_)
  refine wpAny_bind (wpAny_newObj_type ?_)
  have I1 : Inv X pins σ H { s with heap := s.heap.push { cls := .type "list_iterator", data := .fields #[.ref l, .int 0 0] } } := I.kept (t' := s.toks) fun b o e => Heap.get?_push_of_some _ e
  have I2 : Inv X pins σ H { s with heap := (s.heap.push { cls := .type "list_iterator", data := .fields #[.ref l, .int 0 0] }).push { cls := .type "list", data := .seq #[.int 0 s.toks] }, toks := s.toks + 1 } := I.kept (t' := s.toks + 1) fun b o e => Heap.get?_push_of_some _ (Heap.get?_push_of_some _ e)
  have sz : (s.heap.push { cls := .type "list_iterator", data := .fields #[.ref l, .int 0 0] }).objs.size = s.heap.objs.size + 1 := Array.size_push _
  refine wpAny_pure ⟨plainId_quiet F.plain_sum_loop _, ?_⟩
  refine sum_loopO (pins := pins) (σ := σ) (l := l) (xs := xs) (Pv := Pv) hc hop ?_ hx hstep hv (fun s' H' v u I' r' hp => ⟨v, H', inv_out1 I', r', hQ v H' hp⟩) xs.length 0 _ H (.int 0) (.int 0 s.toks) 0 0 rfl (Nat.zero_le _) (.inl ⟨rfl, rfl⟩) (inv_in1 I2) ?_ ?_ ?_ ?_ ⟨_, rfl⟩ h0
  · show (s.heap.push _).objs.size ≠ s.heap.objs.size
    rw [sz]
    omega
  · exact I.fpOk (Nat.le_refl _) (I.hok.fresh (Nat.le_refl _))
  · refine I.fpOk ?_ (I.hok.fresh ?_)
    · show s.heap.objs.size ≤ (s.heap.push _).objs.size
      rw [sz]
      omega
    · show s.heap.objs.size ≤ (s.heap.push _).objs.size
      rw [sz]
      omega
  · exact ⟨_, Heap.get?_push_of_some _ (Heap.get?_push_size _ rfl), rfl, rfl⟩
  · exact Heap.get?_push_size _ rfl
end
end SP
/-! Lengths of texts; the repr of lists of ints, bools and texts. -/
namespace SP
open PySem PySem.Spec PyProof.Rows L2
/-- all signs are signs -/
def Asc (x : Str) : Prop := ∀ c ∈ x.cps.toList, c < 16 ^ 8
theorem asc_of (s : String) : Asc (PySem.Str.ofString s) := by
  intro c hc
  rw [PySem.Str.ofString_eq_toList] at hc
  simp only [List.mem_map] at hc
  obtain ⟨a, _, rfl⟩ := hc
  have := a.val.toNat_lt
  show a.val.toNat < 16 ^ 8
  omega
theorem asc_app {x y : Str} (hx : Asc x) (hy : Asc y) : Asc (x ++ y) := by
  intro c hc
  have : c ∈ x.cps.toList ++ y.cps.toList := by
    rw [← Array.toList_append]
    exact hc
  exact (List.mem_append.mp this).elim (hx c) (hy c)
theorem asc_empty : Asc Str.empty := fun c hc => by simp [Str.empty] at hc
theorem empty_app (x : Str) : Str.empty ++ x = x := by
  cases x with
  | mk cps => exact congrArg Str.mk (by simp [Str.empty])
theorem repr_len {x : Str} {n : Nat} (h : Asc x) (l : x.length ≤ n) : (reprText x).length ≤ 10 * n + 2 := Nat.le_trans (PySem.StrLaws.reprText_len x h) (by omega)
theorem textFrom_le : ∀ (ts : List Str) (k : Nat) (acc : Str), (textFrom k acc ts).length ≤ acc.length + (ts.map fun t => t.length + 2).sum
  | [], k, acc => Nat.le_refl _
  | t :: r, k, acc => by
    have ih := textFrom_le r (k + 1) (acc ++ (if k > 0 then ", " else "" : String) ++ t)
    have e : (acc ++ (if k > 0 then ", " else "" : String) ++ t).length = acc.length + (if k > 0 then 2 else 0) + t.length := by
      rw [strLen_append, strLen_append]
      split <;> rfl
    rw [e] at ih
    show (textFrom (k + 1) _ r).length ≤ acc.length + (t.length + 2 + (r.map fun t => t.length + 2).sum)
    have : (if k > 0 then 2 else 0) ≤ 2 := by split <;> omega
    omega
theorem listText_le (ts : List Str) : (listText ts).length ≤ 2 + (ts.map fun t => t.length + 2).sum := by
  have := textFrom_le ts 0 ("[" : Str)
  have e : (listText ts).length = (textFrom 0 ("[" : Str) ts).length + 1 := by
    show (textFrom 0 ("[" : Str) ts ++ ("]" : Str)).length = _
    rw [PySem.Str.length_append]
    rfl
  have e2 : ("[" : Str).length = 1 := rfl
  omega
theorem small_shown {ds : List PyData} {n : Nat} (h : ∀ d ∈ ds, d.shown.length ≤ n) (hn : ds.length * (n + 2) + 2 ≤ sizeLine) : (PyData.list ds).shown.length ≤ sizeLine := by
  have e : (PyData.list ds).shown = listText (PyData.shownAll ds) := by simp only [PyData.shown]
  rw [e]
  refine Nat.le_trans (listText_le _) ?_
  have key : ∀ ds : List PyData, (∀ d ∈ ds, d.shown.length ≤ n) → ((PyData.shownAll ds).map fun t => t.length + 2).sum ≤ ds.length * (n + 2) := by
    intro ds
    induction ds with
    | nil => intro _; simp [PyData.shownAll]
    | cons d r ih =>
      intro h
      have h1 := h d List.mem_cons_self
      have h2 := ih fun x hx => h x (List.mem_cons_of_mem _ hx)
      simp only [PyData.shownAll, List.map_cons, List.sum_cons, List.length_cons]
      rw [Nat.succ_mul]
      omega
  have := key ds h
  omega
theorem shown_int {i : Int} (h : i.natAbs.log2 < 1920) : (PyData.int i).shown.length ≤ 1921 := by
  simp only [PyData.shown]
  exact len1921 h
theorem shown_bool {b : Bool} : (PyData.bool b).shown.length ≤ 5 := by
  cases b <;> (simp only [PyData.shown]; decide +kernel)
theorem shown_str {x : Str} {n : Nat} (h : Asc x) (l : x.length ≤ n) : (PyData.str x).shown.length ≤ 10 * n + 2 := by
  simp only [PyData.shown]
  exact repr_len h l
end SP
namespace SP
open PySem PySem.Spec PyProof.Rows L2
/-- the text by places -/
def top (i : Nat) : Stmt := PySem.Challenge.pw_surepipes_k11_whole_amounts_reckoned.main.body.getD i (.Pass ⟨0, 0, 0, 0⟩)
end SP
namespace SP
open PySem PySem.Spec PyProof.Rows L2
abbrev sIsInt : Stmt := top 8
abbrev sCD : Stmt := top 9
abbrev sPl : Stmt := top 10
abbrev sMEq : Stmt := inClass (top 13) 16
abbrev sMLt : Stmt := inClass (top 13) 17
abbrev sMLe : Stmt := inClass (top 13) 18
abbrev sMGt : Stmt := inClass (top 13) 19
abbrev sMGe : Stmt := inClass (top 13) 20
abbrev sMStr : Stmt := inClass (top 13) 21
abbrev sMRepr : Stmt := inClass (top 13) 22
abbrev sMTop : Stmt := inClass (top 13) 3
abbrev sInit : Stmt := inClass (top 13) 0


/-- a method as the top has written it -/
structure MethT (K : PySem.W.Frag) (C : Addr) (x qual : Str) (st : Stmt) (ps : List Str) : Prop where
  ex : ∃ (f : Addr) (fd : FuncData), PySem.W.findIn K (.ref C) x = some (some (.ref f)) ∧ PySem.W.isFn K (.ref f) = true ∧ Fun K x qual st f fd ∧ Binds K fd ps []
/-- a property -/
structure PropT (K : PySem.W.Frag) (C : Addr) (x qual : Str) (st : Stmt) : Prop where
  ex : ∃ (p g : Addr) (fd : FuncData), PropOf K C x p g ∧ Fun K x qual st g fd ∧ Binds K fd ["self"] []
/-- what isinstance(y, Amount) asks of the kinds that are not the class's -/
structure NotAm (K : PySem.W.Frag) (C : Addr) : Prop where
  i : PySem.W.kitOne K (.type "int") (.ref C) = some false
  b : PySem.W.kitOne K (.type "bool") (.ref C) = some false
  s : PySem.W.kitOne K (.type "str") (.ref C) = some false
  n : PySem.W.kitOne K (.type "NoneType") (.ref C) = some false
  t : PySem.W.kitOne K (.type "tuple") (.ref C) = some false
  l : PySem.W.kitOne K (.type "list") (.ref C) = some false
/-- what the top has written of the amounts' part -/
structure AmTxt (K : PySem.W.Frag) (mg : Str → Option Value) (C : Addr) : Prop where
  b_isinstance : mg "isinstance" = none
  b_int : mg "int" = none
  b_bool : mg "bool" = none
  b_abs : mg "abs" = none
  tII : Top K mg "is_integer" sIsInt ["value"]
  tCD : Top K mg "common_divisor" sCD ["one", "other"]
  tPl : Top K mg "place_of" sPl ["top", "bottom"]
  gC : mg "Amount" = some (.ref C)
  cl : Cls K C
  ca : PySem.W.findIn K (.ref C) "__class__" = some (some (.builtin "object.__class__"))
  cn : PySem.W.specialIn K (.builtin "object.__class__") "__get__" = some (some (.builtin "getset_descriptor.__get__"))
  ck : PySem.W.takesIn K (.builtin "object.__class__") = some true
  cm : PySem.W.mroIn K C (.type "object") = some true
  ne : PySem.W.findIn K (.ref C) "__ne__" = some (some (.builtin "object.__ne__"))
  fg : FgnOk K C
  na : NotAm K C
  nT : NoAttr K C "own_top"
  nB : NoAttr K C "own_bottom"
  nP : NoAttr K C "own_place"
  mkC : ∃ (fI : Addr) (fd : FuncData), Mk K C fI ∧ FunD K "__init__" "Amount.__init__" (defArgs sInit) (defBody sInit) (defScope sInit) [.int 1] [] fI fd
section
variable {P : Program} {w : World} {K : PySem.W.Frag} {mg : Str → Option Value} {base : Heap} {C : Addr}
/-! ### is_integer -/
/-- of any value whose kind is told -/
def spII (K : PySem.W.Frag) : Sp := fun vs H Q _ => ∃ (v : V) (t : Value) (b1 b2 : Bool), vs = [v] ∧ TyX K H v t ∧ PySem.W.kitOne K t (.type "int") = some b1 ∧ PySem.W.kitOne K t (.type "bool") = some b2 ∧ Q (.bl (b1 && !b2)) H
theorem scII : FnScope ["value"] ["value"] (defScope sIsInt) := ⟨rfl, rfl, rfl, by decide +kernel, rfl, by decide +kernel, by decide +kernel⟩
theorem d_ii (T : AmTxt K mg C) : DefO P w K mg base 1 "is_integer" ["value"] (spII K) := by
  refine T.tII.okO scII (fun vs H Q E h => ?_) (fun f cdv A out s H vs Q E hr h => ?_)
  · obtain ⟨v, t, b1, b2, rfl, _⟩ := h
    rfl
  · obtain ⟨v, t, b1, b2, rfl, ty, k1, k2, q⟩ := h
    refine ⟨_, (pss_one (ps_ret (pe_and (pe_callB call_isi (by rfl) T.b_isinstance (by decide +kernel) (pa_cons (pv 0) (pa_cons (pe_bltn (v := .ty "int") (by rfl) T.b_int (by decide +kernel) rfl) pa_nil))) (pe_one (pe_not (pe_callB call_isi (by rfl) T.b_isinstance (by decide +kernel) (pa_cons (pv 0) (pa_cons (pe_bltn (v := .ty "bool") (by rfl) T.b_bool (by decide +kernel) rfl) pa_nil)))))))), ?_⟩
    refine ⟨_, rfl, v, .ty "int", t, _, b1, rfl, .ty _, ty, k1, b1, rfl, ?_⟩
    cases b1 with
    | true => exact iteT ⟨_, rfl, v, .ty "bool", t, _, b2, rfl, .ty _, ty, k2, b2, rfl, q⟩
    | false => exact iteF q
/-! ### common_divisor -/
def spCD : Sp := fun vs H Q _ => ∃ a b : Int, vs = [.int a, .int b] ∧ Q (.int (Int.gcd a b : Nat)) H
theorem scCD : FnScope ["one", "other"] ["one", "other"] (defScope sCD) := ⟨rfl, rfl, rfl, by decide +kernel, rfl, by decide +kernel, by decide +kernel⟩
theorem abs_if (a : Int) : (if a < 0 then -a else a) = (a.natAbs : Int) := by split <;> omega
theorem d_cd (T : AmTxt K mg C) : DefO P w K mg base 1 "common_divisor" ["one", "other"] spCD := by
  refine T.tCD.okO scCD (fun vs H Q E h => ?_) (fun f cdv A out s H vs Q E hr h => ?_)
  · obtain ⟨a, b, rfl, _⟩ := h
    rfl
  · obtain ⟨a, b, rfl, q⟩ := h
    refine ⟨_, (pss_cons (ps_par (i := 0) (j := 1) (by rfl) scCD.nd rfl rfl (by decide) rfl rfl (pa_cons (pe_callB call_abs (by rfl) T.b_abs (by decide +kernel) (pa_cons (pv 0) pa_nil)) (pa_cons (pe_callB call_abs (by rfl) T.b_abs (by decide +kernel) (pa_cons (pv 1) pa_nil)) pa_nil)) (by rfl))
  (pss_cons (ps_while PassesOwn.never (pt_cmpR op_ne (pv 1) pe_int (nomark _)) (pss_one (ps_par (i := 0) (j := 1) (by rfl) scCD.nd rfl rfl (by decide) rfl rfl (pa_cons (pv 1) (pa_cons (pe_op op_mod (pv 0) (pv 1)) pa_nil)) (by rfl))))
  (pss_one (ps_ret (pv 0))))), ?_⟩
    refine ⟨_, rfl, a, rfl, _, rfl, b, rfl, _, _, rfl, ?_⟩
    refine ⟨fun m σ H' => H' = H ∧ ∃ x : Nat, σ = [some (.int x), some (.int m)] ∧ M.eu x m = Int.gcd a b, ⟨b.natAbs, rfl, a.natAbs, ?_, ?_⟩, ?_⟩
    · rw [abs_if, abs_if] <;> rfl
    · rw [M.eu_gcd] <;> rfl
    · rintro m σ H' ⟨rfl, x, rfl, e⟩
      refine ⟨_, rfl, rfl, _, rfl, ?_⟩
      by_cases hm : m = 0
      · subst hm
        refine iteNS rfl ?_
        refine ⟨_, rfl, ?_⟩
        rw [M.eu_zero] at e
        show Q (.int (x : Int)) H'
        rw [e]
        exact q
      · have hd : decide (V.int (m : Int) = V.int 0) = false := decide_eq_false (fun z => hm (by injection z; omega))
        show (if (!decide (V.int (m : Int) = V.int 0)) = true then _ else _)
        rw [hd]
        refine iteT ⟨fun σ1 H1 => H1 = H' ∧ σ1 = [some (.int (m : Int)), some (.int ((x % m : Nat) : Int))], ?_, ?_⟩
        · rintro σ1 H1 ⟨rfl, rfl⟩
          exact ⟨x % m, Nat.mod_lt _ (Nat.pos_of_ne_zero hm), rfl, m, rfl, by rw [← M.eu_step hm]; exact e⟩
        · exact ⟨_, rfl, _, rfl, _, rfl, _, _, rfl, rfl, (by show (0 : Int) < (m : Int); omega), _, _, rfl, rfl, rfl⟩
/-! ### place_of -/
def spPl : Sp := fun vs H Q _ => ∃ t b : Int, vs = [.int t, .int b] ∧ 0 < b ∧ b.natAbs < 2 ^ 8000 ∧ ∀ p H', Same H H' → H p = none → H' p = some (.tup ((M.plc 1 t b.toNat).map V.int)) → Q (.ref p) H'
theorem scPl : FnScope ["top", "bottom", "found", "sign"] ["top", "bottom"] (defScope sPl) := ⟨rfl, rfl, rfl, by decide +kernel, rfl, by decide +kernel, by decide +kernel⟩
/-- what the loop of place_of has found ahead of what is left -/
def PlI (H : Hp) (t0 : Int) (b0 : Nat) (m : Nat) (σ : L2.St) (H' : Hp) : Prop := Same H H' ∧ ∃ (t s : Int) (p : Addr) (xs : List Int), σ = [some (.int t), some (.int (m : Int)), some (.ref p), some (.int s)] ∧ (s = 1 ∨ s = -1) ∧ H p = none ∧ H' p = some (.tup (xs.map V.int)) ∧
  xs ++ M.plc s t m = M.plc 1 t0 b0 ∧ m ≤ b0 ∧ ∃ j : Nat, xs.length = 2 * j ∧ j ≤ 16001 ∧ (j = 0 ∨ ∃ t' : Nat, t = t' ∧ m < t' ∧ t' * m * 2 ^ (j - 1) < 2 ^ 16000)
theorem d_pl (T : AmTxt K mg C) : DefO P w K mg base 1 "place_of" ["top", "bottom"] spPl := by
  refine T.tPl.okO scPl (fun vs H Q E h => ?_) (fun f cdv A out s H vs Q E hr h => ?_)
  · obtain ⟨t, b, rfl, _⟩ := h
    rfl
  · obtain ⟨t, bi, rfl, hbi, hw, q⟩ := h
    obtain ⟨b, rfl⟩ : ∃ b : Nat, bi = (b : Int) := ⟨bi.toNat, by omega⟩
    have hb : 0 < b := by omega
    have hw : b < 2 ^ 8000 := hw
    have q : ∀ p H', Same H H' → H p = none → H' p = some (.tup ((M.plc 1 t b).map V.int)) → Q (.ref p) H' := q
    refine ⟨_, (pss_cons (ps_asg (pe_tup (pa_cons (pe_tup pa_nil) (pa_cons pe_int pa_nil))) (pg_tup (by rfl) (pgs_cons (pg_name (i := 2) scPl.nd rfl (Or.inl rfl)) (pgs_cons (pg_name (i := 3) scPl.nd rfl (Or.inl rfl)) pgs_nil))))
  (pss_cons (ps_while PassesOwn.never (pt_cmpR op_ne (pv 1) pe_int (nomark _)) (pss_cons (ps_set (i := 2) scPl.nd rfl (Or.inl rfl) (pe_op op_catA (pv 2) (pe_tup (pa_cons pe_int (pa_cons (pe_op op_mul (pv 3) (pe_op op_fdivW (pv 0) (pv 1))) pa_nil)))))
  (pss_one (ps_par3 (i := 0) (j := 1) (l := 3) (by rfl) scPl.nd rfl rfl rfl (by decide) (by decide) (by decide) rfl rfl rfl (pa_cons (pv 1) (pa_cons (pe_op op_mod (pv 0) (pv 1)) (pa_cons (pe_un un_neg (pv 3)) pa_nil))) (by rfl)))))
  (pss_one (ps_ret (pe_op op_catA (pv 2) (pe_tup (pa_cons (pv 3) pa_nil))))))), ?_⟩
    refine ⟨by show 0 ≤ sizeLine; decide, fun p hp => ⟨by show 2 ≤ sizeLine; decide, fun z hz => ⟨z, _, rfl, SqT.of upd_same, rfl, _, _, rfl, _, _, rfl, rfl, ?_⟩⟩⟩
    have pz : p ≠ z := ne_of_none upd_same hz
    refine ⟨fun m σ H' => PlI H t b m σ H', ⟨b, (Same.new hp).trans (Same.new hz), t, 1, p, [], rfl, .inl rfl, hp, by rw [upd_ne pz]; exact upd_same, rfl, Nat.le_refl _, 0, rfl, by decide, .inl rfl⟩, ?_⟩
    rintro m σ H' ⟨sm, t1, s1, p1, xs, rfl, hs, hn, hx, ee, hm1, j, hl, hj, hjt⟩
    refine ⟨_, rfl, rfl, _, rfl, ?_⟩
    by_cases hm : m = 0
    · subst hm
      refine iteNS rfl ?_
      rw [M.plc_zero] at ee
      refine ⟨_, rfl, _, rfl, by show 1 ≤ sizeLine; decide, fun u hu => ?_⟩
      have pu : p1 ≠ u := ne_of_none hx hu
      have sm2 : Same H' (upd H' u (.tup [.int s1])) := Same.new hu
      have fin : ((xs ++ [s1]).map V.int) = xs.map V.int ++ [V.int s1] := by simp
      refine ⟨p1, u, xs.map V.int, [.int s1], rfl, rfl, SqT.of (sm2 _ _ hx), SqT.of upd_same, ?_, fun e0 => ?_, fun _ e1 => ?_, fun _ _ v hv => ?_⟩
      · rw [List.length_map]
        show xs.length + 1 ≤ sizeLine
        exact Nat.le_trans (by omega : xs.length + 1 ≤ 40000) (by decide)
      · have x0 : xs = [] := List.map_eq_nil_iff.mp e0
        subst x0
        refine q u _ (sm.trans sm2) (sm.free hu) ?_
        rw [← ee]
        exact upd_same
      · cases e1
      · refine q v _ ((sm.trans sm2).trans (Same.new hv)) ((sm.trans sm2).free hv) ?_
        rw [← ee, fin]
        exact upd_same
    · have hd : decide (V.int (m : Int) = V.int 0) = false := decide_eq_false (fun z => hm (by injection z; omega))
      show (if (!decide (V.int (m : Int) = V.int 0)) = true then _ else _)
      rw [hd]
      have hmp : (0 : Int) < (m : Int) := by omega
      refine iteT ⟨fun σ1 H1 => PlI H t b (t1 % (m : Int)).toNat σ1 H1, ?_, ?_⟩
      · rintro σ1 H1 ⟨h1, t2, s2, p2, ys, rfl, rest⟩
        refine ⟨_, ?_, h1, t2, s2, p2, ys, rfl, rest⟩
        have := Int.emod_lt_of_pos t1 hmp
        have := Int.emod_nonneg t1 (show (m : Int) ≠ 0 by omega)
        omega
      · refine ⟨_, rfl, _, rfl, _, rfl, _, rfl, _, _, rfl, rfl, wide_div hmp (b := 8000) ?_ (by decide) (by decide), _, _, rfl, rfl, ?_, by show 2 ≤ sizeLine; decide, fun u hu => ?_⟩
        · have : (m : Int).natAbs = m := rfl
          rw [this]
          omega
        · refine .inl ?_
          rcases hs with rfl | rfl <;> exact ⟨by decide, by decide⟩
        · have pu : p1 ≠ u := ne_of_none hx hu
          have r0 := Int.emod_nonneg t1 (show (m : Int) ≠ 0 by omega)
          have r1 := Int.emod_lt_of_pos t1 hmp
          have rc : ((t1 % (m : Int)).toNat : Int) = t1 % m := Int.toNat_of_nonneg r0
          have cut : ∀ (v : Addr) (H2 : Hp), Same H H2 → H v = none → H2 v = some (.tup ((xs ++ [0, s1 * (t1 / m)]).map V.int)) → PlI H t b (t1 % (m : Int)).toNat [some (.int (m : Int)), some (.int (t1 % m)), some (.ref v), some (.int (-s1))] H2 := by
            intro v H2 k1 k2 k3
            refine ⟨k1, m, -s1, v, xs ++ [0, s1 * (t1 / m)], by rw [rc], by rcases hs with h | h <;> rw [h] <;> decide, k2, k3, ?_, by omega, j + 1, by rw [List.length_append, hl] <;> rfl, ?_, ?_⟩
            · rw [← ee, M.plc_step hm, List.append_assoc]
              rfl
            · rcases hjt with rfl | ⟨t', rfl, h1, h2⟩
              · decide
              · by_cases h0 : j = 0
                · omega
                · have := (M.step_bound (by omega) h1 (by omega) h2).2
                  omega
            · refine .inr ⟨m, rfl, by omega, ?_⟩
              rcases hjt with rfl | ⟨t', rfl, h1, h2⟩
              · show m * (t1 % (m : Int)).toNat * 2 ^ 0 < 2 ^ 16000
                have a1 : (t1 % (m : Int)).toNat < m := by omega
                have a2 : m * (t1 % (m : Int)).toNat ≤ m * m := Nat.mul_le_mul_left _ (Nat.le_of_lt a1)
                have a3 : m < 2 ^ 8000 := by omega
                have a4 : m * m < 2 ^ 8000 * 2 ^ 8000 := Nat.mul_lt_mul'' a3 a3
                have a5 : (2 : Nat) ^ 8000 * 2 ^ 8000 = 2 ^ 16000 := by rw [← Nat.pow_add]
                omega
              · by_cases h0 : j = 0
                · subst h0
                  have a1 : ((t' : Int) % (m : Int)).toNat < m := by omega
                  have a2 : m * ((t' : Int) % (m : Int)).toNat ≤ m * m := Nat.mul_le_mul_left _ (Nat.le_of_lt a1)
                  have a3 : m < 2 ^ 8000 := by omega
                  have a4 : m * m < 2 ^ 8000 * 2 ^ 8000 := Nat.mul_lt_mul'' a3 a3
                  have a5 : (2 : Nat) ^ 8000 * 2 ^ 8000 = 2 ^ 16000 := by rw [← Nat.pow_add]
                  show m * ((t' : Int) % (m : Int)).toNat * 2 ^ 0 < 2 ^ 16000
                  omega
                · have := (M.step_bound (by omega) h1 (by omega) h2).1
                  have e : ((t' : Int) % (m : Int)).toNat = t' % m := rfl
                  rw [e]
                  exact this
          have lx : (xs.map V.int).length + 2 ≤ sizeLine := by
            rw [List.length_map]
            exact Nat.le_trans (by omega : xs.length + 2 ≤ 40000) (by decide)
          have ap : (xs ++ [0, s1 * (t1 / m)]).map V.int = xs.map V.int ++ [.int 0, .int (s1 * (t1 / m))] := by simp
          have sm2 : Same H' (upd H' u (.tup [.int 0, .int (s1 * (t1 / m))])) := Same.new hu
          refine ⟨p1, u, xs.map V.int, [.int 0, .int (s1 * (t1 / m))], rfl, rfl, SqT.of (sm2 _ _ hx), SqT.of upd_same, lx, fun e0 => ?_, fun _ e1 => ?_, fun _ _ v hv => ?_⟩
          · have x0 : xs = [] := List.map_eq_nil_iff.mp e0
            subst x0
            refine ⟨_, rfl, _, rfl, _, rfl, _, _, rfl, rfl, hmp, _, rfl, s1, rfl, _, _, _, rfl, cut u _ (sm.trans sm2) (sm.free hu) upd_same⟩
          · cases e1
          · refine ⟨_, rfl, _, rfl, _, rfl, _, _, rfl, rfl, hmp, _, rfl, s1, rfl, _, _, _, rfl, cut v _ ((sm.trans sm2).trans (Same.new hv)) ((sm.trans sm2).free hv) ?_⟩
            rw [ap]
            exact upd_same
/-! ### Amount(top, bottom) -/
/-- what __init__ stores: in lowest terms, the bottom above 0 -/
structure Low (top bottom t b : Int) : Prop where
  pos : 0 < b
  one : Int.gcd t b = 1
  eq : t * bottom = top * b
  lt : t.natAbs ≤ top.natAbs
  lb : b.natAbs ≤ bottom.natAbs
def spInit (C : Addr) : Sp := fun vs H Q _ => ∃ (x dx : Addr) (tp bt : Int), vs = [.ref x, .int tp, .int bt] ∧ H x = some (.ins C dx []) ∧ bt ≠ 0 ∧ tp.natAbs < 2 ^ 8000 ∧ bt.natAbs < 2 ^ 8000 ∧
  ∀ (t b : Int) (H' : Hp), Low tp bt t b → AmAt C H' x t b → (∀ c o, H c = some o → c ≠ x → H' c = some o) → Q .non H'
theorem scIn : FnScope ["self", "top", "bottom", "divisor"] ["self", "top", "bottom"] (defScope sInit) := ⟨rfl, rfl, rfl, by decide +kernel, rfl, by decide +kernel, by decide +kernel⟩
theorem low_of {tp bt d s : Int} (hb : bt ≠ 0) (hs : (s = 1 ∧ 0 < bt) ∨ (s = -1 ∧ bt < 0)) (hd : d = (Int.gcd tp bt : Nat) * s) : d ≠ 0 ∧ d.natAbs ≤ bt.natAbs ∧ Low tp bt (tp.fdiv d) (bt.fdiv d) := by
  have g0 : 0 < Int.gcd tp bt := Int.gcd_pos_of_ne_zero_right _ hb
  obtain ⟨u, hu⟩ := Int.gcd_dvd_left (a := tp) (b := bt)
  obtain ⟨v, hv⟩ := Int.gcd_dvd_right (a := tp) (b := bt)
  generalize hg : Int.gcd tp bt = g at *
  have gp : (0 : Int) < g := by omega
  have dn : d ≠ 0 := by
    rcases hs with ⟨rfl, _⟩ | ⟨rfl, _⟩ <;> omega
  have e1 : tp.fdiv d = s * u := by
    have : tp = d * (s * u) := by
      rw [hu, hd]
      rcases hs with ⟨rfl, _⟩ | ⟨rfl, _⟩
      · simp
      · simp [Int.neg_mul, Int.mul_neg]
    rw [this]
    exact Int.mul_fdiv_cancel_left _ dn
  have e2 : bt.fdiv d = s * v := by
    have : bt = d * (s * v) := by
      rw [hv, hd]
      rcases hs with ⟨rfl, _⟩ | ⟨rfl, _⟩
      · simp
      · simp [Int.neg_mul, Int.mul_neg]
    rw [this]
    exact Int.mul_fdiv_cancel_left _ dn
  have dabs : d.natAbs = g := by
    rcases hs with ⟨rfl, _⟩ | ⟨rfl, _⟩ <;> omega
  have vn : v ≠ 0 := by
    intro e
    rw [e] at hv
    simp at hv
    exact hb hv
  have va : 1 ≤ v.natAbs := by omega
  have btn : bt.natAbs = g * v.natAbs := by
    rw [hv, Int.natAbs_mul]
    rfl
  have tpn : tp.natAbs = g * u.natAbs := by
    rw [hu, Int.natAbs_mul]
    rfl
  have sabs : ∀ z : Int, (s * z).natAbs = z.natAbs := by
    intro z
    rcases hs with ⟨rfl, _⟩ | ⟨rfl, _⟩ <;> simp
  have gg : g * Int.gcd u v = g := by
    have q := Int.gcd_mul_left (g : Int) u v
    rw [← hu, ← hv, hg] at q
    have : (g : Int).natAbs = g := rfl
    rw [this] at q
    exact q.symm
  have g1 : Int.gcd u v = 1 := by
    have : g * Int.gcd u v = g * 1 := by rw [gg, Nat.mul_one]
    exact Nat.eq_of_mul_eq_mul_left g0 this
  refine ⟨dn, ?_, ?_⟩
  · rw [dabs, btn]
    exact Nat.le_mul_of_pos_right _ va
  rw [e1, e2]
  refine ⟨?_, ?_, ?_, ?_, ?_⟩
  · rcases hs with ⟨rfl, h⟩ | ⟨rfl, h⟩
    · have : 0 < v := by
        rcases Int.lt_or_le 0 v with z | z
        · exact z
        · have q := Int.mul_le_mul_of_nonneg_left z (Int.le_of_lt gp)
          rw [Int.mul_zero] at q
          omega
      omega
    · have : v < 0 := by
        rcases Int.lt_or_le v 0 with z | z
        · exact z
        · have q := Int.mul_nonneg (Int.le_of_lt gp) z
          omega
      omega
  · have q : Int.gcd (s * u) (s * v) = Int.gcd u v := by
      unfold Int.gcd
      rw [sabs, sabs]
    rw [q, g1]
  · rw [hu, hv]
    rw [Int.mul_assoc, Int.mul_comm u, Int.mul_assoc, Int.mul_assoc, ← Int.mul_assoc s, Int.mul_comm s, Int.mul_assoc, Int.mul_comm v u]
    rw [Int.mul_comm u (s * v)]
    rw [Int.mul_assoc s v u, Int.mul_comm v u]
  · rw [sabs, tpn]
    exact Nat.le_mul_of_pos_left _ g0
  · rw [sabs, btn]
    exact Nat.le_mul_of_pos_left _ g0
theorem kII {K : PySem.W.Frag} : PySem.W.kitOne K (.type "int") (.type "int") = some true := kit_ty (by decide +kernel)
theorem kIB {K : PySem.W.Frag} : PySem.W.kitOne K (.type "int") (.type "bool") = some false := kit_ty (by decide +kernel)
theorem ok_init {fI : Addr} {fd : FuncData} (F : FunD K "__init__" "Amount.__init__" (defArgs sInit) (defBody sInit) (defScope sInit) [.int 1] [] fI fd) (T : AmTxt K mg C) : FnOk P w K mg base CX0 2 fI fd ["self", "top", "bottom"] (spInit C) := by
  have DI := d_ii (P := P) (w := w) (base := base) T
  have DC := d_cd (P := P) (w := w) (base := base) T
  have DP := d_pl (P := P) (w := w) (base := base) T
  refine F.ok scIn (fun vs H Q E h => ?_) (fun cdv A out s H vs Q E hr h => ?_)
  · obtain ⟨x, dx, tp, bt, rfl, _⟩ := h
    rfl
  · obtain ⟨x, dx, tp, bt, rfl, hx, hb, h1, h2, q⟩ := h
    refine ⟨_, PSs.nox (pss_cons (ps_if (pt_not (pt_val (pe_callO DI (hr.mono (by decide)) (pa_cons (pv 1) pa_nil)))) (pss_one ps_never) pss_nil)
  (pss_cons (ps_if (PW.pt (pw_or (pt_not (pt_val (pe_callO DI (hr.mono (by decide)) (pa_cons (pv 2) pa_nil)))) (pw_or1 (pt_cmpR op_eq (pv 2) pe_int (nomark _))))) (pss_one ps_never) pss_nil)
  (pss_cons (ps_set (i := 3) scIn.nd rfl (Or.inl rfl) (pe_op op_mul (pe_callO DC (hr.mono (by decide)) (pa_cons (pv 1) (pa_cons (pv 2) pa_nil))) (pe_ifExp (pt_cmpR op_gt (pv 2) pe_int (nomark _)) pe_int (pe_un un_neg pe_int))))
  (pss_cons (ps_fld (pv 0) (pe_op op_fdivA (pv 1) (pv 3)) rfl)
  (pss_cons (ps_fld (pv 0) (pe_op op_fdivA (pv 2) (pv 3)) rfl)
  (pss_one (ps_fld (pv 0) (pe_callO DP (hr.mono (by decide)) (pa_cons (pe_fld (pv 0) rfl) (pa_cons (pe_fld (pv 0) rfl) pa_nil))) rfl))))))), ?_⟩
    refine ⟨_, rfl, _, _, true, false, rfl, .base (.int tp), kII, kIB, true, rfl, iteF ?_⟩
    refine ⟨_, rfl, _, _, true, false, rfl, .base (.int bt), kII, kIB, true, rfl, iteF ?_⟩
    refine ⟨_, rfl, rfl, _, rfl, ?_⟩
    rw [decide_eq_false (show ¬ V.int bt = V.int 0 from fun z => hb (by injection z))]
    refine iteF ?_
    have sg : (((1 : Int) = 1 ∧ 0 < bt) ∨ ((1 : Int) = -1 ∧ bt < 0)) ∨ (((-1 : Int) = 1 ∧ 0 < bt) ∨ ((-1 : Int) = -1 ∧ bt < 0)) := by omega
    have key : ∀ d : Int, d ≠ 0 → d.natAbs ≤ bt.natAbs → Low tp bt (tp.fdiv d) (bt.fdiv d) → CDivA tp d ∧ CDivA bt d := fun d dn dl _ =>
      have z : d.natAbs.log2 < 9000 := Nat.lt_of_lt_of_le (PySem.Flt.log2_lt_of (by decide) (Nat.lt_of_le_of_lt dl h2)) (by decide)
      ⟨⟨dn, z⟩, ⟨dn, z⟩⟩
    refine ⟨_, rfl, _, rfl, tp, bt, rfl, _, rfl, _, _, rfl, rfl, _, rfl, ?_⟩
    rcases sg with sg | sg
    · obtain ⟨dn, dl, lw⟩ := low_of hb sg (d := (Int.gcd tp bt : Nat) * 1) rfl
      rw [decide_eq_true (show 0 < bt by omega)]
      refine iteT ⟨_, _, rfl, rfl, .inr ⟨by decide, by decide⟩, ?_⟩
      obtain ⟨k1, k2⟩ := key _ dn dl lw
      refine ⟨_, rfl, _, rfl, _, _, rfl, rfl, k1, _, rfl, x, C, dx, [], rfl, hx, T.cl, T.nT, (by show 0 < 1000; decide), ?_⟩
      refine ⟨_, rfl, _, rfl, _, _, rfl, rfl, k2, _, rfl, x, C, dx, _, rfl, upd_same, T.cl, T.nB, (by show 1 < 1000; decide), ?_⟩
      refine ⟨_, rfl, x, C, dx, _, _, rfl, upd_same, T.cl, T.nT, (by rw [lookup_putF, if_neg n_tb, lookup_putF, if_pos rfl]), _, rfl, x, C, dx, _, _, rfl, upd_same, T.cl, T.nB, (by rw [lookup_putF, if_pos rfl]), ?_⟩
      refine ⟨_, _, rfl, lw.pos, Nat.lt_of_le_of_lt lw.lb h2, fun p H' sm hn hp => ?_⟩
      refine ⟨_, rfl, x, C, dx, _, rfl, sm _ _ upd_same, T.cl, T.nP, (by rw [am_put1]; show 2 < 1000; decide), ?_⟩
      have xp : x ≠ p := ne_of_none upd_same hn
      refine q _ _ _ lw ⟨lw.pos, dx, p, by rw [am_put]; exact upd_same, by rw [upd_ne xp.symm]; exact hp⟩ fun c o hc hcx => ?_
      rw [upd_ne hcx]
      exact sm _ _ (by rw [upd_ne hcx, upd_ne hcx]; exact hc)
    · obtain ⟨dn, dl, lw⟩ := low_of hb sg (d := (Int.gcd tp bt : Nat) * (-1)) rfl
      rw [decide_eq_false (show ¬ 0 < bt by omega)]
      refine iteF ⟨1, rfl, _, _, rfl, rfl, .inr ⟨by decide, by decide⟩, ?_⟩
      obtain ⟨k1, k2⟩ := key _ dn dl lw
      refine ⟨_, rfl, _, rfl, _, _, rfl, rfl, k1, _, rfl, x, C, dx, [], rfl, hx, T.cl, T.nT, (by show 0 < 1000; decide), ?_⟩
      refine ⟨_, rfl, _, rfl, _, _, rfl, rfl, k2, _, rfl, x, C, dx, _, rfl, upd_same, T.cl, T.nB, (by show 1 < 1000; decide), ?_⟩
      refine ⟨_, rfl, x, C, dx, _, _, rfl, upd_same, T.cl, T.nT, (by rw [lookup_putF, if_neg n_tb, lookup_putF, if_pos rfl]), _, rfl, x, C, dx, _, _, rfl, upd_same, T.cl, T.nB, (by rw [lookup_putF, if_pos rfl]), ?_⟩
      refine ⟨_, _, rfl, lw.pos, Nat.lt_of_le_of_lt lw.lb h2, fun p H' sm hn hp => ?_⟩
      refine ⟨_, rfl, x, C, dx, _, rfl, sm _ _ upd_same, T.cl, T.nP, (by rw [am_put1]; show 2 < 1000; decide), ?_⟩
      have xp : x ≠ p := ne_of_none upd_same hn
      refine q _ _ _ lw ⟨lw.pos, dx, p, by rw [am_put]; exact upd_same, by rw [upd_ne xp.symm]; exact hp⟩ fun c o hc hcx => ?_
      rw [upd_ne hcx]
      exact sm _ _ (by rw [upd_ne hcx, upd_ne hcx]; exact hc)
/-! ### Amount(top, bottom), called -/
def spMake (C : Addr) : Sp := fun vs H Q _ => ∃ tp bt : Int, vs = [.int tp, .int bt] ∧ bt ≠ 0 ∧ tp.natAbs < 2 ^ 8000 ∧ bt.natAbs < 2 ^ 8000 ∧
  ∀ (x : Addr) (t b : Int) (H' : Hp), Low tp bt t b → AmAt C H' x t b → Same H H' → H x = none → Q (.ref x) H'
theorem rn_amount {X : Cx} (T : AmTxt X.K X.mg C) (hr : Room 3 X.A) : Rn X C (spMake C) [] E0 := by
  obtain ⟨fI, fd, mkC, F⟩ := T.mkC
  obtain ⟨ds, r, hb⟩ := F.binds1 (ps := ["self", "top", "bottom"]) 3 1 (by simp) rfl (fun Tp kV doc pm an cdv ct us its h1 h2 => match us, its, h1, h2 with | [_, _, _], [_], _, _ => ⟨_, rfl, rfl⟩)
  intro pins σ H1 s Q us vs I rv h
  refine run_make mkC (ok_init (P := X.prog) (w := X.w) (base := X.base) F T) hr hb r pass0 I rv ?_
  obtain ⟨tp, bt, ev, hb, h1, h2, q⟩ := h
  intro x dx nx nd ne
  have ev : vs = [.int tp, .int bt] := by simpa using ev
  subst ev
  have s0 : Same H1 (upd (upd H1 dx (.own x)) x (.ins C dx [])) := fun b o e => by
    rw [upd_ne (ne_of_none e nx), upd_ne (ne_of_none e nd)]
    exact e
  exact ⟨x, dx, tp, bt, rfl, upd_same, hb, h1, h2, fun t b H' lw am k => ⟨rfl, q x t b H' lw am (fun c o e => k c o (s0 c o e) (ne_of_none e nx)) nx⟩⟩
/-! ### comparisons of two Amounts -/
theorem cmp_lt {t1 b1 t2 b2 : Int} (h1 : 0 < b1) (h2 : 0 < b2) : M.lt (M.plc 1 t1 b1.toNat) (M.plc 1 t2 b2.toNat) = decide (t1 * b2 < t2 * b1) := by
  have q := (M.plc_order b1.toNat b2.toNat 1 t1 t2 (.inl rfl) (fun z => by omega) (fun z => by omega)).1
  rw [q, Int.toNat_of_nonneg (Int.le_of_lt h1), Int.toNat_of_nonneg (Int.le_of_lt h2)]
  congr 1
  apply propext
  constructor <;> intro h <;> omega
theorem cmp_eq {t1 b1 t2 b2 : Int} (h1 : 0 < b1) (h2 : 0 < b2) : decide (M.plc 1 t1 b1.toNat = M.plc 1 t2 b2.toNat) = decide (t1 * b2 = t2 * b1) := by
  have q := (M.plc_order b1.toNat b2.toNat 1 t1 t2 (.inl rfl) (fun z => by omega) (fun z => by omega)).2
  rw [Int.toNat_of_nonneg (Int.le_of_lt h1), Int.toNat_of_nonneg (Int.le_of_lt h2)] at q
  congr 1
  apply propext
  rw [q]
  constructor <;> intro h <;> omega
theorem kSelf {K : PySem.W.Frag} {C : Addr} : PySem.W.kitOne K (.ref C) (.ref C) = some true := by
  unfold PySem.W.kitOne
  rw [if_pos (beq_self_eq_true _)]
theorem AmTxt.ty (T : AmTxt K mg C) {H : Hp} {a : Addr} {t b : Int} (h : AmAt C H a t b) : TyOf K H (.ref a) (.ref C) := let ⟨_, _, _, e, _⟩ := h; .ins e T.cl T.ca T.cn T.ck T.cm
def spCmp (C : Addr) (F : Int → Int → Int → Int → Bool) : Sp := fun vs H Q _ => ∃ (a c : Addr) (t1 b1 t2 b2 : Int), vs = [.ref a, .ref c] ∧ AmAt C H a t1 b1 ∧ AmAt C H c t2 b2 ∧ Q (.bl (F t1 b1 t2 b2)) H
theorem scEq : FnScope ["self", "other"] ["self", "other"] (defScope sMEq) := ⟨rfl, rfl, rfl, by decide +kernel, rfl, by decide +kernel, by decide +kernel⟩
def fEq : Int → Int → Int → Int → Bool := fun t1 b1 t2 b2 => decide (t1 * b2 = t2 * b1)
theorem ok_Eq {f : Addr} {fd : FuncData} (F : Fun K "__eq__" "Amount.__eq__" sMEq f fd) (T : AmTxt K mg C) : FnOk P w K mg base CX0 1 f fd ["self", "other"] (spCmp C fEq) := by
  refine F.ok scEq (fun vs H Q E h => ?_) (fun cdv A out s H vs Q E hr h => ?_)
  · obtain ⟨a, c, t1, b1, t2, b2, rfl, _⟩ := h
    rfl
  · obtain ⟨a, c, t1, b1, t2, b2, rfl, h1, h2, q⟩ := h
    obtain ⟨z1, d1, p1, e1, g1⟩ := id h1
    obtain ⟨z2, d2, p2, e2, g2⟩ := id h2
    refine ⟨_, (pss_cons (ps_if (pt_not (pt_val (pe_callB call_isi (by rfl) T.b_isinstance (by decide +kernel) (pa_cons (pv 1) (pa_cons (pe_glob (v := .ref C) (by rfl) T.gC rfl) pa_nil))))) (pss_one (ps_never)) pss_nil)
  (pss_one (ps_ret (pe_cmpR (op_eqI hr.units) (pe_fld (pv 0) rfl) (pe_fld (pv 1) rfl) (nomark _))))), ?_⟩
    refine ⟨_, rfl, .ref c, .ref C, .ref C, .ref C, true, rfl, .own C, .base (T.ty h2), kSelf, true, rfl, iteF ?_⟩
    refine ⟨_, rfl, a, C, d1, _, _, rfl, e1, T.cl, T.nP, am_place _ _ _, _, rfl, c, C, d2, _, _, rfl, e2, T.cl, T.nP, am_place _ _ _, p1, p2, _, _, rfl, rfl, SqT.of g1, SqT.of g2, ?_⟩
    show Q (.bl (decide (M.plc 1 t1 b1.toNat = M.plc 1 t2 b2.toNat))) H
    rw [cmp_eq z1 z2]
    exact q
theorem scLt : FnScope ["self", "other"] ["self", "other"] (defScope sMLt) := ⟨rfl, rfl, rfl, by decide +kernel, rfl, by decide +kernel, by decide +kernel⟩
def fLt : Int → Int → Int → Int → Bool := fun t1 b1 t2 b2 => decide (t1 * b2 < t2 * b1)
theorem ok_Lt {f : Addr} {fd : FuncData} (F : Fun K "__lt__" "Amount.__lt__" sMLt f fd) (T : AmTxt K mg C) : FnOk P w K mg base CX0 1 f fd ["self", "other"] (spCmp C fLt) := by
  refine F.ok scLt (fun vs H Q E h => ?_) (fun cdv A out s H vs Q E hr h => ?_)
  · obtain ⟨a, c, t1, b1, t2, b2, rfl, _⟩ := h
    rfl
  · obtain ⟨a, c, t1, b1, t2, b2, rfl, h1, h2, q⟩ := h
    obtain ⟨z1, d1, p1, e1, g1⟩ := id h1
    obtain ⟨z2, d2, p2, e2, g2⟩ := id h2
    refine ⟨_, (pss_cons (ps_if (pt_not (pt_val (pe_callB call_isi (by rfl) T.b_isinstance (by decide +kernel) (pa_cons (pv 1) (pa_cons (pe_glob (v := .ref C) (by rfl) T.gC rfl) pa_nil))))) (pss_one (ps_never)) pss_nil)
  (pss_one (ps_ret (pe_cmpR (op_ltI hr.units0) (pe_fld (pv 0) rfl) (pe_fld (pv 1) rfl) (nomark _))))), ?_⟩
    refine ⟨_, rfl, .ref c, .ref C, .ref C, .ref C, true, rfl, .own C, .base (T.ty h2), kSelf, true, rfl, iteF ?_⟩
    refine ⟨_, rfl, a, C, d1, _, _, rfl, e1, T.cl, T.nP, am_place _ _ _, _, rfl, c, C, d2, _, _, rfl, e2, T.cl, T.nP, am_place _ _ _, p1, p2, _, _, rfl, rfl, SqT.of g1, SqT.of g2, ?_⟩
    show Q (.bl (M.lt (M.plc 1 t1 b1.toNat) (M.plc 1 t2 b2.toNat))) H
    rw [cmp_lt z1 z2]
    exact q
theorem scLe : FnScope ["self", "other"] ["self", "other"] (defScope sMLe) := ⟨rfl, rfl, rfl, by decide +kernel, rfl, by decide +kernel, by decide +kernel⟩
def fLe : Int → Int → Int → Int → Bool := fun t1 b1 t2 b2 => !decide (t2 * b1 < t1 * b2)
theorem ok_Le {f : Addr} {fd : FuncData} (F : Fun K "__le__" "Amount.__le__" sMLe f fd) (T : AmTxt K mg C) : FnOk P w K mg base CX0 1 f fd ["self", "other"] (spCmp C fLe) := by
  refine F.ok scLe (fun vs H Q E h => ?_) (fun cdv A out s H vs Q E hr h => ?_)
  · obtain ⟨a, c, t1, b1, t2, b2, rfl, _⟩ := h
    rfl
  · obtain ⟨a, c, t1, b1, t2, b2, rfl, h1, h2, q⟩ := h
    obtain ⟨z1, d1, p1, e1, g1⟩ := id h1
    obtain ⟨z2, d2, p2, e2, g2⟩ := id h2
    refine ⟨_, (pss_cons (ps_if (pt_not (pt_val (pe_callB call_isi (by rfl) T.b_isinstance (by decide +kernel) (pa_cons (pv 1) (pa_cons (pe_glob (v := .ref C) (by rfl) T.gC rfl) pa_nil))))) (pss_one (ps_never)) pss_nil)
  (pss_one (ps_ret (pe_cmpR (op_leI hr.units0) (pe_fld (pv 0) rfl) (pe_fld (pv 1) rfl) (nomark _))))), ?_⟩
    refine ⟨_, rfl, .ref c, .ref C, .ref C, .ref C, true, rfl, .own C, .base (T.ty h2), kSelf, true, rfl, iteF ?_⟩
    refine ⟨_, rfl, a, C, d1, _, _, rfl, e1, T.cl, T.nP, am_place _ _ _, _, rfl, c, C, d2, _, _, rfl, e2, T.cl, T.nP, am_place _ _ _, p1, p2, _, _, rfl, rfl, SqT.of g1, SqT.of g2, ?_⟩
    show Q (.bl (!M.lt (M.plc 1 t2 b2.toNat) (M.plc 1 t1 b1.toNat))) H
    rw [cmp_lt z2 z1]
    exact q
theorem scGt : FnScope ["self", "other"] ["self", "other"] (defScope sMGt) := ⟨rfl, rfl, rfl, by decide +kernel, rfl, by decide +kernel, by decide +kernel⟩
def fGt : Int → Int → Int → Int → Bool := fun t1 b1 t2 b2 => decide (t2 * b1 < t1 * b2)
theorem ok_Gt {f : Addr} {fd : FuncData} (F : Fun K "__gt__" "Amount.__gt__" sMGt f fd) (T : AmTxt K mg C) : FnOk P w K mg base CX0 1 f fd ["self", "other"] (spCmp C fGt) := by
  refine F.ok scGt (fun vs H Q E h => ?_) (fun cdv A out s H vs Q E hr h => ?_)
  · obtain ⟨a, c, t1, b1, t2, b2, rfl, _⟩ := h
    rfl
  · obtain ⟨a, c, t1, b1, t2, b2, rfl, h1, h2, q⟩ := h
    obtain ⟨z1, d1, p1, e1, g1⟩ := id h1
    obtain ⟨z2, d2, p2, e2, g2⟩ := id h2
    refine ⟨_, (pss_cons (ps_if (pt_not (pt_val (pe_callB call_isi (by rfl) T.b_isinstance (by decide +kernel) (pa_cons (pv 1) (pa_cons (pe_glob (v := .ref C) (by rfl) T.gC rfl) pa_nil))))) (pss_one (ps_never)) pss_nil)
  (pss_one (ps_ret (pe_cmpR (op_gtI hr.units0) (pe_fld (pv 0) rfl) (pe_fld (pv 1) rfl) (nomark _))))), ?_⟩
    refine ⟨_, rfl, .ref c, .ref C, .ref C, .ref C, true, rfl, .own C, .base (T.ty h2), kSelf, true, rfl, iteF ?_⟩
    refine ⟨_, rfl, a, C, d1, _, _, rfl, e1, T.cl, T.nP, am_place _ _ _, _, rfl, c, C, d2, _, _, rfl, e2, T.cl, T.nP, am_place _ _ _, p1, p2, _, _, rfl, rfl, SqT.of g1, SqT.of g2, ?_⟩
    show Q (.bl (M.lt (M.plc 1 t2 b2.toNat) (M.plc 1 t1 b1.toNat))) H
    rw [cmp_lt z2 z1]
    exact q
theorem scGe : FnScope ["self", "other"] ["self", "other"] (defScope sMGe) := ⟨rfl, rfl, rfl, by decide +kernel, rfl, by decide +kernel, by decide +kernel⟩
def fGe : Int → Int → Int → Int → Bool := fun t1 b1 t2 b2 => !decide (t1 * b2 < t2 * b1)
theorem ok_Ge {f : Addr} {fd : FuncData} (F : Fun K "__ge__" "Amount.__ge__" sMGe f fd) (T : AmTxt K mg C) : FnOk P w K mg base CX0 1 f fd ["self", "other"] (spCmp C fGe) := by
  refine F.ok scGe (fun vs H Q E h => ?_) (fun cdv A out s H vs Q E hr h => ?_)
  · obtain ⟨a, c, t1, b1, t2, b2, rfl, _⟩ := h
    rfl
  · obtain ⟨a, c, t1, b1, t2, b2, rfl, h1, h2, q⟩ := h
    obtain ⟨z1, d1, p1, e1, g1⟩ := id h1
    obtain ⟨z2, d2, p2, e2, g2⟩ := id h2
    refine ⟨_, (pss_cons (ps_if (pt_not (pt_val (pe_callB call_isi (by rfl) T.b_isinstance (by decide +kernel) (pa_cons (pv 1) (pa_cons (pe_glob (v := .ref C) (by rfl) T.gC rfl) pa_nil))))) (pss_one (ps_never)) pss_nil)
  (pss_one (ps_ret (pe_cmpR (op_geI hr.units0) (pe_fld (pv 0) rfl) (pe_fld (pv 1) rfl) (nomark _))))), ?_⟩
    refine ⟨_, rfl, .ref c, .ref C, .ref C, .ref C, true, rfl, .own C, .base (T.ty h2), kSelf, true, rfl, iteF ?_⟩
    refine ⟨_, rfl, a, C, d1, _, _, rfl, e1, T.cl, T.nP, am_place _ _ _, _, rfl, c, C, d2, _, _, rfl, e2, T.cl, T.nP, am_place _ _ _, p1, p2, _, _, rfl, rfl, SqT.of g1, SqT.of g2, ?_⟩
    show Q (.bl (!M.lt (M.plc 1 t1 b1.toNat) (M.plc 1 t2 b2.toNat))) H
    rw [cmp_lt z1 z2]
    exact q
/-! ### the rules for the law: Amounts compared, and compared with other kinds -/
structure AmCmp (K : PySem.W.Frag) (mg : Str → Option Value) (C : Addr) : Prop where
  eq : MethT K C "__eq__" "Amount.__eq__" sMEq ["self", "other"]
  lt : MethT K C "__lt__" "Amount.__lt__" sMLt ["self", "other"]
  le : MethT K C "__le__" "Amount.__le__" sMLe ["self", "other"]
  gt : MethT K C "__gt__" "Amount.__gt__" sMGt ["self", "other"]
  ge : MethT K C "__ge__" "Amount.__ge__" sMGe ["self", "other"]
  st : MethT K C "__str__" "Amount.__str__" sMStr ["self"]
  rp : MethT K C "__repr__" "Amount.__repr__" sMRepr ["self"]
  pt : PropT K C "top" "Amount.top" sMTop
  b_str : mg "str" = none
/-- op of two Amounts -/
def rAm (C : Addr) (F : Int → Int → Int → Int → Bool) : R2 := fun x y H Q => ∃ (a c : Addr) (t1 b1 t2 b2 : Int), x = .ref a ∧ y = .ref c ∧ AmAt C H a t1 b1 ∧ AmAt C H c t2 b2 ∧ Q (.bl (F t1 b1 t2 b2)) H
theorem opr_imp {X : Cx} {f : Value → Value → Sem Value} {r r' : R2} (h : OpR X f r) (i : ∀ x y H Q, r' x y H Q → r x y H Q) : OpR X f r' := fun pins s σ H x y v u Q I rx ry q => h pins s σ H x y v u Q I rx ry (i x y H Q q)
theorem nf_self {K : PySem.W.Frag} {C : Addr} : PySem.W.notFirst K C (.ref C) = true := by
  unfold PySem.W.notFirst
  rw [beq_self_eq_true] <;> rfl
section
variable {X : Cx}
theorem rAm_in (T : AmTxt X.K X.mg C) {F : Int → Int → Int → Int → Bool} {x y : V} {H : Hp} {Q : VK} (h : rAm C F x y H Q) : rCmp X.K C (spCmp C F) E0 x y H Q := by
  obtain ⟨a, c, t1, b1, t2, b2, rfl, rfl, h1, h2, q⟩ := h
  obtain ⟨z1, d1, p1, e1, g1⟩ := id h1
  exact ⟨a, d1, _, .ref C, rfl, e1, T.ty h2, nf_self, a, c, t1, b1, t2, b2, rfl, h1, h2, q⟩
theorem op_eqAm (T : AmTxt X.K X.mg C) (M : AmCmp X.K X.mg C) (hr : Room 1 X.A) : OpR X (compareOp .Eq) (rAm C SP.fEq) := by
  obtain ⟨f, fd, h1, h2, F, hb⟩ := M.eq.ex
  exact opr_imp (op_cmpC hr.units0 h1 h2 (rn_of (ok_Eq (P := X.prog) (w := X.w) (base := X.base) F T) hr hb .nil pass0)) fun x y H Q h => rAm_in T h
theorem op_ltAm (T : AmTxt X.K X.mg C) (M : AmCmp X.K X.mg C) (hr : Room 1 X.A) : OpR X (compareOp .Lt) (rAm C SP.fLt) := by
  obtain ⟨f, fd, h1, h2, F, hb⟩ := M.lt.ex
  exact opr_imp (op_cmpC hr.units0 h1 h2 (rn_of (ok_Lt (P := X.prog) (w := X.w) (base := X.base) F T) hr hb .nil pass0)) fun x y H Q h => rAm_in T h
theorem op_leAm (T : AmTxt X.K X.mg C) (M : AmCmp X.K X.mg C) (hr : Room 1 X.A) : OpR X (compareOp .LtE) (rAm C SP.fLe) := by
  obtain ⟨f, fd, h1, h2, F, hb⟩ := M.le.ex
  exact opr_imp (op_cmpC hr.units0 h1 h2 (rn_of (ok_Le (P := X.prog) (w := X.w) (base := X.base) F T) hr hb .nil pass0)) fun x y H Q h => rAm_in T h
theorem op_gtAm (T : AmTxt X.K X.mg C) (M : AmCmp X.K X.mg C) (hr : Room 1 X.A) : OpR X (compareOp .Gt) (rAm C SP.fGt) := by
  obtain ⟨f, fd, h1, h2, F, hb⟩ := M.gt.ex
  exact opr_imp (op_cmpC hr.units0 h1 h2 (rn_of (ok_Gt (P := X.prog) (w := X.w) (base := X.base) F T) hr hb .nil pass0)) fun x y H Q h => rAm_in T h
theorem op_geAm (T : AmTxt X.K X.mg C) (M : AmCmp X.K X.mg C) (hr : Room 1 X.A) : OpR X (compareOp .GtE) (rAm C SP.fGe) := by
  obtain ⟨f, fd, h1, h2, F, hb⟩ := M.ge.ex
  exact opr_imp (op_cmpC hr.units0 h1 h2 (rn_of (ok_Ge (P := X.prog) (w := X.w) (base := X.base) F T) hr hb .nil pass0)) fun x y H Q h => rAm_in T h
/-- != of two Amounts -/
theorem op_neAm (T : AmTxt X.K X.mg C) (M : AmCmp X.K X.mg C) (hr : Room 2 X.A) : OpR X (compareOp .NotEq) (rAm C fun t1 b1 t2 b2 => !SP.fEq t1 b1 t2 b2) := by
  obtain ⟨f, fd, h1, h2, F, hb⟩ := M.eq.ex
  refine opr_imp (op_neC (sp := spCmp C SP.fEq) (E := E0) (by have := hr.units; omega) h1 T.ne T.cm h2 (rn_of (X := in1 X) (ok_Eq (P := X.prog) (w := X.w) (base := X.base) F T) hr.in1 hb .nil pass0)) fun x y H Q h => ?_
  obtain ⟨a, c, t1, b1, t2, b2, rfl, rfl, h1, h2, q⟩ := h
  obtain ⟨z1, d1, p1, e1, g1⟩ := id h1
  exact ⟨a, d1, _, .ref C, rfl, e1, T.ty h2, nf_self, a, c, t1, b1, t2, b2, rfl, h1, h2, _, rfl, q⟩
/-- an Amount beside a value of another kind -/
def dFgn (C : Addr) : List V → Hp → Prop := fun vs H => ∃ (a : Addr) (y : V) (t b : Int), vs = [.ref a, y] ∧ AmAt C H a t b ∧ Fgn H y
theorem not_am (T : AmTxt X.K X.mg C) {H : Hp} {y : V} (f : Fgn H y) : ∃ t, TyX X.K H y t ∧ PySem.W.kitOne X.K t (.ref C) = some false := by
  cases f with
  | non => exact ⟨_, .base .non, T.na.n⟩
  | bl b => exact ⟨_, .base (.bl b), T.na.b⟩
  | int i => exact ⟨_, .base (.int i), T.na.i⟩
  | str x => exact ⟨_, .base (.str x), T.na.s⟩
  | tup e => exact ⟨_, .base (.tup e), T.na.t⟩
  | lst e => exact ⟨_, .base (.lst e), T.na.l⟩
theorem rnN_eq (T : AmTxt X.K X.mg C) {f : Addr} {fd : FuncData} (F : Fun X.K "__eq__" "Amount.__eq__" sMEq f fd) (hb : Binds X.K fd ["self", "other"] []) (hn : X.mg "NotImplemented" = none) (hr : Room 1 X.A) : RnN X f (dFgn C) := by
  refine rnN_of F scEq hr hb (fun vs H h => ?_) rfl hn fun cdv A out s H vs hr h => ?_
  · obtain ⟨a, y, t, b, rfl, _⟩ := h
    rfl
  · obtain ⟨a, y, t, b, rfl, h1, f⟩ := h
    obtain ⟨ty, h2, h3⟩ := not_am T f
    refine ⟨_, pt_not (pt_val (pe_callB call_isi (by rfl) T.b_isinstance (by decide +kernel) (pa_cons (pv 1) (pa_cons (pe_glob (v := .ref C) (by rfl) T.gC rfl) pa_nil)))), by rfl, ?_⟩
    exact ⟨_, rfl, y, .ref C, ty, .ref C, false, rfl, .own C, h2, h3, false, rfl, rfl, Same.refl _⟩
def rAmF (C : Addr) (k : Bool) : R2 := fun x y H Q => ∃ (a : Addr) (t b : Int), x = .ref a ∧ AmAt C H a t b ∧ Fgn H y ∧ ∀ H', Same H H' → Q (.bl k) H'
theorem rAmF_in {k : Bool} {x y : V} {H : Hp} {Q : VK} (h : rAmF C k x y H Q) : rEqF C (dFgn C) k x y H Q := by
  obtain ⟨a, t, b, rfl, h1, f, q⟩ := h
  obtain ⟨z1, d1, p1, e1, g1⟩ := id h1
  exact ⟨a, d1, _, rfl, e1, f, ⟨a, y, t, b, rfl, h1, f⟩, q⟩
theorem op_eqAmF (T : AmTxt X.K X.mg C) (M : AmCmp X.K X.mg C) (hn : X.mg "NotImplemented" = none) (hr : Room 1 X.A) : OpR X (compareOp .Eq) (rAmF C false) :=
  let ⟨_, _, h1, h2, F, hb⟩ := M.eq.ex
  opr_imp (op_eqF hr.units0 T.fg h1 h2 (rnN_eq T F hb hn hr)) fun _ _ _ _ h => rAmF_in h
theorem op_neAmF (T : AmTxt X.K X.mg C) (M : AmCmp X.K X.mg C) (hn : X.mg "NotImplemented" = none) (hr : Room 2 X.A) : OpR X (compareOp .NotEq) (rAmF C true) :=
  let ⟨_, _, h1, h2, F, hb⟩ := M.eq.ex
  opr_imp (op_neF (by have := hr.units; omega) T.fg h1 T.ne T.cm h2 (rnN_eq (X := in1 X) T F hb hn hr.in1)) fun _ _ _ _ h => rAmF_in h
/-! ### an Amount shown -/
def sTxt (t b : Int) : Str := if b = 1 then PySem.Str.ofString (toString t) else Str.empty ++ PySem.Str.ofString (toString t) ++ "/" ++ PySem.Str.ofString (toString b)
def rTxt (t b : Int) : Str := Str.empty ++ "Amount(" ++ PySem.Str.ofString (toString t) ++ ", " ++ PySem.Str.ofString (toString b) ++ ")"
def spShow (C : Addr) (F : Int → Int → Str) : Sp := fun vs H Q _ => ∃ (a : Addr) (t b : Int), vs = [.ref a] ∧ AmAt C H a t b ∧ t.natAbs < 2 ^ 1900 ∧ b.natAbs < 2 ^ 1900 ∧ Q (.str (F t b)) H
theorem scStr : FnScope ["self"] ["self"] (defScope sMStr) := ⟨rfl, rfl, rfl, by decide +kernel, rfl, by decide +kernel, by decide +kernel⟩
theorem scRepr : FnScope ["self"] ["self"] (defScope sMRepr) := ⟨rfl, rfl, rfl, by decide +kernel, rfl, by decide +kernel, by decide +kernel⟩
theorem small1000' {n : Nat} (h : n ≤ 10000) : n ≤ sizeLine := Nat.le_trans h (by decide)
theorem ok_Str {f : Addr} {fd : FuncData} (F : Fun X.K "__str__" "Amount.__str__" sMStr f fd) (T : AmTxt X.K X.mg C) (M : AmCmp X.K X.mg C) : FnOk X.prog X.w X.K X.mg X.base CX0 1 f fd ["self"] (spShow C sTxt) := by
  refine F.ok scStr (fun vs H Q E h => ?_) (fun cdv A out s H vs Q E hr h => ?_)
  · obtain ⟨a, t, b, rfl, _⟩ := h
    rfl
  · obtain ⟨a, t, b, rfl, h1, hz1, hz2, q⟩ := h
    obtain ⟨z1, d1, p1, e1, g1⟩ := id h1
    refine ⟨_, (pss_cons (ps_if (pt_cmpR op_eq (pe_fld (pv 0) rfl) pe_int (nomark _)) (pss_one (ps_ret (pe_callTy call_str_int (by rfl) M.b_str (by decide +kernel) (pa_cons (pe_fld (pv 0) rfl) pa_nil)))) pss_nil)
  (pss_one (ps_ret (pe_joined (PJ.cons (pe_fmt (pe_fld (pv 0) rfl)) (PJ.cons pe_str (PJ.cons (pe_fmt (pe_fld (pv 0) rfl)) PJ.nil))))))), ?_⟩
    refine ⟨_, rfl, a, C, d1, _, _, rfl, e1, T.cl, T.nB, am_bottom _ _ _, rfl, _, rfl, ?_⟩
    have g1 := small_log hz1 (by decide) (by decide)
    have g2 := small_log hz2 (by decide) (by decide)
    have l1 := len1921 g1
    have l2 := len1921 g2
    by_cases h : b = 1
    · rw [decide_eq_true (show V.int b = V.int 1 by rw [h])]
      refine iteT ⟨_, rfl, a, C, d1, _, _, rfl, e1, T.cl, T.nT, am_top _ _ _, _, rfl, g1, ?_⟩
      have e : sTxt t b = PySem.Str.ofString (toString t) := if_pos h
      rw [e] at q
      exact q
    · rw [decide_eq_false (show ¬ V.int b = V.int 1 from fun z => h (by injection z))]
      refine iteF ⟨_, rfl, a, C, d1, _, _, rfl, e1, T.cl, T.nT, am_top _ _ _, .inr ⟨t, rfl, g1, _, rfl, ?_, _, rfl, ?_, ?_⟩⟩
      · rw [PySem.Str.length_append]
        exact small1000' (by show 0 + _ ≤ _; omega)
      · rw [PySem.Str.length_append, PySem.Str.length_append]
        exact small1000' (by show 0 + _ + 1 ≤ _; omega)
      · refine ⟨_, rfl, a, C, d1, _, _, rfl, e1, T.cl, T.nB, am_bottom _ _ _, .inr ⟨b, rfl, g2, _, rfl, ?_, ?_⟩⟩
        · rw [PySem.Str.length_append, PySem.Str.length_append, PySem.Str.length_append]
          exact small1000' (by show 0 + _ + 1 + _ ≤ _; omega)
        · have e : sTxt t b = Str.empty ++ PySem.Str.ofString (toString t) ++ "/" ++ PySem.Str.ofString (toString b) := if_neg h
          rw [e] at q
          exact q
theorem ok_Repr {f : Addr} {fd : FuncData} (F : Fun X.K "__repr__" "Amount.__repr__" sMRepr f fd) (T : AmTxt X.K X.mg C) : FnOk X.prog X.w X.K X.mg X.base CX0 1 f fd ["self"] (spShow C rTxt) := by
  refine F.ok scRepr (fun vs H Q E h => ?_) (fun cdv A out s H vs Q E hr h => ?_)
  · obtain ⟨a, t, b, rfl, _⟩ := h
    rfl
  · obtain ⟨a, t, b, rfl, h1, hz1, hz2, q⟩ := h
    obtain ⟨z1, d1, p1, e1, g1⟩ := id h1
    refine ⟨_, (pss_one (ps_ret (pe_joined (PJ.cons pe_str (PJ.cons (pe_fmt (pe_fld (pv 0) rfl)) (PJ.cons pe_str (PJ.cons (pe_fmt (pe_fld (pv 0) rfl)) (PJ.cons pe_str PJ.nil)))))))), ?_⟩
    have g1 := small_log hz1 (by decide) (by decide)
    have g2 := small_log hz2 (by decide) (by decide)
    have l1 := len1921 g1
    have l2 := len1921 g2
    refine ⟨_, rfl, by decide, _, rfl, a, C, d1, _, _, rfl, e1, T.cl, T.nT, am_top _ _ _, .inr ⟨t, rfl, g1, _, rfl, ?_, _, rfl, ?_, ?_⟩⟩
    · rw [PySem.Str.length_append, PySem.Str.length_append]
      exact small1000' (by show 0 + 7 + _ ≤ _; omega)
    · rw [PySem.Str.length_append, PySem.Str.length_append, PySem.Str.length_append]
      exact small1000' (by show 0 + 7 + _ + 2 ≤ _; omega)
    · refine ⟨_, rfl, a, C, d1, _, _, rfl, e1, T.cl, T.nB, am_bottom _ _ _, .inr ⟨b, rfl, g2, _, rfl, ?_, _, rfl, ?_, q⟩⟩
      · rw [PySem.Str.length_append, PySem.Str.length_append, PySem.Str.length_append, PySem.Str.length_append]
        exact small1000' (by show 0 + 7 + _ + 2 + _ ≤ _; omega)
      · rw [PySem.Str.length_append, PySem.Str.length_append, PySem.Str.length_append, PySem.Str.length_append, PySem.Str.length_append]
        exact small1000' (by show 0 + 7 + _ + 2 + _ + 1 ≤ _; omega)
/-- str(a), repr(a) of an Amount -/
def rAmS (C : Addr) (F : Int → Int → Str) : List V → Hp → VK → Prop := fun xs H Q => ∃ (a : Addr) (t b : Int), xs = [.ref a] ∧ AmAt C H a t b ∧ t.natAbs < 2 ^ 1900 ∧ b.natAbs < 2 ^ 1900 ∧ Q (.str (F t b)) H
theorem callr_imp {X : Cx} {f : Value} {r r' : List V → Hp → VK → Prop} (h : CallR X f r) (i : ∀ xs H Q, r' xs H Q → r xs H Q) : CallR X f r' := fun pins s σ H xs us Q I rv q => h pins s σ H xs us Q I rv (i xs H Q q)
theorem rAmS_in {F : Int → Int → Str} {xs : List V} {H : Hp} {Q : VK} (h : rAmS C F xs H Q) : rShow C (spShow C F) E0 xs H Q := by
  obtain ⟨a, t, b, rfl, h1, z1, z2, q⟩ := h
  obtain ⟨_, d1, p1, e1, g1⟩ := id h1
  exact ⟨a, d1, _, rfl, e1, a, t, b, rfl, h1, z1, z2, _, rfl, q⟩
theorem call_strAm (T : AmTxt X.K X.mg C) (M : AmCmp X.K X.mg C) (hr : Room 3 X.A) : CallR X (.type "str") (rAmS C sTxt) :=
  let ⟨_, _, h1, h2, F, hb⟩ := M.st.ex
  callr_imp (call_strO (by have := hr.units; omega) h1 h2 (rn_of (X := in1 (in1 X)) (ok_Str (X := in1 (in1 X)) F T M) hr.in1.in1 hb .nil pass0)) fun _ _ _ h => rAmS_in h
theorem call_reprAm (T : AmTxt X.K X.mg C) (M : AmCmp X.K X.mg C) (hr : Room 2 X.A) : CallR X (.builtin "repr") (rAmS C rTxt) :=
  let ⟨_, _, h1, h2, F, hb⟩ := M.rp.ex
  callr_imp (call_reprO (by have := hr.units; omega) h1 h2 (rn_of (X := in1 X) (ok_Repr (X := in1 X) F T) hr.in1 hb .nil pass0)) fun _ _ _ h => rAmS_in h
/-- a.top -/
theorem scTop : FnScope ["self"] ["self"] (defScope sMTop) := ⟨rfl, rfl, rfl, by decide +kernel, rfl, by decide +kernel, by decide +kernel⟩
def spTop (C : Addr) : Sp := fun vs H Q _ => ∃ (a : Addr) (t b : Int), vs = [.ref a] ∧ AmAt C H a t b ∧ Q (.int t) H
theorem ok_Top {f : Addr} {fd : FuncData} (F : Fun X.K "top" "Amount.top" sMTop f fd) (T : AmTxt X.K X.mg C) : FnOk X.prog X.w X.K X.mg X.base CX0 1 f fd ["self"] (spTop C) := by
  refine F.ok scTop (fun vs H Q E h => ?_) (fun cdv A out s H vs Q E hr h => ?_)
  · obtain ⟨a, t, b, rfl, _⟩ := h
    rfl
  · obtain ⟨a, t, b, rfl, h1, q⟩ := h
    obtain ⟨z1, d1, p1, e1, g1⟩ := id h1
    refine ⟨_, (pss_one (ps_ret (pe_fld (pv 0) rfl))), ?_⟩
    exact ⟨_, rfl, a, C, d1, _, _, rfl, e1, T.cl, T.nT, am_top _ _ _, q⟩
theorem pe_top {e : Expr} {te : TE} {pos : Pos} (he : PE X e te) (T : AmTxt X.K X.mg C) (M : AmCmp X.K X.mg C) (hr : Room 2 X.A) (hab : attributeBase e "top" X.env (eval e X.env) = eval e X.env := by rfl) : PE X (.Attribute e "top" pos) (tProp C (spTop C) [] E0 te) :=
  let ⟨_, _, _, hp, F, hb⟩ := M.pt.ex
  pe_prop he T.cl hp (ok_Top F T) hr hb .nil pass0 hab
end
end
end SP
namespace SP
open PySem PySem.Spec PyProof.Rows L2
abbrev sOf : Stmt := top 14
abbrev sMAdd : Stmt := inClass (top 13) 7
abbrev sMRadd : Stmt := inClass (top 13) 8
abbrev sMSub : Stmt := inClass (top 13) 9
abbrev sMRsub : Stmt := inClass (top 13) 10
abbrev sMMul : Stmt := inClass (top 13) 11
abbrev sMRmul : Stmt := inClass (top 13) 12
abbrev sMNeg : Stmt := inClass (top 13) 13
abbrev sMAbs : Stmt := inClass (top 13) 14
abbrev sMBool : Stmt := inClass (top 13) 15
abbrev sMOver : Stmt := inClass (top 13) 6
abbrev sMBot : Stmt := inClass (top 13) 4
abbrev sMSign : Stmt := inClass (top 13) 5


/-! ### lowest terms, plainly -/
theorem Low.uniq {z e t b t' b' : Int} (l : Low z e t b) (l' : Low z e t' b') (he : e ≠ 0) : t = t' ∧ b = b' := by
  have p := l.pos
  have p' := l'.pos
  have h : t * b' = t' * b := by
    have h1 : (t * b') * e = (t' * b) * e := by
      rw [show t * b' * e = (t * e) * b' by ac_rfl, l.eq, show t' * b * e = (t' * e) * b by ac_rfl, l'.eq]
      ac_rfl
    exact Int.eq_of_mul_eq_mul_right he h1
  have c1 : Nat.gcd t.natAbs b.natAbs = 1 := l.one
  have c2 : Nat.gcd t'.natAbs b'.natAbs = 1 := l'.one
  have hn : t.natAbs * b'.natAbs = t'.natAbs * b.natAbs := by rw [← Int.natAbs_mul, ← Int.natAbs_mul, h]
  have d1 : b.natAbs ∣ b'.natAbs := by
    have : b.natAbs ∣ t.natAbs * b'.natAbs := ⟨t'.natAbs, by rw [hn, Nat.mul_comm]⟩
    exact (Nat.Coprime.symm c1).dvd_of_dvd_mul_left this
  have d2 : b'.natAbs ∣ b.natAbs := by
    have : b'.natAbs ∣ t'.natAbs * b.natAbs := ⟨t.natAbs, by rw [← hn, Nat.mul_comm]⟩
    exact (Nat.Coprime.symm c2).dvd_of_dvd_mul_left this
  have e1 : b.natAbs = b'.natAbs := Nat.dvd_antisymm d1 d2
  have e2 : b = b' := by omega
  subst e2
  exact ⟨Int.eq_of_mul_eq_mul_right (by omega) h, rfl⟩
theorem low_self {t b : Int} (p : 0 < b) (g : Int.gcd t b = 1) : Low t b t b := ⟨p, g, rfl, Nat.le_refl _, Nat.le_refl _⟩
theorem gcd_one (t : Int) : Int.gcd t 1 = 1 := Int.gcd_one_right t
/-! ### an amount: an Amount or an int -/
def AmV (C : Addr) (H : Hp) (v : V) (t b : Int) : Prop := (∃ a, v = .ref a ∧ AmAt C H a t b ∧ Int.gcd t b = 1) ∨ (v = .int t ∧ b = 1)
theorem AmV.same {C : Addr} {H H' : Hp} {v : V} {t b : Int} (h : AmV C H v t b) (s : Same H H') : AmV C H' v t b := h.elim (fun ⟨a, e, k, g⟩ => .inl ⟨a, e, k.same s, g⟩) .inr
theorem AmV.cop {C : Addr} {H : Hp} {v : V} {t b : Int} (h : AmV C H v t b) : 0 < b ∧ Int.gcd t b = 1 := h.elim (fun ⟨_, _, k, g⟩ => ⟨k.1, g⟩) fun ⟨_, e⟩ => by subst e; exact ⟨by decide, gcd_one t⟩
structure AmOps (K : PySem.W.Frag) (mg : Str → Option Value) (C : Addr) : Prop where
  tOf : Top K mg "amount_of" sOf ["value"]
  sf : PySem.W.selfFirst K C = true
  si : PySem.W.subIn K (.ref C) (.type "int") = some false
  add : MethT K C "__add__" "Amount.__add__" sMAdd ["self", "other"]
  radd : MethT K C "__radd__" "Amount.__radd__" sMRadd ["self", "other"]
  sub : MethT K C "__sub__" "Amount.__sub__" sMSub ["self", "other"]
  rsub : MethT K C "__rsub__" "Amount.__rsub__" sMRsub ["self", "other"]
  mul : MethT K C "__mul__" "Amount.__mul__" sMMul ["self", "other"]
  rmul : MethT K C "__rmul__" "Amount.__rmul__" sMRmul ["self", "other"]
  neg : MethT K C "__neg__" "Amount.__neg__" sMNeg ["self"]
  abs : MethT K C "__abs__" "Amount.__abs__" sMAbs ["self"]
  bool : MethT K C "__bool__" "Amount.__bool__" sMBool ["self"]
section
variable {P : Program} {w : World} {K : PySem.W.Frag} {mg : Str → Option Value} {base : Heap} {C : Addr}
/-- Amount(i) -/
theorem rn_amount1 {X : Cx} (T : AmTxt X.K X.mg C) (hr : Room 3 X.A) : Rn X C (spMake C) [.int 1] E0 := by
  obtain ⟨fI, fd, mkC, F⟩ := T.mkC
  obtain ⟨ds, r, hb⟩ := F.binds1 (ps := ["self", "top", "bottom"]) 2 0 (by simp) rfl (fun Tp kV doc pm an cdv ct us its h1 h2 => match us, its, h1, h2 with | [_, _], [_], _, _ => ⟨_, rfl, rfl⟩)
  intro pins σ H1 s Q us vs I rv h
  refine run_make mkC (ok_init (P := X.prog) (w := X.w) (base := X.base) F T) hr hb r pass0 I rv ?_
  obtain ⟨tp, bt, ev, hb, h1, h2, q⟩ := h
  intro x dx nx nd ne
  have ev : vs ++ [V.int 1] = [.int tp, .int bt] := ev
  have s0 : Same H1 (upd (upd H1 dx (.own x)) x (.ins C dx [])) := fun b o e => by
    rw [upd_ne (ne_of_none e nx), upd_ne (ne_of_none e nd)]
    exact e
  refine ⟨x, dx, tp, bt, ?_, upd_same, hb, h1, h2, fun t b H' lw am k => ⟨rfl, q x t b H' lw am (fun c o e => k c o (s0 c o e) (ne_of_none e nx)) nx⟩⟩
  show V.ref x :: (vs ++ [V.int 1]) = _
  rw [ev]
theorem kpC (T : AmTxt K mg C) : PySem.W.keepIn K (.ref C) = true := let ⟨_, _, m, _⟩ := T.mkC; m.kp
def spOf (C : Addr) : Sp := fun vs H Q _ => ∃ (v : V) (t b : Int), vs = [v] ∧ AmV C H v t b ∧ t.natAbs < 2 ^ 8000 ∧ ∀ (a : Addr) (H' : Hp), AmAt C H' a t b → Same H H' → Q (.ref a) H'
theorem scOf : FnScope ["value"] ["value"] (defScope sOf) := ⟨rfl, rfl, rfl, by decide +kernel, rfl, by decide +kernel, by decide +kernel⟩
theorem ok_of {f : Addr} {fd : FuncData} (F : Fun K "amount_of" "amount_of" sOf f fd) (T : AmTxt K mg C) : FnOk P w K mg base CX0 4 f fd ["value"] (spOf C) := by
  have DI := d_ii (P := P) (w := w) (base := base) T
  refine F.ok scOf (fun vs H Q E h => ?_) (fun cdv A out s H vs Q E hr h => ?_)
  · obtain ⟨v, t, b, rfl, _⟩ := h
    rfl
  · obtain ⟨v, t, b, rfl, hv, ht, q⟩ := h
    refine ⟨_, (pss_cons (ps_if (pt_val (pe_callB call_isi (by rfl) T.b_isinstance (by decide +kernel) (pa_cons (pv 0) (pa_cons (pe_glob (v := .ref C) (by rfl) T.gC rfl) pa_nil)))) (pss_one (ps_ret (pv 0))) pss_nil)
  (pss_cons (ps_if (pt_not (pt_val (pe_callO DI (hr.mono (by decide)) (pa_cons (pv 0) pa_nil)))) (pss_one ps_never) pss_nil)
  (pss_one (ps_ret (pe_callC (rn_amount1 T (hr.mono (by decide))) T.gC (kpC T) (pa_cons (pv 0) pa_nil)))))), ?_⟩
    rcases hv with ⟨a, rfl, h1, hg⟩ | ⟨rfl, rfl⟩
    · refine ⟨_, rfl, .ref a, .ref C, .ref C, .ref C, true, rfl, .own C, .base (T.ty h1), kSelf, true, rfl, iteT ?_⟩
      exact ⟨_, rfl, q a H h1 (Same.refl _)⟩
    · refine ⟨_, rfl, .int t, .ref C, .type "int", .ref C, false, rfl, .own C, .base (.int t), T.na.i, false, rfl, iteF ?_⟩
      refine ⟨_, rfl, _, _, true, false, rfl, .base (.int t), kII, kIB, true, rfl, iteF ?_⟩
      refine ⟨_, rfl, t, 1, rfl, by decide, ht, by decide +kernel, fun x t' b' H' lw am s n => ?_⟩
      obtain ⟨rfl, rfl⟩ := lw.uniq (low_self (by decide) (gcd_one t)) (by decide)
      exact q x H' am s
theorem d_of (T : AmTxt K mg C) (O : AmOps K mg C) : DefO P w K mg base 4 "amount_of" ["value"] (spOf C) := let ⟨f, fd, hm, F, hb⟩ := O.tOf.ex; ⟨f, fd, hm, F.kp, ok_of F T, hb⟩
/-! ### +, -, * -/
def spAr (C : Addr) (F : Int → Int → Int → Int → Int × Int) : Sp := fun vs H Q _ => ∃ (a : Addr) (y : V) (t1 b1 t2 b2 : Int), vs = [.ref a, y] ∧ AmAt C H a t1 b1 ∧ Int.gcd t1 b1 = 1 ∧ AmV C H y t2 b2 ∧ t1.natAbs < 2 ^ 3000 ∧ b1.natAbs < 2 ^ 3000 ∧ t2.natAbs < 2 ^ 3000 ∧ b2.natAbs < 2 ^ 3000 ∧
  ∀ (r : Addr) (t b : Int) (H' : Hp), Low (F t1 b1 t2 b2).1 (F t1 b1 t2 b2).2 t b → AmAt C H' r t b → Same H H' → Q (.ref r) H'
def fAdd : Int → Int → Int → Int → Int × Int := fun t1 b1 t2 b2 => (t1 * b2 + t2 * b1, b1 * b2)
def fMul : Int → Int → Int → Int → Int × Int := fun t1 b1 t2 b2 => (t1 * t2, b1 * b2)
def fSub : Int → Int → Int → Int → Int × Int := fun t1 b1 t2 b2 => (t1 * b2 + -t2 * b1, b1 * b2)
def fRsub : Int → Int → Int → Int → Int × Int := fun t1 b1 t2 b2 => (t2 * b1 + -t1 * b2, b2 * b1)
def fRadd : Int → Int → Int → Int → Int × Int := fun t1 b1 t2 b2 => (t2 * b1 + t1 * b2, b2 * b1)
def fRmul : Int → Int → Int → Int → Int × Int := fun t1 b1 t2 b2 => (t2 * t1, b2 * b1)
theorem prod_lt {x y : Int} (hx : x.natAbs < 2 ^ 3000) (hy : y.natAbs < 2 ^ 3000) : (x * y).natAbs < 2 ^ 6000 := by
  rw [Int.natAbs_mul]
  have := Nat.mul_lt_mul'' hx hy
  rwa [← Nat.pow_add] at this
theorem p6 : 2 ^ 6000 + 2 ^ 6000 < 2 ^ 8000 := by decide +kernel
theorem mulW3 {x y : Int} (hx : x.natAbs < 2 ^ 3000) (hy : y.natAbs < 2 ^ 3000) : CMulW x y := by
  have h1 := PySem.Flt.log2_lt_of (k := 3000) (by decide) hx
  have h2 := PySem.Flt.log2_lt_of (k := 3000) (by decide) hy
  show x.natAbs.log2 + y.natAbs.log2 < 1000000
  omega
theorem scAdd : FnScope ["self", "other", "more", "top"] ["self", "other"] (defScope sMAdd) := ⟨rfl, rfl, rfl, by decide +kernel, rfl, by decide +kernel, by decide +kernel⟩
theorem ok_Add {f : Addr} {fd : FuncData} (F : Fun K "__add__" "Amount.__add__" sMAdd f fd) (T : AmTxt K mg C) (O : AmOps K mg C) : FnOk P w K mg base CX0 5 f fd ["self", "other"] (spAr C fAdd) := by
  have DOf := d_of (P := P) (w := w) (base := base) T O
  refine F.ok scAdd (fun vs H Q E h => ?_) (fun cdv A out s H vs Q E hr h => ?_)
  · obtain ⟨a, y, t1, b1, t2, b2, rfl, _⟩ := h
    rfl
  · obtain ⟨a, y, t1, b1, t2, b2, rfl, h1, hg, h2, l1, l2, l3, l4, q⟩ := h
    refine ⟨_, (pss_cons (ps_set (i := 2) scAdd.nd rfl (Or.inl rfl) (pe_callO DOf (hr.mono (by decide)) (pa_cons (pv 1) pa_nil)))
  (pss_cons (ps_set (i := 3) scAdd.nd rfl (Or.inl rfl) (pe_op op_add (pe_op op_mulW (pe_fld (pv 0) rfl) (pe_fld (pv 2) rfl)) (pe_op op_mulW (pe_fld (pv 2) rfl) (pe_fld (pv 0) rfl))))
  (pss_one (ps_ret (pe_callC (rn_amount T (hr.mono (by decide))) T.gC (kpC T) (pa_cons (pv 3) (pa_cons (pe_op op_mulW (pe_fld (pv 0) rfl) (pe_fld (pv 2) rfl)) pa_nil))))))), ?_⟩
    refine ⟨_, rfl, y, t2, b2, rfl, h2, Nat.lt_trans l3 (by decide +kernel), fun m H1 am s1 => ?_⟩
    obtain ⟨z1, d1, p1, e1, g1⟩ := h1.same s1
    obtain ⟨z2, d2, p2, e2, g2⟩ := id am
    refine ⟨_, rfl, a, C, d1, _, _, rfl, e1, T.cl, T.nT, am_top _ _ _, _, rfl, m, C, d2, _, _, rfl, e2, T.cl, T.nB, am_bottom _ _ _, _, _, rfl, rfl, mulW3 l1 l4, ?_⟩
    refine ⟨_, rfl, m, C, d2, _, _, rfl, e2, T.cl, T.nT, am_top _ _ _, _, rfl, a, C, d1, _, _, rfl, e1, T.cl, T.nB, am_bottom _ _ _, _, _, rfl, rfl, mulW3 l3 l2, _, _, rfl, rfl, ?_⟩
    refine ⟨_, rfl, _, rfl, a, C, d1, _, _, rfl, e1, T.cl, T.nB, am_bottom _ _ _, _, rfl, m, C, d2, _, _, rfl, e2, T.cl, T.nB, am_bottom _ _ _, _, _, rfl, rfl, mulW3 l2 l4, ?_⟩
    have u1 := prod_lt l1 l4
    have u2 := prod_lt l3 l2
    have u3 := prod_lt l2 l4
    have u4 := p6
    refine ⟨_, _, rfl, Int.mul_ne_zero (by omega) (by omega), ?_, by omega, fun x t b H' lw ax s2 n => q x t b H' lw ax (s1.trans s2)⟩
    have : (t1 * b2 + t2 * b1).natAbs ≤ (t1 * b2).natAbs + (t2 * b1).natAbs := Int.natAbs_add_le _ _
    omega
/-- both of them Amounts -/
def rArS (C : Addr) (F : Int → Int → Int → Int → Int × Int) : R2 := fun x y H Q => ∃ (a c : Addr) (t1 b1 t2 b2 : Int), x = .ref a ∧ y = .ref c ∧ AmAt C H a t1 b1 ∧ Int.gcd t1 b1 = 1 ∧ AmAt C H c t2 b2 ∧ Int.gcd t2 b2 = 1 ∧ t1.natAbs < 2 ^ 3000 ∧ b1.natAbs < 2 ^ 3000 ∧ t2.natAbs < 2 ^ 3000 ∧ b2.natAbs < 2 ^ 3000 ∧
  ∀ (r : Addr) (t b : Int) (H' : Hp), Low (F t1 b1 t2 b2).1 (F t1 b1 t2 b2).2 t b → AmAt C H' r t b → Same H H' → Q (.ref r) H'
theorem rArS_in {F : Int → Int → Int → Int → Int × Int} {x y : V} {H : Hp} {Q : VK} (h : rArS C F x y H Q) : rBinS C (spAr C F) E0 x y H Q := by
  obtain ⟨a, c, t1, b1, t2, b2, rfl, rfl, h1, g1, h2, g2, l1, l2, l3, l4, q⟩ := h
  obtain ⟨z1, d1, p1, e1, m1⟩ := id h1
  obtain ⟨z2, d2, p2, e2, m2⟩ := id h2
  exact ⟨a, c, d1, d2, _, _, rfl, rfl, e1, e2, a, .ref c, t1, b1, t2, b2, rfl, h1, g1, .inl ⟨c, rfl, h2, g2⟩, l1, l2, l3, l4, q⟩
section
variable {X : Cx}
theorem op_addS (T : AmTxt X.K X.mg C) (O : AmOps X.K X.mg C) (hr : Room 5 X.A) : OpR X (binaryOp .Add) (rArS C fAdd) :=
  let ⟨_, _, h1, h2, F, hb⟩ := O.add.ex
  opr_imp (op_binS O.sf h1 h2 (rn_of (ok_Add F T O) hr hb .nil pass0)) fun _ _ _ _ h => rArS_in h
end
def spOne (C : Addr) (F : Int → Int → Int × Int) : Sp := fun vs H Q _ => ∃ (a : Addr) (t b : Int), vs = [.ref a] ∧ AmAt C H a t b ∧ Int.gcd t b = 1 ∧ t.natAbs < 2 ^ 3000 ∧ b.natAbs < 2 ^ 3000 ∧ ∀ (r : Addr) (H' : Hp), AmAt C H' r (F t b).1 (F t b).2 → Same H H' → Q (.ref r) H'
theorem scNeg : FnScope ["self"] ["self"] (defScope sMNeg) := ⟨rfl, rfl, rfl, by decide +kernel, rfl, by decide +kernel, by decide +kernel⟩
theorem scAbs : FnScope ["self"] ["self"] (defScope sMAbs) := ⟨rfl, rfl, rfl, by decide +kernel, rfl, by decide +kernel, by decide +kernel⟩
theorem low_neg {t b : Int} (p : 0 < b) (g : Int.gcd t b = 1) : Low (-t) b (-t) b := low_self p (by rw [Int.neg_gcd]; exact g)
theorem ok_Neg {f : Addr} {fd : FuncData} (F : Fun K "__neg__" "Amount.__neg__" sMNeg f fd) (T : AmTxt K mg C) : FnOk P w K mg base CX0 4 f fd ["self"] (spOne C fun t b => (-t, b)) := by
  refine F.ok scNeg (fun vs H Q E h => ?_) (fun cdv A out s H vs Q E hr h => ?_)
  · obtain ⟨a, t, b, rfl, _⟩ := h
    rfl
  · obtain ⟨a, t, b, rfl, h1, hg, l1, l2, q⟩ := h
    refine ⟨_, (pss_one (ps_ret (pe_callC (rn_amount T (hr.mono (by decide))) T.gC (kpC T) (pa_cons (pe_un un_neg (pe_fld (pv 0) rfl)) (pa_cons (pe_fld (pv 0) rfl) pa_nil))))), ?_⟩
    obtain ⟨z1, d1, p1, e1, g1⟩ := id h1
    have big : 2 ^ 3000 < 2 ^ 8000 := by decide +kernel
    refine ⟨_, rfl, a, C, d1, _, _, rfl, e1, T.cl, T.nT, am_top _ _ _, _, rfl, _, rfl, a, C, d1, _, _, rfl, e1, T.cl, T.nB, am_bottom _ _ _, _, _, rfl, by omega, by rw [Int.natAbs_neg]; omega, by omega, fun x t' b' H' lw ax s2 n => ?_⟩
    obtain ⟨rfl, rfl⟩ := lw.uniq (low_neg z1 hg) (by omega)
    exact q x H' ax s2
theorem ok_Abs {f : Addr} {fd : FuncData} (F : Fun K "__abs__" "Amount.__abs__" sMAbs f fd) (T : AmTxt K mg C) : FnOk P w K mg base CX0 4 f fd ["self"] (spOne C fun t b => (if t < 0 then -t else t, b)) := by
  refine F.ok scAbs (fun vs H Q E h => ?_) (fun cdv A out s H vs Q E hr h => ?_)
  · obtain ⟨a, t, b, rfl, _⟩ := h
    rfl
  · obtain ⟨a, t, b, rfl, h1, hg, l1, l2, q⟩ := h
    refine ⟨_, (pss_one (ps_ret (pe_callC (rn_amount T (hr.mono (by decide))) T.gC (kpC T) (pa_cons (pe_callB call_abs (by rfl) T.b_abs (by decide +kernel) (pa_cons (pe_fld (pv 0) rfl) pa_nil)) (pa_cons (pe_fld (pv 0) rfl) pa_nil))))), ?_⟩
    obtain ⟨z1, d1, p1, e1, g1⟩ := id h1
    have big : 2 ^ 3000 < 2 ^ 8000 := by decide +kernel
    refine ⟨_, rfl, a, C, d1, _, _, rfl, e1, T.cl, T.nT, am_top _ _ _, _, rfl, _, rfl, a, C, d1, _, _, rfl, e1, T.cl, T.nB, am_bottom _ _ _, _, _, rfl, by omega, by split <;> omega, by omega, fun x t' b' H' lw ax s2 n => ?_⟩
    have l : Low (if t < 0 then -t else t) b (if t < 0 then -t else t) b := by
      split
      · exact low_neg z1 hg
      · exact low_self z1 hg
    obtain ⟨rfl, rfl⟩ := lw.uniq l (by omega)
    exact q x H' ax s2
section
variable {X : Cx}
def rOneC (C : Addr) (F : Int → Int → Int × Int) : V → Hp → VK → Prop := fun x H Q => ∃ (a : Addr) (t b : Int), x = .ref a ∧ AmAt C H a t b ∧ Int.gcd t b = 1 ∧ t.natAbs < 2 ^ 3000 ∧ b.natAbs < 2 ^ 3000 ∧ ∀ (r : Addr) (H' : Hp), AmAt C H' r (F t b).1 (F t b).2 → Same H H' → Q (.ref r) H'
theorem unr_imp {f : Value → Sem Value} {r r' : V → Hp → VK → Prop} (h : UnR X f r) (i : ∀ x H Q, r' x H Q → r x H Q) : UnR X f r' := fun pins s σ H x v Q I rx q => h pins s σ H x v Q I rx (i x H Q q)
theorem un_negAm (T : AmTxt X.K X.mg C) (O : AmOps X.K X.mg C) (hr : Room 4 X.A) : UnR X (unaryOp .USub) (rOneC C fun t b => (-t, b)) :=
  let ⟨_, _, h1, h2, F, hb⟩ := O.neg.ex
  unr_imp (un_negC h1 h2 (rn_of (ok_Neg F T) hr hb .nil pass0)) fun _ _ _ ⟨a, t, b, e, h1, g, l1, l2, q⟩ => let ⟨_, dx, _, e1, _⟩ := id h1; ⟨a, dx, _, e, e1, a, t, b, rfl, h1, g, l1, l2, q⟩
end
theorem scRadd : FnScope ["self", "other"] ["self", "other"] (defScope sMRadd) := ⟨rfl, rfl, rfl, by decide +kernel, rfl, by decide +kernel, by decide +kernel⟩
theorem ok_Radd {f : Addr} {fd : FuncData} (F : Fun K "__radd__" "Amount.__radd__" sMRadd f fd) (T : AmTxt K mg C) (O : AmOps K mg C) : FnOk P w K mg base CX0 6 f fd ["self", "other"] (spAr C fRadd) := by
  have DOf := d_of (P := P) (w := w) (base := base) T O
  refine F.ok scRadd (fun vs H Q E h => ?_) (fun cdv A out s H vs Q E hr h => ?_)
  · obtain ⟨a, y, t1, b1, t2, b2, rfl, _⟩ := h
    rfl
  · obtain ⟨a, y, t1, b1, t2, b2, rfl, h1, hg, h2, l1, l2, l3, l4, q⟩ := h
    refine ⟨_, (pss_one (ps_ret (pe_op (op_addS T O (hr.mono (by decide))) (pe_callO DOf (hr.mono (by decide)) (pa_cons (pv 1) pa_nil)) (pv 0)))), ?_⟩
    have big : t2.natAbs < 2 ^ 8000 := Nat.lt_trans l3 (by decide +kernel)
    have c2 := h2.cop
    have n2 : (-t2).natAbs < 2 ^ 3000 := by rw [Int.natAbs_neg]; exact l3
    have n1 : (-t1).natAbs < 2 ^ 3000 := by rw [Int.natAbs_neg]; exact l1
    have gn1 : Int.gcd (-t1) b1 = 1 := by rw [Int.neg_gcd]; exact hg
    have gn2 : Int.gcd (-t2) b2 = 1 := by rw [Int.neg_gcd]; exact c2.2
    exact ⟨_, rfl, y, t2, b2, rfl, h2, big, fun m H1 am s1 => ⟨_, rfl, m, a, t2, b2, t1, b1, rfl, rfl, am, c2.2, h1.same s1, hg, l3, l4, l1, l2, fun r t b H' lw ax s2 => q r t b H' lw ax (s1.trans s2)⟩⟩
theorem scSub : FnScope ["self", "other"] ["self", "other"] (defScope sMSub) := ⟨rfl, rfl, rfl, by decide +kernel, rfl, by decide +kernel, by decide +kernel⟩
theorem ok_Sub {f : Addr} {fd : FuncData} (F : Fun K "__sub__" "Amount.__sub__" sMSub f fd) (T : AmTxt K mg C) (O : AmOps K mg C) : FnOk P w K mg base CX0 6 f fd ["self", "other"] (spAr C fSub) := by
  have DOf := d_of (P := P) (w := w) (base := base) T O
  refine F.ok scSub (fun vs H Q E h => ?_) (fun cdv A out s H vs Q E hr h => ?_)
  · obtain ⟨a, y, t1, b1, t2, b2, rfl, _⟩ := h
    rfl
  · obtain ⟨a, y, t1, b1, t2, b2, rfl, h1, hg, h2, l1, l2, l3, l4, q⟩ := h
    refine ⟨_, (pss_one (ps_ret (pe_op (op_addS T O (hr.mono (by decide))) (pv 0) (pe_un (un_negAm T O (hr.mono (by decide))) (pe_callO DOf (hr.mono (by decide)) (pa_cons (pv 1) pa_nil)))))), ?_⟩
    have big : t2.natAbs < 2 ^ 8000 := Nat.lt_trans l3 (by decide +kernel)
    have c2 := h2.cop
    have n2 : (-t2).natAbs < 2 ^ 3000 := by rw [Int.natAbs_neg]; exact l3
    have n1 : (-t1).natAbs < 2 ^ 3000 := by rw [Int.natAbs_neg]; exact l1
    have gn1 : Int.gcd (-t1) b1 = 1 := by rw [Int.neg_gcd]; exact hg
    have gn2 : Int.gcd (-t2) b2 = 1 := by rw [Int.neg_gcd]; exact c2.2
    exact ⟨_, rfl, _, rfl, y, t2, b2, rfl, h2, big, fun m H1 am s1 => ⟨m, t2, b2, rfl, am, c2.2, l3, l4, fun r H2 an s2 => ⟨a, r, t1, b1, -t2, b2, rfl, rfl, (h1.same s1).same s2, hg, an, gn2, l1, l2, n2, l4, fun r t b H' lw ax s3 => q r t b H' lw ax ((s1.trans s2).trans s3)⟩⟩⟩
theorem scRsub : FnScope ["self", "other"] ["self", "other"] (defScope sMRsub) := ⟨rfl, rfl, rfl, by decide +kernel, rfl, by decide +kernel, by decide +kernel⟩
theorem ok_Rsub {f : Addr} {fd : FuncData} (F : Fun K "__rsub__" "Amount.__rsub__" sMRsub f fd) (T : AmTxt K mg C) (O : AmOps K mg C) : FnOk P w K mg base CX0 6 f fd ["self", "other"] (spAr C fRsub) := by
  have DOf := d_of (P := P) (w := w) (base := base) T O
  refine F.ok scRsub (fun vs H Q E h => ?_) (fun cdv A out s H vs Q E hr h => ?_)
  · obtain ⟨a, y, t1, b1, t2, b2, rfl, _⟩ := h
    rfl
  · obtain ⟨a, y, t1, b1, t2, b2, rfl, h1, hg, h2, l1, l2, l3, l4, q⟩ := h
    refine ⟨_, (pss_one (ps_ret (pe_op (op_addS T O (hr.mono (by decide))) (pe_callO DOf (hr.mono (by decide)) (pa_cons (pv 1) pa_nil)) (pe_un (un_negAm T O (hr.mono (by decide))) (pv 0))))), ?_⟩
    have big : t2.natAbs < 2 ^ 8000 := Nat.lt_trans l3 (by decide +kernel)
    have c2 := h2.cop
    have n2 : (-t2).natAbs < 2 ^ 3000 := by rw [Int.natAbs_neg]; exact l3
    have n1 : (-t1).natAbs < 2 ^ 3000 := by rw [Int.natAbs_neg]; exact l1
    have gn1 : Int.gcd (-t1) b1 = 1 := by rw [Int.neg_gcd]; exact hg
    have gn2 : Int.gcd (-t2) b2 = 1 := by rw [Int.neg_gcd]; exact c2.2
    exact ⟨_, rfl, y, t2, b2, rfl, h2, big, fun m H1 am s1 => ⟨_, rfl, a, t1, b1, rfl, h1.same s1, hg, l1, l2, fun r H2 an s2 => ⟨m, r, t2, b2, -t1, b1, rfl, rfl, am.same s2, c2.2, an, gn1, l3, l4, n1, l2, fun r t b H' lw ax s3 => q r t b H' lw ax ((s1.trans s2).trans s3)⟩⟩⟩
theorem scMul : FnScope ["self", "other", "more"] ["self", "other"] (defScope sMMul) := ⟨rfl, rfl, rfl, by decide +kernel, rfl, by decide +kernel, by decide +kernel⟩
theorem ok_Mul {f : Addr} {fd : FuncData} (F : Fun K "__mul__" "Amount.__mul__" sMMul f fd) (T : AmTxt K mg C) (O : AmOps K mg C) : FnOk P w K mg base CX0 5 f fd ["self", "other"] (spAr C fMul) := by
  have DOf := d_of (P := P) (w := w) (base := base) T O
  refine F.ok scMul (fun vs H Q E h => ?_) (fun cdv A out s H vs Q E hr h => ?_)
  · obtain ⟨a, y, t1, b1, t2, b2, rfl, _⟩ := h
    rfl
  · obtain ⟨a, y, t1, b1, t2, b2, rfl, h1, hg, h2, l1, l2, l3, l4, q⟩ := h
    refine ⟨_, (pss_cons (ps_set (i := 2) scMul.nd rfl (Or.inl rfl) (pe_callO DOf (hr.mono (by decide)) (pa_cons (pv 1) pa_nil)))
  (pss_one (ps_ret (pe_callC (rn_amount T (hr.mono (by decide))) T.gC (kpC T) (pa_cons (pe_op op_mulW (pe_fld (pv 0) rfl) (pe_fld (pv 2) rfl)) (pa_cons (pe_op op_mulW (pe_fld (pv 0) rfl) (pe_fld (pv 2) rfl)) pa_nil)))))), ?_⟩
    refine ⟨_, rfl, y, t2, b2, rfl, h2, Nat.lt_trans l3 (by decide +kernel), fun m H1 am s1 => ?_⟩
    obtain ⟨z1, d1, p1, e1, g1⟩ := h1.same s1
    obtain ⟨z2, d2, p2, e2, g2⟩ := id am
    refine ⟨_, rfl, a, C, d1, _, _, rfl, e1, T.cl, T.nT, am_top _ _ _, _, rfl, m, C, d2, _, _, rfl, e2, T.cl, T.nT, am_top _ _ _, _, _, rfl, rfl, mulW3 l1 l3, ?_⟩
    refine ⟨_, rfl, a, C, d1, _, _, rfl, e1, T.cl, T.nB, am_bottom _ _ _, _, rfl, m, C, d2, _, _, rfl, e2, T.cl, T.nB, am_bottom _ _ _, _, _, rfl, rfl, mulW3 l2 l4, ?_⟩
    have u1 := prod_lt l1 l3
    have u3 := prod_lt l2 l4
    have u4 := p6
    exact ⟨_, _, rfl, Int.mul_ne_zero (by omega) (by omega), by omega, by omega, fun x t b H' lw ax s2 n => q x t b H' lw ax (s1.trans s2)⟩
section
variable {X : Cx}
theorem op_mulS (T : AmTxt X.K X.mg C) (O : AmOps X.K X.mg C) (hr : Room 5 X.A) : OpR X (binaryOp .Mult) (rArS C fMul) :=
  let ⟨_, _, h1, h2, F, hb⟩ := O.mul.ex
  opr_imp (op_binS O.sf h1 h2 (rn_of (ok_Mul F T O) hr hb .nil pass0)) fun _ _ _ _ h => rArS_in h
end
theorem scRmul : FnScope ["self", "other"] ["self", "other"] (defScope sMRmul) := ⟨rfl, rfl, rfl, by decide +kernel, rfl, by decide +kernel, by decide +kernel⟩
theorem ok_Rmul {f : Addr} {fd : FuncData} (F : Fun K "__rmul__" "Amount.__rmul__" sMRmul f fd) (T : AmTxt K mg C) (O : AmOps K mg C) : FnOk P w K mg base CX0 6 f fd ["self", "other"] (spAr C fRmul) := by
  have DOf := d_of (P := P) (w := w) (base := base) T O
  refine F.ok scRmul (fun vs H Q E h => ?_) (fun cdv A out s H vs Q E hr h => ?_)
  · obtain ⟨a, y, t1, b1, t2, b2, rfl, _⟩ := h
    rfl
  · obtain ⟨a, y, t1, b1, t2, b2, rfl, h1, hg, h2, l1, l2, l3, l4, q⟩ := h
    refine ⟨_, (pss_one (ps_ret (pe_op (op_mulS T O (hr.mono (by decide))) (pe_callO DOf (hr.mono (by decide)) (pa_cons (pv 1) pa_nil)) (pv 0)))), ?_⟩
    have big : t2.natAbs < 2 ^ 8000 := Nat.lt_trans l3 (by decide +kernel)
    exact ⟨_, rfl, y, t2, b2, rfl, h2, big, fun m H1 am s1 => ⟨_, rfl, m, a, t2, b2, t1, b1, rfl, rfl, am, h2.cop.2, h1.same s1, hg, l3, l4, l1, l2, fun r t b H' lw ax s2 => q r t b H' lw ax (s1.trans s2)⟩⟩
theorem scBool : FnScope ["self"] ["self"] (defScope sMBool) := ⟨rfl, rfl, rfl, by decide +kernel, rfl, by decide +kernel, by decide +kernel⟩
def spBool (C : Addr) : Sp := fun vs H Q _ => ∃ (a : Addr) (t b : Int), vs = [.ref a] ∧ AmAt C H a t b ∧ Q (.bl (!decide (t = 0))) H
theorem ok_Bool {f : Addr} {fd : FuncData} (F : Fun K "__bool__" "Amount.__bool__" sMBool f fd) (T : AmTxt K mg C) : FnOk P w K mg base CX0 1 f fd ["self"] (spBool C) := by
  refine F.ok scBool (fun vs H Q E h => ?_) (fun cdv A out s H vs Q E hr h => ?_)
  · obtain ⟨a, t, b, rfl, _⟩ := h
    rfl
  · obtain ⟨a, t, b, rfl, h1, q⟩ := h
    refine ⟨_, (pss_one (ps_ret (pe_callTy call_bool1 (by rfl) T.b_bool (by decide +kernel) (pa_cons (pe_cmpR op_ne (pe_fld (pv 0) rfl) pe_int (nomark _)) pa_nil)))), ?_⟩
    obtain ⟨z1, d1, p1, e1, g1⟩ := id h1
    refine ⟨_, rfl, a, C, d1, _, _, rfl, e1, T.cl, T.nT, am_top _ _ _, ?_⟩
    refine ⟨rfl, .inr ⟨_, rfl, ?_⟩⟩
    rw [show decide (V.int t = V.int 0) = decide (t = 0) from decide_eq_decide.mpr ⟨fun z => by injection z, fun z => by rw [z]⟩]
    exact q
/-! ### over -/
def fDiv : Int → Int → Int → Int → Int × Int := fun t1 b1 t2 b2 => (t1 * b2, b1 * t2)
def spDiv (C : Addr) : Sp := fun vs H Q E => spAr C fDiv vs H Q E ∧ ∃ (a : Addr) (y : V) (t2 b2 : Int), vs = [.ref a, y] ∧ AmV C H y t2 b2 ∧ t2 ≠ 0
theorem AmV.uniq {H : Hp} {v : V} {t b t' b' : Int} (h : AmV C H v t b) (h' : AmV C H v t' b') : t = t' ∧ b = b' := by
  rcases h with ⟨a, rfl, ⟨_, dx, pl, e, _⟩, _⟩ | ⟨rfl, rfl⟩
  · rcases h' with ⟨a', e', ⟨_, dx', pl', k, _⟩, _⟩ | ⟨e', _⟩
    · cases e'
      rw [e] at k
      injection k with k
      injection k with _ _ k
      simp only [amF, List.cons.injEq, Prod.mk.injEq, V.int.injEq] at k
      exact ⟨k.1.2, k.2.1.2⟩
    · cases e'
  · rcases h' with ⟨a', e', _⟩ | ⟨e', rfl⟩
    · cases e'
    · cases e'
      exact ⟨rfl, rfl⟩
theorem scOver : FnScope ["self", "other", "divisor"] ["self", "other"] (defScope sMOver) := ⟨rfl, rfl, rfl, by decide +kernel, rfl, by decide +kernel, by decide +kernel⟩
theorem ok_Over {f : Addr} {fd : FuncData} (F : Fun K "over" "Amount.over" sMOver f fd) (T : AmTxt K mg C) (O : AmOps K mg C) : FnOk P w K mg base CX0 5 f fd ["self", "other"] (spDiv C) := by
  have DOf := d_of (P := P) (w := w) (base := base) T O
  refine F.ok scOver (fun vs H Q E h => ?_) (fun cdv A out s H vs Q E hr h => ?_)
  · obtain ⟨⟨a, y, t1, b1, t2, b2, rfl, _⟩, _⟩ := h
    rfl
  · obtain ⟨⟨a, y, t1, b1, t2, b2, rfl, h1, hg, h2, l1, l2, l3, l4, q⟩, a', y', t2', b2', ev, h2', nz⟩ := h
    cases ev
    obtain ⟨rfl, rfl⟩ := h2.uniq h2'
    refine ⟨_, (pss_cons (ps_set (i := 2) scOver.nd rfl (Or.inl rfl) (pe_callO DOf (hr.mono (by decide)) (pa_cons (pv 1) pa_nil)))
  (pss_cons (ps_if (pt_cmpR op_eq (pe_fld (pv 2) rfl) pe_int (nomark _)) (pss_one ps_never) pss_nil)
  (pss_one (ps_ret (pe_callC (rn_amount T (hr.mono (by decide))) T.gC (kpC T) (pa_cons (pe_op op_mulW (pe_fld (pv 0) rfl) (pe_fld (pv 2) rfl)) (pa_cons (pe_op op_mulW (pe_fld (pv 0) rfl) (pe_fld (pv 2) rfl)) pa_nil))))))), ?_⟩
    refine ⟨_, rfl, y, t2, b2, rfl, h2, Nat.lt_trans l3 (by decide +kernel), fun m H1 am s1 => ?_⟩
    obtain ⟨z1, d1, p1, e1, g1⟩ := h1.same s1
    obtain ⟨z2, d2, p2, e2, g2⟩ := id am
    refine ⟨_, rfl, m, C, d2, _, _, rfl, e2, T.cl, T.nT, am_top _ _ _, rfl, _, rfl, ?_⟩
    rw [decide_eq_false (show ¬ V.int t2 = V.int 0 from fun z => nz (by injection z))]
    refine iteF ?_
    refine ⟨_, rfl, a, C, d1, _, _, rfl, e1, T.cl, T.nT, am_top _ _ _, _, rfl, m, C, d2, _, _, rfl, e2, T.cl, T.nB, am_bottom _ _ _, _, _, rfl, rfl, mulW3 l1 l4, ?_⟩
    refine ⟨_, rfl, a, C, d1, _, _, rfl, e1, T.cl, T.nB, am_bottom _ _ _, _, rfl, m, C, d2, _, _, rfl, e2, T.cl, T.nT, am_top _ _ _, _, _, rfl, rfl, mulW3 l2 l3, ?_⟩
    have u1 := prod_lt l1 l4
    have u3 := prod_lt l2 l3
    have u4 := p6
    exact ⟨_, _, rfl, Int.mul_ne_zero (by omega) nz, by omega, by omega, fun x t b H' lw ax s2 n => q x t b H' lw ax (s1.trans s2)⟩
/-! ### bottom, sign -/
theorem scBot : FnScope ["self"] ["self"] (defScope sMBot) := ⟨rfl, rfl, rfl, by decide +kernel, rfl, by decide +kernel, by decide +kernel⟩
theorem scSgn : FnScope ["self"] ["self"] (defScope sMSign) := ⟨rfl, rfl, rfl, by decide +kernel, rfl, by decide +kernel, by decide +kernel⟩
def spBot (C : Addr) : Sp := fun vs H Q _ => ∃ (a : Addr) (t b : Int), vs = [.ref a] ∧ AmAt C H a t b ∧ Q (.int b) H
def sg1 (t : Int) : Int := (if decide (t > 0) = true then 1 else 0) - (if decide (t < 0) = true then 1 else 0)
def spSgn (C : Addr) : Sp := fun vs H Q _ => ∃ (a : Addr) (t b : Int), vs = [.ref a] ∧ AmAt C H a t b ∧ Q (.int (sg1 t)) H
theorem ok_Bot {f : Addr} {fd : FuncData} (F : Fun K "bottom" "Amount.bottom" sMBot f fd) (T : AmTxt K mg C) : FnOk P w K mg base CX0 1 f fd ["self"] (spBot C) := by
  refine F.ok scBot (fun vs H Q E h => ?_) (fun cdv A out s H vs Q E hr h => ?_)
  · obtain ⟨a, t, b, rfl, _⟩ := h
    rfl
  · obtain ⟨a, t, b, rfl, h1, q⟩ := h
    obtain ⟨z1, d1, p1, e1, g1⟩ := id h1
    refine ⟨_, (pss_one (ps_ret (pe_fld (pv 0) rfl))), ?_⟩
    exact ⟨_, rfl, a, C, d1, _, _, rfl, e1, T.cl, T.nB, am_bottom _ _ _, q⟩
theorem ok_Sgn {f : Addr} {fd : FuncData} (F : Fun K "sign" "Amount.sign" sMSign f fd) (T : AmTxt K mg C) : FnOk P w K mg base CX0 1 f fd ["self"] (spSgn C) := by
  refine F.ok scSgn (fun vs H Q E h => ?_) (fun cdv A out s H vs Q E hr h => ?_)
  · obtain ⟨a, t, b, rfl, _⟩ := h
    rfl
  · obtain ⟨a, t, b, rfl, h1, q⟩ := h
    obtain ⟨z1, d1, p1, e1, g1⟩ := id h1
    refine ⟨_, (pss_one (ps_ret (pe_op op_sub (pe_callTy call_int1 (by rfl) T.b_int (by decide +kernel) (pa_cons (pe_cmpR op_gt (pe_fld (pv 0) rfl) pe_int (nomark _)) pa_nil)) (pe_callTy call_int1 (by rfl) T.b_int (by decide +kernel) (pa_cons (pe_cmpR op_lt (pe_fld (pv 0) rfl) pe_int (nomark _)) pa_nil))))), ?_⟩
    refine ⟨_, rfl, a, C, d1, _, _, rfl, e1, T.cl, T.nT, am_top _ _ _, _, _, rfl, rfl, .inr ⟨_, rfl, ?_⟩⟩
    exact ⟨_, rfl, a, C, d1, _, _, rfl, e1, T.cl, T.nT, am_top _ _ _, _, _, rfl, rfl, .inr ⟨_, rfl, _, _, rfl, rfl, q⟩⟩
/-! ### the rules for a law -/
section
variable {X : Cx}
theorem opr_or {f : Value → Value → Sem Value} {r1 r2 : R2} (h1 : OpR X f r1) (h2 : OpR X f r2) : OpR X f fun x y H Q => r1 x y H Q ∨ r2 x y H Q := fun pins s σ H x y v u Q I rx ry q => q.elim (h1 pins s σ H x y v u Q I rx ry) (h2 pins s σ H x y v u Q I rx ry)
/-- two amounts, at least one of them an Amount -/
def rArV (C : Addr) (F : Int → Int → Int → Int → Int × Int) : R2 := fun x y H Q => ∃ (t1 b1 t2 b2 : Int), AmV C H x t1 b1 ∧ AmV C H y t2 b2 ∧ ((∃ a, x = .ref a) ∨ ∃ a, y = .ref a) ∧ t1.natAbs < 2 ^ 3000 ∧ b1.natAbs < 2 ^ 3000 ∧ t2.natAbs < 2 ^ 3000 ∧ b2.natAbs < 2 ^ 3000 ∧
  ∀ (r : Addr) (t b : Int) (H' : Hp), Low (F t1 b1 t2 b2).1 (F t1 b1 t2 b2).2 t b → AmAt C H' r t b → Same H H' → Q (.ref r) H'
theorem rArV_in {F G : Int → Int → Int → Int → Int × Int} {x y : V} {H : Hp} {Q : VK} (e : ∀ t1 b1 t2 b2, G t2 b2 t1 b1 = F t1 b1 t2 b2) (h : rArV C F x y H Q) : (rBinS C (spAr C F) E0 x y H Q ∨ rBinI C (spAr C F) E0 x y H Q) ∨ rBinR C (spAr C G) E0 x y H Q := by
  obtain ⟨t1, b1, t2, b2, hx, hy, ho, l1, l2, l3, l4, q⟩ := h
  rcases hx with ⟨a, rfl, h1, g1⟩ | ⟨rfl, rfl⟩
  · obtain ⟨z1, d1, p1, e1, m1⟩ := id h1
    refine .inl ?_
    rcases hy with ⟨c, rfl, h2, g2⟩ | ⟨rfl, rfl⟩
    · obtain ⟨z2, d2, p2, e2, m2⟩ := id h2
      exact .inl ⟨a, c, d1, d2, _, _, rfl, rfl, e1, e2, a, .ref c, t1, b1, t2, b2, rfl, h1, g1, .inl ⟨c, rfl, h2, g2⟩, l1, l2, l3, l4, q⟩
    · exact .inr ⟨a, d1, _, t2, rfl, rfl, e1, a, .int t2, t1, b1, t2, 1, rfl, h1, g1, .inr ⟨rfl, rfl⟩, l1, l2, l3, l4, q⟩
  · rcases hy with ⟨c, rfl, h2, g2⟩ | ⟨rfl, rfl⟩
    · obtain ⟨z2, d2, p2, e2, m2⟩ := id h2
      exact .inr ⟨c, d2, _, t1, rfl, rfl, e2, c, .int t1, t2, b2, t1, 1, rfl, h2, g2, .inr ⟨rfl, rfl⟩, l3, l4, l1, l2, by rw [e]; exact q⟩
    · rcases ho with ⟨_, z⟩ | ⟨_, z⟩ <;> cases z
theorem op_addAm (T : AmTxt X.K X.mg C) (O : AmOps X.K X.mg C) (hr : Room 6 X.A) : OpR X (binaryOp .Add) (rArV C fAdd) :=
  let ⟨_, _, h1, h2, F1, hb⟩ := O.add.ex
  let ⟨_, _, h3, h4, F2, hb2⟩ := O.radd.ex
  opr_imp (opr_or (opr_or (op_binS O.sf h1 h2 (rn_of (ok_Add F1 T O) (hr.mono (by decide)) hb .nil pass0)) (op_binI (fo := some (.builtin "int.__add__")) (ro := some (.builtin "int.__radd__")) O.sf h1 h2 h3 (by decide +kernel) (by decide +kernel) (rn_of (ok_Add F1 T O) (hr.mono (by decide)) hb .nil pass0)))
    (op_binR (id := "int.__add__") O.sf h1 h3 h4 O.si F.fills_int_add F.slot_int_add (fun hx q => int_add_no hx q) (rn_of (ok_Radd F2 T O) hr hb2 .nil pass0))) fun _ _ _ _ h => rArV_in (fun _ _ _ _ => rfl) h
theorem op_subAm (T : AmTxt X.K X.mg C) (O : AmOps X.K X.mg C) (hr : Room 6 X.A) : OpR X (binaryOp .Sub) (rArV C fSub) :=
  let ⟨_, _, h1, h2, F1, hb⟩ := O.sub.ex
  let ⟨_, _, h3, h4, F2, hb2⟩ := O.rsub.ex
  opr_imp (opr_or (opr_or (op_binS O.sf h1 h2 (rn_of (ok_Sub F1 T O) hr hb .nil pass0)) (op_binI (fo := some (.builtin "int.__sub__")) (ro := some (.builtin "int.__rsub__")) O.sf h1 h2 h3 (by decide +kernel) (by decide +kernel) (rn_of (ok_Sub F1 T O) hr hb .nil pass0)))
    (op_binR (id := "int.__sub__") O.sf h1 h3 h4 O.si F.fills_int_sub F.slot_int_sub (fun hx q => int_sub_no hx q) (rn_of (ok_Rsub F2 T O) hr hb2 .nil pass0))) fun _ _ _ _ h => rArV_in (fun _ _ _ _ => rfl) h
theorem op_mulAm (T : AmTxt X.K X.mg C) (O : AmOps X.K X.mg C) (hr : Room 6 X.A) : OpR X (binaryOp .Mult) (rArV C fMul) :=
  let ⟨_, _, h1, h2, F1, hb⟩ := O.mul.ex
  let ⟨_, _, h3, h4, F2, hb2⟩ := O.rmul.ex
  opr_imp (opr_or (opr_or (op_binS O.sf h1 h2 (rn_of (ok_Mul F1 T O) (hr.mono (by decide)) hb .nil pass0)) (op_binI (fo := some (.builtin "int.__mul__")) (ro := some (.builtin "int.__rmul__")) O.sf h1 h2 h3 (by decide +kernel) (by decide +kernel) (rn_of (ok_Mul F1 T O) (hr.mono (by decide)) hb .nil pass0)))
    (op_binR (id := "int.__mul__") O.sf h1 h3 h4 O.si F.fills_int_mul F.slot_int_mul (fun hx q => int_mul_no hx q) (rn_of (ok_Rmul F2 T O) hr hb2 .nil pass0))) fun _ _ _ _ h => rArV_in (fun _ _ _ _ => rfl) h
theorem callr_imp2 {f : Value} {r r' : List V → Hp → VK → Prop} (h : CallR X f r) (i : ∀ xs H Q, r' xs H Q → r xs H Q) : CallR X f r' := fun pins s σ H xs us Q I rv q => h pins s σ H xs us Q I rv (i xs H Q q)
theorem call_absAm (T : AmTxt X.K X.mg C) (O : AmOps X.K X.mg C) (hr : Room 5 X.A) : CallR X (.builtin "abs") (fun xs H Q => ∃ x, xs = [x] ∧ rOneC C (fun t b => (if t < 0 then -t else t, b)) x H Q) :=
  let ⟨_, _, h1, h2, F1, hb⟩ := O.abs.ex
  callr_imp2 (call_absC h1 h2 (rn_of (X := in1 X) (ok_Abs F1 T) hr.in1 hb .nil pass0)) fun _ _ _ ⟨x, ex, a, t, b, e, h1, g, l1, l2, q⟩ => let ⟨_, dx, _, e1, _⟩ := id h1; ⟨a, dx, _, by rw [ex, e], e1, a, t, b, rfl, h1, g, l1, l2, q⟩
theorem call_boolAm (T : AmTxt X.K X.mg C) (O : AmOps X.K X.mg C) (hr : Room 3 X.A) : CallR X (.type "bool") (fun xs H Q => ∃ (a : Addr) (t b : Int), xs = [.ref a] ∧ AmAt C H a t b ∧ Q (.bl (!decide (t = 0))) H) :=
  let ⟨_, _, h1, h2, F1, hb⟩ := O.bool.ex
  callr_imp2 (call_boolC h1 h2 (rn_of (X := in1 (in1 X)) (ok_Bool F1 T) hr.in1.in1 hb .nil pass0)) fun _ _ _ ⟨a, t, b, ex, h1, q⟩ => let ⟨_, dx, _, e1, _⟩ := id h1; ⟨a, dx, _, ex, e1, a, t, b, rfl, h1, _, rfl, q⟩
end
end
end SP
namespace SP
open PySem PySem.Spec PyProof.Rows L2
abbrev sMSum : Stmt := inClass (top 13) 1


/-! ### in lowest terms, as a function -/
def lod (z b : Int) : Int := (Int.gcd z b : Nat) * (if 0 < b then 1 else -1)
def lo (z b : Int) : Int × Int := (z.fdiv (lod z b), b.fdiv (lod z b))
theorem low_lo {z b : Int} (h : b ≠ 0) : Low z b (lo z b).1 (lo z b).2 := by
  refine (low_of (s := if 0 < b then 1 else -1) h ?_ rfl).2.2
  split
  · exact .inl ⟨rfl, by assumption⟩
  · exact .inr ⟨rfl, by omega⟩
theorem Low.is {z b t d : Int} (l : Low z b t d) (h : b ≠ 0) : (t, d) = lo z b := by
  obtain ⟨e1, e2⟩ := l.uniq (low_lo h) h
  rw [e1, e2]
theorem lo_cop {t b : Int} (p : 0 < b) (g : Int.gcd t b = 1) : lo t b = (t, b) := ((low_self p g).is (by omega)).symm
/-- a fraction in lowest terms -/
def Cop (f : Int × Int) : Prop := 0 < f.2 ∧ Int.gcd f.1 f.2 = 1
theorem lo_Cop {z b : Int} (h : b ≠ 0) : Cop (lo z b) := ⟨(low_lo h).pos, (low_lo h).one⟩
/-- both parts below 2 ^ n -/
def Bd (n : Nat) (f : Int × Int) : Prop := f.1.natAbs < 2 ^ n ∧ f.2.natAbs < 2 ^ n
theorem Bd.mono {n m : Nat} {f : Int × Int} (h : Bd n f) (k : n ≤ m) : Bd m f := ⟨Nat.lt_of_lt_of_le h.1 (Nat.pow_le_pow_right (by decide) k), Nat.lt_of_lt_of_le h.2 (Nat.pow_le_pow_right (by decide) k)⟩
theorem lo_Bd {n : Nat} {z b : Int} (h : b ≠ 0) (k : Bd n (z, b)) : Bd n (lo z b) := ⟨Nat.lt_of_le_of_lt (low_lo h).lt k.1, Nat.lt_of_le_of_lt (low_lo h).lb k.2⟩
def plus (p q : Int × Int) : Int × Int := lo (p.1 * q.2 + q.1 * p.2) (p.2 * q.2)
def times (p q : Int × Int) : Int × Int := lo (p.1 * q.1) (p.2 * q.2)
theorem mul_Bd {n m : Nat} {x y : Int} (hx : x.natAbs < 2 ^ n) (hy : y.natAbs < 2 ^ m) : (x * y).natAbs < 2 ^ (n + m) := by
  rw [Int.natAbs_mul, Nat.pow_add]
  exact Nat.mul_lt_mul'' hx hy
theorem add_Bd {n : Nat} {x y : Int} (hx : x.natAbs < 2 ^ n) (hy : y.natAbs < 2 ^ n) : (x + y).natAbs < 2 ^ (n + 1) := by
  have := Int.natAbs_add_le x y
  rw [Nat.pow_succ]
  omega
theorem plus_Bd {n m : Nat} {p q : Int × Int} (hp : Bd n p) (hq : Bd m q) (p0 : Cop p) (q0 : Cop q) : Bd (n + m + 1) (plus p q) ∧ Cop (plus p q) := by
  have nz : p.2 * q.2 ≠ 0 := Int.mul_ne_zero (by have := p0.1; omega) (by have := q0.1; omega)
  refine ⟨lo_Bd nz ⟨add_Bd (mul_Bd hp.1 hq.2) ?_, Nat.lt_of_lt_of_le (mul_Bd hp.2 hq.2) (Nat.pow_le_pow_right (by decide) (by omega))⟩, lo_Cop nz⟩
  rw [Nat.add_comm]
  exact mul_Bd hq.1 hp.2
theorem times_Bd {n m : Nat} {p q : Int × Int} (hp : Bd n p) (hq : Bd m q) (p0 : Cop p) (q0 : Cop q) : Bd (n + m) (times p q) ∧ Cop (times p q) := by
  have nz : p.2 * q.2 ≠ 0 := Int.mul_ne_zero (by have := p0.1; omega) (by have := q0.1; omega)
  exact ⟨lo_Bd nz ⟨mul_Bd hp.1 hq.1, mul_Bd hp.2 hq.2⟩, lo_Cop nz⟩
def neg1 (p : Int × Int) : Int × Int := (-p.1, p.2)
theorem neg1_Cop {p : Int × Int} (h : Cop p) : Cop (neg1 p) := ⟨h.1, by show Int.gcd (-p.1) p.2 = 1; rw [Int.neg_gcd]; exact h.2⟩
theorem neg1_Bd {n : Nat} {p : Int × Int} (h : Bd n p) : Bd n (neg1 p) := ⟨by show (-p.1).natAbs < 2 ^ n; rw [Int.natAbs_neg]; exact h.1, h.2⟩
/-- v is the amount f -/
def AV (C : Addr) (H : Hp) (v : V) (f : Int × Int) : Prop := AmV C H v f.1 f.2
theorem AV.same {C : Addr} {H H' : Hp} {v : V} {f : Int × Int} (h : AV C H v f) (s : Same H H') : AV C H' v f := AmV.same h s
theorem AV.cop {C : Addr} {H : Hp} {v : V} {f : Int × Int} (h : AV C H v f) : Cop f := AmV.cop h
/-- at a the Amount f -/
def AA (C : Addr) (H : Hp) (a : Addr) (f : Int × Int) : Prop := AmAt C H a f.1 f.2 ∧ Cop f
theorem AA.av {C : Addr} {H : Hp} {a : Addr} {f : Int × Int} (h : AA C H a f) : AV C H (.ref a) f := .inl ⟨a, rfl, h.1, h.2.2⟩
theorem AA.same {C : Addr} {H H' : Hp} {a : Addr} {f : Int × Int} (h : AA C H a f) (s : Same H H') : AA C H' a f := ⟨h.1.same s, h.2⟩
theorem AA.of {C : Addr} {H : Hp} {a : Addr} {z e t b : Int} (l : Low z e t b) (ne : e ≠ 0) (h : AmAt C H a t b) : AA C H a (lo z e) := by
  rw [← l.is ne]
  exact ⟨h, l.pos, l.one⟩
/-- the sum of some, from f on -/
def sumL (f : Int × Int) (fs : List (Int × Int)) : Int × Int := fs.foldl plus f
def AVs (C : Addr) (H : Hp) (n : Nat) : List V → List (Int × Int) → Prop
  | [], [] => True
  | v :: vs, f :: fs => AV C H v f ∧ Bd n f ∧ AVs C H n vs fs
  | _, _ => False
theorem AVs.same {C : Addr} {H H' : Hp} {n : Nat} (s : Same H H') : ∀ {vs : List V} {fs : List (Int × Int)}, AVs C H n vs fs → AVs C H' n vs fs
  | [], [], _ => trivial
  | _ :: _, _ :: _, h => ⟨h.1.same s, h.2.1, h.2.2.same s⟩
  | [], _ :: _, h => h.elim
  | _ :: _, [], h => h.elim
theorem AVs.len {C : Addr} {H : Hp} {n : Nat} : ∀ {vs : List V} {fs : List (Int × Int)}, AVs C H n vs fs → vs.length = fs.length
  | [], [], _ => rfl
  | _ :: _, _ :: _, h => congrArg (· + 1) h.2.2.len
  | [], _ :: _, h => h.elim
  | _ :: _, [], h => h.elim
theorem AVs.at {C : Addr} {H : Hp} {n : Nat} : ∀ {vs : List V} {fs : List (Int × Int)} {i : Nat} {v : V}, AVs C H n vs fs → vs[i]? = some v → ∃ f, fs[i]? = some f ∧ AV C H v f ∧ Bd n f
  | _ :: _, f :: _, 0, _, h, e => by cases e; exact ⟨f, rfl, h.1, h.2.1⟩
  | _ :: _, _ :: _, i + 1, _, h, e => h.2.2.at (i := i) e
  | [], [], _, _, _, e => by simp at e
  | [], _ :: _, _, _, h, _ => h.elim
  | _ :: _, [], _, _, h, _ => h.elim
theorem sumL_take {f g : Int × Int} {fs : List (Int × Int)} {i : Nat} (h : fs[i]? = some g) : sumL f (fs.take (i + 1)) = plus (sumL f (fs.take i)) g := by
  unfold sumL
  rw [List.take_add_one, h, List.foldl_append]
  rfl
section
variable {P : Program} {w : World} {K : PySem.W.Frag} {mg : Str → Option Value} {base : Heap} {C : Addr}
structure AmSum (K : PySem.W.Frag) (C : Addr) : Prop where
  ex : ∃ (mc : Value) (p g : Addr) (fd : FuncData), ClX.CRead K C mc ∧ ClX.CMet K C mc "sum_of" p g ∧ Fun K "sum_of" "Amount.sum_of" sMSum g fd
theorem scSum : FnScope ["cls", "amounts", "found", "amount"] ["cls", "amounts"] (defScope sMSum) := ⟨rfl, rfl, rfl, by decide +kernel, rfl, by decide +kernel, by decide +kernel⟩
def spSum0 (C : Addr) : Sp := fun vs H Q _ => ∃ (p : Addr) (xs : List V) (fs : List (Int × Int)) (n : Nat), vs = [.ref C, .ref p] ∧ H p = some (.tup xs) ∧ AVs C H n xs fs ∧ (n + 1) * (xs.length + 1) ≤ 2900 ∧ ∀ (r : Addr) (H' : Hp), AA C H' r (sumL (0, 1) fs) → Same H H' → Q (.ref r) H'
def spSumOf (C : Addr) : Sp := fun vs H Q _ => ∃ (xs : List V) (fs : List (Int × Int)) (n : Nat), vs = .ref C :: xs ∧ AVs C H n xs fs ∧ (n + 1) * (xs.length + 1) ≤ 2900 ∧ ∀ (r : Addr) (H' : Hp), AA C H' r (sumL (0, 1) fs) → Same H H' → Q (.ref r) H'
theorem kp_fn {f : Addr} {fd : FuncData} {x q : Str} {st : Stmt} (F : Fun K x q st f fd) : PySem.W.keepIn K (.ref f) = true := F.kp
theorem low_ge {a b c : Nat} (h : a ≤ b) (k : b * c ≤ 2900) : a * c ≤ 2900 := Nat.le_trans (Nat.mul_le_mul_right c h) k
theorem d_sum (T : AmTxt K mg C) (O : AmOps K mg C) {g : Addr} {fd : FuncData} (F : Fun K "sum_of" "Amount.sum_of" sMSum g fd) : FnR P w K mg base CX0 6 g (spSumOf C) := by
  have DOf := d_of (P := P) (w := w) (base := base) T O
  obtain ⟨oc, od, kV, doc, pm, an, cdv, ct, osl, rfl, lk, hcd⟩ := F.ex
  refine FnR.imp (StX.fn_star (k := 5) (ps := ["cls"]) (pv := "amounts") (sp := spSum0 C) lk hcd scSum StX.cxUp_none (StX.bind_star1 (B := fun us => bindArgs (PySem.W.fnOf "sum_of" "Amount.sum_of" (defArgs sMSum) (defBody sMSum) (defScope sMSum) .none kV doc pm an cdv ct) ⟨us, []⟩) (fun _ => rfl) (fun _ _ _ => rfl)) fun A out s H vs Q E hr h => ?_) fun vs H Q E h => ?_
  · obtain ⟨p, xs, fs, n, rfl, hp, hv, hn, q⟩ := h
    refine ⟨_, PSs.nox (pss_cons (ps_set (i := 2) scSum.nd rfl (Or.inl rfl) (pe_callV (rn_amount1 T (hr.mono (by decide))) (i := 0) rfl (by first | exact Or.inl rfl | exact Or.inr rfl) (kpC T) (pa_cons pe_int pa_nil)))
  (pss_cons (ps_for PassesOwn.never rfl (pi_tup (pv 1)) (pg_name (i := 3) scSum.nd rfl (Or.inl rfl)) (pss_one (ps_set (i := 2) scSum.nd rfl (Or.inl rfl) (pe_op (op_addS T O (hr.mono (by decide))) (pv 2) (pe_callO DOf (hr.mono (by decide)) (pa_cons (pv 3) pa_nil))))))
  (pss_one (ps_ret (pv 2))))), ?_⟩
    refine ⟨rfl, 0, 1, rfl, by decide, by decide +kernel, by decide +kernel, fun x t b H1 lw am s1 n1 => ?_⟩
    obtain ⟨rfl, rfl⟩ := lw.uniq (low_self (by decide) (gcd_one 0)) (by decide)
    have le := hv.len
    refine ⟨_, rfl, p, rfl, ⟨xs, SqT.of (s1 _ _ hp)⟩, ?_⟩
    refine for_it (walk_tup (xs := xs)) (fun i σ H' => Same H H' ∧ ∃ (r : Addr) (o3 : Option V), σ = [some (.ref C), some (.ref p), some (.ref r), o3] ∧ AA C H' r (sumL (0, 1) (fs.take i)) ∧ Bd ((n + 1) * i + 1) (sumL (0, 1) (fs.take i)))
      ⟨s1, x, _, rfl, ⟨am, (by show (0 : Int) < 1; decide), gcd_one 0⟩, (by show (0 : Int).natAbs < 2 ^ ((n + 1) * 0 + 1); rw [Nat.mul_zero]; decide), (by show (1 : Int).natAbs < 2 ^ ((n + 1) * 0 + 1); rw [Nat.mul_zero]; decide)⟩ (fun i σ H' _ k => SqT.of (k.1 _ _ hp)) (fun i v σ H' H'' hi k y => ?_) (fun σ H' k => ?_)
    · obtain ⟨s2, r, o3, rfl, ha, hb⟩ := k
      obtain ⟨rfl, hx⟩ := y
      obtain ⟨f, hf, av, bf⟩ := (hv.same s2).at hx
      have c1 : (n + 1) * (i + 1) + 1 ≤ 2901 := by
        have := low_ge (a := i + 1) (b := xs.length + 1) (c := n + 1) (by omega) (by rw [Nat.mul_comm]; exact hn)
        rw [Nat.mul_comm] at this
        omega
      have c2 : (n + 1) * i + 1 + n + 1 = (n + 1) * (i + 1) + 1 := by
        rw [Nat.mul_add]
        omega
      have b1 := hb.mono (show (n + 1) * i + 1 ≤ 3000 by omega)
      have b2 := bf.mono (show n ≤ 3000 by omega)
      have e8 : (2 : Nat) ^ 3000 ≤ 2 ^ 8000 := Nat.pow_le_pow_right (by decide) (by decide)
      refine ⟨_, rfl, _, rfl, v, f.1, f.2, rfl, av, Nat.lt_of_lt_of_le b2.1 e8, fun m H2 am2 s3 => ?_⟩
      have ha2 := ha.same s3
      refine ⟨r, m, _, _, f.1, f.2, rfl, rfl, ha2.1, ha2.2.2, am2, av.cop.2, b1.1, b1.2, b2.1, b2.2, fun z t d H3 lw a3 s4 => ?_⟩
      have ne : (sumL (0, 1) (fs.take i)).2 * f.2 ≠ 0 := Int.mul_ne_zero (by have := ha.2.1; omega) (by have := av.cop.1; omega)
      have pb := plus_Bd hb bf ha.2 av.cop
      rw [c2] at pb
      refine ⟨(s2.trans s3).trans s4, z, _, rfl, ?_, ?_⟩
      · rw [sumL_take hf]
        exact AA.of lw ne a3
      · rw [sumL_take hf]
        exact pb.1
    · obtain ⟨s2, r, o3, rfl, ha, hb⟩ := k
      refine ⟨_, rfl, q r H' ?_ s2⟩
      rw [le, List.take_length] at ha
      exact ha
  · obtain ⟨xs, fs, n, rfl, hv, hn, q⟩ := h
    have hl : xs.length ≤ 2900 := Nat.le_trans (by omega) (low_ge (Nat.le_add_left 1 n) hn)
    refine ⟨[.ref C], xs, rfl, rfl, Nat.le_trans hl (by decide), fun p hp => ⟨p, xs, fs, n, rfl, upd_same, hv.same (Same.new hp), hn, fun r H' a s => q r H' a ((Same.new hp).trans s)⟩⟩
end
end SP
namespace SP
open PySem PySem.Spec PyProof.Rows L2
abbrev sPot : Stmt := top 16
abbrev sDraw : Stmt := top 17
abbrev sChoice : Stmt := top 18

/-- what the top has written of the draws -/
structure PotT (K : PySem.W.Frag) (mg : Str → Option Value) : Prop where
  b_int : mg "int" = none
  b_abs : mg "abs" = none
  b_max : mg "max" = none
  b_len : mg "len" = none
  b_divmod : mg "divmod" = none
  tPot : Top K mg "_law_pot" sPot ["_law_script", "_law_k"]
  tDraw : Top K mg "_law_draw" sDraw ["_law_pot_here", "_law_size"]
  tChoice : Top K mg "_law_choice" sChoice ["_law_pot_here", "_law_some"]
section
variable {P : Program} {w : World} {K : PySem.W.Frag} {mg : Str → Option Value} {base : Heap}
/-! ### the pot -/
def spPot (K : PySem.W.Frag) : Sp := fun vs H Q _ => ∃ (a : Addr) (ns : List Int) (k : Int), vs = [.ref a, .int k] ∧ SqL K H a (ns.map V.int) ∧ ns.length ≤ 63 ∧ 0 ≤ k ∧ k < 64 ∧ ∀ p H', Same H H' → H p = none → Pot H' p → Q (.ref p) H'
theorem scPot : FnScope ["_law_script", "_law_k", "_law_cell"] ["_law_script", "_law_k"] (defScope sPot) := ⟨rfl, rfl, rfl, by decide +kernel, rfl, by decide +kernel, by decide +kernel⟩
theorem pot_end {H : Hp} {p : Addr} {Q : VK} {z : Int} {o : HO} (q : ∀ p H', Same H H' → H p = none → Pot H' p → Q (.ref p) H') (hp : H p = none) {a : Int} (e : o = .lst [.int (if a > 0 then a else 0), .int (z + 1)]) (h0 : 0 ≤ z) (h1 : z < 2147483629) : Q (.ref p) (upd H p o) := by
  subst e
  exact q p _ (Same.new hp) hp ⟨_, _, upd_same, by split <;> omega, by omega, by omega⟩
theorem d_pot (T : PotT K mg) : DefG P w K mg base 1 "_law_pot" ["_law_script", "_law_k"] (spPot K) := by
  refine T.tPot.ok scPot (fun vs H Q E h => ?_) (fun f cdv A out s H vs Q E gd hr h => ?_)
  · obtain ⟨a, ns, k, rfl, _⟩ := h
    rfl
  · obtain ⟨a, ns, k, rfl, hS, hn, h0, h1, q⟩ := h
    refine ⟨_, (pss_cons (ps_set (i := 2) scPot.nd rfl (Or.inl rfl) (pe_op op_add (pe_op op_mul pe_int (pv 1)) pe_int))
  (pss_cons (ps_if (pt_cmpR op_lt (pv 1) (pe_callB call_len (by rfl) T.b_len (by decide +kernel) (pa_cons (pv 0) pa_nil)) (nomark _)) (pss_one (ps_set (i := 2) scPot.nd rfl (Or.inl rfl) (pe_callB call_abs (by rfl) T.b_abs (by decide +kernel) (pa_cons (pe_ix ix_list (pv 0) (pv 1) (fun _ _ => rfl)) pa_nil)))) pss_nil)
  (pss_one (ps_ret (pe_lst (pa_cons (pe_callB (call_max2 rfl) (by rfl) T.b_max (by decide +kernel) (pa_cons pe_int (pa_cons (pe_op op_sub (pv 2) (pe_op op_pow pe_int pe_int)) pa_nil))) (pa_cons (pe_op op_add (pe_op op_mod (pe_callTy call_int1 (by rfl) T.b_int (by decide +kernel) (pa_cons (pe_op op_add (pe_op op_add (pe_op op_mul (pe_op op_mod (pe_callTy call_int1 (by rfl) T.b_int (by decide +kernel) (pa_cons (pv 2) pa_nil)) pe_int) pe_int) (pe_op op_mul pe_int (pv 1))) pe_int) pa_nil)) pe_int) pe_int) pa_nil))))))), ?_⟩
    refine ⟨_, rfl, _, _, rfl, rfl, .inl ⟨by decide, by decide⟩, _, _, rfl, rfl, ?_⟩
    refine ⟨_, rfl, _, rfl, _, ns.length, rfl, .inl ⟨_, hS, by rw [List.length_map]⟩, _, _, rfl, rfl, _, rfl, ?_⟩
    obtain ⟨cell, hc, hcell⟩ : ∃ cell : Int, 0 ≤ cell ∧ (if decide (k < (ns.length : Int)) = true then ∃ z : Int, (ns.map V.int)[k.toNat]? = some (.int z) ∧ cell = (if z < 0 then -z else z) else cell = 31 * k + 17) := by
      by_cases hk : k < (ns.length : Int)
      · obtain ⟨z, hz⟩ : ∃ z, ns[k.toNat]? = some z := ⟨_, List.getElem?_eq_getElem (by omega)⟩
        refine ⟨if z < 0 then -z else z, by split <;> omega, ?_⟩
        rw [decide_eq_true hk]
        exact iteT ⟨z, by rw [List.getElem?_map, hz] <;> rfl, rfl⟩
      · refine ⟨31 * k + 17, by omega, ?_⟩
        rw [decide_eq_false hk]
        exact iteF rfl
    by_cases hk : k < (ns.length : Int)
    · rw [decide_eq_true hk] at hcell ⊢
      rw [if_pos rfl] at hcell
      obtain ⟨z, hz, ez⟩ := hcell
      refine iteT ?_
      refine ⟨_, rfl, _, rfl, a, _, k, _, rfl, rfl, hS, at_of (j := k.toNat) (by omega) hz, z, rfl, ?_⟩
      refine ⟨_, rfl, _, _, rfl, rfl, ⟨by decide, by decide, by decide⟩, _, _, rfl, rfl, _, _, rfl, ?_⟩
      refine ⟨_, rfl, .inl ⟨_, rfl, _, _, rfl, rfl, (by show (0 : Int) < 2147483563; decide), _, _, rfl, rfl, .inr ⟨by decide, by decide⟩, _, rfl, _, _, rfl, rfl, .inl ⟨by decide, by decide⟩, _, _, rfl, rfl, _, _, rfl, rfl, .inl ⟨_, rfl, ?_⟩⟩⟩
      refine ⟨_, _, rfl, rfl, (by show (0 : Int) < 2147483629; decide), _, _, rfl, rfl, (by show 2 ≤ sizeLine; decide), fun p hp => ?_⟩
      exact pot_end q hp rfl (Int.emod_nonneg _ (by decide)) (Int.emod_lt_of_pos _ (by decide))
    · rw [decide_eq_false hk] at hcell ⊢
      rw [if_neg Bool.false_ne_true] at hcell
      subst hcell
      refine iteF ?_
      refine ⟨_, rfl, _, _, rfl, rfl, ⟨by decide, by decide, by decide⟩, _, _, rfl, rfl, _, _, rfl, ?_⟩
      refine ⟨_, rfl, .inl ⟨_, rfl, _, _, rfl, rfl, (by show (0 : Int) < 2147483563; decide), _, _, rfl, rfl, .inr ⟨by decide, by decide⟩, _, rfl, _, _, rfl, rfl, .inl ⟨by decide, by decide⟩, _, _, rfl, rfl, _, _, rfl, rfl, .inl ⟨_, rfl, ?_⟩⟩⟩
      refine ⟨_, _, rfl, rfl, (by show (0 : Int) < 2147483629; decide), _, _, rfl, rfl, (by show 2 ≤ sizeLine; decide), fun p hp => ?_⟩
      exact pot_end q hp rfl (Int.emod_nonneg _ (by decide)) (Int.emod_lt_of_pos _ (by decide))
/-! ### a draw -/
def spDraw : Sp := fun vs H Q _ => ∃ (p : Addr) (n : Int), vs = [.ref p, .int n] ∧ Pot H p ∧ 0 < n ∧ n < 18446744073709551616 ∧ ∀ (d : Int) (H' : Hp), 0 ≤ d → d < n → Pot H' p → Kp p H H' → Q (.int d) H'
theorem scDraw : FnScope ["_law_pot_here", "_law_size", "_law_digit"] ["_law_pot_here", "_law_size"] (defScope sDraw) := ⟨rfl, rfl, rfl, by decide +kernel, rfl, by decide +kernel, by decide +kernel⟩
theorem d_draw (T : PotT K mg) : DefG P w K mg base 1 "_law_draw" ["_law_pot_here", "_law_size"] spDraw := by
  refine T.tDraw.ok scDraw (fun vs H Q E h => ?_) (fun f cdv A out s H vs Q E gd hr h => ?_)
  · obtain ⟨p, n, rfl, _⟩ := h
    rfl
  · obtain ⟨p, n, rfl, ⟨a, b, hp, ha, hb, hb2⟩, hn, hn2, q⟩ := h
    refine ⟨_, (pss_cons (ps_if (pt_cmpR op_gt (pe_ix ix_list (pv 0) pe_int (fun _ _ => rfl)) pe_int (nomark _)) (pss_cons (ps_asg (pe_callB call_divmodW (by rfl) T.b_divmod (by decide +kernel) (pa_cons (pe_ix ix_list (pv 0) pe_int (fun _ _ => rfl)) (pa_cons (pv 1) pa_nil))) (pg_tup (by rfl) (pgs_cons (pg_sub (pv 0) pe_int set_list) (pgs_cons (pg_name (i := 2) scDraw.nd rfl (Or.inl rfl)) pgs_nil))))
  (pss_one (ps_ret (pv 2)))) pss_nil)
  (pss_cons (ps_asg (pe_op op_mod (pe_callTy call_int1 (by rfl) T.b_int (by decide +kernel) (pa_cons (pe_op op_add (pe_op op_mul (pe_ix ix_list (pv 0) pe_int (fun _ _ => rfl)) pe_int) pe_int) pa_nil)) pe_int) (pg_sub (pv 0) pe_int set_list))
  (pss_one (ps_ret (pe_op op_mod (pe_callTy call_int1 (by rfl) T.b_int (by decide +kernel) (pa_cons (pe_op op_fdivA (pe_op op_mod (pe_callTy call_int1 (by rfl) T.b_int (by decide +kernel) (pa_cons (pe_op op_mul (pe_ix ix_list (pv 0) pe_int (fun _ _ => rfl)) (pe_ix ix_list (pv 0) pe_int (fun _ _ => rfl))) pa_nil)) pe_int) pe_int) pa_nil)) (pv 1)))))), ?_⟩
    refine ⟨_, rfl, p, _, _, _, rfl, rfl, SqL.of hp, at_of (j := 0) rfl rfl, _, _, rfl, rfl, _, rfl, ?_⟩
    refine ite2 (fun c => ?_) (fun c => ?_)
    · refine ⟨_, rfl, p, _, _, _, rfl, rfl, SqL.of hp, at_of (j := 0) rfl rfl, _, rfl, _, _, rfl, ⟨hn, PyProof.noPylong_of_log2 (Nat.lt_of_lt_of_le (PySem.Flt.log2_lt_of (k := 64) (by decide) (show n.natAbs < 2 ^ 64 by omega)) (by decide))⟩, fun t ht => ?_⟩
      have pt : p ≠ t := ne_of_none hp ht
      refine ⟨t, _, rfl, SqT.of upd_same, rfl, _, _, rfl, _, rfl, p, _, _, 0, rfl, rfl, by rw [upd_ne pt]; exact hp, rfl, ?_⟩
      refine ⟨_, _, rfl, rfl, _, rfl, ?_⟩
      refine q _ _ (Int.emod_nonneg _ (by omega)) (Int.emod_lt_of_pos _ hn) ⟨_, _, upd_same, Int.ediv_nonneg ha (by omega), hb, hb2⟩ ?_
      intro c o hc hcp
      rw [upd_ne hcp, upd_ne (ne_of_none hc ht)]
      exact hc
    · refine ⟨_, rfl, p, _, _, _, rfl, rfl, SqL.of hp, at_of (j := 1) rfl rfl, _, _, rfl, rfl, .inr ⟨by decide, by decide⟩, _, _, rfl, rfl, .inl ⟨_, rfl, ?_⟩⟩
      refine ⟨_, _, rfl, rfl, (by show (0 : Int) < 2147483629; decide), _, rfl, p, _, _, 1, rfl, rfl, hp, rfl, ?_⟩
      have e0 := Int.emod_nonneg (b * 48271 + 20011) (show (2147483629 : Int) ≠ 0 by decide)
      have e1 := Int.emod_lt_of_pos (b * 48271 + 20011) (show (0 : Int) < 2147483629 by decide)
      refine ⟨_, rfl, p, _, _, _, rfl, rfl, SqL.of upd_same, at_of (j := 1) rfl rfl, _, rfl, p, _, _, _, rfl, rfl, SqL.of upd_same, at_of (j := 1) rfl rfl, _, _, rfl, rfl, .inl ⟨by omega, by omega⟩, .inl ⟨_, rfl, ?_⟩⟩
      refine ⟨_, _, rfl, rfl, (by show (0 : Int) < 2147483587; decide), _, _, rfl, rfl, ⟨by decide, by decide⟩, .inl ⟨_, rfl, ?_⟩⟩
      refine ⟨_, rfl, _, _, rfl, rfl, hn, ?_⟩
      exact q _ _ (Int.emod_nonneg _ (by omega)) (Int.emod_lt_of_pos _ hn) ⟨_, _, upd_same, ha, e0, by omega⟩ Kp.upd
/-! ### one of a list -/
def spChoice (K : PySem.W.Frag) : Sp := fun vs H Q _ => ∃ (p q : Addr) (xs : List V), vs = [.ref p, .ref q] ∧ Pot H p ∧ q ≠ p ∧ H q = some (.lst xs) ∧ 0 < xs.length ∧ xs.length < 100000 ∧ ∀ (v : V) (H' : Hp), v ∈ xs → Pot H' p → Kp p H H' → Q v H'
theorem scChoice : FnScope ["_law_pot_here", "_law_some"] ["_law_pot_here", "_law_some"] (defScope sChoice) := ⟨rfl, rfl, rfl, by decide +kernel, rfl, by decide +kernel, by decide +kernel⟩
theorem d_choice (T : PotT K mg) : DefG P w K mg base 2 "_law_choice" ["_law_pot_here", "_law_some"] (spChoice K) := by
  have DD := d_draw (P := P) (w := w) (base := base) T
  refine T.tChoice.ok scChoice (fun vs H Q E h => ?_) (fun f cdv A out s H vs Q E gd hr h => ?_)
  · obtain ⟨p, q, xs, rfl, _⟩ := h
    rfl
  · obtain ⟨p, l, xs, rfl, hp, hq, hx, h0, h1, q⟩ := h
    refine ⟨_, (pss_one (ps_ret (pe_ix ix_list (pv 1) (pe_callD DD gd (hr.mono (by decide)) (pa_cons (pv 0) (pa_cons (pe_callB call_len (by rfl) T.b_len (by decide +kernel) (pa_cons (pv 1) pa_nil)) pa_nil))) (fun _ _ => rfl)))), ?_⟩
    refine ⟨_, rfl, _, rfl, _, rfl, _, xs.length, rfl, .inl ⟨_, SqL.of hx, rfl⟩, p, _, rfl, hp, by omega, by omega, fun d H' d0 d1 hp' kp => ?_⟩
    obtain ⟨v, hv⟩ : ∃ v, xs[d.toNat]? = some v := ⟨_, List.getElem?_eq_getElem (by omega)⟩
    exact ⟨l, _, _, v, rfl, rfl, SqL.of (kp _ _ hx hq), at_of (j := d.toNat) (by omega) hv, q v H' (List.mem_of_getElem? hv) hp' kp⟩
end
end SP
namespace SP
open PySem PySem.Spec PyProof.Rows L2
abbrev sNumber : Stmt := top 19
abbrev sLowest : Stmt := top 20
abbrev sDrawn : Stmt := top 21
abbrev sText : Stmt := top 22
abbrev sIs : Stmt := top 23
abbrev sPlus : Stmt := top 24
abbrev sTimes : Stmt := top 25
abbrev sOpposite : Stmt := top 26
abbrev sStep : Stmt := top 27
abbrev sSums : Stmt := top 28
abbrev sRight : Stmt := top 29
abbrev sLaw : Stmt := top 30


structure LTxt (K : PySem.W.Frag) (mg : Str → Option Value) (C : Addr) : Prop extends AmTxt K mg C where
  cmp : AmCmp K mg C
  ops : AmOps K mg C
  sm : AmSum K C
  pot : PotT K mg
  over : MethT K C "over" "Amount.over" sMOver ["self", "other"]
  bot : PropT K C "bottom" "Amount.bottom" sMBot
  sgn : PropT K C "sign" "Amount.sign" sMSign
  b_str : mg "str" = none
  b_repr : mg "repr" = none
  b_len : mg "len" = none
  b_all : mg "all" = none
  b_sum : mg "sum" = none
  b_range : mg "range" = none
  b_max : mg "max" = none
  b_min : mg "min" = none
  tNumber : Top K mg "_law_number" sNumber ["_law_pot_here", "_law_power"]
  tLowest : Top K mg "_law_lowest" sLowest ["_law_high", "_law_low"]
  tDrawn : Top K mg "_law_drawn" sDrawn ["_law_pot_here"]
  tText : Top K mg "_law_text" sText ["_law_due"]
  tIs : Top K mg "_law_is" sIs ["_law_made", "_law_due"]
  tPlus : Top K mg "_law_plus" sPlus ["_law_one", "_law_more"]
  tTimes : Top K mg "_law_times" sTimes ["_law_one", "_law_more"]
  tOpposite : Top K mg "_law_opposite" sOpposite ["_law_one"]
  tStep : Top K mg "_law_step" sStep ["_law_way", "_law_here", "_law_due", "_law_more", "_law_beside"]
  tSums : Top K mg "_law_sums_right" sSums ["_law_rows"]
  tRight : Top K mg "_law_right" sRight ["_law_pot_here"]
/-- a tuple of two ints -/
def Pair (H : Hp) (q : Addr) (f : Int × Int) : Prop := H q = some (.tup [.int f.1, .int f.2])
theorem Pair.same {H H' : Hp} {q : Addr} {f : Int × Int} (h : Pair H q f) (s : Same H H') : Pair H' q f := s _ _ h
theorem mkp {H : Hp} {q : Addr} (n : H q = none) (z b : Int) : ∃ H', upd H q (.tup [.int z, .int b]) = H' ∧ Same H H' ∧ Pair H' q (z, b) := ⟨_, rfl, Same.new n, upd_same⟩
theorem mkl {H : Hp} {q : Addr} (n : H q = none) (xs : List V) : ∃ H', upd H q (.lst xs) = H' ∧ Same H H' ∧ H' q = some (.lst xs) := ⟨_, rfl, Same.new n, upd_same⟩
theorem Same.put {H H' : Hp} {q : Addr} {o : HO} (s : Same H H') (n : H q = none) : Same H (upd H' q o) := fun b u e => by rw [upd_ne (ne_of_none e n)]; exact s b u e
section
variable {P : Program} {w : World} {K : PySem.W.Frag} {mg : Str → Option Value} {base : Heap} {C : Addr}
/-! ### Amount(bottom=.., top=..) -/
/-- what is asked of a new instance -/
def tNewK (C : Addr) (x y : V) (H : Hp) (Q : VK) : Prop := ∀ a dx, H a = none → H dx = none → dx ≠ a → spInit C [.ref a, x, y] (upd (upd H dx (.own a)) a (.ins C dx [])) (fun v H3 => v = .non ∧ Q (.ref a) H3) E0
theorem tNewK_of {x y : V} {H : Hp} {Q : VK} (h : spMake C [x, y] H Q E0) : tNewK C x y H Q := by
  obtain ⟨tp, bt, ev, hb, h1, h2, q⟩ := h
  intro a dx nx nd ne
  have s0 : Same H (upd (upd H dx (.own a)) a (.ins C dx [])) := fun b o e => by
    rw [upd_ne (ne_of_none e nx), upd_ne (ne_of_none e nd)]
    exact e
  cases ev
  exact ⟨a, dx, tp, bt, rfl, upd_same, hb, h1, h2, fun t b H' lw am k => ⟨rfl, q a t b H' lw am (fun c o e => k c o (s0 c o e) (ne_of_none e nx)) nx⟩⟩
def tAmK (C : Addr) (tb tt : TE) : TE := tMakeK C 0 2 (spInit C) (fun vs zs => vs ++ (zs.drop 1 ++ zs.take 1)) E0 tNil (tCons tb (tCons tt tNil))
theorem pe_amountK {X : Cx} {eb et : Expr} {tb tt : TE} {p pos k1 k2 : Pos} (T : AmTxt X.K X.mg C) (hr : Room 3 X.A) (hb : PE X eb tb) (ht : PE X et tt) (hg : Gl X "Amount" := by rfl) :
    PE X (.Call (.Name "Amount" p) [] [⟨some "bottom", eb, k1⟩, ⟨some "top", et, k2⟩] pos) (tAmK C tb tt) := by
  obtain ⟨fI, fd, mkC, F⟩ := T.mkC
  obtain ⟨its, hb'⟩ := F.kbindsD (ps := ["self", "top", "bottom"]) 1 ["bottom", "top"] (fun us _ ws => us ++ (ws.drop 1 ++ ws.take 1)) (by simp) (fun r1 _ r3 => r1.append ((r3.drop 1).append (r3.take 1))) (fun Tp kV doc pm an cdv ct us its ws h1 h2 h3 => match us, its, ws, h1, h2, h3 with | [_], [_], [_, _], _, _, _ => ⟨_, rfl, rfl⟩)
  exact pe_makeK0 mkC (ok_init (P := X.prog) (w := X.w) (base := X.base) F T) hr hg T.gC hb' pass0 (pk_cons hb (pk_cons ht pk_nil))
/-! ### a number below the square of a power -/
def spNumber : Sp := fun vs H Q _ => ∃ (p : Addr) (n : Int), vs = [.ref p, .int n] ∧ Pot H p ∧ 0 < n ∧ n ≤ 10000000000 ∧ ∀ (z : Int) (H' : Hp), z.natAbs < 2 ^ 67 → Pot H' p → Kp p H H' → Q (.int z) H'
theorem scNumber : FnScope ["_law_pot_here", "_law_power", "_law_way", "_law_number_here"] ["_law_pot_here", "_law_power"] (defScope sNumber) := ⟨rfl, rfl, rfl, by decide +kernel, rfl, by decide +kernel, by decide +kernel⟩
theorem d_number (T : LTxt K mg C) : DefG P w K mg base 3 "_law_number" ["_law_pot_here", "_law_power"] spNumber := by
  have DD := d_draw (P := P) (w := w) (base := base) T.pot
  have DCh := d_choice (P := P) (w := w) (base := base) T.pot
  refine T.tNumber.ok scNumber (fun vs H Q E h => ?_) (fun f cdv A out s H vs Q E gd hr h => ?_)
  · obtain ⟨p, n, rfl, _⟩ := h
    rfl
  · obtain ⟨p, n, rfl, hp, n0, n1, q⟩ := h
    refine ⟨_, (pss_cons (ps_set (i := 2) scNumber.nd rfl (Or.inl rfl) (pe_callD DD gd (hr.mono (by decide)) (pa_cons (pv 0) (pa_cons pe_int pa_nil))))
  (pss_cons (ps_if (pt_cmpR op_eq (pv 2) pe_int (nomark _)) (pss_one (ps_ret (pe_callD DCh gd (hr.mono (by decide)) (pa_cons (pv 0) (pa_cons (pe_lst (pa_cons pe_int (pa_cons pe_int (pa_cons (pe_un un_neg pe_int) (pa_cons (pv 1) (pa_cons (pe_un un_neg (pv 1)) (pa_cons (pe_op op_sub (pe_op op_mulW (pv 1) (pv 1)) pe_int) pa_nil))))))) pa_nil))))) pss_nil)
  (pss_cons (ps_if (pt_cmpR op_lt (pv 2) pe_int (nomark _)) (pss_one (ps_ret (pe_op op_sub (pe_callD DD gd (hr.mono (by decide)) (pa_cons (pv 0) (pa_cons pe_int pa_nil))) pe_int))) pss_nil)
  (pss_cons (ps_set (i := 3) scNumber.nd rfl (Or.inl rfl) (pe_op op_add (pe_op op_mulW (pe_callD DD gd (hr.mono (by decide)) (pa_cons (pv 0) (pa_cons (pv 1) pa_nil))) (pv 1)) (pe_callD DD gd (hr.mono (by decide)) (pa_cons (pv 0) (pa_cons (pv 1) pa_nil)))))
  (pss_one (ps_ret (pe_ix ix_list (pe_lst (pa_cons (pv 3) (pa_cons (pe_un un_neg (pv 3)) pa_nil))) (pe_callD DD gd (hr.mono (by decide)) (pa_cons (pv 0) (pa_cons pe_int pa_nil))) (fun _ _ => rfl)))))))), ?_⟩
    refine ⟨_, rfl, p, _, rfl, hp, by decide, by decide, fun d H1 d0 d1 hp1 k1 => ?_⟩
    refine ⟨_, rfl, rfl, _, rfl, ?_⟩
    have nn : (n * n).natAbs < 2 ^ 67 := by
      have h1 : n.toNat * n.toNat ≤ 10000000000 * 10000000000 := Nat.mul_le_mul (by omega) (by omega)
      have h2 : (n * n).natAbs = n.toNat * n.toNat := by
        rw [Int.natAbs_mul, show n.natAbs = n.toNat by omega]
      omega
    have n2 : 0 < n * n := Int.mul_pos n0 n0
    have lg : n.natAbs.log2 < 64 := PySem.Flt.log2_lt_of (k := 64) (by decide) (by omega)
    by_cases hd : d = 0
    · subst hd
      rw [decide_eq_true rfl]
      refine iteT ⟨_, rfl, _, rfl, _, rfl, _, rfl, _, rfl, _, rfl, _, rfl, _, _, rfl, rfl, (by show n.natAbs.log2 + n.natAbs.log2 < 1000000; omega), _, _, rfl, rfl, by show 6 ≤ sizeLine; decide, fun l hl => ?_⟩
      obtain ⟨xs0, hx0⟩ := hp1.lst
      have lp : l ≠ p := (ne_of_none hx0 hl).symm
      refine ⟨p, l, _, rfl, hp1.same (Same.new hl), lp, upd_same, by show 0 < 6; decide, by show 6 < 100000; decide, fun v H3 hv hp3 k3 => ?_⟩
      have k13 : Kp p H H3 := (k1.trans (Kp.new hl)).trans k3
      have hv' : v = .int 0 ∨ v = .int 1 ∨ v = .int (-1) ∨ v = .int n ∨ v = .int (-n) ∨ v = .int (n * n - 1) := by simpa using hv
      rcases hv' with rfl | rfl | rfl | rfl | rfl | rfl
      · exact q _ _ (by decide) hp3 k13
      · exact q _ _ (by decide) hp3 k13
      · exact q _ _ (by decide) hp3 k13
      · exact q _ _ (by omega) hp3 k13
      · exact q _ _ (by omega) hp3 k13
      · exact q _ _ (by omega) hp3 k13
    · rw [decide_eq_false (show ¬ V.int d = V.int 0 from fun z => hd (by injection z))]
      refine iteF ?_
      refine ⟨_, rfl, _, _, rfl, rfl, _, rfl, ?_⟩
      refine ite2 (fun c => ?_) (fun c => ?_)
      · refine ⟨_, rfl, p, _, rfl, hp1, by decide, by decide, fun e H2 e0 e1 hp2 k2 => ?_⟩
        exact ⟨_, _, rfl, rfl, q _ H2 (by omega) hp2 (k1.trans k2)⟩
      · refine ⟨_, rfl, _, rfl, p, _, rfl, hp1, n0, by omega, fun e H2 e0 e1 hp2 k2 => ?_⟩
        have le : e.natAbs.log2 < 64 := PySem.Flt.log2_lt_of (k := 64) (by decide) (by omega)
        refine ⟨_, rfl, _, _, rfl, rfl, (by show e.natAbs.log2 + n.natAbs.log2 < 1000000; omega), _, rfl, _, rfl, p, _, rfl, hp2, n0, by omega, fun g H3 g0 g1 hp3 k3 => ?_⟩
        refine ⟨_, _, rfl, rfl, ?_⟩
        have en : (e * n + g).natAbs < 2 ^ 67 := by
          have h3 : 0 ≤ e * n := Int.mul_nonneg e0 (by omega)
          have h4 : e * n ≤ (n - 1) * n := Int.mul_le_mul_of_nonneg_right (by omega) (by omega)
          have h5 : (n - 1) * n = n * n - n := by rw [Int.sub_mul, Int.one_mul]
          omega
        dsimp only
        generalize e * n + g = z at *
        refine ⟨_, rfl, _, rfl, _, rfl, by show 2 ≤ sizeLine; decide, fun l hl => ?_⟩
        obtain ⟨xs0, hx0⟩ := hp3.lst
        have lp : l ≠ p := (ne_of_none hx0 hl).symm
        refine ⟨_, rfl, p, _, rfl, hp3.same (Same.new hl), by decide, by decide, fun j H4 j0 j1 hp4 k4 => ?_⟩
        have hl4 := k4 l _ upd_same lp
        have kk : Kp p H H4 := (((k1.trans k2).trans k3).trans (Kp.new hl)).trans k4
        have j1' : j < 2 := j1
        rcases (by omega : j = 0 ∨ j = 1) with rfl | rfl
        · exact ⟨l, _, _, _, rfl, rfl, SqL.of hl4, at_of (j := 0) rfl rfl, q z H4 en hp4 kk⟩
        · exact ⟨l, _, _, _, rfl, rfl, SqL.of hl4, at_of (j := 1) rfl rfl, q (-z) H4 (by rw [Int.natAbs_neg]; exact en) hp4 kk⟩
/-! ### in lowest terms, by the law's own Euclid -/
def spLowest : Sp := fun vs H Q _ => ∃ z b : Int, vs = [.int z, .int b] ∧ b ≠ 0 ∧ z.natAbs < 2 ^ 3000 ∧ b.natAbs < 2 ^ 3000 ∧ ∀ (q : Addr) (H' : Hp), Pair H' q (lo z b) → Same H H' → H q = none → Q (.ref q) H'
theorem scLowest : FnScope ["_law_high", "_law_low", "_law_one", "_law_more"] ["_law_high", "_law_low"] (defScope sLowest) := ⟨rfl, rfl, rfl, by decide +kernel, rfl, by decide +kernel, by decide +kernel⟩
theorem d_lowest (T : LTxt K mg C) : DefG P w K mg base 1 "_law_lowest" ["_law_high", "_law_low"] spLowest := by
  refine T.tLowest.ok scLowest (fun vs H Q E h => ?_) (fun f cdv A out s H vs Q E gd hr h => ?_)
  · obtain ⟨z, b, rfl, _⟩ := h
    rfl
  · obtain ⟨z, b, rfl, hb, lz, lb, q⟩ := h
    refine ⟨_, (pss_cons (ps_par (i := 2) (j := 3) (by rfl) scLowest.nd rfl rfl (by decide) rfl rfl (pa_cons (pe_callB call_abs (by rfl) T.b_abs (by decide +kernel) (pa_cons (pv 0) pa_nil)) (pa_cons (pe_callB call_abs (by rfl) T.b_abs (by decide +kernel) (pa_cons (pv 1) pa_nil)) pa_nil)) (by rfl))
  (pss_cons (ps_while PassesOwn.never (pt_cmpR op_gt (pv 3) pe_int (nomark _)) (pss_one (ps_par (i := 2) (j := 3) (by rfl) scLowest.nd rfl rfl (by decide) rfl rfl (pa_cons (pv 3) (pa_cons (pe_op op_mod (pe_callTy call_int1 (by rfl) T.b_int (by decide +kernel) (pa_cons (pv 2) pa_nil)) (pv 3)) pa_nil)) (by rfl))))
  (pss_cons (ps_set (i := 2) scLowest.nd rfl (Or.inl rfl) (pe_ifExp (pt_cmpR op_gt (pv 1) pe_int (nomark _)) (pv 2) (pe_un un_neg (pv 2))))
  (pss_one (ps_ret (pe_tup (pa_cons (pe_op op_fdivA (pv 0) (pv 2)) (pa_cons (pe_op op_fdivA (pv 1) (pv 2)) pa_nil)))))))), ?_⟩
    refine ⟨_, rfl, z, rfl, _, rfl, b, rfl, _, _, rfl, ?_⟩
    refine ⟨fun m σ H' => H' = H ∧ ∃ x : Nat, σ = [some (.int z), some (.int b), some (.int x), some (.int m)] ∧ M.eu x m = Int.gcd z b, ⟨b.natAbs, rfl, z.natAbs, ?_, ?_⟩, ?_⟩
    · rw [abs_if, abs_if] <;> rfl
    · rw [M.eu_gcd] <;> rfl
    · rintro m σ H' ⟨rfl, x, rfl, e⟩
      refine ⟨_, rfl, _, _, rfl, rfl, _, rfl, ?_⟩
      by_cases hm : m = 0
      · subst hm
        refine iteF ?_
        rw [M.eu_zero] at e
        subst e
        have g0 : 0 < Int.gcd z b := Int.gcd_pos_of_ne_zero_right _ hb
        have gl : (Int.gcd z b : Nat) ≤ b.natAbs := Nat.le_of_dvd (by omega) (by have := Int.gcd_dvd_right z b; exact Int.natAbs_dvd_natAbs.mpr this)
        have key : ∀ d : Int, d.natAbs = Int.gcd z b → CDivA z d ∧ CDivA b d := fun d hd => by
          have l : d.natAbs.log2 < 9000 := Nat.lt_of_lt_of_le (PySem.Flt.log2_lt_of (k := 3000) (by decide) (by rw [hd]; exact Nat.lt_of_le_of_lt gl lb)) (by decide)
          exact ⟨⟨by omega, l⟩, ⟨by omega, l⟩⟩
        refine ⟨_, rfl, _, _, rfl, rfl, _, rfl, ?_⟩
        refine ite2 (fun c => ?_) (fun c => ?_)
        · have c' : 0 < b := of_decide_eq_true c
          have el : lo z b = (z.fdiv (Int.gcd z b : Nat), b.fdiv (Int.gcd z b : Nat)) := by
            unfold lo lod
            rw [if_pos c', Int.mul_one]
          obtain ⟨k1, k2⟩ := key (Int.gcd z b : Nat) rfl
          refine ⟨_, rfl, _, rfl, _, rfl, _, _, rfl, rfl, k1, _, rfl, _, rfl, _, _, rfl, rfl, k2, by show 2 ≤ sizeLine; decide, fun t nt => q t _ ?_ (Same.new nt) nt⟩
          rw [el]
          exact upd_same
        · have c' : ¬ 0 < b := fun z => c (decide_eq_true z)
          have el : lo z b = (z.fdiv (-(Int.gcd z b : Nat)), b.fdiv (-(Int.gcd z b : Nat))) := by
            unfold lo lod
            rw [if_neg c', Int.mul_neg, Int.mul_one]
          obtain ⟨k1, k2⟩ := key (-(Int.gcd z b : Nat)) (by omega)
          refine ⟨_, rfl, _, rfl, _, rfl, _, rfl, _, _, rfl, rfl, k1, _, rfl, _, rfl, _, _, rfl, rfl, k2, by show 2 ≤ sizeLine; decide, fun t nt => q t _ ?_ (Same.new nt) nt⟩
          rw [el]
          exact upd_same
      · rw [decide_eq_true (show (0 : Int) < (m : Int) by omega)]
        refine iteT ⟨fun σ1 H1 => H1 = H' ∧ σ1 = [some (.int z), some (.int b), some (.int (m : Int)), some (.int ((x % m : Nat) : Int))], ?_, ?_⟩
        · rintro σ1 H1 ⟨rfl, rfl⟩
          exact ⟨x % m, Nat.mod_lt _ (Nat.pos_of_ne_zero hm), rfl, m, rfl, by rw [← M.eu_step hm]; exact e⟩
        · exact ⟨_, rfl, _, rfl, .inl ⟨_, rfl, _, rfl, _, _, rfl, rfl, (by show (0 : Int) < (m : Int); omega), _, _, rfl, rfl, rfl⟩⟩
/-! ### a drawn amount and its fraction -/
/-- v: what is passed; q: the tuple of its fraction f -/
def Due (C : Addr) (H : Hp) (n : Nat) (v : V) (q : Addr) (f : Int × Int) : Prop := AV C H v f ∧ Pair H q f ∧ Bd n f
theorem Due.same {H H' : Hp} {n : Nat} {v : V} {q : Addr} {f : Int × Int} (h : Due C H n v q f) (s : Same H H') : Due C H' n v q f := ⟨h.1.same s, h.2.1.same s, h.2.2⟩
def spDrawn (C : Addr) : Sp := fun vs H Q _ => ∃ p : Addr, vs = [.ref p] ∧ Pot H p ∧ ∀ (t : Addr) (v : V) (q : Addr) (f : Int × Int) (H' : Hp), H' t = some (.tup [v, .ref q]) → Due C H' 67 v q f → Pot H' p → Kp p H H' → Q (.ref t) H'
theorem scDrawn : FnScope ["_law_pot_here", "_law_high", "_law_low"] ["_law_pot_here"] (defScope sDrawn) := ⟨rfl, rfl, rfl, by decide +kernel, rfl, by decide +kernel, by decide +kernel⟩
theorem d_drawn (T : LTxt K mg C) : DefG P w K mg base 4 "_law_drawn" ["_law_pot_here"] (spDrawn C) := by
  have DD := d_draw (P := P) (w := w) (base := base) T.pot
  have DN := d_number (P := P) (w := w) (base := base) T
  have DL := d_lowest (P := P) (w := w) (base := base) T
  refine T.tDrawn.ok scDrawn (fun vs H Q E h => ?_) (fun f cdv A out s H vs Q E gd hr h => ?_)
  · obtain ⟨p, rfl, _⟩ := h
    rfl
  · obtain ⟨p, rfl, hp, q⟩ := h
    refine ⟨_, (pss_cons (ps_par (i := 1) (j := 2) (by rfl) scDrawn.nd rfl rfl (by decide) rfl rfl (pa_cons (pe_callD DN gd (hr.mono (by decide)) (pa_cons (pv 0) (pa_cons (pe_op op_pow pe_int pe_int) pa_nil))) (pa_cons (pe_callD DN gd (hr.mono (by decide)) (pa_cons (pv 0) (pa_cons (pe_op op_pow pe_int pe_int) pa_nil))) pa_nil)) (by rfl))
  (pss_cons (ps_if (PW.pt (pw_or (pt_cmpR op_eq (pv 2) pe_int (nomark _)) (pw_or1 (pt_cmpR op_eq (pe_callD DD gd (hr.mono (by decide)) (pa_cons (pv 0) (pa_cons pe_int pa_nil))) pe_int (nomark _))))) (pss_one (ps_ret (pe_tup (pa_cons (pv 1) (pa_cons (pe_tup (pa_cons (pv 1) (pa_cons pe_int pa_nil))) pa_nil))))) pss_nil)
  (pss_cons (ps_if (pt_cmpR op_eq (pe_callD DD gd (hr.mono (by decide)) (pa_cons (pv 0) (pa_cons pe_int pa_nil))) pe_int (nomark _)) (pss_one (ps_ret (pe_tup (pa_cons (pe_callC (rn_amount T.toAmTxt (hr.mono (by decide))) T.gC (kpC T.toAmTxt) (pa_cons (pv 1) (pa_cons (pv 2) pa_nil))) (pa_cons (pe_callD DL gd (hr.mono (by decide)) (pa_cons (pv 1) (pa_cons (pv 2) pa_nil))) pa_nil))))) pss_nil)
  (pss_one (ps_ret (pe_tup (pa_cons (pe_amountK T.toAmTxt (hr.mono (by decide)) (pv 2) (pv 1)) (pa_cons (pe_callD DL gd (hr.mono (by decide)) (pa_cons (pv 1) (pa_cons (pv 2) pa_nil))) pa_nil)))))))), ?_⟩
    have p10 : (0 : Int) < 10 ^ Int.toNat 10 ∧ (10 : Int) ^ Int.toNat 10 ≤ 10000000000 := by decide
    have p5 : (0 : Int) < 10 ^ Int.toNat 5 ∧ (10 : Int) ^ Int.toNat 5 ≤ 10000000000 := by decide
    refine ⟨_, rfl, _, _, rfl, rfl, ⟨by decide, by decide, by decide⟩, p, _, rfl, hp, p10.1, p10.2, fun z H1 hz hp1 k1 => ?_⟩
    refine ⟨_, rfl, _, _, rfl, rfl, ⟨by decide, by decide, by decide⟩, p, _, rfl, hp1, p5.1, p5.2, fun b H2 hb hp2 k2 => ?_⟩
    have e8 : (2 : Nat) ^ 67 ≤ 2 ^ 8000 := Nat.pow_le_pow_right (by decide) (by decide)
    have e3 : (2 : Nat) ^ 67 ≤ 2 ^ 3000 := Nat.pow_le_pow_right (by decide) (by decide)
    -- an int is passed
    have plain : ∀ (H3 : Hp), Pot H3 p → Kp p H H3 → tRet (tTup (tCons (tVar 1) (tCons (tTup (tCons (tVar 1) (tCons (tC (V.int 1)) tNil))) tNil))) { nx := fun x H' => Q V.non H', rt := Q } [some (.ref p), some (.int z), some (.int b)] H3 := by
      intro H3 hp3 k3
      refine ⟨_, rfl, _, rfl, by show 2 ≤ sizeLine; decide, fun t1 n1 => ?_⟩
      obtain ⟨H4, e4, s4, j4⟩ := mkp n1 z 1
      rw [e4]
      refine ⟨by show 2 ≤ sizeLine; decide, fun t2 n2 => ?_⟩
      exact q t2 (.int z) t1 (z, 1) _ upd_same (Due.same ⟨.inr ⟨rfl, rfl⟩, j4, hz, (by decide : (1 : Int).natAbs < 2 ^ 67)⟩ (Same.new n2)) ((hp3.same s4).same (Same.new n2)) ((k3.trans (.of s4)).trans (Kp.new n2))
    refine ⟨_, _, rfl, ?_⟩
    refine ⟨_, rfl, rfl, _, rfl, ?_⟩
    by_cases hb0 : b = 0
    · rw [decide_eq_true (show V.int b = V.int 0 by rw [hb0])]
      exact iteT (iteT (plain H2 hp2 (k1.trans k2)))
    · rw [decide_eq_false (show ¬ V.int b = V.int 0 from fun z => hb0 (by injection z))]
      refine iteF ?_
      refine ⟨_, rfl, p, _, rfl, hp2, by decide, by decide, fun d H3 d0 d1 hp3 k3 => ⟨rfl, _, rfl, ?_⟩⟩
      have k123 : Kp p H H3 := (k1.trans k2).trans k3
      refine ite2 (fun c => plain H3 hp3 k123) (fun c => ?_)
      refine ⟨_, rfl, p, _, rfl, hp3, by decide, by decide, fun e H4 d0 d1 hp4 k4 => ⟨rfl, _, rfl, ?_⟩⟩
      have k14 : Kp p H H4 := k123.trans k4
      -- what was made, and its fraction beside it
      have fin : ∀ (x : Addr) (t d : Int) (H5 : Hp), Low z b t d → AmAt C H5 x t d → Same H4 H5 → tCall spLowest [] E0 (tCons (tVar 1) (tCons (tVar 2) tNil)) [some (.ref p), some (.int z), some (.int b)] H5 fun y H6 => 2 ≤ sizeLine ∧ ∀ t, H6 t = none → Q (.ref t) (upd H6 t (.tup [.ref x, y])) := by
        intro x t d H5 lw ax s5
        refine ⟨_, rfl, _, rfl, z, b, rfl, hb0, Nat.lt_of_lt_of_le hz e3, Nat.lt_of_lt_of_le hb e3, fun y H6 py s6 ny => ⟨by decide, fun t2 n2 => ?_⟩⟩
        have aa := AA.of lw hb0 ax
        have s7 : Same H4 (upd H6 t2 (.tup [.ref x, .ref y])) := (s5.trans s6).trans (Same.new n2)
        exact q t2 (.ref x) y (lo z b) _ upd_same (Due.same ⟨(aa.same s6).av, py, lo_Bd hb0 ⟨hz, hb⟩⟩ (Same.new n2)) (hp4.same s7) (k14.trans (.of s7))
      refine ite2 (fun c => ?_) (fun c => ?_)
      · exact ⟨_, rfl, _, rfl, z, b, rfl, hb0, Nat.lt_of_lt_of_le hz e8, Nat.lt_of_lt_of_le hb e8, fun x t d H5 lw ax s5 n5 => fin x t d H5 lw ax s5⟩
      · refine ⟨_, rfl, _, rfl, rfl, rfl, ?_⟩
        show tNewK C (.int z) (.int b) H4 fun x H1 => tCall spLowest [] E0 (tCons (tVar 1) (tCons (tVar 2) tNil)) [some (.ref p), some (.int z), some (.int b)] H1 fun y H2 => 2 ≤ sizeLine ∧ ∀ t, H2 t = none → Q (.ref t) (upd H2 t (.tup [x, y]))
        exact tNewK_of ⟨z, b, rfl, hb0, Nat.lt_of_lt_of_le hz e8, Nat.lt_of_lt_of_le hb e8, fun x t d H5 lw ax s5 n5 => fin x t d H5 lw ax s5⟩
end
end SP
namespace SP
open PySem PySem.Spec PyProof.Rows L2


section
variable {P : Program} {w : World} {K : PySem.W.Frag} {mg : Str → Option Value} {base : Heap} {C : Addr}
theorem sTxt_eq {t b : Int} : sTxt t b = if b = 1 then PySem.Str.ofString (toString t) else PySem.Str.ofString (toString t) ++ "/" ++ PySem.Str.ofString (toString b) := by
  unfold sTxt
  rw [empty_app]
theorem rTxt_eq {t b : Int} : rTxt t b = ("Amount(" : Str) ++ PySem.Str.ofString (toString t) ++ ", " ++ PySem.Str.ofString (toString b) ++ ")" := by
  unfold rTxt
  rw [empty_app]
theorem bd_log {n : Nat} {f : Int × Int} (h : Bd n f) (n0 : 0 < n) (hn : n ≤ 1900) : f.1.natAbs.log2 < 1920 ∧ f.2.natAbs.log2 < 1920 :=
  ⟨Nat.lt_of_lt_of_le (PySem.Flt.log2_lt_of n0 h.1) (by omega), Nat.lt_of_lt_of_le (PySem.Flt.log2_lt_of n0 h.2) (by omega)⟩
def spText : Sp := fun vs H Q _ => ∃ (q : Addr) (f : Int × Int), vs = [.ref q] ∧ Pair H q f ∧ Bd 1900 f ∧ Q (.str (sTxt f.1 f.2)) H
theorem scText : FnScope ["_law_due"] ["_law_due"] (defScope sText) := ⟨rfl, rfl, rfl, by decide +kernel, rfl, by decide +kernel, by decide +kernel⟩
theorem d_text (T : LTxt K mg C) : DefG P w K mg base 1 "_law_text" ["_law_due"] spText := by
  refine T.tText.ok scText (fun vs H Q E h => ?_) (fun f cdv A out s H vs Q E gd hr h => ?_)
  · obtain ⟨q, f, rfl, _⟩ := h
    rfl
  · obtain ⟨a, f, rfl, hp, bd, q⟩ := h
    refine ⟨_, (pss_one (ps_ret (pe_ifExp (pt_cmpR op_eq (pe_ix ix_tup (pv 0) pe_int (fun _ _ => rfl)) pe_int (nomark _)) (pe_callTy call_str_int (by rfl) T.b_str (by decide +kernel) (pa_cons (pe_ix ix_tup (pv 0) pe_int (fun _ _ => rfl)) pa_nil)) (pe_op op_add_str (pe_op op_add_str (pe_callTy call_str_int (by rfl) T.b_str (by decide +kernel) (pa_cons (pe_ix ix_tup (pv 0) pe_int (fun _ _ => rfl)) pa_nil)) pe_str) (pe_callTy call_str_int (by rfl) T.b_str (by decide +kernel) (pa_cons (pe_ix ix_tup (pv 0) pe_int (fun _ _ => rfl)) pa_nil)))))), ?_⟩
    obtain ⟨l1, l2⟩ := bd_log bd (by decide) (by decide)
    have n1 := len1921 l1
    have n2 := len1921 l2
    have big : 4000 ≤ sizeLine := by decide
    rw [sTxt_eq] at q
    refine ⟨_, rfl, a, _, _, _, rfl, rfl, SqT.of hp, at_of (j := 1) rfl rfl, rfl, _, rfl, ?_⟩
    by_cases hb : f.2 = 1
    · rw [decide_eq_true (show V.int f.2 = V.int 1 by rw [hb])]
      rw [if_pos hb] at q
      exact iteT ⟨_, rfl, a, _, _, _, rfl, rfl, SqT.of hp, at_of (j := 0) rfl rfl, _, rfl, l1, q⟩
    · rw [decide_eq_false (show ¬ V.int f.2 = V.int 1 from fun z => hb (by injection z))]
      rw [if_neg hb] at q
      refine iteF ⟨_, rfl, a, _, _, _, rfl, rfl, SqT.of hp, at_of (j := 0) rfl rfl, _, rfl, l1, _, _, rfl, rfl, ?_, _, rfl, a, _, _, _, rfl, rfl, SqT.of hp, at_of (j := 1) rfl rfl, _, rfl, l2, _, _, rfl, rfl, ?_, q⟩
      · show (PySem.Str.ofString (toString f.1)).length + 1 ≤ sizeLine
        omega
      · rw [PySem.Str.length_append]
        show (PySem.Str.ofString (toString f.1)).length + 1 + (PySem.Str.ofString (toString f.2)).length ≤ sizeLine
        omega
/-! ### plus, times, the opposite -/
def spTwo (F : Int × Int → Int × Int → Int × Int) : Sp := fun vs H Q _ => ∃ (a c : Addr) (f g : Int × Int), vs = [.ref a, .ref c] ∧ Pair H a f ∧ Pair H c g ∧ Cop f ∧ Cop g ∧ Bd 1400 f ∧ Bd 1400 g ∧ ∀ (q : Addr) (H' : Hp), Pair H' q (F f g) → Same H H' → H q = none → Q (.ref q) H'
theorem scPlus : FnScope ["_law_one", "_law_more"] ["_law_one", "_law_more"] (defScope sPlus) := ⟨rfl, rfl, rfl, by decide +kernel, rfl, by decide +kernel, by decide +kernel⟩
theorem scTimes : FnScope ["_law_one", "_law_more"] ["_law_one", "_law_more"] (defScope sTimes) := ⟨rfl, rfl, rfl, by decide +kernel, rfl, by decide +kernel, by decide +kernel⟩
theorem mulW2 {n m : Nat} {x y : Int} (hx : x.natAbs < 2 ^ n) (hy : y.natAbs < 2 ^ m) (h0 : 0 < n) (h1 : 0 < m) (hn : n + m ≤ 1000000) : CMulW x y := by
  have h1 := PySem.Flt.log2_lt_of h0 hx
  have h2 := PySem.Flt.log2_lt_of (by assumption) hy
  show x.natAbs.log2 + y.natAbs.log2 < 1000000
  omega
theorem d_plus (T : LTxt K mg C) : DefG P w K mg base 2 "_law_plus" ["_law_one", "_law_more"] (spTwo plus) := by
  have DL := d_lowest (P := P) (w := w) (base := base) T
  refine T.tPlus.ok scPlus (fun vs H Q E h => ?_) (fun f cdv A out s H vs Q E gd hr h => ?_)
  · obtain ⟨a, c, f, g, rfl, _⟩ := h
    rfl
  · obtain ⟨a, c, f, g, rfl, hf, hg, cf, cg, bf, bg, q⟩ := h
    refine ⟨_, (pss_one (ps_ret (pe_callD DL gd (hr.mono (by decide)) (pa_cons (pe_op op_add (pe_op op_mulW (pe_ix ix_tup (pv 0) pe_int (fun _ _ => rfl)) (pe_ix ix_tup (pv 1) pe_int (fun _ _ => rfl))) (pe_op op_mulW (pe_ix ix_tup (pv 1) pe_int (fun _ _ => rfl)) (pe_ix ix_tup (pv 0) pe_int (fun _ _ => rfl)))) (pa_cons (pe_op op_mulW (pe_ix ix_tup (pv 0) pe_int (fun _ _ => rfl)) (pe_ix ix_tup (pv 1) pe_int (fun _ _ => rfl))) pa_nil))))), ?_⟩
    have m1 := mulW2 bf.1 bg.2 (by decide) (by decide) (by decide)
    have m2 := mulW2 bg.1 bf.2 (by decide) (by decide) (by decide)
    have m3 := mulW2 bf.2 bg.2 (by decide) (by decide) (by decide)
    have nz : f.2 * g.2 ≠ 0 := Int.mul_ne_zero (by have := cf.1; omega) (by have := cg.1; omega)
    refine ⟨_, rfl, a, _, _, _, rfl, rfl, SqT.of hf, at_of (j := 0) rfl rfl, _, rfl, c, _, _, _, rfl, rfl, SqT.of hg, at_of (j := 1) rfl rfl, _, _, rfl, rfl, m1, ?_⟩
    refine ⟨_, rfl, c, _, _, _, rfl, rfl, SqT.of hg, at_of (j := 0) rfl rfl, _, rfl, a, _, _, _, rfl, rfl, SqT.of hf, at_of (j := 1) rfl rfl, _, _, rfl, rfl, m2, _, _, rfl, rfl, ?_⟩
    refine ⟨_, rfl, a, _, _, _, rfl, rfl, SqT.of hf, at_of (j := 1) rfl rfl, _, rfl, c, _, _, _, rfl, rfl, SqT.of hg, at_of (j := 1) rfl rfl, _, _, rfl, rfl, m3, ?_⟩
    have e3 : (2 : Nat) ^ (1400 + 1400 + 1) ≤ 2 ^ 3000 := Nat.pow_le_pow_right (by decide) (by decide)
    have e4 : (2 : Nat) ^ (1400 + 1400) ≤ 2 ^ 3000 := Nat.pow_le_pow_right (by decide) (by decide)
    exact ⟨_, _, rfl, nz, Nat.lt_of_lt_of_le (add_Bd (mul_Bd bf.1 bg.2) (mul_Bd bg.1 bf.2)) e3, Nat.lt_of_lt_of_le (mul_Bd bf.2 bg.2) e4, fun y H' p s n => q y H' p s n⟩
theorem d_times (T : LTxt K mg C) : DefG P w K mg base 2 "_law_times" ["_law_one", "_law_more"] (spTwo times) := by
  have DL := d_lowest (P := P) (w := w) (base := base) T
  refine T.tTimes.ok scTimes (fun vs H Q E h => ?_) (fun f cdv A out s H vs Q E gd hr h => ?_)
  · obtain ⟨a, c, f, g, rfl, _⟩ := h
    rfl
  · obtain ⟨a, c, f, g, rfl, hf, hg, cf, cg, bf, bg, q⟩ := h
    refine ⟨_, (pss_one (ps_ret (pe_callD DL gd (hr.mono (by decide)) (pa_cons (pe_op op_mulW (pe_ix ix_tup (pv 0) pe_int (fun _ _ => rfl)) (pe_ix ix_tup (pv 1) pe_int (fun _ _ => rfl))) (pa_cons (pe_op op_mulW (pe_ix ix_tup (pv 0) pe_int (fun _ _ => rfl)) (pe_ix ix_tup (pv 1) pe_int (fun _ _ => rfl))) pa_nil))))), ?_⟩
    have m1 := mulW2 bf.1 bg.1 (by decide) (by decide) (by decide)
    have m3 := mulW2 bf.2 bg.2 (by decide) (by decide) (by decide)
    have nz : f.2 * g.2 ≠ 0 := Int.mul_ne_zero (by have := cf.1; omega) (by have := cg.1; omega)
    refine ⟨_, rfl, a, _, _, _, rfl, rfl, SqT.of hf, at_of (j := 0) rfl rfl, _, rfl, c, _, _, _, rfl, rfl, SqT.of hg, at_of (j := 0) rfl rfl, _, _, rfl, rfl, m1, ?_⟩
    refine ⟨_, rfl, a, _, _, _, rfl, rfl, SqT.of hf, at_of (j := 1) rfl rfl, _, rfl, c, _, _, _, rfl, rfl, SqT.of hg, at_of (j := 1) rfl rfl, _, _, rfl, rfl, m3, ?_⟩
    have e4 : (2 : Nat) ^ (1400 + 1400) ≤ 2 ^ 3000 := Nat.pow_le_pow_right (by decide) (by decide)
    exact ⟨_, _, rfl, nz, Nat.lt_of_lt_of_le (mul_Bd bf.1 bg.1) e4, Nat.lt_of_lt_of_le (mul_Bd bf.2 bg.2) e4, fun y H' p s n => q y H' p s n⟩
def spOpp : Sp := fun vs H Q _ => ∃ (a : Addr) (f : Int × Int), vs = [.ref a] ∧ Pair H a f ∧ ∀ (q : Addr) (H' : Hp), Pair H' q (neg1 f) → Same H H' → H q = none → Q (.ref q) H'
theorem scOpp : FnScope ["_law_one"] ["_law_one"] (defScope sOpposite) := ⟨rfl, rfl, rfl, by decide +kernel, rfl, by decide +kernel, by decide +kernel⟩
theorem d_opposite (T : LTxt K mg C) : DefG P w K mg base 1 "_law_opposite" ["_law_one"] spOpp := by
  refine T.tOpposite.ok scOpp (fun vs H Q E h => ?_) (fun f cdv A out s H vs Q E gd hr h => ?_)
  · obtain ⟨a, f, rfl, _⟩ := h
    rfl
  · obtain ⟨a, f, rfl, hf, q⟩ := h
    refine ⟨_, (pss_one (ps_ret (pe_tup (pa_cons (pe_un un_neg (pe_ix ix_tup (pv 0) pe_int (fun _ _ => rfl))) (pa_cons (pe_ix ix_tup (pv 0) pe_int (fun _ _ => rfl)) pa_nil))))), ?_⟩
    exact ⟨_, rfl, a, _, _, _, rfl, rfl, SqT.of hf, at_of (j := 0) rfl rfl, _, rfl, _, rfl, a, _, _, _, rfl, rfl, SqT.of hf, at_of (j := 1) rfl rfl, by show 2 ≤ sizeLine; decide, fun t nt => q t _ upd_same (Same.new nt) nt⟩
/-! ### whether an Amount is the fraction that is due -/
def spIs (C : Addr) : Sp := fun vs H Q _ => ∃ (a c : Addr) (f : Int × Int), vs = [.ref a, .ref c] ∧ AA C H a f ∧ Pair H c f ∧ Bd 1900 f ∧ ∀ H', Same H H' → Q (.bl true) H'
theorem scIs : FnScope ["_law_made", "_law_due", "_law_sign", "_law_told", "_law_written"] ["_law_made", "_law_due"] (defScope sIs) := ⟨rfl, rfl, rfl, by decide +kernel, rfl, by decide +kernel, by decide +kernel⟩
section
variable {X : Cx}
theorem pe_bot {e : Expr} {te : TE} {pos : Pos} (he : PE X e te) (T : LTxt X.K X.mg C) (hr : Room 2 X.A) (hab : attributeBase e "bottom" X.env (eval e X.env) = eval e X.env := by rfl) : PE X (.Attribute e "bottom" pos) (tProp C (spBot C) [] E0 te) :=
  let ⟨_, _, _, hp, F, hb⟩ := T.bot.ex
  pe_prop he T.cl hp (ok_Bot F T.toAmTxt) hr hb .nil pass0 hab
theorem pe_sgn {e : Expr} {te : TE} {pos : Pos} (he : PE X e te) (T : LTxt X.K X.mg C) (hr : Room 2 X.A) (hab : attributeBase e "sign" X.env (eval e X.env) = eval e X.env := by rfl) : PE X (.Attribute e "sign" pos) (tProp C (spSgn C) [] E0 te) :=
  let ⟨_, _, _, hp, F, hb⟩ := T.sgn.ex
  pe_prop he T.cl hp (ok_Sgn F T.toAmTxt) hr hb .nil pass0 hab
end
theorem d_is (T : LTxt K mg C) : DefG P w K mg base 4 "_law_is" ["_law_made", "_law_due"] (spIs C) := by
  have DTx := d_text (P := P) (w := w) (base := base) T
  refine T.tIs.ok scIs (fun vs H Q E h => ?_) (fun f cdv A out s H vs Q E gd hr h => ?_)
  · obtain ⟨a, c, f, rfl, _⟩ := h
    rfl
  · obtain ⟨a, c, f, rfl, ha, hc, bd, q⟩ := h
    refine ⟨_, (pss_cons (ps_if (pt_not (pt_val (pe_callB call_isi (by rfl) T.b_isinstance (by decide +kernel) (pa_cons (pv 0) (pa_cons (pe_glob (v := .ref C) (by rfl) T.gC rfl) pa_nil))))) (pss_one (ps_ret pe_bl)) pss_nil)
  (pss_cons (ps_set (i := 2) scIs.nd rfl (Or.inl rfl) (pe_op op_sub (pe_callTy call_int1 (by rfl) T.b_int (by decide +kernel) (pa_cons (pe_cmpR op_gt (pe_ix ix_tup (pv 1) pe_int (fun _ _ => rfl)) pe_int (nomark _)) pa_nil)) (pe_callTy call_int1 (by rfl) T.b_int (by decide +kernel) (pa_cons (pe_cmpR op_lt (pe_ix ix_tup (pv 1) pe_int (fun _ _ => rfl)) pe_int (nomark _)) pa_nil))))
  (pss_cons (ps_set (i := 3) scIs.nd rfl (Or.inl rfl) (pe_lst (pa_cons (pe_top (pv 0) T.toAmTxt T.cmp (hr.mono (by decide))) (pa_cons (pe_bot (pv 0) T (hr.mono (by decide))) (pa_cons (pe_sgn (pv 0) T (hr.mono (by decide))) (pa_cons (pe_callTy (call_boolAm T.toAmTxt T.ops (hr.mono (by decide))) (by rfl) T.b_bool (by decide +kernel) (pa_cons (pv 0) pa_nil)) (pa_cons (pe_callTy (call_strAm T.toAmTxt T.cmp (hr.mono (by decide))) (by rfl) T.b_str (by decide +kernel) (pa_cons (pv 0) pa_nil)) (pa_cons (pe_callB (call_reprAm T.toAmTxt T.cmp (hr.mono (by decide))) (by rfl) T.b_repr (by decide +kernel) (pa_cons (pv 0) pa_nil)) pa_nil))))))))
  (pss_cons (ps_set (i := 4) scIs.nd rfl (Or.inl rfl) (pe_op op_add_str (pe_op op_add_str (pe_op op_add_str (pe_op op_add_str pe_str (pe_callTy call_str_int (by rfl) T.b_str (by decide +kernel) (pa_cons (pe_ix ix_tup (pv 1) pe_int (fun _ _ => rfl)) pa_nil))) pe_str) (pe_callTy call_str_int (by rfl) T.b_str (by decide +kernel) (pa_cons (pe_ix ix_tup (pv 1) pe_int (fun _ _ => rfl)) pa_nil))) pe_str))
  (pss_one (ps_ret (pe_cmpR op_eq (pe_callB (call_reprD gd (hr.units)) (by rfl) T.b_repr (by decide +kernel) (pa_cons (pv 3) pa_nil)) (pe_callB (call_reprD gd (hr.units)) (by rfl) T.b_repr (by decide +kernel) (pa_cons (pe_lst (pa_cons (pe_ix ix_tup (pv 1) pe_int (fun _ _ => rfl)) (pa_cons (pe_ix ix_tup (pv 1) pe_int (fun _ _ => rfl)) (pa_cons (pv 2) (pa_cons (pe_cmpR op_ne (pv 2) pe_int (nomark _)) (pa_cons (pe_callD DTx gd (hr.mono (by decide)) (pa_cons (pv 1) pa_nil)) (pa_cons (pv 4) pa_nil))))))) pa_nil)) (nomark _)))))))), ?_⟩
    obtain ⟨h1, cf⟩ := ha
    obtain ⟨t, b⟩ := f
    obtain ⟨z1, d1, p1, e1, g1⟩ := id h1
    obtain ⟨l1, l2⟩ := bd_log bd (by decide) (by decide)
    have l1 : t.natAbs.log2 < 1920 := l1
    have l2 : b.natAbs.log2 < 1920 := l2
    have n1 : (PySem.Str.ofString (toString t)).length ≤ 1921 := len1921 l1
    have n2 : (PySem.Str.ofString (toString b)).length ≤ 1921 := len1921 l2
    have big : 300000 ≤ sizeLine := by decide
    refine ⟨_, rfl, .ref a, .ref C, .ref C, .ref C, true, rfl, .own C, .base (T.ty h1), kSelf, true, rfl, iteF ?_⟩
    refine ⟨_, rfl, c, _, _, _, rfl, rfl, SqT.of hc, at_of (j := 0) rfl rfl, _, _, rfl, rfl, .inr ⟨_, rfl, _, rfl, c, _, _, _, rfl, rfl, SqT.of hc, at_of (j := 0) rfl rfl, _, _, rfl, rfl, .inr ⟨_, rfl, _, _, rfl, rfl, ?_⟩⟩⟩
    refine ⟨_, rfl, a, d1, _, rfl, e1, a, t, b, rfl, h1, _, rfl, a, d1, _, rfl, e1, a, t, b, rfl, h1, _, rfl, a, d1, _, rfl, e1, a, t, b, rfl, h1, ?_⟩
    refine ⟨_, rfl, a, t, b, rfl, h1, _, rfl, a, t, b, rfl, h1, bd.1, bd.2, _, rfl, a, t, b, rfl, h1, bd.1, bd.2, by show 6 ≤ sizeLine; decide, fun l nl => ?_⟩
    have sl : Same H (upd H l (.lst [.int t, .int b, .int (sg1 t), .bl (!decide (t = 0)), .str (sTxt t b), .str (rTxt t b)])) := Same.new nl
    have el : upd H l (.lst [.int t, .int b, .int (sg1 t), .bl (!decide (t = 0)), .str (sTxt t b), .str (rTxt t b)]) l = some (.lst [.int t, .int b, .int (sg1 t), .bl (!decide (t = 0)), .str (sTxt t b), .str (rTxt t b)]) := upd_same
    generalize upd H l (.lst [.int t, .int b, .int (sg1 t), .bl (!decide (t = 0)), .str (sTxt t b), .str (rTxt t b)]) = H1 at *
    have hc := hc.same sl
    -- what is written beside
    have k1 : ("Amount(" : Str).length = 7 := rfl
    have k2 : (", " : Str).length = 2 := rfl
    have k3 : (")" : Str).length = 1 := rfl
    refine ⟨_, rfl, c, _, _, _, rfl, rfl, SqT.of hc, at_of (j := 0) rfl rfl, _, rfl, l1, _, _, rfl, rfl, ?_, _, _, rfl, rfl, ?_, _, rfl, c, _, _, _, rfl, rfl, SqT.of hc, at_of (j := 1) rfl rfl, _, rfl, l2, _, _, rfl, rfl, ?_, _, _, rfl, rfl, ?_, ?_⟩
    · show ("Amount(" : Str).length + (PySem.Str.ofString (toString t)).length ≤ sizeLine
      omega
    · show (("Amount(" : Str) ++ PySem.Str.ofString (toString t)).length + (", " : Str).length ≤ sizeLine
      rw [PySem.Str.length_append]
      omega
    · show (("Amount(" : Str) ++ PySem.Str.ofString (toString t) ++ ", ").length + (PySem.Str.ofString (toString b)).length ≤ sizeLine
      rw [PySem.Str.length_append, PySem.Str.length_append]
      omega
    · show (("Amount(" : Str) ++ PySem.Str.ofString (toString t) ++ ", " ++ PySem.Str.ofString (toString b)).length + (")" : Str).length ≤ sizeLine
      rw [PySem.Str.length_append, PySem.Str.length_append, PySem.Str.length_append]
      omega
    have ew : ("Amount(" : Str) ++ PySem.Str.ofString (toString t) ++ ", " ++ PySem.Str.ofString (toString b) ++ ")" = rTxt t b := rTxt_eq.symm
    have as1 : Asc (sTxt t b) := by
      rw [sTxt_eq]
      split
      · exact asc_of _
      · exact asc_app (asc_app (asc_of _) (asc_of _)) (asc_of _)
    have as2 : Asc (rTxt t b) := by
      rw [rTxt_eq]
      exact asc_app (asc_app (asc_app (asc_app (asc_of _) (asc_of _)) (asc_of _)) (asc_of _)) (asc_of _)
    have len1 : (sTxt t b).length ≤ 4000 := by
      rw [sTxt_eq]
      split
      · omega
      · rw [PySem.Str.length_append, PySem.Str.length_append]
        show (PySem.Str.ofString (toString t)).length + 1 + (PySem.Str.ofString (toString b)).length ≤ 4000
        omega
    have len2 : (rTxt t b).length ≤ 4000 := by
      rw [rTxt_eq, PySem.Str.length_append, PySem.Str.length_append, PySem.Str.length_append, PySem.Str.length_append]
      omega
    have ls : (sg1 t).natAbs.log2 < 1920 := by
      have : (sg1 t).natAbs < 2 := by
        unfold sg1
        split <;> split <;> decide
      exact Nat.lt_of_lt_of_le (PySem.Flt.log2_lt_of (k := 1) (by decide) this) (by decide)
    have sh : (PyData.list [.int t, .int b, .int (sg1 t), .bool (!decide (t = 0)), .str (sTxt t b), .str (rTxt t b)]).shown.length ≤ sizeLine := by
      refine small_shown (n := 40002) (fun d hd => ?_) (by show 6 * 40004 + 2 ≤ sizeLine; omega)
      simp only [List.mem_cons, List.not_mem_nil, or_false] at hd
      rcases hd with rfl | rfl | rfl | rfl | rfl | rfl
      · exact Nat.le_trans (shown_int l1) (by decide)
      · exact Nat.le_trans (shown_int l2) (by decide)
      · exact Nat.le_trans (shown_int ls) (by decide)
      · exact Nat.le_trans shown_bool (by decide)
      · exact shown_str as1 len1
      · exact shown_str as2 len2
    have sw : (PyData.list [.int t, .int b, .int (sg1 t), .bool (!decide (t = 0)), .str (sTxt t b), .str (rTxt t b)]).showable = true := by
      simp only [PyData.showable, PyData.showableAll, decide_eq_true l1, decide_eq_true l2, decide_eq_true ls, Bool.and_self]
    have nd : (PyData.list [.int t, .int b, .int (sg1 t), .bool (!decide (t = 0)), .str (sTxt t b), .str (rTxt t b)]).hasDict = false := by
      simp only [PyData.hasDict, PyData.hasDictAll, Bool.or_self]
    have dp : (PyData.list [.int t, .int b, .int (sg1 t), .bool (!decide (t = 0)), .str (sTxt t b), .str (rTxt t b)]).depth ≤ 50 := by
      simp only [PyData.depth, PyData.depthAll]
      decide
    refine ⟨_, rfl, l, _, rfl, .lst (SqL.of el) (.cons (.int t) (.cons (.int b) (.cons (.int (sg1 t)) (.cons (.bl (!decide (t = 0))) (.cons (.str (sTxt t b)) (.cons (.str (rTxt t b)) .nil)))))), sw, nd, dp, sh, ?_⟩
    refine ⟨_, rfl, c, _, _, _, rfl, rfl, SqT.of hc, at_of (j := 0) rfl rfl, _, rfl, c, _, _, _, rfl, rfl, SqT.of hc, at_of (j := 1) rfl rfl, _, rfl, _, rfl, rfl, _, rfl, c, (t, b), rfl, hc, bd, _, rfl, by show 6 ≤ sizeLine; decide, fun l2 nl2 => ?_⟩
    have es : (!decide (V.int (sg1 t) = V.int 0)) = !decide (t = 0) := by
      congr 1
      refine decide_eq_decide.mpr ⟨fun z => ?_, fun z => ?_⟩
      · have z : sg1 t = 0 := by injection z
        unfold sg1 at z
        rcases Int.lt_trichotomy t 0 with y | y | y
        · rw [decide_eq_false (show ¬ t > 0 by omega), decide_eq_true y] at z
          cases z
        · exact y
        · rw [decide_eq_true (show t > 0 from y), decide_eq_false (show ¬ t < 0 by omega)] at z
          cases z
      · rw [z]
        rfl
    refine ⟨l2, PyData.list [.int t, .int b, .int (sg1 t), .bool (!decide (t = 0)), .str (sTxt t b), .str (rTxt t b)], rfl, .lst (xs := [.int t, .int b, .int (sg1 t), .bl (!decide (t = 0)), .str (sTxt t b), .str (rTxt t b)]) (SqL.of ?_) (.cons (.int t) (.cons (.int b) (.cons (.int (sg1 t)) (.cons (.bl (!decide (t = 0))) (.cons (.str (sTxt t b)) (.cons (.str (rTxt t b)) .nil)))))), sw, nd, dp, sh, rfl, ?_⟩
    · rw [upd_same]
      show some (HO.lst [V.int t, V.int b, V.int (sg1 t), V.bl (!decide (V.int (sg1 t) = V.int 0)), V.str (sTxt t b), V.str (("Amount(" : Str) ++ PySem.Str.ofString (toString t) ++ ", " ++ PySem.Str.ofString (toString b) ++ ")")]) = _
      rw [es, ew]
    · rw [decide_eq_true rfl]
      exact q _ (sl.trans (Same.new nl2))
end
end SP
namespace SP
open PySem PySem.Spec PyProof.Rows L2


section
variable {P : Program} {w : World} {K : PySem.W.Frag} {mg : Str → Option Value} {base : Heap} {C : Addr}
/-! ### a step -/
def spStep (C : Addr) : Sp := fun vs H Q _ => ∃ (way : Int) (h d e : Addr) (v : V) (f g : Int × Int) (n : Nat), vs = [.int way, .ref h, .ref d, v, .ref e] ∧ 0 ≤ way ∧ AA C H h f ∧ Pair H d f ∧ AV C H v g ∧ Pair H e g ∧ Bd n f ∧ 67 ≤ n ∧ n ≤ 1300 ∧ Bd 67 g ∧
  ∀ (t r y : Addr) (f' : Int × Int) (H' : Hp), H' t = some (.tup [.ref r, .ref y]) → AA C H' r f' → Pair H' y f' → Bd (n + 68) f' → Same H H' → H t = none → Q (.ref t) H'
theorem scStep : FnScope ["_law_way", "_law_here", "_law_due", "_law_more", "_law_beside", "_law_told"] ["_law_way", "_law_here", "_law_due", "_law_more", "_law_beside"] (defScope sStep) := ⟨rfl, rfl, rfl, by decide +kernel, rfl, by decide +kernel, by decide +kernel⟩
theorem d_step (T : LTxt K mg C) : DefG P w K mg base 7 "_law_step" ["_law_way", "_law_here", "_law_due", "_law_more", "_law_beside"] (spStep C) := by
  have DL := d_lowest (P := P) (w := w) (base := base) T
  have DPl := d_plus (P := P) (w := w) (base := base) T
  have DTi := d_times (P := P) (w := w) (base := base) T
  have DOp := d_opposite (P := P) (w := w) (base := base) T
  obtain ⟨fO, fdO, o1, o2, FO, hbO⟩ := T.over.ex
  have hkO : KBn K fdO ["self", "other"] 1 ["other"] (fun us ws => us ++ ws) (fun vs zs => vs ++ zs) := fun_kbn FO fun _ _ _ _ _ _ us ws h1 h2 => match us, ws, h1, h2 with | [_], [_], _, _ => rfl
  refine T.tStep.ok scStep (fun vs H Q E h => ?_) (fun f cdv A out s H vs Q E gd hr h => ?_)
  · obtain ⟨way, h, d, e, v, f, g, n, rfl, _⟩ := h
    rfl
  · obtain ⟨way, h, d, e, v, f, g, n, rfl, w0, hh, hd, hv, he, bf, n0, n1, bg, q⟩ := h
    refine ⟨_, (pss_cons (ps_if (pt_cmpR op_eq (pv 0) pe_int (nomark _)) (pss_one (ps_ret (pe_tup (pa_cons (pe_op (op_addAm T.toAmTxt T.ops (hr.mono (by decide))) (pv 1) (pv 3)) (pa_cons (pe_callD DPl gd (hr.mono (by decide)) (pa_cons (pv 2) (pa_cons (pv 4) pa_nil))) pa_nil))))) pss_nil)
  (pss_cons (ps_if (pt_cmpR op_eq (pv 0) pe_int (nomark _)) (pss_one (ps_ret (pe_tup (pa_cons (pe_op (op_addAm T.toAmTxt T.ops (hr.mono (by decide))) (pv 3) (pv 1)) (pa_cons (pe_callD DPl gd (hr.mono (by decide)) (pa_cons (pv 4) (pa_cons (pv 2) pa_nil))) pa_nil))))) pss_nil)
  (pss_cons (ps_if (pt_cmpR op_eq (pv 0) pe_int (nomark _)) (pss_one (ps_ret (pe_tup (pa_cons (pe_op (op_subAm T.toAmTxt T.ops (hr.mono (by decide))) (pv 1) (pv 3)) (pa_cons (pe_callD DPl gd (hr.mono (by decide)) (pa_cons (pv 2) (pa_cons (pe_callD DOp gd (hr.mono (by decide)) (pa_cons (pv 4) pa_nil)) pa_nil))) pa_nil))))) pss_nil)
  (pss_cons (ps_if (pt_cmpR op_eq (pv 0) pe_int (nomark _)) (pss_one (ps_ret (pe_tup (pa_cons (pe_op (op_subAm T.toAmTxt T.ops (hr.mono (by decide))) (pv 3) (pv 1)) (pa_cons (pe_callD DPl gd (hr.mono (by decide)) (pa_cons (pv 4) (pa_cons (pe_callD DOp gd (hr.mono (by decide)) (pa_cons (pv 2) pa_nil)) pa_nil))) pa_nil))))) pss_nil)
  (pss_cons (ps_if (pt_cmpR op_eq (pv 0) pe_int (nomark _)) (pss_one (ps_ret (pe_tup (pa_cons (pe_op (op_mulAm T.toAmTxt T.ops (hr.mono (by decide))) (pv 1) (pv 3)) (pa_cons (pe_callD DTi gd (hr.mono (by decide)) (pa_cons (pv 2) (pa_cons (pv 4) pa_nil))) pa_nil))))) pss_nil)
  (pss_cons (ps_if (pt_cmpR op_eq (pv 0) pe_int (nomark _)) (pss_one (ps_ret (pe_tup (pa_cons (pe_op (op_mulAm T.toAmTxt T.ops (hr.mono (by decide))) (pv 3) (pv 1)) (pa_cons (pe_callD DTi gd (hr.mono (by decide)) (pa_cons (pv 4) (pa_cons (pv 2) pa_nil))) pa_nil))))) pss_nil)
  (pss_cons (ps_if (pt_cmpR op_eq (pv 0) pe_int (nomark _)) (pss_one (ps_ret (pe_tup (pa_cons (pe_un (un_negAm T.toAmTxt T.ops (hr.mono (by decide))) (pv 1)) (pa_cons (pe_callD DOp gd (hr.mono (by decide)) (pa_cons (pv 2) pa_nil)) pa_nil))))) pss_nil)
  (pss_cons (ps_if (pt_cmpR op_eq (pv 0) pe_int (nomark _)) (pss_one (ps_ret (pe_tup (pa_cons (pe_callB (call_absAm T.toAmTxt T.ops (hr.mono (by decide))) (by rfl) T.b_abs (by decide +kernel) (pa_cons (pv 1) pa_nil)) (pa_cons (pe_tup (pa_cons (pe_callB call_abs (by rfl) T.b_abs (by decide +kernel) (pa_cons (pe_ix ix_tup (pv 2) pe_int (fun _ _ => rfl)) pa_nil)) (pa_cons (pe_ix ix_tup (pv 2) pe_int (fun _ _ => rfl)) pa_nil))) pa_nil))))) pss_nil)
  (pss_cons (ps_if (pt_cmpR op_eq (pe_ix ix_tup (pv 4) pe_int (fun _ _ => rfl)) pe_int (nomark _)) (pss_one (ps_ret (pe_tup (pa_cons (pe_meth (pv 1) T.cl ⟨o1, o2, FO.kp⟩ (ok_Over FO T.toAmTxt T.ops) (hr.mono (by decide)) hbO .nil pass0 (pa_cons pe_int pa_nil)) (pa_cons (pv 2) pa_nil))))) pss_nil)
  (pss_cons (ps_set (i := 5) scStep.nd rfl (Or.inl rfl) (pe_ifExp (pt_cmpR op_eq (pv 0) pe_int (nomark _)) (pe_meth (pv 1) T.cl ⟨o1, o2, FO.kp⟩ (ok_Over FO T.toAmTxt T.ops) (hr.mono (by decide)) hbO .nil pass0 (pa_cons (pv 3) pa_nil)) (pe_methK0 (pv 1) T.cl ⟨o1, o2, FO.kp⟩ (ok_Over FO T.toAmTxt T.ops) (hr.mono (by decide)) hkO pass0 (pk_cons (pv 3) pk_nil))))
  (pss_one (ps_ret (pe_tup (pa_cons (pv 5) (pa_cons (pe_callD DL gd (hr.mono (by decide)) (pa_cons (pe_op op_mulW (pe_ix ix_tup (pv 2) pe_int (fun _ _ => rfl)) (pe_ix ix_tup (pv 4) pe_int (fun _ _ => rfl))) (pa_cons (pe_op op_mulW (pe_ix ix_tup (pv 2) pe_int (fun _ _ => rfl)) (pe_ix ix_tup (pv 4) pe_int (fun _ _ => rfl))) pa_nil))) pa_nil))))))))))))))), ?_⟩
    have fin : ∀ (r y : Addr) (f' : Int × Int) (H' : Hp), AA C H' r f' → Pair H' y f' → Bd (n + 68) f' → Same H H' → (2 ≤ sizeLine ∧ ∀ t, H' t = none → Q (.ref t) (upd H' t (.tup [.ref r, .ref y]))) := fun r y f' H' ar py bf' s =>
      ⟨by decide, fun t nt => q t r y f' _ upd_same (ar.same (Same.new nt)) (py.same (Same.new nt)) bf' (s.trans (Same.new nt)) (s.free nt)⟩
    have cf := hh.2
    have cg := hv.cop
    have nz : f.2 * g.2 ≠ 0 := Int.mul_ne_zero (by have := cf.1; omega) (by have := cg.1; omega)
    have nz' : g.2 * f.2 ≠ 0 := Int.mul_ne_zero (by have := cg.1; omega) (by have := cf.1; omega)
    have bf3 := bf.mono (show n ≤ 3000 by omega)
    have bg3 := bg.mono (show 67 ≤ 3000 by decide)
    have bf4 := bf.mono (show n ≤ 1400 by omega)
    have bg4 := bg.mono (show 67 ≤ 1400 by decide)
    obtain ⟨z1, dx, pl, e1, _⟩ := id hh.1
    have lov : (amF f.1 f.2 pl).lookup ("over" : Str) = none := am_no _ _ _ (by decide +kernel) (by decide +kernel) (by decide +kernel)
    refine ⟨_, rfl, rfl, _, rfl, ?_⟩
    by_cases w0 : way = 0
    · rw [decide_eq_true (show V.int way = V.int 0 by rw [w0])]
      refine iteT ?_
      refine ⟨_, rfl, _, rfl, f.1, f.2, g.1, g.2, hh.av, hv, .inl ⟨h, rfl⟩, bf3.1, bf3.2, bg3.1, bg3.2, fun r t b H1 lw ax s1 => ?_⟩
      have aa := AA.of lw nz ax
      exact ⟨_, rfl, _, rfl, d, e, f, g, rfl, hd.same s1, he.same s1, cf, cg, bf4, bg4, fun y H2 py s2 ny => fin r y (plus f g) H2 (AA.same aa s2) py ((plus_Bd bf bg cf cg).1.mono (by omega)) (s1.trans s2)⟩
    rw [decide_eq_false (show ¬ V.int way = V.int 0 from fun z => w0 (by injection z))]
    refine iteF ?_
    refine ⟨_, rfl, rfl, _, rfl, ?_⟩
    by_cases w1 : way = 1
    · rw [decide_eq_true (show V.int way = V.int 1 by rw [w1])]
      refine iteT ?_
      refine ⟨_, rfl, _, rfl, g.1, g.2, f.1, f.2, hv, hh.av, .inr ⟨h, rfl⟩, bg3.1, bg3.2, bf3.1, bf3.2, fun r t b H1 lw ax s1 => ?_⟩
      have aa := AA.of lw nz' ax
      exact ⟨_, rfl, _, rfl, e, d, g, f, rfl, he.same s1, hd.same s1, cg, cf, bg4, bf4, fun y H2 py s2 ny => fin r y (plus g f) H2 (AA.same aa s2) py ((plus_Bd bg bf cg cf).1.mono (by omega)) (s1.trans s2)⟩
    rw [decide_eq_false (show ¬ V.int way = V.int 1 from fun z => w1 (by injection z))]
    refine iteF ?_
    refine ⟨_, rfl, rfl, _, rfl, ?_⟩
    by_cases w2 : way = 2
    · rw [decide_eq_true (show V.int way = V.int 2 by rw [w2])]
      refine iteT ?_
      refine ⟨_, rfl, _, rfl, f.1, f.2, g.1, g.2, hh.av, hv, .inl ⟨h, rfl⟩, bf3.1, bf3.2, bg3.1, bg3.2, fun r t b H1 lw ax s1 => ?_⟩
      have aa := AA.of lw nz ax
      exact ⟨_, rfl, _, rfl, e, g, rfl, he.same s1, fun o H2 po s2 no => ⟨d, o, f, neg1 g, rfl, (hd.same s1).same s2, po, cf, neg1_Cop cg, bf4, neg1_Bd bg4, fun y H3 py s3 ny => fin r y (plus f (neg1 g)) H3 (AA.same (AA.same aa s2) s3) py ((plus_Bd bf (neg1_Bd bg) cf (neg1_Cop cg)).1.mono (by omega)) ((s1.trans s2).trans s3)⟩⟩
    rw [decide_eq_false (show ¬ V.int way = V.int 2 from fun z => w2 (by injection z))]
    refine iteF ?_
    refine ⟨_, rfl, rfl, _, rfl, ?_⟩
    by_cases w3 : way = 3
    · rw [decide_eq_true (show V.int way = V.int 3 by rw [w3])]
      refine iteT ?_
      refine ⟨_, rfl, _, rfl, g.1, g.2, f.1, f.2, hv, hh.av, .inr ⟨h, rfl⟩, bg3.1, bg3.2, bf3.1, bf3.2, fun r t b H1 lw ax s1 => ?_⟩
      have aa := AA.of lw nz' ax
      exact ⟨_, rfl, _, rfl, d, f, rfl, hd.same s1, fun o H2 po s2 no => ⟨e, o, g, neg1 f, rfl, (he.same s1).same s2, po, cg, neg1_Cop cf, bg4, neg1_Bd bf4, fun y H3 py s3 ny => fin r y (plus g (neg1 f)) H3 (AA.same (AA.same aa s2) s3) py ((plus_Bd bg (neg1_Bd bf) cg (neg1_Cop cf)).1.mono (by omega)) ((s1.trans s2).trans s3)⟩⟩
    rw [decide_eq_false (show ¬ V.int way = V.int 3 from fun z => w3 (by injection z))]
    refine iteF ?_
    refine ⟨_, rfl, rfl, _, rfl, ?_⟩
    by_cases w4 : way = 4
    · rw [decide_eq_true (show V.int way = V.int 4 by rw [w4])]
      refine iteT ?_
      refine ⟨_, rfl, _, rfl, f.1, f.2, g.1, g.2, hh.av, hv, .inl ⟨h, rfl⟩, bf3.1, bf3.2, bg3.1, bg3.2, fun r t b H1 lw ax s1 => ?_⟩
      have aa := AA.of lw nz ax
      exact ⟨_, rfl, _, rfl, d, e, f, g, rfl, hd.same s1, he.same s1, cf, cg, bf4, bg4, fun y H2 py s2 ny => fin r y (times f g) H2 (AA.same aa s2) py ((times_Bd bf bg cf cg).1.mono (by omega)) (s1.trans s2)⟩
    rw [decide_eq_false (show ¬ V.int way = V.int 4 from fun z => w4 (by injection z))]
    refine iteF ?_
    refine ⟨_, rfl, rfl, _, rfl, ?_⟩
    by_cases w5 : way = 5
    · rw [decide_eq_true (show V.int way = V.int 5 by rw [w5])]
      refine iteT ?_
      refine ⟨_, rfl, _, rfl, g.1, g.2, f.1, f.2, hv, hh.av, .inr ⟨h, rfl⟩, bg3.1, bg3.2, bf3.1, bf3.2, fun r t b H1 lw ax s1 => ?_⟩
      have aa := AA.of lw nz' ax
      exact ⟨_, rfl, _, rfl, e, d, g, f, rfl, he.same s1, hd.same s1, cg, cf, bg4, bf4, fun y H2 py s2 ny => fin r y (times g f) H2 (AA.same aa s2) py ((times_Bd bg bf cg cf).1.mono (by omega)) (s1.trans s2)⟩
    rw [decide_eq_false (show ¬ V.int way = V.int 5 from fun z => w5 (by injection z))]
    refine iteF ?_
    refine ⟨_, rfl, rfl, _, rfl, ?_⟩
    by_cases w6 : way = 6
    · rw [decide_eq_true (show V.int way = V.int 6 by rw [w6])]
      refine iteT ?_
      refine ⟨_, rfl, h, f.1, f.2, rfl, hh.1, hh.2.2, bf3.1, bf3.2, fun r H1 ax s1 => ?_⟩
      exact ⟨_, rfl, d, f, rfl, hd.same s1, fun y H2 py s2 ny => fin r y (neg1 f) H2 (AA.same ⟨ax, neg1_Cop cf⟩ s2) py ((neg1_Bd bf).mono (by omega)) (s1.trans s2)⟩
    rw [decide_eq_false (show ¬ V.int way = V.int 6 from fun z => w6 (by injection z))]
    refine iteF ?_
    refine ⟨_, rfl, rfl, _, rfl, ?_⟩
    by_cases w7 : way = 7
    · rw [decide_eq_true (show V.int way = V.int 7 by rw [w7])]
      refine iteT ?_
      refine ⟨_, rfl, _, rfl, h, f.1, f.2, rfl, hh.1, hh.2.2, bf3.1, bf3.2, fun r H1 ax s1 => ?_⟩
      have ca : Cop (if f.1 < 0 then -f.1 else f.1, f.2) := by
        split
        · exact neg1_Cop cf
        · exact cf
      have ba : Bd n (if f.1 < 0 then -f.1 else f.1, f.2) := by
        split
        · exact neg1_Bd bf
        · exact bf
      refine ⟨_, rfl, d, _, _, _, rfl, rfl, SqT.of (hd.same s1), at_of (j := 0) rfl rfl, _, rfl, _, rfl, d, _, _, _, rfl, rfl, SqT.of (hd.same s1), at_of (j := 1) rfl rfl, by show 2 ≤ sizeLine; decide, fun t1 n1 => ?_⟩
      exact fin r t1 (if f.1 < 0 then -f.1 else f.1, f.2) _ (AA.same ⟨ax, ca⟩ (Same.new n1)) upd_same (ba.mono (by omega)) (s1.trans (Same.new n1))
    rw [decide_eq_false (show ¬ V.int way = V.int 7 from fun z => w7 (by injection z))]
    refine iteF ?_
    refine ⟨_, rfl, e, _, _, _, rfl, rfl, SqT.of he, at_of (j := 0) rfl rfl, rfl, _, rfl, ?_⟩
    by_cases g0 : g.1 = 0
    · rw [decide_eq_true (show V.int g.1 = V.int 0 by rw [g0])]
      refine iteT ?_
      refine ⟨_, rfl, h, dx, _, rfl, e1, lov, ⟨h, .int 1, f.1, f.2, 1, 1, rfl, hh.1, hh.2.2, .inr ⟨rfl, rfl⟩, bf3.1, bf3.2, by decide +kernel, by decide +kernel, fun r t b H1 lw ax s1 => ?_⟩, h, .int 1, 1, 1, rfl, .inr ⟨rfl, rfl⟩, by decide⟩
      have lw : Low (f.1 * 1) (f.2 * 1) t b := lw
      rw [Int.mul_one, Int.mul_one] at lw
      have aa := AA.of lw (by have := cf.1; omega) ax
      rw [lo_cop cf.1 cf.2] at aa
      exact ⟨_, rfl, fin r d f H1 aa (hd.same s1) (bf.mono (by omega)) s1⟩
    · rw [decide_eq_false (show ¬ V.int g.1 = V.int 0 from fun z => g0 (by injection z))]
      refine iteF ?_
      have nd : f.2 * g.1 ≠ 0 := Int.mul_ne_zero (by have := cf.1; omega) g0
      have e28 : (2 : Nat) ^ (1400 + 1400) ≤ 2 ^ 3000 := Nat.pow_le_pow_right (by decide) (by decide)
      refine ⟨_, rfl, rfl, _, rfl, ?_⟩
      refine ite2 (fun c => ?_) (fun c => ?_)
      · refine ⟨_, rfl, h, dx, _, rfl, e1, lov, _, rfl, ⟨h, v, f.1, f.2, g.1, g.2, rfl, hh.1, hh.2.2, hv, bf3.1, bf3.2, bg3.1, bg3.2, fun r t b H1 lw ax s1 => ?_⟩, h, v, g.1, g.2, rfl, hv, g0⟩
        refine ⟨_, rfl, _, rfl, d, _, _, _, rfl, rfl, SqT.of (hd.same s1), at_of (j := 0) rfl rfl, _, rfl, e, _, _, _, rfl, rfl, SqT.of (he.same s1), at_of (j := 1) rfl rfl, _, _, rfl, rfl, mulW2 bf4.1 bg4.2 (by decide) (by decide) (by decide), ?_⟩
        refine ⟨_, rfl, d, _, _, _, rfl, rfl, SqT.of (hd.same s1), at_of (j := 1) rfl rfl, _, rfl, e, _, _, _, rfl, rfl, SqT.of (he.same s1), at_of (j := 0) rfl rfl, _, _, rfl, rfl, mulW2 bf4.2 bg4.1 (by decide) (by decide) (by decide), ?_⟩
        exact ⟨_, _, rfl, nd, Nat.lt_of_lt_of_le (mul_Bd bf4.1 bg4.2) e28, Nat.lt_of_lt_of_le (mul_Bd bf4.2 bg4.1) e28, fun y H2 py s2 ny => fin r y (lo (f.1 * g.2) (f.2 * g.1)) H2 ((AA.of lw nd ax).same s2) py ((lo_Bd nd ⟨mul_Bd bf.1 bg.2, mul_Bd bf.2 bg.1⟩).mono (by omega)) (s1.trans s2)⟩
      · refine ⟨_, rfl, h, dx, _, rfl, e1, lov, _, rfl, rfl, ⟨h, v, f.1, f.2, g.1, g.2, rfl, hh.1, hh.2.2, hv, bf3.1, bf3.2, bg3.1, bg3.2, fun r t b H1 lw ax s1 => ?_⟩, h, v, g.1, g.2, rfl, hv, g0⟩
        refine ⟨_, rfl, _, rfl, d, _, _, _, rfl, rfl, SqT.of (hd.same s1), at_of (j := 0) rfl rfl, _, rfl, e, _, _, _, rfl, rfl, SqT.of (he.same s1), at_of (j := 1) rfl rfl, _, _, rfl, rfl, mulW2 bf4.1 bg4.2 (by decide) (by decide) (by decide), ?_⟩
        refine ⟨_, rfl, d, _, _, _, rfl, rfl, SqT.of (hd.same s1), at_of (j := 1) rfl rfl, _, rfl, e, _, _, _, rfl, rfl, SqT.of (he.same s1), at_of (j := 0) rfl rfl, _, _, rfl, rfl, mulW2 bf4.2 bg4.1 (by decide) (by decide) (by decide), ?_⟩
        exact ⟨_, _, rfl, nd, Nat.lt_of_lt_of_le (mul_Bd bf4.1 bg4.2) e28, Nat.lt_of_lt_of_le (mul_Bd bf4.2 bg4.1) e28, fun y H2 py s2 ny => fin r y (lo (f.1 * g.2) (f.2 * g.1)) H2 ((AA.of lw nd ax).same s2) py ((lo_Bd nd ⟨mul_Bd bf.1 bg.2, mul_Bd bf.2 bg.1⟩).mono (by omega)) (s1.trans s2)⟩
end
end SP
namespace SP
open PySem PySem.Spec PyProof.Rows L2


section
variable {X : Cx} {CX : CXT} {k : Nat} {C p g : Addr} {mc : Value} {m : Str} {sp : Sp} {E : XK} {o : Expr} {pos apos : Pos} {ta : TE}
/-- C.m() -/
theorem pe_cmeth0 {pl : Sem Bool} (he : PE X o ta) (r : ClX.CRead X.K C mc) (c : ClX.CMet X.K C mc m p g) (F : FnR X.prog X.w X.K X.mg X.base CX k g sp) (hr : Room k X.A) (hx : Passes CX X E)
    (ht : eval (.Call (.Attribute o m apos) [] [] pos) X.env = (do
      let ov ← eval o X.env
      standAt apos.atName
      let (f, first) ← holding [ov] (getMethod ov m pl)
      callWith pos f first (backTo pos (starEach [] X.env)) (backToKw pos (keywordEach [] X.env))) := by rfl) :
    PE X (.Call (.Attribute o m apos) [] [] pos) (ClX.tCMeth C sp E ta tNil) := by
  refine ⟨fun pins s σ H Q I h => ?_⟩
  refine PySem.W.methodCall_KW (pl := pl) (thn (he.run pins s σ H _ I h) fun u s1 ⟨x, H1, I1, rx, ex, q⟩ => ?_) ht
  subst ex
  obtain rfl : u = Value.ref C := rx
  refine ClX.getmethcm_ok I1 r c fun s2 I2 => ?_
  refine PySem.W.callWith_M0 (K := X.K) (g := g) (self := .ref C) ⟨ClX.pin_at I2, I2.kIn⟩ c.fi ?_
  exact ClX.run_cm (us := []) (vs := []) F hr hx I2 .nil q
end
theorem yes_t {σ : L2.St} {H : Hp} {A B : Hp → Prop} (h : A H) : tYes σ H fun b H3 => if b = true then A H3 else B H3 := by
  show (if true = true then A H else B H)
  rw [if_pos rfl]
  exact h
theorem rep_add {i : Nat} {v : V} : List.replicate i v ++ [v] = List.replicate (i + 1) v := by rw [List.replicate_succ']
theorem snoc_at {α : Type} {R : Nat → α → Prop} {qs : List α} {q : α} (h : ∀ j a, qs[j]? = some a → R j a) (hq : R qs.length q) : ∀ j a, (qs ++ [q])[j]? = some a → R j a := by
  intro j a e
  rw [List.getElem?_append] at e
  split at e
  · exact h j a e
  · rename_i z
    have z' : j - qs.length = 0 := by
      cases y : j - qs.length with
      | zero => rfl
      | succ k =>
        rw [y] at e
        simp at e
    rw [z'] at e
    cases e
    have : j = qs.length := by omega
    rw [this]
    exact hq
section
variable {P : Program} {w : World} {K : PySem.W.Frag} {mg : Str → Option Value} {base : Heap} {C : Addr}
/-- rows: what was passed, its fraction's tuple -/
def RowL (C : Addr) (H : Hp) (ts : List Addr) (fs : List (Int × Int)) : Prop := ts.length = fs.length ∧ ∀ (j : Nat) (t : Addr), ts[j]? = some t → ∃ (v : V) (q : Addr) (f : Int × Int), fs[j]? = some f ∧ H t = some (.tup [v, .ref q]) ∧ Due C H 67 v q f
theorem RowL.same {H H' : Hp} {ts : List Addr} {fs : List (Int × Int)} (h : RowL C H ts fs) (s : Same H H') : RowL C H' ts fs := ⟨h.1, fun j t e => let ⟨v, q, f, a, b, c⟩ := h.2 j t e; ⟨v, q, f, a, s _ _ b, c.same s⟩⟩
def AmsL (C : Addr) (H : Hp) (as : List Addr) (fs : List (Int × Int)) : Prop := ∀ (j : Nat) (a : Addr), as[j]? = some a → ∃ f : Int × Int, fs[j]? = some f ∧ AA C H a f ∧ Bd 67 f
theorem AmsL.up {H H' : Hp} {as : List Addr} {fs : List (Int × Int)} (h : AmsL C H as fs) (k : ∀ a f, AA C H a f → AA C H' a f) : AmsL C H' as fs := fun j a e => let ⟨f, x, y, z⟩ := h j a e; ⟨f, x, k _ _ y, z⟩
theorem AA.kp {H H' : Hp} {p a : Addr} {f : Int × Int} {xs : List V} (h : AA C H a f) (k : Kp p H H') (hp : H p = some (.lst xs)) : AA C H' a f := ⟨h.1.kp k hp, h.2⟩
theorem AmV.kp {H H' : Hp} {p : Addr} {v : V} {t b : Int} {xs : List V} (h : AmV C H v t b) (k : Kp p H H') (hp : H p = some (.lst xs)) : AmV C H' v t b := h.elim (fun ⟨a, e, x, g⟩ => .inl ⟨a, e, x.kp k hp, g⟩) .inr
/-- values that are these amounts -/
def VsL (C : Addr) (H : Hp) (vs : List V) (fs : List (Int × Int)) : Prop := ∀ (j : Nat) (v : V), vs[j]? = some v → ∃ f : Int × Int, fs[j]? = some f ∧ AV C H v f ∧ Bd 67 f
theorem VsL.up {H H' : Hp} {vs : List V} {fs : List (Int × Int)} (h : VsL C H vs fs) (k : ∀ v f, AV C H v f → AV C H' v f) : VsL C H' vs fs := fun j a e => let ⟨f, x, y, z⟩ := h j a e; ⟨f, x, k _ _ y, z⟩
theorem VsL.avs {H : Hp} : ∀ {vs : List V} {fs : List (Int × Int)}, VsL C H vs fs → vs.length = fs.length → AVs C H 67 vs fs
  | [], [], _, _ => trivial
  | v :: vs, f :: fs, h, e => by
    obtain ⟨f', e', a, b⟩ := h 0 v rfl
    cases e'
    exact ⟨a, b, VsL.avs (fun j w hw => h (j + 1) w hw) (by simpa using e)⟩
  | [], _ :: _, _, e => by simp at e
  | _ :: _, [], _, e => by simp at e
theorem plus_zero {f : Int × Int} (c : Cop f) : plus (0, 1) f = f := by
  show lo (0 * f.2 + f.1 * 1) (1 * f.2) = f
  rw [Int.zero_mul, Int.zero_add, Int.mul_one, Int.one_mul, lo_cop c.1 c.2]
theorem AA.put {H : Hp} {p a : Addr} {f : Int × Int} {xs : List V} {o : HO} (h : AA C H a f) (hp : H p = some (.lst xs)) : AA C (upd H p o) a f := h.kp (Kp.upd (p := p)) hp
def spSums (C : Addr) : Sp := fun vs H Q _ => ∃ (l : Addr) (ts : List Addr) (fs : List (Int × Int)), vs = [.ref l] ∧ H l = some (.lst (ts.map V.ref)) ∧ RowL C H ts fs ∧ ts.length ≤ 6 ∧ ∀ H', Same H H' → Q (.bl true) H'
theorem scSums : FnScope ["_law_rows", "_law_due", "_law_total", "_law_passed", "_law_beside", "_law_told", "_law_some", "_law_made", "_law_one"] ["_law_rows"] (defScope sSums) := ⟨rfl, rfl, rfl, by decide +kernel, rfl, by decide +kernel, by decide +kernel⟩
theorem d_sums (T : LTxt K mg C) : DefG P w K mg base 8 "_law_sums_right" ["_law_rows"] (spSums C) := by
  have DPl := d_plus (P := P) (w := w) (base := base) T
  have DIs := d_is (P := P) (w := w) (base := base) T
  have DOf := d_of (P := P) (w := w) (base := base) T.toAmTxt T.ops
  obtain ⟨mc, pS, gS, fdS, cr, cm, FS⟩ := T.sm.ex
  have DS := d_sum (P := P) (w := w) (base := base) T.toAmTxt T.ops FS
  refine T.tSums.ok scSums (fun vs H Q E h => ?_) (fun f cdv A out s H vs Q E gd hr h => ?_)
  · obtain ⟨l, ts, fs, rfl, _⟩ := h
    rfl
  · obtain ⟨l, ts, fs, rfl, hl, rows, h6, q⟩ := h
    refine ⟨_, (pss_cons (ps_set (i := 1) scSums.nd rfl (Or.inl rfl) (pe_tup (pa_cons pe_int (pa_cons pe_int pa_nil))))
  (pss_cons (ps_set (i := 2) scSums.nd rfl (Or.inl rfl) (pe_callC (rn_amount1 T.toAmTxt (hr.mono (by decide))) T.gC (kpC T.toAmTxt) (pa_cons pe_int pa_nil)))
  (pss_cons (ps_for PassesOwn.never rfl (pi_list (pv 0)) (pg_tup (by rfl) (pgs_cons (pg_name (i := 3) scSums.nd rfl (Or.inl rfl)) (pgs_cons (pg_name (i := 4) scSums.nd rfl (Or.inl rfl)) pgs_nil))) (pss_cons (ps_set (i := 1) scSums.nd rfl (Or.inl rfl) (pe_callD DPl gd (hr.mono (by decide)) (pa_cons (pv 1) (pa_cons (pv 4) pa_nil))))
  (pss_one (ps_set (i := 2) scSums.nd rfl (Or.inl rfl) (pe_op (op_addAm T.toAmTxt T.ops (hr.mono (by decide))) (pv 2) (pv 3))))))
  (pss_cons (ps_set (i := 5) scSums.nd rfl (Or.inl rfl) (pe_lst (pa_cons (pe_cmeth0 (pe_glob (v := .ref C) (by rfl) T.gC rfl) cr cm DS (hr.mono (by decide)) pass0) pa_nil)))
  (pss_cons (ps_if (pt_cmpR op_gt (pe_callB call_len (by rfl) T.b_len (by decide +kernel) (pa_cons (pv 0) pa_nil)) pe_int (nomark _)) (pss_one (ps_expr (pe_bm PySem.F.plainAttrs_list PySem.F.slot_list_append PySem.F.type_list_append mt_append (pv 5) (pa_cons (ClX.pe_cmeth (pe_glob (v := .ref C) (by rfl) T.gC rfl) cr cm DS (hr.mono (by decide)) pass0 (pa_cons (pe_ix ix_tup (pe_ix ix_list (pv 0) pe_int (fun _ _ => rfl)) pe_int (fun _ _ => rfl)) pa_nil)) pa_nil)))) pss_nil)
  (pss_cons (ps_if (PW.pt (pw_or (pt_not (pt_val (pe_callD DIs gd (hr.mono (by decide)) (pa_cons (pe_ix ix_list (pv 5) pe_int (fun _ _ => rfl)) (pa_cons (pe_tup (pa_cons pe_int (pa_cons pe_int pa_nil))) pa_nil))))) (pw_or1 (PW.pt (pw_and (pt_cmpR op_gt (pe_callB call_len (by rfl) T.b_len (by decide +kernel) (pa_cons (pv 0) pa_nil)) pe_int (nomark _)) (pw_and1 (pt_not (pt_val (pe_callD DIs gd (hr.mono (by decide)) (pa_cons (pe_ix ix_list (pv 5) pe_int (fun _ _ => rfl)) (pa_cons (pe_ix ix_tup (pe_ix ix_list (pv 0) pe_int (fun _ _ => rfl)) pe_int (fun _ _ => rfl)) pa_nil))))))))))) (pss_one (ps_ret pe_bl)) pss_nil)
  (pss_cons (ps_if (pt_cmpR op_ne (pe_callB call_len (by rfl) T.b_len (by decide +kernel) (pa_cons (pv 0) pa_nil)) pe_int (nomark _)) (pss_one (ps_ret pe_bl)) pss_nil)
  (pss_cons (ps_setLc (i := 6) (own := [("_law_passed", 3), ("_law_beside", 4)]) (g := (gTup K 2 (gCons (gName 3) (gCons (gName 4) gNil)))) (by rfl) scSums.nd rfl rfl (sw_true rfl rfl rfl (by decide +kernel)) (pi_list (pv 0)) (blkOk_by (own := [("_law_passed", 3), ("_law_beside", 4)]) (N := ["_law_rows", "_law_due", "_law_total", "_law_passed", "_law_beside", "_law_told", "_law_some", "_law_made", "_law_one"]) (sc := defScope sSums) (by decide +kernel)) (fun _ _ _ _ _ => (pg_tup (by rfl) (pgs_cons (pg_name (i := 3) scSums.nd rfl (Or.inl rfl)) (pgs_cons (pg_name (i := 4) scSums.nd rfl (Or.inl rfl)) pgs_nil)))) (fun _ _ _ _ _ => pts_nil) (fun _ _ _ _ _ => (pv 3)))
  (pss_cons (ps_set (i := 7) scSums.nd rfl (Or.inl rfl) (ClX.pe_cmeth (pe_glob (v := .ref C) (by rfl) T.gC rfl) cr cm DS (hr.mono (by decide)) pass0 (pa_cons (pe_ix ix_list (pv 6) pe_int (fun _ _ => rfl)) (pa_cons (pe_ix ix_list (pv 6) pe_int (fun _ _ => rfl)) (pa_cons (pe_ix ix_list (pv 6) pe_int (fun _ _ => rfl)) (pa_cons (pe_ix ix_list (pv 6) pe_int (fun _ _ => rfl)) (pa_cons (pe_ix ix_list (pv 6) pe_int (fun _ _ => rfl)) (pa_cons (pe_ix ix_list (pv 6) pe_int (fun _ _ => rfl)) pa_nil))))))))
  (pss_one (ps_ret (pe_and (pe_callD DIs gd (hr.mono (by decide)) (pa_cons (pv 7) (pa_cons (pv 1) pa_nil))) (pe_and (pe_callD DIs gd (hr.mono (by decide)) (pa_cons (pe_callO DOf (hr.mono (by decide)) (pa_cons (pv 2) pa_nil)) (pa_cons (pv 1) pa_nil))) (pe_one (pe_callD DIs gd (hr.mono (by decide)) (pa_cons (pe_callB (call_sumO rfl (op_addAm T.toAmTxt T.ops (Room.in1 hr))) (by rfl) T.b_sum (by decide +kernel) (pa_cons (pe_lc (own := [("_law_one", 8)]) (g := (gName 8)) (by rfl) scSums.nd (pi_list (pv 6)) (blkOk_by (own := [("_law_one", 8)]) (N := ["_law_rows", "_law_due", "_law_total", "_law_passed", "_law_beside", "_law_told", "_law_some", "_law_made", "_law_one"]) (sc := defScope sSums) (by decide +kernel)) (fun _ _ _ _ _ => (pg_name (i := 8) scSums.nd rfl (Or.inl rfl))) (fun _ _ _ _ _ => pts_nil) (fun _ _ _ _ _ => (pe_callO DOf (hr.mono (by decide)) (pa_cons (pv 8) pa_nil)))) pa_nil)) (pa_cons (pv 1) pa_nil))))))))))))))))), ?_⟩
    obtain ⟨le, rw0⟩ := rows
    have rows : RowL C H ts fs := ⟨le, rw0⟩
    clear rw0
    refine ⟨by show 2 ≤ sizeLine; decide, fun d0 n0 => ?_⟩
    obtain ⟨H0, e0, s0, p0⟩ := mkp n0 0 1
    rw [e0]
    refine ⟨0, 1, rfl, by decide, by decide +kernel, by decide +kernel, fun x t b H1 lw am s1 n1 => ?_⟩
    obtain ⟨rfl, rfl⟩ := lw.uniq (low_self (by decide) (gcd_one 0)) (by decide)
    have a0 : AA C H1 x (0, 1) := ⟨am, (by show (0 : Int) < 1; decide), gcd_one 0⟩
    have s01 : Same H H1 := s0.trans s1
    have tl : (ts.map V.ref).length = ts.length := List.length_map _
    refine ⟨_, rfl, l, rfl, ⟨_, SqL.of (s01 _ _ hl)⟩, ?_⟩
    refine for_it (walk_list (xs := ts.map V.ref)) (fun i σ H' => Same H H' ∧ ∃ (dq r : Addr) (o3 o4 : Option V), σ = [some (.ref l), some (.ref dq), some (.ref r), o3, o4, none, none, none, none] ∧ Pair H' dq (sumL (0, 1) (fs.take i)) ∧ AA C H' r (sumL (0, 1) (fs.take i)) ∧ Bd (68 * i + 1) (sumL (0, 1) (fs.take i)))
      ⟨s01, d0, x, _, _, rfl, p0.same s1, a0, ⟨(by show (0 : Int).natAbs < 2 ^ 1; decide), (by show (1 : Int).natAbs < 2 ^ 1; decide)⟩⟩ (fun i σ H' _ k => SqL.of (k.1 _ _ hl)) (fun i x σ H' H'' hi k y => ?_) (fun σ H2 k => ?_)
    · obtain ⟨s2, dq, r, o3, o4, rfl, hq, ha, hb⟩ := k
      obtain ⟨rfl, hx⟩ := y
      rw [List.getElem?_map, Option.map_eq_some_iff] at hx
      obtain ⟨ti, hti, rfl⟩ := hx
      obtain ⟨v, qq, g, hg, ht, hv, hp, bg⟩ := (rows.same s2).2 _ _ hti
      have hi6 : i < 6 := by omega
      have cg : Cop g := AV.cop hv
      have ne : (sumL (0, 1) (fs.take i)).2 * g.2 ≠ 0 := Int.mul_ne_zero (by have := ha.2.1; omega) (by have := cg.1; omega)
      have b1 := hb.mono (show 68 * i + 1 ≤ 1400 by omega)
      have b2 := bg.mono (show 67 ≤ 1400 by omega)
      have b3 := hb.mono (show 68 * i + 1 ≤ 3000 by omega)
      have b4 := bg.mono (show 67 ≤ 3000 by omega)
      have pb := (plus_Bd hb bg ha.2 cg).1
      refine ⟨ti, _, rfl, SqT.of ht, rfl, _, _, rfl, _, _, rfl, rfl, ?_⟩
      refine ⟨_, rfl, _, rfl, dq, qq, _, g, rfl, hq, hp, ha.2, cg, b1, b2, fun y H3 py s3 ny => ?_⟩
      refine ⟨_, rfl, _, rfl, _, _, g.1, g.2, (ha.same s3).av, hv.same s3, .inl ⟨r, rfl⟩, b3.1, b3.2, b4.1, b4.2, fun z t b H4 lw az s4 => ?_⟩
      refine ⟨(s2.trans s3).trans s4, y, z, _, _, rfl, ?_, ?_, ?_⟩
      · rw [sumL_take hg]
        exact py.same s4
      · rw [sumL_take hg]
        exact AA.of lw ne az
      · rw [sumL_take hg]
        exact pb.mono (by omega)
    · obtain ⟨s2, dq, r, o3, o4, rfl, hq, ha, hb⟩ := k
      rw [tl, le, List.take_length] at hq ha hb
      have hb := hb.mono (show 68 * fs.length + 1 ≤ 500 by omega)
      have z01 : Bd 1900 (0, 1) := ⟨by show (0 : Int).natAbs < 2 ^ 1900; exact Nat.pow_pos (by decide), Nat.lt_of_lt_of_le (by decide : (1 : Int).natAbs < 2 ^ 1) (Nat.pow_le_pow_right (by decide) (by decide))⟩
      refine ⟨rfl, [], [], 0, rfl, trivial, by decide, fun z0 H3 a3 s3 => ⟨by show 1 ≤ sizeLine; decide, fun L nL => ?_⟩⟩
      have s4 : Same H3 (upd H3 L (.lst [.ref z0])) := Same.new nL
      have hL : upd H3 L (.lst [.ref z0]) L = some (.lst [.ref z0]) := upd_same
      generalize upd H3 L (.lst [.ref z0]) = H4 at *
      have sH : Same H H4 := (s2.trans s3).trans s4
      have a3 : AA C H4 z0 (0, 1) := a3.same s4
      have hq := (hq.same s3).same s4
      have ha := (ha.same s3).same s4
      have hl4 := sH _ _ hl
      have rows4 := rows.same sH
      have nLl : L ≠ l := (ne_of_none (s3 _ _ (s2 _ _ hl)) nL).symm
      have LH : H L = none := s2.free (s3.free nL)
      refine ⟨_, rfl, _, ts.length, rfl, .inl ⟨_, SqL.of hl4, tl.symm⟩, _, _, rfl, rfl, _, rfl, ?_⟩
      by_cases h0 : 0 < ts.length
      · obtain ⟨t0, ht0⟩ : ∃ t0, ts[0]? = some t0 := ⟨_, List.getElem?_eq_getElem h0⟩
        obtain ⟨v0, q0, f0, hf0, hr0, hv0, hp0, bf0⟩ := rows4.2 _ _ ht0
        have e0 : (ts.map V.ref)[0]? = some (.ref t0) := by rw [List.getElem?_map, ht0]; rfl
        rw [decide_eq_true (show (0 : Int) < ((ts.length : Nat) : Int) by omega)]
        refine iteT ?_
        refine ⟨_, rfl, .inl ⟨rfl, _, SqL.of hL⟩, rfl, _, rfl, l, _, _, _, rfl, rfl, SqL.of hl4, at_of (j := 0) rfl e0, t0, _, _, _, rfl, rfl, SqT.of hr0, at_of (j := 0) rfl rfl, [v0], [f0], 67, rfl, ⟨hv0, bf0, trivial⟩, (by show 68 * 2 ≤ 2900; decide), fun z1 H5 a5 s5 => ?_⟩
        refine ⟨L, _, _, rfl, rfl, s5 _ _ hL, by show 1 < sizeLine; decide, ?_⟩
        have c0 : Cop f0 := AV.cop hv0
        have a5 : AA C H5 z1 f0 := by
          have := a5
          rw [show sumL (0, 1) [f0] = plus (0, 1) f0 from rfl, plus_zero c0] at this
          exact this
        have hL5 := s5 _ _ hL
        have sH6 : Same H (upd H5 L (.lst ([.ref z0] ++ [.ref z1]))) := Same.put (sH.trans s5) LH
        have kp6 : Kp L H5 (upd H5 L (.lst ([.ref z0] ++ [.ref z1]))) := Kp.upd
        have hL6 : upd H5 L (.lst ([.ref z0] ++ [.ref z1])) L = some (.lst [.ref z0, .ref z1]) := upd_same
        have b0 := (AA.same a3 s5).kp kp6 hL5
        have b1 := a5.kp kp6 hL5
        have hq : Pair _ dq (sumL (0, 1) fs) := kp6.tup hL5 (hq.same s5)
        have ha := (ha.same s5).kp kp6 hL5
        generalize upd H5 L (.lst ([.ref z0] ++ [.ref z1])) = H6 at *
        refine ⟨_, rfl, L, _, _, _, rfl, rfl, SqL.of hL6, at_of (j := 0) rfl rfl, by show 2 ≤ sizeLine; decide, fun t1 n1 => ?_⟩
        refine ⟨z0, t1, (0, 1), rfl, AA.same b0 (Same.new n1), upd_same, z01, fun H7 s7 => ⟨true, rfl, ?_⟩⟩
        refine iteF ?_
        have s67 : Same H6 H7 := (Same.new n1).trans s7
        have sH7 : Same H H7 := sH6.trans s67
        have rows7 := rows.same sH7
        obtain ⟨v0', q0', f0', hf0', hr0', hv0', hp0', bf0'⟩ := rows7.2 _ _ ht0
        rw [hf0] at hf0'
        cases hf0'
        refine ⟨_, rfl, _, ts.length, rfl, .inl ⟨_, SqL.of (sH7 _ _ hl), tl.symm⟩, _, _, rfl, rfl, _, rfl, ?_⟩
        rw [decide_eq_true (show (0 : Int) < ((ts.length : Nat) : Int) by omega)]
        refine iteT ?_
        refine ⟨_, rfl, L, _, _, _, rfl, rfl, SqL.of (s67 _ _ hL6), at_of (j := 1) rfl rfl, _, rfl, l, _, _, _, rfl, rfl, SqL.of (sH7 _ _ hl), at_of (j := 0) rfl e0, t0, _, _, _, rfl, rfl, SqT.of hr0', at_of (j := 1) rfl rfl, ?_⟩
        refine ⟨z1, q0', f0, rfl, AA.same b1 s67, hp0', bf0'.mono (by decide), fun H8 s8 => ⟨true, rfl, ?_⟩⟩
        refine iteF ?_
        have s68 := s67.trans s8
        have sH8 := sH7.trans s8
        refine ⟨_, rfl, _, ts.length, rfl, .inl ⟨_, SqL.of (sH8 _ _ hl), tl.symm⟩, rfl, _, rfl, ?_⟩
        by_cases h66 : ts.length = 6
        · rw [decide_eq_true (show V.int ((ts.length : Nat) : Int) = V.int 6 by rw [h66]; rfl)]
          refine iteF ?_
          have hq := hq.same s68
          have ha := ha.same s68
          have rows8 := rows.same sH8
          have hl8 := sH8 _ _ hl
          clear s67 s68 s7 s8 hL6 b0 b1 hL5 a5 hL hl4 rows4 a3 z01
          refine ⟨_, rfl, l, rfl, ⟨_, SqL.of hl8⟩, fun S nS => ?_⟩
          refine lc_it (walk_list (xs := ts.map V.ref)) (fun i H' => Same H8 H' ∧ ∃ vs : List V, vs.length = i ∧ H' S = some (.lst vs) ∧ VsL C H' vs fs) ⟨Same.new nS, [], rfl, upd_same, fun j a e => by simp at e⟩ (fun i H' _ k => SqL.of (k.1 _ _ hl8)) (fun i x H' H'' hi k y => ?_) (fun H9 k => ?_)
          · obtain ⟨s9, vs, rfl, hS, am⟩ := k
            obtain ⟨rfl, hx⟩ := y
            rw [List.getElem?_map, Option.map_eq_some_iff] at hx
            obtain ⟨ti, hti, rfl⟩ := hx
            obtain ⟨v, qq, g, hg, ht, hv, hp, bg⟩ := (rows8.same s9).2 _ _ hti
            refine ⟨ti, _, rfl, SqT.of ht, rfl, _, _, rfl, _, _, rfl, rfl, rfl, ?_⟩
            refine yes_t ?_
            have kp : ∀ v f, AV C H'' v f → AV C (upd H'' S (.lst (vs ++ [v]))) v f := fun v f h => AmV.kp h (Kp.upd (p := S)) hS
            refine ⟨_, rfl, vs, hS, ?_, Same.put s9 nS, vs ++ [v], by simp, by rw [upd_same], ?_⟩
            · have : sizeLine ≥ 6 := by decide
              omega
            · exact snoc_at (am.up fun w f h => AmV.kp h (Kp.upd (p := S)) hS) ⟨g, hg, kp v g hv, bg⟩
          · obtain ⟨s9, vs, hvl, hS, am⟩ := k
            rw [tl, h66] at hvl
            obtain ⟨v0, v1, v2, v3, v4, v5, rfl⟩ : ∃ v0 v1 v2 v3 v4 v5, vs = [v0, v1, v2, v3, v4, v5] := match vs, hvl with
              | [a, b, c, d, e, f], _ => ⟨a, b, c, d, e, f, rfl⟩
            have avs := am.avs (by rw [← le, h66]; rfl)
            refine ⟨rfl, _, rfl, S, _, _, _, rfl, rfl, SqL.of hS, at_of (j := 0) rfl rfl, _, rfl, S, _, _, _, rfl, rfl, SqL.of hS, at_of (j := 1) rfl rfl, _, rfl, S, _, _, _, rfl, rfl, SqL.of hS, at_of (j := 2) rfl rfl, _, rfl, S, _, _, _, rfl, rfl, SqL.of hS, at_of (j := 3) rfl rfl, _, rfl, S, _, _, _, rfl, rfl, SqL.of hS, at_of (j := 4) rfl rfl, _, rfl, S, _, _, _, rfl, rfl, SqL.of hS, at_of (j := 5) rfl rfl, [v0, v1, v2, v3, v4, v5], fs, 67, rfl, avs, (by show 68 * 7 ≤ 2900; decide), fun m H10 am10 s10 => ?_⟩
            have hq := (hq.same s9).same s10
            have ha := (ha.same s9).same s10
            refine ⟨_, rfl, _, rfl, m, dq, sumL (0, 1) fs, rfl, am10, hq, hb.mono (by decide), fun H11 s11 => ⟨true, rfl, iteT ?_⟩⟩
            have ha := ha.same s11
            refine ⟨_, rfl, .ref r, _, _, rfl, ha.av, Nat.lt_of_lt_of_le hb.1 (Nat.pow_le_pow_right (by decide) (by decide)), fun m2 H12 am12 s12 => ?_⟩
            refine ⟨_, rfl, m2, dq, sumL (0, 1) fs, rfl, ⟨am12, ha.2⟩, (hq.same s11).same s12, hb.mono (by decide), fun H13 s13 => ⟨true, rfl, iteT ?_⟩⟩
            have s9D : Same H9 H13 := ((s10.trans s11).trans s12).trans s13
            have sHD : Same H H13 := (sH8.trans s9).trans s9D
            have hq := ((hq.same s11).same s12).same s13
            have hS := s9D _ _ hS
            have am := am.up fun v f h => h.same s9D
            have l6 : [v0, v1, v2, v3, v4, v5].length = 6 := rfl
            have f6 : fs.length = 6 := by rw [← le, h66]
            clear avs am10 am12 rows8 hl8
            generalize [v0, v1, v2, v3, v4, v5] = vs at *
            refine ⟨_, rfl, S, rfl, ⟨_, SqL.of hS⟩, fun D nD => ?_⟩
            refine lc_it (walk_list (xs := vs)) (fun i H' => Same H13 H' ∧ ∃ as : List Addr, as.length = i ∧ H' D = some (.lst (as.map V.ref)) ∧ AmsL C H' as fs) ⟨Same.new nD, [], rfl, upd_same, fun j a e => by simp at e⟩ (fun i H' _ k => SqL.of (k.1 _ _ hS)) (fun i x H' H'' hi k y => ?_) (fun H14 k => ?_)
            · obtain ⟨s14, as, rfl, hD, aml⟩ := k
              obtain ⟨rfl, hx⟩ := y
              obtain ⟨g, hg, hv, bg⟩ := am _ _ hx
              refine ⟨rfl, ?_⟩
              refine yes_t ?_
              refine ⟨_, rfl, x, g.1, g.2, rfl, hv.same s14, Nat.lt_of_lt_of_le bg.1 (Nat.pow_le_pow_right (by decide) (by decide)), fun a H3 am3 s3 => ?_⟩
              have hD3 := s3 _ _ hD
              refine ⟨_, hD3, ?_, Same.put (s14.trans s3) nD, as ++ [a], by simp, by rw [upd_same]; simp, ?_⟩
              · rw [List.length_map]
                have : sizeLine ≥ 6 := by decide
                omega
              · exact snoc_at ((aml.up fun a f h => h.same s3).up fun a f h => h.kp (Kp.upd (p := D)) hD3) ⟨g, hg, AA.kp ⟨am3, AV.cop hv⟩ (Kp.upd (p := D)) hD3, bg⟩
            · obtain ⟨s14, as, hal, hD, aml⟩ := k
              rw [l6] at hal
              have ml : (as.map V.ref).length = 6 := by rw [List.length_map, hal]
              refine ⟨D, as.map V.ref, fun i v H' => Same H14 H' ∧ i ≤ 6 ∧ ((i = 0 ∧ v = .int 0) ∨ (0 < i ∧ ∃ a, v = .ref a ∧ AA C H' a (sumL (0, 1) (fs.take i)))) ∧ Bd (68 * i + 1) (sumL (0, 1) (fs.take i)) ∧ Cop (sumL (0, 1) (fs.take i)), rfl, SqL.of hD, fun i v H' _ k => SqL.of (k.1 _ _ hD), ?_, ?_, ?_, ?_⟩
              · intro i v x H' hx k
                obtain ⟨s15, i6, hv, hb, hc⟩ := k
                rw [List.getElem?_map, Option.map_eq_some_iff] at hx
                obtain ⟨ai, hai, rfl⟩ := hx
                obtain ⟨g, hg, ga, bg⟩ := aml _ _ hai
                have lt6 : i < 6 := by
                  have := (List.getElem?_eq_some_iff.mp hai).1
                  omega
                have ga := ga.same s15
                have b3 := hb.mono (show 68 * i + 1 ≤ 3000 by omega)
                have b4 := bg.mono (show 67 ≤ 3000 by omega)
                have ne : (sumL (0, 1) (fs.take i)).2 * g.2 ≠ 0 := Int.mul_ne_zero (by have := hc.1; omega) (by have := ga.2.1; omega)
                have pb := plus_Bd hb bg hc ga.2
                have av : AV C H' v (sumL (0, 1) (fs.take i)) := by
                  rcases hv with ⟨rfl, rfl⟩ | ⟨_, a, rfl, k⟩
                  · exact .inr ⟨rfl, rfl⟩
                  · exact k.av
                refine ⟨⟨ai, rfl⟩, _, _, g.1, g.2, av, ga.av, .inr ⟨ai, rfl⟩, b3.1, b3.2, b4.1, b4.2, fun z t b H4 lw az s4 => ⟨⟨z, rfl⟩, s15.trans s4, by omega, .inr ⟨by omega, z, rfl, ?_⟩, ?_, ?_⟩⟩
                · rw [sumL_take hg]
                  exact AA.of lw ne az
                · rw [sumL_take hg]
                  exact pb.1.mono (by omega)
                · rw [sumL_take hg]
                  exact pb.2
              · intro i v H' k
                exact k.2.2.1.imp id fun ⟨a, b, c, _⟩ => ⟨a, b, c⟩
              · exact ⟨Same.refl _, by decide, .inl ⟨rfl, rfl⟩, ⟨(by show (0 : Int).natAbs < 2 ^ 1; decide), (by show (1 : Int).natAbs < 2 ^ 1; decide)⟩, (by show (0 : Int) < 1; decide), gcd_one 0⟩
              · intro v H' k
                obtain ⟨s15, _, hv, hbb, hc⟩ := k
                rw [ml] at hv
                rcases hv with ⟨z, _⟩ | ⟨_, a, rfl, ka⟩
                · cases z
                rw [show fs.take 6 = fs by rw [← f6, List.take_length]] at ka
                exact ⟨_, rfl, a, dq, sumL (0, 1) fs, rfl, ka, (hq.same s14).same s15, hb.mono (by decide), fun H15 s16 => q _ (((sHD.trans s14).trans s15).trans s16)⟩
        · rw [decide_eq_false (show ¬ V.int ((ts.length : Nat) : Int) = V.int 6 from fun z => h66 (by injection z; omega))]
          exact iteT (q _ sH8)
      · have hz : ts.length = 0 := by omega
        rw [decide_eq_false (show ¬ (0 : Int) < ((ts.length : Nat) : Int) by omega)]
        refine iteF ?_
        refine ⟨_, rfl, L, _, _, _, rfl, rfl, SqL.of hL, at_of (j := 0) rfl rfl, by show 2 ≤ sizeLine; decide, fun t1 n1 => ?_⟩
        refine ⟨z0, t1, (0, 1), rfl, AA.same a3 (Same.new n1), upd_same, z01, fun H7 s7 => ⟨true, rfl, ?_⟩⟩
        refine iteF ?_
        have sH7 : Same H H7 := (sH.trans (Same.new n1)).trans s7
        refine ⟨_, rfl, _, ts.length, rfl, .inl ⟨_, SqL.of (sH7 _ _ hl), tl.symm⟩, _, _, rfl, rfl, _, rfl, ?_⟩
        rw [decide_eq_false (show ¬ (0 : Int) < ((ts.length : Nat) : Int) by omega)]
        refine iteF (iteF ?_)
        refine ⟨_, rfl, _, ts.length, rfl, .inl ⟨_, SqL.of (sH7 _ _ hl), tl.symm⟩, rfl, _, rfl, ?_⟩
        rw [decide_eq_false (show ¬ V.int ((ts.length : Nat) : Int) = V.int 6 from fun z => by injection z; omega)]
        exact iteT (q _ sH7)
end
end SP
namespace SP
open PySem PySem.Spec PyProof.Rows L2


/-- all objects but lists are as they were -/
def Kl (H H' : Hp) : Prop := ∀ b o, H b = some o → (∀ xs, o ≠ .lst xs) → H' b = some o
theorem Kl.of {H H' : Hp} (s : Same H H') : Kl H H' := fun b o e _ => s b o e
theorem Kl.kp {p : Addr} {H H' : Hp} {xs : List V} (k : Kp p H H') (hp : H p = some (.lst xs)) : Kl H H' := fun b o e n => k b o e fun z => by
  subst z
  rw [hp] at e
  cases e
  exact n xs rfl
theorem Kl.trans {H H1 H2 : Hp} (a : Kl H H1) (b : Kl H1 H2) : Kl H H2 := fun c o e n => b c o (a c o e n) n
theorem Kl.put {H : Hp} {p : Addr} {xs : List V} {o : HO} (hp : H p = some (.lst xs)) : Kl H (upd H p o) := Kl.kp Kp.upd hp
theorem kp_put {p q : Addr} {H H' : Hp} {o : HO} (k : Kp p H H') (n : H q = none) : Kp p H (upd H' q o) := fun b u e h => by rw [upd_ne (ne_of_none e n)]; exact k b u e h
section
variable {P : Program} {w : World} {K : PySem.W.Frag} {mg : Str → Option Value} {base : Heap} {C : Addr}
theorem AmAt.kl {H H' : Hp} {a : Addr} {t b : Int} (h : AmAt C H a t b) (k : Kl H H') : AmAt C H' a t b := let ⟨z, dx, pl, h1, h2⟩ := h; ⟨z, dx, pl, k _ _ h1 (fun _ y => nomatch y), k _ _ h2 (fun _ y => nomatch y)⟩
theorem AA.kl {H H' : Hp} {a : Addr} {f : Int × Int} (h : AA C H a f) (k : Kl H H') : AA C H' a f := ⟨AmAt.kl h.1 k, h.2⟩
theorem AV.kl {H H' : Hp} {v : V} {f : Int × Int} (h : AV C H v f) (k : Kl H H') : AV C H' v f := h.elim (fun ⟨a, e, x, g⟩ => .inl ⟨a, e, AmAt.kl x k, g⟩) .inr
theorem Pair.kl {H H' : Hp} {q : Addr} {f : Int × Int} (h : Pair H q f) (k : Kl H H') : Pair H' q f := k _ _ h (fun _ y => nomatch y)
theorem Due.kl {H H' : Hp} {n : Nat} {v : V} {q : Addr} {f : Int × Int} (h : Due C H n v q f) (k : Kl H H') : Due C H' n v q f := ⟨AV.kl h.1 k, Pair.kl h.2.1 k, h.2.2⟩
theorem RowL.kl {H H' : Hp} {ts : List Addr} {fs : List (Int × Int)} (h : RowL C H ts fs) (k : Kl H H') : RowL C H' ts fs := ⟨h.1, fun j t e => let ⟨v, q, f, a, b, c⟩ := h.2 j t e; ⟨v, q, f, a, k _ _ b (fun _ y => nomatch y), Due.kl c k⟩⟩
/-- what was made: Amounts and their fractions -/
def MadeL (C : Addr) (H : Hp) (ts : List Addr) : Prop := ∀ (j : Nat) (t : Addr), ts[j]? = some t → ∃ (a q : Addr) (f : Int × Int), H t = some (.tup [.ref a, .ref q]) ∧ AA C H a f ∧ Pair H q f ∧ Bd 1900 f
theorem MadeL.kl {H H' : Hp} {ts : List Addr} (h : MadeL C H ts) (k : Kl H H') : MadeL C H' ts := fun j t e => let ⟨a, q, f, x, y, z, b⟩ := h j t e; ⟨a, q, f, k _ _ x (fun _ y => nomatch y), AA.kl y k, Pair.kl z k, b⟩
def spRight : Sp := fun vs H Q _ => ∃ p : Addr, vs = [.ref p] ∧ Pot H p ∧ ∀ H', Kp p H H' → Q (.bl true) H'
theorem scRight : FnScope ["_law_pot_here", "_law_passed", "_law_due", "_law_here", "_law_rows", "_law_made", "_law_turn", "_law_more", "_law_beside", "_law_one", "_law_fraction"] ["_law_pot_here"] (defScope sRight) := ⟨rfl, rfl, rfl, by decide +kernel, rfl, by decide +kernel, by decide +kernel⟩
theorem d_right (T : LTxt K mg C) : DefG P w K mg base 9 "_law_right" ["_law_pot_here"] spRight := by
  have DD := d_draw (P := P) (w := w) (base := base) T.pot
  have DDr := d_drawn (P := P) (w := w) (base := base) T
  have DSt := d_step (P := P) (w := w) (base := base) T
  have DSu := d_sums (P := P) (w := w) (base := base) T
  have DIs := d_is (P := P) (w := w) (base := base) T
  have DOf := d_of (P := P) (w := w) (base := base) T.toAmTxt T.ops
  obtain ⟨fO, fdO, mO, FO, hbO⟩ := T.ops.tOf.ex
  have hkO : KBn K fdO ["value"] 0 ["value"] (fun us ws => us ++ ws) (fun vs zs => vs ++ zs) := fun_kbn FO fun _ _ _ _ _ _ us ws h1 h2 => match us, ws, h1, h2 with | [], [_], _, _ => rfl
  refine T.tRight.ok scRight (fun vs H Q E h => ?_) (fun f cdv A out s H vs Q E gd hr h => ?_)
  · obtain ⟨p, rfl, _⟩ := h
    rfl
  · obtain ⟨p, rfl, hp, q⟩ := h
    refine ⟨_, (pss_cons (ps_asg (pe_callD DDr gd (hr.mono (by decide)) (pa_cons (pv 0) pa_nil)) (pg_tup (by rfl) (pgs_cons (pg_name (i := 1) scRight.nd rfl (Or.inl rfl)) (pgs_cons (pg_name (i := 2) scRight.nd rfl (Or.inl rfl)) pgs_nil))))
  (pss_cons (ps_set (i := 3) scRight.nd rfl (Or.inl rfl) (pe_callO DOf (hr.mono (by decide)) (pa_cons (pv 1) pa_nil)))
  (pss_cons (ps_if (PW.pt (pw_or (pt_not (pt_val (pe_callD DIs gd (hr.mono (by decide)) (pa_cons (pv 3) (pa_cons (pv 2) pa_nil))))) (pw_or1 (pt_not (pt_val (pe_callD DIs gd (hr.mono (by decide)) (pa_cons (pe_callK0 (ok_of FO T.toAmTxt) (hr.mono (by decide)) (by rfl) mO FO.kp hkO pass0 (pk_cons (pv 1) pk_nil)) (pa_cons (pv 2) pa_nil)))))))) (pss_one (ps_ret pe_bl)) pss_nil)
  (pss_cons (ps_par (i := 4) (j := 5) (by rfl) scRight.nd rfl rfl (by decide) rfl rfl (pa_cons (pe_lst pa_nil) (pa_cons (pe_lst (pa_cons (pe_tup (pa_cons (pv 3) (pa_cons (pv 2) pa_nil))) pa_nil)) pa_nil)) (by rfl))
  (pss_cons (ps_for PassesOwn.never rfl (pi_range1 (by rfl) T.b_range (pa_cons pe_int pa_nil)) (pg_name (i := 6) scRight.nd rfl (Or.inl rfl)) (pss_cons (ps_asg (pe_callD DDr gd (hr.mono (by decide)) (pa_cons (pv 0) pa_nil)) (pg_tup (by rfl) (pgs_cons (pg_name (i := 7) scRight.nd rfl (Or.inl rfl)) (pgs_cons (pg_name (i := 8) scRight.nd rfl (Or.inl rfl)) pgs_nil))))
  (pss_cons (ps_expr (pe_bm PySem.F.plainAttrs_list PySem.F.slot_list_append PySem.F.type_list_append mt_append (pv 4) (pa_cons (pe_tup (pa_cons (pv 7) (pa_cons (pv 8) pa_nil))) pa_nil)))
  (pss_cons (ps_asg (pe_callD DSt gd (hr.mono (by decide)) (pa_cons (pe_callD DD gd (hr.mono (by decide)) (pa_cons (pv 0) (pa_cons pe_int pa_nil))) (pa_cons (pv 3) (pa_cons (pv 2) (pa_cons (pv 7) (pa_cons (pv 8) pa_nil)))))) (pg_tup (by rfl) (pgs_cons (pg_name (i := 3) scRight.nd rfl (Or.inl rfl)) (pgs_cons (pg_name (i := 2) scRight.nd rfl (Or.inl rfl)) pgs_nil))))
  (pss_one (ps_expr (pe_bm PySem.F.plainAttrs_list PySem.F.slot_list_append PySem.F.type_list_append mt_append (pv 5) (pa_cons (pe_tup (pa_cons (pv 3) (pa_cons (pv 2) pa_nil))) pa_nil))))))))
  (pss_cons (ps_if (pt_not (pt_val (pe_callB (cr_all rfl) (by rfl) T.b_all (by decide +kernel) (pa_cons (pe_lc (own := [("_law_one", 9), ("_law_fraction", 10)]) (g := (gTup K 2 (gCons (gName 9) (gCons (gName 10) gNil)))) (by rfl) scRight.nd (pi_list (pv 5)) (blkOk_by (own := [("_law_one", 9), ("_law_fraction", 10)]) (N := ["_law_pot_here", "_law_passed", "_law_due", "_law_here", "_law_rows", "_law_made", "_law_turn", "_law_more", "_law_beside", "_law_one", "_law_fraction"]) (sc := defScope sRight) (by decide +kernel)) (fun _ _ _ _ _ => (pg_tup (by rfl) (pgs_cons (pg_name (i := 9) scRight.nd rfl (Or.inl rfl)) (pgs_cons (pg_name (i := 10) scRight.nd rfl (Or.inl rfl)) pgs_nil)))) (fun _ _ _ _ _ => pts_nil) (fun _ _ _ _ _ => (pe_callD DIs gd (hr.mono (by decide)) (pa_cons (pv 9) (pa_cons (pv 10) pa_nil))))) pa_nil)))) (pss_one (ps_ret pe_bl)) pss_nil)
  (pss_cons (ps_if (pt_not (pt_val (pe_callB (cr_all rfl) (by rfl) T.b_all (by decide +kernel) (pa_cons (pe_lc (own := [("_law_one", 9), ("_law_fraction", 10)]) (g := (gTup K 2 (gCons (gName 9) (gCons (gName 10) gNil)))) (by rfl) scRight.nd (pi_list (pv 4)) (blkOk_by (own := [("_law_one", 9), ("_law_fraction", 10)]) (N := ["_law_pot_here", "_law_passed", "_law_due", "_law_here", "_law_rows", "_law_made", "_law_turn", "_law_more", "_law_beside", "_law_one", "_law_fraction"]) (sc := defScope sRight) (by decide +kernel)) (fun _ _ _ _ _ => (pg_tup (by rfl) (pgs_cons (pg_name (i := 9) scRight.nd rfl (Or.inl rfl)) (pgs_cons (pg_name (i := 10) scRight.nd rfl (Or.inl rfl)) pgs_nil)))) (fun _ _ _ _ _ => pts_nil) (fun _ _ _ _ _ => (pe_callD DIs gd (hr.mono (by decide)) (pa_cons (pe_callO DOf (hr.mono (by decide)) (pa_cons (pv 9) pa_nil)) (pa_cons (pv 10) pa_nil))))) pa_nil)))) (pss_one (ps_ret pe_bl)) pss_nil)
  (pss_one (ps_ret (pe_and (pe_callD DSu gd (hr.mono (by decide)) (pa_cons (pv 4) pa_nil)) (pe_and (pe_callD DSu gd (hr.mono (by decide)) (pa_cons (pe_slice sl_list (pv 4) po_none (po_some pe_int)) pa_nil)) (pe_one (pe_callD DSu gd (hr.mono (by decide)) (pa_cons (pe_lst pa_nil) pa_nil)))))))))))))), ?_⟩
    have e8 : (2 : Nat) ^ 67 ≤ 2 ^ 8000 := Nat.pow_le_pow_right (by decide) (by decide)
    refine ⟨_, rfl, p, rfl, hp, fun t0 v q0 f0 H1 ht0 du0 hp1 k1 => ?_⟩
    refine ⟨t0, _, rfl, SqT.of ht0, rfl, _, _, rfl, _, _, rfl, rfl, ?_⟩
    have c0 : Cop f0 := AV.cop du0.1
    refine ⟨_, rfl, v, f0.1, f0.2, rfl, du0.1, Nat.lt_of_lt_of_le du0.2.2.1 e8, fun h H2 ah s2 => ?_⟩
    have du2 := du0.same s2
    refine ⟨_, rfl, _, rfl, h, q0, f0, rfl, ⟨ah, c0⟩, du2.2.1, du2.2.2.mono (by decide), fun H3 s3 => ⟨true, rfl, iteF ?_⟩⟩
    have du3 := du2.same s3
    refine ⟨_, rfl, rfl, rfl, v, f0.1, f0.2, rfl, du3.1, Nat.lt_of_lt_of_le du0.2.2.1 e8, fun h2 H4 ah2 s4 => ?_⟩
    have du4 := du3.same s4
    refine ⟨_, rfl, h2, q0, f0, rfl, ⟨ah2, c0⟩, du4.2.1, du4.2.2.mono (by decide), fun H5 s5 => ⟨true, rfl, iteF ?_⟩⟩
    have s15 : Same H1 H5 := ((s2.trans s3).trans s4).trans s5
    have aa5 : AA C H5 h f0 := AA.same ⟨ah, c0⟩ ((s3.trans s4).trans s5)
    have du5 := du4.same s5
    have hp5 := hp1.same s15
    have k5 : Kp p H H5 := k1.trans (.of s15)
    clear du0 du2 du3 du4 ah ah2 hp1 s2 s3 s4 s5 k1 ht0 s15
    refine ⟨by show 0 ≤ sizeLine; decide, fun R nR => ?_⟩
    obtain ⟨H6, e6, s6, hR⟩ := mkl nR []
    rw [e6]
    refine ⟨_, rfl, _, rfl, by show 2 ≤ sizeLine; decide, fun t1 n1 => ?_⟩
    have s7 : Same H6 (upd H6 t1 (.tup [.ref h, .ref q0])) := Same.new n1
    have ht1 : upd H6 t1 (.tup [.ref h, .ref q0]) t1 = some (.tup [.ref h, .ref q0]) := upd_same
    generalize upd H6 t1 (.tup [.ref h, .ref q0]) = H7 at *
    refine ⟨by show 1 ≤ sizeLine; decide, fun M nM => ?_⟩
    obtain ⟨H8, e8', s8, hM⟩ := mkl nM [.ref t1]
    rw [e8']
    have s68 : Same H6 H8 := s7.trans s8
    have s58 : Same H5 H8 := s6.trans s68
    obtain ⟨xp, hxp⟩ := hp5.lst
    have Rp : R ≠ p := (ne_of_none hxp nR).symm
    have Mp : M ≠ p := (ne_of_none (s7 _ _ (s6 _ _ hxp)) nM).symm
    have MR : M ≠ R := (ne_of_none (s7 _ _ hR) nM).symm
    have hR := s68 _ _ hR
    have HR : H R = none := by
      cases e : H R with
      | none => rfl
      | some o => rw [k5 R o e Rp] at nR; cases nR
    have HM : H M = none := by
      cases e : H M with
      | none => rfl
      | some o => rw [s7 _ _ (s6 _ _ (k5 M o e Mp))] at nM; cases nM
    have k8 : Kp p H H8 := k5.trans (.of s58)
    have hp8 := hp5.same s58
    have aa8 := aa5.same s58
    have du8 := du5.same s58
    have made0 : MadeL C H8 [t1] := fun j t e => by
      cases j with
      | zero => cases e; exact ⟨h, q0, f0, s8 _ _ ht1, aa8, du8.2.1, du8.2.2.mono (by decide)⟩
      | succ j => simp at e
    clear ht1 e6 e8' n1 nM s7 s8 s68 s58 s6 aa5 du5 hp5 k5 nR
    refine ⟨_, _, rfl, ?_⟩
    refine ⟨6, rfl, by decide, by decide, ?_⟩
    refine for_it (walk_range (lo := 0) (n := 6)) (fun i σ H' => Kp p H H' ∧ Pot H' p ∧ ∃ (hh d : Addr) (f : Int × Int) (ts ms : List Addr) (fs : List (Int × Int)) (o6 o7 o8 : Option V), σ = [some (.ref p), some v, some (.ref d), some (.ref hh), some (.ref R), some (.ref M), o6, o7, o8, none, none] ∧ H' R = some (.lst (ts.map V.ref)) ∧ H' M = some (.lst (ms.map V.ref)) ∧ RowL C H' ts fs ∧ ts.length = i ∧ MadeL C H' ms ∧ ms.length = i + 1 ∧ AA C H' hh f ∧ Pair H' d f ∧ Bd (67 + 68 * i) f)
      ⟨k8, hp8, h, q0, f0, [], [t1], [], _, _, _, rfl, hR, hM, ⟨rfl, fun j t e => by simp at e⟩, rfl, made0, rfl, aa8, du8.2.1, du8.2.2⟩ (fun _ _ _ _ _ => trivial) (fun i x σ H0 H0' hi k y => ?_) (fun σ H9 k => ?_)
    · obtain ⟨kH, hpi, hh, d, f, ts, ms, fs, o6, o7, o8, rfl, hR, hM, rows, tsl, made, msl, aa, pd, bf⟩ := k
      obtain ⟨rfl, rfl⟩ := y
      refine ⟨_, rfl, p, rfl, hpi, fun t v' q' g H1 ht du hp1 k1 => ⟨t, _, rfl, SqT.of ht, rfl, _, _, rfl, _, _, rfl, rfl, ?_⟩⟩
      obtain ⟨xp, hxp⟩ := hpi.lst
      have l1 : Kl _ H1 := Kl.kp k1 hxp
      have hR1 := k1 _ _ hR Rp
      have hM1 := k1 _ _ hM Mp
      have kH1 := kH.trans k1
      refine ⟨_, rfl, .inl ⟨rfl, _, SqL.of hR1⟩, _, rfl, _, rfl, by show 2 ≤ sizeLine; decide, fun tt ntt => ?_⟩
      have s2 : Same H1 (upd H1 tt (.tup [v', .ref q'])) := Same.new ntt
      have htt : upd H1 tt (.tup [v', .ref q']) tt = some (.tup [v', .ref q']) := upd_same
      generalize upd H1 tt (.tup [v', .ref q']) = H2 at *
      have hR2 := s2 _ _ hR1
      have hM2 := s2 _ _ hM1
      have big : sizeLine ≥ 100 := by decide
      refine ⟨R, _, _, rfl, rfl, hR2, by rw [List.length_map]; omega, ?_⟩
      have l3 : Kl H2 (upd H2 R (.lst (ts.map V.ref ++ [.ref tt]))) := Kl.put hR2
      have hR3 : upd H2 R (.lst (ts.map V.ref ++ [.ref tt])) R = some (.lst ((ts ++ [tt]).map V.ref)) := by rw [upd_same]; simp
      have hM3 : upd H2 R (.lst (ts.map V.ref ++ [.ref tt])) M = _ := (upd_ne MR).trans hM2
      have hp3 : Pot (upd H2 R (.lst (ts.map V.ref ++ [.ref tt]))) p := let ⟨a, b, e, z⟩ := hp1.same s2; ⟨a, b, (upd_ne Rp.symm).trans e, z⟩
      have kH3 : Kp p H (upd H2 R (.lst (ts.map V.ref ++ [.ref tt]))) := kp_put (kH1.trans (.of s2)) HR
      generalize upd H2 R (.lst (ts.map V.ref ++ [.ref tt])) = H3 at *
      have l13 : Kl H1 H3 := (Kl.of s2).trans l3
      have l03 := l1.trans l13
      have du3 := Due.kl du l13
      have rows3 : RowL C H3 (ts ++ [tt]) (fs ++ [g]) := by
        refine ⟨by rw [List.length_append, List.length_append, rows.1]; rfl, ?_⟩
        refine snoc_at (fun j a e => ?_) ?_
        · obtain ⟨v2, q2, f2, x1, x2, x3⟩ := (RowL.kl rows l03).2 j a e
          have hj : j < fs.length := (List.getElem?_eq_some_iff.mp x1).1
          exact ⟨v2, q2, f2, by rw [List.getElem?_append_left hj]; exact x1, x2, x3⟩
        · exact ⟨v', q', g, by rw [rows.1, List.getElem?_append_right (Nat.le_refl _), Nat.sub_self]; rfl, l3 _ _ htt (fun _ y => nomatch y), du3⟩
      refine ⟨_, rfl, p, _, rfl, hp3, by decide, by decide, fun way H4 w0 w1 hp4 k4 => ?_⟩
      obtain ⟨xp3, hxp3⟩ := hp3.lst
      have l4 : Kl H3 H4 := Kl.kp k4 hxp3
      have l04 := l03.trans l4
      have hR4 := k4 _ _ hR3 Rp
      have hM4 := k4 _ _ hM3 Mp
      have du4 := Due.kl du3 l4
      have kH4 := kH3.trans k4
      refine ⟨_, rfl, _, rfl, _, rfl, _, rfl, way, hh, d, q', v', f, g, 67 + 68 * i, rfl, w0, AA.kl aa l04, Pair.kl pd l04, du4.1, du4.2.1, bf, by omega, by omega, du4.2.2, fun t2 r y f' H5 ht2 ar py bf' s5 n5 => ⟨t2, _, rfl, SqT.of ht2, rfl, _, _, rfl, _, _, rfl, rfl, ?_⟩⟩
      have hR5 := s5 _ _ hR4
      have hM5 := s5 _ _ hM4
      refine ⟨_, rfl, .inl ⟨rfl, _, SqL.of hM5⟩, _, rfl, _, rfl, by show 2 ≤ sizeLine; decide, fun t3 n3 => ?_⟩
      have s6 : Same H5 (upd H5 t3 (.tup [.ref r, .ref y])) := Same.new n3
      have ht3 : upd H5 t3 (.tup [.ref r, .ref y]) t3 = some (.tup [.ref r, .ref y]) := upd_same
      generalize upd H5 t3 (.tup [.ref r, .ref y]) = H6 at *
      have s46 := s5.trans s6
      have hR6 := s6 _ _ hR5
      have hM6 := s6 _ _ hM5
      refine ⟨M, _, _, rfl, rfl, hM6, by rw [List.length_map]; omega, ?_⟩
      have l7 : Kl H6 (upd H6 M (.lst (ms.map V.ref ++ [.ref t3]))) := Kl.put hM6
      have hM7 : upd H6 M (.lst (ms.map V.ref ++ [.ref t3])) M = some (.lst ((ms ++ [t3]).map V.ref)) := by rw [upd_same]; simp
      have hR7 : upd H6 M (.lst (ms.map V.ref ++ [.ref t3])) R = _ := (upd_ne MR.symm).trans hR6
      have hp7 : Pot (upd H6 M (.lst (ms.map V.ref ++ [.ref t3]))) p := let ⟨a, b, e, z⟩ := hp4.same s46; ⟨a, b, (upd_ne Mp.symm).trans e, z⟩
      have kH7 : Kp p H (upd H6 M (.lst (ms.map V.ref ++ [.ref t3]))) := kp_put (kH4.trans (.of s46)) HM
      generalize upd H6 M (.lst (ms.map V.ref ++ [.ref t3])) = H7 at *
      have l57 : Kl H5 H7 := (Kl.of s6).trans l7
      have l47 : Kl H4 H7 := (Kl.of s5).trans l57
      have ar7 := AA.kl ar l57
      have py7 := Pair.kl py l57
      have bf7 : Bd (67 + 68 * (i + 1)) f' := bf'.mono (by omega)
      refine ⟨kH7, hp7, r, y, f', ts ++ [tt], ms ++ [t3], fs ++ [g], _, _, _, rfl, hR7, hM7, RowL.kl rows3 (l4.trans l47), by simp [tsl], ?_, by simp [msl], ar7, py7, bf7⟩
      exact snoc_at (fun j a e => MadeL.kl made (l04.trans l47) j a e) ⟨r, y, f', l7 _ _ ht3 (fun _ y => nomatch y), ar7, py7, bf7.mono (by omega)⟩
    · obtain ⟨kH, hpi, hh, d, f, ts, ms, fs, o6, o7, o8, rfl, hR, hM, rows, tsl, made, msl, aa, pd, bf⟩ := k
      clear aa8 du8 made0 hp8 k8 aa pd bf
      have big : sizeLine ≥ 100 := by decide
      refine ⟨_, rfl, M, rfl, ⟨_, SqL.of hM⟩, fun D nD => ?_⟩
      refine lc_it (walk_list (xs := ms.map V.ref)) (fun i H' => Same H9 H' ∧ H' D = some (.lst (List.replicate i (.bl true)))) ⟨Same.new nD, upd_same⟩ (fun i H' _ k => SqL.of (k.1 _ _ hM)) (fun i x H' H'' hi k y => ?_) (fun H10 k => ?_)
      · obtain ⟨s1, hD⟩ := k
        obtain ⟨rfl, hx⟩ := y
        rw [List.getElem?_map, Option.map_eq_some_iff] at hx
        obtain ⟨ti, hti, rfl⟩ := hx
        rw [List.length_map] at hi
        obtain ⟨a, qq, g, ht, ga, gp, gb⟩ := MadeL.kl made (Kl.of s1) _ _ hti
        refine ⟨ti, _, rfl, SqT.of ht, rfl, _, _, rfl, _, _, rfl, rfl, rfl, ?_⟩
        refine yes_t ?_
        refine ⟨_, rfl, _, rfl, a, qq, g, rfl, ga, gp, gb, fun H3 s3 => ⟨_, s3 _ _ hD, by rw [List.length_replicate]; omega, Same.put (s1.trans s3) nD, by rw [upd_same, rep_add]⟩⟩
      · obtain ⟨s10, hD⟩ := k
        refine ⟨D, List.replicate ms.length true, rfl, SqL.of (by rw [hD, List.length_map, List.map_replicate]), true, by rw [show (List.replicate ms.length true).all id = true from by simp], iteF ?_⟩
        have hR := s10 _ _ hR
        have rows := RowL.kl rows (Kl.of s10)
        have kH := kH.trans (.of s10)
        clear hD s10 nD made hM
        refine ⟨_, rfl, R, rfl, ⟨_, SqL.of hR⟩, fun D2 nD2 => ?_⟩
        refine lc_it (walk_list (xs := ts.map V.ref)) (fun i H' => Same H10 H' ∧ H' D2 = some (.lst (List.replicate i (.bl true)))) ⟨Same.new nD2, upd_same⟩ (fun i H' _ k => SqL.of (k.1 _ _ hR)) (fun i x H' H'' hi k y => ?_) (fun H11 k => ?_)
        · obtain ⟨s1, hD⟩ := k
          obtain ⟨rfl, hx⟩ := y
          rw [List.getElem?_map, Option.map_eq_some_iff] at hx
          obtain ⟨ti, hti, rfl⟩ := hx
          rw [List.length_map] at hi
          obtain ⟨v2, qq, g, hg, ht, gd2⟩ := (RowL.kl rows (Kl.of s1)).2 _ _ hti
          refine ⟨ti, _, rfl, SqT.of ht, rfl, _, _, rfl, _, _, rfl, rfl, rfl, ?_⟩
          refine yes_t ?_
          refine ⟨_, rfl, v2, g.1, g.2, rfl, gd2.1, Nat.lt_of_lt_of_le gd2.2.2.1 e8, fun a H3 am s3 => ?_⟩
          exact ⟨_, rfl, a, qq, g, rfl, ⟨am, AV.cop gd2.1⟩, gd2.2.1.same s3, gd2.2.2.mono (by decide), fun H4 s4 => ⟨_, s4 _ _ (s3 _ _ hD), by rw [List.length_replicate]; omega, Same.put ((s1.trans s3).trans s4) nD2, by rw [upd_same, rep_add]⟩⟩
        · obtain ⟨s11, hD⟩ := k
          refine ⟨D2, List.replicate ts.length true, rfl, SqL.of (by rw [hD, List.length_map, List.map_replicate]), true, by rw [show (List.replicate ts.length true).all id = true from by simp], iteF ?_⟩
          have hR := s11 _ _ hR
          have rows := RowL.kl rows (Kl.of s11)
          have kH := kH.trans (.of s11)
          clear hD s11 nD2
          refine ⟨_, rfl, R, ts, fs, rfl, hR, rows, by omega, fun H12 s12 => ⟨true, rfl, iteT ?_⟩⟩
          have hR := s12 _ _ hR
          have rows := RowL.kl rows (Kl.of s12)
          have kH := kH.trans (.of s12)
          obtain ⟨t0, ts', rfl⟩ : ∃ t0 ts', ts = t0 :: ts' := match ts, tsl with
            | a :: b, _ => ⟨a, b, rfl⟩
          obtain ⟨v2, qq, g, hg, ht, gd2⟩ := rows.2 0 t0 rfl
          have cut : cutV ((t0 :: ts').map V.ref) none (some 1) = [.ref t0] := by
            have l6 : ts'.length = 5 := by simpa using tsl
            unfold cutV
            simp only [List.length_map, List.length_cons, l6]
            rw [show HT.sIx (5 + 1) (5 + 1) (some 1) = 1 from by decide, show HT.sIx (5 + 1) 0 none = 0 from by decide]
            rfl
          refine ⟨_, rfl, _, rfl, R, _, rfl, SqL.of hR, fun S nS => ?_⟩
          rw [cut]
          have s13 : Same H12 (upd H12 S (.lst [.ref t0])) := Same.new nS
          refine ⟨S, [t0], [g], rfl, upd_same, ⟨rfl, fun j t e => ?_⟩, (by show 1 ≤ 6; decide), fun H13 s14 => ⟨true, rfl, iteT ?_⟩⟩
          · cases j with
            | zero => cases e; exact ⟨v2, qq, g, rfl, s13 _ _ ht, gd2.same s13⟩
            | succ j => simp at e
          refine ⟨by show 0 ≤ sizeLine; decide, fun S2 nS2 => ?_⟩
          exact ⟨S2, [], [], rfl, upd_same, ⟨rfl, fun j t e => by simp at e⟩, by decide, fun H14 s15 => q _ (kH.trans (.of (((s13.trans s14).trans (Same.new nS2)).trans s15)))⟩
end
end SP
namespace SP
open PySem PySem.Spec PyProof.Rows L2


section
variable {P : Program} {w : World} {K : PySem.W.Frag} {mg : Str → Option Value} {base : Heap} {C : Addr}
def spLaw (K : PySem.W.Frag) : Sp := fun vs H Q _ => ∃ (a : Addr) (ns : List Int), vs = [.ref a] ∧ SqL K H a (ns.map V.int) ∧ ns.length ≤ 63 ∧ ∀ H', Q (.bl true) H'
theorem scLaw : FnScope ["_law_script", "_law_k"] ["_law_script"] (defScope sLaw) := ⟨rfl, rfl, rfl, by decide +kernel, rfl, by decide +kernel, by decide +kernel⟩
theorem one_av {H : Hp} {i : Int} : AV C H (.int i) (i, 1) := .inr ⟨rfl, rfl⟩
theorem ok_law {f : Addr} {fd : FuncData} (T : LTxt K mg C) (F : Fun K "law" "law" sLaw f fd) : FnG P w K mg base CX0 10 f fd ["_law_script"] (spLaw K) := by
  have DR := d_right (P := P) (w := w) (base := base) T
  have DPo := d_pot (P := P) (w := w) (base := base) T.pot
  have DIs := d_is (P := P) (w := w) (base := base) T
  obtain ⟨mc, pS, gS, fdS, cr, cm, FS⟩ := T.sm.ex
  have DS := d_sum (P := P) (w := w) (base := base) T.toAmTxt T.ops FS
  refine okG0 F scLaw (fun vs H Q E h => ?_) (fun cdv A out s H vs Q E gd hr h => ?_)
  · obtain ⟨a, ns, rfl, _⟩ := h
    rfl
  · obtain ⟨a, ns, rfl, hS, hn, q⟩ := h
    refine ⟨_, (pss_cons (ps_if (pt_not (pt_val (pe_callD DIs gd (hr.mono (by decide)) (pa_cons (ClX.pe_cmeth (pe_glob (v := .ref C) (by rfl) T.gC rfl) cr cm DS (hr.mono (by decide)) pass0 (pa_cons pe_int (pa_cons pe_int (pa_cons pe_int (pa_cons pe_int (pa_cons pe_int (pa_cons pe_int (pa_cons pe_int (pa_cons pe_int (pa_cons pe_int (pa_cons pe_int (pa_cons pe_int (pa_cons pe_int pa_nil))))))))))))) (pa_cons (pe_tup (pa_cons pe_int (pa_cons pe_int pa_nil))) pa_nil))))) (pss_one (ps_ret pe_bl)) pss_nil)
  (pss_one (ps_ret (pe_callB (cr_all rfl) (by rfl) T.b_all (by decide +kernel) (pa_cons (pe_lc (own := [("_law_k", 1)]) (g := (gName 1)) (by rfl) scLaw.nd (pi_range1 (by rfl) T.b_range (pa_cons (pe_callB (call_max2 rfl) (by rfl) T.b_max (by decide +kernel) (pa_cons pe_int (pa_cons (pe_callB (call_min2 rfl) (by rfl) T.b_min (by decide +kernel) (pa_cons pe_int (pa_cons (pe_callB call_len (by rfl) T.b_len (by decide +kernel) (pa_cons (pv 0) pa_nil)) pa_nil))) pa_nil))) pa_nil)) (blkOk_by (own := [("_law_k", 1)]) (N := ["_law_script", "_law_k"]) (sc := defScope sLaw) (by decide +kernel)) (fun _ _ _ _ _ => (pg_name (i := 1) scLaw.nd rfl (Or.inl rfl))) (fun _ _ _ _ _ => pts_nil) (fun _ _ _ _ _ => (pe_callD DR gd (hr.mono (by decide)) (pa_cons (pe_callD DPo gd (hr.mono (by decide)) (pa_cons (pv 0) (pa_cons (pv 1) pa_nil))) pa_nil)))) pa_nil))))), ?_⟩
    have avs : AVs C H 67 [.int 1, .int 2, .int 3, .int 4, .int 5, .int 6, .int 7, .int 8, .int 9, .int 10, .int 11, .int 12] [(1, 1), (2, 1), (3, 1), (4, 1), (5, 1), (6, 1), (7, 1), (8, 1), (9, 1), (10, 1), (11, 1), (12, 1)] := by
      repeat' first | exact trivial | refine ⟨one_av, ⟨by decide, by decide⟩, ?_⟩
    have e78 : sumL (0, 1) [(1, 1), (2, 1), (3, 1), (4, 1), (5, 1), (6, 1), (7, 1), (8, 1), (9, 1), (10, 1), (11, 1), (12, 1)] = (78, 1) := by decide +kernel
    refine ⟨rfl, [.int 1, .int 2, .int 3, .int 4, .int 5, .int 6, .int 7, .int 8, .int 9, .int 10, .int 11, .int 12], [(1, 1), (2, 1), (3, 1), (4, 1), (5, 1), (6, 1), (7, 1), (8, 1), (9, 1), (10, 1), (11, 1), (12, 1)], 67, rfl, avs, (by show 68 * 13 ≤ 2900; decide), fun m Ha am sa => ?_⟩
    rw [e78] at am
    refine ⟨by show 2 ≤ sizeLine; decide, fun t nt => ?_⟩
    have b78 : Bd 1900 (78, 1) := ⟨Nat.lt_of_lt_of_le (by decide : (78 : Int).natAbs < 2 ^ 7) (Nat.pow_le_pow_right (by decide) (by decide)), Nat.lt_of_lt_of_le (by decide : (1 : Int).natAbs < 2 ^ 7) (Nat.pow_le_pow_right (by decide) (by decide))⟩
    refine ⟨m, t, (78, 1), rfl, AA.same am (Same.new nt), upd_same, b78, fun Hb sb => ⟨true, rfl, iteF ?_⟩⟩
    have hS : SqL K Hb a (ns.map V.int) := ((sa.trans (Same.new nt)).trans sb).seq hS
    clear am avs sa nt sb
    generalize Hb = H at *
    refine ⟨_, rfl, _, ns.length, rfl, .inl ⟨_, hS, by rw [List.length_map]⟩, ?_⟩
    have hm : ∃ m : Nat, m ≤ 4 ∧ (if (if (ns.length : Int) < 4 then (ns.length : Int) else 4) > 1 then (if (ns.length : Int) < 4 then (ns.length : Int) else 4) else 1) = (m : Int) := by
      refine ⟨(if (if (ns.length : Int) < 4 then (ns.length : Int) else 4) > 1 then (if (ns.length : Int) < 4 then (ns.length : Int) else 4) else 1).toNat, ?_, ?_⟩ <;> split <;> split <;> omega
    obtain ⟨m, m4, em⟩ := hm
    refine ⟨_, _, rfl, _, _, rfl, m, by rw [em], by omega, by omega, fun D nD => ?_⟩
    refine lc_it (walk_range (lo := 0) (n := m)) (fun i H' => Same H H' ∧ H' D = some (.lst (List.replicate i (.bl true)))) ⟨Same.new nD, upd_same⟩ (fun i H' _ k => trivial) (fun i x H' H'' hi k y => ?_) (fun H' k => ?_)
    · obtain ⟨rfl, rfl⟩ := y
      obtain ⟨s1, hD⟩ := k
      refine ⟨rfl, ?_⟩
      refine yes_t ?_
      refine ⟨_, rfl, _, rfl, a, ns, (i : Int), (by show [V.ref a, V.int (0 + (i : Int))] = _; rw [Int.zero_add]), s1.seq hS, hn, by omega, by omega, fun p H1 s2 np hp => ?_⟩
      refine ⟨p, rfl, hp, fun H2 k2 => ?_⟩
      have pD : D ≠ p := ne_of_none hD np
      have hD2 : H2 D = some (.lst (List.replicate i (.bl true))) := k2 _ _ (s2 _ _ hD) pD
      refine ⟨_, hD2, ?_, Same.put (fun b o e => k2 _ _ (s2 _ _ (s1 _ _ e)) (ne_of_none (s1 _ _ e) np)) nD, ?_⟩
      · rw [List.length_replicate]
        exact Nat.lt_of_lt_of_le (show i < 4 by omega) (by decide)
      · rw [upd_same, rep_add]
    · refine ⟨D, List.replicate m true, rfl, SqL.of ?_, ?_⟩
      · rw [k.2, List.map_replicate]
      · rw [show (List.replicate m true).all id = true from by simp]
        exact q _
end
end SP
namespace SP
open PySem PySem.Spec PyProof.Rows L2
theorem kit_own {K : PySem.W.Frag} {C : Addr} {T : String} {ms : List Value} (hC : PySem.W.isClsIn K C = true) (hT : PySem.W.typeIn K (.ref C) = some (.type "type")) (e : fastBuiltinMro T = some ms) (n : ms.contains (.ref C) = false) : PySem.W.kitOne K (.type T) (.ref C) = some false := by
  have h2' : (PySem.W.clsIn K C).isSome = true := hC
  have e2 : ((PySem.W.clsIn K C).isSome && PySem.W.typeIn K (.ref C) == some (.type "type")) = true := by rw [h2', hT] <;> rfl
  show (if ((Value.type T) == (Value.ref C)) = true then some true else if ((PySem.W.clsIn K C).isSome && PySem.W.typeIn K (.ref C) == some (.type "type")) = true then PySem.W.subIn K (.type T) (.ref C) else none) = some false
  rw [if_neg (show ¬ ((Value.type T) == (Value.ref C)) = true from fun z => by cases (beq_iff_eq.mp z)), if_pos e2]
  exact sub_built e n
theorem not_own {K : PySem.W.Frag} {C : Addr} (hC : PySem.W.isClsIn K C = true) (hT : PySem.W.typeIn K (.ref C) = some (.type "type")) : NotAm K C :=
  ⟨kit_own hC hT mro_int rfl, kit_own hC hT mro_bool rfl, kit_own hC hT mro_str rfl, kit_own hC hT mro_none rfl, kit_own hC hT mro_tuple rfl, kit_own hC hT mro_list rfl⟩
theorem init_mk {K : PySem.W.Frag} {f TD : Addr} {oc kV doc pm cdv ct ocD vD : Value} {od an odD : Option Addr} {sl slD : Array (Option Value)} {nD : Nat}
    (l : K.lookup f = some ⟨oc, od, .func (PySem.W.fnOf "__init__" "Amount.__init__" (defArgs sInit) (defBody sInit) (defScope sInit) (.ref TD) kV doc pm an cdv ct), sl⟩) (c : PySem.W.codeIn K cdv "Amount.__init__" = true) (k : PySem.W.keepIn K (.ref f) = true)
    (lD : K.lookup TD = some ⟨ocD, odD, .seq #[vD] nD, slD⟩) (rD : RelV (.int 1) vD) : FunD K "__init__" "Amount.__init__" (defArgs sInit) (defBody sInit) (defScope sInit) [.int 1] [] f (PySem.W.fnOf "__init__" "Amount.__init__" (defArgs sInit) (defBody sInit) (defScope sInit) (.ref TD) kV doc pm an cdv ct) :=
  ⟨⟨oc, od, _, kV, doc, pm, an, cdv, ct, sl, rfl, l, c, .inr ⟨by simp, TD, _, [vD], nD, rfl, lD, rfl, .cons rD .nil⟩, .inl rfl⟩, k⟩
end SP
namespace SP
open PySem PySem.Spec PyProof.Rows L2
theorem all_mk {P : Program} {w : World} {K : PySem.W.Frag} {h : Heap} {mg : Str → Option Value} {fa C fA0 fA1 fA2 TD fI fM0 fM1 fM2 fM3 fM4 fM5 fM6 pQ fQ fOf fOadd fOradd fOsub fOrsub fOmul fOrmul fOneg fOabs fObool pS fS fP0 fP1 fP2 fOv pBt fBt pSg fSg fD0 fD1 fD2 fD3 fD4 fD5 fD6 fD7 fD8 fD9 fD10 fL : Addr} (X : K.In h) (G : h.Ns mainGlobals mg) (hfa : mg "law" = some (.ref fa))
    {odA0 anA0 : Option Addr} {slA0 : Array (Option Value)} {ocA0 kVA0 dcA0 pmA0 cdA0 ctA0 : Value}
    {odA1 anA1 : Option Addr} {slA1 : Array (Option Value)} {ocA1 kVA1 dcA1 pmA1 cdA1 ctA1 : Value}
    {odA2 anA2 : Option Addr} {slA2 : Array (Option Value)} {ocA2 kVA2 dcA2 pmA2 cdA2 ctA2 : Value}
    {ocD vD : Value} {odD : Option Addr} {slD : Array (Option Value)} {nD : Nat}
    {odI anI : Option Addr} {slI : Array (Option Value)} {ocI kVI dcI pmI cdI ctI : Value}
    {odM0 anM0 : Option Addr} {slM0 : Array (Option Value)} {ocM0 kVM0 dcM0 pmM0 cdM0 ctM0 : Value}
    {odM1 anM1 : Option Addr} {slM1 : Array (Option Value)} {ocM1 kVM1 dcM1 pmM1 cdM1 ctM1 : Value}
    {odM2 anM2 : Option Addr} {slM2 : Array (Option Value)} {ocM2 kVM2 dcM2 pmM2 cdM2 ctM2 : Value}
    {odM3 anM3 : Option Addr} {slM3 : Array (Option Value)} {ocM3 kVM3 dcM3 pmM3 cdM3 ctM3 : Value}
    {odM4 anM4 : Option Addr} {slM4 : Array (Option Value)} {ocM4 kVM4 dcM4 pmM4 cdM4 ctM4 : Value}
    {odM5 anM5 : Option Addr} {slM5 : Array (Option Value)} {ocM5 kVM5 dcM5 pmM5 cdM5 ctM5 : Value}
    {odM6 anM6 : Option Addr} {slM6 : Array (Option Value)} {ocM6 kVM6 dcM6 pmM6 cdM6 ctM6 : Value}
    {rsQ : List Value}
    {odQ anQ : Option Addr} {slQ : Array (Option Value)} {ocQ kVQ dcQ pmQ cdQ ctQ : Value}
    {odOf anOf : Option Addr} {slOf : Array (Option Value)} {ocOf kVOf dcOf pmOf cdOf ctOf : Value}
    {odOadd anOadd : Option Addr} {slOadd : Array (Option Value)} {ocOadd kVOadd dcOadd pmOadd cdOadd ctOadd : Value}
    {odOradd anOradd : Option Addr} {slOradd : Array (Option Value)} {ocOradd kVOradd dcOradd pmOradd cdOradd ctOradd : Value}
    {odOsub anOsub : Option Addr} {slOsub : Array (Option Value)} {ocOsub kVOsub dcOsub pmOsub cdOsub ctOsub : Value}
    {odOrsub anOrsub : Option Addr} {slOrsub : Array (Option Value)} {ocOrsub kVOrsub dcOrsub pmOrsub cdOrsub ctOrsub : Value}
    {odOmul anOmul : Option Addr} {slOmul : Array (Option Value)} {ocOmul kVOmul dcOmul pmOmul cdOmul ctOmul : Value}
    {odOrmul anOrmul : Option Addr} {slOrmul : Array (Option Value)} {ocOrmul kVOrmul dcOrmul pmOrmul cdOrmul ctOrmul : Value}
    {odOneg anOneg : Option Addr} {slOneg : Array (Option Value)} {ocOneg kVOneg dcOneg pmOneg cdOneg ctOneg : Value}
    {odOabs anOabs : Option Addr} {slOabs : Array (Option Value)} {ocOabs kVOabs dcOabs pmOabs cdOabs ctOabs : Value}
    {odObool anObool : Option Addr} {slObool : Array (Option Value)} {ocObool kVObool dcObool pmObool cdObool ctObool : Value}
    {rsS : List Value}
    {odS anS : Option Addr} {slS : Array (Option Value)} {ocS kVS dcS pmS cdS ctS : Value}
    {odP0 anP0 : Option Addr} {slP0 : Array (Option Value)} {ocP0 kVP0 dcP0 pmP0 cdP0 ctP0 : Value}
    {odP1 anP1 : Option Addr} {slP1 : Array (Option Value)} {ocP1 kVP1 dcP1 pmP1 cdP1 ctP1 : Value}
    {odP2 anP2 : Option Addr} {slP2 : Array (Option Value)} {ocP2 kVP2 dcP2 pmP2 cdP2 ctP2 : Value}
    {odOv anOv : Option Addr} {slOv : Array (Option Value)} {ocOv kVOv dcOv pmOv cdOv ctOv : Value}
    {rsBt : List Value}
    {odBt anBt : Option Addr} {slBt : Array (Option Value)} {ocBt kVBt dcBt pmBt cdBt ctBt : Value}
    {rsSg : List Value}
    {odSg anSg : Option Addr} {slSg : Array (Option Value)} {ocSg kVSg dcSg pmSg cdSg ctSg : Value}
    {odD0 anD0 : Option Addr} {slD0 : Array (Option Value)} {ocD0 kVD0 dcD0 pmD0 cdD0 ctD0 : Value}
    {odD1 anD1 : Option Addr} {slD1 : Array (Option Value)} {ocD1 kVD1 dcD1 pmD1 cdD1 ctD1 : Value}
    {odD2 anD2 : Option Addr} {slD2 : Array (Option Value)} {ocD2 kVD2 dcD2 pmD2 cdD2 ctD2 : Value}
    {odD3 anD3 : Option Addr} {slD3 : Array (Option Value)} {ocD3 kVD3 dcD3 pmD3 cdD3 ctD3 : Value}
    {odD4 anD4 : Option Addr} {slD4 : Array (Option Value)} {ocD4 kVD4 dcD4 pmD4 cdD4 ctD4 : Value}
    {odD5 anD5 : Option Addr} {slD5 : Array (Option Value)} {ocD5 kVD5 dcD5 pmD5 cdD5 ctD5 : Value}
    {odD6 anD6 : Option Addr} {slD6 : Array (Option Value)} {ocD6 kVD6 dcD6 pmD6 cdD6 ctD6 : Value}
    {odD7 anD7 : Option Addr} {slD7 : Array (Option Value)} {ocD7 kVD7 dcD7 pmD7 cdD7 ctD7 : Value}
    {odD8 anD8 : Option Addr} {slD8 : Array (Option Value)} {ocD8 kVD8 dcD8 pmD8 cdD8 ctD8 : Value}
    {odD9 anD9 : Option Addr} {slD9 : Array (Option Value)} {ocD9 kVD9 dcD9 pmD9 cdD9 ctD9 : Value}
    {odD10 anD10 : Option Addr} {slD10 : Array (Option Value)} {ocD10 kVD10 dcD10 pmD10 cdD10 ctD10 : Value}
    {odL anL : Option Addr} {slL : Array (Option Value)} {ocL kVL dcL pmL cdL ctL : Value}
    (aC : PySem.W.nsIn K mainGlobals "Amount" = some (some (.ref C)))
    (aA0 : PySem.W.nsIn K mainGlobals "is_integer" = some (some (.ref fA0)))
    (lA0 : K.lookup fA0 = some ⟨ocA0, odA0, .func (PySem.W.fnOf "is_integer" "is_integer" (defArgs sIsInt) (defBody sIsInt) (defScope sIsInt) .none kVA0 dcA0 pmA0 anA0 cdA0 ctA0), slA0⟩)
    (cA0 : PySem.W.codeIn K cdA0 "is_integer" = true)
    (kA0 : PySem.W.keepIn K (.ref fA0) = true)
    (aA1 : PySem.W.nsIn K mainGlobals "common_divisor" = some (some (.ref fA1)))
    (lA1 : K.lookup fA1 = some ⟨ocA1, odA1, .func (PySem.W.fnOf "common_divisor" "common_divisor" (defArgs sCD) (defBody sCD) (defScope sCD) .none kVA1 dcA1 pmA1 anA1 cdA1 ctA1), slA1⟩)
    (cA1 : PySem.W.codeIn K cdA1 "common_divisor" = true)
    (kA1 : PySem.W.keepIn K (.ref fA1) = true)
    (aA2 : PySem.W.nsIn K mainGlobals "place_of" = some (some (.ref fA2)))
    (lA2 : K.lookup fA2 = some ⟨ocA2, odA2, .func (PySem.W.fnOf "place_of" "place_of" (defArgs sPl) (defBody sPl) (defScope sPl) .none kVA2 dcA2 pmA2 anA2 cdA2 ctA2), slA2⟩)
    (cA2 : PySem.W.codeIn K cdA2 "place_of" = true)
    (kA2 : PySem.W.keepIn K (.ref fA2) = true)
    (aI : PySem.W.findIn K (.ref C) "__init__" = some (some (.ref fI)))
    (lI : K.lookup fI = some ⟨ocI, odI, .func (PySem.W.fnOf "__init__" "Amount.__init__" (defArgs sInit) (defBody sInit) (defScope sInit) (.ref TD) kVI dcI pmI anI cdI ctI), slI⟩)
    (cI : PySem.W.codeIn K cdI "Amount.__init__" = true)
    (kI : PySem.W.keepIn K (.ref fI) = true)
    (lD : K.lookup TD = some ⟨ocD, odD, .seq #[vD] nD, slD⟩)
    (rD : RelV (.int 1) vD)
    (iI : PySem.W.isFn K (.ref fI) = true)
    (mk : PySem.W.makesIn K C = true)
    (kc : PySem.W.keepIn K (.ref C) = true)
    (pg : PySem.W.plainGet K C Str.empty = true)
    (hd : PySem.W.hasDictIn K C = true)
    (po : PySem.W.plainOver K C = true)
    (sa : PySem.W.findIn K (.ref C) "__setattr__" = some (some (.builtin "object.__setattr__")))
    (ca : PySem.W.findIn K (.ref C) "__class__" = some (some (.builtin "object.__class__")))
    (cn : PySem.W.specialIn K (.builtin "object.__class__") "__get__" = some (some (.builtin "getset_descriptor.__get__")))
    (ck : PySem.W.takesIn K (.builtin "object.__class__") = some true)
    (cm : PySem.W.mroIn K C (.type "object") = some true)
    (ne : PySem.W.findIn K (.ref C) "__ne__" = some (some (.builtin "object.__ne__")))
    (tu : PySem.W.subIn K (.ref C) (.type "tuple") = some false)
    (li : PySem.W.subIn K (.ref C) (.type "list") = some false)
    (ic : PySem.W.isClsIn K C = true)
    (ty : PySem.W.typeIn K (.ref C) = some (.type "type"))
    (nT : PySem.W.findIn K (.ref C) "own_top" = some none)
    (nB : PySem.W.findIn K (.ref C) "own_bottom" = some none)
    (nP : PySem.W.findIn K (.ref C) "own_place" = some none)
    (z_isinstance : PySem.W.nsIn K mainGlobals "isinstance" = some none)
    (z_int : PySem.W.nsIn K mainGlobals "int" = some none)
    (z_bool : PySem.W.nsIn K mainGlobals "bool" = some none)
    (z_abs : PySem.W.nsIn K mainGlobals "abs" = some none)
    (aM0 : PySem.W.findIn K (.ref C) "__eq__" = some (some (.ref fM0)))
    (lM0 : K.lookup fM0 = some ⟨ocM0, odM0, .func (PySem.W.fnOf "__eq__" "Amount.__eq__" (defArgs sMEq) (defBody sMEq) (defScope sMEq) .none kVM0 dcM0 pmM0 anM0 cdM0 ctM0), slM0⟩)
    (cM0 : PySem.W.codeIn K cdM0 "Amount.__eq__" = true)
    (kM0 : PySem.W.keepIn K (.ref fM0) = true)
    (iM0 : PySem.W.isFn K (.ref fM0) = true)
    (aM1 : PySem.W.findIn K (.ref C) "__lt__" = some (some (.ref fM1)))
    (lM1 : K.lookup fM1 = some ⟨ocM1, odM1, .func (PySem.W.fnOf "__lt__" "Amount.__lt__" (defArgs sMLt) (defBody sMLt) (defScope sMLt) .none kVM1 dcM1 pmM1 anM1 cdM1 ctM1), slM1⟩)
    (cM1 : PySem.W.codeIn K cdM1 "Amount.__lt__" = true)
    (kM1 : PySem.W.keepIn K (.ref fM1) = true)
    (iM1 : PySem.W.isFn K (.ref fM1) = true)
    (aM2 : PySem.W.findIn K (.ref C) "__le__" = some (some (.ref fM2)))
    (lM2 : K.lookup fM2 = some ⟨ocM2, odM2, .func (PySem.W.fnOf "__le__" "Amount.__le__" (defArgs sMLe) (defBody sMLe) (defScope sMLe) .none kVM2 dcM2 pmM2 anM2 cdM2 ctM2), slM2⟩)
    (cM2 : PySem.W.codeIn K cdM2 "Amount.__le__" = true)
    (kM2 : PySem.W.keepIn K (.ref fM2) = true)
    (iM2 : PySem.W.isFn K (.ref fM2) = true)
    (aM3 : PySem.W.findIn K (.ref C) "__gt__" = some (some (.ref fM3)))
    (lM3 : K.lookup fM3 = some ⟨ocM3, odM3, .func (PySem.W.fnOf "__gt__" "Amount.__gt__" (defArgs sMGt) (defBody sMGt) (defScope sMGt) .none kVM3 dcM3 pmM3 anM3 cdM3 ctM3), slM3⟩)
    (cM3 : PySem.W.codeIn K cdM3 "Amount.__gt__" = true)
    (kM3 : PySem.W.keepIn K (.ref fM3) = true)
    (iM3 : PySem.W.isFn K (.ref fM3) = true)
    (aM4 : PySem.W.findIn K (.ref C) "__ge__" = some (some (.ref fM4)))
    (lM4 : K.lookup fM4 = some ⟨ocM4, odM4, .func (PySem.W.fnOf "__ge__" "Amount.__ge__" (defArgs sMGe) (defBody sMGe) (defScope sMGe) .none kVM4 dcM4 pmM4 anM4 cdM4 ctM4), slM4⟩)
    (cM4 : PySem.W.codeIn K cdM4 "Amount.__ge__" = true)
    (kM4 : PySem.W.keepIn K (.ref fM4) = true)
    (iM4 : PySem.W.isFn K (.ref fM4) = true)
    (aM5 : PySem.W.findIn K (.ref C) "__str__" = some (some (.ref fM5)))
    (lM5 : K.lookup fM5 = some ⟨ocM5, odM5, .func (PySem.W.fnOf "__str__" "Amount.__str__" (defArgs sMStr) (defBody sMStr) (defScope sMStr) .none kVM5 dcM5 pmM5 anM5 cdM5 ctM5), slM5⟩)
    (cM5 : PySem.W.codeIn K cdM5 "Amount.__str__" = true)
    (kM5 : PySem.W.keepIn K (.ref fM5) = true)
    (iM5 : PySem.W.isFn K (.ref fM5) = true)
    (aM6 : PySem.W.findIn K (.ref C) "__repr__" = some (some (.ref fM6)))
    (lM6 : K.lookup fM6 = some ⟨ocM6, odM6, .func (PySem.W.fnOf "__repr__" "Amount.__repr__" (defArgs sMRepr) (defBody sMRepr) (defScope sMRepr) .none kVM6 dcM6 pmM6 anM6 cdM6 ctM6), slM6⟩)
    (cM6 : PySem.W.codeIn K cdM6 "Amount.__repr__" = true)
    (kM6 : PySem.W.keepIn K (.ref fM6) = true)
    (iM6 : PySem.W.isFn K (.ref fM6) = true)
    (qQ : PySem.W.findIn K (.ref C) "top" = some (some (.ref pQ)))
    (gQ : PySem.W.specialIn K (.ref pQ) "__get__" = some (some (.builtin "property.__get__")))
    (tQ : PySem.W.takesIn K (.ref pQ) = some true)
    (aQ : PySem.W.recIn K pQ "property" = some (.ref fQ :: rsQ))
    (lQ : K.lookup fQ = some ⟨ocQ, odQ, .func (PySem.W.fnOf "top" "Amount.top" (defArgs sMTop) (defBody sMTop) (defScope sMTop) .none kVQ dcQ pmQ anQ cdQ ctQ), slQ⟩)
    (cQ : PySem.W.codeIn K cdQ "Amount.top" = true)
    (kQ : PySem.W.keepIn K (.ref fQ) = true)
    (z_str : PySem.W.nsIn K mainGlobals "str" = some none)
    (aOf : PySem.W.nsIn K mainGlobals "amount_of" = some (some (.ref fOf)))
    (lOf : K.lookup fOf = some ⟨ocOf, odOf, .func (PySem.W.fnOf "amount_of" "amount_of" (defArgs sOf) (defBody sOf) (defScope sOf) .none kVOf dcOf pmOf anOf cdOf ctOf), slOf⟩)
    (cOf : PySem.W.codeIn K cdOf "amount_of" = true)
    (kOf : PySem.W.keepIn K (.ref fOf) = true)
    (sf : PySem.W.selfFirst K C = true)
    (si : PySem.W.subIn K (.ref C) (.type "int") = some false)
    (aOadd : PySem.W.findIn K (.ref C) "__add__" = some (some (.ref fOadd)))
    (lOadd : K.lookup fOadd = some ⟨ocOadd, odOadd, .func (PySem.W.fnOf "__add__" "Amount.__add__" (defArgs sMAdd) (defBody sMAdd) (defScope sMAdd) .none kVOadd dcOadd pmOadd anOadd cdOadd ctOadd), slOadd⟩)
    (cOadd : PySem.W.codeIn K cdOadd "Amount.__add__" = true)
    (kOadd : PySem.W.keepIn K (.ref fOadd) = true)
    (iOadd : PySem.W.isFn K (.ref fOadd) = true)
    (aOradd : PySem.W.findIn K (.ref C) "__radd__" = some (some (.ref fOradd)))
    (lOradd : K.lookup fOradd = some ⟨ocOradd, odOradd, .func (PySem.W.fnOf "__radd__" "Amount.__radd__" (defArgs sMRadd) (defBody sMRadd) (defScope sMRadd) .none kVOradd dcOradd pmOradd anOradd cdOradd ctOradd), slOradd⟩)
    (cOradd : PySem.W.codeIn K cdOradd "Amount.__radd__" = true)
    (kOradd : PySem.W.keepIn K (.ref fOradd) = true)
    (iOradd : PySem.W.isFn K (.ref fOradd) = true)
    (aOsub : PySem.W.findIn K (.ref C) "__sub__" = some (some (.ref fOsub)))
    (lOsub : K.lookup fOsub = some ⟨ocOsub, odOsub, .func (PySem.W.fnOf "__sub__" "Amount.__sub__" (defArgs sMSub) (defBody sMSub) (defScope sMSub) .none kVOsub dcOsub pmOsub anOsub cdOsub ctOsub), slOsub⟩)
    (cOsub : PySem.W.codeIn K cdOsub "Amount.__sub__" = true)
    (kOsub : PySem.W.keepIn K (.ref fOsub) = true)
    (iOsub : PySem.W.isFn K (.ref fOsub) = true)
    (aOrsub : PySem.W.findIn K (.ref C) "__rsub__" = some (some (.ref fOrsub)))
    (lOrsub : K.lookup fOrsub = some ⟨ocOrsub, odOrsub, .func (PySem.W.fnOf "__rsub__" "Amount.__rsub__" (defArgs sMRsub) (defBody sMRsub) (defScope sMRsub) .none kVOrsub dcOrsub pmOrsub anOrsub cdOrsub ctOrsub), slOrsub⟩)
    (cOrsub : PySem.W.codeIn K cdOrsub "Amount.__rsub__" = true)
    (kOrsub : PySem.W.keepIn K (.ref fOrsub) = true)
    (iOrsub : PySem.W.isFn K (.ref fOrsub) = true)
    (aOmul : PySem.W.findIn K (.ref C) "__mul__" = some (some (.ref fOmul)))
    (lOmul : K.lookup fOmul = some ⟨ocOmul, odOmul, .func (PySem.W.fnOf "__mul__" "Amount.__mul__" (defArgs sMMul) (defBody sMMul) (defScope sMMul) .none kVOmul dcOmul pmOmul anOmul cdOmul ctOmul), slOmul⟩)
    (cOmul : PySem.W.codeIn K cdOmul "Amount.__mul__" = true)
    (kOmul : PySem.W.keepIn K (.ref fOmul) = true)
    (iOmul : PySem.W.isFn K (.ref fOmul) = true)
    (aOrmul : PySem.W.findIn K (.ref C) "__rmul__" = some (some (.ref fOrmul)))
    (lOrmul : K.lookup fOrmul = some ⟨ocOrmul, odOrmul, .func (PySem.W.fnOf "__rmul__" "Amount.__rmul__" (defArgs sMRmul) (defBody sMRmul) (defScope sMRmul) .none kVOrmul dcOrmul pmOrmul anOrmul cdOrmul ctOrmul), slOrmul⟩)
    (cOrmul : PySem.W.codeIn K cdOrmul "Amount.__rmul__" = true)
    (kOrmul : PySem.W.keepIn K (.ref fOrmul) = true)
    (iOrmul : PySem.W.isFn K (.ref fOrmul) = true)
    (aOneg : PySem.W.findIn K (.ref C) "__neg__" = some (some (.ref fOneg)))
    (lOneg : K.lookup fOneg = some ⟨ocOneg, odOneg, .func (PySem.W.fnOf "__neg__" "Amount.__neg__" (defArgs sMNeg) (defBody sMNeg) (defScope sMNeg) .none kVOneg dcOneg pmOneg anOneg cdOneg ctOneg), slOneg⟩)
    (cOneg : PySem.W.codeIn K cdOneg "Amount.__neg__" = true)
    (kOneg : PySem.W.keepIn K (.ref fOneg) = true)
    (iOneg : PySem.W.isFn K (.ref fOneg) = true)
    (aOabs : PySem.W.findIn K (.ref C) "__abs__" = some (some (.ref fOabs)))
    (lOabs : K.lookup fOabs = some ⟨ocOabs, odOabs, .func (PySem.W.fnOf "__abs__" "Amount.__abs__" (defArgs sMAbs) (defBody sMAbs) (defScope sMAbs) .none kVOabs dcOabs pmOabs anOabs cdOabs ctOabs), slOabs⟩)
    (cOabs : PySem.W.codeIn K cdOabs "Amount.__abs__" = true)
    (kOabs : PySem.W.keepIn K (.ref fOabs) = true)
    (iOabs : PySem.W.isFn K (.ref fOabs) = true)
    (aObool : PySem.W.findIn K (.ref C) "__bool__" = some (some (.ref fObool)))
    (lObool : K.lookup fObool = some ⟨ocObool, odObool, .func (PySem.W.fnOf "__bool__" "Amount.__bool__" (defArgs sMBool) (defBody sMBool) (defScope sMBool) .none kVObool dcObool pmObool anObool cdObool ctObool), slObool⟩)
    (cObool : PySem.W.codeIn K cdObool "Amount.__bool__" = true)
    (kObool : PySem.W.keepIn K (.ref fObool) = true)
    (iObool : PySem.W.isFn K (.ref fObool) = true)
    (rdS : PySem.W.readsIn K C (.type "type") = true)
    (gaS : PySem.W.specialIn K (.ref C) "__getattribute__" = some (some (.builtin "type.__getattribute__")))
    (atS : PySem.W.findCls K (.ref C) (.type "type") "sum_of" = some (.get (.builtin "classmethod.__get__") (.ref pS) .none (.ref C)))
    (aS : PySem.W.recIn K pS "classmethod" = some (.ref fS :: rsS))
    (lS : K.lookup fS = some ⟨ocS, odS, .func (PySem.W.fnOf "sum_of" "Amount.sum_of" (defArgs sMSum) (defBody sMSum) (defScope sMSum) .none kVS dcS pmS anS cdS ctS), slS⟩)
    (cS : PySem.W.codeIn K cdS "Amount.sum_of" = true)
    (kS : PySem.W.keepIn K (.ref fS) = true)
    (fiS : PySem.W.fnIn K fS = true)
    (z_max : PySem.W.nsIn K mainGlobals "max" = some none)
    (z_len : PySem.W.nsIn K mainGlobals "len" = some none)
    (z_divmod : PySem.W.nsIn K mainGlobals "divmod" = some none)
    (aP0 : PySem.W.nsIn K mainGlobals "_law_pot" = some (some (.ref fP0)))
    (lP0 : K.lookup fP0 = some ⟨ocP0, odP0, .func (PySem.W.fnOf "_law_pot" "_law_pot" (defArgs sPot) (defBody sPot) (defScope sPot) .none kVP0 dcP0 pmP0 anP0 cdP0 ctP0), slP0⟩)
    (cP0 : PySem.W.codeIn K cdP0 "_law_pot" = true)
    (kP0 : PySem.W.keepIn K (.ref fP0) = true)
    (aP1 : PySem.W.nsIn K mainGlobals "_law_draw" = some (some (.ref fP1)))
    (lP1 : K.lookup fP1 = some ⟨ocP1, odP1, .func (PySem.W.fnOf "_law_draw" "_law_draw" (defArgs sDraw) (defBody sDraw) (defScope sDraw) .none kVP1 dcP1 pmP1 anP1 cdP1 ctP1), slP1⟩)
    (cP1 : PySem.W.codeIn K cdP1 "_law_draw" = true)
    (kP1 : PySem.W.keepIn K (.ref fP1) = true)
    (aP2 : PySem.W.nsIn K mainGlobals "_law_choice" = some (some (.ref fP2)))
    (lP2 : K.lookup fP2 = some ⟨ocP2, odP2, .func (PySem.W.fnOf "_law_choice" "_law_choice" (defArgs sChoice) (defBody sChoice) (defScope sChoice) .none kVP2 dcP2 pmP2 anP2 cdP2 ctP2), slP2⟩)
    (cP2 : PySem.W.codeIn K cdP2 "_law_choice" = true)
    (kP2 : PySem.W.keepIn K (.ref fP2) = true)
    (aOv : PySem.W.findIn K (.ref C) "over" = some (some (.ref fOv)))
    (lOv : K.lookup fOv = some ⟨ocOv, odOv, .func (PySem.W.fnOf "over" "Amount.over" (defArgs sMOver) (defBody sMOver) (defScope sMOver) .none kVOv dcOv pmOv anOv cdOv ctOv), slOv⟩)
    (cOv : PySem.W.codeIn K cdOv "Amount.over" = true)
    (kOv : PySem.W.keepIn K (.ref fOv) = true)
    (iOv : PySem.W.isFn K (.ref fOv) = true)
    (qBt : PySem.W.findIn K (.ref C) "bottom" = some (some (.ref pBt)))
    (gBt : PySem.W.specialIn K (.ref pBt) "__get__" = some (some (.builtin "property.__get__")))
    (tBt : PySem.W.takesIn K (.ref pBt) = some true)
    (aBt : PySem.W.recIn K pBt "property" = some (.ref fBt :: rsBt))
    (lBt : K.lookup fBt = some ⟨ocBt, odBt, .func (PySem.W.fnOf "bottom" "Amount.bottom" (defArgs sMBot) (defBody sMBot) (defScope sMBot) .none kVBt dcBt pmBt anBt cdBt ctBt), slBt⟩)
    (cBt : PySem.W.codeIn K cdBt "Amount.bottom" = true)
    (kBt : PySem.W.keepIn K (.ref fBt) = true)
    (qSg : PySem.W.findIn K (.ref C) "sign" = some (some (.ref pSg)))
    (gSg : PySem.W.specialIn K (.ref pSg) "__get__" = some (some (.builtin "property.__get__")))
    (tSg : PySem.W.takesIn K (.ref pSg) = some true)
    (aSg : PySem.W.recIn K pSg "property" = some (.ref fSg :: rsSg))
    (lSg : K.lookup fSg = some ⟨ocSg, odSg, .func (PySem.W.fnOf "sign" "Amount.sign" (defArgs sMSign) (defBody sMSign) (defScope sMSign) .none kVSg dcSg pmSg anSg cdSg ctSg), slSg⟩)
    (cSg : PySem.W.codeIn K cdSg "Amount.sign" = true)
    (kSg : PySem.W.keepIn K (.ref fSg) = true)
    (aD0 : PySem.W.nsIn K mainGlobals "_law_number" = some (some (.ref fD0)))
    (lD0 : K.lookup fD0 = some ⟨ocD0, odD0, .func (PySem.W.fnOf "_law_number" "_law_number" (defArgs sNumber) (defBody sNumber) (defScope sNumber) .none kVD0 dcD0 pmD0 anD0 cdD0 ctD0), slD0⟩)
    (cD0 : PySem.W.codeIn K cdD0 "_law_number" = true)
    (kD0 : PySem.W.keepIn K (.ref fD0) = true)
    (aD1 : PySem.W.nsIn K mainGlobals "_law_lowest" = some (some (.ref fD1)))
    (lD1 : K.lookup fD1 = some ⟨ocD1, odD1, .func (PySem.W.fnOf "_law_lowest" "_law_lowest" (defArgs sLowest) (defBody sLowest) (defScope sLowest) .none kVD1 dcD1 pmD1 anD1 cdD1 ctD1), slD1⟩)
    (cD1 : PySem.W.codeIn K cdD1 "_law_lowest" = true)
    (kD1 : PySem.W.keepIn K (.ref fD1) = true)
    (aD2 : PySem.W.nsIn K mainGlobals "_law_drawn" = some (some (.ref fD2)))
    (lD2 : K.lookup fD2 = some ⟨ocD2, odD2, .func (PySem.W.fnOf "_law_drawn" "_law_drawn" (defArgs sDrawn) (defBody sDrawn) (defScope sDrawn) .none kVD2 dcD2 pmD2 anD2 cdD2 ctD2), slD2⟩)
    (cD2 : PySem.W.codeIn K cdD2 "_law_drawn" = true)
    (kD2 : PySem.W.keepIn K (.ref fD2) = true)
    (aD3 : PySem.W.nsIn K mainGlobals "_law_text" = some (some (.ref fD3)))
    (lD3 : K.lookup fD3 = some ⟨ocD3, odD3, .func (PySem.W.fnOf "_law_text" "_law_text" (defArgs sText) (defBody sText) (defScope sText) .none kVD3 dcD3 pmD3 anD3 cdD3 ctD3), slD3⟩)
    (cD3 : PySem.W.codeIn K cdD3 "_law_text" = true)
    (kD3 : PySem.W.keepIn K (.ref fD3) = true)
    (aD4 : PySem.W.nsIn K mainGlobals "_law_is" = some (some (.ref fD4)))
    (lD4 : K.lookup fD4 = some ⟨ocD4, odD4, .func (PySem.W.fnOf "_law_is" "_law_is" (defArgs sIs) (defBody sIs) (defScope sIs) .none kVD4 dcD4 pmD4 anD4 cdD4 ctD4), slD4⟩)
    (cD4 : PySem.W.codeIn K cdD4 "_law_is" = true)
    (kD4 : PySem.W.keepIn K (.ref fD4) = true)
    (aD5 : PySem.W.nsIn K mainGlobals "_law_plus" = some (some (.ref fD5)))
    (lD5 : K.lookup fD5 = some ⟨ocD5, odD5, .func (PySem.W.fnOf "_law_plus" "_law_plus" (defArgs sPlus) (defBody sPlus) (defScope sPlus) .none kVD5 dcD5 pmD5 anD5 cdD5 ctD5), slD5⟩)
    (cD5 : PySem.W.codeIn K cdD5 "_law_plus" = true)
    (kD5 : PySem.W.keepIn K (.ref fD5) = true)
    (aD6 : PySem.W.nsIn K mainGlobals "_law_times" = some (some (.ref fD6)))
    (lD6 : K.lookup fD6 = some ⟨ocD6, odD6, .func (PySem.W.fnOf "_law_times" "_law_times" (defArgs sTimes) (defBody sTimes) (defScope sTimes) .none kVD6 dcD6 pmD6 anD6 cdD6 ctD6), slD6⟩)
    (cD6 : PySem.W.codeIn K cdD6 "_law_times" = true)
    (kD6 : PySem.W.keepIn K (.ref fD6) = true)
    (aD7 : PySem.W.nsIn K mainGlobals "_law_opposite" = some (some (.ref fD7)))
    (lD7 : K.lookup fD7 = some ⟨ocD7, odD7, .func (PySem.W.fnOf "_law_opposite" "_law_opposite" (defArgs sOpposite) (defBody sOpposite) (defScope sOpposite) .none kVD7 dcD7 pmD7 anD7 cdD7 ctD7), slD7⟩)
    (cD7 : PySem.W.codeIn K cdD7 "_law_opposite" = true)
    (kD7 : PySem.W.keepIn K (.ref fD7) = true)
    (aD8 : PySem.W.nsIn K mainGlobals "_law_step" = some (some (.ref fD8)))
    (lD8 : K.lookup fD8 = some ⟨ocD8, odD8, .func (PySem.W.fnOf "_law_step" "_law_step" (defArgs sStep) (defBody sStep) (defScope sStep) .none kVD8 dcD8 pmD8 anD8 cdD8 ctD8), slD8⟩)
    (cD8 : PySem.W.codeIn K cdD8 "_law_step" = true)
    (kD8 : PySem.W.keepIn K (.ref fD8) = true)
    (aD9 : PySem.W.nsIn K mainGlobals "_law_sums_right" = some (some (.ref fD9)))
    (lD9 : K.lookup fD9 = some ⟨ocD9, odD9, .func (PySem.W.fnOf "_law_sums_right" "_law_sums_right" (defArgs sSums) (defBody sSums) (defScope sSums) .none kVD9 dcD9 pmD9 anD9 cdD9 ctD9), slD9⟩)
    (cD9 : PySem.W.codeIn K cdD9 "_law_sums_right" = true)
    (kD9 : PySem.W.keepIn K (.ref fD9) = true)
    (aD10 : PySem.W.nsIn K mainGlobals "_law_right" = some (some (.ref fD10)))
    (lD10 : K.lookup fD10 = some ⟨ocD10, odD10, .func (PySem.W.fnOf "_law_right" "_law_right" (defArgs sRight) (defBody sRight) (defScope sRight) .none kVD10 dcD10 pmD10 anD10 cdD10 ctD10), slD10⟩)
    (cD10 : PySem.W.codeIn K cdD10 "_law_right" = true)
    (kD10 : PySem.W.keepIn K (.ref fD10) = true)
    (aL : PySem.W.nsIn K mainGlobals "law" = some (some (.ref fL)))
    (lL : K.lookup fL = some ⟨ocL, odL, .func (PySem.W.fnOf "law" "law" (defArgs sLaw) (defBody sLaw) (defScope sLaw) .none kVL dcL pmL anL cdL ctL), slL⟩)
    (cL : PySem.W.codeIn K cdL "law" = true)
    (kL : PySem.W.keepIn K (.ref fL) = true)
    (z_repr : PySem.W.nsIn K mainGlobals "repr" = some none)
    (z_all : PySem.W.nsIn K mainGlobals "all" = some none)
    (z_sum : PySem.W.nsIn K mainGlobals "sum" = some none)
    (z_range : PySem.W.nsIn K mainGlobals "range" = some none)
    (z_min : PySem.W.nsIn K mainGlobals "min" = some none) :
    ∃ fd : FuncData, (∀ (s : Shared) (v : Value), BindsTo s fd ⟨[v], []⟩ [("_law_script", v)]) ∧ ∀ base : Heap, K.In base → base.Ns mainGlobals mg → FnG P w K mg base CX0 10 fa fd ["_law_script"] (spLaw K) := by
  have e := hfa.symm.trans (PySem.W.mg_of X G aL)
  cases e
  have FA0 := fun_mk (st := sIsInt) lA0 cA0 kA0
  have bA0 := FA0.binds (ps := ["value"]) fun _ _ _ _ _ _ us hl => match us, hl with | [_], _ => rfl
  have TA0 : Top K mg "is_integer" sIsInt ["value"] := ⟨_, _, PySem.W.mg_of X G aA0, FA0, bA0⟩
  have FA1 := fun_mk (st := sCD) lA1 cA1 kA1
  have bA1 := FA1.binds (ps := ["one", "other"]) fun _ _ _ _ _ _ us hl => match us, hl with | [_, _], _ => rfl
  have TA1 : Top K mg "common_divisor" sCD ["one", "other"] := ⟨_, _, PySem.W.mg_of X G aA1, FA1, bA1⟩
  have FA2 := fun_mk (st := sPl) lA2 cA2 kA2
  have bA2 := FA2.binds (ps := ["top", "bottom"]) fun _ _ _ _ _ _ us hl => match us, hl with | [_, _], _ => rfl
  have TA2 : Top K mg "place_of" sPl ["top", "bottom"] := ⟨_, _, PySem.W.mg_of X G aA2, FA2, bA2⟩
  have am : AmTxt K mg C := { b_isinstance := PySem.W.mg_none_of X G z_isinstance, b_int := PySem.W.mg_none_of X G z_int, b_bool := PySem.W.mg_none_of X G z_bool, b_abs := PySem.W.mg_none_of X G z_abs, tII := TA0, tCD := TA1, tPl := TA2, gC := PySem.W.mg_of X G aC, cl := ⟨pg, hd, po, sa⟩, ca := ca, cn := cn, ck := ck, cm := cm, ne := ne, fg := ⟨tu, li⟩, na := not_own ic ty, nT := nT, nB := nB, nP := nP, mkC := ⟨fI, _, ⟨mk, aI, iI, kc⟩, init_mk lI cI kI lD rD⟩ }
  have FM0 := fun_mk (st := sMEq) lM0 cM0 kM0
  have bM0 := FM0.binds (ps := ["self", "other"]) fun _ _ _ _ _ _ us hl => match us, hl with | [_, _], _ => rfl
  have TM0 : MethT K C "__eq__" "Amount.__eq__" sMEq ["self", "other"] := ⟨_, _, aM0, iM0, FM0, bM0⟩
  have FM1 := fun_mk (st := sMLt) lM1 cM1 kM1
  have bM1 := FM1.binds (ps := ["self", "other"]) fun _ _ _ _ _ _ us hl => match us, hl with | [_, _], _ => rfl
  have TM1 : MethT K C "__lt__" "Amount.__lt__" sMLt ["self", "other"] := ⟨_, _, aM1, iM1, FM1, bM1⟩
  have FM2 := fun_mk (st := sMLe) lM2 cM2 kM2
  have bM2 := FM2.binds (ps := ["self", "other"]) fun _ _ _ _ _ _ us hl => match us, hl with | [_, _], _ => rfl
  have TM2 : MethT K C "__le__" "Amount.__le__" sMLe ["self", "other"] := ⟨_, _, aM2, iM2, FM2, bM2⟩
  have FM3 := fun_mk (st := sMGt) lM3 cM3 kM3
  have bM3 := FM3.binds (ps := ["self", "other"]) fun _ _ _ _ _ _ us hl => match us, hl with | [_, _], _ => rfl
  have TM3 : MethT K C "__gt__" "Amount.__gt__" sMGt ["self", "other"] := ⟨_, _, aM3, iM3, FM3, bM3⟩
  have FM4 := fun_mk (st := sMGe) lM4 cM4 kM4
  have bM4 := FM4.binds (ps := ["self", "other"]) fun _ _ _ _ _ _ us hl => match us, hl with | [_, _], _ => rfl
  have TM4 : MethT K C "__ge__" "Amount.__ge__" sMGe ["self", "other"] := ⟨_, _, aM4, iM4, FM4, bM4⟩
  have FM5 := fun_mk (st := sMStr) lM5 cM5 kM5
  have bM5 := FM5.binds (ps := ["self"]) fun _ _ _ _ _ _ us hl => match us, hl with | [_], _ => rfl
  have TM5 : MethT K C "__str__" "Amount.__str__" sMStr ["self"] := ⟨_, _, aM5, iM5, FM5, bM5⟩
  have FM6 := fun_mk (st := sMRepr) lM6 cM6 kM6
  have bM6 := FM6.binds (ps := ["self"]) fun _ _ _ _ _ _ us hl => match us, hl with | [_], _ => rfl
  have TM6 : MethT K C "__repr__" "Amount.__repr__" sMRepr ["self"] := ⟨_, _, aM6, iM6, FM6, bM6⟩
  have FQ := fun_mk (st := sMTop) lQ cQ kQ
  have bQ := FQ.binds (ps := ["self"]) fun _ _ _ _ _ _ us hl => match us, hl with | [_], _ => rfl
  have TQ : PropT K C "top" "Amount.top" sMTop := ⟨_, _, _, ⟨qQ, gQ, tQ, _, aQ⟩, FQ, bQ⟩
  have cmp : AmCmp K mg C := { eq := TM0, lt := TM1, le := TM2, gt := TM3, ge := TM4, st := TM5, rp := TM6, pt := TQ, b_str := PySem.W.mg_none_of X G z_str }
  have FOf := fun_mk (st := sOf) lOf cOf kOf
  have bOf := FOf.binds (ps := ["value"]) fun _ _ _ _ _ _ us hl => match us, hl with | [_], _ => rfl
  have TOf : Top K mg "amount_of" sOf ["value"] := ⟨_, _, PySem.W.mg_of X G aOf, FOf, bOf⟩
  have FOadd := fun_mk (st := sMAdd) lOadd cOadd kOadd
  have bOadd := FOadd.binds (ps := ["self", "other"]) fun _ _ _ _ _ _ us hl => match us, hl with | [_, _], _ => rfl
  have TOadd : MethT K C "__add__" "Amount.__add__" sMAdd ["self", "other"] := ⟨_, _, aOadd, iOadd, FOadd, bOadd⟩
  have FOradd := fun_mk (st := sMRadd) lOradd cOradd kOradd
  have bOradd := FOradd.binds (ps := ["self", "other"]) fun _ _ _ _ _ _ us hl => match us, hl with | [_, _], _ => rfl
  have TOradd : MethT K C "__radd__" "Amount.__radd__" sMRadd ["self", "other"] := ⟨_, _, aOradd, iOradd, FOradd, bOradd⟩
  have FOsub := fun_mk (st := sMSub) lOsub cOsub kOsub
  have bOsub := FOsub.binds (ps := ["self", "other"]) fun _ _ _ _ _ _ us hl => match us, hl with | [_, _], _ => rfl
  have TOsub : MethT K C "__sub__" "Amount.__sub__" sMSub ["self", "other"] := ⟨_, _, aOsub, iOsub, FOsub, bOsub⟩
  have FOrsub := fun_mk (st := sMRsub) lOrsub cOrsub kOrsub
  have bOrsub := FOrsub.binds (ps := ["self", "other"]) fun _ _ _ _ _ _ us hl => match us, hl with | [_, _], _ => rfl
  have TOrsub : MethT K C "__rsub__" "Amount.__rsub__" sMRsub ["self", "other"] := ⟨_, _, aOrsub, iOrsub, FOrsub, bOrsub⟩
  have FOmul := fun_mk (st := sMMul) lOmul cOmul kOmul
  have bOmul := FOmul.binds (ps := ["self", "other"]) fun _ _ _ _ _ _ us hl => match us, hl with | [_, _], _ => rfl
  have TOmul : MethT K C "__mul__" "Amount.__mul__" sMMul ["self", "other"] := ⟨_, _, aOmul, iOmul, FOmul, bOmul⟩
  have FOrmul := fun_mk (st := sMRmul) lOrmul cOrmul kOrmul
  have bOrmul := FOrmul.binds (ps := ["self", "other"]) fun _ _ _ _ _ _ us hl => match us, hl with | [_, _], _ => rfl
  have TOrmul : MethT K C "__rmul__" "Amount.__rmul__" sMRmul ["self", "other"] := ⟨_, _, aOrmul, iOrmul, FOrmul, bOrmul⟩
  have FOneg := fun_mk (st := sMNeg) lOneg cOneg kOneg
  have bOneg := FOneg.binds (ps := ["self"]) fun _ _ _ _ _ _ us hl => match us, hl with | [_], _ => rfl
  have TOneg : MethT K C "__neg__" "Amount.__neg__" sMNeg ["self"] := ⟨_, _, aOneg, iOneg, FOneg, bOneg⟩
  have FOabs := fun_mk (st := sMAbs) lOabs cOabs kOabs
  have bOabs := FOabs.binds (ps := ["self"]) fun _ _ _ _ _ _ us hl => match us, hl with | [_], _ => rfl
  have TOabs : MethT K C "__abs__" "Amount.__abs__" sMAbs ["self"] := ⟨_, _, aOabs, iOabs, FOabs, bOabs⟩
  have FObool := fun_mk (st := sMBool) lObool cObool kObool
  have bObool := FObool.binds (ps := ["self"]) fun _ _ _ _ _ _ us hl => match us, hl with | [_], _ => rfl
  have TObool : MethT K C "__bool__" "Amount.__bool__" sMBool ["self"] := ⟨_, _, aObool, iObool, FObool, bObool⟩
  have ops : AmOps K mg C := { tOf := TOf, sf := sf, si := si, add := TOadd, radd := TOradd, sub := TOsub, rsub := TOrsub, mul := TOmul, rmul := TOrmul, neg := TOneg, abs := TOabs, bool := TObool }
  have FS := fun_mk (st := sMSum) lS cS kS
  have sm : AmSum K C := ⟨.type "type", pS, fS, _, ⟨rdS, gaS⟩, ⟨atS, ⟨rsS, aS⟩, fiS⟩, FS⟩
  have FP0 := fun_mk (st := sPot) lP0 cP0 kP0
  have bP0 := FP0.binds (ps := ["_law_script", "_law_k"]) fun _ _ _ _ _ _ us hl => match us, hl with | [_, _], _ => rfl
  have TP0 : Top K mg "_law_pot" sPot ["_law_script", "_law_k"] := ⟨_, _, PySem.W.mg_of X G aP0, FP0, bP0⟩
  have FP1 := fun_mk (st := sDraw) lP1 cP1 kP1
  have bP1 := FP1.binds (ps := ["_law_pot_here", "_law_size"]) fun _ _ _ _ _ _ us hl => match us, hl with | [_, _], _ => rfl
  have TP1 : Top K mg "_law_draw" sDraw ["_law_pot_here", "_law_size"] := ⟨_, _, PySem.W.mg_of X G aP1, FP1, bP1⟩
  have FP2 := fun_mk (st := sChoice) lP2 cP2 kP2
  have bP2 := FP2.binds (ps := ["_law_pot_here", "_law_some"]) fun _ _ _ _ _ _ us hl => match us, hl with | [_, _], _ => rfl
  have TP2 : Top K mg "_law_choice" sChoice ["_law_pot_here", "_law_some"] := ⟨_, _, PySem.W.mg_of X G aP2, FP2, bP2⟩
  have pot : PotT K mg := { b_int := PySem.W.mg_none_of X G z_int, b_abs := PySem.W.mg_none_of X G z_abs, b_max := PySem.W.mg_none_of X G z_max, b_len := PySem.W.mg_none_of X G z_len, b_divmod := PySem.W.mg_none_of X G z_divmod, tPot := TP0, tDraw := TP1, tChoice := TP2 }
  have FOv := fun_mk (st := sMOver) lOv cOv kOv
  have bOv := FOv.binds (ps := ["self", "other"]) fun _ _ _ _ _ _ us hl => match us, hl with | [_, _], _ => rfl
  have TOv : MethT K C "over" "Amount.over" sMOver ["self", "other"] := ⟨_, _, aOv, iOv, FOv, bOv⟩
  have FBt := fun_mk (st := sMBot) lBt cBt kBt
  have bBt := FBt.binds (ps := ["self"]) fun _ _ _ _ _ _ us hl => match us, hl with | [_], _ => rfl
  have TBt : PropT K C "bottom" "Amount.bottom" sMBot := ⟨_, _, _, ⟨qBt, gBt, tBt, _, aBt⟩, FBt, bBt⟩
  have FSg := fun_mk (st := sMSign) lSg cSg kSg
  have bSg := FSg.binds (ps := ["self"]) fun _ _ _ _ _ _ us hl => match us, hl with | [_], _ => rfl
  have TSg : PropT K C "sign" "Amount.sign" sMSign := ⟨_, _, _, ⟨qSg, gSg, tSg, _, aSg⟩, FSg, bSg⟩
  have FD0 := fun_mk (st := sNumber) lD0 cD0 kD0
  have bD0 := FD0.binds (ps := ["_law_pot_here", "_law_power"]) fun _ _ _ _ _ _ us hl => match us, hl with | [_, _], _ => rfl
  have TD0 : Top K mg "_law_number" sNumber ["_law_pot_here", "_law_power"] := ⟨_, _, PySem.W.mg_of X G aD0, FD0, bD0⟩
  have FD1 := fun_mk (st := sLowest) lD1 cD1 kD1
  have bD1 := FD1.binds (ps := ["_law_high", "_law_low"]) fun _ _ _ _ _ _ us hl => match us, hl with | [_, _], _ => rfl
  have TD1 : Top K mg "_law_lowest" sLowest ["_law_high", "_law_low"] := ⟨_, _, PySem.W.mg_of X G aD1, FD1, bD1⟩
  have FD2 := fun_mk (st := sDrawn) lD2 cD2 kD2
  have bD2 := FD2.binds (ps := ["_law_pot_here"]) fun _ _ _ _ _ _ us hl => match us, hl with | [_], _ => rfl
  have TD2 : Top K mg "_law_drawn" sDrawn ["_law_pot_here"] := ⟨_, _, PySem.W.mg_of X G aD2, FD2, bD2⟩
  have FD3 := fun_mk (st := sText) lD3 cD3 kD3
  have bD3 := FD3.binds (ps := ["_law_due"]) fun _ _ _ _ _ _ us hl => match us, hl with | [_], _ => rfl
  have TD3 : Top K mg "_law_text" sText ["_law_due"] := ⟨_, _, PySem.W.mg_of X G aD3, FD3, bD3⟩
  have FD4 := fun_mk (st := sIs) lD4 cD4 kD4
  have bD4 := FD4.binds (ps := ["_law_made", "_law_due"]) fun _ _ _ _ _ _ us hl => match us, hl with | [_, _], _ => rfl
  have TD4 : Top K mg "_law_is" sIs ["_law_made", "_law_due"] := ⟨_, _, PySem.W.mg_of X G aD4, FD4, bD4⟩
  have FD5 := fun_mk (st := sPlus) lD5 cD5 kD5
  have bD5 := FD5.binds (ps := ["_law_one", "_law_more"]) fun _ _ _ _ _ _ us hl => match us, hl with | [_, _], _ => rfl
  have TD5 : Top K mg "_law_plus" sPlus ["_law_one", "_law_more"] := ⟨_, _, PySem.W.mg_of X G aD5, FD5, bD5⟩
  have FD6 := fun_mk (st := sTimes) lD6 cD6 kD6
  have bD6 := FD6.binds (ps := ["_law_one", "_law_more"]) fun _ _ _ _ _ _ us hl => match us, hl with | [_, _], _ => rfl
  have TD6 : Top K mg "_law_times" sTimes ["_law_one", "_law_more"] := ⟨_, _, PySem.W.mg_of X G aD6, FD6, bD6⟩
  have FD7 := fun_mk (st := sOpposite) lD7 cD7 kD7
  have bD7 := FD7.binds (ps := ["_law_one"]) fun _ _ _ _ _ _ us hl => match us, hl with | [_], _ => rfl
  have TD7 : Top K mg "_law_opposite" sOpposite ["_law_one"] := ⟨_, _, PySem.W.mg_of X G aD7, FD7, bD7⟩
  have FD8 := fun_mk (st := sStep) lD8 cD8 kD8
  have bD8 := FD8.binds (ps := ["_law_way", "_law_here", "_law_due", "_law_more", "_law_beside"]) fun _ _ _ _ _ _ us hl => match us, hl with | [_, _, _, _, _], _ => rfl
  have TD8 : Top K mg "_law_step" sStep ["_law_way", "_law_here", "_law_due", "_law_more", "_law_beside"] := ⟨_, _, PySem.W.mg_of X G aD8, FD8, bD8⟩
  have FD9 := fun_mk (st := sSums) lD9 cD9 kD9
  have bD9 := FD9.binds (ps := ["_law_rows"]) fun _ _ _ _ _ _ us hl => match us, hl with | [_], _ => rfl
  have TD9 : Top K mg "_law_sums_right" sSums ["_law_rows"] := ⟨_, _, PySem.W.mg_of X G aD9, FD9, bD9⟩
  have FD10 := fun_mk (st := sRight) lD10 cD10 kD10
  have bD10 := FD10.binds (ps := ["_law_pot_here"]) fun _ _ _ _ _ _ us hl => match us, hl with | [_], _ => rfl
  have TD10 : Top K mg "_law_right" sRight ["_law_pot_here"] := ⟨_, _, PySem.W.mg_of X G aD10, FD10, bD10⟩
  have FL := fun_mk (st := sLaw) lL cL kL
  have bL := FL.binds (ps := ["_law_script"]) fun _ _ _ _ _ _ us hl => match us, hl with | [_], _ => rfl
  have TL : Top K mg "law" sLaw ["_law_script"] := ⟨_, _, PySem.W.mg_of X G aL, FL, bL⟩
  have T : LTxt K mg C := { toAmTxt := am, cmp := cmp, ops := ops, sm := sm, pot := pot, over := TOv, bot := TBt, sgn := TSg, b_repr := PySem.W.mg_none_of X G z_repr, b_all := PySem.W.mg_none_of X G z_all, b_sum := PySem.W.mg_none_of X G z_sum, b_range := PySem.W.mg_none_of X G z_range, b_min := PySem.W.mg_none_of X G z_min, b_str := PySem.W.mg_none_of X G z_str, b_len := PySem.W.mg_none_of X G z_len, b_max := PySem.W.mg_none_of X G z_max, tNumber := TD0, tLowest := TD1, tDrawn := TD2, tText := TD3, tIs := TD4, tPlus := TD5, tTimes := TD6, tOpposite := TD7, tStep := TD8, tSums := TD9, tRight := TD10 }
  exact ⟨_, fun s v => .of_eq rfl, fun base _ _ => ok_law T FL⟩
end SP
open PySem PySem.W PyProof.Rows
set_option maxHeartbeats 0
open_top hd for PySem.Challenge.rw_surepipes_k11_whole_amounts_reckoned
open PySem PySem.W PyProof.Rows
set_option maxRecDepth 100000 in
set_option maxHeartbeats 0 in
theorem PySem.Challenge.cw_surepipes_k11_whole_amounts_reckoned_holds : PySem.Challenge.rw_surepipes_k11_whole_amounts_reckoned.Holds := by
  refine hd ?_
  k_fill
  refine SP.walk_ofG (l := PySem.Challenge.rw_surepipes_k11_whole_amounts_reckoned) (n := 63) (k := 10) (x := "_law_script") (CX := fun _ => L2.CX0) (sp := fun w => SP.spLaw _) rfl (by decide) rfl ⟨rfl, by decide, by decide⟩ (fun w h Y => PySem.W.kIn_of Y) ?F (fun _ _ a ns hl _ hS => ⟨a, ns, rfl, hS, hl, fun _ => rfl⟩) fun _ _ _ _ _ z => z
  case F =>
    intro w mg fa h KX G hmg
    refine' SP.all_mk KX G hmg ?aC ?aA0 ?lA0 ?cA0 ?kA0 ?aA1 ?lA1 ?cA1 ?kA1 ?aA2 ?lA2 ?cA2 ?kA2 ?aI ?lI ?cI ?kI ?lD ?rD ?iI ?mk ?kc ?pg ?hd ?po ?sa ?ca ?cn ?ck ?cm ?ne ?tu ?li ?ic ?ty ?nT ?nB ?nP ?z_isinstance ?z_int ?z_bool ?z_abs ?aM0 ?lM0 ?cM0 ?kM0 ?iM0 ?aM1 ?lM1 ?cM1 ?kM1 ?iM1 ?aM2 ?lM2 ?cM2 ?kM2 ?iM2 ?aM3 ?lM3 ?cM3 ?kM3 ?iM3 ?aM4 ?lM4 ?cM4 ?kM4 ?iM4 ?aM5 ?lM5 ?cM5 ?kM5 ?iM5 ?aM6 ?lM6 ?cM6 ?kM6 ?iM6 ?qQ ?gQ ?tQ ?aQ ?lQ ?cQ ?kQ ?z_str ?aOf ?lOf ?cOf ?kOf ?sf ?si ?aOadd ?lOadd ?cOadd ?kOadd ?iOadd ?aOradd ?lOradd ?cOradd ?kOradd ?iOradd ?aOsub ?lOsub ?cOsub ?kOsub ?iOsub ?aOrsub ?lOrsub ?cOrsub ?kOrsub ?iOrsub ?aOmul ?lOmul ?cOmul ?kOmul ?iOmul ?aOrmul ?lOrmul ?cOrmul ?kOrmul ?iOrmul ?aOneg ?lOneg ?cOneg ?kOneg ?iOneg ?aOabs ?lOabs ?cOabs ?kOabs ?iOabs ?aObool ?lObool ?cObool ?kObool ?iObool ?rdS ?gaS ?atS ?aS ?lS ?cS ?kS ?fiS ?z_max ?z_len ?z_divmod ?aP0 ?lP0 ?cP0 ?kP0 ?aP1 ?lP1 ?cP1 ?kP1 ?aP2 ?lP2 ?cP2 ?kP2 ?aOv ?lOv ?cOv ?kOv ?iOv ?qBt ?gBt ?tBt ?aBt ?lBt ?cBt ?kBt ?qSg ?gSg ?tSg ?aSg ?lSg ?cSg ?kSg ?aD0 ?lD0 ?cD0 ?kD0 ?aD1 ?lD1 ?cD1 ?kD1 ?aD2 ?lD2 ?cD2 ?kD2 ?aD3 ?lD3 ?cD3 ?kD3 ?aD4 ?lD4 ?cD4 ?kD4 ?aD5 ?lD5 ?cD5 ?kD5 ?aD6 ?lD6 ?cD6 ?kD6 ?aD7 ?lD7 ?cD7 ?kD7 ?aD8 ?lD8 ?cD8 ?kD8 ?aD9 ?lD9 ?cD9 ?kD9 ?aD10 ?lD10 ?cD10 ?kD10 ?aL ?lL ?cL ?kL ?z_repr ?z_all ?z_sum ?z_range ?z_min
    (case aC => k_is)
    (case aA0 => k_is)
    (case lA0 => k_is)
    (case cA0 => k_is)
    (case kA0 => k_is)
    (case aA1 => k_is)
    (case lA1 => k_is)
    (case cA1 => k_is)
    (case kA1 => k_is)
    (case aA2 => k_is)
    (case lA2 => k_is)
    (case cA2 => k_is)
    (case kA2 => k_is)
    (case aI => k_is)
    (case lI => k_is)
    (case cI => k_is)
    (case kI => k_is)
    (case lD => k_is)
    (case rD => exact ⟨_, rfl⟩)
    (case iI => k_is)
    (case mk => k_is)
    (case kc => k_is)
    (case pg => k_is)
    (case hd => k_is)
    (case po => k_is)
    (case sa => k_is)
    (case ca => k_is)
    (case cn => k_is)
    (case ck => k_is)
    (case cm => k_is)
    (case ne => k_is)
    (case tu => k_is)
    (case li => k_is)
    (case ic => k_is)
    (case ty => k_is)
    (case nT => k_is)
    (case nB => k_is)
    (case nP => k_is)
    (case z_isinstance => k_is)
    (case z_int => k_is)
    (case z_bool => k_is)
    (case z_abs => k_is)
    (case aM0 => k_is)
    (case lM0 => k_is)
    (case cM0 => k_is)
    (case kM0 => k_is)
    (case iM0 => k_is)
    (case aM1 => k_is)
    (case lM1 => k_is)
    (case cM1 => k_is)
    (case kM1 => k_is)
    (case iM1 => k_is)
    (case aM2 => k_is)
    (case lM2 => k_is)
    (case cM2 => k_is)
    (case kM2 => k_is)
    (case iM2 => k_is)
    (case aM3 => k_is)
    (case lM3 => k_is)
    (case cM3 => k_is)
    (case kM3 => k_is)
    (case iM3 => k_is)
    (case aM4 => k_is)
    (case lM4 => k_is)
    (case cM4 => k_is)
    (case kM4 => k_is)
    (case iM4 => k_is)
    (case aM5 => k_is)
    (case lM5 => k_is)
    (case cM5 => k_is)
    (case kM5 => k_is)
    (case iM5 => k_is)
    (case aM6 => k_is)
    (case lM6 => k_is)
    (case cM6 => k_is)
    (case kM6 => k_is)
    (case iM6 => k_is)
    (case qQ => k_is)
    (case gQ => k_is)
    (case tQ => k_is)
    (case aQ => k_is)
    (case lQ => k_is)
    (case cQ => k_is)
    (case kQ => k_is)
    (case z_str => k_is)
    (case aOf => k_is)
    (case lOf => k_is)
    (case cOf => k_is)
    (case kOf => k_is)
    (case sf => k_is)
    (case si => k_is)
    (case aOadd => k_is)
    (case lOadd => k_is)
    (case cOadd => k_is)
    (case kOadd => k_is)
    (case iOadd => k_is)
    (case aOradd => k_is)
    (case lOradd => k_is)
    (case cOradd => k_is)
    (case kOradd => k_is)
    (case iOradd => k_is)
    (case aOsub => k_is)
    (case lOsub => k_is)
    (case cOsub => k_is)
    (case kOsub => k_is)
    (case iOsub => k_is)
    (case aOrsub => k_is)
    (case lOrsub => k_is)
    (case cOrsub => k_is)
    (case kOrsub => k_is)
    (case iOrsub => k_is)
    (case aOmul => k_is)
    (case lOmul => k_is)
    (case cOmul => k_is)
    (case kOmul => k_is)
    (case iOmul => k_is)
    (case aOrmul => k_is)
    (case lOrmul => k_is)
    (case cOrmul => k_is)
    (case kOrmul => k_is)
    (case iOrmul => k_is)
    (case aOneg => k_is)
    (case lOneg => k_is)
    (case cOneg => k_is)
    (case kOneg => k_is)
    (case iOneg => k_is)
    (case aOabs => k_is)
    (case lOabs => k_is)
    (case cOabs => k_is)
    (case kOabs => k_is)
    (case iOabs => k_is)
    (case aObool => k_is)
    (case lObool => k_is)
    (case cObool => k_is)
    (case kObool => k_is)
    (case iObool => k_is)
    (case rdS => k_is)
    (case gaS => k_is)
    (case atS => k_is)
    (case aS => k_is)
    (case lS => k_is)
    (case cS => k_is)
    (case kS => k_is)
    (case fiS => k_is)
    (case z_max => k_is)
    (case z_len => k_is)
    (case z_divmod => k_is)
    (case aP0 => k_is)
    (case lP0 => k_is)
    (case cP0 => k_is)
    (case kP0 => k_is)
    (case aP1 => k_is)
    (case lP1 => k_is)
    (case cP1 => k_is)
    (case kP1 => k_is)
    (case aP2 => k_is)
    (case lP2 => k_is)
    (case cP2 => k_is)
    (case kP2 => k_is)
    (case aOv => k_is)
    (case lOv => k_is)
    (case cOv => k_is)
    (case kOv => k_is)
    (case iOv => k_is)
    (case qBt => k_is)
    (case gBt => k_is)
    (case tBt => k_is)
    (case aBt => k_is)
    (case lBt => k_is)
    (case cBt => k_is)
    (case kBt => k_is)
    (case qSg => k_is)
    (case gSg => k_is)
    (case tSg => k_is)
    (case aSg => k_is)
    (case lSg => k_is)
    (case cSg => k_is)
    (case kSg => k_is)
    (case aD0 => k_is)
    (case lD0 => k_is)
    (case cD0 => k_is)
    (case kD0 => k_is)
    (case aD1 => k_is)
    (case lD1 => k_is)
    (case cD1 => k_is)
    (case kD1 => k_is)
    (case aD2 => k_is)
    (case lD2 => k_is)
    (case cD2 => k_is)
    (case kD2 => k_is)
    (case aD3 => k_is)
    (case lD3 => k_is)
    (case cD3 => k_is)
    (case kD3 => k_is)
    (case aD4 => k_is)
    (case lD4 => k_is)
    (case cD4 => k_is)
    (case kD4 => k_is)
    (case aD5 => k_is)
    (case lD5 => k_is)
    (case cD5 => k_is)
    (case kD5 => k_is)
    (case aD6 => k_is)
    (case lD6 => k_is)
    (case cD6 => k_is)
    (case kD6 => k_is)
    (case aD7 => k_is)
    (case lD7 => k_is)
    (case cD7 => k_is)
    (case kD7 => k_is)
    (case aD8 => k_is)
    (case lD8 => k_is)
    (case cD8 => k_is)
    (case kD8 => k_is)
    (case aD9 => k_is)
    (case lD9 => k_is)
    (case cD9 => k_is)
    (case kD9 => k_is)
    (case aD10 => k_is)
    (case lD10 => k_is)
    (case cD10 => k_is)
    (case kD10 => k_is)
    (case aL => k_is)
    (case lL => k_is)
    (case cL => k_is)
    (case kL => k_is)
    (case z_repr => k_is)
    (case z_all => k_is)
    (case z_sum => k_is)
    (case z_range => k_is)
    (case z_min => k_is)
