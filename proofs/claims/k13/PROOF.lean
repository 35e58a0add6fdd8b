import PyProof.Rows.All
import Wide.All
import OpenK.AllK
import Wide.FinOn
import HandS.ForMost
import HandS.IsInst
import HandS.Wide
import HandS.Style
import HandS.TupLe
import HandS.TupAny
import HandS.Property
import HandS.Evl
import HandS.Defaults
import HandS.FStr
import HandS.ClsMeth
import HandS.MakeKw
import HandS.More
import HandS.OwnEq
import HandS.Walk
import HandS.Small
import HandS.CallLocal
import HandS.Star
import HandS.MakeKwOnly
import PyProof.SumWalkG
import HandS.Text
import KE.IntTextText
import HandS.WideBits
import KE.KExcSuper
import KE.KSuper
import HandS.ExcInit
import HandS.Lambda
import HandS.EndTab
import HandS.TryMany
import HandS.ExcField
import KE.KExcIs
import HandS.ExcOwn
import HandS.WordsExc
import HandS.RaiseMore
import PyProof.StrLawsRepr
import PyProof.Rows.SortStr
import PyProof.Rows.TmSorted
import HandS.DictComp
import KE.KTryMore
import KE.KNestM
import PySem.Challenge.RW_surepipes_k13_amounts_read_and_written
set_option Elab.async false
set_option linter.all false
set_option maxRecDepth 100000
set_option maxHeartbeats 4000000
open PySem PySem.W PyProof.Rows
set_option maxHeartbeats 0
open_top hd for PySem.Challenge.rw_surepipes_k13_amounts_read_and_written
/-! Own rules over the hand layer: defs that run while no repr is running, repr of data, comparisons of own instances. -/
namespace SP
open PySem PySem.Spec PyProof.Rows L2

/-! ### a def's promise where no repr is running -/
structure FnG (P : Program) (w : World) (K : PySem.W.Frag) (mg : Str → Option Value) (base : Heap) (CX : CXT) (k : Nat) (f : Addr) (fd : FuncData) (ps : List Str) (sp : Sp) : Prop where
  glen : ∀ vs H Q E, sp vs H Q E → vs.length = ps.length
  grun : ∀ (A : Around) (out : List Env) (s : Shared) (H : Hp) (ar : Args) (us : List Value) (vs : List V) (Q : VK) (E : XK), A.guards = some [] → Room k A → Env0 P w K mg base A out s H →
    BindsTo s fd ar (ps.zip us) → Vals vs us → sp vs H Q E → codeAny (model P w) A (.call (.ref f) ar) (CR CX out P w H s Q E) s
theorem FnG.of {P : Program} {w : World} {K : PySem.W.Frag} {mg : Str → Option Value} {base : Heap} {CX : CXT} {k : Nat} {f : Addr} {fd : FuncData} {ps : List Str} {sp : Sp} (F : FnOk P w K mg base CX k f fd ps sp) :
    FnG P w K mg base CX k f fd ps sp := ⟨F.len, fun A out s H ar us vs Q E _ => F.run A out s H ar us vs Q E⟩
theorem FnG.mono {P : Program} {w : World} {K : PySem.W.Frag} {mg : Str → Option Value} {base : Heap} {CX : CXT} {j k : Nat} {f : Addr} {fd : FuncData} {ps : List Str} {sp : Sp} (F : FnG P w K mg base CX j f fd ps sp) (h : j ≤ k) :
    FnG P w K mg base CX k f fd ps sp := ⟨F.glen, fun A out s H ar us vs Q E hg hr => F.grun A out s H ar us vs Q E hg (hr.mono h)⟩

/-- f, called in the context X with values, keeps the promise sp; the defaults dvs fill up -/
def Rn (X : Cx) (f : Addr) (sp : Sp) (dvs : List V) (E : XK) : Prop :=
  ∀ (pins : List (Addr × Obj)) (σ : L2.St) (H : Hp) (s : Shared) (Q : VK) (us : List Value) (vs : List V), Inv X pins σ H s → Vals vs us → sp (vs ++ dvs) H Q E → wpAny (model X.prog X.w) X.A (call (.ref f) us) (EP X pins σ Q) X.xe s
section
variable {X : Cx} {CX : CXT} {k : Nat} {f : Addr} {fd : FuncData} {ps : List Str} {sp : Sp} {dvs : List V} {ds : List Value} {E : XK}
theorem rn_of (F : FnOk X.prog X.w X.K X.mg X.base CX k f fd ps sp) (hr : Room k X.A) (hb : Binds X.K fd ps ds) (hd : Vals dvs ds) (hx : Passes CX X E) : Rn X f sp dvs E :=
  fun _ _ _ _ _ _ _ I r h => run_fn F hr hb hd hx I r h
theorem rn_g (F : FnG X.prog X.w X.K X.mg X.base CX k f fd ps sp) (gd : X.A.guards = some []) (hr : Room k X.A) (hb : Binds X.K fd ps ds) (hd : Vals dvs ds) (hx : Passes CX X E) : Rn X f sp dvs E := by
  intro pins σ H s Q us vs I r h
  have rr : Vals (vs ++ dvs) (us ++ ds) := r.append hd
  have ln : (us ++ ds).length = ps.length := rr.length.symm.trans (F.glen _ _ _ _ h)
  refine wpAny_call (codeAny_mono (F.grun X.A X.stack s H ⟨us, []⟩ (us ++ ds) (vs ++ dvs) Q E gd hr I.env0 (hb s us I.kIn ln) rr h) ?_)
  intro res s2 got
  match res, got with
  | .error e, got => exact hx pins σ H s e s2 I got
  | .ok (.ret u), got => exact I.after got
end
section
variable {X : Cx} {f : Addr} {sp : Sp} {dvs : List V} {E : XK} {x : Str} {e : Expr} {es : List Expr} {t : TA} {p pos : Pos}
theorem pe_callC (R : Rn X f sp dvs E) (hm : X.mg x = some (.ref f)) (hk : PySem.W.keepIn X.K (.ref f) = true) (ha : PA X (e :: es) t) (hg : Gl X x := by rfl) (hdb : (x == ("__debug__" : Str)) = false := by decide)
    (hst : starEach (e :: es) X.env = (false, eval e X.env) :: starEach es X.env := by rfl) (hpl : (backTo pos (starEach es X.env)).any (·.1) = false := by rfl) : PE X (.Call (.Name x p) (e :: es) [] pos) (tCall sp dvs E t) := by
  refine ⟨fun pins s σ H Q I h => wpAny_Call_Name_kw (ld_glob I hg hm ?_ hdb)⟩
  refine PySem.W.callWith_K (h₀ := X.base) I.ok.mod.kin hk (thn (ha.run pos pins s σ H _ I h) ?_) hst hpl
  intro us s1 ⟨vs, H1, I1, r1, q1⟩
  exact ⟨I1.kIn, R pins σ H1 s1 Q us vs I1 r1 q1⟩
theorem pe_callC0 (R : Rn X f sp dvs E) (hm : X.mg x = some (.ref f)) (hk : PySem.W.keepIn X.K (.ref f) = true) (hg : Gl X x := by rfl) (hdb : (x == ("__debug__" : Str)) = false := by decide) : PE X (.Call (.Name x p) [] [] pos) (tCall sp dvs E tNil) := by
  refine ⟨fun pins s σ H Q I h => wpAny_Call_Name_kw (ld_glob I hg hm ?_ hdb)⟩
  exact PySem.W.callWith_K0 I.kIn hk (R pins σ H s Q [] [] I .nil h)
end

/-! ### the rule for a def, with the guards told -/
section
variable {CX : CXT} {P : Program} {w : World} {K : PySem.W.Frag} {mg : Str → Option Value} {base : Heap} {k : Nat} {f : Addr} {fd : FuncData} {N ps : List Str} {sp : Sp}
/-- a def of the text entered: its body from the parameters' values, any end -/
theorem enter_def {name qual : Str} {params : Arguments} {body : List Stmt} {scope : Scope} {dV kV doc pm cdv ct oc : Value} {an od : Option Addr} {osl : Array (Option Value)} {R : Result → Shared → Prop} {A : Around} {out : List Env} {s : Shared} {H : Hp} {ar : Args} {us : List Value} {vs : List V} {E : XK} {kk : Nat}
    (lk : K.lookup f = some ⟨oc, od, .func (PySem.W.fnOf name qual params body scope dV kV doc pm an cdv ct), osl⟩) (hcd : PySem.W.codeIn K cdv qual = true) (S : FnScope N ps scope)
    (hr : Room kk A) (e0 : Env0 P w K mg base A out s H) (hb : BindsTo s (PySem.W.fnOf name qual params body scope dV kV doc pm an cdv ct) ar (ps.zip us)) (r : Vals vs us) (hl : vs.length = ps.length)
    (go : ∀ s1, Inv (cxOf CX P w K mg base N qual scope f cdv A out s H E) [] (start N vs) H s1 →
      wpAny (model P w) (A.deeper (envOfC qual scope s.heap.objs.size f cdv)) (execs body (envOfC qual scope s.heap.objs.size f cdv)) (fun fl s' => match fl with | .ret u => R (.ok (.ret u)) s' | .next => R (.ok (.ret .none)) s' | _ => False)
        (fun e s' => wpAny (model P w) (A.deeper (envOfC qual scope s.heap.objs.size f cdv)) (leaving (envOfC qual scope s.heap.objs.size f cdv) e) (fun _ s'' => R (.error e) s'') (fun e' s'' => R (.error e') s'') s') s1) :
    codeAny (model P w) A (.call (.ref f) ar) R s := by
  have inK : K.In s.heap := e0.mod.kin.keeps fun b o e => (e0.bs b o e).1
  have nol : s.heap.NoLimit := e0.mod.nolimit.keeps fun b o e => (e0.bs b o e).1
  have kinds : ∀ y ∈ ps.zip us, scope.names.lookup y.1 = some .local ∨ (scope.names.lookup y.1 = some .cell ∧ ((cellsFrom (s.heap.objs.size + 1) scope.names []).lookup y.1).isSome = true) := by
    intro ⟨n, v⟩ hy
    cases S.par n (List.of_mem_zip hy).1 with
    | inl q => exact .inl q
    | inr q => exact .inr ⟨q, PySem.W.cellsFrom_some _ _ _ (.inl q)⟩
  refine codeAny_call_function hr.depth (inK _ _ lk) rfl S.co S.gen rfl (PySem.W.codeRec_of inK hcd) (hb _ _ _ _ ?_)
  refine wpAny_newFunctionEnv_cells S.kind kinds ?_
  intro env he s1 x
  subst he
  refine ⟨nol.keeps x.toInCall.keep, codeAny_func ?_⟩
  refine wpAny_mono (go s1 (inv_start S hr.hd e0 hl r x)) ?_ fun _ _ z => z
  intro fl s2 z
  match fl, z with
  | .ret u, z => exact z
  | .next, z => exact z
theorem fn_ofG {name qual : Str} {params : Arguments} {body : List Stmt} {scope : Scope} {dV kV doc pm cdv ct oc : Value} {an od : Option Addr} {osl : Array (Option Value)}
    (lk : K.lookup f = some ⟨oc, od, .func (PySem.W.fnOf name qual params body scope dV kV doc pm an cdv ct), osl⟩) (hcd : PySem.W.codeIn K cdv qual = true) (S : FnScope N ps scope) (len : ∀ vs H Q E, sp vs H Q E → vs.length = ps.length)
    (hbody : ∀ (A : Around) (out : List Env) (s : Shared) (H : Hp) (vs : List V) (Q : VK) (E : XK), A.guards = some [] → Room k (A.deeper (envOfC qual scope s.heap.objs.size f cdv)) → sp vs H Q E →
      ∃ t, PSs (cxOf CX P w K mg base N qual scope f cdv A out s H E) body t ∧ t { nx := fun _ H' => Q .non H', rt := Q } (start N vs) H) :
    FnG P w K mg base CX (k + 1) f (PySem.W.fnOf name qual params body scope dV kV doc pm an cdv ct) ps sp := by
  refine ⟨len, fun A out s H ar us vs Q E gd hr e0 hb r hsp => ?_⟩
  obtain ⟨t, ht, hq⟩ := hbody A out s H vs Q E gd (hr.deeper _) hsp
  refine enter_def (CX := CX) (E := E) lk hcd S hr e0 hb r (len _ _ _ _ hsp) fun s1 I => ?_
  refine wpAny_mono (ht.run [] s1 (start N vs) H _ I hq) ?_ fun e s2 z => z
  intro fl s2 z
  cases fl with
  | ret u => exact let ⟨v, _, H2, J, rv, q⟩ := z; ⟨v, H2, J.os, J.bare, J.base, J.hok, rv, q⟩
  | next => exact let ⟨_, H2, J, q⟩ := z; ⟨.non, H2, J.os, J.bare, J.base, J.hok, rfl, q⟩
  | brk => exact let ⟨_, _, _, q⟩ := z; q
  | cont => exact let ⟨_, _, _, q⟩ := z; q
end
section
variable {P : Program} {w : World} {K : PySem.W.Frag} {mg : Str → Option Value} {base : Heap}
theorem okG {CX : CXT} {x qual : Str} {st : Stmt} {f : Addr} {fd : FuncData} {N ps : List Str} {k : Nat} {sp : Sp} (F : Fun K x qual st f fd) (S : FnScope N ps (defScope st)) (len : ∀ vs H Q E, sp vs H Q E → vs.length = ps.length)
    (hbody : ∀ (cdv : Value) (A : Around) (out : List Env) (s : Shared) (H : Hp) (vs : List V) (Q : VK) (E : XK), A.guards = some [] → Room k (A.deeper (envOfC qual (defScope st) s.heap.objs.size f cdv)) → sp vs H Q E →
      ∃ t, PSs (cxOf CX P w K mg base N qual (defScope st) f cdv A out s H E) (defBody st) t ∧ t { nx := fun _ H' => Q .non H', rt := Q } (start N vs) H) : FnG P w K mg base CX (k + 1) f fd ps sp := by
  obtain ⟨oc, od, kV, doc, pm, an, cdv, ct, osl, rfl, lk, hcd⟩ := F.ex
  exact fn_ofG lk hcd S len (hbody cdv)
end

/-! ### the law's call -/
theorem law_callG {P : Program} {w : World} {K : PySem.W.Frag} {mg mb : Str → Option Value} {CX : CXT} {k : Nat} {fa a : Addr} {fd : FuncData} {x : Str} {sp : Sp} {s₁ : Shared} {vs : List Value} {ns : List Int}
    (KX : K.In s₁.heap) (hns : s₁.heap.Ns mainGlobals mg) (hb : s₁.heap.Ns builtinsNs mb) (hbb : ∀ x : Str, x ≠ "__name__" → mb x = bootBuiltins x) (hlim : s₁.heap.NoLimit) (hg : s₁.gens = #[])
    (ha : s₁.heap.get? a = some { cls := .type "list", data := .seq vs.toArray }) (hi : IntsAre vs ns) (hl : ns.length ≤ sizeLine) (hr : Room k callerA)
    (F : ∀ base : Heap, K.In base → base.Ns mainGlobals mg → FnG P w K mg base CX k fa fd [x] sp) (hbind : ∀ (s : Shared) (u : Value), BindsTo s fd ⟨[u], []⟩ [(x, u)])
    (hsp : ∀ H : Hp, Only H → SqL K H a (ns.map V.int) → sp [.ref a] H (fun v _ => v = .bl true) fun _ _ _ => False)
    (hCX : ∀ H e s', CX [] H s₁ (fun _ _ _ => False) e s' → False) :
    codeAny (model P w) callerA (.call (.ref fa) ⟨[.ref a], []⟩) (fun r s' => r = .ok (.ret (.bool true)) ∧ OldK s₁.heap s'.heap ∧ s'.os = s₁.os ∧ AllBare s'.gens) s₁ := by
  have rv := vals_ints hi
  have vl := hi.length
  suffices core : ∀ H : Hp, Only H → SqL K H a (ns.map V.int) → HOk P w H s₁.heap → (∀ b, H b ≠ none → b = a) → (H a ≠ none → K.lookup a = none) →
      codeAny (model P w) callerA (.call (.ref fa) ⟨[.ref a], []⟩) (fun r s' => r = .ok (.ret (.bool true)) ∧ OldK s₁.heap s'.heap ∧ s'.os = s₁.os ∧ AllBare s'.gens) s₁ by
    by_cases hk : ∃ o, K.lookup a = some o
    · obtain ⟨o, hk⟩ := hk
      have e := KX a o hk
      rw [ha] at e
      cases e
      refine core (fun _ => none) (fun _ => Or.inl rfl) (Or.inr ⟨_, vs.toArray, _, hk, rfl, rfl, rfl, ?_, by simpa using rv⟩) (fun b u z => ?_) (fun b z => absurd rfl z) fun z => absurd rfl z
      · rw [List.size_toArray, vl]
        exact hl
      · cases (show (none : Option HO) = some u from z)
    · have hk0 : K.lookup a = none := by
        cases e : K.lookup a with
        | none => rfl
        | some o => exact absurd ⟨o, e⟩ hk
      have at1 : ∀ b u, (if b = a then some (HO.frz { cls := .type "list", data := .seq vs.toArray } (.lst (ns.map V.int))) else none) = some u → b = a ∧ u = HO.frz { cls := .type "list", data := .seq vs.toArray } (.lst (ns.map V.int)) := by
        intro b u z
        by_cases hb : b = a
        · rw [if_pos hb] at z
          exact ⟨hb, (Option.some.inj z).symm⟩
        · rw [if_neg hb] at z
          cases z
      refine core (fun b => if b = a then some (.frz { cls := .type "list", data := .seq vs.toArray } (.lst (ns.map V.int))) else none) (fun b => ?_) (Or.inl (Or.inr ⟨_, if_pos rfl⟩)) (fun b u z => ?_) (fun b z => ?_) fun _ => hk0
      · by_cases hb : b = a
        · exact Or.inr ⟨_, _, if_pos hb⟩
        · exact Or.inl (if_neg hb)
      · obtain ⟨e1, e2⟩ := at1 b u z
        subst e1 e2
        exact ⟨ha, by rw [List.length_map]; exact hl, vs, _, rv, ha⟩
      · by_cases hb : b = a
        · exact hb
        · exact absurd (if_neg hb) z
  intro H hO hS hok hA hK
  have keepG : ∀ {b : Addr} {o : Obj}, s₁.heap.get? b = some o → H b = none → (hidT s₁.heap H).get? b = some o := fun e n => hidT_get e n
  have dictG : ∀ {b : Addr} {o : Obj} {es : Array DictEntry} {ep : Nat}, s₁.heap.get? b = some o → o.data = .dict es ep → H b = none := by
    intro b o es ep e d
    by_cases q : H b = none
    · exact q
    · have e' := hA b q
      rw [e', ha] at e
      cases e
      cases (show Data.seq vs.toArray _ = Data.dict es ep from d)
  have nsG : ∀ {b : Addr} {m : Str → Option Value}, s₁.heap.Ns b m → (hidT s₁.heap H).Ns b m := by
    intro b m ⟨o, es, ep, e, d, r⟩
    exact ⟨o, es, ep, keepG e (dictG e d), d, r⟩
  have kG : K.In (hidT s₁.heap H) := by
    intro b o e
    refine keepG (KX b o e) ?_
    by_cases q : H b = none
    · exact q
    · have e' := hA b q
      rw [e', hK (by rw [← e']; exact q)] at e
      cases e
  have M : Mod K mg (hidT s₁.heap H) := ⟨kG, nsG hns, ⟨mb, nsG hb, hbb⟩, let ⟨mc, q1, q2⟩ := hlim; ⟨mc, nsG q1, q2⟩⟩
  have e0 : Env0 P w K mg (hidT s₁.heap H) callerA [] s₁ H := ⟨rfl, M, fun b o e => of_hidT e, Nat.le_of_eq (hidT_size _ _), trivial, fun b hb => (List.not_mem_nil (show b ∈ ([] : List Addr) from hb)).elim, hok, .of_eq hg⟩
  refine codeAny_mono ((F _ kG (nsG hns)).grun callerA [] s₁ H ⟨[.ref a], []⟩ [.ref a] [.ref a] _ _ rfl hr e0 (hbind s₁ (.ref a)) (.cons rfl .nil) (hsp H hO hS)) ?_
  intro r s' h
  match r, h with
  | .error e, h => exact (hCX H e s' h).elim
  | .ok (.ret u), ⟨v, H', os, bare, un, hok', r', q⟩ =>
    have q' : v = .bl true := q
    subst q'
    have r2 : u = Value.bool true := r'
    subst r2
    refine ⟨rfl, OldK.of_keep fun b o e => ?_, os, bare⟩
    rcases hO b with z | ⟨ob, xs, z⟩
    · exact un.keep b o e z (fun hm => (List.not_mem_nil (show b ∈ ([] : List Addr) from hm)).elim) (fun hm => (List.not_mem_nil hm).elim)
    · have z2 := un.frzs b ob _ z
      have e1 := (hok b _ z).1
      have e2 := (hok' b _ z2).1
      rw [e] at e1
      cases e1
      exact e2
theorem walk_ofG {l : PySem.W.OpenLaw} {n k : Nat} {q : Program} {loose : List Str} {XP : (Str → Option Value) → Heap → Prop} {YP : World → Heap → Prop} {d : DefRec} {K : Params → PySem.W.Frag} {CX : World → CXT} {sp : World → Sp} {x : Str}
    (hn : l.most = some n) (hn2 : n ≤ sizeLine) (hdf : d.params.defaults = []) (hr : Room k callerA) (hY : ∀ (w : World) (h : Heap), YP w h → (K w.params).In h)
    (F : ∀ (w : World) (mg : Str → Option Value) (fa : Addr) (h : Heap), (K w.params).In h → h.Ns mainGlobals mg → mg d.name = some (.ref fa) →
      ∃ fd : FuncData, (∀ (s : Shared) (u : Value), BindsTo s fd ⟨[u], []⟩ [(x, u)]) ∧ ∀ base : Heap, (K w.params).In base → base.Ns mainGlobals mg → FnG l.prog w (K w.params) mg base (CX w) k fa fd [x] (sp w))
    (hsp : ∀ (w : World) (H : Hp) (a : Addr) (ns : List Int), ns.length ≤ n → Only H → SqL (K w.params) H a (ns.map V.int) → sp w [.ref a] H (fun v _ => v = .bl true) fun _ _ _ => False)
    (hCX : ∀ (w : World) (H : Hp) (s : Shared) (e : Value) (s' : Shared), CX w [] H s (fun _ _ _ => False) e s' → False) :
    PySem.W.WalkO q loose XP YP l.row.toRowW d [] (fun f vs => PySem.call f vs) := by
  refine Att.attach_call hn hdf ?_
  intro w s₀ s₁ mg mb fa o pm cd doc a vs ns G Y ho hd hcd hmg hobj hints hlen hg
  obtain ⟨fd, hb, hF⟩ := F w mg fa _ (hY w _ Y) G.T.g hmg
  exact law_callG (hY w _ Y) G.T.g G.T.b G.T.builtins G.T.nolimit hg hobj hints (Nat.le_trans hlen hn2) hr hF hb (fun H hO hS => hsp w H a ns hlen hO hS) fun H e s' => hCX w H s₁ e s'

/-! ### repr of data -/
section
variable {X : Cx}
def rReprD (K : PySem.W.Frag) : List V → Hp → VK → Prop := fun xs H Q => ∃ (a : Addr) (d : PyData), xs = [.ref a] ∧ Dp K H (.ref a) d ∧ d.showable = true ∧ d.hasDict = false ∧ d.depth ≤ 50 ∧ d.shown.length ≤ sizeLine ∧ Q (.str d.shown) H
theorem call_reprD (gd : X.A.guards = some []) (hu : X.A.units + 64 < cLine) : CallR X (.builtin "repr") (rReprD X.K) := by
  intro pins s σ H xs us Q I r h
  obtain ⟨a, d, rfl, hD, hs, hn, hdp, hz, q⟩ := h
  obtain ⟨u, rfl, ru⟩ := vals1 r
  cases (show u = Value.ref a from ru)
  obtain ⟨as, rd⟩ := Dp.reads I d _ _ hD rfl
  refine repr_of_reads' rd hs (PyData.noDict_hsm hn) gd (by omega) (fun _ _ e => e) (fun h' u tk hk => ?_) hz
  exact ⟨.str d.shown, H, I.kept hk, ⟨u, rfl⟩, q⟩
end
end SP
/-! Own rules: comparisons of own instances; == and != against other kinds, where the own __eq__ declines. -/
namespace SP
open PySem PySem.Spec PyProof.Rows L2
section
variable {X : Cx} {pins : List (Addr × Obj)} {σ : L2.St} {H : Hp} {s : Shared}
theorem looks_typeIs {M : Model} {h : Heap} {u : Value} {T : String} (e : ∀ s : Shared, (∀ b o, h.get? b = some o → s.heap.get? b = some o) → s.TypeIs u T) : PySem.W.Looks M h (typeOf u) (.type T) :=
  fun A Q E s k q => wpAny_typeOf (e s k) q
/-- what typeOf tells of a value -/
theorem looks_ty {M : Model} {y : V} {u t : Value} (I : Inv X pins σ H s) (ry : RelV y u) (ty : TyOf X.K H y t) : PySem.W.Looks M s.heap (typeOf u) t := by
  cases ty with
  | non => cases (show u = Value.none from ry); exact looks_typeIs fun _ _ => rfl
  | bl b => cases (show u = Value.bool b from ry); exact looks_typeIs fun _ _ => rfl
  | int i => obtain ⟨t, q⟩ := (show ∃ t, u = Value.int i t from ry); cases q; exact looks_typeIs fun _ _ => rfl
  | str x => obtain ⟨t, q⟩ := (show ∃ t, u = Value.str x t from ry); cases q; exact looks_typeIs fun _ _ => rfl
  | flt x => obtain ⟨t, q⟩ := (show ∃ t, u = Value.float x t from ry); cases q; exact looks_typeIs fun _ _ => rfl
  | @lst a xs ea =>
    cases (show u = Value.ref a from ry)
    have ok : ObjOk X.prog X.w H s.heap a (.lst xs) := I.hok a _ ea
    obtain ⟨_, _, n, _, h1⟩ := ok
    exact looks_typeIs fun s' k => ⟨_, k _ _ h1, rfl⟩
  | @frz a ob xs ea =>
    cases (show u = Value.ref a from ry)
    have ok : ObjOk X.prog X.w H s.heap a (.frz ob (.lst xs)) := I.hok a _ ea
    obtain ⟨_, _, _, n, _, h1⟩ := ok
    exact looks_typeIs fun s' k => ⟨_, k _ _ h1, rfl⟩
  | @tup a xs ea =>
    cases (show u = Value.ref a from ry)
    have ok : ObjOk X.prog X.w H s.heap a (.tup xs) := I.hok a _ ea
    obtain ⟨_, _, _, o, h1, h2, _⟩ := ok
    exact looks_typeIs fun s' k => ⟨o, k _ _ h1, h2⟩
  | @dK a kvs ea =>
    cases (show u = Value.ref a from ry)
    have ok : ObjOk X.prog X.w H s.heap a (.dK kvs) := I.hok a _ ea
    obtain ⟨_, _, vs, _, o, es, ep, h1, h2, _⟩ := ok
    exact looks_typeIs fun s' k => ⟨o, k _ _ h1, h2.1⟩
  | @dT a kvs ea =>
    cases (show u = Value.ref a from ry)
    have ok : ObjOk X.prog X.w H s.heap a (.dT kvs) := I.hok a _ ea
    obtain ⟨_, _, xs, _, o, es, ep, h1, h2, _⟩ := ok
    exact looks_typeIs fun s' k => ⟨o, k _ _ h1, h2.1⟩
  | @ins a C dx fs ea cl ha hn htk hm =>
    cases (show u = Value.ref a from ry)
    obtain ⟨mA, O, _⟩ := ins_get I.hok ea
    obtain ⟨od, J, _⟩ := O.look
    exact J.type
theorem back_rel {v : V} {u : Value} {Q : Value → Shared → Prop} {s' : Shared} (r : RelV v u) (h : Q u s') : PySem.W.CmpBack Q u s' := by
  cases v with
  | non => cases r; exact h
  | bl _ => cases r; exact h
  | int _ => obtain ⟨t, rfl⟩ := r; exact h
  | str _ => obtain ⟨t, rfl⟩ := r; exact h
  | byt _ => obtain ⟨t, rfl⟩ := r; exact h
  | flt _ => obtain ⟨t, rfl⟩ := r; exact h
  | ref _ => cases r; exact h
  | ty _ => cases r; exact h
/-- o op y, o an instance of the class at C whose method (at f) answers -/
def rCmp (K : PySem.W.Frag) (C : Addr) (sp : Sp) (E : XK) : R2 := fun x y H Q => ∃ (a dx : Addr) (fs : List (Str × V)) (t : Value), x = .ref a ∧ H a = some (.ins C dx fs) ∧ TyOf K H y t ∧ PySem.W.notFirst K C t = true ∧ sp [x, y] H Q E
theorem op_cmpC {op : CmpOp} {C f : Addr} {sp : Sp} {E : XK} (hu : X.A.units < cLine) (hs : PySem.W.findIn X.K (.ref C) (cmpInfo op).2.1 = some (some (.ref f))) (hf : PySem.W.isFn X.K (.ref f) = true) (R : Rn X f sp [] E)
    (hop : ∀ a b, compareOp op a b = richCompare op a b := by intro _ _; rfl) : OpR X (compareOp op) (rCmp X.K C sp E) := by
  intro pins s σ H x y v u Q I rx ry h
  obtain ⟨a, dx, fs, t, rfl, ea, ty, hn, h⟩ := h
  cases (show v = Value.ref a from rx)
  obtain ⟨mA, O, _⟩ := ins_get I.hok ea
  obtain ⟨od, J, _⟩ := O.look
  obtain ⟨m, F⟩ := I.fr
  rw [hop]
  refine PySem.W.cmp_K hu F I.mod.kin J (looks_ty I ry ty) hn hs hf (thn (R pins σ H s Q [.ref a, u] [.ref a, y] I (.cons rfl (.cons ry .nil)) h) ?_)
  intro w' s' ⟨v', H', I', r', q'⟩
  exact back_rel r' ⟨v', H', I', r', q'⟩
/-- what the own != makes of ==: object's -/
def rNeC (K : PySem.W.Frag) (C : Addr) (sp : Sp) (E : XK) : R2 := fun x y H Q => ∃ (a dx : Addr) (fs : List (Str × V)) (t : Value), x = .ref a ∧ H a = some (.ins C dx fs) ∧ TyOf K H y t ∧ PySem.W.notFirst K C t = true ∧
  sp [x, y] H (fun v H' => ∃ b, v = .bl b ∧ Q (.bl (!b)) H') E
end
section
variable {prog : Program} {w : World} {A : Around} {E : Value → Shared → Prop} {s : Shared} {K : PySem.W.Frag} {x C f : Addr} {ox : Obj} {od : Option Obj}
/-- the slot of object found by an own class is bound and called -/
theorem ifBound_objNe {M : Model} {args : List Value} {Q : Option Value → Shared → Prop} (X : K.In s.heap) (I : PySem.W.InstAt s.heap x ox C od) (hs : PySem.W.findIn K (.ref C) "__ne__" = some (some (.builtin "object.__ne__")))
    (h : wpAny M A (call (.builtin "object.__ne__") (.ref x :: args)) (fun v => Q (some v)) E s) : wpAny M A (callSpecialIfBound? (.ref x) "__ne__" args) Q E s := by
  have last : wpAny M A (call (.builtin "object.__ne__") ([.ref x] ++ args) >>= fun v => pure (some v)) Q E s := wpAny_bind (wpAny_mono h (fun _ _ z => wpAny_pure z) fun _ _ z => z)
  simp only [callSpecialIfBound?, bindSpecialIfBound?]
  refine wpAny_holding (wpAny_bind (wpAny_bind (wpAny_bind (I.type.here ((PySem.W.looks_findIn X hs).here (wpAny_bind (wpAny_askSetting (wpAny_ite ?_))))))))
  split
  · exact wpAny_bind (wpAny_of_eq (F.cmp_object.ne.bind _) (wpAny_pure (by exact last)))
  · exact wpAny_tryCatch (wpAny_bind (wpAny_of_eq (F.cmp_object.ne.bind _) (wpAny_pure (by exact last))))
theorem ne_body {b : Value} {Q : Value → Shared → Prop} (hu : A.units + 1 < cLine) (X : K.In s.heap) (I : PySem.W.InstAt s.heap x ox C od) (hm : PySem.W.mroIn K C (.type "object") = some true)
    (hs : PySem.W.findIn K (.ref C) "__eq__" = some (some (.ref f))) (hf : PySem.W.isFn K (.ref f) = true)
    (h : wpAny (model prog w) A.in1 (call (.ref f) [.ref x, b]) (fun v s' => (∃ k, v = .bool k ∧ Q (.bool (!k)) s') ∨ (v = .notImplemented ∧ Q .notImplemented s')) E s) :
    wpAny (model prog w) A (call (.builtin "object.__ne__") [.ref x, b]) Q E s := by
  refine wpAny_call (codeAny_call_builtin F.cmp_object.ne.plain F.cmpEntry_ne (PySem.W.check_slot F.cmpKind_ne F.cmpSplit_ne (I.type.andThen (PySem.W.looks_mroIn X hm)) (F.cmpArgs_ne _ _) ?_))
  show wpAny _ _ (cRoomFor "comparison" [.ref x, b] >>= fun _ => callSpecialIfBound? (.ref x) "__eq__" [b] >>= fun r => (match r with
    | some .notImplemented | none => PySem.ret .notImplemented
    | some r => truthy r >>= fun t => PySem.ret (.bool (!t)))) _ _ _
  refine wpAny_bind (wpAny_cRoomFor hu (wpAny_bind (PySem.W.ifBound_K X I hs hf (wpAny_mono h (fun v s' hv => ?_) fun _ _ z => z))))
  rcases hv with ⟨k, rfl, q⟩ | ⟨rfl, q⟩
  · exact wpAny_bind (wpAny_truthy_bool (wpAny_pure q))
  · exact wpAny_pure q
end
/-! ### the built-in == against an own instance declines -/
section
variable {prog : Program} {w : World} {A : Around} {E : Value → Shared → Prop} {s : Shared} {K : PySem.W.Frag} {x C dx : Addr} {ox : Obj} {od : Option Obj}
theorem asInt_inst {M : Model} {Q : Option Int → Shared → Prop} (hx : s.heap.get? x = some (PySem.W.instObj C dx)) (q : Q none s) : wpAny M A (asInt? (.ref x)) Q E s := by
  show wpAny M A (load x >>= fun o => match o.data with | .prim (.int i _) => pure (some i) | _ => pure none) Q E s
  exact wpAny_bind (wpAny_load hx (wpAny_pure q))
theorem asStr_inst {M : Model} {Q : Option Str → Shared → Prop} (hx : s.heap.get? x = some (PySem.W.instObj C dx)) (q : Q none s) : wpAny M A (asStr? (.ref x)) Q E s := by
  show wpAny M A (load x >>= fun o => match o.data with | .prim (.str i _) => pure (some i) | _ => pure none) Q E s
  exact wpAny_bind (wpAny_load hx (wpAny_pure q))
theorem int_declines {i : Int} {t : Tok} {Q : Option Value → Shared → Prop} (hx : s.heap.get? x = some (PySem.W.instObj C dx)) (q : Q none s) : wpAny (model prog w) A (tryCompare (.int i t) "__eq__" (.ref x)) Q E s := by
  refine wpAny_tryCompare_declines (T := "int") rfl F.slot_int_eq_refl (GQ.call_here F.slot_int_eq_refl rfl F.entry_int_eq (F.args_int_eq_2 _ _) ?_)
  wp_walk using asInt_inst hx
  exact ⟨rfl, q⟩
theorem bool_declines {b : Bool} {Q : Option Value → Shared → Prop} (hx : s.heap.get? x = some (PySem.W.instObj C dx)) (q : Q none s) : wpAny (model prog w) A (tryCompare (.bool b) "__eq__" (.ref x)) Q E s := by
  refine wpAny_tryCompare_declines (T := "bool") rfl F.slot_bool_eq_refl (GQ.call_here F.slot_bool_eq_refl rfl F.entry_int_eq (F.args_int_eq_2 _ _) ?_)
  wp_walk using asInt_inst hx
  exact ⟨rfl, q⟩
theorem str_declines {z : Str} {t : Tok} {Q : Option Value → Shared → Prop} (hx : s.heap.get? x = some (PySem.W.instObj C dx)) (q : Q none s) : wpAny (model prog w) A (tryCompare (.str z t) "__eq__" (.ref x)) Q E s := by
  refine wpAny_tryCompare_declines (T := "str") rfl F.slot_str_eq_refl (GQ.call_here F.slot_str_eq_refl rfl F.entry_str_eq (F.args_str_eq_2 _ _) ?_)
  show wpAny _ _ (asStr? (.ref x) >>= fun r => match r with | some o => PySem.ret (.bool (z.cps.toList == o.cps.toList)) | none => rule "str.__eq__.not-a-str" >>= fun _ => PySem.ret .notImplemented) _ _ _
  exact wpAny_bind (asStr_inst hx (wpAny_bind (wpAny_rule (wpAny_pure ⟨rfl, q⟩))))
theorem none_declines {Q : Option Value → Shared → Prop} (q : Q none s) : wpAny (model prog w) A (tryCompare .none "__eq__" (.ref x)) Q E s :=
  wpAny_tryCompare_declines (show s.TypeIs .none "NoneType" from rfl) F.slot_NoneType_eq_refl (call_gives F.slot_NoneType_eq_refl rfl F.entry_NoneType_eq (F.args_NoneType_eq_2 _ _) (SeqAt.NoneType___eq___none_ref_0 x) ⟨rfl, q⟩)
theorem tuple_declines {b : Addr} {ob : Obj} {Q : Option Value → Shared → Prop} (X : K.In s.heap) (I : PySem.W.InstAt s.heap x ox C od) (hb : s.heap.get? b = some ob) (hc : ob.cls = .type "tuple")
    (hs : PySem.W.subIn K (.ref C) (.type "tuple") = some false) (q : Q none s) : wpAny (model prog w) A (tryCompare (.ref b) "__eq__" (.ref x)) Q E s := by
  refine wpAny_tryCompare_declines (T := "tuple") ⟨ob, hb, hc⟩ F.slot_tuple_eq_refl (GQ.call_here F.slot_tuple_eq_refl ⟨ob, hb, hc⟩ F.entry_tuple_eq (F.args_tuple_eq_2 _ _) ?_)
  have no : PySem.W.Looks (model prog w) s.heap (isInstance (.ref x) (.type "tuple")) false := I.type.andThen (PySem.W.looks_subIn X hs)
  refine wpAny_bind (m := isInstance (.ref x) (.type "tuple")) (no.here ?_)
  exact wpAny_pure ⟨rfl, q⟩
theorem list_declines {b : Addr} {ob : Obj} {Q : Option Value → Shared → Prop} (X : K.In s.heap) (I : PySem.W.InstAt s.heap x ox C od) (hb : s.heap.get? b = some ob) (hc : ob.cls = .type "list")
    (hs : PySem.W.subIn K (.ref C) (.type "list") = some false) (q : Q none s) : wpAny (model prog w) A (tryCompare (.ref b) "__eq__" (.ref x)) Q E s := by
  refine wpAny_tryCompare_declines (T := "list") ⟨ob, hb, hc⟩ F.slot_list_eq_refl (GQ.call_here F.slot_list_eq_refl ⟨ob, hb, hc⟩ F.entry_list_eq (F.args_list_eq_2 _ _) ?_)
  have no : PySem.W.Looks (model prog w) s.heap (isInstance (.ref x) (.type "list")) false := I.type.andThen (PySem.W.looks_subIn X hs)
  refine wpAny_bind (m := isInstance (.ref x) (.type "list")) (no.here ?_)
  exact wpAny_pure ⟨rfl, q⟩
end

/-! ### the context one C call deeper -/
abbrev in1 (X : Cx) : Cx := { X with A := X.A.in1 }
section
variable {X : Cx} {pins : List (Addr × Obj)} {σ : L2.St} {H : Hp} {s : Shared}
theorem ok_in1 (k : X.Ok) : (in1 X).Ok := ⟨k.mod, k.kind, k.glob, k.blt, k.above, k.inj, k.has, k.cab, k.hd, k.frames, k.stk, k.exf, k.bs, k.bsz, k.noex, k.exfs, k.funs, k.frf⟩
theorem ok_out1 (k : (in1 X).Ok) : X.Ok := ⟨k.mod, k.kind, k.glob, k.blt, k.above, k.inj, k.has, k.cab, k.hd, k.frames, k.stk, k.exf, k.bs, k.bsz, k.noex, k.exfs, k.funs, k.frf⟩
theorem inv_in1 (I : Inv X pins σ H s) : Inv (in1 X) pins σ H s := ⟨ok_in1 I.ok, I.os, I.bare, I.base, I.loc, I.cell, I.free, I.freeC, I.pin, I.hok, I.len⟩
theorem inv_out1 (I : Inv (in1 X) pins σ H s) : Inv X pins σ H s := ⟨ok_out1 I.ok, I.os, I.bare, I.base, I.loc, I.cell, I.free, I.freeC, I.pin, I.hok, I.len⟩
/-- a call of f with values ends in NotImplemented, and leaves what was tracked -/
def RnN (X : Cx) (f : Addr) (D : List V → Hp → Prop) : Prop :=
  ∀ (pins : List (Addr × Obj)) (σ : L2.St) (H : Hp) (s : Shared) (us : List Value) (vs : List V), Inv X pins σ H s → Vals vs us → D vs H → wpAny (model X.prog X.w) X.A (call (.ref f) us) (fun u s' => u = .notImplemented ∧ ∃ H', Inv X pins σ H' s' ∧ Same H H') X.xe s
/-- o != y, != made of the own == -/
theorem op_neC {C f : Addr} {sp : Sp} {E : XK} (hu : X.A.units + 1 < cLine) (hs : PySem.W.findIn X.K (.ref C) "__eq__" = some (some (.ref f))) (hn : PySem.W.findIn X.K (.ref C) "__ne__" = some (some (.builtin "object.__ne__")))
    (hm : PySem.W.mroIn X.K C (.type "object") = some true) (hf : PySem.W.isFn X.K (.ref f) = true) (R : Rn (in1 X) f sp [] E) : OpR X (compareOp .NotEq) (rNeC X.K C sp E) := by
  intro pins s σ H x y v u Q I rx ry h
  obtain ⟨a, dx, fs, t, rfl, ea, ty, hnf, h⟩ := h
  cases (show v = Value.ref a from rx)
  obtain ⟨mA, O, _⟩ := ins_get I.hok ea
  obtain ⟨od, J, _⟩ := O.look
  have KX := I.kIn
  have one : wpAny (model X.prog X.w) X.A (tryCompare (.ref a) "__ne__" u) (fun r s' => ∃ z, r = some z ∧ EP X pins σ Q z s') X.xe s := by
    unfold tryCompare
    refine wpAny_bind (ifBound_objNe KX J hn (ne_body hu KX J hm hs hf (thn (R pins σ H s _ [.ref a, u] [.ref a, y] (inv_in1 I) (.cons rfl (.cons ry .nil)) h) ?_)))
    intro z s' ⟨v', H', I', r', b, e, q'⟩
    subst e
    cases r'
    exact .inl ⟨b, rfl, wpAny_pure ⟨_, rfl, .bl (!b), H', inv_out1 I', rfl, q'⟩⟩
  show wpAny _ _ (richCompare .NotEq (.ref a) u) _ _ _
  unfold richCompare
  simp only [oneThing_ref]
  refine wpAny_holding (wpAny_bind (wpAny_cRoomFor (by omega) (wpAny_bind (J.type.here (wpAny_bind ((looks_ty I ry ty).here ?_))))))
  have go : ∀ c : Bool, c = false → wpAny (model X.prog X.w) X.A (if c = true then tryCompare u (cmpInfo .NotEq).2.2 (.ref a) else pure none) (fun r s' => r = none ∧ s' = s) X.xe s := by
    intro c e
    subst e
    exact wpAny_pure ⟨rfl, rfl⟩
  split
  · rename_i q
    have e : PySem.W.subIn X.K t (.ref C) = some false := by
      rcases Bool.or_eq_true_iff.mp hnf with e | e
      · rw [beq_iff_eq.mp e] at q
        simp at q
      · exact beq_iff_eq.mp e
    refine wpAny_bind ((PySem.W.looks_subIn KX e).here ?_)
    simp only [Bool.false_eq_true, if_false]
    refine wpAny_bind (wpAny_mono one (fun r s' z => ?_) fun _ _ e => e)
    obtain ⟨v', rfl, hq⟩ := z
    exact wpAny_pure hq
  · refine wpAny_bind (wpAny_pure ?_)
    simp only [Bool.false_eq_true, if_false]
    refine wpAny_bind (wpAny_mono one (fun r s' z => ?_) fun _ _ e => e)
    obtain ⟨v', rfl, hq⟩ := z
    exact wpAny_pure hq
end

/-! ### == and != against a value of another kind -/
/-- a value of a kind that is not the class's: no ref, a tuple, a list -/
inductive Fgn (H : Hp) : V → Prop where
  | non : Fgn H .non
  | bl (b : Bool) : Fgn H (.bl b)
  | int (i : Int) : Fgn H (.int i)
  | str (x : Str) : Fgn H (.str x)
  | tup {b : Addr} {xs : List V} (e : H b = some (.tup xs)) : Fgn H (.ref b)
  | lst {b : Addr} {xs : List V} (e : H b = some (.lst xs)) : Fgn H (.ref b)
structure FgnOk (K : PySem.W.Frag) (C : Addr) : Prop where
  tu : PySem.W.subIn K (.ref C) (.type "tuple") = some false
  li : PySem.W.subIn K (.ref C) (.type "list") = some false
theorem sub_built {K : PySem.W.Frag} {C : Addr} {T : String} {ms : List Value} (e : fastBuiltinMro T = some ms) (n : ms.contains (.ref C) = false) : PySem.W.subIn K (.type T) (.ref C) = some false := by
  show (fastBuiltinMro T).map (·.contains (.ref C)) = some false
  rw [e]
  exact congrArg some n
theorem mro_int : fastBuiltinMro "int" = some [.type "int", .type "object"] := by decide +kernel
theorem mro_bool : fastBuiltinMro "bool" = some [.type "bool", .type "int", .type "object"] := by decide +kernel
theorem mro_str : fastBuiltinMro "str" = some [.type "str", .type "object"] := by decide +kernel
theorem mro_none : fastBuiltinMro "NoneType" = some [.type "NoneType", .type "object"] := by decide +kernel
theorem mro_tuple : fastBuiltinMro "tuple" = some [.type "tuple", .type "object"] := by decide +kernel
theorem mro_list : fastBuiltinMro "list" = some [.type "list", .type "object"] := by decide +kernel
section
variable {X : Cx} {pins : List (Addr × Obj)} {σ : L2.St} {H : Hp} {s : Shared}
theorem Fgn.same {H H' : Hp} {y : V} (f : Fgn H y) (k : Same H H') : Fgn H' y := by
  cases f with
  | non => exact .non
  | bl b => exact .bl b
  | int i => exact .int i
  | str x => exact .str x
  | tup e => exact .tup (k _ _ e)
  | lst e => exact .lst (k _ _ e)
theorem Fgn.ty {K : PySem.W.Frag} {C : Addr} {y : V} (f : Fgn H y) : ∃ t, TyOf K H y t ∧ PySem.W.notFirst K C t = true ∧ (t == Value.ref C) = false ∧ PySem.W.subIn K t (.ref C) = some false := by
  have fin : ∀ {T : String} {ms : List Value}, fastBuiltinMro T = some ms → ms.contains (.ref C) = false → PySem.W.notFirst K C (.type T) = true ∧ (Value.type T == Value.ref C) = false ∧ PySem.W.subIn K (.type T) (.ref C) = some false := by
    intro T ms e n
    have h := sub_built (K := K) e n
    refine ⟨?_, rfl, h⟩
    unfold PySem.W.notFirst
    rw [h]
    simp
  cases f with
  | non => exact ⟨_, .non, fin mro_none rfl⟩
  | bl b => exact ⟨_, .bl b, fin mro_bool rfl⟩
  | int i => exact ⟨_, .int i, fin mro_int rfl⟩
  | str x => exact ⟨_, .str x, fin mro_str rfl⟩
  | tup e => exact ⟨_, .tup e, fin mro_tuple rfl⟩
  | lst e => exact ⟨_, .lst e, fin mro_list rfl⟩
theorem fgn_declines {C a dx : Addr} {fs : List (Str × V)} {y : V} {u : Value} {E : Value → Shared → Prop} {Q : Option Value → Shared → Prop} (O : FgnOk X.K C) (I : Inv X pins σ H s) (ea : H a = some (.ins C dx fs)) (f : Fgn H y) (ry : RelV y u) (q : Q none s) :
    wpAny (model X.prog X.w) X.A (tryCompare u "__eq__" (.ref a)) Q E s := by
  obtain ⟨mA, M, _⟩ := ins_get I.hok ea
  obtain ⟨od, J, _⟩ := M.look
  have hx : s.heap.get? a = some (PySem.W.instObj C dx) := J.1
  cases f with
  | non => cases (show u = Value.none from ry); exact none_declines q
  | bl b => cases (show u = Value.bool b from ry); exact bool_declines hx q
  | int i => obtain ⟨t, z⟩ := (show ∃ t, u = Value.int i t from ry); cases z; exact int_declines hx q
  | str x => obtain ⟨t, z⟩ := (show ∃ t, u = Value.str x t from ry); cases z; exact str_declines hx q
  | @tup b xs e =>
    cases (show u = Value.ref b from ry)
    have ok : ObjOk X.prog X.w H s.heap b (.tup xs) := I.hok b _ e
    obtain ⟨_, _, _, o, h1, h2, _⟩ := ok
    exact tuple_declines I.kIn J h1 h2 O.tu q
  | @lst b xs e =>
    cases (show u = Value.ref b from ry)
    have ok : ObjOk X.prog X.w H s.heap b (.lst xs) := I.hok b _ e
    obtain ⟨_, _, n, _, h1⟩ := ok
    exact list_declines I.kIn J h1 rfl O.li q
theorem fgn_same {C a dx : Addr} {fs : List (Str × V)} {y : V} {u : Value} {E : Value → Shared → Prop} {Q : Bool → Shared → Prop} (I : Inv X pins σ H s) (ea : H a = some (.ins C dx fs)) (f : Fgn H y) (ry : RelV y u) (q : Q false s) :
    wpAny (model X.prog X.w) X.A (isSame (.ref a) u) Q E s := by
  obtain ⟨mA, M, _⟩ := ins_get I.hok ea
  obtain ⟨od, J, _⟩ := M.look
  have hx : s.heap.get? a = some (PySem.W.instObj C dx) := J.1
  have nt : (PySem.W.instObj C dx).cls ≠ .type "tuple" := fun z => nomatch (show Value.ref C = Value.type "tuple" from z)
  cases f with
  | non => cases (show u = Value.none from ry); exact wpAny_isSame_plain rfl q
  | bl b => cases (show u = Value.bool b from ry); exact wpAny_isSame_plain rfl q
  | int i => obtain ⟨t, z⟩ := (show ∃ t, u = Value.int i t from ry); cases z; exact wpAny_isSame_plain rfl q
  | str x => obtain ⟨t, z⟩ := (show ∃ t, u = Value.str x t from ry); cases z; exact wpAny_isSame_plain rfl q
  | @tup b xs e =>
    cases (show u = Value.ref b from ry)
    have ok : ObjOk X.prog X.w H s.heap b (.tup xs) := I.hok b _ e
    obtain ⟨_, _, _, o, h1, h2, _⟩ := ok
    exact wpAny_isSame_ref_other (ne_of ea e (fun z => nomatch z)) hx h1 nt q
  | @lst b xs e =>
    cases (show u = Value.ref b from ry)
    have ok : ObjOk X.prog X.w H s.heap b (.lst xs) := I.hok b _ e
    obtain ⟨_, _, n, _, h1⟩ := ok
    exact wpAny_isSame_ref_other (ne_of ea e (fun z => nomatch z)) hx h1 nt q
/-- o == y, y of another kind: the own == declines -/
def rEqF (C : Addr) (D : List V → Hp → Prop) (k : Bool) : R2 := fun x y H Q => ∃ (a dx : Addr) (fs : List (Str × V)), x = .ref a ∧ H a = some (.ins C dx fs) ∧ Fgn H y ∧ D [x, y] H ∧ ∀ H', Same H H' → Q (.bl k) H'
theorem op_eqF {C f : Addr} {D : List V → Hp → Prop} (hu : X.A.units < cLine) (O : FgnOk X.K C) (hs : PySem.W.findIn X.K (.ref C) "__eq__" = some (some (.ref f))) (hf : PySem.W.isFn X.K (.ref f) = true) (R : RnN X f D) :
    OpR X (compareOp .Eq) (rEqF C D false) := by
  intro pins s σ H x y v u Q I rx ry h
  obtain ⟨a, dx, fs, rfl, ea, fg, hD, q⟩ := h
  cases (show v = Value.ref a from rx)
  obtain ⟨mA, M, _⟩ := ins_get I.hok ea
  obtain ⟨od, J, _⟩ := M.look
  have KX := I.kIn
  obtain ⟨t, ty, hnf, hne, hsub⟩ := fg.ty (K := X.K) (C := C)
  have one : wpAny (model X.prog X.w) X.A (tryCompare (.ref a) "__eq__" u) (fun r s' => r = none ∧ ∃ H', Inv X pins σ H' s' ∧ Same H H') X.xe s := by
    unfold tryCompare
    refine wpAny_bind (PySem.W.ifBound_K KX J hs hf (thn (R pins σ H s [.ref a, u] [.ref a, y] I (.cons rfl (.cons ry .nil)) hD) ?_))
    intro z s' ⟨e, rest⟩
    subst e
    exact wpAny_pure ⟨rfl, rest⟩
  show wpAny _ _ (richCompare .Eq (.ref a) u) _ _ _
  unfold richCompare
  simp only [oneThing_ref]
  refine wpAny_holding (wpAny_bind (wpAny_cRoomFor hu (wpAny_bind (J.type.here (wpAny_bind ((looks_ty I ry ty).here ?_))))))
  rw [if_pos (show (Value.ref C != t) = true by rw [bne, BEq.comm, hne] <;> rfl)]
  refine wpAny_bind ((PySem.W.looks_subIn KX hsub).here ?_)
  simp only [Bool.false_eq_true, if_false]
  refine wpAny_bind (wpAny_mono one (fun r s' z => ?_) fun _ _ e => e)
  obtain ⟨rfl, H', I', sm⟩ := z
  dsimp only
  rw [if_pos (show (!false) = true from rfl)]
  refine wpAny_bind (fgn_declines O I' (sm _ _ ea) (fg.same sm) ry ?_)
  dsimp only
  exact wpAny_bind (wpAny_rule (wpAny_bind (fgn_same I' (sm _ _ ea) (fg.same sm) ry (wpAny_pure ⟨.bl false, H', I', rfl, q H' sm⟩))))
end
end SP
/-! != against another kind -/
namespace SP
open PySem PySem.Spec PyProof.Rows L2
section
variable {prog : Program} {w : World} {A : Around} {E : Value → Shared → Prop} {s : Shared} {K : PySem.W.Frag} {x C dx : Addr} {ox : Obj} {od : Option Obj}
theorem int_declinesN {i : Int} {t : Tok} {Q : Option Value → Shared → Prop} (hx : s.heap.get? x = some (PySem.W.instObj C dx)) (q : Q none s) : wpAny (model prog w) A (tryCompare (.int i t) "__ne__" (.ref x)) Q E s := by
  refine wpAny_tryCompare_declines (T := "int") rfl F.slot_int_ne_refl (GQ.call_here F.slot_int_ne_refl rfl F.entry_int_ne (F.args_int_ne_2 _ _) ?_)
  wp_walk using asInt_inst hx
  exact ⟨rfl, q⟩
theorem bool_declinesN {b : Bool} {Q : Option Value → Shared → Prop} (hx : s.heap.get? x = some (PySem.W.instObj C dx)) (q : Q none s) : wpAny (model prog w) A (tryCompare (.bool b) "__ne__" (.ref x)) Q E s := by
  refine wpAny_tryCompare_declines (T := "bool") rfl F.slot_bool_ne_refl (GQ.call_here F.slot_bool_ne_refl rfl F.entry_int_ne (F.args_int_ne_2 _ _) ?_)
  wp_walk using asInt_inst hx
  exact ⟨rfl, q⟩
theorem str_declinesN {z : Str} {t : Tok} {Q : Option Value → Shared → Prop} (hx : s.heap.get? x = some (PySem.W.instObj C dx)) (q : Q none s) : wpAny (model prog w) A (tryCompare (.str z t) "__ne__" (.ref x)) Q E s := by
  refine wpAny_tryCompare_declines (T := "str") rfl F.slot_str_ne_refl (GQ.call_here F.slot_str_ne_refl rfl F.entry_str_ne (F.args_str_ne_2 _ _) ?_)
  show wpAny _ _ (asStr? (.ref x) >>= fun r => match r with | some o => PySem.ret (.bool (z.cps.toList != o.cps.toList)) | none => rule "str.__ne__.not-a-str" >>= fun _ => PySem.ret .notImplemented) _ _ _
  exact wpAny_bind (asStr_inst hx (wpAny_bind (wpAny_rule (wpAny_pure ⟨rfl, q⟩))))
theorem none_declinesN {Q : Option Value → Shared → Prop} (q : Q none s) : wpAny (model prog w) A (tryCompare .none "__ne__" (.ref x)) Q E s :=
  wpAny_tryCompare_declines (show s.TypeIs .none "NoneType" from rfl) F.slot_NoneType_ne_refl (call_gives F.slot_NoneType_ne_refl rfl F.entry_NoneType_ne (F.args_NoneType_ne_2 _ _) (SeqAt.NoneType___ne___none_ref_0 x) ⟨rfl, q⟩)
theorem tuple_declinesN {b : Addr} {ob : Obj} {Q : Option Value → Shared → Prop} (X : K.In s.heap) (I : PySem.W.InstAt s.heap x ox C od) (hb : s.heap.get? b = some ob) (hc : ob.cls = .type "tuple")
    (hs : PySem.W.subIn K (.ref C) (.type "tuple") = some false) (q : Q none s) : wpAny (model prog w) A (tryCompare (.ref b) "__ne__" (.ref x)) Q E s := by
  refine wpAny_tryCompare_declines (T := "tuple") ⟨ob, hb, hc⟩ F.slot_tuple_ne_refl (GQ.call_here F.slot_tuple_ne_refl ⟨ob, hb, hc⟩ F.entry_tuple_ne (F.args_tuple_ne_2 _ _) ?_)
  have no : PySem.W.Looks (model prog w) s.heap (isInstance (.ref x) (.type "tuple")) false := I.type.andThen (PySem.W.looks_subIn X hs)
  refine wpAny_bind (m := isInstance (.ref x) (.type "tuple")) (no.here ?_)
  exact wpAny_pure ⟨rfl, q⟩
theorem list_declinesN {b : Addr} {ob : Obj} {Q : Option Value → Shared → Prop} (X : K.In s.heap) (I : PySem.W.InstAt s.heap x ox C od) (hb : s.heap.get? b = some ob) (hc : ob.cls = .type "list")
    (hs : PySem.W.subIn K (.ref C) (.type "list") = some false) (q : Q none s) : wpAny (model prog w) A (tryCompare (.ref b) "__ne__" (.ref x)) Q E s := by
  refine wpAny_tryCompare_declines (T := "list") ⟨ob, hb, hc⟩ F.slot_list_ne_refl (GQ.call_here F.slot_list_ne_refl ⟨ob, hb, hc⟩ F.entry_list_ne (F.args_list_ne_2 _ _) ?_)
  have no : PySem.W.Looks (model prog w) s.heap (isInstance (.ref x) (.type "list")) false := I.type.andThen (PySem.W.looks_subIn X hs)
  refine wpAny_bind (m := isInstance (.ref x) (.type "list")) (no.here ?_)
  exact wpAny_pure ⟨rfl, q⟩
end
section
variable {X : Cx} {pins : List (Addr × Obj)} {σ : L2.St} {H : Hp} {s : Shared}
theorem fgn_declinesN {C a dx : Addr} {fs : List (Str × V)} {y : V} {u : Value} {E : Value → Shared → Prop} {Q : Option Value → Shared → Prop} (O : FgnOk X.K C) (I : Inv X pins σ H s) (ea : H a = some (.ins C dx fs)) (f : Fgn H y) (ry : RelV y u) (q : Q none s) :
    wpAny (model X.prog X.w) X.A (tryCompare u "__ne__" (.ref a)) Q E s := by
  obtain ⟨mA, M, _⟩ := ins_get I.hok ea
  obtain ⟨od, J, _⟩ := M.look
  have hx : s.heap.get? a = some (PySem.W.instObj C dx) := J.1
  cases f with
  | non => cases (show u = Value.none from ry); exact none_declinesN q
  | bl b => cases (show u = Value.bool b from ry); exact bool_declinesN hx q
  | int i => obtain ⟨t, z⟩ := (show ∃ t, u = Value.int i t from ry); cases z; exact int_declinesN hx q
  | str x => obtain ⟨t, z⟩ := (show ∃ t, u = Value.str x t from ry); cases z; exact str_declinesN hx q
  | @tup b xs e =>
    cases (show u = Value.ref b from ry)
    have ok : ObjOk X.prog X.w H s.heap b (.tup xs) := I.hok b _ e
    obtain ⟨_, _, _, o, h1, h2, _⟩ := ok
    exact tuple_declinesN I.kIn J h1 h2 O.tu q
  | @lst b xs e =>
    cases (show u = Value.ref b from ry)
    have ok : ObjOk X.prog X.w H s.heap b (.lst xs) := I.hok b _ e
    obtain ⟨_, _, n, _, h1⟩ := ok
    exact list_declinesN I.kIn J h1 rfl O.li q
theorem op_neF {C f : Addr} {D : List V → Hp → Prop} (hu : X.A.units + 1 < cLine) (O : FgnOk X.K C) (hs : PySem.W.findIn X.K (.ref C) "__eq__" = some (some (.ref f))) (hn : PySem.W.findIn X.K (.ref C) "__ne__" = some (some (.builtin "object.__ne__")))
    (hm : PySem.W.mroIn X.K C (.type "object") = some true) (hf : PySem.W.isFn X.K (.ref f) = true) (R : RnN (in1 X) f D) : OpR X (compareOp .NotEq) (rEqF C D true) := by
  intro pins s σ H x y v u Q I rx ry h
  obtain ⟨a, dx, fs, rfl, ea, fg, hD, q⟩ := h
  cases (show v = Value.ref a from rx)
  obtain ⟨mA, M, _⟩ := ins_get I.hok ea
  obtain ⟨od, J, _⟩ := M.look
  have KX := I.kIn
  obtain ⟨t, ty, hnf, hne, hsub⟩ := fg.ty (K := X.K) (C := C)
  have one : wpAny (model X.prog X.w) X.A (tryCompare (.ref a) "__ne__" u) (fun r s' => r = none ∧ ∃ H', Inv X pins σ H' s' ∧ Same H H') X.xe s := by
    unfold tryCompare
    refine wpAny_bind (ifBound_objNe KX J hn (ne_body hu KX J hm hs hf (thn (R pins σ H s [.ref a, u] [.ref a, y] (inv_in1 I) (.cons rfl (.cons ry .nil)) hD) ?_)))
    intro z s' ⟨e, H', I', sm⟩
    subst e
    exact .inr ⟨rfl, wpAny_pure ⟨rfl, H', inv_out1 I', sm⟩⟩
  show wpAny _ _ (richCompare .NotEq (.ref a) u) _ _ _
  unfold richCompare
  simp only [oneThing_ref]
  refine wpAny_holding (wpAny_bind (wpAny_cRoomFor (by omega) (wpAny_bind (J.type.here (wpAny_bind ((looks_ty I ry ty).here ?_))))))
  rw [if_pos (show (Value.ref C != t) = true by rw [bne, BEq.comm, hne] <;> rfl)]
  refine wpAny_bind ((PySem.W.looks_subIn KX hsub).here ?_)
  simp only [Bool.false_eq_true, if_false]
  refine wpAny_bind (wpAny_mono one (fun r s' z => ?_) fun _ _ e => e)
  obtain ⟨rfl, H', I', sm⟩ := z
  dsimp only
  rw [if_pos (show (!false) = true from rfl)]
  refine wpAny_bind (fgn_declinesN O I' (sm _ _ ea) (fg.same sm) ry ?_)
  dsimp only
  exact wpAny_bind (wpAny_rule (wpAny_bind (fgn_same I' (sm _ _ ea) (fg.same sm) ry (wpAny_pure ⟨.bl true, H', I', rfl, q H' sm⟩))))
end
end SP
/-! Plain mathematics: Euclid, the terms of a continued fraction and their order. -/
namespace M

/-- the loop of common_divisor -/
def eu (a b : Nat) : Nat := if h : b = 0 then a else eu b (a % b)
termination_by b
decreasing_by exact Nat.mod_lt _ (Nat.pos_of_ne_zero h)
theorem eu_zero (a : Nat) : eu a 0 = a := by rw [eu]; simp
theorem eu_step {a b : Nat} (h : b ≠ 0) : eu a b = eu b (a % b) := by rw [eu]; simp [h]
theorem eu_gcd (a b : Nat) : eu a b = Nat.gcd a b := by
  induction b using Nat.strongRecOn generalizing a with
  | _ b ih =>
    by_cases h : b = 0
    · subst h
      rw [eu_zero, Nat.gcd_zero_right]
    · rw [eu_step h, ih (a % b) (Nat.mod_lt _ (Nat.pos_of_ne_zero h)), Nat.gcd_comm a b, Nat.gcd_rec b a, Nat.gcd_comm]

/-- the tuple by which fractions are sorted; s: 1 or -1 -/
def plc (s t : Int) (b : Nat) : List Int := if h : b = 0 then [s] else 0 :: (s * (t / b)) :: plc (-s) b (t % b).toNat
termination_by b
decreasing_by
  have : (0 : Int) < b := by omega
  have h1 := Int.emod_lt_of_pos t this
  have h2 := Int.emod_nonneg t (show (b : Int) ≠ 0 by omega)
  omega
theorem plc_zero (s t : Int) : plc s t 0 = [s] := by rw [plc]; simp
theorem plc_step {s t : Int} {b : Nat} (h : b ≠ 0) : plc s t b = 0 :: (s * (t / b)) :: plc (-s) b (t % b).toNat := by rw [plc]; simp [h]

/-- the order of tuples of ints -/
def lt : List Int → List Int → Bool
  | [], [] => false
  | [], _ :: _ => true
  | _ :: _, [] => false
  | a :: r, b :: q => if a = b then lt r q else decide (a < b)

theorem mul_lt {a b c : Int} (h : a < b) (hc : 0 < c) : a * c < b * c := Int.mul_lt_mul_of_pos_right h hc

/-- what is compared of two fractions t1/b1, t2/b2 -/
theorem cross_step {t1 t2 q1 q2 r1 r2 b1 b2 : Int} (e1 : t1 = b1 * q1 + r1) (e2 : t2 = b2 * q2 + r2) : t1 * b2 - t2 * b1 = (q1 - q2) * (b1 * b2) + (r1 * b2 - r2 * b1) := by
  subst e1 e2
  simp only [Int.add_mul, Int.sub_mul]
  have h1 : b1 * q1 * b2 = q1 * (b1 * b2) := by
    rw [Int.mul_comm b1 q1, Int.mul_assoc]
  have h2 : b2 * q2 * b1 = q2 * (b1 * b2) := by
    rw [Int.mul_comm b2 q2, Int.mul_assoc, Int.mul_comm b2 b1]
  rw [h1, h2]
  omega
theorem cross_less {q1 q2 r1 r2 b1 b2 : Int} (hb1 : 0 < b1) (hb2 : 0 < b2) (h1 : 0 ≤ r1) (h1' : r1 < b1) (h2 : 0 ≤ r2) (h : q1 < q2) : (q1 - q2) * (b1 * b2) + (r1 * b2 - r2 * b1) < 0 := by
  have a1 : r1 * b2 < b1 * b2 := Int.mul_lt_mul_of_pos_right h1' hb2
  have a2 : 0 ≤ r2 * b1 := Int.mul_nonneg h2 (Int.le_of_lt hb1)
  have a3 : (q1 - q2) * (b1 * b2) ≤ (-1) * (b1 * b2) := Int.mul_le_mul_of_nonneg_right (by omega) (Int.le_of_lt (Int.mul_pos hb1 hb2))
  omega
theorem cross_more {q1 q2 r1 r2 b1 b2 : Int} (hb1 : 0 < b1) (hb2 : 0 < b2) (h1 : 0 ≤ r1) (h2 : 0 ≤ r2) (h2' : r2 < b2) (h : q2 < q1) : 0 < (q1 - q2) * (b1 * b2) + (r1 * b2 - r2 * b1) := by
  have a1 : r2 * b1 < b2 * b1 := Int.mul_lt_mul_of_pos_right h2' hb1
  have a2 : 0 ≤ r1 * b2 := Int.mul_nonneg h1 (Int.le_of_lt hb2)
  have a3 : 1 * (b1 * b2) ≤ (q1 - q2) * (b1 * b2) := Int.mul_le_mul_of_nonneg_right (by omega) (Int.le_of_lt (Int.mul_pos hb1 hb2))
  have a4 := Int.mul_comm b1 b2
  omega

theorem plc_order (b1 : Nat) : ∀ (b2 : Nat) (s t1 t2 : Int), (s = 1 ∨ s = -1) → (b1 = 0 → 0 < t1) → (b2 = 0 → 0 < t2) →
    (lt (plc s t1 b1) (plc s t2 b2) = decide (s * (t1 * b2 - t2 * b1) < 0)) ∧ (plc s t1 b1 = plc s t2 b2 ↔ t1 * b2 - t2 * b1 = 0) := by
  induction b1 using Nat.strongRecOn with
  | _ b1 ih =>
    intro b2 s t1 t2 hs z1 z2
    by_cases h1 : b1 = 0
    · subst h1
      have p1 := z1 rfl
      rw [plc_zero]
      by_cases h2 : b2 = 0
      · subst h2
        rw [plc_zero]
        refine ⟨?_, ?_⟩
        · simp [lt]
        · simp
      · rw [plc_step h2]
        have hb : (0 : Int) < b2 := by omega
        have hp : 0 < t1 * (b2 : Int) := Int.mul_pos p1 hb
        refine ⟨?_, ?_⟩
        · rcases hs with rfl | rfl
          · simp only [lt]
            rw [if_neg (by decide)]
            simp only [Int.mul_zero, Int.one_mul, Int.natCast_zero, Int.sub_zero]
            rw [decide_eq_false (by decide), decide_eq_false (by omega)]
          · simp only [lt]
            rw [if_neg (by decide)]
            simp only [Int.mul_zero, Int.natCast_zero, Int.sub_zero]
            rw [decide_eq_true (by decide), decide_eq_true (by omega)]
        · constructor
          · intro e
            injection e with e1 _
            rcases hs with rfl | rfl
            · exact absurd e1 (by decide)
            · exact absurd e1 (by decide)
          · intro e
            simp only [Int.mul_zero, Int.natCast_zero, Int.sub_zero] at e
            omega
    · have hb1 : (0 : Int) < b1 := by omega
      rw [plc_step h1]
      by_cases h2 : b2 = 0
      · subst h2
        have p2 := z2 rfl
        rw [plc_zero]
        have hp : 0 < t2 * (b1 : Int) := Int.mul_pos p2 hb1
        refine ⟨?_, ?_⟩
        · rcases hs with rfl | rfl
          · simp only [lt]
            rw [if_neg (by decide)]
            simp only [Int.mul_zero, Int.one_mul, Int.natCast_zero, Int.zero_sub]
            rw [decide_eq_true (by decide), decide_eq_true (by omega)]
          · simp only [lt]
            rw [if_neg (by decide)]
            simp only [Int.mul_zero, Int.natCast_zero, Int.zero_sub]
            rw [decide_eq_false (by decide), decide_eq_false (by omega)]
        · constructor
          · intro e
            injection e with e1 _
            rcases hs with rfl | rfl
            · exact absurd e1 (by decide)
            · exact absurd e1 (by decide)
          · intro e
            simp only [Int.mul_zero, Int.natCast_zero, Int.zero_sub] at e
            omega
      · have hb2 : (0 : Int) < b2 := by omega
        rw [plc_step h2]
        have r1n := Int.emod_nonneg t1 (show (b1 : Int) ≠ 0 by omega)
        have r1l := Int.emod_lt_of_pos t1 hb1
        have r2n := Int.emod_nonneg t2 (show (b2 : Int) ≠ 0 by omega)
        have r2l := Int.emod_lt_of_pos t2 hb2
        have e1 : t1 = b1 * (t1 / b1) + t1 % b1 := (Int.mul_ediv_add_emod t1 b1).symm
        have e2 : t2 = b2 * (t2 / b2) + t2 % b2 := (Int.mul_ediv_add_emod t2 b2).symm
        have cs := cross_step e1 e2
        have c1 : ((t1 % (b1 : Int)).toNat : Int) = t1 % b1 := Int.toNat_of_nonneg r1n
        have c2 : ((t2 % (b2 : Int)).toNat : Int) = t2 % b2 := Int.toNat_of_nonneg r2n
        have ihh := ih (t1 % (b1 : Int)).toNat (by omega) (t2 % (b2 : Int)).toNat (-s) b1 b2 (by omega) (fun _ => hb1) (fun _ => hb2)
        rw [c1, c2] at ihh
        obtain ⟨r1, r2⟩ := ihh
        have com1 := Int.mul_comm (b1 : Int) (t2 % b2)
        have com2 := Int.mul_comm (b2 : Int) (t1 % b1)
        generalize hq1 : t1 / (b1 : Int) = q1 at *
        generalize hq2 : t2 / (b2 : Int) = q2 at *
        have ltt : lt (0 :: (s * q1) :: plc (-s) b1 (t1 % (b1 : Int)).toNat) (0 :: (s * q2) :: plc (-s) b2 (t2 % (b2 : Int)).toNat)
            = if s * q1 = s * q2 then lt (plc (-s) b1 (t1 % (b1 : Int)).toNat) (plc (-s) b2 (t2 % (b2 : Int)).toNat) else decide (s * q1 < s * q2) := by
          simp only [lt, if_true]
        rw [ltt]
        by_cases hq : q1 = q2
        · subst hq
          rw [if_pos rfl, r1]
          have z : (q1 - q1) * ((b1 : Int) * b2) = 0 := by rw [Int.sub_self, Int.zero_mul]
          rw [z] at cs
          refine ⟨?_, ?_⟩
          · rcases hs with rfl | rfl
            · congr 1
              apply propext
              constructor <;> intro h <;> omega
            · congr 1
              apply propext
              constructor <;> intro h <;> omega
          · constructor
            · intro e
              injection e with _ e
              injection e with _ e
              have := r2.mp e
              omega
            · intro e
              have : (b1 : Int) * (t2 % b2) - b2 * (t1 % b1) = 0 := by omega
              rw [r2.mpr this]
        · have hsq : ¬ s * q1 = s * q2 := by
            rcases hs with rfl | rfl <;> omega
          rw [if_neg hsq]
          rcases Int.lt_or_gt_of_ne hq with hl | hl
          · have cl := cross_less hb1 hb2 r1n r1l r2n hl
            refine ⟨?_, ?_⟩
            · rcases hs with rfl | rfl
              · congr 1
                apply propext
                constructor <;> intro h <;> omega
              · congr 1
                apply propext
                constructor <;> intro h <;> omega
            · constructor
              · intro e
                injection e with _ e
                injection e with e _
                exact absurd e hsq
              · intro e
                omega
          · have cl := cross_more hb1 hb2 r1n r2n r2l hl
            refine ⟨?_, ?_⟩
            · rcases hs with rfl | rfl
              · congr 1
                apply propext
                constructor <;> intro h <;> omega
              · congr 1
                apply propext
                constructor <;> intro h <;> omega
            · constructor
              · intro e
                injection e with _ e
                injection e with e _
                exact absurd e hsq
              · intro e
                omega
/-- a step of Euclid halves the product -/
theorem step_bound {t m j B : Nat} (hm : 0 < m) (h : m < t) (hj : 1 ≤ j) (hp : t * m * 2 ^ (j - 1) < 2 ^ B) : m * (t % m) * 2 ^ j < 2 ^ B ∧ j ≤ B := by
  have h1 : t % m < m := Nat.mod_lt _ hm
  have h2 : t % m + m ≤ t := by
    have e := Nat.mod_add_div t m
    have d : 1 ≤ t / m := (Nat.one_le_div_iff hm).mpr (Nat.le_of_lt h)
    have : m * 1 ≤ m * (t / m) := Nat.mul_le_mul_left m d
    omega
  have h3 : t % m * 2 ≤ t := by omega
  have e : 2 ^ j = 2 * 2 ^ (j - 1) := by
    have : j = (j - 1) + 1 := by omega
    rw [this, Nat.pow_succ, Nat.mul_comm]
    simp
  refine ⟨?_, ?_⟩
  · have : m * (t % m) * 2 ^ j ≤ t * m * 2 ^ (j - 1) := by
      rw [e]
      have r : m * (t % m) * (2 * 2 ^ (j - 1)) = (t % m * 2) * m * 2 ^ (j - 1) := by
        rw [← Nat.mul_assoc, Nat.mul_comm m (t % m), Nat.mul_assoc (t % m) m 2, Nat.mul_comm m 2, ← Nat.mul_assoc]
      rw [r]
      exact Nat.mul_le_mul_right _ (Nat.mul_le_mul_right _ h3)
    omega
  · have q : 1 * 2 ^ (j - 1) ≤ t * m * 2 ^ (j - 1) := Nat.mul_le_mul_right _ (Nat.mul_pos (by omega) hm)
    have : 2 ^ (j - 1) < 2 ^ B := by omega
    have := (Nat.pow_lt_pow_iff_right (by decide : 1 < 2)).mp this
    omega
/-! ### a fraction near another one: Euclid with the factors -/
structure NearI (tp bt old new was here : Int) : Prop where
  e1 : ∃ k, new * tp - here = bt * k
  e2 : ∃ k, old * tp - was = bt * k
  g : Int.gcd was here = 1
  h0 : 0 ≤ here
  hw : here < was
  w1 : 1 < was
  wb : was ≤ bt
  sm : (old.natAbs : Int) * here + (new.natAbs : Int) * was ≤ bt
theorem NearI.start {tp bt : Int} (hb : 1 < bt) (hg : Int.gcd tp bt = 1) : NearI tp bt 0 1 bt (tp % bt) := by
  have r0 := Int.emod_nonneg tp (show bt ≠ 0 by omega)
  have r1 := Int.emod_lt_of_pos tp (show 0 < bt by omega)
  refine ⟨⟨tp / bt, ?_⟩, ⟨-1, ?_⟩, ?_, r0, r1, hb, Int.le_refl _, ?_⟩
  · have := Int.mul_ediv_add_emod tp bt
    omega
  · rw [Int.zero_mul, Int.mul_neg, Int.mul_one]
    omega
  · rw [Int.gcd_comm, Int.emod_def, Int.gcd_comm]
    have : tp - bt * (tp / bt) = tp + bt * (-(tp / bt)) := by rw [Int.mul_neg]; omega
    rw [this, Int.gcd_comm, Int.gcd_add_mul_left_left]
    exact hg
  · simp
theorem NearI.step {tp bt old new was here : Int} (I : NearI tp bt old new was here) (h : 1 < here) : NearI tp bt new (old - was / here * new) here (was - was / here * here) := by
  obtain ⟨⟨k1, e1⟩, ⟨k2, e2⟩, g, h0, hw, w1, wb, sm⟩ := I
  have hr : was - was / here * here = was % here := by
    have := Int.mul_ediv_add_emod was here
    rw [Int.mul_comm (was / here) here]
    omega
  have r0 := Int.emod_nonneg was (show here ≠ 0 by omega)
  have r1 := Int.emod_lt_of_pos was (show 0 < here by omega)
  have q0 : 0 ≤ was / here := Int.ediv_nonneg (by omega) (by omega)
  refine ⟨⟨k2 - was / here * k1, ?_⟩, ⟨k1, e1⟩, ?_, by omega, by omega, h, by omega, ?_⟩
  · have a1 : (old - was / here * new) * tp = old * tp - was / here * (new * tp) := by rw [Int.sub_mul, Int.mul_assoc]
    have a2 : bt * (k2 - was / here * k1) = bt * k2 - was / here * (bt * k1) := by
      rw [Int.mul_sub, ← Int.mul_assoc, ← Int.mul_assoc, Int.mul_comm bt (was / here)]
    rw [a1, a2, ← e1, ← e2, Int.mul_sub]
    omega
  · rw [hr, Int.emod_def]
    have : was - here * (was / here) = was + here * (-(was / here)) := by rw [Int.mul_neg]; omega
    rw [this, Int.gcd_comm, Int.gcd_add_mul_left_left]
    exact g
  · have b1 : ((old - was / here * new).natAbs : Int) ≤ old.natAbs + was / here * new.natAbs := by
      have c1 : (old - was / here * new).natAbs ≤ old.natAbs + (was / here * new).natAbs := by omega
      have c2 : ((was / here * new).natAbs : Int) = was / here * new.natAbs := by
        rw [Int.natAbs_mul, Int.natCast_mul, Int.natAbs_of_nonneg q0]
      omega
    have b2 : ((old - was / here * new).natAbs : Int) * here ≤ (old.natAbs + was / here * new.natAbs) * here := Int.mul_le_mul_of_nonneg_right b1 (by omega)
    have b3 : (new.natAbs : Int) * (was - was / here * here) = new.natAbs * was - was / here * new.natAbs * here := by
      rw [Int.mul_sub, ← Int.mul_assoc, Int.mul_comm (new.natAbs : Int) (was / here)]
    rw [Int.add_mul] at b2
    rw [b3]
    omega
theorem NearI.small {tp bt old new was here : Int} (I : NearI tp bt old new was here) : new.natAbs ≤ bt.natAbs ∧ old.natAbs * here.natAbs ≤ bt.natAbs := by
  obtain ⟨_, _, _, h0, hw, w1, wb, sm⟩ := I
  have a1 : 0 ≤ (old.natAbs : Int) * here := Int.mul_nonneg (by omega) h0
  have a2 : (new.natAbs : Int) * 1 ≤ new.natAbs * was := Int.mul_le_mul_of_nonneg_left (by omega) (by omega)
  have a3 : 0 ≤ (new.natAbs : Int) * was := Int.mul_nonneg (by omega) (by omega)
  refine ⟨by omega, ?_⟩
  have : ((old.natAbs * here.natAbs : Nat) : Int) = (old.natAbs : Int) * here := by
    rw [Int.natCast_mul, Int.natAbs_of_nonneg h0]
  omega
/-- at the loop's end -/
theorem NearI.done {tp bt old new was here s : Int} (I : NearI tp bt old new was here) (h : ¬ 1 < here) (hs : s = 1 ∨ s = -1) : (new * s) % bt ≠ 0 := by
  obtain ⟨⟨k1, e1⟩, _, g, h0, hw, w1, wb, sm⟩ := I
  have one : here = 1 := by
    rcases Int.lt_or_le 0 here with z | z
    · omega
    · have : here = 0 := by omega
      subst this
      rw [Int.gcd_zero_right] at g
      omega
  subst one
  intro z
  obtain ⟨c, hc⟩ := Int.dvd_of_emod_eq_zero z
  have d : bt ∣ new := by
    rcases hs with rfl | rfl
    · exact ⟨c, by omega⟩
    · exact ⟨-c, by rw [Int.mul_neg]; omega⟩
  obtain ⟨c, hc⟩ := d
  have : bt * (c * tp - k1) = 1 := by
    rw [Int.mul_sub, ← Int.mul_assoc, ← hc]
    omega
  have hd : bt ∣ 1 := ⟨_, this.symm⟩
  have := Int.le_of_dvd (by decide) hd
  omega
end M
/-! Tuples of ints compared; great divisors of any sign. -/
namespace SP
open PySem PySem.Spec PyProof.Rows L2
/-! ### lexAt as the order of lists -/
theorem lexAt_shift {e r : Nat → Bool} {z : Bool} : ∀ (k i : Nat), Ob.lexAt e r z (i + 1) k = Ob.lexAt (fun j => e (j + 1)) (fun j => r (j + 1)) z i k
  | 0, i => rfl
  | k + 1, i => by
    rw [Ob.lexAt_succ, Ob.lexAt_succ, lexAt_shift k (i + 1)]
theorem lex_gen {rel : Int → Int → Bool} {z : Nat → Nat → Bool} {F : List Int → List Int → Bool} (h0 : ∀ ns, F [] ns = z 0 ns.length) (h1 : ∀ ns, F ns [] = z ns.length 0) (hz : ∀ i j, z (i + 1) (j + 1) = z i j)
    (hc : ∀ a r b q, F (a :: r) (b :: q) = if a = b then F r q else rel a b) : ∀ ns ms : List Int,
    Ob.lexAt (fun j => decide (ns.getD j 0 = ms.getD j 0)) (fun j => rel (ns.getD j 0) (ms.getD j 0)) (z ns.length ms.length) 0 (min ns.length ms.length) = F ns ms
  | [], ms => by
    rw [h0]
    show Ob.lexAt _ _ _ 0 (min 0 ms.length) = _
    rw [Nat.zero_min, Ob.lexAt_zero] <;> rfl
  | a :: r, [] => by
    rw [h1]
    show Ob.lexAt _ _ _ 0 (min (a :: r).length 0) = _
    rw [Nat.min_zero, Ob.lexAt_zero] <;> rfl
  | a :: r, b :: q => by
    have ih := lex_gen h0 h1 hz hc r q
    have e : min (a :: r).length (b :: q).length = min r.length q.length + 1 := by
      show min (r.length + 1) (q.length + 1) = _
      omega
    rw [e, Ob.lexAt_succ, lexAt_shift, hc]
    have e2 : z (a :: r).length (b :: q).length = z r.length q.length := hz _ _
    rw [e2]
    by_cases h : a = b
    · have d : decide ((a :: r).getD 0 0 = (b :: q).getD 0 0) = true := by simpa using h
      rw [if_pos d, if_pos h, ← ih] <;> rfl
    · have d : ¬ decide ((a :: r).getD 0 0 = (b :: q).getD 0 0) = true := by simpa using h
      rw [if_neg d, if_neg h] <;> rfl
theorem lt_nil_l (ns : List Int) : M.lt [] ns = decide (0 < ns.length) := by cases ns <;> rfl
theorem lt_nil_r (ns : List Int) : M.lt ns [] = decide (ns.length < 0) := by cases ns <;> simp [M.lt]
theorem lt_cons (a : Int) (r : List Int) (b : Int) (q : List Int) : M.lt (a :: r) (b :: q) = if a = b then M.lt r q else decide (a < b) := rfl
theorem lex_lt (ns ms : List Int) : Ob.lexAt (fun j => decide (ns.getD j 0 = ms.getD j 0)) (fun j => decide (ns.getD j 0 < ms.getD j 0)) (decide (ns.length < ms.length)) 0 (min ns.length ms.length) = M.lt ns ms :=
  lex_gen (rel := fun a b => decide (a < b)) (z := fun i j => decide (i < j)) (F := M.lt) lt_nil_l lt_nil_r (fun i j => by simp) lt_cons ns ms
theorem lex_gt (ns ms : List Int) : Ob.lexAt (fun j => decide (ns.getD j 0 = ms.getD j 0)) (fun j => decide (ms.getD j 0 < ns.getD j 0)) (decide (ns.length > ms.length)) 0 (min ns.length ms.length) = M.lt ms ns :=
  lex_gen (rel := fun a b => decide (b < a)) (z := fun i j => decide (i > j)) (F := fun a b => M.lt b a) (fun ns => by rw [lt_nil_r]) (fun ns => by rw [lt_nil_l]) (fun i j => by simp)
    (fun a r b q => by rw [lt_cons]; by_cases h : a = b <;> simp [h, eq_comm]) ns ms
theorem lex_le (ns ms : List Int) : Ob.lexAt (fun j => decide (ns.getD j 0 = ms.getD j 0)) (fun j => decide (ns.getD j 0 ≤ ms.getD j 0)) (decide (ns.length ≤ ms.length)) 0 (min ns.length ms.length) = !M.lt ms ns :=
  lex_gen (rel := fun a b => decide (a ≤ b)) (z := fun i j => decide (i ≤ j)) (F := fun a b => !M.lt b a) (fun ns => by rw [lt_nil_r]; simp) (fun ns => by rw [lt_nil_l]; cases ns <;> simp) (fun i j => by simp)
    (fun a r b q => by
      rw [lt_cons]
      by_cases h : a = b
      · simp [h]
      · have h' : ¬ b = a := fun e => h e.symm
        rw [if_neg h, if_neg h', ← decide_not]
        congr 1
        apply propext
        constructor <;> intro k <;> omega) ns ms
theorem lex_ge (ns ms : List Int) : Ob.lexAt (fun j => decide (ns.getD j 0 = ms.getD j 0)) (fun j => decide (ms.getD j 0 ≤ ns.getD j 0)) (decide (ns.length ≥ ms.length)) 0 (min ns.length ms.length) = !M.lt ns ms :=
  lex_gen (rel := fun a b => decide (b ≤ a)) (z := fun i j => decide (i ≥ j)) (F := fun a b => !M.lt a b) (fun ns => by rw [lt_nil_l]; cases ns <;> simp) (fun ns => by rw [lt_nil_r]; simp) (fun i j => by simp)
    (fun a r b q => by
      rw [lt_cons]
      by_cases h : a = b
      · simp [h]
      · rw [if_neg h, if_neg h, ← decide_not]
        congr 1
        apply propext
        constructor <;> intro k <;> omega) ns ms
def rOrd (K : PySem.W.Frag) (F : List Int → List Int → Bool) : R2 := fun x y H Q => ∃ (a b : Addr) (ns ms : List Int), x = .ref a ∧ y = .ref b ∧ SqT K H a (ns.map V.int) ∧ SqT K H b (ms.map V.int) ∧ Q (.bl (F ns ms)) H
theorem op_ord {X : Cx} {op : CmpOp} {rel : Int → Int → Bool} {z : Nat → Nat → Bool} {F : List Int → List Int → Bool} (hop : ∀ a b, compareOp op a b = richCompare op a b) (hu : X.A.units < cLine)
    (T : ∀ {A : Around} {s : Shared} {l b : Addr} {items items2 : Array Value} {e r : Nat → Bool}, s.heap.IsTuple l items → s.heap.IsTuple b items2 → A.units < cLine → (∀ j (h1 : j < items.size) (h2 : j < items2.size), SeqAt.EqAt A.in1 s items[j] items2[j] (e j)) →
      (∀ j (h1 : j < items.size) (h2 : j < items2.size), e j = false → Ob.RcOp op A.in1 s items[j] items2[j] (r j)) → Ob.RcOp op A s (.ref l) (.ref b) (Ob.lexAt e r (z items.size items2.size) 0 (min items.size items2.size)))
    (N : ∀ {A : Around} {s : Shared} (a b : Int) (t u : Tok), Ob.RcOp op A s (.int a t) (.int b u) (rel a b))
    (L : ∀ ns ms : List Int, Ob.lexAt (fun j => decide (ns.getD j 0 = ms.getD j 0)) (fun j => rel (ns.getD j 0) (ms.getD j 0)) (z ns.length ms.length) 0 (min ns.length ms.length) = F ns ms) : OpR X (compareOp op) (rOrd X.K F) := by
  intro pins s σ H x y v u Q I rx ry h
  obtain ⟨a, b, ns, ms, rfl, rfl, ha, hb, q⟩ := h
  cases (show v = Value.ref a from rx)
  cases (show u = Value.ref b from ry)
  obtain ⟨its, r1, p1, _⟩ := I.tuple ha
  obtain ⟨its2, r2, p2, _⟩ := I.tuple hb
  have i1 : IntsAre its ns := Vals.ints r1
  have i2 : IntsAre its2 ms := Vals.ints r2
  have e1 : its.toArray.size = ns.length := by rw [List.size_toArray]; exact i1.length
  have e2 : its2.toArray.size = ms.length := by rw [List.size_toArray]; exact i2.length
  have R := T (A := X.A) (s := s) (e := fun j => decide (ns.getD j 0 = ms.getD j 0)) (r := fun j => rel (ns.getD j 0) (ms.getD j 0)) p1 p2 hu
    (fun j h1 h2 => by
      obtain ⟨t, et⟩ := PyProof.Rows.IntsAre.int_at i1 j its.toArray[j] (by simp at h1; simp [h1])
      obtain ⟨t', et'⟩ := PyProof.Rows.IntsAre.int_at i2 j its2.toArray[j] (by simp at h2; simp [h2])
      rw [et, et', ← Bool.beq_eq_decide_eq]
      exact SeqAt.EqAt.int_int _ _ _ _)
    (fun j h1 h2 _ => by
      obtain ⟨t, et⟩ := PyProof.Rows.IntsAre.int_at i1 j its.toArray[j] (by simp at h1; simp [h1])
      obtain ⟨t', et'⟩ := PyProof.Rows.IntsAre.int_at i2 j its2.toArray[j] (by simp at h2; simp [h2])
      rw [et, et']
      exact N _ _ _ _)
  rw [e1, e2, L] at R
  rw [hop]
  exact R _ _ _ _ ⟨.bl _, H, I, rfl, q⟩
section
variable {X : Cx}
theorem op_ltI (hu : X.A.units < cLine) : OpR X (compareOp .Lt) (rOrd X.K M.lt) := op_ord (z := fun i j => decide (i < j)) (fun _ _ => rfl) hu Ob.RcOp.tuples_lt Ob.RcOp.lt_int lex_lt
theorem op_gtI (hu : X.A.units < cLine) : OpR X (compareOp .Gt) (rOrd X.K fun a b => M.lt b a) := op_ord (z := fun i j => decide (i > j)) (fun _ _ => rfl) hu Ob.RcOp.tuples_gt Ob.RcOp.gt_int lex_gt
theorem op_leI (hu : X.A.units < cLine) : OpR X (compareOp .LtE) (rOrd X.K fun a b => !M.lt b a) := op_ord (z := fun i j => decide (i ≤ j)) (fun _ _ => rfl) hu Ob.RcOp.tuples_le Ob.RcOp.le_int lex_le
theorem op_geI (hu : X.A.units < cLine) : OpR X (compareOp .GtE) (rOrd X.K fun a b => !M.lt a b) := op_ord (z := fun i j => decide (i ≥ j)) (fun _ _ => rfl) hu Ob.RcOp.tuples_ge Ob.RcOp.ge_int lex_ge
end
/-! ### == of tuples of ints -/
theorem eqv_ints : ∀ ns ms : List Int, PyData.eqvAll (ns.map PyData.int) (ms.map PyData.int) = decide (ns = ms)
  | [], [] => rfl
  | [], b :: q => rfl
  | a :: r, [] => rfl
  | a :: r, b :: q => by
    show (a == b && PyData.eqvAll (r.map PyData.int) (q.map PyData.int)) = _
    rw [eqv_ints r q]
    by_cases h : a = b <;> simp [h]
theorem dp_ints {K : PySem.W.Frag} {H : Hp} : ∀ ns : List Int, DpAll K H (ns.map V.int) (ns.map PyData.int)
  | [] => .nil
  | a :: r => .cons (.int a) (dp_ints r)
theorem can_ints : ∀ ns : List Int, PyData.canLayAll0 (ns.map PyData.int) = true
  | [] => by simp [PyData.canLayAll0]
  | a :: r => by
    show (PyData.canLay0 (.int a) && PyData.canLayAll0 (r.map PyData.int)) = true
    rw [can_ints r]
    simp [PyData.canLay0]
theorem depth_ints : ∀ ns : List Int, PyData.depthAll (ns.map PyData.int) = 0
  | [] => by simp [PyData.depthAll]
  | a :: r => by
    show max (PyData.depth (.int a)) (PyData.depthAll (r.map PyData.int)) = 0
    rw [depth_ints r]
    simp [PyData.depth]
theorem shaped_ints (ns : List Int) : SeqAt.shaped (.tuple (ns.map PyData.int)) = true := by
  have e1 : PyData.canLay0 (.tuple (ns.map PyData.int)) = true := by
    show PyData.canLayAll0 _ = true
    exact can_ints ns
  have e2 : PyData.depth (.tuple (ns.map PyData.int)) = 1 := by
    show PyData.depthAll _ + 1 = 1
    rw [depth_ints]
  unfold SeqAt.shaped
  rw [e1, e2]
  rfl
def rEqI (K : PySem.W.Frag) : R2 := fun x y H Q => ∃ (a b : Addr) (ns ms : List Int), x = .ref a ∧ y = .ref b ∧ SqT K H a (ns.map V.int) ∧ SqT K H b (ms.map V.int) ∧ Q (.bl (decide (ns = ms))) H
theorem op_eqI {X : Cx} (hu : X.A.units + 64 < cLine) : OpR X (compareOp .Eq) (rEqI X.K) := by
  intro pins s σ H x y v u Q I rx ry h
  obtain ⟨a, b, ns, ms, rfl, rfl, ha, hb, q⟩ := h
  refine op_eqD hu pins s σ H _ _ v u Q I rx ry ⟨.tuple (ns.map PyData.int), .tuple (ms.map PyData.int), .tup ha (dp_ints ns), .tup hb (dp_ints ms), shaped_ints ns, shaped_ints ms, ?_⟩
  have e : PyData.eqv (.tuple (ns.map PyData.int)) (.tuple (ms.map PyData.int)) = decide (ns = ms) := eqv_ints ns ms
  rw [e]
  exact q
/-! ### floor division by a great divisor of any sign -/
def CDivA (i j : Int) : Prop := j ≠ 0 ∧ j.natAbs.log2 < 9000
theorem op_fdivA {X : Cx} : OpR X (binaryOp .FloorDiv) (rI CDivA fun i j => .int (i.fdiv j)) := opI fun i j _ _ _ _ _ hc q => floordiv_int hc.1 q (.inl (PyProof.noPylong_of_log2 hc.2))
end SP
/-! Defs of the module by their names; heaps that keep all but one object. -/
namespace SP
open PySem PySem.Spec PyProof.Rows L2
section
variable {P : Program} {w : World} {K : PySem.W.Frag} {mg : Str → Option Value} {base : Heap}
/-- the module's name x holds a def that keeps the promise sp -/
structure DefG (P : Program) (w : World) (K : PySem.W.Frag) (mg : Str → Option Value) (base : Heap) (k : Nat) (x : Str) (ps : List Str) (sp : Sp) : Prop where
  ex : ∃ (f : Addr) (fd : FuncData), mg x = some (.ref f) ∧ PySem.W.keepIn K (.ref f) = true ∧ FnG P w K mg base CX0 k f fd ps sp ∧ Binds K fd ps []
theorem okG0 {x qual : Str} {st : Stmt} {f : Addr} {fd : FuncData} {N ps : List Str} {k : Nat} {sp : Sp} (F : Fun K x qual st f fd) (S : FnScope N ps (defScope st)) (len : ∀ vs H Q E, sp vs H Q E → vs.length = ps.length)
    (hbody : ∀ (cdv : Value) (A : Around) (out : List Env) (s : Shared) (H : Hp) (vs : List V) (Q : VK) (E : XK), A.guards = some [] → Room k (A.deeper (envOfC qual (defScope st) s.heap.objs.size f cdv)) → sp vs H Q E →
      ∃ t, PSs (cxOf CX0 P w K mg base N qual (defScope st) f cdv A out s H E).nox (defBody st) t ∧ t { nx := fun _ H' => Q .non H', rt := Q } (start N vs) H) : FnG P w K mg base CX0 (k + 1) f fd ps sp :=
  okG F S len fun cdv A out s H vs Q E gd hr h => let ⟨t, a, b⟩ := hbody cdv A out s H vs Q E gd hr h; ⟨t, a.nox, b⟩
/-- a def of the module: where it stands, its function object -/
structure Top (K : PySem.W.Frag) (mg : Str → Option Value) (x : Str) (st : Stmt) (ps : List Str) : Prop where
  ex : ∃ (f : Addr) (fd : FuncData), mg x = some (.ref f) ∧ Fun K x x st f fd ∧ Binds K fd ps []
theorem Top.ok {x : Str} {st : Stmt} {N ps : List Str} {k : Nat} {sp : Sp} (T : Top K mg x st ps) (S : FnScope N ps (defScope st)) (len : ∀ vs H Q E, sp vs H Q E → vs.length = ps.length)
    (hbody : ∀ (f : Addr) (cdv : Value) (A : Around) (out : List Env) (s : Shared) (H : Hp) (vs : List V) (Q : VK) (E : XK), A.guards = some [] → Room k (A.deeper (envOfC x (defScope st) s.heap.objs.size f cdv)) → sp vs H Q E →
      ∃ t, PSs (cxOf CX0 P w K mg base N x (defScope st) f cdv A out s H E).nox (defBody st) t ∧ t { nx := fun _ H' => Q .non H', rt := Q } (start N vs) H) : DefG P w K mg base (k + 1) x ps sp := by
  obtain ⟨f, fd, hm, F, hb⟩ := T.ex
  exact ⟨f, fd, hm, F.kp, okG0 F S len (hbody f), hb⟩
/-- the same, whatever runs around -/
structure DefO (P : Program) (w : World) (K : PySem.W.Frag) (mg : Str → Option Value) (base : Heap) (k : Nat) (x : Str) (ps : List Str) (sp : Sp) : Prop where
  ex : ∃ (f : Addr) (fd : FuncData), mg x = some (.ref f) ∧ PySem.W.keepIn K (.ref f) = true ∧ FnOk P w K mg base CX0 k f fd ps sp ∧ Binds K fd ps []
theorem DefO.g {k : Nat} {x : Str} {ps : List Str} {sp : Sp} (D : DefO P w K mg base k x ps sp) : DefG P w K mg base k x ps sp := let ⟨f, fd, a, b, F, c⟩ := D.ex; ⟨f, fd, a, b, .of F, c⟩
theorem Top.okO {x : Str} {st : Stmt} {N ps : List Str} {k : Nat} {sp : Sp} (T : Top K mg x st ps) (S : FnScope N ps (defScope st)) (len : ∀ vs H Q E, sp vs H Q E → vs.length = ps.length)
    (hbody : ∀ (f : Addr) (cdv : Value) (A : Around) (out : List Env) (s : Shared) (H : Hp) (vs : List V) (Q : VK) (E : XK), Room k (A.deeper (envOfC x (defScope st) s.heap.objs.size f cdv)) → sp vs H Q E →
      ∃ t, PSs (cxOf CX0 P w K mg base N x (defScope st) f cdv A out s H E).nox (defBody st) t ∧ t { nx := fun _ H' => Q .non H', rt := Q } (start N vs) H) : DefO P w K mg base (k + 1) x ps sp := by
  obtain ⟨f, fd, hm, F, hb⟩ := T.ex
  exact ⟨f, fd, hm, F.kp, F.ok S len (hbody f), hb⟩
end
section
variable {X : Cx} {k : Nat} {x : Str} {ps : List Str} {sp : Sp} {e : Expr} {es : List Expr} {t : TA} {p pos : Pos}
theorem pe_callD (D : DefG X.prog X.w X.K X.mg X.base k x ps sp) (gd : X.A.guards = some []) (hr : Room k X.A) (ha : PA X (e :: es) t) (hg : Gl X x := by rfl) (hdb : (x == ("__debug__" : Str)) = false := by decide)
    (hst : starEach (e :: es) X.env = (false, eval e X.env) :: starEach es X.env := by rfl) (hpl : (backTo pos (starEach es X.env)).any (·.1) = false := by rfl) : PE X (.Call (.Name x p) (e :: es) [] pos) (tCall sp [] E0 t) := by
  obtain ⟨f, fd, hm, hk, F, hb⟩ := D.ex
  exact pe_callC (rn_g F gd hr hb .nil pass0) hm hk ha hg hdb hst hpl
theorem pe_callD0 (D : DefG X.prog X.w X.K X.mg X.base k x ps sp) (gd : X.A.guards = some []) (hr : Room k X.A) (hg : Gl X x := by rfl) (hdb : (x == ("__debug__" : Str)) = false := by decide) : PE X (.Call (.Name x p) [] [] pos) (tCall sp [] E0 tNil) := by
  obtain ⟨f, fd, hm, hk, F, hb⟩ := D.ex
  exact pe_callC0 (rn_g F gd hr hb .nil pass0) hm hk hg hdb
theorem pe_callO (D : DefO X.prog X.w X.K X.mg X.base k x ps sp) (hr : Room k X.A) (ha : PA X (e :: es) t) (hg : Gl X x := by rfl) (hdb : (x == ("__debug__" : Str)) = false := by decide)
    (hst : starEach (e :: es) X.env = (false, eval e X.env) :: starEach es X.env := by rfl) (hpl : (backTo pos (starEach es X.env)).any (·.1) = false := by rfl) : PE X (.Call (.Name x p) (e :: es) [] pos) (tCall sp [] E0 t) := by
  obtain ⟨f, fd, hm, hk, F, hb⟩ := D.ex
  exact pe_callC (rn_of F hr hb .nil pass0) hm hk ha hg hdb hst hpl
/-- a stronger reading -/
theorem pe_imp {e : Expr} {t t' : TE} (h : PE X e t) (i : ∀ σ H Q, t' σ H Q → t σ H Q) : PE X e t' := ⟨fun pins s σ H Q I q => h.run pins s σ H Q I (i σ H Q q)⟩
end

/-! ### heaps -/
/-- all tracked objects but the one at p are as they were -/
def Kp (p : Addr) (H H' : Hp) : Prop := ∀ b o, H b = some o → b ≠ p → H' b = some o
theorem Kp.refl (p : Addr) (H : Hp) : Kp p H H := fun _ _ h _ => h
theorem Kp.trans {p : Addr} {H H1 H2 : Hp} (a : Kp p H H1) (b : Kp p H1 H2) : Kp p H H2 := fun c o h n => b c o (a c o h n) n
theorem Kp.of {p : Addr} {H H' : Hp} (s : Same H H') : Kp p H H' := fun b o h _ => s b o h
theorem Kp.upd {p : Addr} {H : Hp} {o : HO} : Kp p H (upd H p o) := fun b u h n => by rw [upd_ne n]; exact h
theorem Kp.new {p q : Addr} {H : Hp} {o : HO} (h : H q = none) : Kp p H (L2.upd H q o) := fun b u e _ => by rw [upd_ne (ne_of_none e h)]; exact e
theorem Same.new {q : Addr} {H : Hp} {o : HO} (h : H q = none) : Same H (L2.upd H q o) := fun b u e => by rw [upd_ne (ne_of_none e h)]; exact e
theorem Same.tup {K : PySem.W.Frag} {H H' : Hp} {a : Addr} {xs : List V} (e : Same H H') (h : SqT K H a xs) : SqT K H' a xs := by
  rcases h with (h | ⟨o, h⟩) | h
  · exact .inl (.inl (e _ _ h))
  · exact .inl (.inr ⟨o, e _ _ h⟩)
  · exact .inr h
/-- an object that is no list stands where only a list may have changed -/
theorem Kp.get {p b : Addr} {H H' : Hp} {xs : List V} {o : HO} (k : Kp p H H') (hp : H p = some (.lst xs)) (h : H b = some o) (n : o ≠ .lst xs) : H' b = some o := k b o h (ne_of h hp n)
theorem Kp.tup {p b : Addr} {H H' : Hp} {xs ys : List V} (k : Kp p H H') (hp : H p = some (.lst xs)) (h : H b = some (.tup ys)) : H' b = some (.tup ys) := k.get hp h (fun z => nomatch z)
theorem Kp.ins {p b C dx : Addr} {H H' : Hp} {xs : List V} {fs : List (Str × V)} (k : Kp p H H') (hp : H p = some (.lst xs)) (h : H b = some (.ins C dx fs)) : H' b = some (.ins C dx fs) := k.get hp h (fun z => nomatch z)

/-! ### the pot that the draws are taken from: a list of two ints -/
def Pot (H : Hp) (p : Addr) : Prop := ∃ a b : Int, H p = some (.lst [.int a, .int b]) ∧ 0 ≤ a ∧ 0 ≤ b ∧ b < 2147483648
theorem Pot.same {H H' : Hp} {p : Addr} (h : Pot H p) (s : Same H H') : Pot H' p := let ⟨a, b, e, q⟩ := h; ⟨a, b, s _ _ e, q⟩
theorem Pot.lst {H : Hp} {p : Addr} (h : Pot H p) : ∃ xs, H p = some (.lst xs) := let ⟨a, b, e, _⟩ := h; ⟨_, e⟩

/-! ### an Amount -/
def amF (t b : Int) (pl : Addr) : List (Str × V) := [("own_top", .int t), ("own_bottom", .int b), ("own_place", .ref pl)]
/-- at a an Amount of the class at C: its top, its bottom above 0, its place -/
def AmAt (C : Addr) (H : Hp) (a : Addr) (t b : Int) : Prop := 0 < b ∧ ∃ dx pl : Addr, H a = some (.ins C dx (amF t b pl)) ∧ H pl = some (.tup ((M.plc 1 t b.toNat).map V.int))
theorem AmAt.same {C a : Addr} {H H' : Hp} {t b : Int} (h : AmAt C H a t b) (s : Same H H') : AmAt C H' a t b := let ⟨z, dx, pl, h1, h2⟩ := h; ⟨z, dx, pl, s _ _ h1, s _ _ h2⟩
theorem AmAt.kp {C a p : Addr} {H H' : Hp} {t b : Int} {xs : List V} (h : AmAt C H a t b) (k : Kp p H H') (hp : H p = some (.lst xs)) : AmAt C H' a t b := let ⟨z, dx, pl, h1, h2⟩ := h; ⟨z, dx, pl, k.ins hp h1, k.tup hp h2⟩
theorem n_tb : ¬ (("own_top" : Str) = "own_bottom") := by decide +kernel
theorem n_tp : ¬ (("own_top" : Str) = "own_place") := by decide +kernel
theorem n_bp : ¬ (("own_bottom" : Str) = "own_place") := by decide +kernel
theorem am_put1 (t b : Int) : putF "own_bottom" (.int b) (putF "own_top" (.int t) []) = ([("own_top", .int t), ("own_bottom", .int b)] : List (Str × V)) := by
  show (if ("own_top" : Str) = "own_bottom" then [(("own_top" : Str), V.int b)] else (("own_top" : Str), V.int t) :: [(("own_bottom" : Str), V.int b)]) = _
  rw [if_neg n_tb] <;> rfl
theorem am_put (t b : Int) (pl : Addr) : putF "own_place" (.ref pl) (putF "own_bottom" (.int b) (putF "own_top" (.int t) [])) = amF t b pl := by
  rw [am_put1]
  show (if ("own_top" : Str) = "own_place" then _ else (("own_top" : Str), V.int t) :: (if ("own_bottom" : Str) = "own_place" then _ else (("own_bottom" : Str), V.int b) :: [(("own_place" : Str), V.ref pl)])) = _
  rw [if_neg n_tp, if_neg n_bp] <;> rfl
theorem am_top (t b : Int) (pl : Addr) : (amF t b pl).lookup ("own_top" : Str) = some (.int t) := by
  rw [← am_put, lookup_putF, if_neg n_tp, lookup_putF, if_neg n_tb, lookup_putF, if_pos rfl]
theorem am_bottom (t b : Int) (pl : Addr) : (amF t b pl).lookup ("own_bottom" : Str) = some (.int b) := by
  rw [← am_put, lookup_putF, if_neg n_bp, lookup_putF, if_pos rfl]
theorem am_place (t b : Int) (pl : Addr) : (amF t b pl).lookup ("own_place" : Str) = some (.ref pl) := by
  rw [← am_put, lookup_putF, if_pos rfl]
theorem am_no (t b : Int) (pl : Addr) {m : Str} (h1 : ¬ m = "own_top") (h2 : ¬ m = "own_bottom") (h3 : ¬ m = "own_place") : (amF t b pl).lookup m = none := by
  rw [← am_put, lookup_putF, if_neg h3, lookup_putF, if_neg h2, lookup_putF, if_neg h1] <;> rfl
end SP
/-! A def whose first test leads to «return NotImplemented». -/
namespace SP
open PySem PySem.Spec PyProof.Rows L2
theorem boot_ni : bootBuiltins "NotImplemented" = some .notImplemented := by decide +kernel
theorem execs_decl {X : Cx} {c : Expr} {p pos pos2 : Pos} {rest : List Stmt} {tc : TT} (hc : PT X c tc) (hg : Gl X "NotImplemented") (hm : X.mg "NotImplemented" = none) {pins : List (Addr × Obj)} {s : Shared} {σ : L2.St} {H : Hp} (I : Inv X pins σ H s)
    (h : tc σ H (fun b H' => b = true ∧ Same H H')) :
    wpAny (model X.prog X.w) X.A (execs (.If c [.Return (some (.Name "NotImplemented" p)) pos2] [] pos :: rest) X.env) (fun fl s' => fl = .ret .notImplemented ∧ ∃ σ' H', Inv X pins σ' H' s' ∧ Same H H') X.xe s := by
  refine wpAny_execs_cons (wpAny_If (thn (hc.run pins s σ H _ I h) ?_))
  intro b s1 ⟨H1, I1, e, sm⟩
  subst e
  refine wpAny_execs_cons (wpAny_Return_some (ld_blt I1 hg hm boot_ni ?_))
  exact ⟨rfl, σ, H1, I1, sm⟩
theorem rnN_of {X : Cx} {N ps : List Str} {x qual : Str} {st : Stmt} {f : Addr} {fd : FuncData} {D : List V → Hp → Prop} {kk : Nat} {c : Expr} {p pos pos2 : Pos} {rest : List Stmt} (F : Fun X.K x qual st f fd) (S : FnScope N ps (defScope st)) (hr : Room (kk + 1) X.A) (hb : Binds X.K fd ps [])
    (len : ∀ vs H, D vs H → vs.length = ps.length) (hbody : defBody st = .If c [.Return (some (.Name "NotImplemented" p)) pos2] [] pos :: rest) (hm : X.mg "NotImplemented" = none)
    (go : ∀ (cdv : Value) (A : Around) (out : List Env) (s : Shared) (H : Hp) (vs : List V), Room kk (A.deeper (envOfC qual (defScope st) s.heap.objs.size f cdv)) → D vs H →
      ∃ tc, PT (cxOf CX0 X.prog X.w X.K X.mg X.base N qual (defScope st) f cdv A out s H E0).nox c tc ∧ Gl (cxOf CX0 X.prog X.w X.K X.mg X.base N qual (defScope st) f cdv A out s H E0).nox "NotImplemented" ∧ tc (start N vs) H (fun b H' => b = true ∧ Same H H')) : RnN X f D := by
  obtain ⟨oc, od, kV, doc, pm, an, cdv, ct, osl, rfl, lk, hcd⟩ := F.ex
  intro pins σ H s us vs I rv hD
  have hl := len vs H hD
  have ln : (us ++ []).length = ps.length := by rw [List.append_nil, ← rv.length, hl]
  have bd := hb s us I.kIn ln
  rw [List.append_nil] at bd
  obtain ⟨tc, hc, hg, ht⟩ := go cdv X.A X.stack s H vs (hr.deeper _) hD
  refine wpAny_call (codeAny_mono (enter_def (E := E0) (CX := CX0) (R := fun r s' => r = .ok (.ret .notImplemented) ∧ ∃ H', s'.os = s.os ∧ AllBare s'.gens ∧ Un (frs X.stack) [] H H' s.heap s'.heap ∧ HOk X.prog X.w H' s'.heap ∧ Same H H') lk hcd S hr I.env0 bd rv hl ?_) ?_)
  · intro s1 J
    rw [hbody]
    refine wpAny_mono (execs_decl hc hg hm (J.wish fun _ _ => False) ht) ?_ fun _ _ z => z.elim
    intro fl s2 z
    obtain ⟨rfl, σ2, H2, J2, sm⟩ := z
    exact ⟨rfl, H2, J2.os, J2.bare, J2.base, J2.hok, sm⟩
  · intro r s2 z
    obtain ⟨rfl, H2, z1, z2, z3, z4, sm⟩ := z
    obtain ⟨hh, g, d, t, os'⟩ := s2
    have e : os' = s.os := z1
    subst e
    exact ⟨rfl, H2, I.call (h' := hh) (g' := g) (d' := d) (t' := t) (ch := []) z3 z4 z2 (fun b z => (List.not_mem_nil z).elim), sm⟩
end SP
/-! str and repr of own instances; lists of bools shown. -/
namespace SP
open PySem PySem.Spec PyProof.Rows L2
theorem str_back {X : Cx} {pins : List (Addr × Obj)} {σ : L2.St} {Q : VK} {u : Value} {s' : Shared} (h : EP X pins σ (fun v H' => ∃ z, v = .str z ∧ Q v H') u s') : PySem.W.StrBack (EP X pins σ Q) u s' := by
  obtain ⟨v, H', I', r, z, rfl, q⟩ := h
  obtain ⟨t, rfl⟩ := r
  exact ⟨.str z, H', I', ⟨t, rfl⟩, q⟩
theorem ep_out1 {X : Cx} {pins : List (Addr × Obj)} {σ : L2.St} {Q : VK} {u : Value} {s' : Shared} (h : EP (in1 X) pins σ Q u s') : EP X pins σ Q u s' := let ⟨v, H', I', r, q⟩ := h; ⟨v, H', inv_out1 I', r, q⟩
/-- f(o), o an instance whose own method (promise sp) answers with a text -/
def rShow (C : Addr) (sp : Sp) (E : XK) : List V → Hp → VK → Prop := fun xs H Q => ∃ (a dx : Addr) (fs : List (Str × V)), xs = [.ref a] ∧ H a = some (.ins C dx fs) ∧ sp [.ref a] H (fun v H' => ∃ z, v = .str z ∧ Q v H') E
section
variable {X : Cx} {C f : Addr} {sp : Sp} {E : XK}
theorem call_reprO (hu : X.A.units + 1 < cLine) (hs : PySem.W.findIn X.K (.ref C) "__repr__" = some (some (.ref f))) (hf : PySem.W.isFn X.K (.ref f) = true) (R : Rn (in1 X) f sp [] E) : CallR X (.builtin "repr") (rShow C sp E) := by
  intro pins s σ H xs us Q I r h
  obtain ⟨a, dx, fs, rfl, ea, h⟩ := h
  obtain ⟨u, rfl, ru⟩ := vals1 r
  cases (show u = Value.ref a from ru)
  obtain ⟨mA, O, _⟩ := ins_get I.hok ea
  obtain ⟨od, J, _⟩ := O.look
  obtain ⟨m, F⟩ := I.fr
  exact PySem.W.repr_K hu F I.mod.kin J hs hf (thn (R pins σ H s _ [.ref a] [.ref a] (inv_in1 I) (.cons rfl .nil) h) fun v s' q => str_back (ep_out1 q))
theorem call_strO (hu : X.A.units + 2 < cLine) (hs : PySem.W.findIn X.K (.ref C) "__str__" = some (some (.ref f))) (hf : PySem.W.isFn X.K (.ref f) = true) (R : Rn (in1 (in1 X)) f sp [] E) : CallR X (.type "str") (rShow C sp E) := by
  intro pins s σ H xs us Q I r h
  obtain ⟨a, dx, fs, rfl, ea, h⟩ := h
  obtain ⟨u, rfl, ru⟩ := vals1 r
  cases (show u = Value.ref a from ru)
  obtain ⟨mA, O, _⟩ := ins_get I.hok ea
  obtain ⟨od, J, _⟩ := O.look
  exact PySem.W.kso_call hu I.kIn J hs hf (thn (R pins σ H s _ [.ref a] [.ref a] (inv_in1 (inv_in1 I)) (.cons rfl .nil) h) fun v s' q => str_back (ep_out1 (ep_out1 q)))
end
/-! ### lists of bools -/
theorem dp_bools {K : PySem.W.Frag} {H : Hp} : ∀ bs : List Bool, DpAll K H (bs.map V.bl) (bs.map PyData.bool)
  | [] => .nil
  | a :: r => .cons (.bl a) (dp_bools r)
theorem len1921 {i : Int} (h : i.natAbs.log2 < 1920) : (PySem.Str.ofString (toString i)).length ≤ 1921 := by
  have e := int_text_length_le (k := 1920) (by decide) h
  rw [PySem.ofString_length]
  omega
theorem small_log {i : Int} {n : Nat} (h : i.natAbs < 2 ^ n) (h0 : 0 < n) (hn : n ≤ 1920) : i.natAbs.log2 < 1920 := Nat.lt_of_lt_of_le (PySem.Flt.log2_lt_of h0 h) hn
end SP
/-! +, -, * of own instances: both of one class, one of them an int; the own sign, abs and bool. -/
namespace SP
open PySem PySem.Spec PyProof.Rows L2
/-- back: no NotImplemented -/
theorem back_val {X : Cx} {pins : List (Addr × Obj)} {σ : L2.St} {Q : VK} {v : Value} {s' : Shared} (h : EP X pins σ Q v s') : PySem.W.CmpBack (EP X pins σ Q) v s' := by
  obtain ⟨v', H', I', r', q'⟩ := h
  exact back_rel r' ⟨v', H', I', r', q'⟩
section
variable {X : Cx} {C f g : Addr} {sp : Sp} {E : XK} {op : Operator}
/-- x op y, both of the class at C -/
def rBinS (C : Addr) (sp : Sp) (E : XK) : R2 := fun x y H Q => ∃ (a b dx dy : Addr) (fs gs : List (Str × V)), x = .ref a ∧ y = .ref b ∧ H a = some (.ins C dx fs) ∧ H b = some (.ins C dy gs) ∧ sp [.ref a, .ref b] H Q E
theorem op_binS (hc : PySem.W.selfFirst X.K C = true) (hs : PySem.W.findIn X.K (.ref C) (PySem.dunder op.info.2) = some (some (.ref f))) (hf : PySem.W.isFn X.K (.ref f) = true) (R : Rn X f sp [] E) : OpR X (binaryOp op) (rBinS C sp E) := by
  intro pins s σ H x y v u Q I rx ry h
  obtain ⟨a, b, dx, dy, fs, gs, rfl, rfl, ea, eb, h⟩ := h
  cases (show v = Value.ref a from rx)
  cases (show u = Value.ref b from ry)
  obtain ⟨mA, O, _⟩ := ins_get I.hok ea
  obtain ⟨od, J, _⟩ := O.look
  obtain ⟨mB, O2, _⟩ := ins_get I.hok eb
  obtain ⟨od2, J2, _⟩ := O2.look
  obtain ⟨m, F⟩ := I.fr
  exact PySem.W.binop_K F I.mod.kin J J2.type hc hs hf (thn (R pins σ H s Q [.ref a, .ref b] [.ref a, .ref b] I (.cons rfl (.cons rfl .nil)) h) fun w' s' z => back_val z)
/-- x op i -/
def rBinI (C : Addr) (sp : Sp) (E : XK) : R2 := fun x y H Q => ∃ (a dx : Addr) (fs : List (Str × V)) (i : Int), x = .ref a ∧ y = .int i ∧ H a = some (.ins C dx fs) ∧ sp [.ref a, .int i] H Q E
theorem op_binI {fo ro : Option Value} (hc : PySem.W.selfFirst X.K C = true) (hs : PySem.W.findIn X.K (.ref C) (PySem.dunder op.info.2) = some (some (.ref f))) (hf : PySem.W.isFn X.K (.ref f) = true) (hr : PySem.W.findIn X.K (.ref C) (dunderR op.info.2) = some (some (.ref g)))
    (h1 : fastLookup "int" (PySem.dunder op.info.2) = some fo) (h2 : fastLookup "int" (dunderR op.info.2) = some ro) (R : Rn X f sp [] E) : OpR X (binaryOp op) (rBinI C sp E) := by
  intro pins s σ H x y v u Q I rx ry h
  obtain ⟨a, dx, fs, i, rfl, rfl, ea, h⟩ := h
  cases (show v = Value.ref a from rx)
  obtain ⟨t, z⟩ := (show ∃ t, u = Value.int i t from ry)
  cases z
  obtain ⟨mA, O, _⟩ := ins_get I.hok ea
  obtain ⟨od, J, _⟩ := O.look
  obtain ⟨m, F⟩ := I.fr
  exact PySem.W.ksp_binT F I.mod.kin J (T := "int") rfl hc hs hf hr (.inr ⟨g, rfl⟩) h1 h2 (sub_built mro_int rfl) (thn (R pins σ H s Q [.ref a, .int i t] [.ref a, .int i] I (.cons rfl (.cons ⟨t, rfl⟩ .nil)) h) fun w' s' z => back_val z)
end
/-- both forms -/
def rBinM (C : Addr) (sp : Sp) (E : XK) : R2 := fun x y H Q => rBinS C sp E x y H Q ∨ rBinI C sp E x y H Q
section
variable {prog : Program} {w : World} {A : Around} {E : Value → Shared → Prop} {s : Shared} {K : PySem.W.Frag} {x C f : Addr} {ox : Obj} {od : Option Obj} {nm : String}
/-- int op own: the own reflected method -/
theorem binI_K {op : Operator} {i : Int} {t : Tok} {id : String} {Q : Value → Shared → Prop} {dx : Addr} (X : K.In s.heap) (I : PySem.W.InstAt s.heap x ox C od) (hx : s.heap.get? x = some (PySem.W.instObj C dx)) (hc : PySem.W.selfFirst K C = true)
    (hs : PySem.W.findIn K (.ref C) (PySem.dunder op.info.2) = some (some (.ref f))) {g : Addr} (hr : PySem.W.findIn K (.ref C) (dunderR op.info.2) = some (some (.ref g))) (hf : PySem.W.isFn K (.ref g) = true) (hsub : PySem.W.subIn K (.ref C) (.type "int") = some false)
    (fI : fillsNumberSlot (.type "int") op.info.2 = pure true) (slot : Slot "int" (PySem.dunder op.info.2) id)
    (no : ∀ {Q' : Shared → Prop}, Q' s → wpAny (model prog w) A (call (.builtin id) [.int i t, .ref x]) (fun v s' => v = .notImplemented ∧ Q' s') E s)
    (h : wpAny (model prog w) A (call (.ref g) [.ref x, .int i t]) (PySem.W.CmpBack Q) E s) : wpAny (model prog w) A (binaryOp op (.int i t) (.ref x)) Q E s := by
  obtain ⟨cd, rest, hcd, hm⟩ := PySem.W.ksp_first hc
  rcases hi : op.info with ⟨sym, nm'⟩
  rw [hi] at hs hr fI slot
  dsimp only at hs hr fI slot
  have one := PySem.W.ksp_try X I hr hf h
  have L1 : PySem.W.Looks (model prog w) s.heap (typeOf (.ref x)) (.ref C) := I.type
  have L3 : PySem.W.Looks (model prog w) s.heap (fillsNumberSlot (.ref C) nm') true := PySem.W.fills_K X hcd hm hs
  have L5 : PySem.W.Looks (model prog w) s.heap (isSubtype (.ref C) (.type "int")) false := PySem.W.looks_subIn X hsub
  have hne : (Value.type "int" == Value.ref C) = false := Bool.eq_false_iff.mpr fun q => by cases beq_iff_eq.mp q
  simp only [binaryOp, hi]
  refine wpAny_holding (wpAny_bind ?_)
  unfold binaryOp1
  refine wpAny_bind (wpAny_pure (wpAny_bind (L1.here (wpAny_bind (wpAny_of_eq fI ?_)))))
  simp only [hne, Bool.false_eq_true, if_false]
  refine wpAny_bind (L3.here ?_)
  simp only [Bool.and_self, if_true]
  refine wpAny_bind (L5.here ?_)
  simp only [Bool.false_eq_true, if_false]
  rw [if_pos (show (true && !false) = true from rfl)]
  refine wpAny_bind (wpAny_pure ?_)
  simp only [Bool.false_eq_true, if_false]
  refine wpAny_bind (wpAny_tryMethod_declines (T := "int") rfl slot (no ?_))
  dsimp only
  rw [if_pos (show (true && !false) = true from rfl)]
  refine wpAny_bind (wpAny_mono one (fun r s' hr' => ?_) fun _ _ e => e)
  obtain ⟨v, rfl, hq⟩ := hr'
  exact wpAny_bind (wpAny_rule (wpAny_pure (wpAny_pure hq)))
theorem int_add_no {dx : Addr} {i : Int} {t : Tok} {Q : Shared → Prop} (hx : s.heap.get? x = some (PySem.W.instObj C dx)) (q : Q s) : wpAny (model prog w) A (call (.builtin "int.__add__") [.int i t, .ref x]) (fun v s' => v = .notImplemented ∧ Q s') E s := by
  refine GQ.call_here F.slot_int_add rfl F.entry_int_add (F.args_int_add_2 _ _) ?_
  wp_walk using asInt_inst hx
  exact ⟨rfl, q⟩
theorem int_sub_no {dx : Addr} {i : Int} {t : Tok} {Q : Shared → Prop} (hx : s.heap.get? x = some (PySem.W.instObj C dx)) (q : Q s) : wpAny (model prog w) A (call (.builtin "int.__sub__") [.int i t, .ref x]) (fun v s' => v = .notImplemented ∧ Q s') E s := by
  refine GQ.call_here F.slot_int_sub rfl F.entry_int_sub (F.args_int_sub_2 _ _) ?_
  wp_walk using asInt_inst hx
  exact ⟨rfl, q⟩
theorem int_mul_no {dx : Addr} {i : Int} {t : Tok} {Q : Shared → Prop} (hx : s.heap.get? x = some (PySem.W.instObj C dx)) (q : Q s) : wpAny (model prog w) A (call (.builtin "int.__mul__") [.int i t, .ref x]) (fun v s' => v = .notImplemented ∧ Q s') E s := by
  refine GQ.call_here F.slot_int_mul rfl F.entry_int_mul (F.args_int_mul_2 _ _) ?_
  wp_walk using asInt_inst hx
  exact ⟨rfl, q⟩
end
section
variable {X : Cx} {C f g : Addr} {sp : Sp} {E : XK}
/-- i op x -/
def rBinR (C : Addr) (sp : Sp) (E : XK) : R2 := fun x y H Q => ∃ (a dx : Addr) (fs : List (Str × V)) (i : Int), x = .int i ∧ y = .ref a ∧ H a = some (.ins C dx fs) ∧ sp [.ref a, .int i] H Q E
theorem op_binR {op : Operator} {id : String} (hc : PySem.W.selfFirst X.K C = true) (hs : PySem.W.findIn X.K (.ref C) (PySem.dunder op.info.2) = some (some (.ref f))) (hr : PySem.W.findIn X.K (.ref C) (dunderR op.info.2) = some (some (.ref g))) (hf : PySem.W.isFn X.K (.ref g) = true)
    (hsub : PySem.W.subIn X.K (.ref C) (.type "int") = some false) (fI : fillsNumberSlot (.type "int") op.info.2 = pure true) (slot : Slot "int" (PySem.dunder op.info.2) id)
    (no : ∀ {x dx : Addr} {i : Int} {t : Tok} {s : Shared} {Q : Shared → Prop}, s.heap.get? x = some (PySem.W.instObj C dx) → Q s → wpAny (model X.prog X.w) X.A (call (.builtin id) [.int i t, .ref x]) (fun v s' => v = .notImplemented ∧ Q s') X.xe s)
    (R : Rn X g sp [] E) : OpR X (binaryOp op) (rBinR C sp E) := by
  intro pins s σ H x y v u Q I rx ry h
  obtain ⟨a, dx, fs, i, rfl, rfl, ea, h⟩ := h
  cases (show u = Value.ref a from ry)
  obtain ⟨t, z⟩ := (show ∃ t, v = Value.int i t from rx)
  cases z
  obtain ⟨mA, O, _⟩ := ins_get I.hok ea
  obtain ⟨od, J, _⟩ := O.look
  exact binI_K (dx := dx) I.kIn J J.1 hc hs hr hf hsub fI slot (fun q => no J.1 q) (thn (R pins σ H s Q [.ref a, .int i t] [.ref a, .int i] I (.cons rfl (.cons ⟨t, rfl⟩ .nil)) h) fun w' s' z => back_val z)
/-- -x -/
def rUnC (C : Addr) (sp : Sp) (E : XK) : V → Hp → VK → Prop := fun x H Q => ∃ (a dx : Addr) (fs : List (Str × V)), x = .ref a ∧ H a = some (.ins C dx fs) ∧ sp [.ref a] H Q E
theorem un_negC (hs : PySem.W.findIn X.K (.ref C) "__neg__" = some (some (.ref f))) (hf : PySem.W.isFn X.K (.ref f) = true) (R : Rn X f sp [] E) : UnR X (unaryOp .USub) (rUnC C sp E) := by
  intro pins s σ H x v Q I rx h
  obtain ⟨a, dx, fs, rfl, ea, h⟩ := h
  cases (show v = Value.ref a from rx)
  obtain ⟨mA, O, _⟩ := ins_get I.hok ea
  obtain ⟨od, J, _⟩ := O.look
  obtain ⟨m, F⟩ := I.fr
  exact PySem.W.ksp_neg F I.mod.kin J hs hf (R pins σ H s Q [.ref a] [.ref a] I (.cons rfl .nil) h)
end
end SP
/-! abs, bool of own instances; keywords alone; a class in a local name. -/
namespace SP
open PySem PySem.Spec PyProof.Rows L2
section
variable {X : Cx} {C f : Addr} {sp : Sp} {E : XK}
def rOne1 (C : Addr) (sp : Sp) (E : XK) : List V → Hp → VK → Prop := fun xs H Q => ∃ (a dx : Addr) (fs : List (Str × V)), xs = [.ref a] ∧ H a = some (.ins C dx fs) ∧ sp [.ref a] H Q E
theorem call_absC (hs : PySem.W.findIn X.K (.ref C) "__abs__" = some (some (.ref f))) (hf : PySem.W.isFn X.K (.ref f) = true) (R : Rn (in1 X) f sp [] E) : CallR X (.builtin "abs") (rOne1 C sp E) := by
  intro pins s σ H xs us Q I r h
  obtain ⟨a, dx, fs, rfl, ea, h⟩ := h
  obtain ⟨u, rfl, ru⟩ := vals1 r
  cases (show u = Value.ref a from ru)
  obtain ⟨mA, O, _⟩ := ins_get I.hok ea
  obtain ⟨od, J, _⟩ := O.look
  refine PySem.Calls.call_function_entry kind_abs plain_abs entry_abs (args_abs _) ?_
  unfold Builtin.«abs»
  refine wpAny_bind (m := oneArg "abs" _) (wpAny_pure ?_)
  refine wpAny_bind (m := callSpecial? (.ref a) (Str.ofString "__abs__")) (PySem.W.special_fn I.kIn J hs (beq_iff_eq.mp hf) (thn (R pins σ H s _ [.ref a] [.ref a] (inv_in1 I) (.cons rfl .nil) h) fun v s' q => ?_))
  exact wpAny_pure ⟨_, rfl, ep_out1 q⟩
def rBool1 (C : Addr) (sp : Sp) (E : XK) : List V → Hp → VK → Prop := fun xs H Q => ∃ (a dx : Addr) (fs : List (Str × V)), xs = [.ref a] ∧ H a = some (.ins C dx fs) ∧ sp [.ref a] H (fun v H' => ∃ b, v = .bl b ∧ Q (.bl b) H') E
theorem meets_bool_own {prog : Program} {w : World} (x : Addr) : MeetsIn prog w (Builtin.«bool.__new__» ⟨[.type "bool", .ref x], []⟩) (fun A R s => wpAny (model prog w) A.in1 (truthy (.ref x)) (fun b s' => R (.ok (.ret (.bool b))) s') (fun e s' => R (.error e) s') s) :=
  MeetsIn.of_wp fun A R s hs => by
    have f1 := F.conv_sub_bool
    unfold Builtin.«bool.__new__»
    refine wpAny_bind (wpAny_pure ?_)
    rw [if_neg (show ¬ (!true) = true from by decide)]
    refine wpAny_bind (wpAny_of_eq f1 ?_)
    rw [if_neg (show ¬ (!true) = true from by decide)]
    refine wpAny_bind (wpAny_pure ?_)
    refine wpAny_bind (wpAny_mono hs (fun b s' q => ?_) fun _ _ e => e)
    exact wpAny_pure ⟨_, rfl, q⟩
theorem call_boolC (hs : PySem.W.findIn X.K (.ref C) "__bool__" = some (some (.ref f))) (hf : PySem.W.isFn X.K (.ref f) = true) (R : Rn (in1 (in1 X)) f sp [] E) : CallR X (.type "bool") (rBool1 C sp E) := by
  intro pins s σ H xs us Q I r h
  obtain ⟨a, dx, fs, rfl, ea, h⟩ := h
  obtain ⟨u, rfl, ru⟩ := vals1 r
  cases (show u = Value.ref a from ru)
  obtain ⟨mA, O, _⟩ := ins_get I.hok ea
  obtain ⟨od, J, _⟩ := O.look
  obtain ⟨m, Fm⟩ := I.fr
  refine callType_newIn F.called_bool F.newNe_bool (F.typeCall_bool_1 _) (F.newCall_bool_1 _) (fun obj => F.args_object_init_2 obj _) F.entry_bool_new (meets_bool_own a) ?_
  refine PySem.W.truthy_K Fm I.mod.kin J hs hf (thn (R pins σ H s _ [.ref a] [.ref a] (inv_in1 (inv_in1 I)) (.cons rfl .nil) h) fun v s' q => ?_)
  obtain ⟨v', H', I', r', b, rfl, q'⟩ := q
  cases (show v = Value.bool b from r')
  exact ⟨rfl, .bl b, H', inv_out1 (inv_out1 I'), rfl, q'⟩
/-! ### keywords alone -/
variable {fd : FuncData} {ps ks : List Str} {k : Nat} {CX : CXT} {x m : Str} {p pos apos : Pos} {o : Expr} {kws : List Keyword} {ta : TE} {tk : TA} {g : List Value → List Value → List Value} {gV : List V → List V → List V}
/-- f(k = v, ..) -/
theorem pe_callK0 (F : FnOk X.prog X.w X.K X.mg X.base CX k f fd ps sp) (hr : Room k X.A) (hg : Gl X x) (hm : X.mg x = some (.ref f)) (hk : PySem.W.keepIn X.K (.ref f) = true) (hb : KBn X.K fd ps 0 ks g gV) (hx : Passes CX X E)
    (hkw : PK X kws tk) (hall : (backToKw pos (keywordEach kws X.env)).all (·.1.isSome) = true := by rfl) (hks : (backToKw pos (keywordEach kws X.env)).filterMap (·.1) = ks := by rfl)
    (hdb : (x == ("__debug__" : Str)) = false := by decide)
    (hpl : ((backTo pos (starEach [] X.env)).any (·.1) || (backToKw pos (keywordEach kws X.env)).any (·.1.isNone)) = false := by rfl) :
    PE X (.Call (.Name x p) [] kws pos) (tCallN 0 ks.length sp gV E tNil tk) := by
  refine ⟨fun pins s σ H Q I h => ?_⟩
  refine wpAny_Call_Name_kw (ld_glob I hg hm ?_ hdb)
  refine PySem.W.callWith_KW0 (h₀ := X.base) I.ok.mod.kin hk hall ?_ hpl
  refine thn (hkw.run pos pins s σ H _ I h) fun ws s2 ⟨zs, H2, I2, rz, l1, l2, q2⟩ => ⟨I2.kIn, ?_⟩
  rw [hks]
  exact run_fnN (us := []) (vs := []) F hr hb hx I2 .nil rz l1 l2 q2
/-- o.m(k = v, ..) -/
def tMethK (C : Addr) (m : Str) (n : Nat) (sp : Sp) (gV : List V → List V → List V) (E : XK) (ta : TE) (tk : TA) : TE := fun σ H Q => ta σ H fun x H1 => ∃ (a dx : Addr) (fs : List (Str × V)), x = .ref a ∧ H1 a = some (.ins C dx fs) ∧ fs.lookup m = none ∧ tk σ H1 fun zs H2 => zs.length = n ∧ sp (gV [.ref a] zs) H2 Q E
theorem pe_methK0 {pl : Sem Bool} (he : PE X o ta) (c : Cls X.K C) (hm : Meth X.K C m f) (F : FnOk X.prog X.w X.K X.mg X.base CX k f fd ps sp) (hr : Room k X.A) (hb : KBn X.K fd ps 1 ks g gV) (hx : Passes CX X E) (hkw : PK X kws tk)
    (hall : (backToKw pos (keywordEach kws X.env)).all (·.1.isSome) = true := by rfl) (hks : (backToKw pos (keywordEach kws X.env)).filterMap (·.1) = ks := by rfl)
    (hpl : ((backTo pos (starEach [] X.env)).any (·.1) || (backToKw pos (keywordEach kws X.env)).any (·.1.isNone)) = false := by rfl)
    (ht : eval (.Call (.Attribute o m apos) [] kws pos) X.env = (do
      let ov ← eval o X.env
      standAt apos.atName
      let (f, first) ← holding [ov] (getMethod ov m pl)
      callWith pos f first (backTo pos (starEach [] X.env)) (backToKw pos (keywordEach kws X.env))) := by rfl) :
    PE X (.Call (.Attribute o m apos) [] kws pos) (tMethK C m ks.length sp gV E ta tk) := by
  refine ⟨fun pins s σ H Q I h => ?_⟩
  refine PySem.W.methodCall_KW (pl := pl) (thn (he.run pins s σ H _ I h) fun u s1 ⟨x, H1, I1, rx, a, dx, fs, ex, ea, l, q⟩ => ?_) ht
  subst ex
  obtain rfl : u = Value.ref a := rx
  refine getmeth_ok I1 ea c hm l ?_
  refine PySem.W.callWith_KW0 (first := [.ref a]) (h₀ := X.base) I1.ok.mod.kin hm.kp hall ?_ hpl
  refine thn (hkw.run pos pins s1 σ H1 _ I1 q) fun ws s2 ⟨zs, H2, I2, rz, l2, q2⟩ => ⟨I2.kIn, ?_⟩
  rw [hks]
  exact run_fnN (us := [.ref a]) (vs := [.ref a]) F hr hb hx I2 (.cons rfl .nil) rz rfl l2 q2
/-- positional ones, then the named ones, in the parameters' order -/
theorem fun_kbn {K : PySem.W.Frag} {x qual : Str} {st : Stmt} {f : Addr} {fd : FuncData} {ps ks : List Str} {n : Nat} (F : Fun K x qual st f fd)
    (h : ∀ (kV doc pm : Value) (an : Option Addr) (cdv ct : Value) (us ws : List Value), us.length = n → ws.length = ks.length → bindArgs (PySem.W.fnOf x qual (defArgs st) (defBody st) (defScope st) .none kV doc pm an cdv ct) ⟨us, ks.zip ws⟩ = pure (ps.zip (us ++ ws))) :
    KBn K fd ps n ks (fun us ws => us ++ ws) (fun vs zs => vs ++ zs) := by
  obtain ⟨oc, od, kV, doc, pm, an, cdv, ct, osl, rfl, lk, hcd⟩ := F.ex
  exact ⟨fun s us ws X l1 l2 => .of_eq (h kV doc pm an cdv ct us ws l1 l2), fun r1 r2 => r1.append r2⟩
/-! ### a class in a local name -/
variable {i : Nat} {dvs : List V} {e : Expr} {es : List Expr} {t : TA}
theorem pe_callV (R : Rn X f sp dvs E) (hN : X.N[i]? = some x) (hv : Vis X.env.scope x) (hk : PySem.W.keepIn X.K (.ref f) = true) (ha : PA X (e :: es) t)
    (hdb : (x == ("__debug__" : Str)) = false := by decide) (hcd : (x == ("__classdict__" : Str)) = false := by decide)
    (he : starEach (e :: es) X.env = (false, eval e X.env) :: starEach es X.env := by rfl) (hpl : (backTo pos (starEach es X.env)).any (·.1) = false := by rfl) : PE X (.Call (.Name x p) (e :: es) [] pos) (tCallL i f sp dvs E t) := by
  refine ⟨fun pins s σ H Q I h => ?_⟩
  obtain ⟨hs, ht⟩ := h
  refine wpAny_Call_Name_kw (thn ((pe_var (pos := p) hN hv hdb hcd).run pins s σ H (fun v H1 => v = .ref f ∧ H1 = H) I ⟨.ref f, hs, rfl, rfl⟩) fun u s1 ⟨v, H1, I1, r1, q1⟩ => ?_)
  obtain ⟨rfl, rfl⟩ := q1
  cases r1
  refine PySem.W.callWith_K (h₀ := X.base) I.ok.mod.kin hk (thn (ha.run pos pins s1 σ _ _ I1 ht) fun us s2 ⟨vs, H2, I2, r, q⟩ => ⟨I2.kIn, ?_⟩) he hpl
  exact R pins σ H2 s2 Q us vs I2 r q
end
end SP
/-! sum of a list of own instances. -/
namespace SP
open PySem PySem.Spec PyProof.Rows L2
section
variable {X : Cx} {R1 : R2} {pins : List (Addr × Obj)} {σ : L2.St} {it l S : Addr} {xs : List V} {RR : Result → Shared → Prop} {Pv : Nat → V → Hp → Prop}
/-- the accumulator's list -/
abbrev accO (u : Value) (c : Nat) : Obj := { cls := .type "list", dict := none, data := .seq #[u] c, slots := #[] }
theorem sum_loopO (hc : X.calm = true) (hop : OpR (in1 X).nox (binaryOp .Add) R1) (hne : S ≠ it)
    (hx : ∀ i v H, i ≤ xs.length → Pv i v H → SqL X.K H l xs)
    (hstep : ∀ i v x H, xs[i]? = some x → Pv i v H → (∃ b, x = .ref b) ∧ R1 v x H fun r H' => (∃ c, r = .ref c) ∧ Pv (i + 1) r H')
    (hv : ∀ i v H, Pv i v H → (i = 0 ∧ v = .int 0) ∨ (0 < i ∧ ∃ c, v = .ref c))
    (hR : ∀ s' H' v u, Inv (in1 X) pins σ H' s' → RelV v u → Pv xs.length v H' → RR (.ok (.ret u)) s') :
    ∀ (k i : Nat) (s : Shared) (H : Hp) (v : V) (u : Value) (c : Nat) (stage : Int), xs.length - i = k → i ≤ xs.length → (i = 0 ∧ stage = 0 ∨ 0 < i ∧ stage = 2) → Inv (in1 X) pins σ H s → FpOk (in1 X) pins H it → FpOk (in1 X) pins H S →
      s.heap.IsListIter it l i → s.heap.get? S = some (accO u c) → RelV v u → Pv i v H → codeAny (model X.prog X.w) X.A (.builtin "sum.loop" ⟨[.ref it, .ref S, rawInt stage, rawInt 0], []⟩) RR s := by
  intro k
  induction k with
  | zero =>
    intro i s H v u c stage hk hi hst I fi fS hit hS hu hP
    have hin : i = xs.length := by omega
    subst hin
    refine codeAny_builtin F.entry_sum_loop ?_
    rw [Around.under_plainId F.plain_sum_loop _]
    show wpAny _ X.A.in1 (seqItems? (.ref S) >>= _) _ _ s
    refine wpAny_bind (wpAny_seqItems hS rfl ?_)
    show wpAny _ X.A.in1 (tryCatch (pyNext (.ref it)) _ >>= _) _ _ s
    obtain ⟨its, rv, p, hz⟩ := I.list (hx _ _ _ (Nat.le_refl _) hP)
    have hl := rv.length
    obtain ⟨f0, f1, f2, f3, f4, f5⟩ := id fi
    refine wpAny_bind (wpAny_tryCatch (wpAny_pyNext_list_end (I.ok.hd hc) hit p.isList (by simp; omega) fun h' eb => ?_))
    have I2 : Inv (in1 X) pins σ H { s with heap := h' } := I.turned (t' := s.toks) (fun b o hb e => eb b o hb e) f0 f1 f3 f4 f5
    rcases hv _ _ _ hP with ⟨_, rfl⟩ | ⟨_, b, rfl⟩
    · obtain ⟨t, rfl⟩ := (show ∃ t, u = Value.int 0 t from hu)
      exact wpAny_pure (hR _ H (.int 0) _ I2 ⟨t, rfl⟩ hP)
    · cases (show u = Value.ref b from hu)
      exact wpAny_pure (hR _ H (.ref b) _ I2 rfl hP)
  | succ k ih =>
    intro i s H v u c stage hk hi hst I fi fS hit hS hu hP
    have hlt : i < xs.length := by omega
    refine codeAny_builtin F.entry_sum_loop ?_
    rw [Around.under_plainId F.plain_sum_loop _]
    show wpAny _ X.A.in1 (seqItems? (.ref S) >>= _) _ _ s
    refine wpAny_bind (wpAny_seqItems hS rfl ?_)
    show wpAny _ X.A.in1 (tryCatch (pyNext (.ref it)) _ >>= _) _ _ s
    obtain ⟨its, rv, p, hz⟩ := I.list (hx _ _ _ hi hP)
    obtain ⟨x, hxi⟩ : ∃ x, xs[i]? = some x := ⟨_, List.getElem?_eq_getElem hlt⟩
    obtain ⟨⟨b, rfl⟩, hs⟩ := hstep i v x H hxi hP
    obtain ⟨ub, hub, ru⟩ := rv.get hxi
    cases (show ub = Value.ref b from ru)
    obtain ⟨f0, f1, f2, f3, f4, f5⟩ := id fi
    obtain ⟨g0, g1, g2, g3, g4, g5⟩ := id fS
    refine wpAny_bind (wpAny_tryCatch (wpAny_pyNext_list_item hit p.isList (x := Value.ref b) (by simpa using hub) fun h' st' sb => ?_))
    have I2 : Inv (in1 X) pins σ H { s with heap := h' } := I.turned (t' := s.toks) (fun b o hb e => (sb.2 b hb).trans e) f0 f1 f3 f4 f5
    have hS' : h'.get? S = some (accO u c) := (sb.2 S hne).trans hS
    obtain ⟨oi, ei, ci, di⟩ := id st'
    have I3 : Inv (in1 X) ((S, accO u c) :: (it, oi) :: pins) σ H { s with heap := h' } := I2.pins_of fun q hq => by
      rcases List.mem_cons.mp hq with e | hq
      · subst e
        exact ⟨hS', g0, g1, g2, fun v z => by cases z⟩
      · rcases List.mem_cons.mp hq with e | hq
        · subst e
          exact ⟨ei, f0, f1, f2, fun v z => by rw [di] at z; cases z⟩
        · exact I2.pin q (List.mem_append_right _ hq)
    -- the sum of both
    have one := hop _ { s with heap := h' } σ H v (.ref b) u (.ref b) _ (I3.wish _) hu rfl hs
    have step : ∀ (r : Value) (s' : Shared) (H' : Hp) (r' : V) (e : Addr), Inv (in1 X) ((S, accO u c) :: (it, oi) :: pins) σ H' s' → r' = .ref e → RelV r' r → Pv (i + 1) r' H' →
        wpAny (model X.prog X.w) X.A.in1 (updateSeq S (fun _ => #[r]) >>= fun _ => letGo [u, Value.ref b] >>= fun _ => updateSeq S (fun _ => #[r]) >>= fun _ => again (.builtin "sum.loop" ⟨[.ref it, .ref S, rawInt 2, rawInt 0], []⟩))
          (fun fin s' => match fin with | .done f => RR (.ok f) s' | .again c' => c'.quiet = true ∧ codeAny (model X.prog X.w) X.A c' RR s') (fun e s' => RR (.error e) s') s' := by
      intro r s' H' r' e I4 er rr hP'
      subst er
      have hS4 : s'.heap.get? S = some (accO u c) := ClX.pin_at I4
      have n0 : H' S = none := ClX.pin_un I4
      have I5 := ClX.unpin I4
      have e4 : s'.heap.get? it = some oi := ClX.pin_at I5
      have m0 : H' it = none := ClX.pin_un I5
      have I6 := ClX.unpin I5
      refine wpAny_bind (wpAny_updateSeq hS4 rfl ?_)
      have hS5 := Heap.get?_update_self (Obj.mapSeq fun _ => #[r]) hS4 rfl
      refine wpAny_bind (wpAny_letGo ?_)
      refine wpAny_bind (wpAny_updateSeq hS5 rfl (wpAny_pure ⟨plainId_quiet F.plain_sum_loop _, ?_⟩))
      have hS6 := Heap.get?_update_self (Obj.mapSeq fun _ => #[r]) hS5 rfl
      have oth : ∀ b o, b ≠ S → s'.heap.get? b = some o → ((s'.heap.update S (Obj.mapSeq fun _ => #[r])).update S (Obj.mapSeq fun _ => #[r])).get? b = some o := fun b o hb eb =>
        (Heap.get?_update_other _ _ (Ne.symm hb)).trans ((Heap.get?_update_other _ _ (Ne.symm hb)).trans eb)
      have I7 : Inv (in1 X) pins σ H' { s' with heap := (s'.heap.update S (Obj.mapSeq fun _ => #[r])).update S (Obj.mapSeq fun _ => #[r]) } := I6.turned (t' := s'.toks) (fun b o hb e => oth b o hb e) n0 g1 g3 g4 g5
      exact ih (i + 1) _ H' (.ref e) r c 2 (by omega) hlt (.inr ⟨by omega, rfl⟩) I7 ⟨m0, f1, f2, f3, f4, f5⟩ ⟨n0, g1, g2, g3, g4, g5⟩ ⟨oi, oth _ _ (Ne.symm hne) e4, ci, di⟩ hS6 rr hP'
    rcases hv _ _ _ hP with ⟨rfl, rfl⟩ | ⟨hi0, d, rfl⟩
    · obtain ⟨t, rfl⟩ := (show ∃ t, u = Value.int 0 t from hu)
      have hst0 : stage = 0 := by omega
      subst hst0
      show wpAny _ X.A.in1 (rule "sum.leaves-ints" >>= fun _ => (holding [Value.ref b] (binaryOp .Add (.int 0 t) (.ref b))).attempt >>= _) _ _ _
      refine wpAny_bind (wpAny_rule ?_)
      refine wpAny_bind (wpAny_attempt (wpAny_holding (wpAny_mono one (fun r s' z => ?_) fun _ _ z => z.elim)))
      obtain ⟨r', H', I4, rr, ⟨e, er⟩, hP'⟩ := z
      have st := step r s' H' r' e I4.unwish er rr hP'
      subst er
      cases (show r = Value.ref e from rr)
      exact st
    · cases (show u = Value.ref d from hu)
      have hst2 : stage = 2 := by omega
      subst hst2
      show wpAny _ X.A.in1 ((holding [Value.ref b] (binaryOp .Add (.ref d) (.ref b))).attempt >>= _) _ _ _
      refine wpAny_bind (wpAny_attempt (wpAny_holding (wpAny_mono one (fun r s' z => ?_) fun _ _ z => z.elim)))
      obtain ⟨r', H', I4, rr, ⟨e, er⟩, hP'⟩ := z
      exact step r s' H' r' e I4.unwish er rr hP'
def rSumO (K : PySem.W.Frag) (R1 : R2) : List V → Hp → VK → Prop := fun vs H Q => ∃ (l : Addr) (xs : List V) (Pv : Nat → V → Hp → Prop), vs = [.ref l] ∧ SqL K H l xs ∧ (∀ i v H, i ≤ xs.length → Pv i v H → SqL K H l xs) ∧
  (∀ i v x H, xs[i]? = some x → Pv i v H → (∃ b, x = .ref b) ∧ R1 v x H fun r H' => (∃ c, r = .ref c) ∧ Pv (i + 1) r H') ∧ (∀ i v H, Pv i v H → (i = 0 ∧ v = .int 0) ∨ (0 < i ∧ ∃ c, v = .ref c)) ∧ Pv 0 (.int 0) H ∧ ∀ v H', Pv xs.length v H' → Q v H'
theorem call_sumO (hc : X.calm = true) (hop : OpR (in1 X).nox (binaryOp .Add) R1) : CallR X (.builtin "sum") (rSumO X.K R1) := by
  intro pins s σ H vs us Q I r h
  obtain ⟨l, xs, Pv, rfl, hq, hx, hstep, hv, h0, hQ⟩ := h
  obtain ⟨its, rv, p, hz⟩ := I.list hq
  rw [Vals.ref1 r]
  refine call_function_tree F.kind_sum F.plain_sum F.entry_sum (F.args_sum1 _) ?_
  unfold Builtin.«sum»
  simp only [List.length_cons, List.length_nil]
  rw [if_neg (by decide)]
  refine wpAny_bind (wpAny_of_eq (show Builtin.Builtins.bindParams "sum" ["start"] 0 { } = pure [none] from rfl) ?_)
  refine wpAny_bind (wpAny_pyIter_list p.isList ?_)
  refine wpAny_bind (wpAny_mkInt ?_)
  refine wpAny_bind (wpAny_pure ?_)
  simp only [List.forIn_cons, List.forIn_nil]
  refine wpAny_bind (wpAny_bind (wpAny_bind (wpAny_isInstance (T := "int") (b := false) (typeIs_int _ _ _) PySem.sub_int_str ?_)))
  simp only [Bool.false_eq_true, if_false]
  refine wpAny_pure (wpAny_bind (wpAny_bind (wpAny_isInstance (T := "int") (b := false) (typeIs_int _ _ _) PySem.sub_int_bytes ?_)))
  simp only [Bool.false_eq_true, if_false]
  refine wpAny_pure (wpAny_bind (wpAny_bind (wpAny_isInstance (T := "int") (b := false) (typeIs_int _ _ _) PySem.sub_int_bytearray ?_)))
  simp only [Bool.false_eq_true, if_false]
  refine wpAny_pure (wpAny_pure ?_)
  refine wpAny_bind (wpAny_newObj_type ?_)
  have I1 : Inv X pins σ H { s with heap := s.heap.push { cls := .type "list_iterator", data := .fields #[.ref l, .int 0 0] } } := I.kept (t' := s.toks) fun b o e => Heap.get?_push_of_some _ e
  have I2 : Inv X pins σ H { s with heap := (s.heap.push { cls := .type "list_iterator", data := .fields #[.ref l, .int 0 0] }).push { cls := .type "list", data := .seq #[.int 0 s.toks] }, toks := s.toks + 1 } := I.kept (t' := s.toks + 1) fun b o e => Heap.get?_push_of_some _ (Heap.get?_push_of_some _ e)
  have sz : (s.heap.push { cls := .type "list_iterator", data := .fields #[.ref l, .int 0 0] }).objs.size = s.heap.objs.size + 1 := Array.size_push _
  refine wpAny_pure ⟨plainId_quiet F.plain_sum_loop _, ?_⟩
  refine sum_loopO (pins := pins) (σ := σ) (l := l) (xs := xs) (Pv := Pv) hc hop ?_ hx hstep hv (fun s' H' v u I' r' hp => ⟨v, H', inv_out1 I', r', hQ v H' hp⟩) xs.length 0 _ H (.int 0) (.int 0 s.toks) 0 0 rfl (Nat.zero_le _) (.inl ⟨rfl, rfl⟩) (inv_in1 I2) ?_ ?_ ?_ ?_ ⟨_, rfl⟩ h0
  · show (s.heap.push _).objs.size ≠ s.heap.objs.size
    rw [sz]
    omega
  · exact I.fpOk (Nat.le_refl _) (I.hok.fresh (Nat.le_refl _))
  · refine I.fpOk ?_ (I.hok.fresh ?_)
    · show s.heap.objs.size ≤ (s.heap.push _).objs.size
      rw [sz]
      omega
    · show s.heap.objs.size ≤ (s.heap.push _).objs.size
      rw [sz]
      omega
  · exact ⟨_, Heap.get?_push_of_some _ (Heap.get?_push_size _ rfl), rfl, rfl⟩
  · exact Heap.get?_push_size _ rfl
end
end SP
/-! Methods and properties as the top has written them. -/
namespace SP
open PySem PySem.Spec PyProof.Rows L2
/-- a method as the top has written it -/
structure MethT (K : PySem.W.Frag) (C : Addr) (x qual : Str) (st : Stmt) (ps : List Str) : Prop where
  ex : ∃ (f : Addr) (fd : FuncData), PySem.W.findIn K (.ref C) x = some (some (.ref f)) ∧ PySem.W.isFn K (.ref f) = true ∧ Fun K x qual st f fd ∧ Binds K fd ps []
/-- a property -/
structure PropT (K : PySem.W.Frag) (C : Addr) (x qual : Str) (st : Stmt) : Prop where
  ex : ∃ (p g : Addr) (fd : FuncData), PropOf K C x p g ∧ Fun K x qual st g fd ∧ Binds K fd ["self"] []
end SP
namespace SP
open PySem PySem.Spec PyProof.Rows L2
/-- the text by places -/
def top (i : Nat) : Stmt := PySem.Challenge.pw_surepipes_k13_amounts_read_and_written.main.body.getD i (.Pass ⟨0, 0, 0, 0⟩)
end SP
/-! Small lemmas that several classes want. -/
namespace SP
open PySem PySem.Spec PyProof.Rows L2
theorem kSelf {K : PySem.W.Frag} {C : Addr} : PySem.W.kitOne K (.ref C) (.ref C) = some true := by
  unfold PySem.W.kitOne
  rw [if_pos (beq_self_eq_true _)]
theorem opr_imp {X : Cx} {f : Value → Value → Sem Value} {r r' : R2} (h : OpR X f r) (i : ∀ x y H Q, r' x y H Q → r x y H Q) : OpR X f r' := fun pins s σ H x y v u Q I rx ry q => h pins s σ H x y v u Q I rx ry (i x y H Q q)
theorem nf_self {K : PySem.W.Frag} {C : Addr} : PySem.W.notFirst K C (.ref C) = true := by
  unfold PySem.W.notFirst
  rw [beq_self_eq_true] <;> rfl
theorem fnok_imp {P : Program} {w : World} {K : PySem.W.Frag} {mg : Str → Option Value} {base : Heap} {CX : CXT} {k : Nat} {f : Addr} {fd : FuncData} {ps : List Str} {sp sp' : Sp} (F : FnOk P w K mg base CX k f fd ps sp) (i : ∀ vs H Q E, sp' vs H Q E → sp vs H Q E) : FnOk P w K mg base CX k f fd ps sp' :=
  ⟨fun vs H Q E h => F.len vs H Q E (i vs H Q E h), fun A out s H ar us vs Q E hr e0 hb r h => F.run A out s H ar us vs Q E hr e0 hb r (i vs H Q E h)⟩
/-- a def that raises nothing, where something might be raised -/
theorem fnok_cx {P : Program} {w : World} {K : PySem.W.Frag} {mg : Str → Option Value} {base : Heap} {k : Nat} {f : Addr} {fd : FuncData} {ps : List Str} {sp : Sp} (F : FnOk P w K mg base CX0 k f fd ps sp) : FnOk P w K mg base (L2.CX P w) k f fd ps sp :=
  ⟨F.len, fun A out s H ar us vs Q E hr e0 hb r h => codeAny_mono (F.run A out s H ar us vs Q E hr e0 hb r h) fun r s' q => match r, q with
    | .error _, q => (show False from q).elim
    | .ok (.ret _), q => q
    | .ok .next, q => q
    | .ok .brk, q => q
    | .ok .cont, q => q⟩
theorem fnok_or {P : Program} {w : World} {K : PySem.W.Frag} {mg : Str → Option Value} {base : Heap} {CX : CXT} {k : Nat} {f : Addr} {fd : FuncData} {ps : List Str} {sp sp' : Sp} (F : FnOk P w K mg base CX k f fd ps sp) (G : FnOk P w K mg base CX k f fd ps sp') : FnOk P w K mg base CX k f fd ps (fun vs H Q E => sp vs H Q E ∨ sp' vs H Q E) :=
  ⟨fun vs H Q E h => h.elim (F.len vs H Q E) (G.len vs H Q E), fun A out s H ar us vs Q E hr e0 hb r h => h.elim (F.run A out s H ar us vs Q E hr e0 hb r) (G.run A out s H ar us vs Q E hr e0 hb r)⟩
/-- named arguments in another order -/
theorem fun_kbg {K : PySem.W.Frag} {x qual : Str} {st : Stmt} {f : Addr} {fd : FuncData} {ps ks : List Str} {n : Nat} {g : List Value → List Value → List Value} {gV : List V → List V → List V} (F : Fun K x qual st f fd)
    (h : ∀ (kV doc pm : Value) (an : Option Addr) (cdv ct : Value) (us ws : List Value), us.length = n → ws.length = ks.length → bindArgs (PySem.W.fnOf x qual (defArgs st) (defBody st) (defScope st) .none kV doc pm an cdv ct) ⟨us, ks.zip ws⟩ = pure (ps.zip (g us ws)))
    (r : ∀ {vs : List V} {us : List Value} {zs : List V} {ws : List Value}, Vals vs us → Vals zs ws → Vals (gV vs zs) (g us ws)) : KBn K fd ps n ks g gV := by
  obtain ⟨oc, od, kV, doc, pm, an, cdv, ct, osl, rfl, lk, hcd⟩ := F.ex
  exact ⟨fun s us ws X l1 l2 => .of_eq (h kV doc pm an cdv ct us ws l1 l2), r⟩
end SP
namespace SP
open PySem PySem.Spec PyProof.Rows L2
abbrev sIsInt : Stmt := top 9
abbrev sCD : Stmt := top 10
abbrev sPl : Stmt := top 11
abbrev sMEq : Stmt := inClass (top 14) 16
abbrev sMLt : Stmt := inClass (top 14) 17
abbrev sMLe : Stmt := inClass (top 14) 18
abbrev sMGt : Stmt := inClass (top 14) 19
abbrev sMGe : Stmt := inClass (top 14) 20
abbrev sMStr : Stmt := inClass (top 14) 21
abbrev sMRepr : Stmt := inClass (top 14) 22
abbrev sMTop : Stmt := inClass (top 14) 3
abbrev sInit : Stmt := inClass (top 14) 0


/-- what isinstance(y, Amount) asks of the kinds that are not the class's -/
structure NotAm (K : PySem.W.Frag) (C : Addr) : Prop where
  i : PySem.W.kitOne K (.type "int") (.ref C) = some false
  b : PySem.W.kitOne K (.type "bool") (.ref C) = some false
  s : PySem.W.kitOne K (.type "str") (.ref C) = some false
  n : PySem.W.kitOne K (.type "NoneType") (.ref C) = some false
  t : PySem.W.kitOne K (.type "tuple") (.ref C) = some false
  l : PySem.W.kitOne K (.type "list") (.ref C) = some false
/-- what the top has written of the amounts' part -/
structure AmTxt (K : PySem.W.Frag) (mg : Str → Option Value) (C : Addr) : Prop where
  b_isinstance : mg "isinstance" = none
  b_int : mg "int" = none
  b_bool : mg "bool" = none
  b_abs : mg "abs" = none
  tII : Top K mg "is_integer" sIsInt ["value"]
  tCD : Top K mg "common_divisor" sCD ["one", "other"]
  tPl : Top K mg "place_of" sPl ["top", "bottom"]
  gC : mg "Amount" = some (.ref C)
  cl : Cls K C
  ca : PySem.W.findIn K (.ref C) "__class__" = some (some (.builtin "object.__class__"))
  cn : PySem.W.specialIn K (.builtin "object.__class__") "__get__" = some (some (.builtin "getset_descriptor.__get__"))
  ck : PySem.W.takesIn K (.builtin "object.__class__") = some true
  cm : PySem.W.mroIn K C (.type "object") = some true
  ne : PySem.W.findIn K (.ref C) "__ne__" = some (some (.builtin "object.__ne__"))
  fg : FgnOk K C
  na : NotAm K C
  nT : NoAttr K C "own_top"
  nB : NoAttr K C "own_bottom"
  nP : NoAttr K C "own_place"
  mkC : ∃ (fI : Addr) (fd : FuncData), Mk K C fI ∧ FunD K "__init__" "Amount.__init__" (defArgs sInit) (defBody sInit) (defScope sInit) [.int 1] [] fI fd
section
variable {P : Program} {w : World} {K : PySem.W.Frag} {mg : Str → Option Value} {base : Heap} {C : Addr}
/-! ### is_integer -/
/-- of any value whose kind is told -/
def spII (K : PySem.W.Frag) : Sp := fun vs H Q _ => ∃ (v : V) (t : Value) (b1 b2 : Bool), vs = [v] ∧ TyX K H v t ∧ PySem.W.kitOne K t (.type "int") = some b1 ∧ PySem.W.kitOne K t (.type "bool") = some b2 ∧ Q (.bl (b1 && !b2)) H
theorem scII : FnScope ["value"] ["value"] (defScope sIsInt) := ⟨rfl, rfl, rfl, by decide +kernel, rfl, by decide +kernel, by decide +kernel⟩
theorem d_ii (T : AmTxt K mg C) : DefO P w K mg base 1 "is_integer" ["value"] (spII K) := by
  refine T.tII.okO scII (fun vs H Q E h => ?_) (fun f cdv A out s H vs Q E hr h => ?_)
  · obtain ⟨v, t, b1, b2, rfl, _⟩ := h
    rfl
  · obtain ⟨v, t, b1, b2, rfl, ty, k1, k2, q⟩ := h
    refine ⟨_, (pss_one (ps_ret (pe_and (pe_callB call_isi (by rfl) T.b_isinstance (by decide +kernel) (pa_cons (pv 0) (pa_cons (pe_bltn (v := .ty "int") (by rfl) T.b_int (by decide +kernel) rfl) pa_nil))) (pe_one (pe_not (pe_callB call_isi (by rfl) T.b_isinstance (by decide +kernel) (pa_cons (pv 0) (pa_cons (pe_bltn (v := .ty "bool") (by rfl) T.b_bool (by decide +kernel) rfl) pa_nil)))))))), ?_⟩
    refine ⟨_, rfl, v, .ty "int", t, _, b1, rfl, .ty _, ty, k1, b1, rfl, ?_⟩
    cases b1 with
    | true => exact iteT ⟨_, rfl, v, .ty "bool", t, _, b2, rfl, .ty _, ty, k2, b2, rfl, q⟩
    | false => exact iteF q
/-! ### common_divisor -/
def spCD : Sp := fun vs H Q _ => ∃ a b : Int, vs = [.int a, .int b] ∧ Q (.int (Int.gcd a b : Nat)) H
theorem scCD : FnScope ["one", "other"] ["one", "other"] (defScope sCD) := ⟨rfl, rfl, rfl, by decide +kernel, rfl, by decide +kernel, by decide +kernel⟩
theorem abs_if (a : Int) : (if a < 0 then -a else a) = (a.natAbs : Int) := by split <;> omega
theorem d_cd (T : AmTxt K mg C) : DefO P w K mg base 1 "common_divisor" ["one", "other"] spCD := by
  refine T.tCD.okO scCD (fun vs H Q E h => ?_) (fun f cdv A out s H vs Q E hr h => ?_)
  · obtain ⟨a, b, rfl, _⟩ := h
    rfl
  · obtain ⟨a, b, rfl, q⟩ := h
    refine ⟨_, (pss_cons (ps_par (i := 0) (j := 1) (by rfl) scCD.nd rfl rfl (by decide) rfl rfl (pa_cons (pe_callB call_abs (by rfl) T.b_abs (by decide +kernel) (pa_cons (pv 0) pa_nil)) (pa_cons (pe_callB call_abs (by rfl) T.b_abs (by decide +kernel) (pa_cons (pv 1) pa_nil)) pa_nil)) (by rfl))
  (pss_cons (ps_while PassesOwn.never (pt_cmpR op_ne (pv 1) pe_int (nomark _)) (pss_one (ps_par (i := 0) (j := 1) (by rfl) scCD.nd rfl rfl (by decide) rfl rfl (pa_cons (pv 1) (pa_cons (pe_op op_mod (pv 0) (pv 1)) pa_nil)) (by rfl))))
  (pss_one (ps_ret (pv 0))))), ?_⟩
    refine ⟨_, rfl, a, rfl, _, rfl, b, rfl, _, _, rfl, ?_⟩
    refine ⟨fun m σ H' => H' = H ∧ ∃ x : Nat, σ = [some (.int x), some (.int m)] ∧ M.eu x m = Int.gcd a b, ⟨b.natAbs, rfl, a.natAbs, ?_, ?_⟩, ?_⟩
    · rw [abs_if, abs_if] <;> rfl
    · rw [M.eu_gcd] <;> rfl
    · rintro m σ H' ⟨rfl, x, rfl, e⟩
      refine ⟨_, rfl, rfl, _, rfl, ?_⟩
      by_cases hm : m = 0
      · subst hm
        refine iteNS rfl ?_
        refine ⟨_, rfl, ?_⟩
        rw [M.eu_zero] at e
        show Q (.int (x : Int)) H'
        rw [e]
        exact q
      · have hd : decide (V.int (m : Int) = V.int 0) = false := decide_eq_false (fun z => hm (by injection z; omega))
        show (if (!decide (V.int (m : Int) = V.int 0)) = true then _ else _)
        rw [hd]
        refine iteT ⟨fun σ1 H1 => H1 = H' ∧ σ1 = [some (.int (m : Int)), some (.int ((x % m : Nat) : Int))], ?_, ?_⟩
        · rintro σ1 H1 ⟨rfl, rfl⟩
          exact ⟨x % m, Nat.mod_lt _ (Nat.pos_of_ne_zero hm), rfl, m, rfl, by rw [← M.eu_step hm]; exact e⟩
        · exact ⟨_, rfl, _, rfl, _, rfl, _, _, rfl, rfl, (by show (0 : Int) < (m : Int); omega), _, _, rfl, rfl, rfl⟩
/-! ### place_of -/
def spPl : Sp := fun vs H Q _ => ∃ t b : Int, vs = [.int t, .int b] ∧ 0 < b ∧ b.natAbs < 2 ^ 8000 ∧ ∀ p H', Same H H' → H p = none → H' p = some (.tup ((M.plc 1 t b.toNat).map V.int)) → Q (.ref p) H'
theorem scPl : FnScope ["top", "bottom", "found", "sign"] ["top", "bottom"] (defScope sPl) := ⟨rfl, rfl, rfl, by decide +kernel, rfl, by decide +kernel, by decide +kernel⟩
/-- what the loop of place_of has found ahead of what is left -/
def PlI (H : Hp) (t0 : Int) (b0 : Nat) (m : Nat) (σ : L2.St) (H' : Hp) : Prop := Same H H' ∧ ∃ (t s : Int) (p : Addr) (xs : List Int), σ = [some (.int t), some (.int (m : Int)), some (.ref p), some (.int s)] ∧ (s = 1 ∨ s = -1) ∧ H p = none ∧ H' p = some (.tup (xs.map V.int)) ∧
  xs ++ M.plc s t m = M.plc 1 t0 b0 ∧ m ≤ b0 ∧ ∃ j : Nat, xs.length = 2 * j ∧ j ≤ 16001 ∧ (j = 0 ∨ ∃ t' : Nat, t = t' ∧ m < t' ∧ t' * m * 2 ^ (j - 1) < 2 ^ 16000)
theorem d_pl (T : AmTxt K mg C) : DefO P w K mg base 1 "place_of" ["top", "bottom"] spPl := by
  refine T.tPl.okO scPl (fun vs H Q E h => ?_) (fun f cdv A out s H vs Q E hr h => ?_)
  · obtain ⟨t, b, rfl, _⟩ := h
    rfl
  · obtain ⟨t, bi, rfl, hbi, hw, q⟩ := h
    obtain ⟨b, rfl⟩ : ∃ b : Nat, bi = (b : Int) := ⟨bi.toNat, by omega⟩
    have hb : 0 < b := by omega
    have hw : b < 2 ^ 8000 := hw
    have q : ∀ p H', Same H H' → H p = none → H' p = some (.tup ((M.plc 1 t b).map V.int)) → Q (.ref p) H' := q
    refine ⟨_, (pss_cons (ps_asg (pe_tup (pa_cons (pe_tup pa_nil) (pa_cons pe_int pa_nil))) (pg_tup (by rfl) (pgs_cons (pg_name (i := 2) scPl.nd rfl (Or.inl rfl)) (pgs_cons (pg_name (i := 3) scPl.nd rfl (Or.inl rfl)) pgs_nil))))
  (pss_cons (ps_while PassesOwn.never (pt_cmpR op_ne (pv 1) pe_int (nomark _)) (pss_cons (ps_set (i := 2) scPl.nd rfl (Or.inl rfl) (pe_op op_catA (pv 2) (pe_tup (pa_cons pe_int (pa_cons (pe_op op_mul (pv 3) (pe_op op_fdivW (pv 0) (pv 1))) pa_nil)))))
  (pss_one (ps_par3 (i := 0) (j := 1) (l := 3) (by rfl) scPl.nd rfl rfl rfl (by decide) (by decide) (by decide) rfl rfl rfl (pa_cons (pv 1) (pa_cons (pe_op op_mod (pv 0) (pv 1)) (pa_cons (pe_un un_neg (pv 3)) pa_nil))) (by rfl)))))
  (pss_one (ps_ret (pe_op op_catA (pv 2) (pe_tup (pa_cons (pv 3) pa_nil))))))), ?_⟩
    refine ⟨by show 0 ≤ sizeLine; decide, fun p hp => ⟨by show 2 ≤ sizeLine; decide, fun z hz => ⟨z, _, rfl, SqT.of upd_same, rfl, _, _, rfl, _, _, rfl, rfl, ?_⟩⟩⟩
    have pz : p ≠ z := ne_of_none upd_same hz
    refine ⟨fun m σ H' => PlI H t b m σ H', ⟨b, (Same.new hp).trans (Same.new hz), t, 1, p, [], rfl, .inl rfl, hp, by rw [upd_ne pz]; exact upd_same, rfl, Nat.le_refl _, 0, rfl, by decide, .inl rfl⟩, ?_⟩
    rintro m σ H' ⟨sm, t1, s1, p1, xs, rfl, hs, hn, hx, ee, hm1, j, hl, hj, hjt⟩
    refine ⟨_, rfl, rfl, _, rfl, ?_⟩
    by_cases hm : m = 0
    · subst hm
      refine iteNS rfl ?_
      rw [M.plc_zero] at ee
      refine ⟨_, rfl, _, rfl, by show 1 ≤ sizeLine; decide, fun u hu => ?_⟩
      have pu : p1 ≠ u := ne_of_none hx hu
      have sm2 : Same H' (upd H' u (.tup [.int s1])) := Same.new hu
      have fin : ((xs ++ [s1]).map V.int) = xs.map V.int ++ [V.int s1] := by simp
      refine ⟨p1, u, xs.map V.int, [.int s1], rfl, rfl, SqT.of (sm2 _ _ hx), SqT.of upd_same, ?_, fun e0 => ?_, fun _ e1 => ?_, fun _ _ v hv => ?_⟩
      · rw [List.length_map]
        show xs.length + 1 ≤ sizeLine
        exact Nat.le_trans (by omega : xs.length + 1 ≤ 40000) (by decide)
      · have x0 : xs = [] := List.map_eq_nil_iff.mp e0
        subst x0
        refine q u _ (sm.trans sm2) (sm.free hu) ?_
        rw [← ee]
        exact upd_same
      · cases e1
      · refine q v _ ((sm.trans sm2).trans (Same.new hv)) ((sm.trans sm2).free hv) ?_
        rw [← ee, fin]
        exact upd_same
    · have hd : decide (V.int (m : Int) = V.int 0) = false := decide_eq_false (fun z => hm (by injection z; omega))
      show (if (!decide (V.int (m : Int) = V.int 0)) = true then _ else _)
      rw [hd]
      have hmp : (0 : Int) < (m : Int) := by omega
      refine iteT ⟨fun σ1 H1 => PlI H t b (t1 % (m : Int)).toNat σ1 H1, ?_, ?_⟩
      · rintro σ1 H1 ⟨h1, t2, s2, p2, ys, rfl, rest⟩
        refine ⟨_, ?_, h1, t2, s2, p2, ys, rfl, rest⟩
        have := Int.emod_lt_of_pos t1 hmp
        have := Int.emod_nonneg t1 (show (m : Int) ≠ 0 by omega)
        omega
      · refine ⟨_, rfl, _, rfl, _, rfl, _, rfl, _, _, rfl, rfl, wide_div hmp (b := 8000) ?_ (by decide) (by decide), _, _, rfl, rfl, ?_, by show 2 ≤ sizeLine; decide, fun u hu => ?_⟩
        · have : (m : Int).natAbs = m := rfl
          rw [this]
          omega
        · refine .inl ?_
          rcases hs with rfl | rfl <;> exact ⟨by decide, by decide⟩
        · have pu : p1 ≠ u := ne_of_none hx hu
          have r0 := Int.emod_nonneg t1 (show (m : Int) ≠ 0 by omega)
          have r1 := Int.emod_lt_of_pos t1 hmp
          have rc : ((t1 % (m : Int)).toNat : Int) = t1 % m := Int.toNat_of_nonneg r0
          have cut : ∀ (v : Addr) (H2 : Hp), Same H H2 → H v = none → H2 v = some (.tup ((xs ++ [0, s1 * (t1 / m)]).map V.int)) → PlI H t b (t1 % (m : Int)).toNat [some (.int (m : Int)), some (.int (t1 % m)), some (.ref v), some (.int (-s1))] H2 := by
            intro v H2 k1 k2 k3
            refine ⟨k1, m, -s1, v, xs ++ [0, s1 * (t1 / m)], by rw [rc], by rcases hs with h | h <;> rw [h] <;> decide, k2, k3, ?_, by omega, j + 1, by rw [List.length_append, hl] <;> rfl, ?_, ?_⟩
            · rw [← ee, M.plc_step hm, List.append_assoc]
              rfl
            · rcases hjt with rfl | ⟨t', rfl, h1, h2⟩
              · decide
              · by_cases h0 : j = 0
                · omega
                · have := (M.step_bound (by omega) h1 (by omega) h2).2
                  omega
            · refine .inr ⟨m, rfl, by omega, ?_⟩
              rcases hjt with rfl | ⟨t', rfl, h1, h2⟩
              · show m * (t1 % (m : Int)).toNat * 2 ^ 0 < 2 ^ 16000
                have a1 : (t1 % (m : Int)).toNat < m := by omega
                have a2 : m * (t1 % (m : Int)).toNat ≤ m * m := Nat.mul_le_mul_left _ (Nat.le_of_lt a1)
                have a3 : m < 2 ^ 8000 := by omega
                have a4 : m * m < 2 ^ 8000 * 2 ^ 8000 := Nat.mul_lt_mul'' a3 a3
                have a5 : (2 : Nat) ^ 8000 * 2 ^ 8000 = 2 ^ 16000 := by rw [← Nat.pow_add]
                omega
              · by_cases h0 : j = 0
                · subst h0
                  have a1 : ((t' : Int) % (m : Int)).toNat < m := by omega
                  have a2 : m * ((t' : Int) % (m : Int)).toNat ≤ m * m := Nat.mul_le_mul_left _ (Nat.le_of_lt a1)
                  have a3 : m < 2 ^ 8000 := by omega
                  have a4 : m * m < 2 ^ 8000 * 2 ^ 8000 := Nat.mul_lt_mul'' a3 a3
                  have a5 : (2 : Nat) ^ 8000 * 2 ^ 8000 = 2 ^ 16000 := by rw [← Nat.pow_add]
                  show m * ((t' : Int) % (m : Int)).toNat * 2 ^ 0 < 2 ^ 16000
                  omega
                · have := (M.step_bound (by omega) h1 (by omega) h2).1
                  have e : ((t' : Int) % (m : Int)).toNat = t' % m := rfl
                  rw [e]
                  exact this
          have lx : (xs.map V.int).length + 2 ≤ sizeLine := by
            rw [List.length_map]
            exact Nat.le_trans (by omega : xs.length + 2 ≤ 40000) (by decide)
          have ap : (xs ++ [0, s1 * (t1 / m)]).map V.int = xs.map V.int ++ [.int 0, .int (s1 * (t1 / m))] := by simp
          have sm2 : Same H' (upd H' u (.tup [.int 0, .int (s1 * (t1 / m))])) := Same.new hu
          refine ⟨p1, u, xs.map V.int, [.int 0, .int (s1 * (t1 / m))], rfl, rfl, SqT.of (sm2 _ _ hx), SqT.of upd_same, lx, fun e0 => ?_, fun _ e1 => ?_, fun _ _ v hv => ?_⟩
          · have x0 : xs = [] := List.map_eq_nil_iff.mp e0
            subst x0
            refine ⟨_, rfl, _, rfl, _, rfl, _, _, rfl, rfl, hmp, _, rfl, s1, rfl, _, _, _, rfl, cut u _ (sm.trans sm2) (sm.free hu) upd_same⟩
          · cases e1
          · refine ⟨_, rfl, _, rfl, _, rfl, _, _, rfl, rfl, hmp, _, rfl, s1, rfl, _, _, _, rfl, cut v _ ((sm.trans sm2).trans (Same.new hv)) ((sm.trans sm2).free hv) ?_⟩
            rw [ap]
            exact upd_same
/-! ### Amount(top, bottom) -/
/-- what __init__ stores: in lowest terms, the bottom above 0 -/
structure Low (top bottom t b : Int) : Prop where
  pos : 0 < b
  one : Int.gcd t b = 1
  eq : t * bottom = top * b
  lt : t.natAbs ≤ top.natAbs
  lb : b.natAbs ≤ bottom.natAbs
def spInit (C : Addr) : Sp := fun vs H Q _ => ∃ (x dx : Addr) (tp bt : Int), vs = [.ref x, .int tp, .int bt] ∧ H x = some (.ins C dx []) ∧ bt ≠ 0 ∧ tp.natAbs < 2 ^ 8000 ∧ bt.natAbs < 2 ^ 8000 ∧
  ∀ (t b : Int) (H' : Hp), Low tp bt t b → AmAt C H' x t b → (∀ c o, H c = some o → c ≠ x → H' c = some o) → Q .non H'
theorem scIn : FnScope ["self", "top", "bottom", "divisor"] ["self", "top", "bottom"] (defScope sInit) := ⟨rfl, rfl, rfl, by decide +kernel, rfl, by decide +kernel, by decide +kernel⟩
theorem low_of {tp bt d s : Int} (hb : bt ≠ 0) (hs : (s = 1 ∧ 0 < bt) ∨ (s = -1 ∧ bt < 0)) (hd : d = (Int.gcd tp bt : Nat) * s) : d ≠ 0 ∧ d.natAbs ≤ bt.natAbs ∧ Low tp bt (tp.fdiv d) (bt.fdiv d) := by
  have g0 : 0 < Int.gcd tp bt := Int.gcd_pos_of_ne_zero_right _ hb
  obtain ⟨u, hu⟩ := Int.gcd_dvd_left (a := tp) (b := bt)
  obtain ⟨v, hv⟩ := Int.gcd_dvd_right (a := tp) (b := bt)
  generalize hg : Int.gcd tp bt = g at *
  have gp : (0 : Int) < g := by omega
  have dn : d ≠ 0 := by
    rcases hs with ⟨rfl, _⟩ | ⟨rfl, _⟩ <;> omega
  have e1 : tp.fdiv d = s * u := by
    have : tp = d * (s * u) := by
      rw [hu, hd]
      rcases hs with ⟨rfl, _⟩ | ⟨rfl, _⟩
      · simp
      · simp [Int.neg_mul, Int.mul_neg]
    rw [this]
    exact Int.mul_fdiv_cancel_left _ dn
  have e2 : bt.fdiv d = s * v := by
    have : bt = d * (s * v) := by
      rw [hv, hd]
      rcases hs with ⟨rfl, _⟩ | ⟨rfl, _⟩
      · simp
      · simp [Int.neg_mul, Int.mul_neg]
    rw [this]
    exact Int.mul_fdiv_cancel_left _ dn
  have dabs : d.natAbs = g := by
    rcases hs with ⟨rfl, _⟩ | ⟨rfl, _⟩ <;> omega
  have vn : v ≠ 0 := by
    intro e
    rw [e] at hv
    simp at hv
    exact hb hv
  have va : 1 ≤ v.natAbs := by omega
  have btn : bt.natAbs = g * v.natAbs := by
    rw [hv, Int.natAbs_mul]
    rfl
  have tpn : tp.natAbs = g * u.natAbs := by
    rw [hu, Int.natAbs_mul]
    rfl
  have sabs : ∀ z : Int, (s * z).natAbs = z.natAbs := by
    intro z
    rcases hs with ⟨rfl, _⟩ | ⟨rfl, _⟩ <;> simp
  have gg : g * Int.gcd u v = g := by
    have q := Int.gcd_mul_left (g : Int) u v
    rw [← hu, ← hv, hg] at q
    have : (g : Int).natAbs = g := rfl
    rw [this] at q
    exact q.symm
  have g1 : Int.gcd u v = 1 := by
    have : g * Int.gcd u v = g * 1 := by rw [gg, Nat.mul_one]
    exact Nat.eq_of_mul_eq_mul_left g0 this
  refine ⟨dn, ?_, ?_⟩
  · rw [dabs, btn]
    exact Nat.le_mul_of_pos_right _ va
  rw [e1, e2]
  refine ⟨?_, ?_, ?_, ?_, ?_⟩
  · rcases hs with ⟨rfl, h⟩ | ⟨rfl, h⟩
    · have : 0 < v := by
        rcases Int.lt_or_le 0 v with z | z
        · exact z
        · have q := Int.mul_le_mul_of_nonneg_left z (Int.le_of_lt gp)
          rw [Int.mul_zero] at q
          omega
      omega
    · have : v < 0 := by
        rcases Int.lt_or_le v 0 with z | z
        · exact z
        · have q := Int.mul_nonneg (Int.le_of_lt gp) z
          omega
      omega
  · have q : Int.gcd (s * u) (s * v) = Int.gcd u v := by
      unfold Int.gcd
      rw [sabs, sabs]
    rw [q, g1]
  · rw [hu, hv]
    rw [Int.mul_assoc, Int.mul_comm u, Int.mul_assoc, Int.mul_assoc, ← Int.mul_assoc s, Int.mul_comm s, Int.mul_assoc, Int.mul_comm v u]
    rw [Int.mul_comm u (s * v)]
    rw [Int.mul_assoc s v u, Int.mul_comm v u]
  · rw [sabs, tpn]
    exact Nat.le_mul_of_pos_left _ g0
  · rw [sabs, btn]
    exact Nat.le_mul_of_pos_left _ g0
theorem kII {K : PySem.W.Frag} : PySem.W.kitOne K (.type "int") (.type "int") = some true := kit_ty (by decide +kernel)
theorem kIB {K : PySem.W.Frag} : PySem.W.kitOne K (.type "int") (.type "bool") = some false := kit_ty (by decide +kernel)
theorem ok_init {fI : Addr} {fd : FuncData} (F : FunD K "__init__" "Amount.__init__" (defArgs sInit) (defBody sInit) (defScope sInit) [.int 1] [] fI fd) (T : AmTxt K mg C) : FnOk P w K mg base CX0 2 fI fd ["self", "top", "bottom"] (spInit C) := by
  have DI := d_ii (P := P) (w := w) (base := base) T
  have DC := d_cd (P := P) (w := w) (base := base) T
  have DP := d_pl (P := P) (w := w) (base := base) T
  refine F.ok scIn (fun vs H Q E h => ?_) (fun cdv A out s H vs Q E hr h => ?_)
  · obtain ⟨x, dx, tp, bt, rfl, _⟩ := h
    rfl
  · obtain ⟨x, dx, tp, bt, rfl, hx, hb, h1, h2, q⟩ := h
    refine ⟨_, PSs.nox (pss_cons (ps_if (pt_not (pt_val (pe_callO DI (hr.mono (by decide)) (pa_cons (pv 1) pa_nil)))) (pss_one ps_never) pss_nil)
  (pss_cons (ps_if (PW.pt (pw_or (pt_not (pt_val (pe_callO DI (hr.mono (by decide)) (pa_cons (pv 2) pa_nil)))) (pw_or1 (pt_cmpR op_eq (pv 2) pe_int (nomark _))))) (pss_one ps_never) pss_nil)
  (pss_cons (ps_set (i := 3) scIn.nd rfl (Or.inl rfl) (pe_op op_mul (pe_callO DC (hr.mono (by decide)) (pa_cons (pv 1) (pa_cons (pv 2) pa_nil))) (pe_ifExp (pt_cmpR op_gt (pv 2) pe_int (nomark _)) pe_int (pe_un un_neg pe_int))))
  (pss_cons (ps_fld (pv 0) (pe_op op_fdivA (pv 1) (pv 3)) rfl)
  (pss_cons (ps_fld (pv 0) (pe_op op_fdivA (pv 2) (pv 3)) rfl)
  (pss_one (ps_fld (pv 0) (pe_callO DP (hr.mono (by decide)) (pa_cons (pe_fld (pv 0) rfl) (pa_cons (pe_fld (pv 0) rfl) pa_nil))) rfl))))))), ?_⟩
    refine ⟨_, rfl, _, _, true, false, rfl, .base (.int tp), kII, kIB, true, rfl, iteF ?_⟩
    refine ⟨_, rfl, _, _, true, false, rfl, .base (.int bt), kII, kIB, true, rfl, iteF ?_⟩
    refine ⟨_, rfl, rfl, _, rfl, ?_⟩
    rw [decide_eq_false (show ¬ V.int bt = V.int 0 from fun z => hb (by injection z))]
    refine iteF ?_
    have sg : (((1 : Int) = 1 ∧ 0 < bt) ∨ ((1 : Int) = -1 ∧ bt < 0)) ∨ (((-1 : Int) = 1 ∧ 0 < bt) ∨ ((-1 : Int) = -1 ∧ bt < 0)) := by omega
    have key : ∀ d : Int, d ≠ 0 → d.natAbs ≤ bt.natAbs → Low tp bt (tp.fdiv d) (bt.fdiv d) → CDivA tp d ∧ CDivA bt d := fun d dn dl _ =>
      have z : d.natAbs.log2 < 9000 := Nat.lt_of_lt_of_le (PySem.Flt.log2_lt_of (by decide) (Nat.lt_of_le_of_lt dl h2)) (by decide)
      ⟨⟨dn, z⟩, ⟨dn, z⟩⟩
    refine ⟨_, rfl, _, rfl, tp, bt, rfl, _, rfl, _, _, rfl, rfl, _, rfl, ?_⟩
    rcases sg with sg | sg
    · obtain ⟨dn, dl, lw⟩ := low_of hb sg (d := (Int.gcd tp bt : Nat) * 1) rfl
      rw [decide_eq_true (show 0 < bt by omega)]
      refine iteT ⟨_, _, rfl, rfl, .inr ⟨by decide, by decide⟩, ?_⟩
      obtain ⟨k1, k2⟩ := key _ dn dl lw
      refine ⟨_, rfl, _, rfl, _, _, rfl, rfl, k1, _, rfl, x, C, dx, [], rfl, hx, T.cl, T.nT, (by show 0 < 1000; decide), ?_⟩
      refine ⟨_, rfl, _, rfl, _, _, rfl, rfl, k2, _, rfl, x, C, dx, _, rfl, upd_same, T.cl, T.nB, (by show 1 < 1000; decide), ?_⟩
      refine ⟨_, rfl, x, C, dx, _, _, rfl, upd_same, T.cl, T.nT, (by rw [lookup_putF, if_neg n_tb, lookup_putF, if_pos rfl]), _, rfl, x, C, dx, _, _, rfl, upd_same, T.cl, T.nB, (by rw [lookup_putF, if_pos rfl]), ?_⟩
      refine ⟨_, _, rfl, lw.pos, Nat.lt_of_le_of_lt lw.lb h2, fun p H' sm hn hp => ?_⟩
      refine ⟨_, rfl, x, C, dx, _, rfl, sm _ _ upd_same, T.cl, T.nP, (by rw [am_put1]; show 2 < 1000; decide), ?_⟩
      have xp : x ≠ p := ne_of_none upd_same hn
      refine q _ _ _ lw ⟨lw.pos, dx, p, by rw [am_put]; exact upd_same, by rw [upd_ne xp.symm]; exact hp⟩ fun c o hc hcx => ?_
      rw [upd_ne hcx]
      exact sm _ _ (by rw [upd_ne hcx, upd_ne hcx]; exact hc)
    · obtain ⟨dn, dl, lw⟩ := low_of hb sg (d := (Int.gcd tp bt : Nat) * (-1)) rfl
      rw [decide_eq_false (show ¬ 0 < bt by omega)]
      refine iteF ⟨1, rfl, _, _, rfl, rfl, .inr ⟨by decide, by decide⟩, ?_⟩
      obtain ⟨k1, k2⟩ := key _ dn dl lw
      refine ⟨_, rfl, _, rfl, _, _, rfl, rfl, k1, _, rfl, x, C, dx, [], rfl, hx, T.cl, T.nT, (by show 0 < 1000; decide), ?_⟩
      refine ⟨_, rfl, _, rfl, _, _, rfl, rfl, k2, _, rfl, x, C, dx, _, rfl, upd_same, T.cl, T.nB, (by show 1 < 1000; decide), ?_⟩
      refine ⟨_, rfl, x, C, dx, _, _, rfl, upd_same, T.cl, T.nT, (by rw [lookup_putF, if_neg n_tb, lookup_putF, if_pos rfl]), _, rfl, x, C, dx, _, _, rfl, upd_same, T.cl, T.nB, (by rw [lookup_putF, if_pos rfl]), ?_⟩
      refine ⟨_, _, rfl, lw.pos, Nat.lt_of_le_of_lt lw.lb h2, fun p H' sm hn hp => ?_⟩
      refine ⟨_, rfl, x, C, dx, _, rfl, sm _ _ upd_same, T.cl, T.nP, (by rw [am_put1]; show 2 < 1000; decide), ?_⟩
      have xp : x ≠ p := ne_of_none upd_same hn
      refine q _ _ _ lw ⟨lw.pos, dx, p, by rw [am_put]; exact upd_same, by rw [upd_ne xp.symm]; exact hp⟩ fun c o hc hcx => ?_
      rw [upd_ne hcx]
      exact sm _ _ (by rw [upd_ne hcx, upd_ne hcx]; exact hc)
/-! ### Amount(top, bottom), called -/
def spMake (C : Addr) : Sp := fun vs H Q _ => ∃ tp bt : Int, vs = [.int tp, .int bt] ∧ bt ≠ 0 ∧ tp.natAbs < 2 ^ 8000 ∧ bt.natAbs < 2 ^ 8000 ∧
  ∀ (x : Addr) (t b : Int) (H' : Hp), Low tp bt t b → AmAt C H' x t b → Same H H' → H x = none → Q (.ref x) H'
theorem rn_amount {X : Cx} (T : AmTxt X.K X.mg C) (hr : Room 3 X.A) : Rn X C (spMake C) [] E0 := by
  obtain ⟨fI, fd, mkC, F⟩ := T.mkC
  obtain ⟨ds, r, hb⟩ := F.binds1 (ps := ["self", "top", "bottom"]) 3 1 (by simp) rfl (fun Tp kV doc pm an cdv ct us its h1 h2 => match us, its, h1, h2 with | [_, _, _], [_], _, _ => ⟨_, rfl, rfl⟩)
  intro pins σ H1 s Q us vs I rv h
  refine run_make mkC (ok_init (P := X.prog) (w := X.w) (base := X.base) F T) hr hb r pass0 I rv ?_
  obtain ⟨tp, bt, ev, hb, h1, h2, q⟩ := h
  intro x dx nx nd ne
  have ev : vs = [.int tp, .int bt] := by simpa using ev
  subst ev
  have s0 : Same H1 (upd (upd H1 dx (.own x)) x (.ins C dx [])) := fun b o e => by
    rw [upd_ne (ne_of_none e nx), upd_ne (ne_of_none e nd)]
    exact e
  exact ⟨x, dx, tp, bt, rfl, upd_same, hb, h1, h2, fun t b H' lw am k => ⟨rfl, q x t b H' lw am (fun c o e => k c o (s0 c o e) (ne_of_none e nx)) nx⟩⟩
/-! ### comparisons of two Amounts -/
theorem cmp_lt {t1 b1 t2 b2 : Int} (h1 : 0 < b1) (h2 : 0 < b2) : M.lt (M.plc 1 t1 b1.toNat) (M.plc 1 t2 b2.toNat) = decide (t1 * b2 < t2 * b1) := by
  have q := (M.plc_order b1.toNat b2.toNat 1 t1 t2 (.inl rfl) (fun z => by omega) (fun z => by omega)).1
  rw [q, Int.toNat_of_nonneg (Int.le_of_lt h1), Int.toNat_of_nonneg (Int.le_of_lt h2)]
  congr 1
  apply propext
  constructor <;> intro h <;> omega
theorem cmp_eq {t1 b1 t2 b2 : Int} (h1 : 0 < b1) (h2 : 0 < b2) : decide (M.plc 1 t1 b1.toNat = M.plc 1 t2 b2.toNat) = decide (t1 * b2 = t2 * b1) := by
  have q := (M.plc_order b1.toNat b2.toNat 1 t1 t2 (.inl rfl) (fun z => by omega) (fun z => by omega)).2
  rw [Int.toNat_of_nonneg (Int.le_of_lt h1), Int.toNat_of_nonneg (Int.le_of_lt h2)] at q
  congr 1
  apply propext
  rw [q]
  constructor <;> intro h <;> omega
theorem AmTxt.ty (T : AmTxt K mg C) {H : Hp} {a : Addr} {t b : Int} (h : AmAt C H a t b) : TyOf K H (.ref a) (.ref C) := let ⟨_, _, _, e, _⟩ := h; .ins e T.cl T.ca T.cn T.ck T.cm
def spCmp (C : Addr) (F : Int → Int → Int → Int → Bool) : Sp := fun vs H Q _ => ∃ (a c : Addr) (t1 b1 t2 b2 : Int), vs = [.ref a, .ref c] ∧ AmAt C H a t1 b1 ∧ AmAt C H c t2 b2 ∧ Q (.bl (F t1 b1 t2 b2)) H
theorem scEq : FnScope ["self", "other"] ["self", "other"] (defScope sMEq) := ⟨rfl, rfl, rfl, by decide +kernel, rfl, by decide +kernel, by decide +kernel⟩
def fEq : Int → Int → Int → Int → Bool := fun t1 b1 t2 b2 => decide (t1 * b2 = t2 * b1)
theorem ok_Eq {f : Addr} {fd : FuncData} (F : Fun K "__eq__" "Amount.__eq__" sMEq f fd) (T : AmTxt K mg C) : FnOk P w K mg base CX0 1 f fd ["self", "other"] (spCmp C fEq) := by
  refine F.ok scEq (fun vs H Q E h => ?_) (fun cdv A out s H vs Q E hr h => ?_)
  · obtain ⟨a, c, t1, b1, t2, b2, rfl, _⟩ := h
    rfl
  · obtain ⟨a, c, t1, b1, t2, b2, rfl, h1, h2, q⟩ := h
    obtain ⟨z1, d1, p1, e1, g1⟩ := id h1
    obtain ⟨z2, d2, p2, e2, g2⟩ := id h2
    refine ⟨_, (pss_cons (ps_if (pt_not (pt_val (pe_callB call_isi (by rfl) T.b_isinstance (by decide +kernel) (pa_cons (pv 1) (pa_cons (pe_glob (v := .ref C) (by rfl) T.gC rfl) pa_nil))))) (pss_one (ps_never)) pss_nil)
  (pss_one (ps_ret (pe_cmpR (op_eqI hr.units) (pe_fld (pv 0) rfl) (pe_fld (pv 1) rfl) (nomark _))))), ?_⟩
    refine ⟨_, rfl, .ref c, .ref C, .ref C, .ref C, true, rfl, .own C, .base (T.ty h2), kSelf, true, rfl, iteF ?_⟩
    refine ⟨_, rfl, a, C, d1, _, _, rfl, e1, T.cl, T.nP, am_place _ _ _, _, rfl, c, C, d2, _, _, rfl, e2, T.cl, T.nP, am_place _ _ _, p1, p2, _, _, rfl, rfl, SqT.of g1, SqT.of g2, ?_⟩
    show Q (.bl (decide (M.plc 1 t1 b1.toNat = M.plc 1 t2 b2.toNat))) H
    rw [cmp_eq z1 z2]
    exact q
theorem scLt : FnScope ["self", "other"] ["self", "other"] (defScope sMLt) := ⟨rfl, rfl, rfl, by decide +kernel, rfl, by decide +kernel, by decide +kernel⟩
def fLt : Int → Int → Int → Int → Bool := fun t1 b1 t2 b2 => decide (t1 * b2 < t2 * b1)
theorem ok_Lt {f : Addr} {fd : FuncData} (F : Fun K "__lt__" "Amount.__lt__" sMLt f fd) (T : AmTxt K mg C) : FnOk P w K mg base CX0 1 f fd ["self", "other"] (spCmp C fLt) := by
  refine F.ok scLt (fun vs H Q E h => ?_) (fun cdv A out s H vs Q E hr h => ?_)
  · obtain ⟨a, c, t1, b1, t2, b2, rfl, _⟩ := h
    rfl
  · obtain ⟨a, c, t1, b1, t2, b2, rfl, h1, h2, q⟩ := h
    obtain ⟨z1, d1, p1, e1, g1⟩ := id h1
    obtain ⟨z2, d2, p2, e2, g2⟩ := id h2
    refine ⟨_, (pss_cons (ps_if (pt_not (pt_val (pe_callB call_isi (by rfl) T.b_isinstance (by decide +kernel) (pa_cons (pv 1) (pa_cons (pe_glob (v := .ref C) (by rfl) T.gC rfl) pa_nil))))) (pss_one (ps_never)) pss_nil)
  (pss_one (ps_ret (pe_cmpR (op_ltI hr.units0) (pe_fld (pv 0) rfl) (pe_fld (pv 1) rfl) (nomark _))))), ?_⟩
    refine ⟨_, rfl, .ref c, .ref C, .ref C, .ref C, true, rfl, .own C, .base (T.ty h2), kSelf, true, rfl, iteF ?_⟩
    refine ⟨_, rfl, a, C, d1, _, _, rfl, e1, T.cl, T.nP, am_place _ _ _, _, rfl, c, C, d2, _, _, rfl, e2, T.cl, T.nP, am_place _ _ _, p1, p2, _, _, rfl, rfl, SqT.of g1, SqT.of g2, ?_⟩
    show Q (.bl (M.lt (M.plc 1 t1 b1.toNat) (M.plc 1 t2 b2.toNat))) H
    rw [cmp_lt z1 z2]
    exact q
theorem scLe : FnScope ["self", "other"] ["self", "other"] (defScope sMLe) := ⟨rfl, rfl, rfl, by decide +kernel, rfl, by decide +kernel, by decide +kernel⟩
def fLe : Int → Int → Int → Int → Bool := fun t1 b1 t2 b2 => !decide (t2 * b1 < t1 * b2)
theorem ok_Le {f : Addr} {fd : FuncData} (F : Fun K "__le__" "Amount.__le__" sMLe f fd) (T : AmTxt K mg C) : FnOk P w K mg base CX0 1 f fd ["self", "other"] (spCmp C fLe) := by
  refine F.ok scLe (fun vs H Q E h => ?_) (fun cdv A out s H vs Q E hr h => ?_)
  · obtain ⟨a, c, t1, b1, t2, b2, rfl, _⟩ := h
    rfl
  · obtain ⟨a, c, t1, b1, t2, b2, rfl, h1, h2, q⟩ := h
    obtain ⟨z1, d1, p1, e1, g1⟩ := id h1
    obtain ⟨z2, d2, p2, e2, g2⟩ := id h2
    refine ⟨_, (pss_cons (ps_if (pt_not (pt_val (pe_callB call_isi (by rfl) T.b_isinstance (by decide +kernel) (pa_cons (pv 1) (pa_cons (pe_glob (v := .ref C) (by rfl) T.gC rfl) pa_nil))))) (pss_one (ps_never)) pss_nil)
  (pss_one (ps_ret (pe_cmpR (op_leI hr.units0) (pe_fld (pv 0) rfl) (pe_fld (pv 1) rfl) (nomark _))))), ?_⟩
    refine ⟨_, rfl, .ref c, .ref C, .ref C, .ref C, true, rfl, .own C, .base (T.ty h2), kSelf, true, rfl, iteF ?_⟩
    refine ⟨_, rfl, a, C, d1, _, _, rfl, e1, T.cl, T.nP, am_place _ _ _, _, rfl, c, C, d2, _, _, rfl, e2, T.cl, T.nP, am_place _ _ _, p1, p2, _, _, rfl, rfl, SqT.of g1, SqT.of g2, ?_⟩
    show Q (.bl (!M.lt (M.plc 1 t2 b2.toNat) (M.plc 1 t1 b1.toNat))) H
    rw [cmp_lt z2 z1]
    exact q
theorem scGt : FnScope ["self", "other"] ["self", "other"] (defScope sMGt) := ⟨rfl, rfl, rfl, by decide +kernel, rfl, by decide +kernel, by decide +kernel⟩
def fGt : Int → Int → Int → Int → Bool := fun t1 b1 t2 b2 => decide (t2 * b1 < t1 * b2)
theorem ok_Gt {f : Addr} {fd : FuncData} (F : Fun K "__gt__" "Amount.__gt__" sMGt f fd) (T : AmTxt K mg C) : FnOk P w K mg base CX0 1 f fd ["self", "other"] (spCmp C fGt) := by
  refine F.ok scGt (fun vs H Q E h => ?_) (fun cdv A out s H vs Q E hr h => ?_)
  · obtain ⟨a, c, t1, b1, t2, b2, rfl, _⟩ := h
    rfl
  · obtain ⟨a, c, t1, b1, t2, b2, rfl, h1, h2, q⟩ := h
    obtain ⟨z1, d1, p1, e1, g1⟩ := id h1
    obtain ⟨z2, d2, p2, e2, g2⟩ := id h2
    refine ⟨_, (pss_cons (ps_if (pt_not (pt_val (pe_callB call_isi (by rfl) T.b_isinstance (by decide +kernel) (pa_cons (pv 1) (pa_cons (pe_glob (v := .ref C) (by rfl) T.gC rfl) pa_nil))))) (pss_one (ps_never)) pss_nil)
  (pss_one (ps_ret (pe_cmpR (op_gtI hr.units0) (pe_fld (pv 0) rfl) (pe_fld (pv 1) rfl) (nomark _))))), ?_⟩
    refine ⟨_, rfl, .ref c, .ref C, .ref C, .ref C, true, rfl, .own C, .base (T.ty h2), kSelf, true, rfl, iteF ?_⟩
    refine ⟨_, rfl, a, C, d1, _, _, rfl, e1, T.cl, T.nP, am_place _ _ _, _, rfl, c, C, d2, _, _, rfl, e2, T.cl, T.nP, am_place _ _ _, p1, p2, _, _, rfl, rfl, SqT.of g1, SqT.of g2, ?_⟩
    show Q (.bl (M.lt (M.plc 1 t2 b2.toNat) (M.plc 1 t1 b1.toNat))) H
    rw [cmp_lt z2 z1]
    exact q
theorem scGe : FnScope ["self", "other"] ["self", "other"] (defScope sMGe) := ⟨rfl, rfl, rfl, by decide +kernel, rfl, by decide +kernel, by decide +kernel⟩
def fGe : Int → Int → Int → Int → Bool := fun t1 b1 t2 b2 => !decide (t1 * b2 < t2 * b1)
theorem ok_Ge {f : Addr} {fd : FuncData} (F : Fun K "__ge__" "Amount.__ge__" sMGe f fd) (T : AmTxt K mg C) : FnOk P w K mg base CX0 1 f fd ["self", "other"] (spCmp C fGe) := by
  refine F.ok scGe (fun vs H Q E h => ?_) (fun cdv A out s H vs Q E hr h => ?_)
  · obtain ⟨a, c, t1, b1, t2, b2, rfl, _⟩ := h
    rfl
  · obtain ⟨a, c, t1, b1, t2, b2, rfl, h1, h2, q⟩ := h
    obtain ⟨z1, d1, p1, e1, g1⟩ := id h1
    obtain ⟨z2, d2, p2, e2, g2⟩ := id h2
    refine ⟨_, (pss_cons (ps_if (pt_not (pt_val (pe_callB call_isi (by rfl) T.b_isinstance (by decide +kernel) (pa_cons (pv 1) (pa_cons (pe_glob (v := .ref C) (by rfl) T.gC rfl) pa_nil))))) (pss_one (ps_never)) pss_nil)
  (pss_one (ps_ret (pe_cmpR (op_geI hr.units0) (pe_fld (pv 0) rfl) (pe_fld (pv 1) rfl) (nomark _))))), ?_⟩
    refine ⟨_, rfl, .ref c, .ref C, .ref C, .ref C, true, rfl, .own C, .base (T.ty h2), kSelf, true, rfl, iteF ?_⟩
    refine ⟨_, rfl, a, C, d1, _, _, rfl, e1, T.cl, T.nP, am_place _ _ _, _, rfl, c, C, d2, _, _, rfl, e2, T.cl, T.nP, am_place _ _ _, p1, p2, _, _, rfl, rfl, SqT.of g1, SqT.of g2, ?_⟩
    show Q (.bl (!M.lt (M.plc 1 t1 b1.toNat) (M.plc 1 t2 b2.toNat))) H
    rw [cmp_lt z1 z2]
    exact q
/-! ### the rules for the law: Amounts compared, and compared with other kinds -/
structure AmCmp (K : PySem.W.Frag) (mg : Str → Option Value) (C : Addr) : Prop where
  eq : MethT K C "__eq__" "Amount.__eq__" sMEq ["self", "other"]
  lt : MethT K C "__lt__" "Amount.__lt__" sMLt ["self", "other"]
  le : MethT K C "__le__" "Amount.__le__" sMLe ["self", "other"]
  gt : MethT K C "__gt__" "Amount.__gt__" sMGt ["self", "other"]
  ge : MethT K C "__ge__" "Amount.__ge__" sMGe ["self", "other"]
  st : MethT K C "__str__" "Amount.__str__" sMStr ["self"]
  rp : MethT K C "__repr__" "Amount.__repr__" sMRepr ["self"]
  pt : PropT K C "top" "Amount.top" sMTop
  b_str : mg "str" = none
/-- op of two Amounts -/
def rAm (C : Addr) (F : Int → Int → Int → Int → Bool) : R2 := fun x y H Q => ∃ (a c : Addr) (t1 b1 t2 b2 : Int), x = .ref a ∧ y = .ref c ∧ AmAt C H a t1 b1 ∧ AmAt C H c t2 b2 ∧ Q (.bl (F t1 b1 t2 b2)) H
section
variable {X : Cx}
theorem rAm_in (T : AmTxt X.K X.mg C) {F : Int → Int → Int → Int → Bool} {x y : V} {H : Hp} {Q : VK} (h : rAm C F x y H Q) : rCmp X.K C (spCmp C F) E0 x y H Q := by
  obtain ⟨a, c, t1, b1, t2, b2, rfl, rfl, h1, h2, q⟩ := h
  obtain ⟨z1, d1, p1, e1, g1⟩ := id h1
  exact ⟨a, d1, _, .ref C, rfl, e1, T.ty h2, nf_self, a, c, t1, b1, t2, b2, rfl, h1, h2, q⟩
theorem op_eqAm (T : AmTxt X.K X.mg C) (M : AmCmp X.K X.mg C) (hr : Room 1 X.A) : OpR X (compareOp .Eq) (rAm C SP.fEq) := by
  obtain ⟨f, fd, h1, h2, F, hb⟩ := M.eq.ex
  exact opr_imp (op_cmpC hr.units0 h1 h2 (rn_of (ok_Eq (P := X.prog) (w := X.w) (base := X.base) F T) hr hb .nil pass0)) fun x y H Q h => rAm_in T h
theorem op_ltAm (T : AmTxt X.K X.mg C) (M : AmCmp X.K X.mg C) (hr : Room 1 X.A) : OpR X (compareOp .Lt) (rAm C SP.fLt) := by
  obtain ⟨f, fd, h1, h2, F, hb⟩ := M.lt.ex
  exact opr_imp (op_cmpC hr.units0 h1 h2 (rn_of (ok_Lt (P := X.prog) (w := X.w) (base := X.base) F T) hr hb .nil pass0)) fun x y H Q h => rAm_in T h
theorem op_leAm (T : AmTxt X.K X.mg C) (M : AmCmp X.K X.mg C) (hr : Room 1 X.A) : OpR X (compareOp .LtE) (rAm C SP.fLe) := by
  obtain ⟨f, fd, h1, h2, F, hb⟩ := M.le.ex
  exact opr_imp (op_cmpC hr.units0 h1 h2 (rn_of (ok_Le (P := X.prog) (w := X.w) (base := X.base) F T) hr hb .nil pass0)) fun x y H Q h => rAm_in T h
theorem op_gtAm (T : AmTxt X.K X.mg C) (M : AmCmp X.K X.mg C) (hr : Room 1 X.A) : OpR X (compareOp .Gt) (rAm C SP.fGt) := by
  obtain ⟨f, fd, h1, h2, F, hb⟩ := M.gt.ex
  exact opr_imp (op_cmpC hr.units0 h1 h2 (rn_of (ok_Gt (P := X.prog) (w := X.w) (base := X.base) F T) hr hb .nil pass0)) fun x y H Q h => rAm_in T h
theorem op_geAm (T : AmTxt X.K X.mg C) (M : AmCmp X.K X.mg C) (hr : Room 1 X.A) : OpR X (compareOp .GtE) (rAm C SP.fGe) := by
  obtain ⟨f, fd, h1, h2, F, hb⟩ := M.ge.ex
  exact opr_imp (op_cmpC hr.units0 h1 h2 (rn_of (ok_Ge (P := X.prog) (w := X.w) (base := X.base) F T) hr hb .nil pass0)) fun x y H Q h => rAm_in T h
/-- != of two Amounts -/
theorem op_neAm (T : AmTxt X.K X.mg C) (M : AmCmp X.K X.mg C) (hr : Room 2 X.A) : OpR X (compareOp .NotEq) (rAm C fun t1 b1 t2 b2 => !SP.fEq t1 b1 t2 b2) := by
  obtain ⟨f, fd, h1, h2, F, hb⟩ := M.eq.ex
  refine opr_imp (op_neC (sp := spCmp C SP.fEq) (E := E0) (by have := hr.units; omega) h1 T.ne T.cm h2 (rn_of (X := in1 X) (ok_Eq (P := X.prog) (w := X.w) (base := X.base) F T) hr.in1 hb .nil pass0)) fun x y H Q h => ?_
  obtain ⟨a, c, t1, b1, t2, b2, rfl, rfl, h1, h2, q⟩ := h
  obtain ⟨z1, d1, p1, e1, g1⟩ := id h1
  exact ⟨a, d1, _, .ref C, rfl, e1, T.ty h2, nf_self, a, c, t1, b1, t2, b2, rfl, h1, h2, _, rfl, q⟩
/-- an Amount beside a value of another kind -/
def dFgn (C : Addr) : List V → Hp → Prop := fun vs H => ∃ (a : Addr) (y : V) (t b : Int), vs = [.ref a, y] ∧ AmAt C H a t b ∧ Fgn H y
theorem not_am (T : AmTxt X.K X.mg C) {H : Hp} {y : V} (f : Fgn H y) : ∃ t, TyX X.K H y t ∧ PySem.W.kitOne X.K t (.ref C) = some false := by
  cases f with
  | non => exact ⟨_, .base .non, T.na.n⟩
  | bl b => exact ⟨_, .base (.bl b), T.na.b⟩
  | int i => exact ⟨_, .base (.int i), T.na.i⟩
  | str x => exact ⟨_, .base (.str x), T.na.s⟩
  | tup e => exact ⟨_, .base (.tup e), T.na.t⟩
  | lst e => exact ⟨_, .base (.lst e), T.na.l⟩
theorem rnN_eq (T : AmTxt X.K X.mg C) {f : Addr} {fd : FuncData} (F : Fun X.K "__eq__" "Amount.__eq__" sMEq f fd) (hb : Binds X.K fd ["self", "other"] []) (hn : X.mg "NotImplemented" = none) (hr : Room 1 X.A) : RnN X f (dFgn C) := by
  refine rnN_of F scEq hr hb (fun vs H h => ?_) rfl hn fun cdv A out s H vs hr h => ?_
  · obtain ⟨a, y, t, b, rfl, _⟩ := h
    rfl
  · obtain ⟨a, y, t, b, rfl, h1, f⟩ := h
    obtain ⟨ty, h2, h3⟩ := not_am T f
    refine ⟨_, pt_not (pt_val (pe_callB call_isi (by rfl) T.b_isinstance (by decide +kernel) (pa_cons (pv 1) (pa_cons (pe_glob (v := .ref C) (by rfl) T.gC rfl) pa_nil)))), by rfl, ?_⟩
    exact ⟨_, rfl, y, .ref C, ty, .ref C, false, rfl, .own C, h2, h3, false, rfl, rfl, Same.refl _⟩
def rAmF (C : Addr) (k : Bool) : R2 := fun x y H Q => ∃ (a : Addr) (t b : Int), x = .ref a ∧ AmAt C H a t b ∧ Fgn H y ∧ ∀ H', Same H H' → Q (.bl k) H'
theorem rAmF_in {k : Bool} {x y : V} {H : Hp} {Q : VK} (h : rAmF C k x y H Q) : rEqF C (dFgn C) k x y H Q := by
  obtain ⟨a, t, b, rfl, h1, f, q⟩ := h
  obtain ⟨z1, d1, p1, e1, g1⟩ := id h1
  exact ⟨a, d1, _, rfl, e1, f, ⟨a, y, t, b, rfl, h1, f⟩, q⟩
theorem op_eqAmF (T : AmTxt X.K X.mg C) (M : AmCmp X.K X.mg C) (hn : X.mg "NotImplemented" = none) (hr : Room 1 X.A) : OpR X (compareOp .Eq) (rAmF C false) :=
  let ⟨_, _, h1, h2, F, hb⟩ := M.eq.ex
  opr_imp (op_eqF hr.units0 T.fg h1 h2 (rnN_eq T F hb hn hr)) fun _ _ _ _ h => rAmF_in h
theorem op_neAmF (T : AmTxt X.K X.mg C) (M : AmCmp X.K X.mg C) (hn : X.mg "NotImplemented" = none) (hr : Room 2 X.A) : OpR X (compareOp .NotEq) (rAmF C true) :=
  let ⟨_, _, h1, h2, F, hb⟩ := M.eq.ex
  opr_imp (op_neF (by have := hr.units; omega) T.fg h1 T.ne T.cm h2 (rnN_eq (X := in1 X) T F hb hn hr.in1)) fun _ _ _ _ h => rAmF_in h
/-! ### an Amount shown -/
def sTxt (t b : Int) : Str := if b = 1 then PySem.Str.ofString (toString t) else Str.empty ++ PySem.Str.ofString (toString t) ++ "/" ++ PySem.Str.ofString (toString b)
def rTxt (t b : Int) : Str := Str.empty ++ "Amount(" ++ PySem.Str.ofString (toString t) ++ ", " ++ PySem.Str.ofString (toString b) ++ ")"
def spShow (C : Addr) (F : Int → Int → Str) : Sp := fun vs H Q _ => ∃ (a : Addr) (t b : Int), vs = [.ref a] ∧ AmAt C H a t b ∧ t.natAbs < 2 ^ 1900 ∧ b.natAbs < 2 ^ 1900 ∧ Q (.str (F t b)) H
theorem scStr : FnScope ["self"] ["self"] (defScope sMStr) := ⟨rfl, rfl, rfl, by decide +kernel, rfl, by decide +kernel, by decide +kernel⟩
theorem scRepr : FnScope ["self"] ["self"] (defScope sMRepr) := ⟨rfl, rfl, rfl, by decide +kernel, rfl, by decide +kernel, by decide +kernel⟩
theorem small1000' {n : Nat} (h : n ≤ 10000) : n ≤ sizeLine := Nat.le_trans h (by decide)
theorem ok_Str {f : Addr} {fd : FuncData} (F : Fun X.K "__str__" "Amount.__str__" sMStr f fd) (T : AmTxt X.K X.mg C) (M : AmCmp X.K X.mg C) : FnOk X.prog X.w X.K X.mg X.base CX0 1 f fd ["self"] (spShow C sTxt) := by
  refine F.ok scStr (fun vs H Q E h => ?_) (fun cdv A out s H vs Q E hr h => ?_)
  · obtain ⟨a, t, b, rfl, _⟩ := h
    rfl
  · obtain ⟨a, t, b, rfl, h1, hz1, hz2, q⟩ := h
    obtain ⟨z1, d1, p1, e1, g1⟩ := id h1
    refine ⟨_, (pss_cons (ps_if (pt_cmpR op_eq (pe_fld (pv 0) rfl) pe_int (nomark _)) (pss_one (ps_ret (pe_callTy call_str_int (by rfl) M.b_str (by decide +kernel) (pa_cons (pe_fld (pv 0) rfl) pa_nil)))) pss_nil)
  (pss_one (ps_ret (pe_joined (PJ.cons (pe_fmt (pe_fld (pv 0) rfl)) (PJ.cons pe_str (PJ.cons (pe_fmt (pe_fld (pv 0) rfl)) PJ.nil))))))), ?_⟩
    refine ⟨_, rfl, a, C, d1, _, _, rfl, e1, T.cl, T.nB, am_bottom _ _ _, rfl, _, rfl, ?_⟩
    have g1 := small_log hz1 (by decide) (by decide)
    have g2 := small_log hz2 (by decide) (by decide)
    have l1 := len1921 g1
    have l2 := len1921 g2
    by_cases h : b = 1
    · rw [decide_eq_true (show V.int b = V.int 1 by rw [h])]
      refine iteT ⟨_, rfl, a, C, d1, _, _, rfl, e1, T.cl, T.nT, am_top _ _ _, _, rfl, g1, ?_⟩
      have e : sTxt t b = PySem.Str.ofString (toString t) := if_pos h
      rw [e] at q
      exact q
    · rw [decide_eq_false (show ¬ V.int b = V.int 1 from fun z => h (by injection z))]
      refine iteF ⟨_, rfl, a, C, d1, _, _, rfl, e1, T.cl, T.nT, am_top _ _ _, .inr ⟨t, rfl, g1, _, rfl, ?_, _, rfl, ?_, ?_⟩⟩
      · rw [PySem.Str.length_append]
        exact small1000' (by show 0 + _ ≤ _; omega)
      · rw [PySem.Str.length_append, PySem.Str.length_append]
        exact small1000' (by show 0 + _ + 1 ≤ _; omega)
      · refine ⟨_, rfl, a, C, d1, _, _, rfl, e1, T.cl, T.nB, am_bottom _ _ _, .inr ⟨b, rfl, g2, _, rfl, ?_, ?_⟩⟩
        · rw [PySem.Str.length_append, PySem.Str.length_append, PySem.Str.length_append]
          exact small1000' (by show 0 + _ + 1 + _ ≤ _; omega)
        · have e : sTxt t b = Str.empty ++ PySem.Str.ofString (toString t) ++ "/" ++ PySem.Str.ofString (toString b) := if_neg h
          rw [e] at q
          exact q
theorem ok_Repr {f : Addr} {fd : FuncData} (F : Fun X.K "__repr__" "Amount.__repr__" sMRepr f fd) (T : AmTxt X.K X.mg C) : FnOk X.prog X.w X.K X.mg X.base CX0 1 f fd ["self"] (spShow C rTxt) := by
  refine F.ok scRepr (fun vs H Q E h => ?_) (fun cdv A out s H vs Q E hr h => ?_)
  · obtain ⟨a, t, b, rfl, _⟩ := h
    rfl
  · obtain ⟨a, t, b, rfl, h1, hz1, hz2, q⟩ := h
    obtain ⟨z1, d1, p1, e1, g1⟩ := id h1
    refine ⟨_, (pss_one (ps_ret (pe_joined (PJ.cons pe_str (PJ.cons (pe_fmt (pe_fld (pv 0) rfl)) (PJ.cons pe_str (PJ.cons (pe_fmt (pe_fld (pv 0) rfl)) (PJ.cons pe_str PJ.nil)))))))), ?_⟩
    have g1 := small_log hz1 (by decide) (by decide)
    have g2 := small_log hz2 (by decide) (by decide)
    have l1 := len1921 g1
    have l2 := len1921 g2
    refine ⟨_, rfl, by decide, _, rfl, a, C, d1, _, _, rfl, e1, T.cl, T.nT, am_top _ _ _, .inr ⟨t, rfl, g1, _, rfl, ?_, _, rfl, ?_, ?_⟩⟩
    · rw [PySem.Str.length_append, PySem.Str.length_append]
      exact small1000' (by show 0 + 7 + _ ≤ _; omega)
    · rw [PySem.Str.length_append, PySem.Str.length_append, PySem.Str.length_append]
      exact small1000' (by show 0 + 7 + _ + 2 ≤ _; omega)
    · refine ⟨_, rfl, a, C, d1, _, _, rfl, e1, T.cl, T.nB, am_bottom _ _ _, .inr ⟨b, rfl, g2, _, rfl, ?_, _, rfl, ?_, q⟩⟩
      · rw [PySem.Str.length_append, PySem.Str.length_append, PySem.Str.length_append, PySem.Str.length_append]
        exact small1000' (by show 0 + 7 + _ + 2 + _ ≤ _; omega)
      · rw [PySem.Str.length_append, PySem.Str.length_append, PySem.Str.length_append, PySem.Str.length_append, PySem.Str.length_append]
        exact small1000' (by show 0 + 7 + _ + 2 + _ + 1 ≤ _; omega)
/-- str(a), repr(a) of an Amount -/
def rAmS (C : Addr) (F : Int → Int → Str) : List V → Hp → VK → Prop := fun xs H Q => ∃ (a : Addr) (t b : Int), xs = [.ref a] ∧ AmAt C H a t b ∧ t.natAbs < 2 ^ 1900 ∧ b.natAbs < 2 ^ 1900 ∧ Q (.str (F t b)) H
theorem callr_imp {X : Cx} {f : Value} {r r' : List V → Hp → VK → Prop} (h : CallR X f r) (i : ∀ xs H Q, r' xs H Q → r xs H Q) : CallR X f r' := fun pins s σ H xs us Q I rv q => h pins s σ H xs us Q I rv (i xs H Q q)
theorem rAmS_in {F : Int → Int → Str} {xs : List V} {H : Hp} {Q : VK} (h : rAmS C F xs H Q) : rShow C (spShow C F) E0 xs H Q := by
  obtain ⟨a, t, b, rfl, h1, z1, z2, q⟩ := h
  obtain ⟨_, d1, p1, e1, g1⟩ := id h1
  exact ⟨a, d1, _, rfl, e1, a, t, b, rfl, h1, z1, z2, _, rfl, q⟩
theorem call_strAm (T : AmTxt X.K X.mg C) (M : AmCmp X.K X.mg C) (hr : Room 3 X.A) : CallR X (.type "str") (rAmS C sTxt) :=
  let ⟨_, _, h1, h2, F, hb⟩ := M.st.ex
  callr_imp (call_strO (by have := hr.units; omega) h1 h2 (rn_of (X := in1 (in1 X)) (ok_Str (X := in1 (in1 X)) F T M) hr.in1.in1 hb .nil pass0)) fun _ _ _ h => rAmS_in h
theorem call_reprAm (T : AmTxt X.K X.mg C) (M : AmCmp X.K X.mg C) (hr : Room 2 X.A) : CallR X (.builtin "repr") (rAmS C rTxt) :=
  let ⟨_, _, h1, h2, F, hb⟩ := M.rp.ex
  callr_imp (call_reprO (by have := hr.units; omega) h1 h2 (rn_of (X := in1 X) (ok_Repr (X := in1 X) F T) hr.in1 hb .nil pass0)) fun _ _ _ h => rAmS_in h
/-- a.top -/
theorem scTop : FnScope ["self"] ["self"] (defScope sMTop) := ⟨rfl, rfl, rfl, by decide +kernel, rfl, by decide +kernel, by decide +kernel⟩
def spTop (C : Addr) : Sp := fun vs H Q _ => ∃ (a : Addr) (t b : Int), vs = [.ref a] ∧ AmAt C H a t b ∧ Q (.int t) H
theorem ok_Top {f : Addr} {fd : FuncData} (F : Fun X.K "top" "Amount.top" sMTop f fd) (T : AmTxt X.K X.mg C) : FnOk X.prog X.w X.K X.mg X.base CX0 1 f fd ["self"] (spTop C) := by
  refine F.ok scTop (fun vs H Q E h => ?_) (fun cdv A out s H vs Q E hr h => ?_)
  · obtain ⟨a, t, b, rfl, _⟩ := h
    rfl
  · obtain ⟨a, t, b, rfl, h1, q⟩ := h
    obtain ⟨z1, d1, p1, e1, g1⟩ := id h1
    refine ⟨_, (pss_one (ps_ret (pe_fld (pv 0) rfl))), ?_⟩
    exact ⟨_, rfl, a, C, d1, _, _, rfl, e1, T.cl, T.nT, am_top _ _ _, q⟩
theorem pe_top {e : Expr} {te : TE} {pos : Pos} (he : PE X e te) (T : AmTxt X.K X.mg C) (M : AmCmp X.K X.mg C) (hr : Room 2 X.A) (hab : attributeBase e "top" X.env (eval e X.env) = eval e X.env := by rfl) : PE X (.Attribute e "top" pos) (tProp C (spTop C) [] E0 te) :=
  let ⟨_, _, _, hp, F, hb⟩ := M.pt.ex
  pe_prop he T.cl hp (ok_Top F T) hr hb .nil pass0 hab
end
end
end SP
namespace SP
open PySem PySem.Spec PyProof.Rows L2
abbrev sOf : Stmt := top 15
abbrev sMAdd : Stmt := inClass (top 14) 7
abbrev sMRadd : Stmt := inClass (top 14) 8
abbrev sMSub : Stmt := inClass (top 14) 9
abbrev sMRsub : Stmt := inClass (top 14) 10
abbrev sMMul : Stmt := inClass (top 14) 11
abbrev sMRmul : Stmt := inClass (top 14) 12
abbrev sMNeg : Stmt := inClass (top 14) 13
abbrev sMAbs : Stmt := inClass (top 14) 14
abbrev sMBool : Stmt := inClass (top 14) 15
abbrev sMBot : Stmt := inClass (top 14) 4
abbrev sMSign : Stmt := inClass (top 14) 5


/-! ### lowest terms, plainly -/
theorem Low.uniq {z e t b t' b' : Int} (l : Low z e t b) (l' : Low z e t' b') (he : e ≠ 0) : t = t' ∧ b = b' := by
  have p := l.pos
  have p' := l'.pos
  have h : t * b' = t' * b := by
    have h1 : (t * b') * e = (t' * b) * e := by
      rw [show t * b' * e = (t * e) * b' by ac_rfl, l.eq, show t' * b * e = (t' * e) * b by ac_rfl, l'.eq]
      ac_rfl
    exact Int.eq_of_mul_eq_mul_right he h1
  have c1 : Nat.gcd t.natAbs b.natAbs = 1 := l.one
  have c2 : Nat.gcd t'.natAbs b'.natAbs = 1 := l'.one
  have hn : t.natAbs * b'.natAbs = t'.natAbs * b.natAbs := by rw [← Int.natAbs_mul, ← Int.natAbs_mul, h]
  have d1 : b.natAbs ∣ b'.natAbs := by
    have : b.natAbs ∣ t.natAbs * b'.natAbs := ⟨t'.natAbs, by rw [hn, Nat.mul_comm]⟩
    exact (Nat.Coprime.symm c1).dvd_of_dvd_mul_left this
  have d2 : b'.natAbs ∣ b.natAbs := by
    have : b'.natAbs ∣ t'.natAbs * b.natAbs := ⟨t.natAbs, by rw [← hn, Nat.mul_comm]⟩
    exact (Nat.Coprime.symm c2).dvd_of_dvd_mul_left this
  have e1 : b.natAbs = b'.natAbs := Nat.dvd_antisymm d1 d2
  have e2 : b = b' := by omega
  subst e2
  exact ⟨Int.eq_of_mul_eq_mul_right (by omega) h, rfl⟩
theorem low_self {t b : Int} (p : 0 < b) (g : Int.gcd t b = 1) : Low t b t b := ⟨p, g, rfl, Nat.le_refl _, Nat.le_refl _⟩
theorem gcd_one (t : Int) : Int.gcd t 1 = 1 := Int.gcd_one_right t
/-! ### an amount: an Amount or an int -/
def AmV (C : Addr) (H : Hp) (v : V) (t b : Int) : Prop := (∃ a, v = .ref a ∧ AmAt C H a t b ∧ Int.gcd t b = 1) ∨ (v = .int t ∧ b = 1)
theorem AmV.same {C : Addr} {H H' : Hp} {v : V} {t b : Int} (h : AmV C H v t b) (s : Same H H') : AmV C H' v t b := h.elim (fun ⟨a, e, k, g⟩ => .inl ⟨a, e, k.same s, g⟩) .inr
theorem AmV.cop {C : Addr} {H : Hp} {v : V} {t b : Int} (h : AmV C H v t b) : 0 < b ∧ Int.gcd t b = 1 := h.elim (fun ⟨_, _, k, g⟩ => ⟨k.1, g⟩) fun ⟨_, e⟩ => by subst e; exact ⟨by decide, gcd_one t⟩
structure AmOps (K : PySem.W.Frag) (mg : Str → Option Value) (C : Addr) : Prop where
  tOf : Top K mg "amount_of" sOf ["value"]
  sf : PySem.W.selfFirst K C = true
  si : PySem.W.subIn K (.ref C) (.type "int") = some false
  add : MethT K C "__add__" "Amount.__add__" sMAdd ["self", "other"]
  radd : MethT K C "__radd__" "Amount.__radd__" sMRadd ["self", "other"]
  sub : MethT K C "__sub__" "Amount.__sub__" sMSub ["self", "other"]
  rsub : MethT K C "__rsub__" "Amount.__rsub__" sMRsub ["self", "other"]
  mul : MethT K C "__mul__" "Amount.__mul__" sMMul ["self", "other"]
  rmul : MethT K C "__rmul__" "Amount.__rmul__" sMRmul ["self", "other"]
  neg : MethT K C "__neg__" "Amount.__neg__" sMNeg ["self"]
  abs : MethT K C "__abs__" "Amount.__abs__" sMAbs ["self"]
  bool : MethT K C "__bool__" "Amount.__bool__" sMBool ["self"]
section
variable {P : Program} {w : World} {K : PySem.W.Frag} {mg : Str → Option Value} {base : Heap} {C : Addr}
/-- Amount(i) -/
theorem rn_amount1 {X : Cx} (T : AmTxt X.K X.mg C) (hr : Room 3 X.A) : Rn X C (spMake C) [.int 1] E0 := by
  obtain ⟨fI, fd, mkC, F⟩ := T.mkC
  obtain ⟨ds, r, hb⟩ := F.binds1 (ps := ["self", "top", "bottom"]) 2 0 (by simp) rfl (fun Tp kV doc pm an cdv ct us its h1 h2 => match us, its, h1, h2 with | [_, _], [_], _, _ => ⟨_, rfl, rfl⟩)
  intro pins σ H1 s Q us vs I rv h
  refine run_make mkC (ok_init (P := X.prog) (w := X.w) (base := X.base) F T) hr hb r pass0 I rv ?_
  obtain ⟨tp, bt, ev, hb, h1, h2, q⟩ := h
  intro x dx nx nd ne
  have ev : vs ++ [V.int 1] = [.int tp, .int bt] := ev
  have s0 : Same H1 (upd (upd H1 dx (.own x)) x (.ins C dx [])) := fun b o e => by
    rw [upd_ne (ne_of_none e nx), upd_ne (ne_of_none e nd)]
    exact e
  refine ⟨x, dx, tp, bt, ?_, upd_same, hb, h1, h2, fun t b H' lw am k => ⟨rfl, q x t b H' lw am (fun c o e => k c o (s0 c o e) (ne_of_none e nx)) nx⟩⟩
  show V.ref x :: (vs ++ [V.int 1]) = _
  rw [ev]
theorem kpC (T : AmTxt K mg C) : PySem.W.keepIn K (.ref C) = true := let ⟨_, _, m, _⟩ := T.mkC; m.kp
def spOf (C : Addr) : Sp := fun vs H Q _ => ∃ (v : V) (t b : Int), vs = [v] ∧ AmV C H v t b ∧ t.natAbs < 2 ^ 8000 ∧ ∀ (a : Addr) (H' : Hp), AmAt C H' a t b → Same H H' → Q (.ref a) H'
theorem scOf : FnScope ["value"] ["value"] (defScope sOf) := ⟨rfl, rfl, rfl, by decide +kernel, rfl, by decide +kernel, by decide +kernel⟩
theorem ok_of {f : Addr} {fd : FuncData} (F : Fun K "amount_of" "amount_of" sOf f fd) (T : AmTxt K mg C) : FnOk P w K mg base CX0 4 f fd ["value"] (spOf C) := by
  have DI := d_ii (P := P) (w := w) (base := base) T
  refine F.ok scOf (fun vs H Q E h => ?_) (fun cdv A out s H vs Q E hr h => ?_)
  · obtain ⟨v, t, b, rfl, _⟩ := h
    rfl
  · obtain ⟨v, t, b, rfl, hv, ht, q⟩ := h
    refine ⟨_, (pss_cons (ps_if (pt_val (pe_callB call_isi (by rfl) T.b_isinstance (by decide +kernel) (pa_cons (pv 0) (pa_cons (pe_glob (v := .ref C) (by rfl) T.gC rfl) pa_nil)))) (pss_one (ps_ret (pv 0))) pss_nil)
  (pss_cons (ps_if (pt_not (pt_val (pe_callO DI (hr.mono (by decide)) (pa_cons (pv 0) pa_nil)))) (pss_one ps_never) pss_nil)
  (pss_one (ps_ret (pe_callC (rn_amount1 T (hr.mono (by decide))) T.gC (kpC T) (pa_cons (pv 0) pa_nil)))))), ?_⟩
    rcases hv with ⟨a, rfl, h1, hg⟩ | ⟨rfl, rfl⟩
    · refine ⟨_, rfl, .ref a, .ref C, .ref C, .ref C, true, rfl, .own C, .base (T.ty h1), kSelf, true, rfl, iteT ?_⟩
      exact ⟨_, rfl, q a H h1 (Same.refl _)⟩
    · refine ⟨_, rfl, .int t, .ref C, .type "int", .ref C, false, rfl, .own C, .base (.int t), T.na.i, false, rfl, iteF ?_⟩
      refine ⟨_, rfl, _, _, true, false, rfl, .base (.int t), kII, kIB, true, rfl, iteF ?_⟩
      refine ⟨_, rfl, t, 1, rfl, by decide, ht, by decide +kernel, fun x t' b' H' lw am s n => ?_⟩
      obtain ⟨rfl, rfl⟩ := lw.uniq (low_self (by decide) (gcd_one t)) (by decide)
      exact q x H' am s
theorem d_of (T : AmTxt K mg C) (O : AmOps K mg C) : DefO P w K mg base 4 "amount_of" ["value"] (spOf C) := let ⟨f, fd, hm, F, hb⟩ := O.tOf.ex; ⟨f, fd, hm, F.kp, ok_of F T, hb⟩
/-! ### +, -, * -/
def spAr (C : Addr) (F : Int → Int → Int → Int → Int × Int) : Sp := fun vs H Q _ => ∃ (a : Addr) (y : V) (t1 b1 t2 b2 : Int), vs = [.ref a, y] ∧ AmAt C H a t1 b1 ∧ Int.gcd t1 b1 = 1 ∧ AmV C H y t2 b2 ∧ t1.natAbs < 2 ^ 3000 ∧ b1.natAbs < 2 ^ 3000 ∧ t2.natAbs < 2 ^ 3000 ∧ b2.natAbs < 2 ^ 3000 ∧
  ∀ (r : Addr) (t b : Int) (H' : Hp), Low (F t1 b1 t2 b2).1 (F t1 b1 t2 b2).2 t b → AmAt C H' r t b → Same H H' → Q (.ref r) H'
def fAdd : Int → Int → Int → Int → Int × Int := fun t1 b1 t2 b2 => (t1 * b2 + t2 * b1, b1 * b2)
def fMul : Int → Int → Int → Int → Int × Int := fun t1 b1 t2 b2 => (t1 * t2, b1 * b2)
def fSub : Int → Int → Int → Int → Int × Int := fun t1 b1 t2 b2 => (t1 * b2 + -t2 * b1, b1 * b2)
def fRsub : Int → Int → Int → Int → Int × Int := fun t1 b1 t2 b2 => (t2 * b1 + -t1 * b2, b2 * b1)
def fRadd : Int → Int → Int → Int → Int × Int := fun t1 b1 t2 b2 => (t2 * b1 + t1 * b2, b2 * b1)
def fRmul : Int → Int → Int → Int → Int × Int := fun t1 b1 t2 b2 => (t2 * t1, b2 * b1)
theorem prod_lt {x y : Int} (hx : x.natAbs < 2 ^ 3000) (hy : y.natAbs < 2 ^ 3000) : (x * y).natAbs < 2 ^ 6000 := by
  rw [Int.natAbs_mul]
  have := Nat.mul_lt_mul'' hx hy
  rwa [← Nat.pow_add] at this
theorem p6 : 2 ^ 6000 + 2 ^ 6000 < 2 ^ 8000 := by decide +kernel
theorem mulW3 {x y : Int} (hx : x.natAbs < 2 ^ 3000) (hy : y.natAbs < 2 ^ 3000) : CMulW x y := by
  have h1 := PySem.Flt.log2_lt_of (k := 3000) (by decide) hx
  have h2 := PySem.Flt.log2_lt_of (k := 3000) (by decide) hy
  show x.natAbs.log2 + y.natAbs.log2 < 1000000
  omega
theorem scAdd : FnScope ["self", "other", "more", "top"] ["self", "other"] (defScope sMAdd) := ⟨rfl, rfl, rfl, by decide +kernel, rfl, by decide +kernel, by decide +kernel⟩
theorem ok_Add {f : Addr} {fd : FuncData} (F : Fun K "__add__" "Amount.__add__" sMAdd f fd) (T : AmTxt K mg C) (O : AmOps K mg C) : FnOk P w K mg base CX0 5 f fd ["self", "other"] (spAr C fAdd) := by
  have DOf := d_of (P := P) (w := w) (base := base) T O
  refine F.ok scAdd (fun vs H Q E h => ?_) (fun cdv A out s H vs Q E hr h => ?_)
  · obtain ⟨a, y, t1, b1, t2, b2, rfl, _⟩ := h
    rfl
  · obtain ⟨a, y, t1, b1, t2, b2, rfl, h1, hg, h2, l1, l2, l3, l4, q⟩ := h
    refine ⟨_, (pss_cons (ps_set (i := 2) scAdd.nd rfl (Or.inl rfl) (pe_callO DOf (hr.mono (by decide)) (pa_cons (pv 1) pa_nil)))
  (pss_cons (ps_set (i := 3) scAdd.nd rfl (Or.inl rfl) (pe_op op_add (pe_op op_mulW (pe_fld (pv 0) rfl) (pe_fld (pv 2) rfl)) (pe_op op_mulW (pe_fld (pv 2) rfl) (pe_fld (pv 0) rfl))))
  (pss_one (ps_ret (pe_callC (rn_amount T (hr.mono (by decide))) T.gC (kpC T) (pa_cons (pv 3) (pa_cons (pe_op op_mulW (pe_fld (pv 0) rfl) (pe_fld (pv 2) rfl)) pa_nil))))))), ?_⟩
    refine ⟨_, rfl, y, t2, b2, rfl, h2, Nat.lt_trans l3 (by decide +kernel), fun m H1 am s1 => ?_⟩
    obtain ⟨z1, d1, p1, e1, g1⟩ := h1.same s1
    obtain ⟨z2, d2, p2, e2, g2⟩ := id am
    refine ⟨_, rfl, a, C, d1, _, _, rfl, e1, T.cl, T.nT, am_top _ _ _, _, rfl, m, C, d2, _, _, rfl, e2, T.cl, T.nB, am_bottom _ _ _, _, _, rfl, rfl, mulW3 l1 l4, ?_⟩
    refine ⟨_, rfl, m, C, d2, _, _, rfl, e2, T.cl, T.nT, am_top _ _ _, _, rfl, a, C, d1, _, _, rfl, e1, T.cl, T.nB, am_bottom _ _ _, _, _, rfl, rfl, mulW3 l3 l2, _, _, rfl, rfl, ?_⟩
    refine ⟨_, rfl, _, rfl, a, C, d1, _, _, rfl, e1, T.cl, T.nB, am_bottom _ _ _, _, rfl, m, C, d2, _, _, rfl, e2, T.cl, T.nB, am_bottom _ _ _, _, _, rfl, rfl, mulW3 l2 l4, ?_⟩
    have u1 := prod_lt l1 l4
    have u2 := prod_lt l3 l2
    have u3 := prod_lt l2 l4
    have u4 := p6
    refine ⟨_, _, rfl, Int.mul_ne_zero (by omega) (by omega), ?_, by omega, fun x t b H' lw ax s2 n => q x t b H' lw ax (s1.trans s2)⟩
    have : (t1 * b2 + t2 * b1).natAbs ≤ (t1 * b2).natAbs + (t2 * b1).natAbs := Int.natAbs_add_le _ _
    omega
/-- both of them Amounts -/
def rArS (C : Addr) (F : Int → Int → Int → Int → Int × Int) : R2 := fun x y H Q => ∃ (a c : Addr) (t1 b1 t2 b2 : Int), x = .ref a ∧ y = .ref c ∧ AmAt C H a t1 b1 ∧ Int.gcd t1 b1 = 1 ∧ AmAt C H c t2 b2 ∧ Int.gcd t2 b2 = 1 ∧ t1.natAbs < 2 ^ 3000 ∧ b1.natAbs < 2 ^ 3000 ∧ t2.natAbs < 2 ^ 3000 ∧ b2.natAbs < 2 ^ 3000 ∧
  ∀ (r : Addr) (t b : Int) (H' : Hp), Low (F t1 b1 t2 b2).1 (F t1 b1 t2 b2).2 t b → AmAt C H' r t b → Same H H' → Q (.ref r) H'
theorem rArS_in {F : Int → Int → Int → Int → Int × Int} {x y : V} {H : Hp} {Q : VK} (h : rArS C F x y H Q) : rBinS C (spAr C F) E0 x y H Q := by
  obtain ⟨a, c, t1, b1, t2, b2, rfl, rfl, h1, g1, h2, g2, l1, l2, l3, l4, q⟩ := h
  obtain ⟨z1, d1, p1, e1, m1⟩ := id h1
  obtain ⟨z2, d2, p2, e2, m2⟩ := id h2
  exact ⟨a, c, d1, d2, _, _, rfl, rfl, e1, e2, a, .ref c, t1, b1, t2, b2, rfl, h1, g1, .inl ⟨c, rfl, h2, g2⟩, l1, l2, l3, l4, q⟩
section
variable {X : Cx}
theorem op_addS (T : AmTxt X.K X.mg C) (O : AmOps X.K X.mg C) (hr : Room 5 X.A) : OpR X (binaryOp .Add) (rArS C fAdd) :=
  let ⟨_, _, h1, h2, F, hb⟩ := O.add.ex
  opr_imp (op_binS O.sf h1 h2 (rn_of (ok_Add F T O) hr hb .nil pass0)) fun _ _ _ _ h => rArS_in h
end
def spOne (C : Addr) (F : Int → Int → Int × Int) : Sp := fun vs H Q _ => ∃ (a : Addr) (t b : Int), vs = [.ref a] ∧ AmAt C H a t b ∧ Int.gcd t b = 1 ∧ t.natAbs < 2 ^ 3000 ∧ b.natAbs < 2 ^ 3000 ∧ ∀ (r : Addr) (H' : Hp), AmAt C H' r (F t b).1 (F t b).2 → Same H H' → Q (.ref r) H'
theorem scNeg : FnScope ["self"] ["self"] (defScope sMNeg) := ⟨rfl, rfl, rfl, by decide +kernel, rfl, by decide +kernel, by decide +kernel⟩
theorem scAbs : FnScope ["self"] ["self"] (defScope sMAbs) := ⟨rfl, rfl, rfl, by decide +kernel, rfl, by decide +kernel, by decide +kernel⟩
theorem low_neg {t b : Int} (p : 0 < b) (g : Int.gcd t b = 1) : Low (-t) b (-t) b := low_self p (by rw [Int.neg_gcd]; exact g)
theorem ok_Neg {f : Addr} {fd : FuncData} (F : Fun K "__neg__" "Amount.__neg__" sMNeg f fd) (T : AmTxt K mg C) : FnOk P w K mg base CX0 4 f fd ["self"] (spOne C fun t b => (-t, b)) := by
  refine F.ok scNeg (fun vs H Q E h => ?_) (fun cdv A out s H vs Q E hr h => ?_)
  · obtain ⟨a, t, b, rfl, _⟩ := h
    rfl
  · obtain ⟨a, t, b, rfl, h1, hg, l1, l2, q⟩ := h
    refine ⟨_, (pss_one (ps_ret (pe_callC (rn_amount T (hr.mono (by decide))) T.gC (kpC T) (pa_cons (pe_un un_neg (pe_fld (pv 0) rfl)) (pa_cons (pe_fld (pv 0) rfl) pa_nil))))), ?_⟩
    obtain ⟨z1, d1, p1, e1, g1⟩ := id h1
    have big : 2 ^ 3000 < 2 ^ 8000 := by decide +kernel
    refine ⟨_, rfl, a, C, d1, _, _, rfl, e1, T.cl, T.nT, am_top _ _ _, _, rfl, _, rfl, a, C, d1, _, _, rfl, e1, T.cl, T.nB, am_bottom _ _ _, _, _, rfl, by omega, by rw [Int.natAbs_neg]; omega, by omega, fun x t' b' H' lw ax s2 n => ?_⟩
    obtain ⟨rfl, rfl⟩ := lw.uniq (low_neg z1 hg) (by omega)
    exact q x H' ax s2
theorem ok_Abs {f : Addr} {fd : FuncData} (F : Fun K "__abs__" "Amount.__abs__" sMAbs f fd) (T : AmTxt K mg C) : FnOk P w K mg base CX0 4 f fd ["self"] (spOne C fun t b => (if t < 0 then -t else t, b)) := by
  refine F.ok scAbs (fun vs H Q E h => ?_) (fun cdv A out s H vs Q E hr h => ?_)
  · obtain ⟨a, t, b, rfl, _⟩ := h
    rfl
  · obtain ⟨a, t, b, rfl, h1, hg, l1, l2, q⟩ := h
    refine ⟨_, (pss_one (ps_ret (pe_callC (rn_amount T (hr.mono (by decide))) T.gC (kpC T) (pa_cons (pe_callB call_abs (by rfl) T.b_abs (by decide +kernel) (pa_cons (pe_fld (pv 0) rfl) pa_nil)) (pa_cons (pe_fld (pv 0) rfl) pa_nil))))), ?_⟩
    obtain ⟨z1, d1, p1, e1, g1⟩ := id h1
    have big : 2 ^ 3000 < 2 ^ 8000 := by decide +kernel
    refine ⟨_, rfl, a, C, d1, _, _, rfl, e1, T.cl, T.nT, am_top _ _ _, _, rfl, _, rfl, a, C, d1, _, _, rfl, e1, T.cl, T.nB, am_bottom _ _ _, _, _, rfl, by omega, by split <;> omega, by omega, fun x t' b' H' lw ax s2 n => ?_⟩
    have l : Low (if t < 0 then -t else t) b (if t < 0 then -t else t) b := by
      split
      · exact low_neg z1 hg
      · exact low_self z1 hg
    obtain ⟨rfl, rfl⟩ := lw.uniq l (by omega)
    exact q x H' ax s2
section
variable {X : Cx}
def rOneC (C : Addr) (F : Int → Int → Int × Int) : V → Hp → VK → Prop := fun x H Q => ∃ (a : Addr) (t b : Int), x = .ref a ∧ AmAt C H a t b ∧ Int.gcd t b = 1 ∧ t.natAbs < 2 ^ 3000 ∧ b.natAbs < 2 ^ 3000 ∧ ∀ (r : Addr) (H' : Hp), AmAt C H' r (F t b).1 (F t b).2 → Same H H' → Q (.ref r) H'
theorem unr_imp {f : Value → Sem Value} {r r' : V → Hp → VK → Prop} (h : UnR X f r) (i : ∀ x H Q, r' x H Q → r x H Q) : UnR X f r' := fun pins s σ H x v Q I rx q => h pins s σ H x v Q I rx (i x H Q q)
theorem un_negAm (T : AmTxt X.K X.mg C) (O : AmOps X.K X.mg C) (hr : Room 4 X.A) : UnR X (unaryOp .USub) (rOneC C fun t b => (-t, b)) :=
  let ⟨_, _, h1, h2, F, hb⟩ := O.neg.ex
  unr_imp (un_negC h1 h2 (rn_of (ok_Neg F T) hr hb .nil pass0)) fun _ _ _ ⟨a, t, b, e, h1, g, l1, l2, q⟩ => let ⟨_, dx, _, e1, _⟩ := id h1; ⟨a, dx, _, e, e1, a, t, b, rfl, h1, g, l1, l2, q⟩
end
theorem scRadd : FnScope ["self", "other"] ["self", "other"] (defScope sMRadd) := ⟨rfl, rfl, rfl, by decide +kernel, rfl, by decide +kernel, by decide +kernel⟩
theorem ok_Radd {f : Addr} {fd : FuncData} (F : Fun K "__radd__" "Amount.__radd__" sMRadd f fd) (T : AmTxt K mg C) (O : AmOps K mg C) : FnOk P w K mg base CX0 6 f fd ["self", "other"] (spAr C fRadd) := by
  have DOf := d_of (P := P) (w := w) (base := base) T O
  refine F.ok scRadd (fun vs H Q E h => ?_) (fun cdv A out s H vs Q E hr h => ?_)
  · obtain ⟨a, y, t1, b1, t2, b2, rfl, _⟩ := h
    rfl
  · obtain ⟨a, y, t1, b1, t2, b2, rfl, h1, hg, h2, l1, l2, l3, l4, q⟩ := h
    refine ⟨_, (pss_one (ps_ret (pe_op (op_addS T O (hr.mono (by decide))) (pe_callO DOf (hr.mono (by decide)) (pa_cons (pv 1) pa_nil)) (pv 0)))), ?_⟩
    have big : t2.natAbs < 2 ^ 8000 := Nat.lt_trans l3 (by decide +kernel)
    have c2 := h2.cop
    have n2 : (-t2).natAbs < 2 ^ 3000 := by rw [Int.natAbs_neg]; exact l3
    have n1 : (-t1).natAbs < 2 ^ 3000 := by rw [Int.natAbs_neg]; exact l1
    have gn1 : Int.gcd (-t1) b1 = 1 := by rw [Int.neg_gcd]; exact hg
    have gn2 : Int.gcd (-t2) b2 = 1 := by rw [Int.neg_gcd]; exact c2.2
    exact ⟨_, rfl, y, t2, b2, rfl, h2, big, fun m H1 am s1 => ⟨_, rfl, m, a, t2, b2, t1, b1, rfl, rfl, am, c2.2, h1.same s1, hg, l3, l4, l1, l2, fun r t b H' lw ax s2 => q r t b H' lw ax (s1.trans s2)⟩⟩
theorem scSub : FnScope ["self", "other"] ["self", "other"] (defScope sMSub) := ⟨rfl, rfl, rfl, by decide +kernel, rfl, by decide +kernel, by decide +kernel⟩
theorem ok_Sub {f : Addr} {fd : FuncData} (F : Fun K "__sub__" "Amount.__sub__" sMSub f fd) (T : AmTxt K mg C) (O : AmOps K mg C) : FnOk P w K mg base CX0 6 f fd ["self", "other"] (spAr C fSub) := by
  have DOf := d_of (P := P) (w := w) (base := base) T O
  refine F.ok scSub (fun vs H Q E h => ?_) (fun cdv A out s H vs Q E hr h => ?_)
  · obtain ⟨a, y, t1, b1, t2, b2, rfl, _⟩ := h
    rfl
  · obtain ⟨a, y, t1, b1, t2, b2, rfl, h1, hg, h2, l1, l2, l3, l4, q⟩ := h
    refine ⟨_, (pss_one (ps_ret (pe_op (op_addS T O (hr.mono (by decide))) (pv 0) (pe_un (un_negAm T O (hr.mono (by decide))) (pe_callO DOf (hr.mono (by decide)) (pa_cons (pv 1) pa_nil)))))), ?_⟩
    have big : t2.natAbs < 2 ^ 8000 := Nat.lt_trans l3 (by decide +kernel)
    have c2 := h2.cop
    have n2 : (-t2).natAbs < 2 ^ 3000 := by rw [Int.natAbs_neg]; exact l3
    have n1 : (-t1).natAbs < 2 ^ 3000 := by rw [Int.natAbs_neg]; exact l1
    have gn1 : Int.gcd (-t1) b1 = 1 := by rw [Int.neg_gcd]; exact hg
    have gn2 : Int.gcd (-t2) b2 = 1 := by rw [Int.neg_gcd]; exact c2.2
    exact ⟨_, rfl, _, rfl, y, t2, b2, rfl, h2, big, fun m H1 am s1 => ⟨m, t2, b2, rfl, am, c2.2, l3, l4, fun r H2 an s2 => ⟨a, r, t1, b1, -t2, b2, rfl, rfl, (h1.same s1).same s2, hg, an, gn2, l1, l2, n2, l4, fun r t b H' lw ax s3 => q r t b H' lw ax ((s1.trans s2).trans s3)⟩⟩⟩
theorem scRsub : FnScope ["self", "other"] ["self", "other"] (defScope sMRsub) := ⟨rfl, rfl, rfl, by decide +kernel, rfl, by decide +kernel, by decide +kernel⟩
theorem ok_Rsub {f : Addr} {fd : FuncData} (F : Fun K "__rsub__" "Amount.__rsub__" sMRsub f fd) (T : AmTxt K mg C) (O : AmOps K mg C) : FnOk P w K mg base CX0 6 f fd ["self", "other"] (spAr C fRsub) := by
  have DOf := d_of (P := P) (w := w) (base := base) T O
  refine F.ok scRsub (fun vs H Q E h => ?_) (fun cdv A out s H vs Q E hr h => ?_)
  · obtain ⟨a, y, t1, b1, t2, b2, rfl, _⟩ := h
    rfl
  · obtain ⟨a, y, t1, b1, t2, b2, rfl, h1, hg, h2, l1, l2, l3, l4, q⟩ := h
    refine ⟨_, (pss_one (ps_ret (pe_op (op_addS T O (hr.mono (by decide))) (pe_callO DOf (hr.mono (by decide)) (pa_cons (pv 1) pa_nil)) (pe_un (un_negAm T O (hr.mono (by decide))) (pv 0))))), ?_⟩
    have big : t2.natAbs < 2 ^ 8000 := Nat.lt_trans l3 (by decide +kernel)
    have c2 := h2.cop
    have n2 : (-t2).natAbs < 2 ^ 3000 := by rw [Int.natAbs_neg]; exact l3
    have n1 : (-t1).natAbs < 2 ^ 3000 := by rw [Int.natAbs_neg]; exact l1
    have gn1 : Int.gcd (-t1) b1 = 1 := by rw [Int.neg_gcd]; exact hg
    have gn2 : Int.gcd (-t2) b2 = 1 := by rw [Int.neg_gcd]; exact c2.2
    exact ⟨_, rfl, y, t2, b2, rfl, h2, big, fun m H1 am s1 => ⟨_, rfl, a, t1, b1, rfl, h1.same s1, hg, l1, l2, fun r H2 an s2 => ⟨m, r, t2, b2, -t1, b1, rfl, rfl, am.same s2, c2.2, an, gn1, l3, l4, n1, l2, fun r t b H' lw ax s3 => q r t b H' lw ax ((s1.trans s2).trans s3)⟩⟩⟩
theorem scMul : FnScope ["self", "other", "more"] ["self", "other"] (defScope sMMul) := ⟨rfl, rfl, rfl, by decide +kernel, rfl, by decide +kernel, by decide +kernel⟩
theorem ok_Mul {f : Addr} {fd : FuncData} (F : Fun K "__mul__" "Amount.__mul__" sMMul f fd) (T : AmTxt K mg C) (O : AmOps K mg C) : FnOk P w K mg base CX0 5 f fd ["self", "other"] (spAr C fMul) := by
  have DOf := d_of (P := P) (w := w) (base := base) T O
  refine F.ok scMul (fun vs H Q E h => ?_) (fun cdv A out s H vs Q E hr h => ?_)
  · obtain ⟨a, y, t1, b1, t2, b2, rfl, _⟩ := h
    rfl
  · obtain ⟨a, y, t1, b1, t2, b2, rfl, h1, hg, h2, l1, l2, l3, l4, q⟩ := h
    refine ⟨_, (pss_cons (ps_set (i := 2) scMul.nd rfl (Or.inl rfl) (pe_callO DOf (hr.mono (by decide)) (pa_cons (pv 1) pa_nil)))
  (pss_one (ps_ret (pe_callC (rn_amount T (hr.mono (by decide))) T.gC (kpC T) (pa_cons (pe_op op_mulW (pe_fld (pv 0) rfl) (pe_fld (pv 2) rfl)) (pa_cons (pe_op op_mulW (pe_fld (pv 0) rfl) (pe_fld (pv 2) rfl)) pa_nil)))))), ?_⟩
    refine ⟨_, rfl, y, t2, b2, rfl, h2, Nat.lt_trans l3 (by decide +kernel), fun m H1 am s1 => ?_⟩
    obtain ⟨z1, d1, p1, e1, g1⟩ := h1.same s1
    obtain ⟨z2, d2, p2, e2, g2⟩ := id am
    refine ⟨_, rfl, a, C, d1, _, _, rfl, e1, T.cl, T.nT, am_top _ _ _, _, rfl, m, C, d2, _, _, rfl, e2, T.cl, T.nT, am_top _ _ _, _, _, rfl, rfl, mulW3 l1 l3, ?_⟩
    refine ⟨_, rfl, a, C, d1, _, _, rfl, e1, T.cl, T.nB, am_bottom _ _ _, _, rfl, m, C, d2, _, _, rfl, e2, T.cl, T.nB, am_bottom _ _ _, _, _, rfl, rfl, mulW3 l2 l4, ?_⟩
    have u1 := prod_lt l1 l3
    have u3 := prod_lt l2 l4
    have u4 := p6
    exact ⟨_, _, rfl, Int.mul_ne_zero (by omega) (by omega), by omega, by omega, fun x t b H' lw ax s2 n => q x t b H' lw ax (s1.trans s2)⟩
section
variable {X : Cx}
theorem op_mulS (T : AmTxt X.K X.mg C) (O : AmOps X.K X.mg C) (hr : Room 5 X.A) : OpR X (binaryOp .Mult) (rArS C fMul) :=
  let ⟨_, _, h1, h2, F, hb⟩ := O.mul.ex
  opr_imp (op_binS O.sf h1 h2 (rn_of (ok_Mul F T O) hr hb .nil pass0)) fun _ _ _ _ h => rArS_in h
end
theorem scRmul : FnScope ["self", "other"] ["self", "other"] (defScope sMRmul) := ⟨rfl, rfl, rfl, by decide +kernel, rfl, by decide +kernel, by decide +kernel⟩
theorem ok_Rmul {f : Addr} {fd : FuncData} (F : Fun K "__rmul__" "Amount.__rmul__" sMRmul f fd) (T : AmTxt K mg C) (O : AmOps K mg C) : FnOk P w K mg base CX0 6 f fd ["self", "other"] (spAr C fRmul) := by
  have DOf := d_of (P := P) (w := w) (base := base) T O
  refine F.ok scRmul (fun vs H Q E h => ?_) (fun cdv A out s H vs Q E hr h => ?_)
  · obtain ⟨a, y, t1, b1, t2, b2, rfl, _⟩ := h
    rfl
  · obtain ⟨a, y, t1, b1, t2, b2, rfl, h1, hg, h2, l1, l2, l3, l4, q⟩ := h
    refine ⟨_, (pss_one (ps_ret (pe_op (op_mulS T O (hr.mono (by decide))) (pe_callO DOf (hr.mono (by decide)) (pa_cons (pv 1) pa_nil)) (pv 0)))), ?_⟩
    have big : t2.natAbs < 2 ^ 8000 := Nat.lt_trans l3 (by decide +kernel)
    exact ⟨_, rfl, y, t2, b2, rfl, h2, big, fun m H1 am s1 => ⟨_, rfl, m, a, t2, b2, t1, b1, rfl, rfl, am, h2.cop.2, h1.same s1, hg, l3, l4, l1, l2, fun r t b H' lw ax s2 => q r t b H' lw ax (s1.trans s2)⟩⟩
theorem scBool : FnScope ["self"] ["self"] (defScope sMBool) := ⟨rfl, rfl, rfl, by decide +kernel, rfl, by decide +kernel, by decide +kernel⟩
def spBool (C : Addr) : Sp := fun vs H Q _ => ∃ (a : Addr) (t b : Int), vs = [.ref a] ∧ AmAt C H a t b ∧ Q (.bl (!decide (t = 0))) H
theorem ok_Bool {f : Addr} {fd : FuncData} (F : Fun K "__bool__" "Amount.__bool__" sMBool f fd) (T : AmTxt K mg C) : FnOk P w K mg base CX0 1 f fd ["self"] (spBool C) := by
  refine F.ok scBool (fun vs H Q E h => ?_) (fun cdv A out s H vs Q E hr h => ?_)
  · obtain ⟨a, t, b, rfl, _⟩ := h
    rfl
  · obtain ⟨a, t, b, rfl, h1, q⟩ := h
    refine ⟨_, (pss_one (ps_ret (pe_callTy call_bool1 (by rfl) T.b_bool (by decide +kernel) (pa_cons (pe_cmpR op_ne (pe_fld (pv 0) rfl) pe_int (nomark _)) pa_nil)))), ?_⟩
    obtain ⟨z1, d1, p1, e1, g1⟩ := id h1
    refine ⟨_, rfl, a, C, d1, _, _, rfl, e1, T.cl, T.nT, am_top _ _ _, ?_⟩
    refine ⟨rfl, .inr ⟨_, rfl, ?_⟩⟩
    rw [show decide (V.int t = V.int 0) = decide (t = 0) from decide_eq_decide.mpr ⟨fun z => by injection z, fun z => by rw [z]⟩]
    exact q
/-! ### over -/
def fDiv : Int → Int → Int → Int → Int × Int := fun t1 b1 t2 b2 => (t1 * b2, b1 * t2)
def spDiv (C : Addr) : Sp := fun vs H Q E => spAr C fDiv vs H Q E ∧ ∃ (a : Addr) (y : V) (t2 b2 : Int), vs = [.ref a, y] ∧ AmV C H y t2 b2 ∧ t2 ≠ 0
theorem AmV.uniq {H : Hp} {v : V} {t b t' b' : Int} (h : AmV C H v t b) (h' : AmV C H v t' b') : t = t' ∧ b = b' := by
  rcases h with ⟨a, rfl, ⟨_, dx, pl, e, _⟩, _⟩ | ⟨rfl, rfl⟩
  · rcases h' with ⟨a', e', ⟨_, dx', pl', k, _⟩, _⟩ | ⟨e', _⟩
    · cases e'
      rw [e] at k
      injection k with k
      injection k with _ _ k
      simp only [amF, List.cons.injEq, Prod.mk.injEq, V.int.injEq] at k
      exact ⟨k.1.2, k.2.1.2⟩
    · cases e'
  · rcases h' with ⟨a', e', _⟩ | ⟨e', rfl⟩
    · cases e'
    · cases e'
      exact ⟨rfl, rfl⟩
/-! ### bottom, sign -/
theorem scBot : FnScope ["self"] ["self"] (defScope sMBot) := ⟨rfl, rfl, rfl, by decide +kernel, rfl, by decide +kernel, by decide +kernel⟩
theorem scSgn : FnScope ["self"] ["self"] (defScope sMSign) := ⟨rfl, rfl, rfl, by decide +kernel, rfl, by decide +kernel, by decide +kernel⟩
def spBot (C : Addr) : Sp := fun vs H Q _ => ∃ (a : Addr) (t b : Int), vs = [.ref a] ∧ AmAt C H a t b ∧ Q (.int b) H
def sg1 (t : Int) : Int := (if decide (t > 0) = true then 1 else 0) - (if decide (t < 0) = true then 1 else 0)
def spSgn (C : Addr) : Sp := fun vs H Q _ => ∃ (a : Addr) (t b : Int), vs = [.ref a] ∧ AmAt C H a t b ∧ Q (.int (sg1 t)) H
theorem ok_Bot {f : Addr} {fd : FuncData} (F : Fun K "bottom" "Amount.bottom" sMBot f fd) (T : AmTxt K mg C) : FnOk P w K mg base CX0 1 f fd ["self"] (spBot C) := by
  refine F.ok scBot (fun vs H Q E h => ?_) (fun cdv A out s H vs Q E hr h => ?_)
  · obtain ⟨a, t, b, rfl, _⟩ := h
    rfl
  · obtain ⟨a, t, b, rfl, h1, q⟩ := h
    obtain ⟨z1, d1, p1, e1, g1⟩ := id h1
    refine ⟨_, (pss_one (ps_ret (pe_fld (pv 0) rfl))), ?_⟩
    exact ⟨_, rfl, a, C, d1, _, _, rfl, e1, T.cl, T.nB, am_bottom _ _ _, q⟩
theorem ok_Sgn {f : Addr} {fd : FuncData} (F : Fun K "sign" "Amount.sign" sMSign f fd) (T : AmTxt K mg C) : FnOk P w K mg base CX0 1 f fd ["self"] (spSgn C) := by
  refine F.ok scSgn (fun vs H Q E h => ?_) (fun cdv A out s H vs Q E hr h => ?_)
  · obtain ⟨a, t, b, rfl, _⟩ := h
    rfl
  · obtain ⟨a, t, b, rfl, h1, q⟩ := h
    obtain ⟨z1, d1, p1, e1, g1⟩ := id h1
    refine ⟨_, (pss_one (ps_ret (pe_op op_sub (pe_callTy call_int1 (by rfl) T.b_int (by decide +kernel) (pa_cons (pe_cmpR op_gt (pe_fld (pv 0) rfl) pe_int (nomark _)) pa_nil)) (pe_callTy call_int1 (by rfl) T.b_int (by decide +kernel) (pa_cons (pe_cmpR op_lt (pe_fld (pv 0) rfl) pe_int (nomark _)) pa_nil))))), ?_⟩
    refine ⟨_, rfl, a, C, d1, _, _, rfl, e1, T.cl, T.nT, am_top _ _ _, _, _, rfl, rfl, .inr ⟨_, rfl, ?_⟩⟩
    exact ⟨_, rfl, a, C, d1, _, _, rfl, e1, T.cl, T.nT, am_top _ _ _, _, _, rfl, rfl, .inr ⟨_, rfl, _, _, rfl, rfl, q⟩⟩
/-! ### the rules for a law -/
section
variable {X : Cx}
theorem opr_or {f : Value → Value → Sem Value} {r1 r2 : R2} (h1 : OpR X f r1) (h2 : OpR X f r2) : OpR X f fun x y H Q => r1 x y H Q ∨ r2 x y H Q := fun pins s σ H x y v u Q I rx ry q => q.elim (h1 pins s σ H x y v u Q I rx ry) (h2 pins s σ H x y v u Q I rx ry)
/-- two amounts, at least one of them an Amount -/
def rArV (C : Addr) (F : Int → Int → Int → Int → Int × Int) : R2 := fun x y H Q => ∃ (t1 b1 t2 b2 : Int), AmV C H x t1 b1 ∧ AmV C H y t2 b2 ∧ ((∃ a, x = .ref a) ∨ ∃ a, y = .ref a) ∧ t1.natAbs < 2 ^ 3000 ∧ b1.natAbs < 2 ^ 3000 ∧ t2.natAbs < 2 ^ 3000 ∧ b2.natAbs < 2 ^ 3000 ∧
  ∀ (r : Addr) (t b : Int) (H' : Hp), Low (F t1 b1 t2 b2).1 (F t1 b1 t2 b2).2 t b → AmAt C H' r t b → Same H H' → Q (.ref r) H'
theorem rArV_in {F G : Int → Int → Int → Int → Int × Int} {x y : V} {H : Hp} {Q : VK} (e : ∀ t1 b1 t2 b2, G t2 b2 t1 b1 = F t1 b1 t2 b2) (h : rArV C F x y H Q) : (rBinS C (spAr C F) E0 x y H Q ∨ rBinI C (spAr C F) E0 x y H Q) ∨ rBinR C (spAr C G) E0 x y H Q := by
  obtain ⟨t1, b1, t2, b2, hx, hy, ho, l1, l2, l3, l4, q⟩ := h
  rcases hx with ⟨a, rfl, h1, g1⟩ | ⟨rfl, rfl⟩
  · obtain ⟨z1, d1, p1, e1, m1⟩ := id h1
    refine .inl ?_
    rcases hy with ⟨c, rfl, h2, g2⟩ | ⟨rfl, rfl⟩
    · obtain ⟨z2, d2, p2, e2, m2⟩ := id h2
      exact .inl ⟨a, c, d1, d2, _, _, rfl, rfl, e1, e2, a, .ref c, t1, b1, t2, b2, rfl, h1, g1, .inl ⟨c, rfl, h2, g2⟩, l1, l2, l3, l4, q⟩
    · exact .inr ⟨a, d1, _, t2, rfl, rfl, e1, a, .int t2, t1, b1, t2, 1, rfl, h1, g1, .inr ⟨rfl, rfl⟩, l1, l2, l3, l4, q⟩
  · rcases hy with ⟨c, rfl, h2, g2⟩ | ⟨rfl, rfl⟩
    · obtain ⟨z2, d2, p2, e2, m2⟩ := id h2
      exact .inr ⟨c, d2, _, t1, rfl, rfl, e2, c, .int t1, t2, b2, t1, 1, rfl, h2, g2, .inr ⟨rfl, rfl⟩, l3, l4, l1, l2, by rw [e]; exact q⟩
    · rcases ho with ⟨_, z⟩ | ⟨_, z⟩ <;> cases z
theorem op_addAm (T : AmTxt X.K X.mg C) (O : AmOps X.K X.mg C) (hr : Room 6 X.A) : OpR X (binaryOp .Add) (rArV C fAdd) :=
  let ⟨_, _, h1, h2, F1, hb⟩ := O.add.ex
  let ⟨_, _, h3, h4, F2, hb2⟩ := O.radd.ex
  opr_imp (opr_or (opr_or (op_binS O.sf h1 h2 (rn_of (ok_Add F1 T O) (hr.mono (by decide)) hb .nil pass0)) (op_binI (fo := some (.builtin "int.__add__")) (ro := some (.builtin "int.__radd__")) O.sf h1 h2 h3 (by decide +kernel) (by decide +kernel) (rn_of (ok_Add F1 T O) (hr.mono (by decide)) hb .nil pass0)))
    (op_binR (id := "int.__add__") O.sf h1 h3 h4 O.si F.fills_int_add F.slot_int_add (fun hx q => int_add_no hx q) (rn_of (ok_Radd F2 T O) hr hb2 .nil pass0))) fun _ _ _ _ h => rArV_in (fun _ _ _ _ => rfl) h
theorem op_subAm (T : AmTxt X.K X.mg C) (O : AmOps X.K X.mg C) (hr : Room 6 X.A) : OpR X (binaryOp .Sub) (rArV C fSub) :=
  let ⟨_, _, h1, h2, F1, hb⟩ := O.sub.ex
  let ⟨_, _, h3, h4, F2, hb2⟩ := O.rsub.ex
  opr_imp (opr_or (opr_or (op_binS O.sf h1 h2 (rn_of (ok_Sub F1 T O) hr hb .nil pass0)) (op_binI (fo := some (.builtin "int.__sub__")) (ro := some (.builtin "int.__rsub__")) O.sf h1 h2 h3 (by decide +kernel) (by decide +kernel) (rn_of (ok_Sub F1 T O) hr hb .nil pass0)))
    (op_binR (id := "int.__sub__") O.sf h1 h3 h4 O.si F.fills_int_sub F.slot_int_sub (fun hx q => int_sub_no hx q) (rn_of (ok_Rsub F2 T O) hr hb2 .nil pass0))) fun _ _ _ _ h => rArV_in (fun _ _ _ _ => rfl) h
theorem op_mulAm (T : AmTxt X.K X.mg C) (O : AmOps X.K X.mg C) (hr : Room 6 X.A) : OpR X (binaryOp .Mult) (rArV C fMul) :=
  let ⟨_, _, h1, h2, F1, hb⟩ := O.mul.ex
  let ⟨_, _, h3, h4, F2, hb2⟩ := O.rmul.ex
  opr_imp (opr_or (opr_or (op_binS O.sf h1 h2 (rn_of (ok_Mul F1 T O) (hr.mono (by decide)) hb .nil pass0)) (op_binI (fo := some (.builtin "int.__mul__")) (ro := some (.builtin "int.__rmul__")) O.sf h1 h2 h3 (by decide +kernel) (by decide +kernel) (rn_of (ok_Mul F1 T O) (hr.mono (by decide)) hb .nil pass0)))
    (op_binR (id := "int.__mul__") O.sf h1 h3 h4 O.si F.fills_int_mul F.slot_int_mul (fun hx q => int_mul_no hx q) (rn_of (ok_Rmul F2 T O) hr hb2 .nil pass0))) fun _ _ _ _ h => rArV_in (fun _ _ _ _ => rfl) h
theorem callr_imp2 {f : Value} {r r' : List V → Hp → VK → Prop} (h : CallR X f r) (i : ∀ xs H Q, r' xs H Q → r xs H Q) : CallR X f r' := fun pins s σ H xs us Q I rv q => h pins s σ H xs us Q I rv (i xs H Q q)
theorem call_absAm (T : AmTxt X.K X.mg C) (O : AmOps X.K X.mg C) (hr : Room 5 X.A) : CallR X (.builtin "abs") (fun xs H Q => ∃ x, xs = [x] ∧ rOneC C (fun t b => (if t < 0 then -t else t, b)) x H Q) :=
  let ⟨_, _, h1, h2, F1, hb⟩ := O.abs.ex
  callr_imp2 (call_absC h1 h2 (rn_of (X := in1 X) (ok_Abs F1 T) hr.in1 hb .nil pass0)) fun _ _ _ ⟨x, ex, a, t, b, e, h1, g, l1, l2, q⟩ => let ⟨_, dx, _, e1, _⟩ := id h1; ⟨a, dx, _, by rw [ex, e], e1, a, t, b, rfl, h1, g, l1, l2, q⟩
theorem call_boolAm (T : AmTxt X.K X.mg C) (O : AmOps X.K X.mg C) (hr : Room 3 X.A) : CallR X (.type "bool") (fun xs H Q => ∃ (a : Addr) (t b : Int), xs = [.ref a] ∧ AmAt C H a t b ∧ Q (.bl (!decide (t = 0))) H) :=
  let ⟨_, _, h1, h2, F1, hb⟩ := O.bool.ex
  callr_imp2 (call_boolC h1 h2 (rn_of (X := in1 (in1 X)) (ok_Bool F1 T) hr.in1.in1 hb .nil pass0)) fun _ _ _ ⟨a, t, b, ex, h1, q⟩ => let ⟨_, dx, _, e1, _⟩ := id h1; ⟨a, dx, _, ex, e1, a, t, b, rfl, h1, _, rfl, q⟩
end
end
end SP
namespace SP
open PySem PySem.Spec PyProof.Rows L2


/-! ### in lowest terms, as a function -/
def lod (z b : Int) : Int := (Int.gcd z b : Nat) * (if 0 < b then 1 else -1)
def lo (z b : Int) : Int × Int := (z.fdiv (lod z b), b.fdiv (lod z b))
theorem low_lo {z b : Int} (h : b ≠ 0) : Low z b (lo z b).1 (lo z b).2 := by
  refine (low_of (s := if 0 < b then 1 else -1) h ?_ rfl).2.2
  split
  · exact .inl ⟨rfl, by assumption⟩
  · exact .inr ⟨rfl, by omega⟩
theorem Low.is {z b t d : Int} (l : Low z b t d) (h : b ≠ 0) : (t, d) = lo z b := by
  obtain ⟨e1, e2⟩ := l.uniq (low_lo h) h
  rw [e1, e2]
theorem lo_cop {t b : Int} (p : 0 < b) (g : Int.gcd t b = 1) : lo t b = (t, b) := ((low_self p g).is (by omega)).symm
/-- a fraction in lowest terms -/
def Cop (f : Int × Int) : Prop := 0 < f.2 ∧ Int.gcd f.1 f.2 = 1
theorem lo_Cop {z b : Int} (h : b ≠ 0) : Cop (lo z b) := ⟨(low_lo h).pos, (low_lo h).one⟩
/-- both parts below 2 ^ n -/
def Bd (n : Nat) (f : Int × Int) : Prop := f.1.natAbs < 2 ^ n ∧ f.2.natAbs < 2 ^ n
theorem Bd.mono {n m : Nat} {f : Int × Int} (h : Bd n f) (k : n ≤ m) : Bd m f := ⟨Nat.lt_of_lt_of_le h.1 (Nat.pow_le_pow_right (by decide) k), Nat.lt_of_lt_of_le h.2 (Nat.pow_le_pow_right (by decide) k)⟩
theorem lo_Bd {n : Nat} {z b : Int} (h : b ≠ 0) (k : Bd n (z, b)) : Bd n (lo z b) := ⟨Nat.lt_of_le_of_lt (low_lo h).lt k.1, Nat.lt_of_le_of_lt (low_lo h).lb k.2⟩
def plus (p q : Int × Int) : Int × Int := lo (p.1 * q.2 + q.1 * p.2) (p.2 * q.2)
def times (p q : Int × Int) : Int × Int := lo (p.1 * q.1) (p.2 * q.2)
theorem mul_Bd {n m : Nat} {x y : Int} (hx : x.natAbs < 2 ^ n) (hy : y.natAbs < 2 ^ m) : (x * y).natAbs < 2 ^ (n + m) := by
  rw [Int.natAbs_mul, Nat.pow_add]
  exact Nat.mul_lt_mul'' hx hy
theorem add_Bd {n : Nat} {x y : Int} (hx : x.natAbs < 2 ^ n) (hy : y.natAbs < 2 ^ n) : (x + y).natAbs < 2 ^ (n + 1) := by
  have := Int.natAbs_add_le x y
  rw [Nat.pow_succ]
  omega
theorem plus_Bd {n m : Nat} {p q : Int × Int} (hp : Bd n p) (hq : Bd m q) (p0 : Cop p) (q0 : Cop q) : Bd (n + m + 1) (plus p q) ∧ Cop (plus p q) := by
  have nz : p.2 * q.2 ≠ 0 := Int.mul_ne_zero (by have := p0.1; omega) (by have := q0.1; omega)
  refine ⟨lo_Bd nz ⟨add_Bd (mul_Bd hp.1 hq.2) ?_, Nat.lt_of_lt_of_le (mul_Bd hp.2 hq.2) (Nat.pow_le_pow_right (by decide) (by omega))⟩, lo_Cop nz⟩
  rw [Nat.add_comm]
  exact mul_Bd hq.1 hp.2
theorem times_Bd {n m : Nat} {p q : Int × Int} (hp : Bd n p) (hq : Bd m q) (p0 : Cop p) (q0 : Cop q) : Bd (n + m) (times p q) ∧ Cop (times p q) := by
  have nz : p.2 * q.2 ≠ 0 := Int.mul_ne_zero (by have := p0.1; omega) (by have := q0.1; omega)
  exact ⟨lo_Bd nz ⟨mul_Bd hp.1 hq.1, mul_Bd hp.2 hq.2⟩, lo_Cop nz⟩
def neg1 (p : Int × Int) : Int × Int := (-p.1, p.2)
theorem neg1_Cop {p : Int × Int} (h : Cop p) : Cop (neg1 p) := ⟨h.1, by show Int.gcd (-p.1) p.2 = 1; rw [Int.neg_gcd]; exact h.2⟩
theorem neg1_Bd {n : Nat} {p : Int × Int} (h : Bd n p) : Bd n (neg1 p) := ⟨by show (-p.1).natAbs < 2 ^ n; rw [Int.natAbs_neg]; exact h.1, h.2⟩
/-- v is the amount f -/
def AV (C : Addr) (H : Hp) (v : V) (f : Int × Int) : Prop := AmV C H v f.1 f.2
theorem AV.same {C : Addr} {H H' : Hp} {v : V} {f : Int × Int} (h : AV C H v f) (s : Same H H') : AV C H' v f := AmV.same h s
theorem AV.cop {C : Addr} {H : Hp} {v : V} {f : Int × Int} (h : AV C H v f) : Cop f := AmV.cop h
/-- at a the Amount f -/
def AA (C : Addr) (H : Hp) (a : Addr) (f : Int × Int) : Prop := AmAt C H a f.1 f.2 ∧ Cop f
theorem AA.av {C : Addr} {H : Hp} {a : Addr} {f : Int × Int} (h : AA C H a f) : AV C H (.ref a) f := .inl ⟨a, rfl, h.1, h.2.2⟩
theorem AA.same {C : Addr} {H H' : Hp} {a : Addr} {f : Int × Int} (h : AA C H a f) (s : Same H H') : AA C H' a f := ⟨h.1.same s, h.2⟩
theorem AA.of {C : Addr} {H : Hp} {a : Addr} {z e t b : Int} (l : Low z e t b) (ne : e ≠ 0) (h : AmAt C H a t b) : AA C H a (lo z e) := by
  rw [← l.is ne]
  exact ⟨h, l.pos, l.one⟩
/-- the sum of some, from f on -/
def sumL (f : Int × Int) (fs : List (Int × Int)) : Int × Int := fs.foldl plus f
def AVs (C : Addr) (H : Hp) (n : Nat) : List V → List (Int × Int) → Prop
  | [], [] => True
  | v :: vs, f :: fs => AV C H v f ∧ Bd n f ∧ AVs C H n vs fs
  | _, _ => False
theorem AVs.same {C : Addr} {H H' : Hp} {n : Nat} (s : Same H H') : ∀ {vs : List V} {fs : List (Int × Int)}, AVs C H n vs fs → AVs C H' n vs fs
  | [], [], _ => trivial
  | _ :: _, _ :: _, h => ⟨h.1.same s, h.2.1, h.2.2.same s⟩
  | [], _ :: _, h => h.elim
  | _ :: _, [], h => h.elim
theorem AVs.len {C : Addr} {H : Hp} {n : Nat} : ∀ {vs : List V} {fs : List (Int × Int)}, AVs C H n vs fs → vs.length = fs.length
  | [], [], _ => rfl
  | _ :: _, _ :: _, h => congrArg (· + 1) h.2.2.len
  | [], _ :: _, h => h.elim
  | _ :: _, [], h => h.elim
theorem AVs.at {C : Addr} {H : Hp} {n : Nat} : ∀ {vs : List V} {fs : List (Int × Int)} {i : Nat} {v : V}, AVs C H n vs fs → vs[i]? = some v → ∃ f, fs[i]? = some f ∧ AV C H v f ∧ Bd n f
  | _ :: _, f :: _, 0, _, h, e => by cases e; exact ⟨f, rfl, h.1, h.2.1⟩
  | _ :: _, _ :: _, i + 1, _, h, e => h.2.2.at (i := i) e
  | [], [], _, _, _, e => by simp at e
  | [], _ :: _, _, _, h, _ => h.elim
  | _ :: _, [], _, _, h, _ => h.elim
theorem sumL_take {f g : Int × Int} {fs : List (Int × Int)} {i : Nat} (h : fs[i]? = some g) : sumL f (fs.take (i + 1)) = plus (sumL f (fs.take i)) g := by
  unfold sumL
  rw [List.take_add_one, h, List.foldl_append]
  rfl
section
variable {P : Program} {w : World} {K : PySem.W.Frag} {mg : Str → Option Value} {base : Heap} {C : Addr}
end
end SP
/-! Plainly: texts of amounts read. -/
namespace SP
open PySem PySem.Spec PyProof.Rows L2 TL
/-! ### lists of signs -/
def dgt (c : Nat) : Bool := decide (c ∈ ("0123456789" : Str).cps.toList)
theorem dgt_iff {c : Nat} : dgt c = true ↔ 48 ≤ c ∧ c ≤ 57 := by
  have e : ("0123456789" : Str).cps.toList = [48, 49, 50, 51, 52, 53, 54, 55, 56, 57] := by decide +kernel
  unfold dgt
  rw [e, decide_eq_true_iff]
  simp only [List.mem_cons, List.not_mem_nil, or_false]
  omega
theorem all_dgt {l : List Nat} : l.all dgt = true ↔ NumText.AllDigits l := by
  rw [List.all_eq_true]
  exact ⟨fun h c hc => dgt_iff.mp (h c hc), fun h c hc => dgt_iff.mpr (h c hc)⟩
/-- without a stroke ahead -/
def bareL : List Nat → List Nat
  | 45 :: l => l
  | l => l
/-- digits without a 0 too many -/
def canL (l : List Nat) : Bool := if l = [] ∨ (l.head? = some 48 ∧ l ≠ [48]) then false else l.all dgt
theorem canL_iff {l : List Nat} : canL l = true ↔ l ≠ [] ∧ NumText.AllDigits l ∧ (l = [48] ∨ l.head? ≠ some 48) := by
  unfold canL
  by_cases h : l = [] ∨ (l.head? = some 48 ∧ l ≠ [48])
  · rw [if_pos h]
    refine ⟨fun z => (by cases z), fun ⟨a, b, c⟩ => ?_⟩
    rcases h with h | ⟨h1, h2⟩
    · exact (a h).elim
    · exact c.elim (fun c => (h2 c).elim) fun c => (c h1).elim
  · rw [if_neg h, all_dgt]
    constructor
    · intro d
      refine ⟨fun z => h (.inl z), d, Classical.byContradiction fun n => h (.inr ⟨?_, fun z => n (.inl z)⟩)⟩
      exact Classical.byContradiction fun m => n (.inr m)
    · exact fun z => z.2.1
theorem nat_char {l : List Nat} (h : NumText.AllDigits l) : (l.map Char.ofNat).map Char.toNat = l := by
  rw [List.map_map]
  conv => rhs; rw [← List.map_id l]
  refine List.map_congr_left fun c hc => ?_
  obtain ⟨a, b⟩ := h c hc
  have : ∀ c, c < 58 → (Char.ofNat c).toNat = c := by decide
  exact this c (by omega)
theorem canL_num {l : List Nat} (h : canL l = true) : numL (NumText.digitsVal l) = l := by
  obtain ⟨h1, h2, h3⟩ := canL_iff.mp h
  have e : Nat.toDigits 10 (NumText.digitsVal l) = l.map Char.ofNat := by
    rcases h3 with rfl | h3
    · decide
    · cases l with
      | nil => exact (h1 rfl).elim
      | cons c r =>
        refine NumText.toDigits_digitsVal r.length (c :: r) rfl h2 (.inr ⟨c, r, rfl, ?_⟩)
        have := h2.head
        have n48 : c ≠ 48 := fun z => h3 (by rw [z]; rfl)
        omega
  unfold numL
  rw [e, nat_char h2]
theorem num_head {n : Nat} (h : n ≠ 0) : ∃ c r, numL n = c :: r ∧ 49 ≤ c ∧ c ≤ 57 := by
  cases e : numL n with
  | nil => exact (numL_ne n e).elim
  | cons c r =>
    have d := numL_digits n
    rw [e] at d
    have hd := d.head
    refine ⟨c, r, rfl, ?_, hd.2⟩
    refine Classical.byContradiction fun k => ?_
    have c48 : c = 48 := by omega
    subst c48
    -- a number that begins with 0 has as many digits as the rest
    have v : NumText.digitsVal r = n := by
      have := numL_val n
      rw [e, NumText.digitsVal_zero] at this
      exact this
    have all := NumText.toDigits_all (48 :: r) d
    have tn : Nat.toDigits 10 n = (48 :: r).map Char.ofNat := by
      have := congrArg (fun l => l.map Char.ofNat) e
      have back : ∀ m : Nat, (numL m).map Char.ofNat = Nat.toDigits 10 m := fun m => by
        unfold numL
        rw [List.map_map]
        conv => rhs; rw [← List.map_id (Nat.toDigits 10 m)]
        exact List.map_congr_left fun c _ => by simp
      rw [back] at this
      exact this
    have v2 : NumText.digitsVal (48 :: r) = n := by rw [NumText.digitsVal_zero]; exact v
    rw [v2, tn] at all
    have dw : (48 :: r).dropWhile (· == 48) = r.dropWhile (· == 48) := by simp [List.dropWhile]
    rw [dw] at all
    have len := congrArg List.length all
    cases q : r.dropWhile (· == 48) with
    | nil =>
      rw [q] at len
      have rn : r = [] := by
        have : r.length = 0 := by simpa using len
        exact List.eq_nil_of_length_eq_zero this
      rw [rn] at v
      exact h v.symm
    | cons a b =>
      rw [q] at len
      have l2 : (r.dropWhile (· == 48)).length ≤ r.length := by
        have := congrArg List.length (List.takeWhile_append_dropWhile (p := (· == 48)) (l := r))
        rw [List.length_append] at this
        omega
      rw [q] at l2
      simp at len l2
      omega
theorem numL_can (n : Nat) : canL (numL n) = true := by
  refine canL_iff.mpr ⟨numL_ne n, numL_digits n, ?_⟩
  by_cases h : n = 0
  · subst h
    exact .inl (by decide)
  · obtain ⟨c, r, e, c1, _⟩ := num_head h
    refine .inr ?_
    rw [e]
    intro z
    injection z with z
    omega
/-! ### signed numbers as lists -/
def intL (t : Int) : List Nat := if t < 0 then 45 :: numL t.natAbs else numL t.natAbs
theorem tl_int (t : Int) : tl (Str.ofString (toString t)) = intL t := by
  unfold intL
  cases t with
  | ofNat n =>
    rw [if_neg (show ¬ Int.ofNat n < 0 from Int.not_lt.mpr (Int.natCast_nonneg n))]
    exact tl_num n
  | negSucc n =>
    rw [if_pos (Int.negSucc_lt_zero n)]
    have e : toString (Int.negSucc n) = "-" ++ toString (n + 1) := rfl
    have e2 : (toString ((((n + 1 : Nat)) : Int))) = toString (n + 1) := rfl
    have e3 := tl_num (n + 1)
    rw [e2] at e3
    rw [e]
    show tl (Str.ofString ("-" ++ toString (n + 1))) = 45 :: numL (n + 1)
    rw [← e3]
    simp [tl, Str.ofString]
    rfl
theorem bare_int (t : Int) : bareL (intL t) = numL t.natAbs := by
  unfold intL
  split
  · rfl
  · cases e : numL t.natAbs with
    | nil => rfl
    | cons c r =>
      have d := numL_digits t.natAbs
      rw [e] at d
      have hd := d.head
      unfold bareL
      split
      · rename_i l z
        injection z with z _
        omega
      · rfl
/-! ### what the law reads, what the program reads -/
def parL (l : List Nat) : Int := NumText.digitsVal l
/-- the law's reading, of the words of the bare row -/
def lrd (row : List Nat) (words : List (List Nat)) : Option (Int × Int) :=
  if words.length ≤ 2 ∧ words.all canL = true ∧ row ≠ [45, 48] then
    let t : Int := NumText.digitsVal (words.headD [])
    let b : Int := if words.length = 2 then NumText.digitsVal (words.getLastD []) else 1
    if words.length = 2 ∧ (b < 2 ∨ Int.gcd t b ≠ 1) then none else some (if bareL row = row then t else -t, b)
  else none
def wholeL (w : List Nat) : Option Int := if (bareL w).length ≠ 0 ∧ (bareL w).length ≤ 4000 ∧ (bareL w).all dgt = true then some (if bareL w = w then (NumText.digitsVal (bareL w) : Int) else -(NumText.digitsVal (bareL w) : Int)) else none
/-- the program's reading, of both sides of the first stroke -/
def prd (row : Str) (first second : List Nat) (stroke : Bool) : Option (Int × Int) :=
  match wholeL first, (if stroke = true then wholeL second else some 1) with
  | some t, some b => if b = 0 then none else if sTxt (lo t b).1 (lo t b).2 = row then some (lo t b) else none
  | _, _ => none
theorem bare_dig {l : List Nat} (h : NumText.AllDigits l) : bareL l = l := by
  cases l with
  | nil => rfl
  | cons c r =>
    have hd := h.head
    unfold bareL
    split
    · rename_i l z
      injection z with z _
      omega
    · rfl
theorem bare_cases (row : List Nat) : bareL row = row ∨ (row = 45 :: bareL row ∧ bareL row ≠ row) := by
  cases row with
  | nil => exact .inl rfl
  | cons c r =>
    by_cases h : c = 45
    · subst h
      refine .inr ⟨rfl, fun z => ?_⟩
      have : (bareL (45 :: r)).length = (45 :: r).length := congrArg List.length z
      have e : bareL (45 :: r) = r := rfl
      rw [e] at this
      simp at this
    · refine .inl ?_
      unfold bareL
      split
      · rename_i l z
        injection z with z _
        exact (h z).elim
      · rfl
theorem canL_dig {l : List Nat} (h : canL l = true) : NumText.AllDigits l := (canL_iff.mp h).2.1
theorem canL_ne {l : List Nat} (h : canL l = true) : l ≠ [] := (canL_iff.mp h).1
theorem tl_sTxt (t b : Int) (hb : 0 < b) : tl (sTxt t b) = intL t ++ if b = 1 then [] else 47 :: numL b.natAbs := by
  unfold sTxt
  split
  · rw [tl_int, List.append_nil]
  · have e : ∀ x y : Str, tl (x ++ y) = tl x ++ tl y := fun x y => tl_append x y
    rw [e, e, e, tl_int, tl_int]
    have e1 : tl Str.empty = [] := rfl
    have e2 : tl ("/" : Str) = [47] := by decide +kernel
    rw [e1, e2, List.nil_append]
    have e3 : intL b = numL b.natAbs := by
      unfold intL
      rw [if_neg (by omega)]
    rw [e3]
    simp
theorem digitsVal_num {l : List Nat} (h : canL l = true) {n : Int} (e : n = (NumText.digitsVal l : Int) ∨ n = -(NumText.digitsVal l : Int)) : numL n.natAbs = l := by
  have : n.natAbs = NumText.digitsVal l := by
    rcases e with e | e <;> omega
  rw [this]
  exact canL_num h
/-- where the law reads, the text is that of the fraction -/
theorem lrd_txt {row : List Nat} {words : List (List Nat)} {t b : Int} (wl : words = [bareL row] ∨ ∃ a c, words = [a, c] ∧ bareL row = a ++ 47 :: c) (h : lrd row words = some (t, b)) : 0 < b ∧ Int.gcd t b = 1 ∧ row = intL t ++ (if b = 1 then [] else 47 :: numL b.natAbs) ∧ ((words = [bareL row] ∧ b = 1 ∧ canL (bareL row) = true ∧ t = (if bareL row = row then (NumText.digitsVal (bareL row) : Int) else -(NumText.digitsVal (bareL row) : Int))) ∨ ∃ a c, words = [a, c] ∧ bareL row = a ++ 47 :: c ∧ canL a = true ∧ canL c = true ∧ t = (if bareL row = row then (NumText.digitsVal a : Int) else -(NumText.digitsVal a : Int)) ∧ b = NumText.digitsVal c ∧ b ≠ 1) := by
  unfold lrd at h
  split at h
  · rename_i g
    obtain ⟨g1, g2, g3⟩ := g
    rcases wl with rfl | ⟨a, c, rfl, e⟩
    · have hc : canL (bareL row) = true := by simpa using g2
      simp only [List.length_singleton, List.headD_cons, Nat.reduceEqDiff, false_and, if_false, if_neg, Option.some.injEq, Prod.mk.injEq] at h
      obtain ⟨h1, h2⟩ := h
      have hb : b = 1 := by simpa using h2.symm
      subst hb
      refine ⟨by decide, by simp, ?_, .inl ⟨rfl, rfl, hc, h1.symm⟩⟩
      rw [if_pos rfl, List.append_nil]
      rcases bare_cases row with q | ⟨q, nq⟩
      · rw [if_pos q] at h1
        unfold intL
        rw [if_neg (by omega), digitsVal_num hc (.inl h1.symm), q]
      · rw [if_neg nq] at h1
        have pos : NumText.digitsVal (bareL row) ≠ 0 := fun z => by
          have := canL_num hc
          rw [z] at this
          have e0 : numL 0 = [48] := by decide
          rw [e0] at this
          exact g3 (by rw [q, ← this])
        unfold intL
        rw [if_pos (by omega), digitsVal_num hc (.inr h1.symm)]
        exact q
    · have hc : canL a = true ∧ canL c = true := by simpa using g2
      obtain ⟨ca, cc⟩ := hc
      have eb : (if ([a, c] : List (List Nat)).length = 2 then ((NumText.digitsVal (([a, c] : List (List Nat)).getLastD []) : Nat) : Int) else 1) = NumText.digitsVal c := by rfl
      have ea : (([a, c] : List (List Nat)).headD []) = a := rfl
      rw [eb, ea] at h
      by_cases k : (NumText.digitsVal c : Int) < 2 ∨ Int.gcd (NumText.digitsVal a : Int) (NumText.digitsVal c : Int) ≠ 1
      · rw [if_pos ⟨rfl, k⟩] at h
        cases h
      · rw [if_neg (fun z => k z.2)] at h
        injection h with h
        injection h with h1 h2
        have k2 : ¬ (NumText.digitsVal c : Int) < 2 := fun z => k (.inl z)
        have k3 : Int.gcd (NumText.digitsVal a : Int) (NumText.digitsVal c : Int) = 1 := Classical.byContradiction fun z => k (.inr z)
        have b1 : b ≠ 1 := by omega
        have gg : Int.gcd t b = 1 := by
          rw [← h1, ← h2]
          split
          · exact k3
          · rw [Int.neg_gcd] <;> exact k3
        refine ⟨by omega, gg, ?_, .inr ⟨a, c, rfl, e, ca, cc, h1.symm, h2.symm, b1⟩⟩
        rw [if_neg b1, digitsVal_num cc (.inl h2.symm)]
        rcases bare_cases row with q | ⟨q, nq⟩
        · rw [if_pos q] at h1
          unfold intL
          rw [if_neg (by omega), digitsVal_num ca (.inl h1.symm), ← e, q]
        · rw [if_neg nq] at h1
          have pos : NumText.digitsVal a ≠ 0 := fun z => by
            rw [z] at k3
            simp at k3
            omega
          unfold intL
          rw [if_pos (by omega), digitsVal_num ca (.inr h1.symm)]
          show row = 45 :: (a ++ 47 :: c)
          rw [← e]
          exact q
  · cases h
theorem bare_app {a x : List Nat} (h : a ≠ [] ∨ x.head? ≠ some 45) : bareL (a ++ x) = bareL a ++ x := by
  cases a with
  | nil =>
    have h : x.head? ≠ some 45 := h.elim (fun z => (z rfl).elim) id
    cases x with
    | nil => rfl
    | cons c r =>
      show bareL (c :: r) = c :: r
      unfold bareL
      split
      · rename_i l z
        injection z with z _
        subst z
        exact (h rfl).elim
      · rfl
  | cons c r =>
    by_cases h : c = 45
    · subst h
      rfl
    · have e : ∀ l : List Nat, bareL (c :: l) = c :: l := fun l => by
        unfold bareL
        split
        · rename_i l z
          injection z with z _
          exact (h z).elim
        · rfl
      rw [List.cons_append, e, e]
      rfl
theorem num_free {n : Nat} : 47 ∉ numL n := numL_free (.inl (by decide))
theorem intL_free {t : Int} : 47 ∉ intL t := by
  unfold intL
  split
  · intro h
    rcases List.mem_cons.mp h with h | h
    · cases h
    · exact num_free h
  · exact num_free
theorem cut_eq {a a' c c' : List Nat} (h : a ++ 47 :: c = a' ++ 47 :: c') (n : 47 ∉ a) (n' : 47 ∉ a') : a = a' ∧ c = c' := by
  induction a generalizing a' with
  | nil =>
    cases a' with
    | nil =>
      injection h with _ h
      exact ⟨rfl, h⟩
    | cons x r =>
      injection h with h _
      exact (n' (by rw [h]; exact List.mem_cons_self ..)).elim
  | cons x r ih =>
    cases a' with
    | nil =>
      injection h with h _
      exact (n (by rw [← h]; exact List.mem_cons_self ..)).elim
    | cons y s =>
      injection h with h1 h2
      obtain ⟨e1, e2⟩ := ih (a' := s) h2 (fun z => n (List.mem_cons_of_mem _ z)) fun z => n' (List.mem_cons_of_mem _ z)
      exact ⟨by rw [h1, e1], e2⟩
theorem intL_ne (t : Int) : intL t ≠ [] := by
  unfold intL
  split
  · exact List.cons_ne_nil _ _
  · exact numL_ne _
theorem intL_sgn (t : Int) : (bareL (intL t) = intL t ∧ t = t.natAbs) ∨ (bareL (intL t) ≠ intL t ∧ t = -(t.natAbs : Int)) := by
  rw [bare_int]
  unfold intL
  split
  · refine .inr ⟨fun z => ?_, by omega⟩
    have := congrArg List.length z
    simp at this
  · exact .inl ⟨rfl, by omega⟩
theorem whole_int {l : List Nat} {t : Int} (e : bareL l ≠ []) (le : l.length ≤ 4000) (d : NumText.AllDigits (bareL l)) (h : t = if bareL l = l then (NumText.digitsVal (bareL l) : Int) else -(NumText.digitsVal (bareL l) : Int)) : wholeL l = some t := by
  unfold wholeL
  have l1 : (bareL l).length ≤ l.length := by
    rcases bare_cases l with q | ⟨q, _⟩
    · rw [q]; exact Nat.le_refl _
    · have := congrArg List.length q
      rw [List.length_cons] at this
      omega
  rw [if_pos ⟨fun z => e (List.eq_nil_of_length_eq_zero z), Nat.le_trans l1 le, all_dgt.mpr d⟩, h]
theorem gcd_num (t : Int) (b : Int) (hb : 0 < b) : Int.gcd ((t.natAbs : Nat) : Int) ((b.natAbs : Nat) : Int) = Int.gcd t b := by
  simp [Int.gcd]
theorem val_num (n : Nat) : NumText.digitsVal (numL n) = n := numL_val n
/-- the program's reading is the law's -/
theorem prd_lrd {row bs : Str} (hl : row.length ≤ 4000) (hb : tl bs = bareL (tl row)) : prd row (tl (Txt.partition row "/").1) (tl (Txt.partition row "/").2.2) (decide ((Txt.partition row "/").2.1 ≠ Str.empty)) = lrd (tl row) ((Txt.split bs "/").map tl) := by
  have ey : tl ("/" : Str) = 47 :: [] := by decide +kernel
  have free := PySem.StrLaws.split_free bs 47
  have eo : (⟨#[47]⟩ : Str) = "/" := by decide +kernel
  rw [eo] at free
  have js := PySem.StrLaws.join_split bs "/"
  have ne : Txt.split bs "/" ≠ [] := fun z => by
    rw [z] at js
    have e0 : bs = Str.empty := js.symm
    have := split_join (y := "/") ey (by decide +kernel) (parts := [Str.empty]) (List.cons_ne_nil _ _) (fun p hp => by rw [List.mem_singleton.mp hp]; decide)
    rw [join_eq] at this
    have e1 : Str.join "/" [Str.empty] = Str.empty := by decide +kernel
    rw [e1, ← e0, z] at this
    cases this
  have lrow : (tl row).length ≤ 4000 := by rw [← len_tl]; exact hl
  generalize Txt.split bs "/" = W at free js ne
  match W, free, js, ne with
  | [p], free, js, _ =>
    have ebs : bs = p := js.symm
    subst ebs
    have fb : 47 ∉ tl bs := free bs (List.mem_singleton.mpr rfl)
    rw [hb] at fb
    have fr : 47 ∉ tl row := by
      rcases bare_cases (tl row) with q | ⟨q, _⟩
      · rw [← q]; exact fb
      · rw [q]
        intro z
        rcases List.mem_cons.mp z with z | z
        · cases z
        · exact fb z
    rw [partition_none ey fr]
    show prd row (tl row) (tl Str.empty) (decide (Str.empty ≠ Str.empty)) = lrd (tl row) [tl bs]
    rw [hb, decide_eq_false (fun z => z rfl)]
    cases el : lrd (tl row) [bareL (tl row)] with
    | some f =>
      obtain ⟨t, b⟩ := f
      obtain ⟨bp, gg, er, h⟩ := lrd_txt (.inl rfl) el
      rcases h with ⟨_, rfl, hc, et⟩ | ⟨a, c, e, _⟩
      · have w := whole_int (canL_ne hc) lrow (canL_dig hc) et
        unfold prd
        rw [w]
        show (if (1 : Int) = 0 then none else if sTxt (lo t 1).1 (lo t 1).2 = row then some (lo t 1) else none) = _
        rw [if_neg (by decide), lo_cop (by decide) gg]
        rw [if_pos (ext_tl ((tl_sTxt t 1 (by decide)).trans er.symm))]
      · cases e
    | none =>
      cases ep : prd row (tl row) (tl Str.empty) false with
      | none => rfl
      | some f =>
        exfalso
        unfold prd at ep
        split at ep
        · rename_i t0 b0 h1 h2
          have h2 : some (1 : Int) = some b0 := h2
          injection h2 with h2
          subst h2
          rw [if_neg (by decide)] at ep
          split at ep
          · rename_i es
            have cp := lo_Cop (z := t0) (b := 1) (by decide)
            have er := tl_sTxt (lo t0 1).1 (lo t0 1).2 cp.1
            rw [es] at er
            have b1 : (lo t0 1).2 = 1 := Classical.byContradiction fun n => by
              rw [if_neg n] at er
              exact fr (by rw [er]; exact List.mem_append_right _ (List.mem_cons_self ..))
            rw [if_pos b1, List.append_nil] at er
            have eb := bare_int (lo t0 1).1
            unfold lrd at el
            rw [er, eb, if_pos ⟨by simp, by simp [numL_can], fun z => by
              have := bare_int (lo t0 1).1
              rw [z] at this
              have e2 : bareL [45, 48] = [48] := rfl
              rw [e2] at this
              have v := val_num (lo t0 1).1.natAbs
              rw [← this] at v
              have v : 0 = (lo t0 1).1.natAbs := v
              have t00 : (lo t0 1).1 = 0 := by omega
              rw [t00] at z
              exact absurd z (by decide)⟩] at el
            simp at el
          · cases ep
        · cases ep
  | [p, q], free, js, _ =>
    have ebs : bs = p ++ "/" ++ q := js.symm
    have fp : 47 ∉ tl p := free p (List.mem_cons_self ..)
    have fq : 47 ∉ tl q := free q (List.mem_cons_of_mem _ (List.mem_cons_self ..))
    have et : tl bs = tl p ++ 47 :: tl q := by
      rw [ebs, tl_append, tl_append, ey, List.append_assoc]
      rfl
    rw [hb] at et
    -- what stands ahead of the stroke
    obtain ⟨F, eF, fF, bF, sF⟩ : ∃ F : Str, row = F ++ "/" ++ q ∧ 47 ∉ tl F ∧ (tl p ≠ [] → (NumText.AllDigits (tl p) → bareL (tl F) = tl p)) ∧ ((tl F = tl p ∧ bareL (tl row) = tl row) ∨ (tl F = 45 :: tl p ∧ bareL (tl row) ≠ tl row)) := by
      rcases bare_cases (tl row) with k | ⟨k, nk⟩
      · refine ⟨p, ext_tl ?_, fp, fun _ d => bare_dig d, .inl ⟨rfl, k⟩⟩
        rw [tl_append, tl_append, ey, List.append_assoc, ← k, et]
        rfl
      · refine ⟨⟨(45 :: tl p).toArray⟩, ext_tl ?_, ?_, fun _ _ => rfl, .inr ⟨rfl, nk⟩⟩
        · rw [tl_append, tl_append, ey, List.append_assoc, k, et]
          rfl
        · intro z
          have z : 47 ∈ 45 :: tl p := z
          rcases List.mem_cons.mp z with z | z
          · cases z
          · exact fp z
    rw [eF, partition_app ey fF, ← eF]
    show prd row (tl F) (tl q) (decide (("/" : Str) ≠ Str.empty)) = lrd (tl row) [tl p, tl q]
    rw [decide_eq_true (show ("/" : Str) ≠ Str.empty by decide +kernel)]
    have lrow2 : tl row = tl F ++ 47 :: tl q := by
      rw [eF, tl_append, tl_append, ey, List.append_assoc]
      rfl
    have lF : (tl F).length ≤ 4000 := by
      have := congrArg List.length lrow2
      rw [List.length_append] at this
      omega
    have lq : (tl q).length ≤ 4000 := by
      have := congrArg List.length lrow2
      rw [List.length_append, List.length_cons] at this
      omega
    cases el : lrd (tl row) [tl p, tl q] with
    | some f =>
      obtain ⟨t, b⟩ := f
      obtain ⟨bp, gg, er, h⟩ := lrd_txt (.inr ⟨_, _, rfl, et⟩) el
      rcases h with ⟨e, _⟩ | ⟨a, c, e, eb, ca, cc, e1, e2, nb1⟩
      · have := congrArg List.length e
        simp at this
      · injection e with ea e
        injection e with ec _
        subst ea ec
        have bf := bF (canL_ne ca) (canL_dig ca)
        have w1 : wholeL (tl F) = some t := by
          refine whole_int (by rw [bf]; exact canL_ne ca) lF (by rw [bf]; exact canL_dig ca) ?_
          rw [bf, e1]
          rcases sF with ⟨s1, s2⟩ | ⟨s1, s2⟩
          · rw [if_pos s2, if_pos s1.symm]
          · rw [if_neg s2, if_neg (fun z => by
              rw [s1] at z
              have := congrArg List.length z
              simp at this)]
        have bq := bare_dig (canL_dig cc)
        have w2 : wholeL (tl q) = some b := whole_int (by rw [bq]; exact canL_ne cc) lq (by rw [bq]; exact canL_dig cc) (by rw [if_pos bq, bq]; exact e2)
        unfold prd
        rw [w1, if_pos rfl, w2]
        show (if b = 0 then none else if sTxt (lo t b).1 (lo t b).2 = row then some (lo t b) else none) = _
        rw [if_neg (by omega), lo_cop bp gg, if_pos (ext_tl (by rw [tl_sTxt _ _ bp]; exact er.symm))]
    | none =>
      cases ep : prd row (tl F) (tl q) true with
      | none => rfl
      | some f =>
        exfalso
        unfold prd at ep
        split at ep
        · rename_i t0 b0 h1 h2
          split at ep
          · cases ep
          rename_i nb0
          split at ep
          · rename_i es
            have cp := lo_Cop (z := t0) (b := b0) nb0
            generalize lo t0 b0 = g at es cp
            obtain ⟨t, b⟩ := g
            have cp1 : 0 < b := cp.1
            have cp2 : Int.gcd t b = 1 := cp.2
            have er := tl_sTxt t b cp1
            have es : sTxt t b = row := es
            rw [es] at er
            have b1 : b ≠ 1 := fun n => by
              rw [if_pos n, List.append_nil] at er
              exact intL_free (t := t) (by rw [← er, lrow2]; exact List.mem_append_right _ (List.mem_cons_self ..))
            rw [if_neg b1] at er
            have eb : bareL (tl row) = numL t.natAbs ++ 47 :: numL b.natAbs := by
              rw [er, bare_app (.inl (intL_ne t)), bare_int]
            rw [et] at eb
            obtain ⟨ep1, ep2⟩ := cut_eq eb fp num_free
            have n58 : tl row ≠ [45, 48] := fun z => by
              have : (47 : Nat) ∈ [45, 48] := by rw [← z, lrow2]; exact List.mem_append_right _ (List.mem_cons_self ..)
              simp at this
            unfold lrd at el
            rw [ep1, ep2, if_pos ⟨by simp, by simp [numL_can], n58⟩] at el
            have e1 : (([numL t.natAbs, numL b.natAbs] : List (List Nat)).headD []) = numL t.natAbs := rfl
            have e2 : (([numL t.natAbs, numL b.natAbs] : List (List Nat)).getLastD []) = numL b.natAbs := rfl
            rw [e1, e2, val_num, val_num] at el
            have g2 : Int.gcd ((t.natAbs : Nat) : Int) ((b.natAbs : Nat) : Int) = 1 := (gcd_num t b cp1).trans cp2
            have k : ¬ (([numL t.natAbs, numL b.natAbs] : List (List Nat)).length = 2 ∧ ((if ([numL t.natAbs, numL b.natAbs] : List (List Nat)).length = 2 then ((b.natAbs : Nat) : Int) else 1) < 2 ∨ Int.gcd ((t.natAbs : Nat) : Int) (if ([numL t.natAbs, numL b.natAbs] : List (List Nat)).length = 2 then ((b.natAbs : Nat) : Int) else 1) ≠ 1)) := by
              rintro ⟨_, z | z⟩
              · have z : ((b.natAbs : Nat) : Int) < 2 := z
                omega
              · exact z g2
            rw [if_neg k] at el
            cases el
          · cases ep
        · cases ep
  | p :: q :: r :: s, free, js, _ =>
    have ebs : bs = p ++ "/" ++ Str.join "/" (q :: r :: s) := js.symm
    have fp : 47 ∉ tl p := free p (List.mem_cons_self ..)
    have rest47 : 47 ∈ tl (Str.join "/" (q :: r :: s)) := by
      show 47 ∈ tl (q ++ "/" ++ Str.join "/" (r :: s))
      rw [tl_append, tl_append, ey]
      exact List.mem_append_left _ (List.mem_append_right _ (List.mem_cons_self ..))
    generalize Str.join "/" (q :: r :: s) = R at ebs rest47
    have et : tl bs = tl p ++ 47 :: tl R := by
      rw [ebs, tl_append, tl_append, ey, List.append_assoc]
      rfl
    rw [hb] at et
    obtain ⟨F, eF, fF⟩ : ∃ F : Str, row = F ++ "/" ++ R ∧ 47 ∉ tl F := by
      rcases bare_cases (tl row) with k | ⟨k, nk⟩
      · refine ⟨p, ext_tl ?_, fp⟩
        rw [tl_append, tl_append, ey, List.append_assoc, ← k, et]
        rfl
      · refine ⟨⟨(45 :: tl p).toArray⟩, ext_tl ?_, ?_⟩
        · rw [tl_append, tl_append, ey, List.append_assoc, k, et]
          rfl
        · intro z
          have z : 47 ∈ 45 :: tl p := z
          rcases List.mem_cons.mp z with z | z
          · cases z
          · exact fp z
    have e1 : lrd (tl row) ((p :: q :: r :: s).map tl) = none := by
      unfold lrd
      rw [if_neg]
      rintro ⟨z, _⟩
      simp at z
    rw [e1, eF, partition_app ey fF, ← eF]
    show prd row (tl F) (tl R) (decide (("/" : Str) ≠ Str.empty)) = none
    rw [decide_eq_true (show ("/" : Str) ≠ Str.empty by decide +kernel)]
    have w : wholeL (tl R) = none := by
      unfold wholeL
      rw [if_neg]
      rintro ⟨_, _, d⟩
      have m : 47 ∈ bareL (tl R) := by
        rcases bare_cases (tl R) with k | ⟨k, _⟩
        · rw [k]; exact rest47
        · rw [k] at rest47
          rcases List.mem_cons.mp rest47 with z | z
          · cases z
          · exact z
      have := all_dgt.mp d 47 m
      omega
    unfold prd
    rw [if_pos rfl, w]
    cases wholeL (tl F) <;> rfl
end SP
namespace SP
open PySem PySem.Spec PyProof.Rows L2
abbrev sPot : Stmt := top 17
abbrev sDraw : Stmt := top 18
abbrev sChoice : Stmt := top 19

/-- what the top has written of the draws -/
structure PotT (K : PySem.W.Frag) (mg : Str → Option Value) : Prop where
  b_int : mg "int" = none
  b_abs : mg "abs" = none
  b_max : mg "max" = none
  b_len : mg "len" = none
  b_divmod : mg "divmod" = none
  tPot : Top K mg "_law_pot" sPot ["_law_script", "_law_k"]
  tDraw : Top K mg "_law_draw" sDraw ["_law_pot_here", "_law_size"]
  tChoice : Top K mg "_law_choice" sChoice ["_law_pot_here", "_law_some"]
section
variable {P : Program} {w : World} {K : PySem.W.Frag} {mg : Str → Option Value} {base : Heap}
/-! ### the pot -/
def spPot (K : PySem.W.Frag) : Sp := fun vs H Q _ => ∃ (a : Addr) (ns : List Int) (k : Int), vs = [.ref a, .int k] ∧ SqL K H a (ns.map V.int) ∧ ns.length ≤ 63 ∧ 0 ≤ k ∧ k < 64 ∧ ∀ p H', Same H H' → H p = none → Pot H' p → Q (.ref p) H'
theorem scPot : FnScope ["_law_script", "_law_k", "_law_cell"] ["_law_script", "_law_k"] (defScope sPot) := ⟨rfl, rfl, rfl, by decide +kernel, rfl, by decide +kernel, by decide +kernel⟩
theorem pot_end {H : Hp} {p : Addr} {Q : VK} {z : Int} {o : HO} (q : ∀ p H', Same H H' → H p = none → Pot H' p → Q (.ref p) H') (hp : H p = none) {a : Int} (e : o = .lst [.int (if a > 0 then a else 0), .int (z + 1)]) (h0 : 0 ≤ z) (h1 : z < 2147483629) : Q (.ref p) (upd H p o) := by
  subst e
  exact q p _ (Same.new hp) hp ⟨_, _, upd_same, by split <;> omega, by omega, by omega⟩
theorem d_pot (T : PotT K mg) : DefG P w K mg base 1 "_law_pot" ["_law_script", "_law_k"] (spPot K) := by
  refine T.tPot.ok scPot (fun vs H Q E h => ?_) (fun f cdv A out s H vs Q E gd hr h => ?_)
  · obtain ⟨a, ns, k, rfl, _⟩ := h
    rfl
  · obtain ⟨a, ns, k, rfl, hS, hn, h0, h1, q⟩ := h
    refine ⟨_, (pss_cons (ps_set (i := 2) scPot.nd rfl (Or.inl rfl) (pe_op op_add (pe_op op_mul pe_int (pv 1)) pe_int))
  (pss_cons (ps_if (pt_cmpR op_lt (pv 1) (pe_callB call_len (by rfl) T.b_len (by decide +kernel) (pa_cons (pv 0) pa_nil)) (nomark _)) (pss_one (ps_set (i := 2) scPot.nd rfl (Or.inl rfl) (pe_callB call_abs (by rfl) T.b_abs (by decide +kernel) (pa_cons (pe_ix ix_list (pv 0) (pv 1) (fun _ _ => rfl)) pa_nil)))) pss_nil)
  (pss_one (ps_ret (pe_lst (pa_cons (pe_callB (call_max2 rfl) (by rfl) T.b_max (by decide +kernel) (pa_cons pe_int (pa_cons (pe_op op_sub (pv 2) (pe_op op_pow pe_int pe_int)) pa_nil))) (pa_cons (pe_op op_add (pe_op op_mod (pe_callTy call_int1 (by rfl) T.b_int (by decide +kernel) (pa_cons (pe_op op_add (pe_op op_add (pe_op op_mul (pe_op op_mod (pe_callTy call_int1 (by rfl) T.b_int (by decide +kernel) (pa_cons (pv 2) pa_nil)) pe_int) pe_int) (pe_op op_mul pe_int (pv 1))) pe_int) pa_nil)) pe_int) pe_int) pa_nil))))))), ?_⟩
    refine ⟨_, rfl, _, _, rfl, rfl, .inl ⟨by decide, by decide⟩, _, _, rfl, rfl, ?_⟩
    refine ⟨_, rfl, _, rfl, _, ns.length, rfl, .inl ⟨_, hS, by rw [List.length_map]⟩, _, _, rfl, rfl, _, rfl, ?_⟩
    obtain ⟨cell, hc, hcell⟩ : ∃ cell : Int, 0 ≤ cell ∧ (if decide (k < (ns.length : Int)) = true then ∃ z : Int, (ns.map V.int)[k.toNat]? = some (.int z) ∧ cell = (if z < 0 then -z else z) else cell = 31 * k + 17) := by
      by_cases hk : k < (ns.length : Int)
      · obtain ⟨z, hz⟩ : ∃ z, ns[k.toNat]? = some z := ⟨_, List.getElem?_eq_getElem (by omega)⟩
        refine ⟨if z < 0 then -z else z, by split <;> omega, ?_⟩
        rw [decide_eq_true hk]
        exact iteT ⟨z, by rw [List.getElem?_map, hz] <;> rfl, rfl⟩
      · refine ⟨31 * k + 17, by omega, ?_⟩
        rw [decide_eq_false hk]
        exact iteF rfl
    by_cases hk : k < (ns.length : Int)
    · rw [decide_eq_true hk] at hcell ⊢
      rw [if_pos rfl] at hcell
      obtain ⟨z, hz, ez⟩ := hcell
      refine iteT ?_
      refine ⟨_, rfl, _, rfl, a, _, k, _, rfl, rfl, hS, at_of (j := k.toNat) (by omega) hz, z, rfl, ?_⟩
      refine ⟨_, rfl, _, _, rfl, rfl, ⟨by decide, by decide, by decide⟩, _, _, rfl, rfl, _, _, rfl, ?_⟩
      refine ⟨_, rfl, .inl ⟨_, rfl, _, _, rfl, rfl, (by show (0 : Int) < 2147483563; decide), _, _, rfl, rfl, .inr ⟨by decide, by decide⟩, _, rfl, _, _, rfl, rfl, .inl ⟨by decide, by decide⟩, _, _, rfl, rfl, _, _, rfl, rfl, .inl ⟨_, rfl, ?_⟩⟩⟩
      refine ⟨_, _, rfl, rfl, (by show (0 : Int) < 2147483629; decide), _, _, rfl, rfl, (by show 2 ≤ sizeLine; decide), fun p hp => ?_⟩
      exact pot_end q hp rfl (Int.emod_nonneg _ (by decide)) (Int.emod_lt_of_pos _ (by decide))
    · rw [decide_eq_false hk] at hcell ⊢
      rw [if_neg Bool.false_ne_true] at hcell
      subst hcell
      refine iteF ?_
      refine ⟨_, rfl, _, _, rfl, rfl, ⟨by decide, by decide, by decide⟩, _, _, rfl, rfl, _, _, rfl, ?_⟩
      refine ⟨_, rfl, .inl ⟨_, rfl, _, _, rfl, rfl, (by show (0 : Int) < 2147483563; decide), _, _, rfl, rfl, .inr ⟨by decide, by decide⟩, _, rfl, _, _, rfl, rfl, .inl ⟨by decide, by decide⟩, _, _, rfl, rfl, _, _, rfl, rfl, .inl ⟨_, rfl, ?_⟩⟩⟩
      refine ⟨_, _, rfl, rfl, (by show (0 : Int) < 2147483629; decide), _, _, rfl, rfl, (by show 2 ≤ sizeLine; decide), fun p hp => ?_⟩
      exact pot_end q hp rfl (Int.emod_nonneg _ (by decide)) (Int.emod_lt_of_pos _ (by decide))
/-! ### a draw -/
def spDraw : Sp := fun vs H Q _ => ∃ (p : Addr) (n : Int), vs = [.ref p, .int n] ∧ Pot H p ∧ 0 < n ∧ n < 18446744073709551616 ∧ ∀ (d : Int) (H' : Hp), 0 ≤ d → d < n → Pot H' p → Kp p H H' → Q (.int d) H'
theorem scDraw : FnScope ["_law_pot_here", "_law_size", "_law_digit"] ["_law_pot_here", "_law_size"] (defScope sDraw) := ⟨rfl, rfl, rfl, by decide +kernel, rfl, by decide +kernel, by decide +kernel⟩
theorem d_draw (T : PotT K mg) : DefG P w K mg base 1 "_law_draw" ["_law_pot_here", "_law_size"] spDraw := by
  refine T.tDraw.ok scDraw (fun vs H Q E h => ?_) (fun f cdv A out s H vs Q E gd hr h => ?_)
  · obtain ⟨p, n, rfl, _⟩ := h
    rfl
  · obtain ⟨p, n, rfl, ⟨a, b, hp, ha, hb, hb2⟩, hn, hn2, q⟩ := h
    refine ⟨_, (pss_cons (ps_if (pt_cmpR op_gt (pe_ix ix_list (pv 0) pe_int (fun _ _ => rfl)) pe_int (nomark _)) (pss_cons (ps_asg (pe_callB call_divmodW (by rfl) T.b_divmod (by decide +kernel) (pa_cons (pe_ix ix_list (pv 0) pe_int (fun _ _ => rfl)) (pa_cons (pv 1) pa_nil))) (pg_tup (by rfl) (pgs_cons (pg_sub (pv 0) pe_int set_list) (pgs_cons (pg_name (i := 2) scDraw.nd rfl (Or.inl rfl)) pgs_nil))))
  (pss_one (ps_ret (pv 2)))) pss_nil)
  (pss_cons (ps_asg (pe_op op_mod (pe_callTy call_int1 (by rfl) T.b_int (by decide +kernel) (pa_cons (pe_op op_add (pe_op op_mul (pe_ix ix_list (pv 0) pe_int (fun _ _ => rfl)) pe_int) pe_int) pa_nil)) pe_int) (pg_sub (pv 0) pe_int set_list))
  (pss_one (ps_ret (pe_op op_mod (pe_callTy call_int1 (by rfl) T.b_int (by decide +kernel) (pa_cons (pe_op op_fdivA (pe_op op_mod (pe_callTy call_int1 (by rfl) T.b_int (by decide +kernel) (pa_cons (pe_op op_mul (pe_ix ix_list (pv 0) pe_int (fun _ _ => rfl)) (pe_ix ix_list (pv 0) pe_int (fun _ _ => rfl))) pa_nil)) pe_int) pe_int) pa_nil)) (pv 1)))))), ?_⟩
    refine ⟨_, rfl, p, _, _, _, rfl, rfl, SqL.of hp, at_of (j := 0) rfl rfl, _, _, rfl, rfl, _, rfl, ?_⟩
    refine ite2 (fun c => ?_) (fun c => ?_)
    · refine ⟨_, rfl, p, _, _, _, rfl, rfl, SqL.of hp, at_of (j := 0) rfl rfl, _, rfl, _, _, rfl, ⟨hn, PyProof.noPylong_of_log2 (Nat.lt_of_lt_of_le (PySem.Flt.log2_lt_of (k := 64) (by decide) (show n.natAbs < 2 ^ 64 by omega)) (by decide))⟩, fun t ht => ?_⟩
      have pt : p ≠ t := ne_of_none hp ht
      refine ⟨t, _, rfl, SqT.of upd_same, rfl, _, _, rfl, _, rfl, p, _, _, 0, rfl, rfl, by rw [upd_ne pt]; exact hp, rfl, ?_⟩
      refine ⟨_, _, rfl, rfl, _, rfl, ?_⟩
      refine q _ _ (Int.emod_nonneg _ (by omega)) (Int.emod_lt_of_pos _ hn) ⟨_, _, upd_same, Int.ediv_nonneg ha (by omega), hb, hb2⟩ ?_
      intro c o hc hcp
      rw [upd_ne hcp, upd_ne (ne_of_none hc ht)]
      exact hc
    · refine ⟨_, rfl, p, _, _, _, rfl, rfl, SqL.of hp, at_of (j := 1) rfl rfl, _, _, rfl, rfl, .inr ⟨by decide, by decide⟩, _, _, rfl, rfl, .inl ⟨_, rfl, ?_⟩⟩
      refine ⟨_, _, rfl, rfl, (by show (0 : Int) < 2147483629; decide), _, rfl, p, _, _, 1, rfl, rfl, hp, rfl, ?_⟩
      have e0 := Int.emod_nonneg (b * 48271 + 20011) (show (2147483629 : Int) ≠ 0 by decide)
      have e1 := Int.emod_lt_of_pos (b * 48271 + 20011) (show (0 : Int) < 2147483629 by decide)
      refine ⟨_, rfl, p, _, _, _, rfl, rfl, SqL.of upd_same, at_of (j := 1) rfl rfl, _, rfl, p, _, _, _, rfl, rfl, SqL.of upd_same, at_of (j := 1) rfl rfl, _, _, rfl, rfl, .inl ⟨by omega, by omega⟩, .inl ⟨_, rfl, ?_⟩⟩
      refine ⟨_, _, rfl, rfl, (by show (0 : Int) < 2147483587; decide), _, _, rfl, rfl, ⟨by decide, by decide⟩, .inl ⟨_, rfl, ?_⟩⟩
      refine ⟨_, rfl, _, _, rfl, rfl, hn, ?_⟩
      exact q _ _ (Int.emod_nonneg _ (by omega)) (Int.emod_lt_of_pos _ hn) ⟨_, _, upd_same, ha, e0, by omega⟩ Kp.upd
/-! ### one of a list -/
def spChoice (K : PySem.W.Frag) : Sp := fun vs H Q _ => ∃ (p q : Addr) (xs : List V), vs = [.ref p, .ref q] ∧ Pot H p ∧ q ≠ p ∧ H q = some (.lst xs) ∧ 0 < xs.length ∧ xs.length < 100000 ∧ ∀ (v : V) (H' : Hp), v ∈ xs → Pot H' p → Kp p H H' → Q v H'
theorem scChoice : FnScope ["_law_pot_here", "_law_some"] ["_law_pot_here", "_law_some"] (defScope sChoice) := ⟨rfl, rfl, rfl, by decide +kernel, rfl, by decide +kernel, by decide +kernel⟩
theorem d_choice (T : PotT K mg) : DefG P w K mg base 2 "_law_choice" ["_law_pot_here", "_law_some"] (spChoice K) := by
  have DD := d_draw (P := P) (w := w) (base := base) T
  refine T.tChoice.ok scChoice (fun vs H Q E h => ?_) (fun f cdv A out s H vs Q E gd hr h => ?_)
  · obtain ⟨p, q, xs, rfl, _⟩ := h
    rfl
  · obtain ⟨p, l, xs, rfl, hp, hq, hx, h0, h1, q⟩ := h
    refine ⟨_, (pss_one (ps_ret (pe_ix ix_list (pv 1) (pe_callD DD gd (hr.mono (by decide)) (pa_cons (pv 0) (pa_cons (pe_callB call_len (by rfl) T.b_len (by decide +kernel) (pa_cons (pv 1) pa_nil)) pa_nil))) (fun _ _ => rfl)))), ?_⟩
    refine ⟨_, rfl, _, rfl, _, rfl, _, xs.length, rfl, .inl ⟨_, SqL.of hx, rfl⟩, p, _, rfl, hp, by omega, by omega, fun d H' d0 d1 hp' kp => ?_⟩
    obtain ⟨v, hv⟩ : ∃ v, xs[d.toNat]? = some v := ⟨_, List.getElem?_eq_getElem (by omega)⟩
    exact ⟨l, _, _, v, rfl, rfl, SqL.of (kp _ _ hx hq), at_of (j := d.toNat) (by omega) hv, q v H' (List.mem_of_getElem? hv) hp' kp⟩
end
end SP
/-! Calls of own instances; own static methods by the class. -/
namespace SP
open PySem PySem.Spec PyProof.Rows L2
section
variable {M : Model} {A : Around} {E : Value → Shared → Prop} {s : Shared} {env : Env} {pos : Pos} {f : Value} {first : List Value} {Q : Value → Shared → Prop}
/-- a call whose caller keeps the operands -/
theorem callWith_caller {P : Heap → Prop} {args : List (Bool × Sem Value)} {keywords : List (Option Str × Sem Value)} (hplain : (args.any (·.1) || keywords.any (·.1.isNone)) = false)
    (hk : ∀ h, P h → PySem.W.Looks M h (keeperOf f) Keeper.caller)
    (h : wpAny M A (evalArgs f true args keywords) (fun a s₁ => P s₁.heap ∧ wpAny M A (call f (first ++ a.pos) a.kw) Q E s₁) E s) : wpAny M A (callWith pos f first args keywords) Q E s := by
  unfold callWith
  refine wpAny_bind (wpAny_holding (wpAny_mono h (fun a s₁ h₁ => wpAny_bind (wpAny_standAt ?_)) fun _ _ x => x))
  simp only [hplain]
  refine wpAny_bind ((hk _ h₁.1).here ?_)
  have tail : ∀ {t : Sem Value}, wpAny M A t Q E s₁ → wpAny M A (t >>= fun r => holding [r] point >>= fun _ => pure r) Q E s₁ :=
    fun ht => wpAny_bind (wpAny_mono ht (fun r s₂ hr => wpAny_bind (wpAny_holding (wpAny_point (wpAny_pure hr)))) fun _ _ x => x)
  exact tail (wpAny_operate' h₁.2)
end
/-- an instance of the class at C stands at a -/
def InsAt (K : PySem.W.Frag) (a C : Addr) (h : Heap) : Prop := (∃ dx od, PySem.W.InstAt h a (PySem.W.instObj C dx) C od) ∧ K.In h
theorem keeps_ins {M : Model} {K : PySem.W.Frag} {a C : Addr} (h : Heap) (X : InsAt K a C h) : PySem.W.Looks M h (keeperOf (.ref a)) Keeper.caller := by
  obtain ⟨⟨dx, od, I⟩, _⟩ := X
  exact (PySem.W.Looks.ld (part := none) I.at_).andThen .now
theorem ins_call {prog : Program} {w : World} {A : Around} {s : Shared} {R : Result → Shared → Prop} {K : PySem.W.Frag} {x C f : Addr} {us : List Value} {kw : List (Str × Value)} (X : InsAt K x C s.heap)
    (hs : PySem.W.findIn K (.ref C) "__call__" = some (some (.ref f))) (hf : PySem.W.isFn K (.ref f) = true) (hn : PySem.W.fnIn K f = true)
    (h : codeAny (model prog w) A (.call (.ref f) ⟨.ref x :: us, kw⟩) R s) : codeAny (model prog w) A (.call (.ref x) ⟨us, kw⟩) R s := by
  obtain ⟨⟨dx, od, I⟩, X⟩ := X
  refine codeAny_of_tree ?_
  show wpAny _ _ (callAny (.ref x) _) _ _ _
  simp only [callAny]
  refine wpAny_bind (wpAny_load I.at_ ?_)
  show wpAny _ _ (callAny.viaDunder (.ref x) ⟨us, kw⟩) _ _ _
  unfold callAny.viaDunder
  refine wpAny_bind (wpAny_bind (I.type.here ((PySem.W.looks_findIn X hs).here ?_)))
  refine wpAny_bind ((PySem.W.bind_fn X _ (beq_iff_eq.mp hf)).here ?_)
  unfold PySem.W.fnIn at hn
  split at hn
  · rename_i e
    refine wpAny_bind (m := callAny.plainCallee (.ref f)) (wpAny_bind (wpAny_load (X _ _ e) (wpAny_pure ?_)))
    exact wpAny_pure ⟨rfl, h⟩
  · cases hn
section
variable {X : Cx} {C f : Addr} {sp : Sp} {E : XK} {dvs : List V} {x : Str} {e : Expr} {es : List Expr} {i : Nat} {t : TA} {p pos : Pos}
/-- x(..), x in the slot i an instance of the class at C -/
def tCallI (i : Nat) (C : Addr) (sp : Sp) (dvs : List V) (E : XK) (t : TA) : TE := fun σ H Q => ∃ a : Addr, σ[i]? = some (some (.ref a)) ∧ t σ H fun vs H1 => ∃ (dx : Addr) (fs : List (Str × V)), H1 a = some (.ins C dx fs) ∧ sp (.ref a :: (vs ++ dvs)) H1 Q E
theorem insAt_of {pins : List (Addr × Obj)} {σ : L2.St} {H : Hp} {s : Shared} {a dx : Addr} {fs : List (Str × V)} (I : Inv X pins σ H s) (e : H a = some (.ins C dx fs)) : InsAt X.K a C s.heap := by
  obtain ⟨mA, O, _⟩ := ins_get I.hok e
  obtain ⟨od, J, _⟩ := O.look
  exact ⟨⟨dx, _, J⟩, I.kIn⟩
/-- the call of an instance, the promise of its __call__ known -/
theorem run_ins {CX : CXT} {fd : FuncData} {ps : List Str} {k : Nat} {ds : List Value} (hs : PySem.W.findIn X.K (.ref C) "__call__" = some (some (.ref f))) (hf : PySem.W.isFn X.K (.ref f) = true) (hn : PySem.W.fnIn X.K f = true)
    (F : FnOk X.prog X.w X.K X.mg X.base CX k f fd ps sp) (hr : Room k X.A) (hb : Binds X.K fd ps ds) (hd : Vals dvs ds) (hx : Passes CX X E) {pins : List (Addr × Obj)} {σ : L2.St} {H : Hp} {s : Shared} {Q : VK} {us : List Value} {vs : List V} {a dx : Addr} {fs : List (Str × V)} (I : Inv X pins σ H s) (r : Vals vs us) (e : H a = some (.ins C dx fs)) (h : sp (.ref a :: (vs ++ dvs)) H Q E) :
    wpAny (model X.prog X.w) X.A (call (.ref a) us) (EP X pins σ Q) X.xe s := by
  have rr : Vals (.ref a :: (vs ++ dvs)) (.ref a :: (us ++ ds)) := .cons rfl (r.append hd)
  have ln : (.ref a :: (us ++ ds) : List Value).length = ps.length := rr.length.symm.trans (F.len _ _ _ _ h)
  refine wpAny_call (ins_call (insAt_of I e) hs hf hn ?_)
  refine codeAny_mono (F.run X.A X.stack s H ⟨.ref a :: us, []⟩ (.ref a :: (us ++ ds)) (.ref a :: (vs ++ dvs)) Q E hr I.env0 (hb s (.ref a :: us) I.kIn ln) rr h) ?_
  intro res s2 got
  match res, got with
  | .error e, got => exact hx pins σ H s e s2 I got
  | .ok (.ret u), got => exact I.after got
theorem pe_callI {CX : CXT} {fd : FuncData} {ps : List Str} {k : Nat} {ds : List Value} (hN : X.N[i]? = some x) (hv : Vis X.env.scope x) (hs : PySem.W.findIn X.K (.ref C) "__call__" = some (some (.ref f))) (hf : PySem.W.isFn X.K (.ref f) = true) (hn : PySem.W.fnIn X.K f = true)
    (F : FnOk X.prog X.w X.K X.mg X.base CX k f fd ps sp) (hr : Room k X.A) (hb : Binds X.K fd ps ds) (hd : Vals dvs ds) (hx : Passes CX X E) (ha : PA X (e :: es) t)
    (hdb : (x == ("__debug__" : Str)) = false := by decide) (hcd : (x == ("__classdict__" : Str)) = false := by decide)
    (he : starEach (e :: es) X.env = (false, eval e X.env) :: starEach es X.env := by rfl) (hpl : (backTo pos (starEach es X.env)).any (·.1) = false := by rfl) : PE X (.Call (.Name x p) (e :: es) [] pos) (tCallI i C sp dvs E t) := by
  refine ⟨fun pins s σ H Q I h => ?_⟩
  obtain ⟨a, ea, ht⟩ := h
  refine wpAny_Call_Name_kw (thn ((pe_var (pos := p) hN hv hdb hcd).run pins s σ H (fun v H1 => v = .ref a ∧ H1 = H) I ⟨.ref a, ea, rfl, rfl⟩) fun u s1 ⟨v, H1, I1, r1, q1⟩ => ?_)
  obtain ⟨rfl, rfl⟩ := q1
  cases r1
  rw [he]
  refine callWith_caller (P := InsAt X.K a C) (by show ((false || (backTo pos (starEach es X.env)).any (·.1)) || false) = false; rw [hpl]; rfl) (fun h k => keeps_ins h k) (Calls.evalArgs_plain ?_)
  have hh := ha.run pos pins s1 σ _ _ I1 ht
  rw [he] at hh
  refine thn hh fun us s2 ⟨vs, H2, I2, r, dx, fs, eI, q⟩ => ⟨insAt_of I2 eI, ?_⟩
  exact run_ins hs hf hn F hr hb hd hx I2 r eI q
/-- x(k = v, ..) -/
def tCallIK (i : Nat) (C : Addr) (n : Nat) (sp : Sp) (gV : List V → List V → List V) (E : XK) (tk : TA) : TE := fun σ H Q => ∃ a : Addr, σ[i]? = some (some (.ref a)) ∧ tk σ H fun zs H1 => zs.length = n ∧ ∃ (dx : Addr) (fs : List (Str × V)), H1 a = some (.ins C dx fs) ∧ sp (gV [.ref a] zs) H1 Q E
theorem pe_callIK {CX : CXT} {fd : FuncData} {ps ks : List Str} {k : Nat} {g : List Value → List Value → List Value} {gV : List V → List V → List V} {kws : List Keyword} {tk : TA} (hN : X.N[i]? = some x) (hv : Vis X.env.scope x) (hs : PySem.W.findIn X.K (.ref C) "__call__" = some (some (.ref f))) (hf : PySem.W.isFn X.K (.ref f) = true) (hn : PySem.W.fnIn X.K f = true)
    (F : FnOk X.prog X.w X.K X.mg X.base CX k f fd ps sp) (hr : Room k X.A) (hb : KBn X.K fd ps 1 ks g gV) (hx : Passes CX X E) (hkw : PK X kws tk)
    (hall : (backToKw pos (keywordEach kws X.env)).all (·.1.isSome) = true := by rfl) (hks : (backToKw pos (keywordEach kws X.env)).filterMap (·.1) = ks := by rfl)
    (hdb : (x == ("__debug__" : Str)) = false := by decide) (hcd : (x == ("__classdict__" : Str)) = false := by decide)
    (hpl : ((backTo pos (starEach [] X.env)).any (·.1) || (backToKw pos (keywordEach kws X.env)).any (·.1.isNone)) = false := by rfl) :
    PE X (.Call (.Name x p) [] kws pos) (tCallIK i C ks.length sp gV E tk) := by
  refine ⟨fun pins s σ H Q I h => ?_⟩
  obtain ⟨a, ea, ht⟩ := h
  refine wpAny_Call_Name_kw (thn ((pe_var (pos := p) hN hv hdb hcd).run pins s σ H (fun v H1 => v = .ref a ∧ H1 = H) I ⟨.ref a, ea, rfl, rfl⟩) fun u s1 ⟨v, H1, I1, r1, q1⟩ => ?_)
  obtain ⟨rfl, rfl⟩ := q1
  cases r1
  refine callWith_caller (P := InsAt X.K a C) hpl (fun h k => keeps_ins h k) (evalArgs_kw2_nil hall ?_)
  refine thn (hkw.run pos pins s1 σ _ _ I1 ht) fun ws s2 ⟨zs, H2, I2, rz, l2, dx, fs, eI, q2⟩ => ⟨insAt_of I2 eI, ?_⟩
  rw [hks]
  refine wpAny_call (ins_call (insAt_of I2 eI) hs hf hn ?_)
  have rr : Vals (gV [.ref a] zs) (g [.ref a] ws) := hb.rel (.cons rfl .nil) rz
  refine codeAny_mono (F.run X.A X.stack s2 H2 ⟨[.ref a], ks.zip ws⟩ _ _ Q E hr I2.env0 (hb.to s2 [.ref a] ws I2.kIn rfl (rz.length.symm.trans l2)) rr q2) ?_
  intro res s3 got
  match res, got with
  | .error e, got => exact hx pins σ H2 s2 e s3 I2 got
  | .ok (.ret u), got => exact I2.after got
end
/-! ### C.m(..), m a static method -/
structure SMet (K : PySem.W.Frag) (C : Addr) (mc : Value) (m : Str) (p g : Addr) : Prop where
  at_ : PySem.W.findCls K (.ref C) mc m = some (.get (.builtin "staticmethod.__get__") (.ref p) .none (.ref C))
  rc : ∃ rest, PySem.W.recIn K p "staticmethod" = some (.ref g :: rest)
section
variable {X : Cx} {C p g : Addr} {mc : Value} {m : Str} {sp : Sp} {E : XK} {dvs : List V} {o e : Expr} {es : List Expr} {ta : TE} {t : TA} {apos pos : Pos}
theorem getmethsm_ok {pins : List (Addr × Obj)} {σ : L2.St} {H : Hp} {s : Shared} {A : Around} {E : Value → Shared → Prop} {pl : Sem Bool} {Q : Value × List Value → Shared → Prop} (I : Inv X pins σ H s) (r : ClX.CRead X.K C mc) (k : SMet X.K C mc m p g)
    (h : ∀ s', Inv X pins σ H s' → Q (.ref g, []) s') : wpAny (model X.prog X.w) A (getMethod (.ref C) m pl) Q E s := by
  obtain ⟨rest, hp⟩ := k.rc
  refine PySem.W.method_cls I.kIn r.ga (PySem.W.cls_bind I.kIn r.rd k.at_ ?_)
  refine wpAny_call (PySem.W.sm_get (s := { s with toks := s.toks + 1 }) I.kIn hp (PySem.W.handed_on rfl ?_))
  exact h _ (I.tok _)
def tSMeth (C : Addr) (sp : Sp) (dvs : List V) (E : XK) (ta : TE) (t : TA) : TE := fun σ H Q => ta σ H fun x H1 => x = .ref C ∧ t σ H1 fun vs H2 => sp (vs ++ dvs) H2 Q E
theorem pe_smeth {pl : Sem Bool} (he : PE X o ta) (r : ClX.CRead X.K C mc) (c : SMet X.K C mc m p g) (R : Rn X g sp dvs E) (hk : PySem.W.keepIn X.K (.ref g) = true) (ha : PA X (e :: es) t)
    (hst : starEach (e :: es) X.env = (false, eval e X.env) :: starEach es X.env := by rfl) (hpl : (backTo pos (starEach es X.env)).any (·.1) = false := by rfl)
    (ht : eval (.Call (.Attribute o m apos) (e :: es) [] pos) X.env = (do
      let ov ← eval o X.env
      standAt apos.atName
      let (f, first) ← holding [ov] (getMethod ov m pl)
      callWith pos f first (backTo pos (starEach (e :: es) X.env)) (backToKw pos (keywordEach [] X.env))) := by rfl) :
    PE X (.Call (.Attribute o m apos) (e :: es) [] pos) (tSMeth C sp dvs E ta t) := by
  refine ⟨fun pins s σ H Q I h => ?_⟩
  refine PySem.W.methodCall_KW (pl := pl) (thn (he.run pins s σ H _ I h) fun u s1 ⟨x, H1, I1, rx, ex, q⟩ => ?_) ht
  subst ex
  obtain rfl : u = Value.ref C := rx
  refine getmethsm_ok I1 r c fun s2 I2 => ?_
  refine PySem.W.callWith_K (h₀ := X.base) I2.ok.mod.kin hk (thn (ha.run pos pins s2 σ H1 _ I2 q) fun us s3 ⟨vs, H2, I3, rv, q2⟩ => ⟨I3.kIn, ?_⟩) hst hpl
  exact R pins σ H2 s3 Q us vs I3 rv q2
end
end SP
/-! Own errors whose __init__ says super().__init__(text), then self.f = value. -/
namespace SP
open PySem PySem.Spec PyProof.Rows L2
section
open PySem.W PySem.Calls
variable {prog : Program} {w : World} {A : Around} {E : Value → Shared → Prop} {s : Shared} {h₀ : Heap} {L : Addr} {m mg mb : Str → Option Value} {news : List (Addr × Obj)} {K : Frag} {x C D f cc cda so u : Addr} {ox : Obj} {odx : Option Obj} {B i newId : String} {bmB : List Value}
/-- super() in a def of a class -/
theorem sup_node {body : List Stmt} {q : Str} {scope : Scope} {p0 p1 : Pos} {attr : Str} {whole : Sem Value} {fd : FuncData} {ar : Arg} {vs : Array Value} {file : Str} {tf : Tok} {oc ccl cl : Value} {od cdd cld : Option Addr} {osl ccs csl : Array (Option Value)} {cdD : ClassData} {Q : Value → Shared → Prop}
    (F : Fr h₀ L s.heap m) (X₀ : K.In h₀) (N : News h₀ L s.heap news) (Tg : h₀.Ns mainGlobals mg) (Tb : h₀.Ns builtinsNs mb) (Tn : ∀ x : Str, x ≠ "__name__" → mb x = bootBuiltins x)
    (hf : K.lookup f = some ⟨oc, od, .func fd, osl⟩) (hp : (fd.params.posonlyargs ++ fd.params.args).head? = some ar) (hv : m ar.arg = some (.ref x)) (I : InstAt s.heap x ox C odx)
    (hcode : K.lookup cda = some ⟨ccl, cdd, .fields vs, ccs⟩) (hvs : vs[2]? = some (.str file tf)) (hfile : ((prog.main.file : Str) == file) = true)
    (hcell : K.lookup cc = some ⟨cl, cld, .cell (some (.ref D)), csl⟩) (hD : clsIn K D = some cdD) (hsub : mroIn K C (.ref D) = some true) (hsuper : nsIn K mainGlobals "super" = some none)
    (hat : (attr == ("__class__" : Str)) = false) (hks : scope.names.lookup ("super" : Str) = some .globalImplicit) (hkc : scope.names.lookup ("__class__" : Str) = some .free) (hka : scope.names.lookup ar.arg = some .local) (hk : scope.kind = .function)
    (htop : (prog.main.scope.names.lookup ("super" : Str)).isSome = false) (hboot : bootBuiltins "super" = some (.type "super"))
    (h : ∀ so h', Fr h₀ L h' m → News h₀ L h' ((so, ks_superObj D x C) :: news) → (∀ b o, s.heap.get? b = some o → h'.get? b = some o) → Q (.ref so) { s with heap := h' }) :
    _root_.PySem.wpAt (model prog w) A (.func body (ksEnv q scope L f (.ref cda) cc)) (attributeBase (.Call (.Name "super" p0) [] [] p1) attr (ksEnv q scope L f (.ref cda) cc) whole) Q E s := by
  have X : K.In s.heap := X₀.keeps F.keep
  obtain ⟨hh, g, d, t, os⟩ := s
  obtain ⟨oD, hD1, hD2⟩ : ∃ oD, hh.get? D = some oD ∧ oD.data = .cls cdD := by
    unfold clsIn at hD
    split at hD
    · rename_i c d cd' sl ho
      cases hD
      exact ⟨_, X _ _ ho, rfl⟩
    · cases hD
  refine ks_wpAt_super_base (env := ksEnv q scope L f (.ref cda) cc) hks hkc hat rfl (X _ _ hf) rfl hp rfl (X _ _ hcode) rfl hvs hfile htop ?_
  refine ks_loadName_global hk hks (loadGlobal_builtin (env := ksEnv q scope L f (.ref cda) cc) (Tg.keeps F.keep) (mg_none_of X₀ Tg hsuper) (Tb.keeps F.keep) ((Tn _ (by decide +kernel)).trans hboot) ⟨rfl, ?_⟩)
  refine wpAny_loadName_free hk hkc rfl ⟨_, X _ _ hcell, rfl⟩ ?_
  refine wpAny_loadName_local hk hka F.ns hv ?_
  refine ks_wpAny_isType_cls hD1 hD2 ⟨rfl, ?_⟩
  refine ks_wpAny_call_super hD1 hD2 I.at_ I.cls (fun c e => ?_) (looks_mroIn X hsub) (fun h' e k => ?_)
  · have := I.no
    unfold notCls at this
    rw [e] at this
    exact Bool.noConfusion this
  · obtain ⟨F', N', l'⟩ := ks_newsPush (s := ⟨hh, g, d, t, os⟩) F N rfl e k
    exact h _ _ F' N' k
/-- the bound __init__ of the base, called -/
theorem sup_call {t : Addr} {dv : Option Addr} {c2 : Value} {rest : List Value} {Q : Value → Shared → Prop} (X : K.In s.heap) (FB : ExcBaseFacts B newId i bmB) (q : excInitIn K C bmB newId = true) (hu : s.heap.get? u = some (kxs_mw i x))
    (he : s.heap.get? x = some (excObj C t dv c2)) (hz : rest.length ≤ sizeLine)
    (h : ∀ t' h', (∀ b o, b ≠ x → s.heap.get? b = some o → h'.get? b = some o) → h'.get? x = some (excObj C t' dv c2) → Q .none { s with heap := h' }) :
    wpAny (model prog w) A (call (.ref u) rest) Q E s := by
  obtain ⟨nm, N', qn, bs, bm, hdct, sn, sub, ab, col, dd, k0, k1, k2, k3, k5, hC, hT⟩ := excInit_of X q
  obtain ⟨hh, g, d, tk, os⟩ := s
  refine wpAny_call (codeAny_of_tree ?_)
  show wpAny _ A.in1 (callAny (.ref u) ⟨rest, []⟩) _ _ _
  simp only [callAny]
  refine wpAny_bind (wpAny_load hu ?_)
  simp only [kxs_mw, show (Value.type "method-wrapper" == Value.type "method" || Value.type "method-wrapper" == Value.type "builtin_function_or_method" || Value.type "method-wrapper" == Value.type "method-wrapper") = true by decide, if_true]
  refine KFB.if_so (by decide) ?_
  refine wpAny_bind (check_bound_init FB.toExcCallFacts hC he rfl ?_)
  refine wpAny_bind (wpAny_pure (wpAny_pure ?_))
  refine ⟨plainId_quiet FB.init.plain _, codeAny_builtin FB.initEntry ?_⟩
  exact exc_init_tree (cls := .ref C) (t0 := t) (dv := dv) (c2 := c2) (c3 := .none) (b4 := .bool false) he hz fun h' k e' _ => h _ h' k e'
end
end SP
/-! An own error's __init__ as a def's promise: super().__init__(text), then self.field = value. -/
namespace SP
open PySem PySem.Spec PyProof.Rows L2 PySem.W PySem.Calls
/-- the body -/
def errB (txt fld vn : Str) (k0 : Nat) (p0 p1 p2 p3 p4 p5 p6 p7 p8 p9 : Pos) : List Stmt :=
  [.Expr (.Call (.Attribute (.Call (.Name "super" p0) [] [] p1) "__init__" p2) [.Constant (.str txt) k0 p3] [] p4) p5, .Assign [.Attribute (.Name "self" p6) fld p7] (.Name vn p8) p9]
/-- what the body promises: the exception at a bears the field -/
def spErr (C : Addr) (fld : Str) : Sp := fun vs H Q _ => ∃ a y, vs = [.ref a, y] ∧ H a = some (exo a C none) ∧ ∀ dx, H dx = none → dx ≠ a → Q .non (upd (upd H dx (exd dx [(fld, y)])) a (exo a C (some dx)))
/-- what the written part says -/
structure ErrIn (K : Frag) (C D f cc cda : Addr) (fd : FuncData) (q file fld B i newId : String) (bmB : List Value) : Prop where
  oex : OexC K C
  fn : ∃ oc od osl, K.lookup f = some ⟨oc, od, .func fd, osl⟩
  code : ∃ ccl cdd vs ccs tf, K.lookup cda = some ⟨ccl, cdd, .fields vs, ccs⟩ ∧ vs[2]? = some (.str (Str.ofString file) tf)
  rec' : codeIn K (.ref cda) (Str.ofString q) = true
  cell : ∃ cl cld csl, K.lookup cc = some ⟨cl, cld, .cell (some (.ref D)), csl⟩
  cls : ∃ cdD, clsIn K D = some cdD
  sub : mroIn K C (.ref D) = some true
  sup : nsIn K mainGlobals "super" = some none
  st : nsIn K cStatics "thirdparty.any" = some none
  ini : ks_superIn K C D "__init__" = some (some (.builtin i))
  subB : subIn K (.ref C) (.type B) = some true
  exI : excInitIn K C bmB newId = true
  fld' : findIn K (.ref C) (Str.ofString fld) = some none
section
variable {P : Program} {w : World} {K : Frag} {mg : Str → Option Value} {base : Heap} {CX : CXT} {k : Nat} {C D f cc cda : Addr} {name q file fld : String} {txt vn : Str} {k0 : Nat} {p0 p1 p2 p3 p4 p5 p6 p7 p8 p9 : Pos} {params : Arguments} {scope : Scope}
  {dV kV doc pm ct : Value} {an : Option Addr} {B i newId : String} {bmB : List Value}
theorem err_run (T : ErrIn K C D f cc cda (ksFn (Str.ofString name) (Str.ofString q) params (errB txt (Str.ofString fld) vn k0 p0 p1 p2 p3 p4 p5 p6 p7 p8 p9) scope dV kV doc pm an (.ref cda) ct cc) q file fld B i newId bmB)
    (KF : KxsFacts B i) (FB : ExcBaseFacts B newId i bmB) (hfile : ((P.main.file : Str) == Str.ofString file) = true) (htop : (P.main.scope.names.lookup ("super" : Str)).isSome = false)
    (hp : ∃ ar, (params.posonlyargs ++ params.args).head? = some ar ∧ ar.arg = "self") (hne : ("self" : Str) ≠ vn)
    (hks : scope.names.lookup ("super" : Str) = some .globalImplicit) (hkc : scope.names.lookup ("__class__" : Str) = some .free) (hka : scope.names.lookup ("self" : Str) = some .local) (hkv : scope.names.lookup vn = some .local)
    (hdv : (vn == ("__debug__" : Str)) = false) (hk : scope.kind = .function) (hcell : ∀ x ∈ scope.names, x.2 ≠ .cell) (hco : scope.isCoroutine = false) (hgen : scope.isGenerator = false)
    (hcall : ∀ L, eval (.Call (.Attribute (.Call (.Name "super" p0) [] [] p1) "__init__" p2) [.Constant (.str txt) k0 p3] [] p4) (ksEnv (Str.ofString q) scope L f (.ref cda) cc) = (do
      let ov ← attributeBase (.Call (.Name "super" p0) [] [] p1) "__init__" (ksEnv (Str.ofString q) scope L f (.ref cda) cc) (eval (.Call (.Name "super" p0) [] [] p1) (ksEnv (Str.ofString q) scope L f (.ref cda) cc))
      standAt p2.atName
      let (g, first) ← holding [ov] (getMethod ov "__init__" (do return (← importBound (.Call (.Name "super" p0) [] [] p1) (ksEnv (Str.ofString q) scope L f (.ref cda) cc)).getD true))
      callWith p4 g first (backTo p4 (starEach [.Constant (.str txt) k0 p3] (ksEnv (Str.ofString q) scope L f (.ref cda) cc))) [])) :
    FnOk P w K mg base CX (k + 1) f (ksFn (Str.ofString name) (Str.ofString q) params (errB txt (Str.ofString fld) vn k0 p0 p1 p2 p3 p4 p5 p6 p7 p8 p9) scope dV kV doc pm an (.ref cda) ct cc) ["self", vn] (spErr C (Str.ofString fld)) := by
  refine ⟨fun vs H Q E ⟨a, y, e, _⟩ => by rw [e]; rfl, fun A outer s H args us vs Q E hr e0 hb r hsp => ?_⟩
  obtain ⟨a, y, rfl, ea, hq⟩ := hsp
  cases r with
  | @cons _ u0 _ ur ra r2 =>
  cases r2 with
  | @cons _ u _ ur2 ry r3 =>
  cases r3
  obtain rfl : u0 = Value.ref a := ra
  have kb : ∀ b o, base.get? b = some o → s.heap.get? b = some o := fun b o e => (e0.bs b o e).1
  have X₀ : K.In s.heap := e0.mod.kin.keeps kb
  have lim : s.heap.NoLimit := e0.mod.nolimit.keeps kb
  have Tg : s.heap.Ns mainGlobals mg := e0.mod.glob.keeps kb
  obtain ⟨mb, Tb0, Tn⟩ := e0.mod.blt
  have Tb : s.heap.Ns builtinsNs mb := Tb0.keeps kb
  obtain ⟨oc, od, osl, hf⟩ := T.fn
  obtain ⟨ccl, cdd, cvs, ccs, tf, hcode, hvs⟩ := T.code
  obtain ⟨cl, cld, csl, hcc⟩ := T.cell
  obtain ⟨cdD, hD⟩ := T.cls
  obtain ⟨ar, hp1, hp2⟩ := hp
  obtain ⟨t1, ho⟩ := exo_at e0.hok ea
  refine ks_codeAny_call_defAt hr.depth (X₀ _ _ hf) rfl lim (codeRec_of X₀ T.rec') rfl hb hcell ?_ (fun h₁ hns k₁ => ?_) hco hgen hk
  · intro x hx
    simp only [List.zip_cons_cons, List.zip_nil_right, List.mem_cons, List.not_mem_nil, or_false] at hx
    rcases hx with rfl | rfl
    · exact hka
    · exact hkv
  have F : Fr s.heap s.heap.objs.size h₁ (fun x => (List.zip ([("self" : Str), vn] : List Str) [Value.ref a, u]).reverse.lookup x) := ⟨hns, k₁, Nat.le_refl _⟩
  have I1 : InstAt h₁ a (excObj C t1 none .none) C none := ⟨k₁ _ _ ho, rfl, rfl, trivial⟩
  have ms : (List.zip ([("self" : Str), vn] : List Str) [Value.ref a, u]).reverse.lookup ("self" : Str) = some (.ref a) := by
    show List.lookup ("self" : Str) ([(vn, u), (("self" : Str), Value.ref a)] : List (Str × Value)) = _
    have e : (("self" : Str) == vn) = false := by simpa using hne
    simp [List.lookup, e]
  have mv : (List.zip ([("self" : Str), vn] : List Str) [Value.ref a, u]).reverse.lookup vn = some u := by
    show List.lookup vn ([(vn, u), (("self" : Str), Value.ref a)] : List (Str × Value)) = _
    simp [List.lookup]
  have kd : (callEnv (ksFn (Str.ofString name) (Str.ofString q) params (errB txt (Str.ofString fld) vn k0 p0 p1 p2 p3 p4 p5 p6 p7 p8 p9) scope dV kV doc pm an (.ref cda) ct cc) s.heap.objs.size f) = ksEnv (Str.ofString q) scope s.heap.objs.size f (.ref cda) cc := rfl
  rw [kd]
  have hi : interactive (ksEnv (Str.ofString q) scope s.heap.objs.size f (.ref cda) cc) = false := by
    show (scope.kind == .module && _) = false
    rw [hk]
    rfl
  refine ks_wpAt_execs_cons (ks_wpAt_Expr_any (ks_wpAt_MethodCall (pl := (do return (← importBound (.Call (.Name "super" p0) [] [] p1) (ksEnv (Str.ofString q) scope s.heap.objs.size f (.ref cda) cc)).getD true)) ?_ (hcall _)) hi)
  refine sup_node (s := { s with heap := h₁, toks := _ }) (news := []) F X₀ News.nil Tg Tb Tn hf hp1 (by rw [hp2]; exact ms) I1 hcode hvs hfile hcc hD T.sub T.sup (by decide) hks hkc (by rw [hp2]; exact hka) hk htop (by kernel_rfl) ?_
  intro so h2 F2 N2 k2
  have I2 : InstAt h2 a (excObj C t1 none .none) C none := ⟨k2 _ _ I1.at_, rfl, rfl, trivial⟩
  refine kxs_method (s := { s with heap := h2, toks := _ }) KF F2 X₀ N2 (List.mem_cons_self ..) I2 T.st T.ini T.subB (by decide) ?_
  intro q3 h3 F3 N3 _
  refine kxs_callWith1 (s := { s with heap := h3, toks := _ }) (i := i) (x := a) N3 (List.mem_cons_self ..) ?_
  refine spliced_more (wpAny_Constant_str (spliced_none ?_))
  refine ⟨kxs_at N3 (List.mem_cons_self ..), ?_⟩
  refine sup_call (s := { s with heap := h3, toks := _ }) (X₀.keeps F3.keep) FB T.exI (kxs_at N3 (List.mem_cons_self ..)) (F3.keep _ _ ho) (by rw [sizeLine_eq]; exact Nat.le_of_ble_eq_true rfl) ?_
  intro t4 h4 k4 e4
  have n4 : h4.Ns s.heap.objs.size (fun x => (List.zip ([("self" : Str), vn] : List Str) [Value.ref a, u]).reverse.lookup x) := by
    obtain ⟨oL, es, ep, hL, rr⟩ := F3.ns
    exact ⟨oL, es, ep, k4 _ _ (Nat.ne_of_gt (Heap.lt_size ho)) hL, rr⟩
  have k5 : ∀ b o, b ≠ a → s.heap.get? b = some o → h4.get? b = some o := fun b o hb e => k4 b o hb (F3.keep b o e)
  have X4 : K.In h4 := fun b o e => by
    by_cases hb : b = a
    · subst hb
      have e2 := X₀ _ _ e
      have e3 := (e0.bs b o (e0.mod.kin _ _ e)).2
      rw [ea] at e3
      cases e3
    · exact k5 b o hb (X₀ _ _ e)
  obtain ⟨nm, q', N', bs', bm, sn, sb, ab, col, dd, c0, c1, c2, c3, c5, hC, hbm⟩ := T.oex.cls
  have hcl : clsIn K C = some { name := nm, bases := bs', mro := .ref C :: bm, ns := N', qualname := q', hasDict := true, slotNames := sn, subclasses := sb, abstract := ab, collection := col, hasDel := false } := by unfold clsIn; rw [hC] <;> rfl
  refine ks_wpAt_execs_cons (ks_wpAt_Assign_Attr ?_)
  refine wpAt_of_wpAny (wpAny_Name (wpAny_loadName_local hk hkv n4 mv ?_) hdv)
  refine wpAny_Name (wpAny_loadName_local hk hka n4 ms ?_)
  refine set_plain X4 (ox := excObj C t4 none .none) (od := none) ⟨e4, rfl, rfl, trivial⟩ T.oex.sa ?_
  refine PySem.HandSPX.exc_osa X4 e4 hcl (show PySem.HandSPX.refsVE (.ref C :: bm) = true from hbm) rfl T.fld' (fun h' tk' dx k' dn dne hx hn => ?_)
  refine wpAt_of_wpAny (wpAny_execs_nil ?_)
  have sz : s.heap.objs.size ≤ h4.objs.size := by
    obtain ⟨oL, es, ep, hL, rr⟩ := n4
    exact Nat.le_of_lt (Heap.lt_size hL)
  have hnd : H dx = none := e0.hok.fresh (Nat.le_trans sz dn)
  have nd : ∀ {b : Addr} {o : Obj}, s.heap.get? b = some o → b ≠ dx := fun {b o} z => Nat.ne_of_lt (Nat.lt_of_lt_of_le (Heap.lt_size z) (Nat.le_trans sz dn))
  have na : ∀ {b : Addr}, H b = none → b ≠ a := fun {b} n z => by
    rw [z, ea] at n
    cases n
  have k6 : ∀ b o, b ≠ a → s.heap.get? b = some o → h'.get? b = some o := fun b o hb e => k' b o hb (k5 b o hb e)
  refine ⟨V.non, upd (upd H dx (exd dx [(Str.ofString fld, y)])) a (exo a C (some dx)), rfl, e0.bare, ?_, ?_, rfl, hq dx hnd dne⟩
  · exact {
      keep := fun b o z n _ _ => k6 b o (na n) z
      slot := fun b o z n _ _ => ⟨o.slots, k6 b o (na n) z⟩
      free := fun b o z n _ => by rw [upd_ne (na n), upd_ne (nd z)]; exact n
      there := fun b o z _ => by
        by_cases hb : b = a
        · exact ⟨_, by rw [hb]; exact hx⟩
        · exact ⟨o, k6 b o hb z⟩
      tups := fun b xs z => by rw [upd_ne (at_ne ea z exo_tup), upd_ne (ne_of_none z hnd)]; exact z
      frzs := fun b o v z => by rw [upd_ne (at_ne ea z exo_frz), upd_ne (ne_of_none z hnd)]; exact z
      tbls := fun b ps z => ⟨#[], by rw [upd_ne (at_ne ea z exo_tbl), upd_ne (ne_of_none z hnd), z]; simp⟩ }
  · intro b o z
    by_cases hb : b = a
    · subst hb
      rw [upd_same] at z
      cases z
      exact exo_ok hx
    · rw [upd_ne hb] at z
      by_cases hd : b = dx
      · subst hd
        rw [upd_same] at z
        cases z
        exact exd_ok hn (relO_put (fs := []) ry fun g => True.intro)
      · rw [upd_ne hd] at z
        exact (e0.hok b o z).stay (fun c v hc zz => k6 c v (by
            rcases hc with hc | hc
            · rw [hc]
              exact hb
            · exact at_ne ea hc exo_own) zz)
          (fun c hc => by rw [upd_ne (at_ne ea hc exo_own), upd_ne (ne_of_none hc hnd)]; exact hc) (fun c xs hc => by rw [upd_ne (at_ne ea hc exo_tup), upd_ne (ne_of_none hc hnd)]; exact hc)
end
end SP
/-! An own error over ValueError: made, raised. -/
namespace SP
open PySem PySem.Spec PyProof.Rows L2
/-- the module's name x holds the error class at C, whose __init__ keeps one field -/
structure ErrOk (P : Program) (w : World) (K : PySem.W.Frag) (mg : Str → Option Value) (base : Heap) (x : Str) (C : Addr) (fld : Str) : Prop where
  at_ : mg x = some (.ref C)
  oex : OexC K C
  ini : ∃ (fI : Addr) (fd : FuncData) (vn : Str), PySem.W.findIn K (.ref C) "__init__" = some (some (.ref fI)) ∧ PySem.W.typeIn K (.ref fI) = some (.type "function") ∧ FnOk P w K mg base CX0 1 fI fd ["self", vn] (spErr C fld) ∧ Binds K fd ["self", vn] []
/-- C(e): the error's dict is told, the error itself is let go -/
def tErr (C : Addr) (fld : Str) (ta : TA) : L2.St → Hp → XK → Prop := fun σ H Q => ta σ H fun vs H1 => ∃ y, vs = [y] ∧ ∀ d, H1 d = none → Q (.ref C) (some d) (upd H1 d (.xd [(fld, y)]))
section
variable {X : Cx} {W : WX} {C : Addr} {x fld : Str} {e : Expr} {ta : TA} {p pos p' : Pos}
theorem pa_wk {es : List Expr} (ha : PA X es ta) : PA X es (fun σ H Q2 => ∃ Q1 : List V → Hp → Prop, ta σ H Q1 ∧ ∀ vs H1, Q1 vs H1 → Q2 vs H1) :=
  ⟨fun pos pins s σ H Q I ⟨Q1, h, k⟩ => wpAny_mono (ha.run pos pins s σ H Q1 I h) (fun us s1 ⟨vs, H1, I1, r, q⟩ => ⟨vs, H1, I1, r, k _ _ q⟩) fun _ _ x => x⟩
theorem pmk_err (T : ErrOk X.prog X.w X.K X.mg X.base x C fld) (hr : Room 2 X.A) (ha : PA X [e] ta) (hg : Gl X x := by rfl)
    (hdb : (x == ("__debug__" : Str)) = false := by decide) (he : starEach [e] X.env = (false, eval e X.env) :: starEach [] X.env := by rfl) : PMk X (.Call (.Name x p) [e] [] pos) (tErr C fld ta) := by
  obtain ⟨fI, fd, vn, i1, i2, F, hb⟩ := T.ini
  intro pins s σ H Q I h
  refine pmk_oex (ds := []) (dvs := []) T.oex i1 i2 F hr hb .nil (fun pins σ H s e s' _ h => h.elim) hg T.at_ (pa_wk ha) hdb he (by rfl) pins s σ H Q I ⟨_, h, fun vs H1 hq => ?_⟩
  obtain ⟨y, rfl, q⟩ := hq
  refine ⟨Nat.le_of_ble_eq_true rfl, fun a na => ⟨a, y, rfl, upd_same, fun dx nd ne => ⟨rfl, dx, [(fld, y)], upd_same, ?_, ?_, ?_⟩⟩⟩
  · rw [upd_ne ne, upd_same]
  · rw [upd_ne ne] at nd
    exact nd
  · have nd' : H1 dx = none := by
      rw [upd_ne ne] at nd
      exact nd
    have e : upd (del (upd (upd (upd H1 a (exo a C none)) dx (exd dx [(fld, y)])) a (exo a C (some dx))) a) dx (.xd [(fld, y)]) = upd H1 dx (.xd [(fld, y)]) := by
      funext b
      by_cases h1 : b = dx
      · rw [h1, upd_same, upd_same]
      · rw [upd_ne h1, upd_ne h1]
        by_cases h2 : b = a
        · rw [h2, del_same, na]
        · rw [del_ne h2, upd_ne h2, upd_ne h1, upd_ne h2]
    rw [e]
    exact q dx nd'
/-- raise C(e) -/
theorem ps_err (T : ErrOk X.prog X.w X.K X.mg X.base x C fld) (hr : Room 2 X.A) (hc : X.calm = true) (tk : Takes X W) (ha : PA X [e] ta) (hg : Gl X x := by rfl)
    (hdb : (x == ("__debug__" : Str)) = false := by decide) (he : starEach [e] X.env = (false, eval e X.env) :: starEach [] X.env := by rfl) :
    PS X (.Raise (some (.Call (.Name x p) [e] [] pos)) none p') (fun _ σ H => tErr C fld ta σ H fun cls d H' => W cls d σ H') := ps_raise hc tk (pmk_err T hr ha hg hdb he)
end
theorem pass_of {X : Cx} {E : XK} (tk : Takes X (fun cls d _ H => E cls d H)) : Passes (L2.CX X.prog X.w) X E := fun pins σ H s e s' I c => tk e s' (XE.of_call I (fun _ _ _ h => h) c)
end SP
/-! Lambdas handed to a def of the text; several named clauses; a caught error asked for its class. -/
namespace SP
open PySem PySem.Spec PyProof.Rows L2 LamX
/-! ### several clauses, each with a name -/
/-- the clauses' wishes: a class, its name's slot, its suite's reading -/
def wNm (K : PySem.W.Frag) (Wout : WX) (D : Ends) : List (Value × Nat × (Addr → Value → Option Addr → TS)) → WX
  | [] => Wout
  | (c, i, ts) :: r => fun cls d σ H => ∃ b, PySem.W.exmOne K cls c = some b ∧
      (b = true → ∀ a, H a = none → ts a cls d { nx := fun σ' H' => D.nx (σ'.set i none) H', rt := D.rt, bk := fun σ' H' => D.bk (σ'.set i none) H', ct := fun σ' H' => D.ct (σ'.set i none) H' } (σ.set i (some (.ref a))) H) ∧ (b = false → wNm K Wout D r cls d σ H)
inductive HdsNm (X : Cx) : List ExceptHandler → List (Value × Nat × (Addr → Value → Option Addr → TS)) → Prop
  | nil : HdsNm X [] []
  | cons {x n : Str} {c : Value} {i : Nat} {ts : Addr → Value → Option Addr → TS} {b₀ : Stmt} {suite : List Stmt} {np pos' : Pos} {hds : List ExceptHandler} {l : List (Value × Nat × (Addr → Value → Option Addr → TS))} (hi : X.N[i]? = some n) (hln : X.env.kindOf n = some .local) (hc : Names X x c)
      (hsu : ∀ (a : Addr) (oe : Obj) (cls : Value) (d : Option Addr) (pn : List (Addr × Obj)), Zc cls d oe → (∃ vs, oe.data = .fields vs) → PSs (X.suite a ((a, oe) :: pn)) (b₀ :: suite) (ts a cls d)) (r : HdsNm X hds l) :
      HdsNm X (.ExceptHandler (some (.Name x np)) (some n) (b₀ :: suite) pos' :: hds) ((c, i, ts) :: l)
section
variable {X : Cx} {body : List Stmt} {h₀ : ExceptHandler} {hds : List ExceptHandler} {l : List (Value × Nat × (Addr → Value → Option Addr → TS))} {pos : Pos} {tb : WX → TS} {Wout : WX}
theorem ps_try_nm (ek : X.stack = X.env :: X.outer) (ef : X.env.frame = some X.env.locals) (ndN : X.N.Nodup) (tk : Takes X Wout)
    (hb : ∀ (W : WX) (pn : List (Addr × Obj)) (xe : Value → Shared → Prop), Takes (X.tr pn xe) W → PassesOwn (model X.prog X.w) X.A X.env xe → PSs (X.tr pn xe) body (tb W)) (hh : HdsNm X (h₀ :: hds) l) :
    PS X (.Try body (h₀ :: hds) [] [] pos) (fun D σ H => tb (wNm X.K Wout D l) D σ H) := by
  refine ⟨fun pins s σ H D I h => ?_⟩
  have ok := I.ok
  have efr : X.A.frames = some (X.env :: X.outer) := by rw [ok.frames, ek]
  refine wpAny_Try_except (wpAny_mono ((hb (wNm X.K Wout D l) (X.pn ++ pins) (fun e s₁ => wpAny (model X.prog X.w) X.A (noteFrame e X.env) (fun _ s₂ => wpAny (model X.prog X.w) X.A (setFlight e none) (fun _ s₃ =>
    wpAny (model X.prog X.w) X.A (handleBy e X.env (h₀ :: hds)) (SP X pins D) X.xe s₃) X.xe s₂) X.xe s₁) (fun u s' got => ?_) PassesOwn.looking).run [] s σ H D (I.toTry _) h) (fun f s1 hsp => ?_) (fun e s1 he => he))
  · obtain ⟨a, B, sI, pins', σ', H', cls, d, rfl, J', nb, up, sky, na, os, ag, w⟩ := got
    have J : Inv X pins σ' H' sI := J'.ofTry ok
    have sky2 : Sky B (X.env :: X.outer) a (Zc cls d) X.env.locals s'.heap := by rw [← ek]; exact sky
    refine show wpAny (model X.prog X.w) X.A (noteFrame (.ref a) X.env) _ _ _ from Sky.land Zc.steady efr ef sky2 fun h3 fl3 up3 => ?_
    have J3 : Inv X pins σ' H' { s' with heap := h3 } := J.landed nb fl3.1 (up.trans up3) os ag
    obtain ⟨oe3, vs3, e3, z3, d3⟩ := fl3.there
    have offFr : ∀ {h : Heap} {o : Obj} {vs : Array Value}, h.FunFrames B (X.env :: X.outer) → h.get? a = some o → o.data = .fields vs → a ∉ frs (X.env :: X.outer) := fun {h o vs} ff e dd hm => by
      obtain ⟨_, o2, e2, hn⟩ := ff.mem hm
      rw [e] at e2
      cases e2
      exact hn _ dd
    have outF := offFr fl3.2.2.1 e3 d3
    have outL : a ≠ X.env.locals := fun z => outF (List.mem_filterMap.mpr ⟨X.env, List.mem_cons_self, by rw [ef, z]⟩)
    have outS : a ∉ X.fs := fun hm => by
      obtain ⟨e, he, q⟩ := List.mem_filterMap.mp hm
      exact outF (List.mem_filterMap.mpr ⟨e, List.mem_cons_of_mem _ he, q⟩)
    have S3 := J3.suite e3 d3 na outL outS
    have go : ∀ {hs2 : List ExceptHandler} {l2 : List (Value × Nat × (Addr → Value → Option Addr → TS))}, HdsNm X hs2 l2 → wNm X.K Wout D l2 cls d σ' H' →
        wpAny (model X.prog X.w) X.A (handleBy (.ref a) X.env hs2) (SP X pins D) X.xe { s' with heap := h3 } := by
      intro hs2 l2 hk
      induction hk with
      | nil =>
        intro w
        refine wpAny_handleBy_nil ?_
        obtain ⟨k1, k2, k3, oe, vs, T, oT, ts', he, hz, hd, h1, hr⟩ := id fl3
        unfold PySem.passOn
        refine wpAny_bind (wpAny_field he hd h1 ?_)
        have noN : ¬ ((Value.ref T == Value.none) = true) := by simp
        rw [if_neg noN]
        have fin : wpAny (model X.prog X.w) X.A (setFlight (.ref a) X.env.frame) (fun _ s4 => wpAny (model X.prog X.w) X.A (throw (.ref a) : Sem Flow) (SP X pins D) X.xe s4) X.xe { s' with heap := h3 } := by
          rw [ef]
          exact HandSPX.setFlight_upZ fl3 fun h4 hh4 up4 => wpAny_throw (tk _ _ ⟨a, B, sI, pins, σ', H', cls, d, rfl, J, nb, (up.trans up3).trans up4, .inr (.inr (by rw [ek]; exact hh4)), na, os, ag, w⟩)
        first
          | exact wpAny_bind (wpAny_pure (wpAny_bind fin))
          | exact wpAny_bind fin
      | @cons x n c i ts b₀ suite np pos2 hds2 l2 hi hln hc hsu r ih =>
        intro w
        obtain ⟨b, hb1, hyes, hno⟩ := w
        refine wpAny_handleBy_cons (codeAny_handlers_test ?_) (by intro q; cases q)
        have LT : PySem.W.Looks (model X.prog X.w) h3 (typeOf (.ref a)) cls := fun A Q E s k q => wpAny_typeOf_ref (k _ _ e3) (by rw [z3.1]; exact q)
        have LM := PySem.W.exm_one (M := model X.prog X.w) (J3.kIn) LT hb1
        have tst : ∀ {Q : Value → Shared → Prop} {E : Value → Shared → Prop}, Q c { s' with heap := h3 } → wpAny (model X.prog X.w) (X.A.mark (some (.ref a))) (eval (.Name x np) X.env) Q E { s' with heap := h3 } := fun {Q E} q => by
          obtain ⟨hg, hdbg, hm | ⟨hm, hv, hnn⟩⟩ := hc
          · exact ld_glob (X := X.suite a ((a, oe3) :: (X.pn ++ pins))) S3 hg hm q hdbg
          · exact ld_blt (X := X.suite a ((a, oe3) :: (X.pn ++ pins))) S3 hg hm hv q hnn hdbg
        refine tst (LM.here ?_)
        cases b with
        | true =>
          refine codeAny_handlers_suite_as (HandSPX.lands_againZ fl3 fun h4 fl4 up4 => ?_)
          have J4 : Inv X pins σ' H' { s' with heap := h4 } := J.landed nb fl4.1 ((up.trans up3).trans up4) os ag
          obtain ⟨oe4, vs4, e4, z4, d4⟩ := fl4.there
          have S4 := J4.suite e4 d4 na outL outS
          refine store_ok (X := X.suite a ((a, oe4) :: (X.pn ++ pins))) (v := .ref a) S4 ndN hi (.inl hln) rfl (fun s5 S5 => ?_) (.inr hln)
          refine wpAny_mono ((hsu a oe4 cls d (X.pn ++ pins) z4 ⟨_, d4⟩).run [] s5 _ H' _ S5 (hyes rfl a na)) (fun f s6 hsp => ?_) (fun _ _ z => z.elim)
          have ends : ∀ {σ6 : L2.St} {H6 : Hp} {Q : Shared → Prop}, Inv (X.suite a ((a, oe4) :: (X.pn ++ pins))) [] σ6 H6 s6 → (∀ s7, Inv X pins (σ6.set i none) H6 s7 → Q s7) →
              wpAny (model X.prog X.w) X.A (do bindName X.env n .none; unbindBehindTheSuite X.env n pos2) (fun _ s7 => Q s7) X.xe s6 := fun {σ6 H6 Q} S6 hq => gone_ok (S6.unsuite ok) ndN hi hln hq
          match f, hsp with
          | .next, ⟨σ6, H6, S6, q6⟩ => exact ends S6 fun s7 J7 => ⟨_, _, J7, q6⟩
          | .brk, ⟨σ6, H6, S6, q6⟩ => exact ends S6 fun s7 J7 => ⟨_, _, J7, q6⟩
          | .cont, ⟨σ6, H6, S6, q6⟩ => exact ends S6 fun s7 J7 => ⟨_, _, J7, q6⟩
          | .ret u, ⟨v6, σ6, H6, S6, r6, q6⟩ => exact ends S6 fun s7 J7 => ⟨_, _, _, J7, r6, q6⟩
        | false => exact show wpAny _ X.A (handleBy (.ref a) X.env hds2) _ _ _ from ih (hno rfl)
    exact go hh w
  · match f, hsp with
    | .next, ⟨σ', H', J', q⟩ => exact wpAny_execs_nil ⟨σ', H', J'.ofTry ok, q⟩
    | .brk, ⟨σ', H', J', q⟩ => exact ⟨σ', H', J'.ofTry ok, q⟩
    | .cont, ⟨σ', H', J', q⟩ => exact ⟨σ', H', J'.ofTry ok, q⟩
    | .ret u, ⟨v, σ', H', J', r, q⟩ => exact ⟨v, σ', H', J'.ofTry ok, r, q⟩
end
/-! ### isinstance of a caught error that bears a dict -/
/-- what its class must say -/
structure EcC (K : PySem.W.Frag) (D : Addr) : Prop where
  cl : (PySem.W.clsIn K D).isSome = true
  ga : PySem.W.findIn K (.ref D) "__getattribute__" = some (some (.builtin "BaseException.__getattribute__"))
  gt : ∃ g, PySem.W.findIn K (.ref D) "__getattr__" = some g
  sb : PySem.W.subIn K (.ref D) (.type "BaseException") = some true
  ca : PySem.W.findIn K (.ref D) "__class__" = some (some (.builtin "object.__class__"))
  cn : PySem.W.specialIn K (.builtin "object.__class__") "__get__" = some (some (.builtin "getset_descriptor.__get__"))
  ck : PySem.W.takesIn K (.builtin "object.__class__") = some true
  cm : PySem.W.mroIn K D (.type "object") = some true
def rIsX (K : PySem.W.Frag) (D a : Addr) (cls : Value) (d : Option Addr) : List V → Hp → VK → Prop := fun xs H Q => cls = .ref D ∧ ∃ (c : V) (cv : Value) (b : Bool), xs = [.ref a, c] ∧ (∃ (dd : Addr) (fs : List (Str × V)), d = some dd ∧ H dd = some (.xd fs)) ∧ (∀ u, RelV c u → u = cv) ∧ PySem.W.kitOne K (.ref D) cv = some b ∧ Q (.bl b) H
theorem call_isX {X : Cx} {a D : Addr} {oe : Obj} {cls : Value} {d : Option Addr} {pn : List (Addr × Obj)} (C : EcC X.K D) (hz : Zc cls d oe) (hf : ∃ vs, oe.data = .fields vs) : CallR (X.suite a ((a, oe) :: pn)) (.builtin "isinstance") (rIsX X.K D a cls d) := by
  intro pins s σ H xs us Q I r h
  obtain ⟨ec, c, cv, b, rfl, ⟨dd, fs, rfl, ed⟩, hcv, e, q⟩ := h
  subst ec
  match r with
  | .cons rx (.cons rt .nil) =>
    cases rx
    cases hcv _ rt
    obtain ⟨hget, _⟩ := I.pin (a, oe) (List.mem_append_left _ List.mem_cons_self)
    obtain ⟨vs, hv⟩ := hf
    have hx : ObjOk X.prog X.w H s.heap dd (.xd fs) := I.hok dd _ ed
    obtain ⟨mA, hns, _⟩ := hx
    obtain ⟨od, ho, _⟩ := lookIn_ns hns
    have J : PySem.W.InstAt s.heap a oe D (some od) := ⟨hget, hz.1, by unfold PySem.W.notCls; rw [hv] <;> rfl, by rw [hz.2]; exact ho⟩
    obtain ⟨g, hgt⟩ := C.gt
    have hgo : ∃ gt : Option Value, PySem.W.findIn X.K (.ref D) "__getattr__" = some gt := ⟨g, hgt⟩
    obtain ⟨gt, hgt2⟩ := hgo
    exact PySem.W.kia_one (PySem.W.kitx_exc C.cl C.ga hgt2 C.sb C.ca C.cn C.ck C.cm) I.kIn J e (fun z => nomatch z) fun tk => ⟨.bl b, H, I.kept (t' := tk) fun _ _ z => z, rfl, q⟩
/-! ### lambdas -/
theorem ext_same {H H' : Hp} (s : Same H H') : ExtN H H' := fun b o e _ => s b o e
theorem tabs_same {T : List (Addr × Str)} {H H' : Hp} (t : Tabs T H) (s : Same H H') : Tabs T H' := t.ext s
theorem codeO_lst {c : Addr} {q : Str} (xs : List V) : CodeO c q ≠ .lst xs := fun z => by
  unfold CodeO at z
  cases z
theorem tabs_kp {T : List (Addr × Str)} {H H' : Hp} {p : Addr} {xs : List V} (t : Tabs T H) (hp : H p = some (.lst xs)) (k : Kp p H H') : Tabs T H' := fun y hy => by
  obtain ⟨ps, h1, h2, h3⟩ := t y hy
  refine ⟨ps, k.get hp h1 (fun z => nomatch z), h2, fun pos cv hc => ?_⟩
  obtain ⟨c, e1, e2⟩ := h3 pos cv hc
  exact ⟨c, e1, k.get hp e2 (codeO_lst xs)⟩
/-- the lambda's errors are its caller's -/
theorem takes_lam {X : Cx} {A : Around} {outer : List Env} {s : Shared} {H : Hp} {E : XK} {scope : Scope} {f c' : Addr} : Takes (lamCx X A outer s H E scope f c') (fun cls d _ H => E cls d H) := takes_of rfl rfl rfl rfl
/-- a def of the module whose code object's address is told -/
structure TopC (K : PySem.W.Frag) (mg : Str → Option Value) (x : Str) (st : Stmt) (ps : List Str) (c : Addr) : Prop where
  ex : ∃ (f : Addr) (oc : Value) (od : Option Addr) (kV doc pm : Value) (an : Option Addr) (ct : Value) (osl : Array (Option Value)), mg x = some (.ref f) ∧ K.lookup f = some ⟨oc, od, .func (PySem.W.fnOf x x (defArgs st) (defBody st) (defScope st) .none kV doc pm an (.ref c) ct), osl⟩ ∧
    PySem.W.codeIn K (.ref c) x = true ∧ PySem.W.keepIn K (.ref f) = true ∧ Binds K (PySem.W.fnOf x x (defArgs st) (defBody st) (defScope st) .none kV doc pm an (.ref c) ct) ps []
section
variable {P : Program} {w : World} {K : PySem.W.Frag} {mg : Str → Option Value} {base : Heap}
theorem TopC.ok {x : Str} {st : Stmt} {N ps : List Str} {c : Addr} {k : Nat} {sp : Sp} (T : TopC K mg x st ps c) (S : FnScope N ps (defScope st)) (len : ∀ vs H Q E, sp vs H Q E → vs.length = ps.length)
    (hbody : ∀ (f : Addr) (A : Around) (out : List Env) (s : Shared) (H : Hp) (vs : List V) (Q : VK) (E : XK), A.guards = some [] → Room k (A.deeper (envOfC x (defScope st) s.heap.objs.size f (.ref c))) → sp vs H Q E →
      ∃ t, PSs (cxOf CX0 P w K mg base N x (defScope st) f (.ref c) A out s H E).nox (defBody st) t ∧ t { nx := fun _ H' => Q .non H', rt := Q } (start N vs) H) : DefG P w K mg base (k + 1) x ps sp := by
  obtain ⟨f, oc, od, kV, doc, pm, an, ct, osl, hm, lk, hcd, hk, hb⟩ := T.ex
  exact ⟨f, _, hm, hk, fn_ofG lk hcd S len (fun A out s H vs Q E gd hr h => let ⟨t, a, b⟩ := hbody f A out s H vs Q E gd hr h; ⟨t, a.nox, b⟩), hb⟩
end
/-- a(), in the def that got the lambda, whose errors are wished for at the slots there -/
theorem pe_actS {X : Cx} {pins : List (Addr × Obj)} {σ : L2.St} {H : Hp} {s : Shared} {CXg : CXT} {Eg : XK} {Ng : List Str} {qg : Str} {sg : Scope} {g f c' : Addr} {cdg pm ctv : Value} {params : Arguments} {body : Expr} {scope : Scope} {k i : Nat} {a : Str} {pn : List (Addr × Obj)} {xe : Value → Shared → Prop} {W : WX} {tb : XK → TE} {p1 p2 : Pos}
    (I : Inv X pins σ H s) (L : LamS X.env.scope scope) (hf : s.heap.get? f = some (PySem.W.kla_obj "<lambda>" (X.env.qual ++ "<lambda>") params body scope (cloFrom X.env.cells scope.names []) pm c' ctv)) (nf : H f = none) (rf : f ∉ frs X.stack)
    (hbind : bindArgs (PySem.W.kla_fn "<lambda>" (X.env.qual ++ "<lambda>") params body scope (cloFrom X.env.cells scope.names []) pm (.ref c') ctv) ⟨[], []⟩ = pure [])
    (tk : Takes ((cxOf CXg X.prog X.w X.K X.mg X.base Ng qg sg g cdg X.A X.stack s H Eg).tr pn xe) W) (hr : Room (k + 1) (X.A.deeper (envOfC qg sg s.heap.objs.size g cdg)))
    (hbody : ∀ (A : Around) (outer : List Env) (s : Shared) (H : Hp) (E : XK), Room k (A.deeper (lamEnv X scope s.heap.objs.size f c')) → A.guards = X.A.guards → PE (lamCx X A outer s H E scope f c') body (tb E))
    (hN : Ng[i]? = some a) (hv : Vis sg a) (hd : (a == ("__debug__" : Str)) = false := by decide) (hcd : (a == ("__classdict__" : Str)) = false := by decide) :
    PE ((cxOf CXg X.prog X.w X.K X.mg X.base Ng qg sg g cdg X.A X.stack s H Eg).tr pn xe) (.Call (.Name a p1) [] [] p2)
      (fun σZ HZ Q => σZ[i]? = some (some (.ref f)) ∧ HZ c' = some (CodeO c' (X.env.qual ++ "<lambda>")) ∧ ∃ E : XK, (∀ cls d H', E cls d H' → W cls d σZ H') ∧ tb E σ HZ Q) := by
  refine ⟨fun pz sZ σZ HZ Q IZ h => ?_⟩
  obtain ⟨hs, hc, E, hW, ht⟩ := h
  refine wpAny_Call_Name_kw (thn ((pe_var (pos := p1) (i := i) hN hv hd hcd).run pz sZ σZ HZ (fun v H1 => v = .ref f ∧ H1 = HZ) IZ ⟨.ref f, hs, rfl, rfl⟩) fun u s1 got => ?_)
  obtain ⟨v, H1, I1, r1, ev, eH⟩ := got
  subst ev
  rw [eH] at I1
  cases (show u = Value.ref f from r1)
  have at1 : s1.heap.get? f = some (PySem.W.kla_obj "<lambda>" (X.env.qual ++ "<lambda>") params body scope (cloFrom X.env.cells scope.names []) pm c' ctv) := I1.base.keep f _ hf nf rf (fun z => nomatch (show f ∈ ([] : List Addr) from z))
  refine PySem.W.callWith_F0 ⟨_, _, _, _, at1⟩ ?_
  have un : Un (frs X.stack) [] H HZ s.heap s1.heap := I1.base
  obtain ⟨⟨oc, vs, t, hoc, hdc, hvc⟩, _, _⟩ := I1.hok c' _ hc
  refine wpAny_call (codeAny_mono (show codeAny (model X.prog X.w) (X.A.deeper (envOfC qg sg s.heap.objs.size g cdg)) (.call (.ref f) ⟨[], []⟩) (CR (L2.CX X.prog X.w) (envOfC qg sg s.heap.objs.size g cdg :: X.stack) X.prog X.w HZ s1 Q E) s1 from ?_) fun r s' hq => ?_)
  · refine PySem.W.kla_callFunE hr.depth at1 rfl L.co L.gen rfl ⟨c', oc, vs, t, rfl, hoc, hdc, hvc⟩ ?_
    rw [hbind]
    refine wpAny_pure (wpAny_newFunctionEnv (fun y hy => (L.own y hy).2) (fun y hy => absurd hy (by simp)) (fun h₁ hns hsb => ⟨I1.nolimit.fresh _ hsb, ?_⟩) L.kind)
    show codeAny _ _ (.expr body (lamEnv X scope s1.heap.objs.size f c')) _ _
    have kp : ∀ b o, s1.heap.get? b = some o → h₁.get? b = some o := fun b o e => hsb.extBut b o (Nat.ne_of_lt (Heap.lt_size e)) (Heap.get?_push_of_some _ e)
    have J : Inv (lamCx X (X.A.deeper (envOfC qg sg s.heap.objs.size g cdg)) (envOfC qg sg s.heap.objs.size g cdg :: X.stack) s1 HZ E scope f c') [] σ HZ { s1 with heap := h₁, toks := s1.toks + ([] : List (Str × Value)).length } := lam_start2 I L I1.env0 hr.hd un hns kp
    refine PySem.W.kla_codeExpr (wpAny_mono ((hbody _ _ s1 HZ E (hr.deeper _) rfl).run [] _ _ HZ Q J ht) (fun v s' hq => ?_) fun e s' hq => hq)
    obtain ⟨w', H', J', rv, q⟩ := hq
    exact ⟨w', H', J'.os, J'.bare, J'.base, J'.hok, rv, q⟩
  · match r, hq with
    | .error e, hq => exact tk e s' (XE.of_call I1 (fun cls d H' h => hW cls d H' h) hq)
    | .ok (.ret u), hq => exact I1.after hq
/-- the def that calls what it got; TT: what it makes of the lambda's reading -/
def GivesS (X : Cx) (Ng : List Str) (x : Str) (sg : Scope) (g : Addr) (cdg : Value) (bg : List Stmt) (a : Str) (q : Str) (TT : (XK → Hp → VK → Prop) → Hp → VK → Prop) : Prop :=
  ∀ (f c' : Addr) (s : Shared) (H : Hp) (Q : VK) (tl : XK → Hp → VK → Prop),
    (∀ (W : WX) (pn : List (Addr × Obj)) (xe : Value → Shared → Prop) (p1 p2 : Pos), Takes ((cxOf C8.CX0 X.prog X.w X.K X.mg X.base Ng x sg g cdg X.A X.stack s H C8.E0).tr pn xe) W →
      PE ((cxOf C8.CX0 X.prog X.w X.K X.mg X.base Ng x sg g cdg X.A X.stack s H C8.E0).tr pn xe) (.Call (.Name a p1) [] [] p2) (fun σZ HZ Q => σZ[0]? = some (some (.ref f)) ∧ HZ c' = some (CodeO c' q) ∧ ∃ E : XK, (∀ cls d H', E cls d H' → W cls d σZ H') ∧ tl E HZ Q)) →
    H c' = some (CodeO c' q) → TT tl H Q → ∃ t, PSs (cxOf C8.CX0 X.prog X.w X.K X.mg X.base Ng x sg g cdg X.A X.stack s H C8.E0).nox bg t ∧ t { nx := fun _ H' => Q .non H', rt := Q } (L2.start Ng [.ref f]) H
/-- x(lambda: body): x's def gives TT -/
theorem pe_lamT {X : Cx} {T : List (Addr × Str)} {TT : (XK → Hp → VK → Prop) → Hp → VK → Prop} {x a : Str} {st : Stmt} {Ng : List Str} {c P : Addr} {k : Nat} {params : Arguments} {body : Expr} {scope : Scope} {t : XK → TE} {p lpos pos : Pos}
    (TP : Top X.K X.mg x st [a]) (Sg : FnScope Ng [a] (defScope st)) (hNg : Ng[0]? = some a) (hva : Vis (defScope st) a)
    (hG : ∀ (g : Addr) (cdv : Value), (∀ s : Shared, Room (k + 1) (X.A.deeper (envOfC x (defScope st) s.heap.objs.size g cdv))) → GivesS X Ng x (defScope st) g cdv (defBody st) a (X.env.qual ++ "<lambda>") TT)
    (TB : TabB X.base X.mg c P) (hmT : (P, X.env.qual ++ "<lambda>") ∈ T) (hu : ∀ p ∈ T, p.1 = P → p.2 = X.env.qual ++ "<lambda>") (hr : Room (k + 2) X.A)
    (hbody : ∀ (A : Around) (outer : List Env) (s : Shared) (H : Hp) (E : XK) (f c' : Addr), Room k (A.deeper (lamEnv X scope s.heap.objs.size f c')) → A.guards = X.A.guards → PE (lamCx X A outer s H E scope f c') body (t E))
    (hcode : X.env.code = .ref c := by rfl) (hg : Gl X x := by rfl) (L : LamS X.env.scope scope := by exact lamS_by (by decide +kernel)) (hdef : defaultsOf params X.env = ([], []) := by rfl)
    (hbind : ∀ (q : Str) (cl : List (Str × Addr)) (pm cv ctv : Value), bindArgs (PySem.W.kla_fn "<lambda>" q params body scope cl pm cv ctv) ⟨[], []⟩ = pure [] := by exact fun _ _ _ _ _ => rfl)
    (hdb : (x == ("__debug__" : Str)) = false := by decide) (hd : (a == ("__debug__" : Str)) = false := by decide) (hcd : (a == ("__classdict__" : Str)) = false := by decide) :
    PE X (.Call (.Name x p) [.Lambda params body scope lpos] [] pos) (tLam T TT t) := by
  obtain ⟨g, fd, hm, F, hb⟩ := TP.ex
  have hk := F.kp
  obtain ⟨oc, od, kV, doc, pm, an, cdv, ct, osl, rfl, lk, hcg⟩ := F.ex
  refine ⟨fun pins s σ H Q I h => ?_⟩
  obtain ⟨hT, h⟩ := h
  refine wpAny_Call_Name_kw (ld_glob I hg hm (PySem.W.callWith_K (h₀ := X.base) I.ok.mod.kin hk ?_ (by rfl) (by rfl)) hdb)
  show wpAny _ _ (spliced ((false, eval (.Lambda params body scope lpos) X.env) :: backTo pos (starEach [] X.env))) _ _ s
  refine Calls.spliced_cons (lam_make2 I TB hcode hmT hu hT hdef (L.has I.ok) fun f c' pm' ctv H1 s' I1 eN T1 hf hfn hfr hco => Calls.spliced_nil ⟨I1.kIn, ?_⟩)
  refine wpAny_call (codeAny_mono (show codeAny (model X.prog X.w) X.A (.call (.ref g) ⟨[.ref f], []⟩) (CR C8.CX0 X.stack X.prog X.w H1 s' Q C8.E0) s' from ?_) fun r s2 hq => ?_)
  · refine run_ofS (N := Ng) (ps := [a]) (us := [.ref f]) (vs := [.ref f]) lk hcg Sg hr I1.env0 (hb s' [.ref f] I1.kIn rfl) (.cons rfl .nil) rfl fun hr' => ?_
    obtain ⟨t', ht', hq'⟩ := hG g cdv (fun s => hr.deeper _) f c' s' H1 Q (fun E H' Q' => t E σ H' Q') (fun W pn xe p1 p2 tk => pe_actS (i := 0) I1 L hf hfn hfr (hbind _ _ _ _ _) tk hr' (fun A outer s H E hr2 eg => hbody A outer s H E f c' hr2 eg) hNg hva hd hcd) hco (h H1 eN T1)
    exact ⟨t', ht'.nox, hq'⟩
  · match r, hq with
    | .error e, hq => exact (show False from hq).elim
    | .ok (.ret u), hq => exact I1.after hq
end SP
/-! Own static methods that may raise, called by the class where it is taken. -/
namespace SP
open PySem PySem.Spec PyProof.Rows L2
section
variable {X : Cx} {CX : CXT} {k : Nat} {C p g : Addr} {mc : Value} {fd : FuncData} {ps ks : List Str} {sp : Sp} {E : L2.St → XK} {m : Str} {apos pos : Pos} {o e : Expr} {es : List Expr} {ta : TE} {t : TA} {kws : List Keyword} {tk : TA}
  {gg : List Value → List Value → List Value} {gV : List V → List V → List V}
def tSMethS (C : Addr) (sp : Sp) (E : L2.St → XK) (ta : TE) (t : TA) : TE := fun σ H Q => ta σ H fun x H1 => x = .ref C ∧ t σ H1 fun vs H2 => sp vs H2 Q (E σ)
theorem pe_smethS {pl : Sem Bool} (he : PE X o ta) (r : ClX.CRead X.K C mc) (c : SMet X.K C mc m p g) (F : FnOk X.prog X.w X.K X.mg X.base CX k g fd ps sp) (hr : Room k X.A) (hb : Binds X.K fd ps []) (hx : ∀ σ, PassesAt CX X σ (E σ)) (hk : PySem.W.keepIn X.K (.ref g) = true) (ha : PA X (e :: es) t)
    (hst : starEach (e :: es) X.env = (false, eval e X.env) :: starEach es X.env := by rfl) (hpl : (backTo pos (starEach es X.env)).any (·.1) = false := by rfl)
    (ht : eval (.Call (.Attribute o m apos) (e :: es) [] pos) X.env = (do
      let ov ← eval o X.env
      standAt apos.atName
      let (f, first) ← holding [ov] (getMethod ov m pl)
      callWith pos f first (backTo pos (starEach (e :: es) X.env)) (backToKw pos (keywordEach [] X.env))) := by rfl) :
    PE X (.Call (.Attribute o m apos) (e :: es) [] pos) (tSMethS C sp E ta t) := by
  refine ⟨fun pins s σ H Q I h => ?_⟩
  refine PySem.W.methodCall_KW (pl := pl) (thn (he.run pins s σ H _ I h) fun u s1 ⟨x, H1, I1, rx, ex, q⟩ => ?_) ht
  subst ex
  obtain rfl : u = Value.ref C := rx
  refine getmethsm_ok I1 r c fun s2 I2 => ?_
  refine PySem.W.callWith_K (h₀ := X.base) I2.ok.mod.kin hk (thn (ha.run pos pins s2 σ H1 _ I2 q) fun us s3 ⟨vs, H2, I3, rv, q2⟩ => ⟨I3.kIn, ?_⟩) hst hpl
  exact run_fnS F hr hb (hx σ) I3 rv q2
def tSMethKS (C : Addr) (n : Nat) (sp : Sp) (gV : List V → List V → List V) (E : L2.St → XK) (ta : TE) (tk : TA) : TE := fun σ H Q => ta σ H fun x H1 => x = .ref C ∧ tk σ H1 fun zs H2 => zs.length = n ∧ sp (gV [] zs) H2 Q (E σ)
theorem pe_smethKS {pl : Sem Bool} (he : PE X o ta) (r : ClX.CRead X.K C mc) (c : SMet X.K C mc m p g) (F : FnOk X.prog X.w X.K X.mg X.base CX k g fd ps sp) (hr : Room k X.A) (hb : KBn X.K fd ps 0 ks gg gV) (hx : ∀ σ, PassesAt CX X σ (E σ)) (hk : PySem.W.keepIn X.K (.ref g) = true) (hkw : PK X kws tk)
    (hall : (backToKw pos (keywordEach kws X.env)).all (·.1.isSome) = true := by rfl) (hks : (backToKw pos (keywordEach kws X.env)).filterMap (·.1) = ks := by rfl)
    (hpl : ((backTo pos (starEach [] X.env)).any (·.1) || (backToKw pos (keywordEach kws X.env)).any (·.1.isNone)) = false := by rfl)
    (ht : eval (.Call (.Attribute o m apos) [] kws pos) X.env = (do
      let ov ← eval o X.env
      standAt apos.atName
      let (f, first) ← holding [ov] (getMethod ov m pl)
      callWith pos f first (backTo pos (starEach [] X.env)) (backToKw pos (keywordEach kws X.env))) := by rfl) :
    PE X (.Call (.Attribute o m apos) [] kws pos) (tSMethKS C ks.length sp gV E ta tk) := by
  refine ⟨fun pins s σ H Q I h => ?_⟩
  refine PySem.W.methodCall_KW (pl := pl) (thn (he.run pins s σ H _ I h) fun u s1 ⟨x, H1, I1, rx, ex, q⟩ => ?_) ht
  subst ex
  obtain rfl : u = Value.ref C := rx
  refine getmethsm_ok I1 r c fun s2 I2 => ?_
  refine PySem.W.callWith_KW0 (h₀ := X.base) I2.ok.mod.kin hk hall (thn (hkw.run pos pins s2 σ H1 _ I2 q) fun ws s3 ⟨zs, H2, I3, rz, l2, q2⟩ => ⟨I3.kIn, ?_⟩) hpl
  rw [hks]
  have rr := hb.rel (.nil : Vals [] []) rz
  refine wpAny_call (codeAny_mono (F.run X.A X.stack s3 H2 ⟨[], ks.zip ws⟩ _ _ Q (E σ) hr I3.env0 (hb.to s3 [] ws I3.kIn rfl (rz.length.symm.trans l2)) rr q2) ?_)
  intro res s4 got
  match res, got with
  | .error e, got => exact hx σ pins H2 s3 e s4 I3 got
  | .ok (.ret u), got => exact I3.after got
end
end SP
/-! Small common lemmas of the laws' texts (K11*, K12* have their own). -/
namespace SP
open PySem PySem.Spec PyProof.Rows L2
theorem yes_t {σ : L2.St} {H : Hp} {A B : Hp → Prop} (h : A H) : tYes σ H fun b H3 => if b = true then A H3 else B H3 := by
  show (if true = true then A H else B H)
  rw [if_pos rfl]
  exact h
theorem rep_add {i : Nat} {v : V} : List.replicate i v ++ [v] = List.replicate (i + 1) v := by rw [List.replicate_succ']
theorem Same.put {H H' : Hp} {q : Addr} {o : HO} (s : Same H H') (n : H q = none) : Same H (upd H' q o) := fun b u e => by rw [upd_ne (ne_of_none e n)]; exact s b u e
theorem Kp.put {p : Addr} {H H' : Hp} {q : Addr} {o : HO} (k : Kp p H H') (n : H q = none) : Kp p H (L2.upd H' q o) := fun b u e h => by rw [upd_ne (ne_of_none e n)]; exact k b u e h
theorem mko {H : Hp} {q : Addr} (n : H q = none) (o : HO) : ∃ H', upd H q o = H' ∧ Same H H' ∧ H' q = some o := ⟨_, rfl, Same.new n, upd_same⟩
/-- a fact about the outcome of an equality of values -/
theorem dec_t {p : Prop} [Decidable p] (h : p) : decide p = true := decide_eq_true h
theorem int_ne {i j : Int} (h : i ≠ j) : ¬ V.int i = V.int j := fun z => h (by injection z)
theorem str_ne {i j : Str} (h : i ≠ j) : ¬ V.str i = V.str j := fun z => h (by injection z)
end SP
/-! k13: rows drawn. -/
namespace SP
open PySem PySem.Spec PyProof.Rows L2 TL
abbrev sLDg : Stmt := top 20
abbrev sLWr : Stmt := top 21
abbrev sLSp : Stmt := top 22
structure K13T (K : PySem.W.Frag) (mg : Str → Option Value) (C : Addr) : Prop extends AmTxt K mg C where
  cmp : AmCmp K mg C
  ops : AmOps K mg C
  pot : PotT K mg
  tLDg : Top K mg "_law_digits" sLDg ["_law_pot_here", "_law_most"]
  tLWr : Top K mg "_law_written" sLWr ["_law_pot_here"]
  tLSp : Top K mg "_law_spoilt" sLSp ["_law_pot_here", "_law_row"]
/-- short rows of plain signs -/
def Rg (n : Nat) (z : Str) : Prop := (tl z).length ≤ n ∧ ∀ c ∈ tl z, c < 128
theorem Rg.mono {n m : Nat} {z : Str} (h : Rg n z) (k : n ≤ m) : Rg m z := ⟨Nat.le_trans h.1 k, h.2⟩
theorem Rg.app {n m : Nat} {a b : Str} (h : Rg n a) (k : Rg m b) : Rg (n + m) (a ++ b) := by
  refine ⟨?_, fun c hc => ?_⟩
  · rw [tl_append, List.length_append]
    exact Nat.add_le_add h.1 k.1
  · rw [tl_append] at hc
    exact (List.mem_append.mp hc).elim (h.2 c) (k.2 c)
theorem Rg.cut {n : Nat} {z : Str} (h : Rg n z) (lo hi : Option Int) : Rg n (cutS z lo hi) := by
  have e : tl (cutS z lo hi) = ((z.cps.toList.drop (HT.sIx z.length 0 lo)).take (HT.sIx z.length z.length hi - HT.sIx z.length 0 lo)) := by
    unfold cutS
    simp [tl]
  refine ⟨?_, fun c hc => ?_⟩
  · rw [e, List.length_take, List.length_drop]
    exact Nat.le_trans (Nat.min_le_right _ _) (Nat.le_trans (Nat.sub_le _ _) h.1)
  · rw [e] at hc
    exact h.2 c (List.mem_of_mem_drop (List.mem_of_mem_take hc))
theorem sIx_nat {n d : Nat} {i : Int} (h : 0 ≤ i) : HT.sIx n d (some i) = min i.toNat n := by
  unfold HT.sIx
  show (if i < 0 then (i + (n : Int)).toNat else min i.toNat n) = _
  rw [if_neg (by omega)]
theorem Rg.one {n : Nat} {z : Str} (h : Rg n z) {i : Int} (hi : 0 ≤ i) : Rg 1 (cutS z (some i) (some (i + 1))) := by
  have e : tl (cutS z (some i) (some (i + 1))) = ((z.cps.toList.drop (HT.sIx z.length 0 (some i))).take (HT.sIx z.length z.length (some (i + 1)) - HT.sIx z.length 0 (some i))) := by
    unfold cutS
    simp [tl]
  refine ⟨?_, (h.cut _ _).2⟩
  rw [e, List.length_take, sIx_nat hi, sIx_nat (show 0 ≤ i + 1 by omega)]
  omega
theorem Rg.len {n : Nat} {z : Str} (h : Rg n z) (k : n ≤ sizeLine) : z.length ≤ sizeLine := by
  rw [len_tl]
  exact Nat.le_trans h.1 k
theorem rg_num {k n : Nat} (hk : 0 < k) (h : n < 10 ^ k) : Rg k (Str.ofString (toString ((n : Nat) : Int))) := by
  rw [Rg, tl_num]
  exact ⟨numL_len hk h, fun c hc => by have := numL_digits n c hc; omega⟩
theorem rg_nat {k : Nat} {d : Int} (hk : 0 < k) (h0 : 0 ≤ d) (h : d < ((10 ^ k : Nat) : Int)) : Rg k (Str.ofString (toString d)) := by
  obtain ⟨n, rfl⟩ := Int.eq_ofNat_of_zero_le h0
  exact rg_num hk (by omega)
theorem rg_int {k : Nat} {d : Int} (hk : 0 < k) (h : d.natAbs < 10 ^ k) : Rg (k + 1) (Str.ofString (toString d)) := by
  rw [Rg, tl_int]
  have a := numL_len hk h
  unfold intL
  split
  · refine ⟨by rw [List.length_cons]; omega, fun c hc => ?_⟩
    rcases List.mem_cons.mp hc with rfl | hc
    · decide
    · have := numL_digits _ c hc
      omega
  · exact ⟨by omega, fun c hc => by have := numL_digits _ c hc; omega⟩
theorem log_lt {d : Int} {n : Nat} (h : d.natAbs < 2 ^ n) (h0 : 0 < n) (hn : n ≤ 1920) : d.natAbs.log2 < 1920 := small_log h h0 hn


section
variable {P : Program} {w : World} {K : PySem.W.Frag} {mg : Str → Option Value} {base : Heap} {C : Addr}
def spLDg : Sp := fun vs H Q _ => ∃ (p : Addr) (k : Nat), vs = [.ref p, .int ((10 ^ k : Nat) : Int)] ∧ Pot H p ∧ 2 ≤ k ∧ k ≤ 6 ∧ ∀ (z : Str) (H' : Hp), Rg k z → Pot H' p → Kp p H H' → Q (.str z) H'
theorem scLDg : FnScope ["_law_pot_here", "_law_most"] ["_law_pot_here", "_law_most"] (defScope sLDg) := ⟨rfl, rfl, rfl, by decide +kernel, rfl, by decide +kernel, by decide +kernel⟩
theorem d_ldg (T : K13T K mg C) : DefG P w K mg base 3 "_law_digits" ["_law_pot_here", "_law_most"] spLDg := by
  have DD := d_draw (P := P) (w := w) (base := base) T.pot
  have DCh := d_choice (P := P) (w := w) (base := base) T.pot
  refine T.tLDg.ok scLDg (fun vs H Q E h => ?_) (fun f cdv A out s H vs Q E gd hr h => ?_)
  · obtain ⟨p, k, rfl, _⟩ := h
    rfl
  · obtain ⟨p, k, rfl, hp, k2, k6, q⟩ := h
    refine ⟨_, (pss_cons (ps_if (pt_cmpR op_eq (pe_callD DD gd (hr.mono (by decide)) (pa_cons (pv 0) (pa_cons pe_int pa_nil))) pe_int (nomark _)) (pss_one (ps_ret (pe_callTy call_str_int (by rfl) T.cmp.b_str (by decide +kernel) (pa_cons (pe_callD DD gd (hr.mono (by decide)) (pa_cons (pv 0) (pa_cons pe_int pa_nil))) pa_nil)))) pss_nil)
  (pss_one (ps_ret (pe_callTy call_str_int (by rfl) T.cmp.b_str (by decide +kernel) (pa_cons (pe_callD DD gd (hr.mono (by decide)) (pa_cons (pv 0) (pa_cons (pe_callD DCh gd (hr.mono (by decide)) (pa_cons (pv 0) (pa_cons (pe_lst (pa_cons pe_int (pa_cons (pv 1) (pa_cons (pv 1) pa_nil)))) pa_nil))) pa_nil))) pa_nil))))), ?_⟩
    have pk : 10 ^ 2 ≤ 10 ^ k := Nat.pow_le_pow_right (by decide) k2
    have pk6 : 10 ^ k ≤ 10 ^ 6 := Nat.pow_le_pow_right (by decide) k6
    refine ⟨_, rfl, p, 2, rfl, hp, by decide, by decide, fun d H1 d0 d1 hp1 k1 => ?_⟩
    have fin : ∀ {n : Int} {H2 : Hp}, 0 ≤ n → n < ((10 ^ k : Nat) : Int) → Pot H2 p → Kp p H H2 → ∃ i, [V.int n] = [.int i] ∧ i.natAbs.log2 < 1920 ∧ Q (.str (toString i)) H2 := fun {n H2} n0 n1 hp2 k2 => by
      have e20 : (2 : Nat) ^ 20 = 1048576 := by decide
      have e6 : (10 : Nat) ^ 6 = 1000000 := by decide
      refine ⟨n, rfl, log_lt (n := 20) (by omega) (by decide) (by decide), ?_⟩
      exact q _ _ (rg_nat (by omega) n0 n1) hp2 k2
    refine ⟨rfl, ?_⟩
    by_cases h0 : d = 0
    · rw [decide_eq_true (show (V.int d) = V.int 0 by rw [h0])]
      refine ⟨true, rfl, iteT ?_⟩
      refine ⟨_, rfl, p, 13, rfl, hp1, by decide, by decide, fun n H2 n0 n1 hp2 k2 => fin n0 (by omega) hp2 (k1.trans k2)⟩
    · rw [decide_eq_false (show ¬ (V.int d) = V.int 0 from fun z => h0 (by injection z))]
      refine ⟨false, rfl, iteF ?_⟩
      refine ⟨_, rfl, _, rfl, _, rfl, _, rfl, (by show 3 ≤ sizeLine; decide), fun l nl => ?_⟩
      obtain ⟨xs0, hx0⟩ := hp1.lst
      have lp : l ≠ p := (ne_of_none hx0 nl).symm
      refine ⟨p, l, _, rfl, hp1.same (Same.new nl), lp, upd_same, by show 0 < 3; decide, by show 3 < 100000; decide, fun v H3 hv hp3 k3 => ?_⟩
      have k13 : Kp p H H3 := (k1.trans (Kp.new nl)).trans k3
      have hv' : v = .int 100 ∨ v = .int ((10 ^ k : Nat) : Int) := by
        rcases List.mem_cons.mp hv with h | hv
        · exact .inl h
        rcases List.mem_cons.mp hv with h | hv
        · exact .inr h
        · exact .inr (List.mem_singleton.mp hv)
      rcases hv' with rfl | rfl
      · refine ⟨p, 100, rfl, hp3, by decide, by decide, fun n H2 n0 n1 hp2 k2 => fin n0 (by omega) hp2 (k13.trans k2)⟩
      · refine ⟨p, _, rfl, hp3, by omega, by omega, fun n H2 n0 n1 hp2 k2 => fin n0 n1 hp2 (k13.trans k2)⟩
def spLWr : Sp := fun vs H Q _ => ∃ (p : Addr), vs = [.ref p] ∧ Pot H p ∧ ∀ (z : Str) (H' : Hp), Rg 15 z → Pot H' p → Kp p H H' → Q (.str z) H'
theorem scLWr : FnScope ["_law_pot_here", "_law_row"] ["_law_pot_here"] (defScope sLWr) := ⟨rfl, rfl, rfl, by decide +kernel, rfl, by decide +kernel, by decide +kernel⟩
theorem d_lwr (T : K13T K mg C) : DefG P w K mg base 4 "_law_written" ["_law_pot_here"] spLWr := by
  have DD := d_draw (P := P) (w := w) (base := base) T.pot
  have DCh := d_choice (P := P) (w := w) (base := base) T.pot
  have DDg := d_ldg (P := P) (w := w) (base := base) T
  refine T.tLWr.ok scLWr (fun vs H Q E h => ?_) (fun f cdv A out s H vs Q E gd hr h => ?_)
  · obtain ⟨p, rfl, _⟩ := h
    rfl
  · obtain ⟨p, rfl, hp, q⟩ := h
    refine ⟨_, (pss_cons (ps_set (i := 1) scLWr.nd rfl (Or.inl rfl) (pe_op op_add_str (pe_callD DCh gd (hr.mono (by decide)) (pa_cons (pv 0) (pa_cons (pe_lst (pa_cons pe_str (pa_cons pe_str (pa_cons pe_str pa_nil)))) pa_nil))) (pe_callD DDg gd (hr.mono (by decide)) (pa_cons (pv 0) (pa_cons (pe_op op_pow pe_int pe_int) pa_nil)))))
  (pss_cons (ps_if (pt_cmpR op_gt (pe_callD DD gd (hr.mono (by decide)) (pa_cons (pv 0) (pa_cons pe_int pa_nil))) pe_int (nomark _)) (pss_one (ps_set (i := 1) scLWr.nd rfl (Or.inl rfl) (pe_op op_add_str (pe_op op_add_str (pv 1) pe_str) (pe_callD DDg gd (hr.mono (by decide)) (pa_cons (pv 0) (pa_cons (pe_op op_pow pe_int pe_int) pa_nil)))))) pss_nil)
  (pss_one (ps_ret (pv 1))))), ?_⟩
    refine ⟨_, rfl, (by show 3 ≤ sizeLine; decide), fun l nl => ?_⟩
    obtain ⟨xs0, hx0⟩ := hp.lst
    have lp : l ≠ p := (ne_of_none hx0 nl).symm
    refine ⟨p, l, _, rfl, hp.same (Same.new nl), lp, upd_same, by show 0 < 3; decide, by show 3 < 100000; decide, fun v H1 hv hp1 k1 => ?_⟩
    have k01 : Kp p H H1 := (Kp.new nl).trans k1
    obtain ⟨sg, rfl, rs⟩ : ∃ sg : Str, v = .str sg ∧ Rg 1 sg := by
      rcases List.mem_cons.mp hv with h | hv
      · exact ⟨"", h, by decide, by decide⟩
      rcases List.mem_cons.mp hv with h | hv
      · exact ⟨"", h, by decide, by decide⟩
      · exact ⟨"-", List.mem_singleton.mp hv, by decide +kernel, by decide +kernel⟩
    refine ⟨_, rfl, _, _, rfl, rfl, ⟨by decide, by decide, by decide⟩, p, 6, rfl, hp1, by decide, by decide, fun z1 H2 r1 hp2 k2 => ?_⟩
    have rr1 := rs.app r1
    refine ⟨_, _, rfl, rfl, ?_, ?_⟩
    · have := rr1.len (show 1 + 6 ≤ sizeLine by decide)
      rw [strLen_append] at this
      exact this
    refine ⟨_, rfl, p, 3, rfl, hp2, by decide, by decide, fun d H3 d0 d1 hp3 k3 => ?_⟩
    have k03 := (k01.trans k2).trans k3
    refine ⟨_, _, rfl, rfl, _, rfl, ?_⟩
    by_cases h0 : (0 : Int) < d
    · rw [decide_eq_true h0]
      refine iteT ⟨_, rfl, _, _, rfl, rfl, ?_, ?_⟩
      · have rr2 := rr1.app (show Rg 1 "/" from ⟨by decide +kernel, by decide +kernel⟩)
        have := rr2.len (show 1 + 6 + 1 ≤ sizeLine by decide)
        rw [strLen_append] at this
        exact this
      refine ⟨_, rfl, _, _, rfl, rfl, ⟨by decide, by decide, by decide⟩, p, 3, rfl, hp3, by decide, by decide, fun z2 H4 r2 hp4 k4 => ?_⟩
      have rr3 := (rr1.app (show Rg 1 "/" from ⟨by decide +kernel, by decide +kernel⟩)).app r2
      refine ⟨_, _, rfl, rfl, ?_, ?_⟩
      · have := rr3.len (show 1 + 6 + 1 + 3 ≤ sizeLine by decide)
        rw [strLen_append] at this
        exact this
      exact ⟨_, rfl, q _ _ (rr3.mono (by decide)) hp4 (k03.trans k4)⟩
    · rw [decide_eq_false h0]
      exact iteF ⟨_, rfl, q _ _ (rr1.mono (by decide)) hp3 k03⟩
def spLSp : Sp := fun vs H Q _ => ∃ (p : Addr) (z : Str) (n : Nat), vs = [.ref p, .str z] ∧ Pot H p ∧ Rg n z ∧ n ≤ 40 ∧ ∀ (z : Str) (H' : Hp), Rg (2 * n + 2) z → Pot H' p → Kp p H H' → Q (.str z) H'
theorem scLSp : FnScope ["_law_pot_here", "_law_row", "_law_at", "_law_sign", "_law_way", "_law_turned"] ["_law_pot_here", "_law_row"] (defScope sLSp) := ⟨rfl, rfl, rfl, by decide +kernel, rfl, by decide +kernel, by decide +kernel⟩
theorem d_lsp (T : K13T K mg C) : DefG P w K mg base 3 "_law_spoilt" ["_law_pot_here", "_law_row"] spLSp := by
  have DD := d_draw (P := P) (w := w) (base := base) T.pot
  have DCh := d_choice (P := P) (w := w) (base := base) T.pot
  refine T.tLSp.ok scLSp (fun vs H Q E h => ?_) (fun f cdv A out s H vs Q E gd hr h => ?_)
  · obtain ⟨p, z, n, rfl, _⟩ := h
    rfl
  · obtain ⟨p, z, n, rfl, hp, rz, n40, q⟩ := h
    refine ⟨_, (pss_cons (ps_par (i := 2) (j := 3) (by rfl) scLSp.nd rfl rfl (by decide) rfl rfl (pa_cons (pe_callD DD gd (hr.mono (by decide)) (pa_cons (pv 0) (pa_cons (pe_op op_add (pe_callB call_len (by rfl) T.pot.b_len (by decide +kernel) (pa_cons (pv 1) pa_nil)) pe_int) pa_nil))) (pa_cons (pe_callD DCh gd (hr.mono (by decide)) (pa_cons (pv 0) (pa_cons (pe_lst (pa_cons pe_str (pa_cons pe_str (pa_cons pe_str (pa_cons pe_str (pa_cons pe_str (pa_cons pe_str (pa_cons pe_str (pa_cons pe_str (pa_cons pe_str (pa_cons pe_str (pa_cons pe_str pa_nil)))))))))))) pa_nil))) pa_nil)) (by rfl))
  (pss_cons (ps_set (i := 4) scLSp.nd rfl (Or.inl rfl) (pe_callD DD gd (hr.mono (by decide)) (pa_cons (pv 0) (pa_cons pe_int pa_nil))))
  (pss_cons (ps_if (pt_cmpR op_eq (pv 4) pe_int (nomark _)) (pss_one (ps_ret (pe_op op_add_str (pe_op op_add_str (pe_slice sl_str (pv 1) po_none (po_some (pv 2))) (pv 3)) (pe_slice sl_str (pv 1) (po_some (pv 2)) po_none)))) pss_nil)
  (pss_cons (ps_if (pt_cmpR op_eq (pv 4) pe_int (nomark _)) (pss_one (ps_ret (pe_op op_add_str (pe_slice sl_str (pv 1) po_none (po_some (pv 2))) (pe_slice sl_str (pv 1) (po_some (pe_op op_add (pv 2) pe_int)) po_none)))) pss_nil)
  (pss_cons (ps_if (pt_cmpR op_eq (pv 4) pe_int (nomark _)) (pss_one (ps_ret (pe_op op_add_str (pe_op op_add_str (pe_slice sl_str (pv 1) po_none (po_some (pv 2))) (pv 3)) (pe_slice sl_str (pv 1) (po_some (pe_op op_add (pv 2) pe_int)) po_none)))) pss_nil)
  (pss_cons (ps_set (i := 5) scLSp.nd rfl (Or.inl rfl) (pe_op op_add_str (pe_slice sl_str (pv 1) (po_some (pe_op op_add (pv 2) pe_int)) (po_some (pe_op op_add (pv 2) pe_int))) (pe_slice sl_str (pv 1) (po_some (pv 2)) (po_some (pe_op op_add (pv 2) pe_int)))))
  (pss_one (ps_ret (pe_op op_add_str (pe_op op_add_str (pe_slice sl_str (pv 1) po_none (po_some (pv 2))) (pv 5)) (pe_slice sl_str (pv 1) (po_some (pe_op op_add (pv 2) pe_int)) po_none)))))))))), ?_⟩
    have hz : z.length ≤ sizeLine := rz.len (Nat.le_trans n40 (by decide))
    refine ⟨_, rfl, _, rfl, _, z.length, rfl, ⟨hz, rfl⟩, _, _, rfl, rfl, p, _, rfl, hp, by omega, by have := rz.1; rw [← len_tl] at this; omega, fun at_ H1 a0 a1 hp1 k1 => ?_⟩
    refine ⟨_, rfl, (by show 11 ≤ sizeLine; decide), fun l nl => ?_⟩
    obtain ⟨xs0, hx0⟩ := hp1.lst
    have lp : l ≠ p := (ne_of_none hx0 nl).symm
    refine ⟨p, l, _, rfl, hp1.same (Same.new nl), lp, upd_same, by show 0 < 11; decide, by show 11 < 100000; decide, fun v H2 hv hp2 k2 => ?_⟩
    obtain ⟨sg, rfl, rs⟩ : ∃ sg : Str, v = .str sg ∧ Rg 1 sg := by
      have all : ∀ sg ∈ (["0", "1", "5", "/", "-", "+", " ", "_", ".", "a", "\n"] : List Str), (tl sg).length ≤ 1 ∧ ∀ c ∈ tl sg, c < 128 := by decide +kernel
      have hv : v ∈ (["0", "1", "5", "/", "-", "+", " ", "_", ".", "a", "\n"] : List Str).map V.str := hv
      obtain ⟨sg, hs, rfl⟩ := List.mem_map.mp hv
      exact ⟨sg, rfl, all sg hs⟩
    have k02 : Kp p H H2 := k1.trans ((Kp.new nl).trans k2)
    refine ⟨_, _, rfl, ?_⟩
    refine ⟨_, rfl, p, 4, rfl, hp2, by decide, by decide, fun way H3 w0 w4 hp3 k3 => ?_⟩
    have k03 := k02.trans k3
    have app3 : ∀ {a b c : Str}, Rg n a → Rg 1 b → Rg n c → (a.length + b.length ≤ sizeLine ∧ (a ++ b).length + c.length ≤ sizeLine) ∧ Rg (2 * n + 2) ((a ++ b) ++ c) := fun ha hb hc => by
      have r1 := ha.app hb
      have r2 := r1.app hc
      have l1 := r1.len (show n + 1 ≤ sizeLine from Nat.le_trans (show n + 1 ≤ 100 by omega) (by decide))
      have l2 := r2.len (show n + 1 + n ≤ sizeLine from Nat.le_trans (show n + 1 + n ≤ 100 by omega) (by decide))
      rw [strLen_append] at l1 l2
      exact ⟨⟨l1, l2⟩, r2.mono (by omega)⟩
    have l1 : ∀ lo hi, Rg n (cutS z lo hi) := fun lo hi => rz.cut lo hi
    have app2 : ∀ {a b : Str}, Rg n a → Rg n b → a.length + b.length ≤ sizeLine ∧ Rg (2 * n) (a ++ b) := fun ha hb => by
      have r1 := ha.app hb
      have l1 := r1.len (show n + n ≤ sizeLine from Nat.le_trans (show n + n ≤ 100 by omega) (by decide))
      rw [strLen_append] at l1
      exact ⟨l1, r1.mono (by omega)⟩
    have dec : ∀ {i j : Int}, i = j → decide (V.int i = V.int j) = true := fun h => decide_eq_true (by rw [h])
    have ndec : ∀ {i j : Int}, i ≠ j → decide (V.int i = V.int j) = false := fun h => decide_eq_false fun z => h (by injection z)
    refine ⟨_, rfl, rfl, ?_⟩
    by_cases h0 : way = 0
    · rw [dec h0]
      refine ⟨true, rfl, iteT ?_⟩
      obtain ⟨⟨b1, b2⟩, rr⟩ := app3 (l1 none (some at_)) rs (l1 (some at_) none)
      exact ⟨_, rfl, _, rfl, _, rfl, z, rfl, hz, _, rfl, _, _, rfl, rfl, b1, _, rfl, _, rfl, _, rfl, z, rfl, hz, _, _, rfl, rfl, b2, q _ _ rr hp3 k03⟩
    rw [ndec h0]
    refine ⟨false, rfl, iteF ?_⟩
    refine ⟨_, rfl, rfl, ?_⟩
    by_cases h1 : way = 1
    · rw [dec h1]
      refine ⟨true, rfl, iteT ?_⟩
      obtain ⟨b1, b2⟩ := app2 (l1 none (some at_)) (l1 (some (at_ + 1)) none)
      exact ⟨_, rfl, _, rfl, _, rfl, z, rfl, hz, _, rfl, _, rfl, _, _, rfl, rfl, _, rfl, z, rfl, hz, _, _, rfl, rfl, b1, q _ _ (b2.mono (by omega)) hp3 k03⟩
    rw [ndec h1]
    refine ⟨false, rfl, iteF ?_⟩
    refine ⟨_, rfl, rfl, ?_⟩
    by_cases h2 : way = 2
    · rw [dec h2]
      refine ⟨true, rfl, iteT ?_⟩
      obtain ⟨⟨b1, b2⟩, rr⟩ := app3 (l1 none (some at_)) rs (l1 (some (at_ + 1)) none)
      exact ⟨_, rfl, _, rfl, _, rfl, z, rfl, hz, _, rfl, _, _, rfl, rfl, b1, _, rfl, _, rfl, _, _, rfl, rfl, _, rfl, z, rfl, hz, _, _, rfl, rfl, b2, q _ _ rr hp3 k03⟩
    rw [ndec h2]
    refine ⟨false, rfl, iteF ?_⟩
    have ra := (rz.one (i := at_ + 1) (by omega)).app (rz.one a0)
    obtain ⟨c1, c2⟩ := app2 (l1 (some (at_ + 1)) (some (at_ + 2))) (l1 (some at_) (some (at_ + 1)))
    refine ⟨_, rfl, _, rfl, _, _, rfl, rfl, _, rfl, _, rfl, _, _, rfl, rfl, _, rfl, z, rfl, hz, _, rfl, _, rfl, _, rfl, _, rfl, _, _, rfl, rfl, _, rfl, z, rfl, hz, _, _, rfl, rfl, c1, ?_⟩
    have rt : Rg 2 (cutS z (some (at_ + 1)) (some (at_ + 1 + 1)) ++ cutS z (some at_) (some (at_ + 1))) := ra
    rw [show at_ + 1 + 1 = at_ + 2 by omega] at rt
    generalize cutS z (some (at_ + 1)) (some (at_ + 2)) ++ cutS z (some at_) (some (at_ + 1)) = tn at rt
    have r1 := (l1 none (some at_)).app rt
    have r2 := r1.app (l1 (some (at_ + 2)) none)
    have m1 := r1.len (show n + 2 ≤ sizeLine from Nat.le_trans (show n + 2 ≤ 100 by omega) (by decide))
    have m2 := r2.len (show n + 2 + n ≤ sizeLine from Nat.le_trans (show n + 2 + n ≤ 100 by omega) (by decide))
    rw [strLen_append] at m1 m2
    exact ⟨_, rfl, _, rfl, _, rfl, z, rfl, hz, _, rfl, _, _, rfl, rfl, m1, _, rfl, _, rfl, _, _, rfl, rfl, _, rfl, z, rfl, hz, _, _, rfl, rfl, m2, q _ _ (r2.mono (by omega)) hp3 k03⟩
end
end SP
/-! k13: the program reads. -/
namespace SP
open PySem PySem.Spec PyProof.Rows L2 TL
abbrev sWhole : Stmt := top 12
abbrev sAmIn : Stmt := top 13
abbrev sMRead : Stmt := inClass (top 14) 2
structure K13U (K : PySem.W.Frag) (mg : Str → Option Value) (C CE : Addr) : Prop extends K13T K mg C where
  b_str : mg "str" = none
  b_len : mg "len" = none
  b_all : mg "all" = none
  figs : ∃ u, mg "FIGURES" = some u ∧ RelV (.str "0123456789") u
  most : ∃ u, mg "MOST_FIGURES" = some u ∧ RelV (.int 4000) u
  tWh : Top K mg "whole_in" sWhole ["word"]
  tAi : Top K mg "amount_in" sAmIn ["text"]
  cr : ClX.CRead K C (.type "type")
  rd : ∃ (p g : Addr) (fd : FuncData), SMet K C (.type "type") "read" p g ∧ Fun K "read" "Amount.read" sMRead g fd ∧ Binds K fd ["text"] []


section
variable {P : Program} {w : World} {K : PySem.W.Frag} {mg : Str → Option Value} {base : Heap} {C CE : Addr}
def optV : Option Int → V
  | none => .non
  | some n => .int n
theorem tl_take (z : Str) : tl (cutS z none (some 1)) = (tl z).take 1 := by
  unfold cutS
  have e : HT.sIx z.length z.length (some 1) = min 1 z.length := sIx_nat (d := z.length) (n := z.length) (i := 1) (by decide)
  rw [e]
  show (((z.cps.toList.drop 0).take (min 1 z.length - 0)).toArray).toList = _
  rw [List.drop_zero, Nat.sub_zero, List.toList_toArray]
  show z.cps.toList.take _ = z.cps.toList.take 1
  have l : z.cps.toList.length = z.length := Array.length_toList
  by_cases h : z.length = 0
  · have : z.cps.toList = [] := List.eq_nil_of_length_eq_zero (by omega)
    rw [this] <;> simp
  · rw [show min 1 z.length = 1 by omega]
theorem tl_drop (z : Str) : tl (cutS z (some 1) none) = (tl z).drop 1 := by
  unfold cutS
  have e : HT.sIx z.length 0 (some 1) = min 1 z.length := sIx_nat (d := 0) (n := z.length) (i := 1) (by decide)
  rw [e]
  show (((z.cps.toList.drop (min 1 z.length)).take (z.length - min 1 z.length)).toArray).toList = _
  rw [List.toList_toArray]
  have l : z.cps.toList.length = z.length := Array.length_toList
  by_cases h : z.length = 0
  · have : z.cps.toList = [] := List.eq_nil_of_length_eq_zero (by omega)
    show _ = z.cps.toList.drop 1
    rw [this] <;> simp
  · rw [show min 1 z.length = 1 by omega, List.take_of_length_le (by rw [List.length_drop]; omega)]
theorem bare_if (z : Str) : tl (if decide (V.str (cutS z none (some 1)) = V.str "-") = true then cutS z (some 1) none else z) = bareL (tl z) := by
  have e1 : tl ("-" : Str) = [45] := by decide +kernel
  by_cases h : cutS z none (some 1) = "-"
  · rw [decide_eq_true (by rw [h]), if_pos rfl, tl_drop]
    have : (tl z).take 1 = [45] := by rw [← tl_take, h, e1]
    cases q : tl z with
    | nil => rw [q] at this; cases this
    | cons c r =>
      rw [q] at this
      injection this with this
      rw [this]
      rfl
  · rw [decide_eq_false (fun k => h (by injection k)), if_neg Bool.false_ne_true]
    rcases bare_cases (tl z) with k | ⟨k, _⟩
    · exact k.symm
    · exfalso
      apply h
      refine ext_tl ?_
      rw [tl_take, k, e1]
      rfl
theorem intText_whole {z : Str} {n : Int} (hz : z.length ≤ 4300) (h : wholeL (tl z) = some n) : PySem.intText? z = some n := by
  unfold wholeL at h
  split at h
  · rename_i g
    obtain ⟨g1, g2, g3⟩ := g
    have d := all_dgt.mp g3
    injection h with h
    rcases bare_cases (tl z) with k | ⟨k, nk⟩
    · rw [if_pos k] at h
      rw [k] at d h g1
      rw [← h]
      exact PySem.intText_digits d (fun e => g1 (by show (tl z).length = 0; rw [show tl z = [] from e]; rfl)) hz
    · rw [if_neg nk] at h
      rw [← h]
      exact PySem.intText_neg k d (fun z => g1 (by rw [z]; rfl)) hz
  · cases h
theorem ifExp_v {c : Bool} {t1 t2 : TE} {σ : L2.St} {H : Hp} {Q : VK} {v1 v2 : V} (h1 : ∀ Q : VK, Q v1 H → t1 σ H Q) (h2 : ∀ Q : VK, Q v2 H → t2 σ H Q) (k : Q (if c = true then v1 else v2) H) : if c = true then t1 σ H Q else t2 σ H Q := by
  cases c with
  | true =>
    rw [if_pos rfl] at k ⊢
    exact h1 _ k
  | false =>
    rw [if_neg Bool.false_ne_true] at k ⊢
    exact h2 _ k
theorem bare_len (l : List Nat) : (bareL l).length ≤ l.length := by
  rcases bare_cases l with k | ⟨k, _⟩
  · rw [k]; exact Nat.le_refl _
  · have := congrArg List.length k
    rw [List.length_cons] at this
    omega
def spWh : Sp := fun vs H Q _ => ∃ z : Str, vs = [.str z] ∧ z.length ≤ 300 ∧ ∀ H', Same H H' → Q (optV (wholeL (tl z))) H'
theorem scWh : FnScope ["word", "bare", "sign"] ["word"] (defScope sWhole) := ⟨rfl, rfl, rfl, by decide +kernel, rfl, by decide +kernel, by decide +kernel⟩
theorem d_wh (T : K13U K mg C CE) : DefO P w K mg base 2 "whole_in" ["word"] spWh := by
  obtain ⟨uF, hF, rF⟩ := T.figs
  obtain ⟨uM, hM, rM⟩ := T.most
  refine T.tWh.okO scWh (fun vs H Q E h => ?_) (fun f cdv A out s H vs Q E hr h => ?_)
  · obtain ⟨z, rfl, _⟩ := h
    rfl
  · obtain ⟨z, rfl, hz, q⟩ := h
    refine ⟨_, (pss_cons (ps_set (i := 1) scWh.nd rfl (Or.inl rfl) (pe_ifExp (pt_cmpR op_eq (pe_slice sl_str (pv 0) po_none (po_some pe_int)) pe_str (nomark _)) (pe_slice sl_str (pv 0) (po_some pe_int) po_none) (pv 0)))
  (pss_cons (ps_if (PW.pt (pw_or (pt_not (pt_chain op_le op_le pe_int (pe_callB call_len (by rfl) T.b_len (by decide +kernel) (pa_cons (pv 1) pa_nil)) (pe_glob (v := .int 4000) (by rfl) hM rM))) (pw_or1 (pt_not (pt_val (pe_callB (cr_all rfl) (by rfl) T.b_all (by decide +kernel) (pa_cons (pe_lc (own := [("sign", 2)]) (g := (gName 2)) (by rfl) scWh.nd (pi_str (pv 1)) (blkOk_by (own := [("sign", 2)]) (N := ["word", "bare", "sign"]) (sc := defScope sWhole) (by decide +kernel)) (fun _ _ _ _ _ => (pg_name (i := 2) scWh.nd rfl (Or.inl rfl))) (fun _ _ _ _ _ => pts_nil) (fun _ _ _ _ _ => (pe_cmpR op_in_sign (pv 2) (pe_glob (v := .str "0123456789") (by rfl) hF rF) (by rfl)))) pa_nil))))))) (pss_one (ps_ret pe_non)) pss_nil)
  (pss_one (ps_ret (pe_callTy call_int_str (by rfl) T.b_int (by decide +kernel) (pa_cons (pv 0) pa_nil)))))), ?_⟩
    have z0 : z.length ≤ sizeLine := Nat.le_trans hz (by decide)
    refine ⟨_, rfl, _, rfl, z, rfl, z0, rfl, _, rfl, ?_⟩
    obtain ⟨b, eb, hb⟩ : ∃ b : Str, tl b = bareL (tl z) ∧ b = (if decide (V.str (cutS z none (some 1)) = V.str "-") = true then cutS z (some 1) none else z) := ⟨_, bare_if z, rfl⟩
    refine ifExp_v (v1 := .str (cutS z (some 1) none)) (v2 := .str z) (fun Q k => ⟨_, rfl, _, rfl, z, rfl, z0, k⟩) (fun Q k => ⟨_, rfl, k⟩) ?_
    rw [show (if decide (V.str (cutS z none (some 1)) = V.str "-") = true then V.str (cutS z (some 1) none) else V.str z) = V.str b from by rw [hb]; split <;> rfl]
    have lb : b.length ≤ 300 := by
      have := bare_len (tl z)
      rw [← eb, ← len_tl, ← len_tl] at this
      omega
    clear hb
    have lbt : b.length = (bareL (tl z)).length := by rw [← eb, ← len_tl]
    have fin : ∀ {H' : Hp}, Same H H' → wholeL (tl z) = none → Q .non H' := fun s e => by
      have := q _ s
      rw [e] at this
      exact this
    refine ⟨_, rfl, _, b.length, rfl, ⟨Nat.le_trans lb (by decide), rfl⟩, ?_⟩
    refine ⟨_, _, rfl, rfl, _, rfl, ?_⟩
    by_cases h1 : 1 ≤ b.length
    case neg =>
      rw [decide_eq_false (show ¬ (1 : Int) ≤ (b.length : Int) from fun e => h1 (by omega))]
      refine iteF ⟨_, rfl, iteT (iteT ?_)⟩
      exact fin (Same.refl _) (if_neg fun k => h1 (by omega))
    rw [decide_eq_true (show (1 : Int) ≤ (b.length : Int) by omega)]
    refine iteT ⟨_, _, rfl, rfl, _, rfl, ?_⟩
    rw [decide_eq_true (show (b.length : Int) ≤ 4000 by omega)]
    refine iteF ?_
    refine ⟨_, rfl, b, rfl, fun D nD => ?_⟩
    refine lc_it walk_str (fun i H' => Same H H' ∧ H' D = some (.lst (((b.cps.toList.take i).map fun c => decide (c ∈ ("0123456789" : Str).cps.toList)).map V.bl))) ⟨Same.new nD, upd_same⟩ (fun i H' _ k => trivial) (fun i x H' H'' hi k y => ?_) (fun H' k => ?_)
    · obtain ⟨rfl, c, hc, rfl⟩ := y
      obtain ⟨s1, hD⟩ := k
      refine ⟨rfl, yes_t ⟨_, rfl, c, _, rfl, rfl, ?_⟩⟩
      have hl : b.cps.toList[i]? = some c := by rw [Array.getElem?_toList]; exact hc
      refine ⟨_, hD, ?_, Same.put s1 nD, ?_⟩
      · rw [List.length_map, List.length_map]
        exact Nat.lt_of_le_of_lt (List.length_take_le ..) (Nat.lt_of_lt_of_le hi (Nat.le_trans lb (by decide)))
      · rw [upd_same, List.take_add_one, hl]
        simp
    · obtain ⟨s1, hD⟩ := k
      refine ⟨D, _, rfl, SqL.of hD, ?_⟩
      have e : (List.map (fun c => decide (c ∈ ("0123456789" : Str).cps.toList)) (b.cps.toList.take b.cps.size)).all id = (bareL (tl z)).all dgt := by
        rw [List.take_of_length_le (by simp), ← eb, List.all_map]
        rfl
      rw [e]
      refine ⟨_, rfl, ?_⟩
      by_cases hd : (bareL (tl z)).all dgt = true
      · rw [hd]
        have ew : wholeL (tl z) = some (if bareL (tl z) = tl z then (NumText.digitsVal (bareL (tl z)) : Int) else -(NumText.digitsVal (bareL (tl z)) : Int)) := if_pos ⟨by omega, by omega, hd⟩
        have := q _ s1
        rw [ew] at this
        exact iteF ⟨_, rfl, z, _, rfl, intText_whole (Nat.le_trans hz (by decide)) ew, Nat.le_trans hz (by decide), this⟩
      · rw [Bool.eq_false_iff.mpr hd]
        exact iteT (fin s1 (if_neg fun k => hd k.2.2))
end
end SP
/-! k13: amount_in, read. -/
namespace SP
open PySem PySem.Spec PyProof.Rows L2 TL


/-! ### plainly -/
def secR (z : Str) : Option Int := if decide ((Txt.partition z "/").2.1 ≠ Str.empty) = true then wholeL (tl (Txt.partition z "/").2.2) else some 1
def amR (z : Str) : Option (Int × Int) := match wholeL (tl (Txt.partition z "/").1), secR z with
  | some t, some b => if b = 0 then none else some (lo t b)
  | _, _ => none
def rdS (z : Str) : Option (Int × Int) := match amR z with
  | some f => if sTxt f.1 f.2 = z then some f else none
  | none => none
theorem rdS_prd (z : Str) : rdS z = prd z (tl (Txt.partition z "/").1) (tl (Txt.partition z "/").2.2) (decide ((Txt.partition z "/").2.1 ≠ Str.empty)) := by
  unfold rdS amR prd secR
  cases wholeL (tl (Txt.partition z "/").1) with
  | none => rfl
  | some t =>
    cases (if decide ((Txt.partition z "/").2.1 ≠ Str.empty) = true then wholeL (tl (Txt.partition z "/").2.2) else some 1) with
    | none => rfl
    | some b =>
      by_cases h : b = 0
      · simp only [if_pos h]
      · simp only [if_neg h]
theorem val_lt : ∀ (l : List Nat) (a : Nat), NumText.AllDigits l → l.foldl (fun acc c => acc * 10 + (c - 48)) a < (a + 1) * 10 ^ l.length
  | [], a, _ => by simp
  | c :: l, a, h => by
    have hd := h.head
    have ih := val_lt l (a * 10 + (c - 48)) h.tail
    refine Nat.lt_of_lt_of_le ih ?_
    rw [List.length_cons, Nat.pow_succ, Nat.mul_comm (10 ^ l.length) 10, ← Nat.mul_assoc]
    exact Nat.mul_le_mul_right _ (by omega)
theorem whole_bd {l : List Nat} {t : Int} (h : wholeL l = some t) (n : l.length ≤ 300) : t.natAbs < 2 ^ 1000 := by
  unfold wholeL at h
  split at h
  · rename_i g
    have v := val_lt (bareL l) 0 (all_dgt.mp g.2.2)
    have lb : 10 ^ (bareL l).length ≤ 10 ^ 300 := Nat.pow_le_pow_right (by decide) (Nat.le_trans (bare_len l) n)
    have p : (10 : Nat) ^ 300 < 2 ^ 1000 := by decide +kernel
    have e : (bareL l).foldl (fun acc c => acc * 10 + (c - 48)) 0 = NumText.digitsVal (bareL l) := rfl
    rw [e] at v
    injection h with h
    split at h <;> omega
  · cases h
theorem len_part (z : Str) : (tl (Txt.partition z "/").1).length ≤ z.length ∧ (tl (Txt.partition z "/").2.2).length ≤ z.length := by
  have ey : tl ("/" : Str) = 47 :: [] := by decide +kernel
  by_cases h : 47 ∈ tl z
  · obtain ⟨a, b, e, n⟩ := List.append_of_mem h |>.elim fun a ⟨b, e⟩ => (show ∃ a b, tl z = a ++ 47 :: b ∧ 47 ∉ a from by
      clear e
      revert h
      generalize tl z = l
      intro h
      induction l with
      | nil => cases h
      | cons c r ih =>
        by_cases q : c = 47
        · exact ⟨[], r, by rw [q]; rfl, List.not_mem_nil⟩
        · obtain ⟨a, b, e, n⟩ := ih ((List.mem_cons.mp h).elim (fun z => (q z.symm).elim) id)
          exact ⟨c :: a, b, by rw [e]; rfl, fun z => (List.mem_cons.mp z).elim (fun z => q z.symm) n⟩)
    have ez : z = ⟨a.toArray⟩ ++ "/" ++ ⟨b.toArray⟩ := ext_tl (by rw [tl_append, tl_append, ey, e, List.append_assoc]; rfl)
    have l := congrArg List.length e
    rw [List.length_append, List.length_cons, ← len_tl] at l
    rw [ez, partition_app ey (show 47 ∉ tl (⟨a.toArray⟩ : Str) from n), ← ez]
    exact ⟨by show a.length ≤ _; omega, by show b.length ≤ _; omega⟩
  · rw [partition_none ey h]
    exact ⟨by rw [← len_tl] <;> exact Nat.le_refl _, Nat.zero_le _⟩
theorem amR_bd {z : Str} {f : Int × Int} (h : amR z = some f) (n : z.length ≤ 300) : Bd 1000 f ∧ Cop f := by
  obtain ⟨l1, l2⟩ := len_part z
  unfold amR at h
  split at h
  · rename_i t b h1 h2
    split at h
    · cases h
    rename_i nb
    injection h with h
    rw [← h]
    have b1 := whole_bd h1 (Nat.le_trans l1 n)
    have b2 : b.natAbs < 2 ^ 1000 := by
      unfold secR at h2
      split at h2
      · exact whole_bd h2 (Nat.le_trans l2 n)
      · injection h2 with h2
        rw [← h2]
        decide
    exact ⟨lo_Bd nb ⟨b1, b2⟩, lo_Cop nb⟩
  · cases h
section
variable {P : Program} {w : World} {K : PySem.W.Frag} {mg : Str → Option Value} {base : Heap} {C CE : Addr}
theorem ifExp_h {c : Bool} {t1 t2 : TE} {σ : L2.St} {H : Hp} {Q : VK} (W : V → Hp → Prop) (h1 : c = true → ∀ Q : VK, (∀ v H', W v H' → Q v H') → t1 σ H Q) (h2 : c = false → ∀ Q : VK, (∀ v H', W v H' → Q v H') → t2 σ H Q) (k : ∀ v H', W v H' → Q v H') : if c = true then t1 σ H Q else t2 σ H Q := by
  cases c with
  | true =>
    rw [if_pos rfl]
    exact h1 rfl _ k
  | false =>
    rw [if_neg Bool.false_ne_true]
    exact h2 rfl _ k
def spAi (C : Addr) : Sp := fun vs H Q _ => ∃ z : Str, vs = [.str z] ∧ z.length ≤ 300 ∧ (amR z = none → ∀ H', Same H H' → Q .non H') ∧ ∀ f, amR z = some f → ∀ (a : Addr) (H' : Hp), AmAt C H' a f.1 f.2 → Same H H' → H a = none → Q (.ref a) H'
theorem scAi : FnScope ["text", "first", "stroke", "second", "top", "bottom"] ["text"] (defScope sAmIn) := ⟨rfl, rfl, rfl, by decide +kernel, rfl, by decide +kernel, by decide +kernel⟩
theorem d_ai (T : K13U K mg C CE) : DefO P w K mg base 5 "amount_in" ["text"] (spAi C) := by
  have DWh := d_wh (P := P) (w := w) (base := base) T
  refine T.tAi.okO scAi (fun vs H Q E h => ?_) (fun f cdv A out s H vs Q E hr h => ?_)
  · obtain ⟨z, rfl, _⟩ := h
    rfl
  · obtain ⟨z, rfl, hz, q0, q1⟩ := h
    refine ⟨_, (pss_cons (ps_asg (pe_bm PySem.F.plainAttrs_str PySem.F.slot_str_partition PySem.F.type_str_partition mt_partition (pv 0) (pa_cons pe_str pa_nil)) (pg_tup (by rfl) (pgs_cons (pg_name (i := 1) scAi.nd rfl (Or.inl rfl)) (pgs_cons (pg_name (i := 2) scAi.nd rfl (Or.inl rfl)) (pgs_cons (pg_name (i := 3) scAi.nd rfl (Or.inl rfl)) pgs_nil)))))
  (pss_cons (ps_par (i := 4) (j := 5) (by rfl) scAi.nd rfl rfl (by decide) rfl rfl (pa_cons (pe_callO DWh (hr.mono (by decide)) (pa_cons (pv 1) pa_nil)) (pa_cons (pe_ifExp (pt_cmpR op_eq (pv 2) pe_str (nomark _)) pe_int (pe_callO DWh (hr.mono (by decide)) (pa_cons (pv 3) pa_nil))) pa_nil)) (by rfl))
  (pss_cons (ps_if (PW.pt (pw_or (pt_cmpR op_isN (pv 4) pe_non (nomark _)) (pw_or (pt_cmpR op_isN (pv 5) pe_non (nomark _)) (pw_or1 (pt_cmpR op_eq (pv 5) pe_int (nomark _)))))) (pss_one (ps_ret pe_non)) pss_nil)
  (pss_one (ps_ret (pe_callC (rn_amount T.toAmTxt (hr.mono (by decide))) T.gC (kpC T.toAmTxt) (pa_cons (pv 4) (pa_cons (pv 5) pa_nil)))))))), ?_⟩
    obtain ⟨l1, l2⟩ := len_part z
    have eA : amR z = match wholeL (tl (Txt.partition z "/").1), secR z with
      | some t, some b => if b = 0 then none else some (lo t b)
      | _, _ => none := rfl
    have eS : secR z = if decide ((Txt.partition z "/").2.1 ≠ Str.empty) = true then wholeL (tl (Txt.partition z "/").2.2) else some 1 := rfl
    obtain ⟨pr, epr⟩ : ∃ pr, Txt.partition z "/" = pr := ⟨_, rfl⟩
    rw [epr] at l1 l2 eA eS
    obtain ⟨x1, x2, x3⟩ := pr
    refine ⟨_, rfl, rfl, z, "/", rfl, rfl, by decide +kernel, Nat.le_trans hz (by decide), fun p np => ?_⟩
    rw [epr]
    obtain ⟨H1, e1, s1, j1⟩ := mko np (.tup [.str x1, .str x2, .str x3])
    show gTup _ _ _ _ _ (upd H p (.tup [.str x1, .str x2, .str x3])) _
    rw [e1]
    refine ⟨p, _, rfl, SqT.of j1, rfl, _, _, rfl, _, _, rfl, _, _, rfl, rfl, ?_⟩
    have lx1 : x1.length ≤ 300 := by
      have : (tl x1).length ≤ z.length := l1
      rw [← len_tl] at this
      omega
    have lx3 : x3.length ≤ 300 := by
      have : (tl x3).length ≤ z.length := l2
      rw [← len_tl] at this
      omega
    refine ⟨_, rfl, x1, rfl, lx1, fun H2 s2 => ?_⟩
    refine ⟨_, rfl, rfl, _, rfl, ?_⟩
    refine ifExp_h (W := fun v H3 => Same H2 H3 ∧ v = optV (secR z)) (fun c Q k => ?_) (fun c Q k => ?_) (fun v H3 kk => ?_)
    · have k2 : x2 = Str.empty := by
        have := of_decide_eq_true c
        injection this
      refine k _ _ ⟨Same.refl _, ?_⟩
      rw [eS, decide_eq_false (fun z => z k2), if_neg Bool.false_ne_true]
      rfl
    · have k2 : (x1, x2, x3).2.1 ≠ Str.empty := fun z => of_decide_eq_false c (by rw [show x2 = Str.empty from z]; rfl)
      refine ⟨_, rfl, x3, rfl, lx3, fun H3 s3 => k _ _ ⟨s3, ?_⟩⟩
      rw [eS, decide_eq_true k2, if_pos rfl]
    obtain ⟨s3, rfl⟩ := kk
    have s03 := (s1.trans s2).trans s3
    have eA : amR z = match wholeL (tl x1), secR z with
      | some t, some b => if b = 0 then none else some (lo t b)
      | _, _ => none := eA
    have b1 : ∀ t, wholeL (tl x1) = some t → t.natAbs < 2 ^ 1000 := fun t h => whole_bd h (by rw [← len_tl]; exact lx1)
    have b2 : ∀ b, secR z = some b → b.natAbs < 2 ^ 1000 := fun b h => by
      rw [eS] at h
      split at h
      · exact whole_bd h (by show (tl x3).length ≤ 300; rw [← len_tl]; exact lx3)
      · injection h with h
        rw [← h]
        decide
    clear eS l1 l2 epr
    refine ⟨_, _, rfl, ?_⟩
    cases w1 : wholeL (tl x1) with
    | none =>
      rw [w1] at eA
      exact ⟨_, rfl, rfl, _, rfl, iteT (iteT (q0 eA _ s03))⟩
    | some t =>
      refine ⟨_, rfl, rfl, _, rfl, iteF ?_⟩
      cases w2 : secR z with
      | none =>
        rw [w1, w2] at eA
        exact ⟨_, rfl, rfl, _, rfl, iteT (iteT (q0 eA _ s03))⟩
      | some b =>
        rw [w1, w2] at eA
        refine ⟨_, rfl, rfl, _, rfl, iteF ?_⟩
        refine ⟨_, rfl, rfl, _, rfl, ?_⟩
        by_cases h0 : b = 0
        · rw [decide_eq_true (show optV (some b) = V.int 0 from congrArg V.int h0)]
          rw [show (match some t, some b with
            | some t, some b => if b = 0 then none else some (lo t b)
            | _, _ => none) = (none : Option (Int × Int)) from if_pos h0] at eA
          exact iteT (q0 eA _ s03)
        · rw [decide_eq_false (show ¬ optV (some b) = V.int 0 from fun z => h0 (by injection z))]
          rw [show (match some t, some b with
            | some t, some b => if b = 0 then none else some (lo t b)
            | _, _ => none) = some (lo t b) from if_neg h0] at eA
          refine iteF ⟨_, rfl, _, rfl, t, b, rfl, h0, Nat.lt_of_lt_of_le (b1 t w1) (Nat.pow_le_pow_right (by decide) (by decide)), Nat.lt_of_lt_of_le (b2 b w2) (Nat.pow_le_pow_right (by decide) (by decide)), fun a t' b' H4 lw am s4 na => ?_⟩
          have el := lw.is h0
          refine q1 _ eA a H4 ?_ (s03.trans s4) (s03.free na)
          rw [← el]
          exact am
/-! ### Amount.read -/
def Ref1 (CE : Addr) (H : Hp) (E : XK) : Prop := ∀ d, H d = none → E (.ref CE) (some d) (upd H d (.xd [(Str.ofString "line", .int 1)]))
def spRd (K : PySem.W.Frag) (C CE : Addr) : Sp := fun vs H Q E => ∃ v : V, vs = [v] ∧ ((∃ z, v = .str z ∧ z.length ≤ 300 ∧ (∀ f, rdS z = some f → ∀ (a : Addr) (H' : Hp), AmAt C H' a f.1 f.2 → Same H H' → Q (.ref a) H') ∧ (rdS z = none → ∀ H', Same H H' → Ref1 CE H' E)) ∨
  ∃ t, TyX K H v t ∧ PySem.W.kitOne K t (.type "str") = some false ∧ Ref1 CE H E)
theorem scRd : FnScope ["text", "found"] ["text"] (defScope sMRead) := ⟨rfl, rfl, rfl, by decide +kernel, rfl, by decide +kernel, by decide +kernel⟩
theorem ok_Rd {f : Addr} {fd : FuncData} (F : Fun K "read" "Amount.read" sMRead f fd) (T : K13U K mg C CE) (R : ErrOk P w K mg base "InvalidText" CE (Str.ofString "line")) : FnOk P w K mg base (L2.CX P w) 6 f fd ["text"] (spRd K C CE) := by
  have DAi := d_ai (P := P) (w := w) (base := base) T
  refine F.okX scRd (fun vs H Q E h => ?_) (fun cdv A out s H vs Q E hr h => ?_)
  · obtain ⟨v, rfl, _⟩ := h
    rfl
  · obtain ⟨v, rfl, h⟩ := h
    have TK : Takes (cxOf (L2.CX P w) P w K mg base ["text", "found"] "Amount.read" (defScope sMRead) f cdv A out s H E) (fun cls d _ H => E cls d H) := takes_of rfl rfl rfl rfl
    refine ⟨_, (pss_cons (ps_if (pt_not (pt_val (pe_callB call_isi (by rfl) T.b_isinstance (by decide +kernel) (pa_cons (pv 0) (pa_cons (pe_bltn (v := .ty "str") (by rfl) T.b_str (by decide +kernel) rfl) pa_nil))))) (pss_one (ps_err R (hr.mono (by decide)) rfl TK (pa_cons pe_int pa_nil))) pss_nil)
  (pss_cons (ps_set (i := 1) scRd.nd rfl (Or.inl rfl) (pe_callO DAi (hr.mono (by decide)) (pa_cons (pv 0) pa_nil)))
  (pss_cons (ps_if (PW.pt (pw_or (pt_cmpR op_isN (pv 1) pe_non (nomark _)) (pw_or1 (pt_cmpR op_ne (pe_callTy (call_strAm T.toAmTxt T.cmp (hr.mono (by decide))) (by rfl) T.b_str (by decide +kernel) (pa_cons (pv 1) pa_nil)) (pv 0) (nomark _))))) (pss_one (ps_err R (hr.mono (by decide)) rfl TK (pa_cons pe_int pa_nil))) pss_nil)
  (pss_one (ps_ret (pv 1)))))), ?_⟩
    rcases h with ⟨z, rfl, hz, q1, q0⟩ | ⟨t, ty, kt, q⟩
    · refine ⟨_, rfl, .str z, .ty "str", .type "str", _, true, rfl, .ty _, .base (.str z), kit_ty (by decide +kernel), true, rfl, iteF ?_⟩
      refine ⟨_, rfl, z, rfl, hz, fun e H1 s1 => ?_, fun f ef a H1 am s1 na => ?_⟩
      · refine ⟨_, rfl, rfl, _, rfl, iteT (iteT ?_)⟩
        exact ⟨_, rfl, q0 (by unfold rdS; rw [e]) _ s1⟩
      · obtain ⟨⟨g1, g2⟩, _⟩ := amR_bd ef hz
        refine ⟨_, rfl, rfl, _, rfl, iteF ?_⟩
        refine ⟨_, rfl, a, f.1, f.2, rfl, am, Nat.lt_of_lt_of_le g1 (Nat.pow_le_pow_right (by decide) (by decide)), Nat.lt_of_lt_of_le g2 (Nat.pow_le_pow_right (by decide) (by decide)), _, rfl, rfl, _, rfl, ?_⟩
        have er : rdS z = if sTxt f.1 f.2 = z then some f else none := by
          unfold rdS
          rw [ef]
        by_cases k : sTxt f.1 f.2 = z
        · rw [if_pos k] at er
          rw [decide_eq_true (show V.str (sTxt f.1 f.2) = V.str z by rw [k])]
          exact iteF ⟨_, rfl, q1 f er a H1 am s1⟩
        · rw [if_neg k] at er
          rw [decide_eq_false (show ¬ V.str (sTxt f.1 f.2) = V.str z from fun z => k (by injection z))]
          exact iteT ⟨_, rfl, q0 er _ s1⟩
    · refine ⟨_, rfl, v, .ty "str", t, _, false, rfl, .ty _, ty, kt, false, rfl, iteT ?_⟩
      exact ⟨_, rfl, q⟩
end
end SP
/-! k13: the law reads. -/
namespace SP
open PySem PySem.Spec PyProof.Rows L2 TL
abbrev sLIs : Stmt := top 23
abbrev sLRd : Stmt := top 24
structure K13V (K : PySem.W.Frag) (mg : Str → Option Value) (C CE : Addr) : Prop extends K13U K mg C CE where
  tLIs : Top K mg "_law_is_digits" sLIs ["_law_word"]
  tLRd : Top K mg "_law_read" sLRd ["_law_row"]


theorem split_some (bs : Str) : Txt.split bs "/" ≠ [] := fun z => by
  have ey : tl ("/" : Str) = 47 :: [] := by decide +kernel
  have js := PySem.StrLaws.join_split bs "/"
  rw [z] at js
  have e0 : bs = Str.empty := js.symm
  have := split_join (y := "/") ey (by decide +kernel) (parts := [Str.empty]) (List.cons_ne_nil _ _) (fun p hp => by rw [List.mem_singleton.mp hp]; decide)
  rw [join_eq] at this
  have e1 : Str.join "/" [Str.empty] = Str.empty := by decide +kernel
  rw [e1, ← e0, z] at this
  cases this
theorem and_join {c b : Bool} {t : TT} {σ : L2.St} {H : Hp} {Q : Bool → Hp → Prop} (h : ∀ Q : Bool → Hp → Prop, Q b H → t σ H Q) (k : Q (c && b) H) : if c = true then t σ H Q else Q false H := by
  cases c with
  | true =>
    rw [if_pos rfl]
    exact h _ k
  | false =>
    rw [if_neg Bool.false_ne_true]
    exact k
theorem first_sign {c : Nat} : decide (V.str ⟨#[c]⟩ = V.str "0") = decide (c = 48) := by
  have e : ("0" : Str) = ⟨#[48]⟩ := by decide +kernel
  rw [e]
  refine decide_eq_decide.mpr ⟨fun h => ?_, fun h => by rw [h]⟩
  injection h with h
  injection h with h
  have := congrArg Array.toList h
  injection this
section
variable {P : Program} {w : World} {K : PySem.W.Frag} {mg : Str → Option Value} {base : Heap} {C CE : Addr}
def spLIs : Sp := fun vs H Q _ => ∃ z : Str, vs = [.str z] ∧ z.length ≤ 300 ∧ ∀ H', Same H H' → Q (.bl (canL (tl z))) H'
theorem scLIs : FnScope ["_law_word", "_law_sign"] ["_law_word"] (defScope sLIs) := ⟨rfl, rfl, rfl, by decide +kernel, rfl, by decide +kernel, by decide +kernel⟩
theorem d_lis (T : K13V K mg C CE) : DefG P w K mg base 1 "_law_is_digits" ["_law_word"] spLIs := by
  refine T.tLIs.ok scLIs (fun vs H Q E h => ?_) (fun f cdv A out s H vs Q E gd hr h => ?_)
  · obtain ⟨z, rfl, _⟩ := h
    rfl
  · obtain ⟨z, rfl, hz, q⟩ := h
    refine ⟨_, (pss_cons (ps_if (PW.pt (pw_or (pt_cmpR op_eq (pv 0) pe_str (nomark _)) (pw_or1 (PW.pt (pw_and (pt_cmpR op_eq (pe_ix ix_str (pv 0) pe_int (fun _ _ => rfl)) pe_str (nomark _)) (pw_and1 (pt_cmpR op_ne (pv 0) pe_str (nomark _)))))))) (pss_one (ps_ret pe_bl)) pss_nil)
  (pss_one (ps_ret (pe_callB (cr_all rfl) (by rfl) T.b_all (by decide +kernel) (pa_cons (pe_lc (own := [("_law_sign", 1)]) (g := (gName 1)) (by rfl) scLIs.nd (pi_str (pv 0)) (blkOk_by (own := [("_law_sign", 1)]) (N := ["_law_word", "_law_sign"]) (sc := defScope sLIs) (by decide +kernel)) (fun _ _ _ _ _ => (pg_name (i := 1) scLIs.nd rfl (Or.inl rfl))) (fun _ _ _ _ _ => pts_nil) (fun _ _ _ _ _ => (pe_cmpR op_in_sign (pv 1) pe_str (by rfl)))) pa_nil))))), ?_⟩
    have fin : ∀ {H' : Hp}, Same H H' → canL (tl z) = false → Q (.bl false) H' := fun s e => by
      have := q _ s
      rw [e] at this
      exact this
    have z0 : z.length ≤ sizeLine := Nat.le_trans hz (by decide)
    have e0 : tl ("0" : Str) = [48] := by decide +kernel
    refine ⟨_, rfl, rfl, _, rfl, ?_⟩
    by_cases h0 : z = Str.empty
    · rw [decide_eq_true (show V.str z = V.str "" by rw [h0]; rfl)]
      exact iteT (iteT (fin (Same.refl _) (by rw [h0]; rfl)))
    rw [decide_eq_false (show ¬ V.str z = V.str "" from fun e => h0 (by injection e))]
    refine iteF ?_
    have ne : tl z ≠ [] := fun e => h0 (ext_tl (by rw [e]; rfl))
    obtain ⟨c, r, ec⟩ : ∃ c r, tl z = c :: r := by
      cases e : tl z with
      | nil => exact (ne e).elim
      | cons c r => exact ⟨c, r, rfl⟩
    refine ⟨_, rfl, z, 0, c, rfl, rfl, z0, (by show atI z.cps.toList ((0 : Nat) : Int) = _; exact atI_nat (by rw [show z.cps.toList = c :: r from ec]; rfl)), rfl, _, rfl, ?_⟩
    have rest : canL (tl z) = (tl z).all dgt ∨ (canL (tl z) = false ∧ c = 48 ∧ z ≠ "0") := by
      by_cases k : c = 48 ∧ z ≠ "0"
      · refine .inr ⟨?_, k⟩
        unfold canL
        rw [if_pos (.inr ⟨by rw [ec, k.1]; rfl, fun e => k.2 (ext_tl (by rw [e, e0]))⟩)]
      · refine .inl ?_
        unfold canL
        rw [if_neg]
        rintro (e | ⟨e1, e2⟩)
        · exact ne e
        · refine k ⟨?_, fun e => e2 (by rw [e, e0])⟩
          rw [ec] at e1
          injection e1
    refine and_join (b := !decide (V.str z = V.str "0")) (fun Q k => ⟨_, rfl, rfl, _, rfl, k⟩) ?_
    rw [first_sign]
    rcases rest with rest | ⟨e1, e2, e3⟩
    case inr =>
      rw [decide_eq_true e2, decide_eq_false (show ¬ V.str z = V.str "0" from fun e => e3 (by injection e))]
      exact iteT (fin (Same.refl _) e1)
    by_cases k : (decide (c = 48) && !decide (V.str z = V.str "0")) = true
    · have k2 : c = 48 ∧ z ≠ "0" := by
        rw [Bool.and_eq_true, Bool.not_eq_true', decide_eq_true_iff, decide_eq_false_iff_not] at k
        exact ⟨k.1, fun e => k.2 (by rw [e])⟩
      rw [k]
      refine iteT (fin (Same.refl _) ?_)
      unfold canL
      rw [if_pos (.inr ⟨by rw [ec, k2.1]; rfl, fun e => k2.2 (ext_tl (by rw [e, e0]))⟩)]
    rw [Bool.eq_false_iff.mpr k]
    refine iteF ?_
    refine ⟨_, rfl, z, rfl, fun D nD => ?_⟩
    refine lc_it walk_str (fun i H' => Same H H' ∧ H' D = some (.lst (((z.cps.toList.take i).map fun c => decide (c ∈ ("0123456789" : Str).cps.toList)).map V.bl))) ⟨Same.new nD, upd_same⟩ (fun i H' _ k => trivial) (fun i x H' H'' hi k y => ?_) (fun H' k => ?_)
    · obtain ⟨rfl, c, hc, rfl⟩ := y
      obtain ⟨s1, hD⟩ := k
      refine ⟨rfl, yes_t ⟨_, rfl, c, _, rfl, rfl, ?_⟩⟩
      have hl : z.cps.toList[i]? = some c := by rw [Array.getElem?_toList]; exact hc
      refine ⟨_, hD, ?_, Same.put s1 nD, ?_⟩
      · rw [List.length_map, List.length_map]
        exact Nat.lt_of_le_of_lt (List.length_take_le ..) (Nat.lt_of_lt_of_le hi (Nat.le_trans hz (by decide)))
      · rw [upd_same, List.take_add_one, hl]
        simp
    · obtain ⟨s1, hD⟩ := k
      refine ⟨D, _, rfl, SqL.of hD, ?_⟩
      have e : (List.map (fun c => decide (c ∈ ("0123456789" : Str).cps.toList)) (z.cps.toList.take z.cps.size)).all id = canL (tl z) := by
        rw [rest, List.take_of_length_le (by simp), List.all_map]
        rfl
      rw [e]
      exact q _ s1
/-! ### _law_read -/
def optP : Option (Int × Int) → Hp → (V → Hp → Prop) → Prop := fun f H Q => match f with
  | none => Q .non H
  | some f => ∀ p, H p = none → Q (.ref p) (upd H p (.tup [.int f.1, .int f.2]))
def spLRd : Sp := fun vs H Q _ => ∃ z : Str, vs = [.str z] ∧ z.length ≤ 300 ∧ ∀ H', Same H H' → optP (rdS z) H' Q
theorem scLRd : FnScope ["_law_row", "_law_bare", "_law_words", "_law_word", "_law_top", "_law_bottom", "_law_one", "_law_other"] ["_law_row"] (defScope sLRd) := ⟨rfl, rfl, rfl, by decide +kernel, rfl, by decide +kernel, by decide +kernel⟩
theorem d_lrd (T : K13V K mg C CE) : DefG P w K mg base 2 "_law_read" ["_law_row"] spLRd := by
  have DIs := d_lis (P := P) (w := w) (base := base) T
  refine T.tLRd.ok scLRd (fun vs H Q E h => ?_) (fun f cdv A out s H vs Q E gd hr h => ?_)
  · obtain ⟨z, rfl, _⟩ := h
    rfl
  · obtain ⟨z, rfl, hz, q⟩ := h
    refine ⟨_, (pss_cons (ps_set (i := 1) scLRd.nd rfl (Or.inl rfl) (pe_ifExp (pt_cmpR op_eq (pe_slice sl_str (pv 0) po_none (po_some pe_int)) pe_str (nomark _)) (pe_slice sl_str (pv 0) (po_some pe_int) po_none) (pv 0)))
  (pss_cons (ps_set (i := 2) scLRd.nd rfl (Or.inl rfl) (pe_bm PySem.F.plainAttrs_str PySem.F.slot_str_split PySem.F.type_str_split mt_split (pv 1) (pa_cons pe_str pa_nil)))
  (pss_cons (ps_if (PW.pt (pw_or (pt_cmpR op_gt (pe_callB call_len (by rfl) T.b_len (by decide +kernel) (pa_cons (pv 2) pa_nil)) pe_int (nomark _)) (pw_or (pt_not (pt_val (pe_callB (cr_all rfl) (by rfl) T.b_all (by decide +kernel) (pa_cons (pe_lc (own := [("_law_word", 3)]) (g := (gName 3)) (by rfl) scLRd.nd (pi_list (pv 2)) (blkOk_by (own := [("_law_word", 3)]) (N := ["_law_row", "_law_bare", "_law_words", "_law_word", "_law_top", "_law_bottom", "_law_one", "_law_other"]) (sc := defScope sLRd) (by decide +kernel)) (fun _ _ _ _ _ => (pg_name (i := 3) scLRd.nd rfl (Or.inl rfl))) (fun _ _ _ _ _ => pts_nil) (fun _ _ _ _ _ => (pe_callD DIs gd (hr.mono (by decide)) (pa_cons (pv 3) pa_nil)))) pa_nil)))) (pw_or1 (pt_cmpR op_eq (pv 0) pe_str (nomark _)))))) (pss_one (ps_ret pe_non)) pss_nil)
  (pss_cons (ps_par (i := 4) (j := 5) (by rfl) scLRd.nd rfl rfl (by decide) rfl rfl (pa_cons (pe_callTy call_int_str (by rfl) T.b_int (by decide +kernel) (pa_cons (pe_ix ix_list (pv 2) pe_int (fun _ _ => rfl)) pa_nil)) (pa_cons (pe_ifExp (pt_cmpR op_eq (pe_callB call_len (by rfl) T.b_len (by decide +kernel) (pa_cons (pv 2) pa_nil)) pe_int (nomark _)) (pe_callTy call_int_str (by rfl) T.b_int (by decide +kernel) (pa_cons (pe_ix ix_list (pv 2) (pe_un un_neg pe_int) (fun _ _ => rfl)) pa_nil)) pe_int) pa_nil)) (by rfl))
  (pss_cons (ps_if (PW.pt (pw_and (pt_cmpR op_eq (pe_callB call_len (by rfl) T.b_len (by decide +kernel) (pa_cons (pv 2) pa_nil)) pe_int (nomark _)) (pw_and1 (pt_cmpR op_lt (pv 5) pe_int (nomark _))))) (pss_one (ps_ret pe_non)) pss_nil)
  (pss_cons (ps_par (i := 6) (j := 7) (by rfl) scLRd.nd rfl rfl (by decide) rfl rfl (pa_cons (pv 4) (pa_cons (pv 5) pa_nil)) (by rfl))
  (pss_cons (ps_while PassesOwn.never (pt_cmpR op_gt (pv 7) pe_int (nomark _)) (pss_one (ps_par (i := 6) (j := 7) (by rfl) scLRd.nd rfl rfl (by decide) rfl rfl (pa_cons (pv 7) (pa_cons (pe_op op_mod (pe_callTy call_int1 (by rfl) T.b_int (by decide +kernel) (pa_cons (pv 6) pa_nil)) (pv 7)) pa_nil)) (by rfl))))
  (pss_cons (ps_if (PW.pt (pw_and (pt_cmpR op_ne (pv 6) pe_int (nomark _)) (pw_and1 (pt_cmpR op_eq (pe_callB call_len (by rfl) T.b_len (by decide +kernel) (pa_cons (pv 2) pa_nil)) pe_int (nomark _))))) (pss_one (ps_ret pe_non)) pss_nil)
  (pss_one (ps_ret (pe_tup (pa_cons (pe_ifExp (pt_cmpR op_eq (pv 1) (pv 0) (nomark _)) (pv 4) (pe_un un_neg (pv 4))) (pa_cons (pv 5) pa_nil))))))))))))), ?_⟩
    have z0 : z.length ≤ sizeLine := Nat.le_trans hz (by decide)
    refine ⟨_, rfl, _, rfl, z, rfl, z0, rfl, _, rfl, ?_⟩
    obtain ⟨b, eb, hb⟩ : ∃ b : Str, tl b = bareL (tl z) ∧ b = (if decide (V.str (cutS z none (some 1)) = V.str "-") = true then cutS z (some 1) none else z) := ⟨_, bare_if z, rfl⟩
    refine ifExp_v (v1 := .str (cutS z (some 1) none)) (v2 := .str z) (fun Q k => ⟨_, rfl, _, rfl, z, rfl, z0, k⟩) (fun Q k => ⟨_, rfl, k⟩) ?_
    rw [show (if decide (V.str (cutS z none (some 1)) = V.str "-") = true then V.str (cutS z (some 1) none) else V.str z) = V.str b from by rw [hb]; split <;> rfl]
    have lb : b.length ≤ 300 := by
      have := bare_len (tl z)
      rw [← eb, ← len_tl, ← len_tl] at this
      omega
    clear hb
    have er : rdS z = lrd (tl z) ((Txt.split b "/").map tl) := (rdS_prd z).trans (prd_lrd (Nat.le_trans hz (by decide)) eb)
    have js := PySem.StrLaws.join_split b "/"
    have ns := split_some b
    refine ⟨_, rfl, rfl, b, "/", rfl, rfl, by decide +kernel, Nat.le_trans (show b.length + 2 ≤ 302 by omega) (by decide), fun p np => ?_⟩
    generalize Txt.split b "/" = W at er js ns
    obtain ⟨H1, e1, s1, j1⟩ := mko np (.lst (W.map V.str))
    rw [e1]
    have fin : ∀ {H' : Hp}, Same H H' → rdS z = none → Q .non H' := fun s e => by
      have := q _ s
      rw [e] at this
      exact this
    refine ⟨_, rfl, _, W.length, rfl, .inl ⟨_, SqL.of j1, by rw [List.length_map]⟩, ?_⟩
    refine ⟨_, _, rfl, rfl, _, rfl, ?_⟩
    by_cases h2 : 2 < W.length
    · rw [decide_eq_true (show (2 : Int) < (W.length : Int) by omega)]
      refine iteT (iteT (fin s1 ?_))
      rw [er]
      unfold lrd
      rw [if_neg (fun k => by
        have := k.1
        rw [List.length_map] at this
        omega)]
    rw [decide_eq_false (show ¬ (2 : Int) < (W.length : Int) by omega)]
    refine iteF ?_
    -- the words
    obtain ⟨a, W', eW⟩ : ∃ a W', W = a :: W' := by
      cases W with
      | nil => exact (ns rfl).elim
      | cons a W' => exact ⟨a, W', rfl⟩
    have wl : ∀ x ∈ W, x.length ≤ 300 := by
      rw [eW] at js h2 ⊢
      cases W' with
      | nil =>
        intro x hx
        rw [List.mem_singleton.mp hx, show a = b from js]
        exact lb
      | cons c W'' =>
        cases W'' with
        | nil =>
          have js : a ++ "/" ++ c = b := js
          have l := congrArg Str.length js
          rw [strLen_append, strLen_append] at l
          intro x hx
          rcases List.mem_cons.mp hx with rfl | hx
          · omega
          · rw [List.mem_singleton.mp hx]
            omega
        | cons _ _ => simp at h2
    refine ⟨_, rfl, p, rfl, ⟨_, SqL.of j1⟩, fun D nD => ?_⟩
    refine lc_it (walk_list (K := K) (a := p) (xs := W.map V.str)) (fun i H' => Same H1 H' ∧ H' D = some (.lst (((W.take i).map fun x => canL (tl x)).map V.bl))) ⟨Same.new nD, upd_same⟩ (fun i H' _ k => SqL.of (k.1 _ _ j1)) (fun i v H' H'' hi k yy => ?_) (fun H2 k => ?_)
    · obtain ⟨sd, hD⟩ := k
      obtain ⟨rfl, hv⟩ := yy
      rw [List.getElem?_map] at hv
      cases ex : W[i]? with
      | none => rw [ex] at hv; cases hv
      | some u =>
        rw [ex] at hv
        injection hv with hv
        subst hv
        refine ⟨rfl, yes_t ⟨_, rfl, u, rfl, wl u (List.mem_of_getElem? ex), fun H3 s3 => ⟨_, s3 _ _ hD, ?_, Same.put (sd.trans s3) nD, ?_⟩⟩⟩
        · rw [List.length_map, List.length_map, List.length_take]
          exact Nat.lt_of_le_of_lt (show _ ≤ 2 by omega) (by decide)
        · rw [upd_same, List.take_add_one, ex]
          simp
    obtain ⟨s2, hD⟩ := k
    rw [List.length_map, List.take_length] at hD
    refine ⟨D, _, rfl, SqL.of hD, ?_⟩
    have eall : (W.map fun x => canL (tl x)).all id = (W.map tl).all canL := by
      rw [List.all_map, List.all_map]
      rfl
    rw [eall]
    refine ⟨_, rfl, ?_⟩
    have s02 := s1.trans s2
    by_cases hd : (W.map tl).all canL = true
    case neg =>
      rw [Bool.eq_false_iff.mpr hd]
      refine iteT (iteT (fin s02 ?_))
      rw [er]
      unfold lrd
      rw [if_neg fun k => hd k.2.1]
    rw [hd]
    refine iteF ?_
    have e48 : tl ("-0" : Str) = [45, 48] := by decide +kernel
    refine ⟨_, rfl, rfl, _, rfl, ?_⟩
    by_cases hm : z = "-0"
    · rw [decide_eq_true (show V.str z = V.str "-0" by rw [hm])]
      refine iteT (fin s02 ?_)
      rw [er]
      unfold lrd
      rw [if_neg fun k => k.2.2 (by rw [hm, e48])]
    rw [decide_eq_false (show ¬ V.str z = V.str "-0" from fun e => hm (by injection e))]
    refine iteF ?_
    have nz : tl z ≠ [45, 48] := fun e => hm (ext_tl (by rw [e, e48]))
    -- both numbers
    have all : ∀ x ∈ W, canL (tl x) = true := fun x hx => List.all_eq_true.mp hd _ (List.mem_map_of_mem hx)
    have txt : ∀ x ∈ W, PySem.intText? x = some ((NumText.digitsVal (tl x) : Nat) : Int) := fun x hx =>
      PySem.intText_digits (canL_dig (all x hx)) (canL_ne (all x hx)) (Nat.le_trans (wl x hx) (by decide))
    obtain ⟨Bn, hB1, hB2, er2⟩ : ∃ Bn : Nat, (W.length = 2 → ∃ c, c ∈ W ∧ atI (W.map V.str) (-1) = some (.str c) ∧ Bn = NumText.digitsVal (tl c)) ∧ (W.length ≠ 2 → Bn = 1) ∧
        rdS z = if W.length = 2 ∧ (Bn < 2 ∨ Nat.gcd (NumText.digitsVal (tl a)) Bn ≠ 1) then none else some (if bareL (tl z) = tl z then (NumText.digitsVal (tl a) : Int) else -(NumText.digitsVal (tl a) : Int), (Bn : Int)) := by
      rw [er]
      unfold lrd
      rw [if_pos ⟨by rw [List.length_map]; omega, hd, nz⟩]
      rw [eW] at h2 ⊢
      cases W' with
      | nil =>
        refine ⟨1, (fun k => nomatch k), (fun _ => rfl), ?_⟩
        simp
      | cons c W'' =>
        cases W'' with
        | nil =>
          refine ⟨NumText.digitsVal (tl c), fun _ => ⟨c, List.mem_cons_of_mem _ (List.mem_singleton.mpr rfl), rfl, rfl⟩, fun k => (k rfl).elim, ?_⟩
          have e1 : (([a, c] : List Str).map tl).length = 2 := rfl
          have e2 : (([a, c] : List Str).map tl).headD [] = tl a := rfl
          have e3 : (([a, c] : List Str).map tl).getLastD [] = tl c := rfl
          have e4 : ([a, c] : List Str).length = 2 := rfl
          rw [e1, e2, e3, e4, if_pos rfl]
          have g : Int.gcd (NumText.digitsVal (tl a) : Int) (NumText.digitsVal (tl c) : Int) = Nat.gcd (NumText.digitsVal (tl a)) (NumText.digitsVal (tl c)) := rfl
          dsimp only
          rw [g]
          by_cases k : NumText.digitsVal (tl c) < 2 ∨ Nat.gcd (NumText.digitsVal (tl a)) (NumText.digitsVal (tl c)) ≠ 1
          · have k' : (NumText.digitsVal (tl c) : Int) < 2 ∨ Nat.gcd (NumText.digitsVal (tl a)) (NumText.digitsVal (tl c)) ≠ 1 := k.imp (fun h => by omega) id
            rw [if_pos ⟨rfl, k'⟩, if_pos ⟨rfl, k⟩]
          · have k' : ¬ ((NumText.digitsVal (tl c) : Int) < 2 ∨ Nat.gcd (NumText.digitsVal (tl a)) (NumText.digitsVal (tl c)) ≠ 1) := fun h => k (h.imp (fun h => by omega) id)
            rw [if_neg (fun h : _ ∧ _ => k' h.2), if_neg (fun h : _ ∧ _ => k h.2)]
        | cons _ _ => simp at h2
    have ma : a ∈ W := by rw [eW]; exact List.mem_cons_self ..
    have hg0 : (W.map V.str)[0]? = some (.str a) := by rw [eW]; rfl
    generalize hT : NumText.digitsVal (tl a) = Tn at er2
    have j2 := s2 _ _ j1
    refine ⟨_, rfl, p, _, 0, .str a, rfl, rfl, SqL.of j2, (by show atI _ ((0 : Nat) : Int) = _; exact atI_nat hg0), a, _, rfl, txt a ma, Nat.le_trans (wl a ma) (by decide), ?_⟩
    rw [hT]
    refine ⟨_, rfl, _, W.length, rfl, .inl ⟨_, SqL.of j2, by rw [List.length_map]⟩, rfl, _, rfl, ?_⟩
    refine ifExp_h (W := fun v H3 => H3 = H2 ∧ v = .int (Bn : Int)) (fun c Q k => ?_) (fun c Q k => ?_) (fun v H3 kk => ?_)
    · have l2 : W.length = 2 := by
        have := of_decide_eq_true c
        injection this
        omega
      obtain ⟨c', mc, ac, ec⟩ := hB1 l2
      exact ⟨_, rfl, _, rfl, p, _, -1, .str c', rfl, rfl, SqL.of j2, ac, c', _, rfl, txt c' mc, Nat.le_trans (wl c' mc) (by decide), k _ _ ⟨rfl, congrArg (fun n : Nat => V.int (n : Int)) ec.symm⟩⟩
    · have l2 : W.length ≠ 2 := fun z => of_decide_eq_false c (by rw [z]; rfl)
      exact k _ _ ⟨rfl, congrArg (fun n : Nat => V.int (n : Int)) (hB2 l2).symm⟩
    obtain ⟨rfl, rfl⟩ := kk
    refine ⟨_, _, rfl, ?_⟩
    -- a bottom below 2
    refine ⟨_, rfl, _, W.length, rfl, .inl ⟨_, SqL.of j2, by rw [List.length_map]⟩, rfl, _, rfl, ?_⟩
    refine and_join (b := decide ((Bn : Int) < 2)) (fun Q k => ⟨_, rfl, _, _, rfl, rfl, _, rfl, k⟩) ?_
    have dl : decide (V.int (W.length : Int) = V.int 2) = decide (W.length = 2) := decide_eq_decide.mpr ⟨fun h => by injection h; omega, fun h => by rw [h]; rfl⟩
    have db : decide ((Bn : Int) < 2) = decide (Bn < 2) := decide_eq_decide.mpr (by omega)
    rw [dl, db]
    by_cases hb2 : W.length = 2 ∧ Bn < 2
    · rw [decide_eq_true hb2.1, decide_eq_true hb2.2]
      refine iteT (fin s02 ?_)
      rw [er2, if_pos ⟨hb2.1, .inl hb2.2⟩]
    rw [show (decide (W.length = 2) && decide (Bn < 2)) = false from by rw [← Bool.decide_and]; exact decide_eq_false hb2]
    refine iteF ?_
    -- the divisor
    refine ⟨_, rfl, _, rfl, _, _, rfl, ?_⟩
    refine ⟨fun m σ H' => H' = H3 ∧ ∃ (x : Nat) (o3 : Option V), σ = [some (.str z), some (.str b), some (.ref p), o3, some (.int (Tn : Int)), some (.int (Bn : Int)), some (.int (x : Int)), some (.int (m : Int))] ∧ Nat.gcd x m = Nat.gcd Tn Bn, ⟨Bn, rfl, Tn, none, rfl, rfl⟩, ?_⟩
    rintro m σ H' ⟨rfl, x, o3, rfl, eg⟩
    refine ⟨_, rfl, _, _, rfl, rfl, _, rfl, ?_⟩
    by_cases hm0 : 0 < m
    · rw [decide_eq_true (show (0 : Int) < (m : Int) by omega)]
      refine iteT ⟨fun σ1 H1 => H1 = H' ∧ σ1 = [some (.str z), some (.str b), some (.ref p), o3, some (.int (Tn : Int)), some (.int (Bn : Int)), some (.int (m : Int)), some (.int ((x % m : Nat) : Int))], ?_, ?_⟩
      · rintro σ1 H1' ⟨rfl, rfl⟩
        refine ⟨x % m, Nat.mod_lt _ hm0, rfl, m, o3, rfl, ?_⟩
        rw [← eg, Nat.gcd_comm m, ← Nat.gcd_rec, Nat.gcd_comm]
      · exact ⟨_, rfl, _, rfl, .inl ⟨_, rfl, _, rfl, _, _, rfl, rfl, (by show (0 : Int) < (m : Int); omega), _, _, rfl, rfl, rfl⟩⟩
    have m0 : m = 0 := by omega
    subst m0
    rw [Nat.gcd_zero_right] at eg
    rw [decide_eq_false (show ¬ (0 : Int) < ((0 : Nat) : Int) by decide)]
    refine iteF ?_
    refine ⟨_, rfl, rfl, _, rfl, ?_⟩
    refine and_join (b := decide (V.int (W.length : Int) = V.int 2)) (fun Q k => ⟨_, rfl, _, W.length, rfl, .inl ⟨_, SqL.of j2, by rw [List.length_map]⟩, rfl, _, rfl, k⟩) ?_
    rw [dl]
    have dx : (!decide (V.int (x : Int) = V.int 1)) = decide (x ≠ 1) := by
      rw [show decide (V.int (x : Int) = V.int 1) = decide (x = 1) from decide_eq_decide.mpr ⟨fun h => by injection h; omega, fun h => by rw [h]; rfl⟩]
      exact (decide_not).symm
    rw [dx, ← Bool.decide_and]
    by_cases hx : x ≠ 1 ∧ W.length = 2
    · rw [decide_eq_true hx]
      refine iteT (fin s02 ?_)
      rw [er2, if_pos ⟨hx.2, .inr (by rw [← eg]; exact hx.1)⟩]
    rw [decide_eq_false hx]
    refine iteF ?_
    rw [if_neg (show ¬ (W.length = 2 ∧ (Bn < 2 ∨ Nat.gcd Tn Bn ≠ 1)) from fun k => k.2.elim (fun h => hb2 ⟨k.1, h⟩) fun h => hx ⟨by rw [eg]; exact h, k.1⟩)] at er2
    have q2 := q _ s02
    rw [er2] at q2
    refine ⟨_, rfl, _, rfl, rfl, _, rfl, ?_⟩
    refine ifExp_v (v1 := .int (Tn : Int)) (v2 := .int (-(Tn : Int))) (fun Q k => ⟨_, rfl, k⟩) (fun Q k => ⟨_, rfl, _, rfl, k⟩) ?_
    have db2 : decide (V.str b = V.str z) = decide (bareL (tl z) = tl z) := decide_eq_decide.mpr ⟨fun h => by injection h with h; rw [← eb, h], fun h => by rw [show b = z from ext_tl (eb.trans h)]⟩
    rw [db2]
    refine ⟨_, rfl, by show 2 ≤ sizeLine; decide, fun t nt => ?_⟩
    have q3 := q2 t nt
    by_cases hbz : bareL (tl z) = tl z
    · rw [decide_eq_true hbz, if_pos rfl]
      rw [if_pos hbz] at q3
      exact q3
    · rw [decide_eq_false hbz, if_neg Bool.false_ne_true]
      rw [if_neg hbz] at q3
      exact q3
end
end SP
/-! k13: what is told. -/
namespace SP
open PySem PySem.Spec PyProof.Rows L2 TL
abbrev sLTo : Stmt := top 25
abbrev sLNm : Stmt := top 26
abbrev sLRr : Stmt := top 27
structure K13W (K : PySem.W.Frag) (mg : Str → Option Value) (C CE CP : Addr) : Prop extends K13V K mg C CE where
  tLTo : Top K mg "_law_told" sLTo ["_law_thing"]
  tLNm : Top K mg "_law_named" sLNm ["_law_thing"]
  tLRr : Top K mg "_law_is_right" sLRr ["_law_row"]
  bot : PropT K C "bottom" "Amount.bottom" sMBot
  gE : mg "InvalidText" = some (.ref CE)
  gP : mg "PipeError" = some (.ref CP)
  xf : XfC K CE
  ec : EcC K CE
  nv : PySem.W.findIn K (.ref CE) (Str.ofString "line") = some none
  kP : PySem.W.kitOne K (.ref CE) (.ref CP) = some true
  own : PySem.W.exmOne K (.ref CE) (.ref CE) = some true
  b_repr : mg "repr" = none


theorem takesN {X : Cx} : Takes X (fun _ _ _ _ => False) := fun _ _ ⟨_, _, _, _, _, _, _, _, _, _, _, _, _, _, _, _, z⟩ => z.elim
theorem pe_botK {X : Cx} {C : Addr} {e : Expr} {te : TE} {pos : Pos} (he : PE X e te) (T : AmTxt X.K X.mg C) (B : PropT X.K C "bottom" "Amount.bottom" sMBot) (hr : Room 2 X.A) (hab : attributeBase e "bottom" X.env (eval e X.env) = eval e X.env := by rfl) : PE X (.Attribute e "bottom" pos) (tProp C (spBot C) [] E0 te) :=
  let ⟨_, _, _, hp, F, hb⟩ := B.ex
  pe_prop he T.cl hp (ok_Bot F T) hr hb .nil pass0 hab
/-- what is told of a text -/
def tdV (z : Str) : Option (Int × Int) → List V
  | some f => [.str "amount", .bl true, .int f.1, .int f.2, .str z]
  | none => [.str "text", .int 1, .bl true]
theorem rdS_bd {z : Str} {f : Int × Int} (h : rdS z = some f) (n : z.length ≤ 300) : f.1.natAbs < 2 ^ 1900 ∧ f.2.natAbs < 2 ^ 1900 ∧ sTxt f.1 f.2 = z := by
  unfold rdS at h
  split at h
  · rename_i g hg
    split at h
    · rename_i e
      injection h with h
      subst h
      obtain ⟨⟨b1, b2⟩, _⟩ := amR_bd hg n
      exact ⟨Nat.lt_of_lt_of_le b1 (Nat.pow_le_pow_right (by decide) (by decide)), Nat.lt_of_lt_of_le b2 (Nat.pow_le_pow_right (by decide) (by decide)), e⟩
    · cases h
  · cases h
section
variable {P : Program} {w : World} {K : PySem.W.Frag} {mg : Str → Option Value} {base : Heap} {C CE CP : Addr}
def spLTo (K : PySem.W.Frag) : Sp := fun vs H Q _ => ∃ v : V, vs = [v] ∧ ((∃ z, v = .str z ∧ z.length ≤ 300 ∧ ∀ l H', Same H H' → H l = none → H' l = some (.lst (tdV z (rdS z))) → Q (.ref l) H') ∨
  ∃ t, (∀ H', Same H H' → TyX K H' v t) ∧ PySem.W.kitOne K t (.type "str") = some false ∧ ∀ l H', Same H H' → H l = none → H' l = some (.lst (tdV Str.empty none)) → Q (.ref l) H')
theorem scLTo : FnScope ["_law_thing", "_law_told_here", "_law_found", "e"] ["_law_thing"] (defScope sLTo) := ⟨rfl, rfl, rfl, by decide +kernel, rfl, by decide +kernel, by decide +kernel⟩
theorem scLNm : FnScope ["_law_thing", "_law_told_here", "_law_found", "e"] ["_law_thing"] (defScope sLNm) := ⟨rfl, rfl, rfl, by decide +kernel, rfl, by decide +kernel, by decide +kernel⟩

theorem d_lto (T : K13W K mg C CE CP) (R : ErrOk P w K mg base "InvalidText" CE (Str.ofString "line")) : DefG P w K mg base 8 "_law_told" ["_law_thing"] (spLTo K) := by
  obtain ⟨p, g, fd, sm, F, hb⟩ := T.rd
  refine T.tLTo.ok scLTo (fun vs H Q E h => ?_) (fun f cdv A out s H vs Q E gd hr h => ?_)
  · obtain ⟨v, rfl, _⟩ := h
    rfl
  · obtain ⟨v, rfl, h⟩ := h
    refine ⟨_, (pss_cons (ps_set (i := 1) scLTo.nd rfl (Or.inl rfl) (pe_lst (pa_cons pe_str (pa_cons pe_non pa_nil))))
  (pss_cons (ps_try_nm rfl rfl scLTo.nd takesN (fun W pn xe tk _ => (pss_cons (ps_set (i := 2) scLTo.nd rfl (Or.inl rfl) (pe_smethS (pe_glob (v := .ref C) (by rfl) T.gC rfl) T.cr sm (ok_Rd F T.toK13U R) (hr.mono (by decide)) hb (fun σ => passAt tk σ) F.kp (pa_cons (pv 0) pa_nil)))
  (pss_one (ps_set (i := 1) scLTo.nd rfl (Or.inl rfl) (pe_lst (pa_cons pe_str (pa_cons (pe_callB (id := "isinstance") (r := rIsi K) (by exact call_isi) (by rfl) T.b_isinstance (by decide +kernel) (pa_cons (pv 2) (pa_cons (pe_glob (v := .ref C) (by rfl) T.gC rfl) pa_nil))) (pa_cons (pe_top (pv 2) T.toAmTxt T.cmp (hr.mono (by decide))) (pa_cons (pe_botK (pv 2) T.toAmTxt T.bot (hr.mono (by decide))) (pa_cons (pe_callTy (T := "str") (r := rAmS C sTxt) (by exact call_strAm T.toAmTxt T.cmp (hr.mono (by decide))) (by rfl) T.b_str (by decide +kernel) (pa_cons (pv 2) pa_nil)) pa_nil)))))))))) (.cons (i := 3) rfl rfl ⟨by rfl, by decide, .inl T.gE⟩ (fun a oe cls d pn hz hf => (pss_one (ps_set (i := 1) scLTo.nd rfl (Or.inl rfl) (pe_lst (pa_cons pe_str (pa_cons (pe_xf T.xf T.nv hz hf (pv 3)) (pa_cons (pe_callB (id := "isinstance") (r := rIsX K CE a cls d) (by exact call_isX T.ec hz hf) (by rfl) T.b_isinstance (by decide +kernel) (pa_cons (pv 3) (pa_cons (pe_glob (v := .ref CP) (by rfl) T.gP rfl) pa_nil))) pa_nil))))))) .nil))
  (pss_one (ps_ret (pv 1))))), ?_⟩
    refine ⟨by show 2 ≤ sizeLine; decide, fun l0 n0 => ?_⟩
    obtain ⟨H1, e1, s1, j1⟩ := mko n0 (.lst [.str "text", .non])
    rw [e1]
    rcases h with ⟨z, rfl, hz, q⟩ | ⟨t, ty, kt, q⟩
    · refine ⟨rfl, _, rfl, .str z, rfl, .inl ⟨z, rfl, hz, fun fr er a H2 am s2 => ?_, fun er H2 s2 d nd => ?_⟩⟩
      · obtain ⟨g1, g2, ez⟩ := rdS_bd er hz
        obtain ⟨_, dx, plx, ex, hx⟩ := id am
        have s02 := s1.trans s2
        refine ⟨_, rfl, .ref a, .ref C, .ref C, .ref C, true, rfl, .own C, .base (T.toAmTxt.ty am), kSelf, _, rfl, a, dx, _, rfl, ex, a, fr.1, fr.2, rfl, am, _, rfl, a, dx, _, rfl, ex, a, fr.1, fr.2, rfl, am, _, rfl, a, fr.1, fr.2, rfl, am, g1, g2, (by show 5 ≤ sizeLine; decide), fun l nl => ?_⟩
        rw [ez]
        refine ⟨_, rfl, q l _ (s02.trans (Same.new nl)) (s02.free nl) ?_⟩
        rw [er]
        exact upd_same
      · have s02 := s1.trans s2
        have s03 : Same H (upd H2 d (.xd [(Str.ofString "line", .int 1)])) := s02.trans (Same.new nd)
        refine ⟨true, T.own, fun _ a na => ?_, fun z => nomatch z⟩
        refine ⟨_, rfl, rfl, rfl, d, _, .int 1, rfl, upd_same, by rfl, _, rfl, rfl, _, _, true, rfl, ⟨d, _, rfl, upd_same⟩, fun _ r => r, T.kP, (by show 3 ≤ sizeLine; decide), fun l nl => ?_⟩
        refine ⟨_, rfl, q l _ (s03.trans (Same.new nl)) (s03.free nl) ?_⟩
        rw [er]
        exact upd_same
    · refine ⟨rfl, _, rfl, v, rfl, .inr ⟨t, ty _ s1, kt, fun d nd => ?_⟩⟩
      have s03 : Same H (upd H1 d (.xd [(Str.ofString "line", .int 1)])) := s1.trans (Same.new nd)
      refine ⟨true, T.own, fun _ a na => ?_, fun z => nomatch z⟩
      refine ⟨_, rfl, rfl, rfl, d, _, .int 1, rfl, upd_same, by rfl, _, rfl, rfl, _, _, true, rfl, ⟨d, _, rfl, upd_same⟩, fun _ r => r, T.kP, (by show 3 ≤ sizeLine; decide), fun l nl => ?_⟩
      exact ⟨_, rfl, q l _ (s03.trans (Same.new nl)) (s03.free nl) upd_same⟩
theorem d_lnm (T : K13W K mg C CE CP) (R : ErrOk P w K mg base "InvalidText" CE (Str.ofString "line")) : DefG P w K mg base 8 "_law_named" ["_law_thing"] (spLTo K) := by
  obtain ⟨p, g, fd, sm, F, hb⟩ := T.rd
  have kb : KBn K fd ["text"] 0 ["text"] (fun us ws => us ++ ws) (fun vs zs => vs ++ zs) := fun_kbn F fun _ _ _ _ _ _ us ws h1 h2 => match us, ws, h1, h2 with | [], [_], _, _ => rfl
  refine T.tLNm.ok scLNm (fun vs H Q E h => ?_) (fun f cdv A out s H vs Q E gd hr h => ?_)
  · obtain ⟨v, rfl, _⟩ := h
    rfl
  · obtain ⟨v, rfl, h⟩ := h
    refine ⟨_, (pss_cons (ps_set (i := 1) scLNm.nd rfl (Or.inl rfl) (pe_lst (pa_cons pe_str (pa_cons pe_non pa_nil))))
  (pss_cons (ps_try_nm rfl rfl scLNm.nd takesN (fun W pn xe tk _ => (pss_cons (ps_set (i := 2) scLNm.nd rfl (Or.inl rfl) (pe_smethKS (pe_glob (v := .ref C) (by rfl) T.gC rfl) T.cr sm (ok_Rd F T.toK13U R) (hr.mono (by decide)) kb (fun σ => passAt tk σ) F.kp (pk_cons (pv 0) pk_nil)))
  (pss_one (ps_set (i := 1) scLNm.nd rfl (Or.inl rfl) (pe_lst (pa_cons pe_str (pa_cons (pe_callB (id := "isinstance") (r := rIsi K) (by exact call_isi) (by rfl) T.b_isinstance (by decide +kernel) (pa_cons (pv 2) (pa_cons (pe_glob (v := .ref C) (by rfl) T.gC rfl) pa_nil))) (pa_cons (pe_top (pv 2) T.toAmTxt T.cmp (hr.mono (by decide))) (pa_cons (pe_botK (pv 2) T.toAmTxt T.bot (hr.mono (by decide))) (pa_cons (pe_callTy (T := "str") (r := rAmS C sTxt) (by exact call_strAm T.toAmTxt T.cmp (hr.mono (by decide))) (by rfl) T.b_str (by decide +kernel) (pa_cons (pv 2) pa_nil)) pa_nil)))))))))) (.cons (i := 3) rfl rfl ⟨by rfl, by decide, .inl T.gE⟩ (fun a oe cls d pn hz hf => (pss_one (ps_set (i := 1) scLNm.nd rfl (Or.inl rfl) (pe_lst (pa_cons pe_str (pa_cons (pe_xf T.xf T.nv hz hf (pv 3)) (pa_cons (pe_callB (id := "isinstance") (r := rIsX K CE a cls d) (by exact call_isX T.ec hz hf) (by rfl) T.b_isinstance (by decide +kernel) (pa_cons (pv 3) (pa_cons (pe_glob (v := .ref CP) (by rfl) T.gP rfl) pa_nil))) pa_nil))))))) .nil))
  (pss_one (ps_ret (pv 1))))), ?_⟩
    refine ⟨by show 2 ≤ sizeLine; decide, fun l0 n0 => ?_⟩
    obtain ⟨H1, e1, s1, j1⟩ := mko n0 (.lst [.str "text", .non])
    rw [e1]
    rcases h with ⟨z, rfl, hz, q⟩ | ⟨t, ty, kt, q⟩
    · refine ⟨rfl, _, rfl, rfl, .str z, rfl, .inl ⟨z, rfl, hz, fun fr er a H2 am s2 => ?_, fun er H2 s2 d nd => ?_⟩⟩
      · obtain ⟨g1, g2, ez⟩ := rdS_bd er hz
        obtain ⟨_, dx, plx, ex, hx⟩ := id am
        have s02 := s1.trans s2
        refine ⟨_, rfl, .ref a, .ref C, .ref C, .ref C, true, rfl, .own C, .base (T.toAmTxt.ty am), kSelf, _, rfl, a, dx, _, rfl, ex, a, fr.1, fr.2, rfl, am, _, rfl, a, dx, _, rfl, ex, a, fr.1, fr.2, rfl, am, _, rfl, a, fr.1, fr.2, rfl, am, g1, g2, (by show 5 ≤ sizeLine; decide), fun l nl => ?_⟩
        rw [ez]
        refine ⟨_, rfl, q l _ (s02.trans (Same.new nl)) (s02.free nl) ?_⟩
        rw [er]
        exact upd_same
      · have s02 := s1.trans s2
        have s03 : Same H (upd H2 d (.xd [(Str.ofString "line", .int 1)])) := s02.trans (Same.new nd)
        refine ⟨true, T.own, fun _ a na => ?_, fun z => nomatch z⟩
        refine ⟨_, rfl, rfl, rfl, d, _, .int 1, rfl, upd_same, by rfl, _, rfl, rfl, _, _, true, rfl, ⟨d, _, rfl, upd_same⟩, fun _ r => r, T.kP, (by show 3 ≤ sizeLine; decide), fun l nl => ?_⟩
        refine ⟨_, rfl, q l _ (s03.trans (Same.new nl)) (s03.free nl) ?_⟩
        rw [er]
        exact upd_same
    · refine ⟨rfl, _, rfl, rfl, v, rfl, .inr ⟨t, ty _ s1, kt, fun d nd => ?_⟩⟩
      have s03 : Same H (upd H1 d (.xd [(Str.ofString "line", .int 1)])) := s1.trans (Same.new nd)
      refine ⟨true, T.own, fun _ a na => ?_, fun z => nomatch z⟩
      refine ⟨_, rfl, rfl, rfl, d, _, .int 1, rfl, upd_same, by rfl, _, rfl, rfl, _, _, true, rfl, ⟨d, _, rfl, upd_same⟩, fun _ r => r, T.kP, (by show 3 ≤ sizeLine; decide), fun l nl => ?_⟩
      exact ⟨_, rfl, q l _ (s03.trans (Same.new nl)) (s03.free nl) upd_same⟩
end
end SP
/-! repr of any plain data, a dict of plain things among them. -/
namespace SP
open PySem PySem.Spec PyProof.Rows L2
def scD : V → Option PyData
  | .non => some .none
  | .bl b => some (.bool b)
  | .int i => some (.int i)
  | .str x => some (.str x)
  | _ => none
def kD : Key → PyData
  | .inl i => .int i
  | .inr x => .str x
def dkD : List (Key × V) → Option (List (PyData × PyData))
  | [] => some []
  | p :: r => match scD p.2, dkD r with
    | some d, some ds => some ((kD p.1, d) :: ds)
    | _, _ => none
theorem reads_sc {h : Heap} {v : V} {u : Value} {d : PyData} (e : scD v = some d) (r : RelV v u) : Reads h u d [] := by
  cases v with
  | non => cases e; cases r; exact .none
  | bl b => cases e; cases r; exact .bool b
  | int i => cases e; obtain ⟨t, rfl⟩ := r; exact .int i t
  | str x => cases e; obtain ⟨t, rfl⟩ := r; exact .str x t
  | _ => cases e
theorem reads_key {h : Heap} {k : Key} {u : Value} (e : keyIs k u = true) : Reads h u (kD k) [] := by
  cases k with
  | inl i =>
    have e : Value.isInt i u = true := e
    cases u <;> simp [Value.isInt] at e
    subst e
    exact .int _ _
  | inr x =>
    have e : Value.isStrOf x u = true := e
    cases u <;> simp [Value.isStrOf] at e
    subst e
    exact .str _ _
theorem reads_dk {P : Program} {w : World} {h : Heap} : ∀ {es : List DictEntry} {vs : List (Key × Value)} {kvs : List (Key × V)} {ds : List (PyData × PyData)}, Pairs (mixKind P w) es vs → KV kvs vs → dkD kvs = some ds →
    ReadsAll h (es.map (·.key)) (ds.map (·.1)) [] ∧ ReadsAll h (es.map (·.val)) (ds.map (·.2)) []
  | [], _, _, ds, .nil, r, e => by
    cases r
    cases e
    exact ⟨.nil, .nil⟩
  | en :: es, _, _, ds, .cons h1 h2 hp, r, e => by
    cases r with
    | @cons p _ ps _ q r =>
      obtain ⟨q1, q2⟩ := q
      have e : (match scD p.2, dkD ps with | some d, some ds => some ((kD p.1, d) :: ds) | _, _ => none) = some ds := e
      split at e
      · rename_i d ds' e1 e2
        cases e
        obtain ⟨i1, i2⟩ := reads_dk (h := h) hp r e2
        rw [← q1] at h1
        exact ⟨.cons (reads_key h1) i1, .cons (reads_sc e1 (show L2.RelV p.2 en.val from h2 ▸ q2)) i2⟩
      · cases e
/-- plain data, or a dict of plain things -/
def Rp (K : PySem.W.Frag) (H : Hp) (x : V) (d : PyData) : Prop := (Dp K H x d ∧ d.hasDict = false) ∨ ∃ (a : Addr) (kvs : List (Key × V)) (ds : List (PyData × PyData)), x = .ref a ∧ H a = some (.dK kvs) ∧ dkD kvs = some ds ∧ d = .dict ds
def Shown (d : PyData) : Prop := d.showable = true ∧ d.depth ≤ 50 ∧ d.shown.length ≤ sizeLine ∧ PyData.strOk d.shown = true
def rReprW (K : PySem.W.Frag) : List V → Hp → VK → Prop := fun xs H Q => ∃ (x : V) (d : PyData), xs = [x] ∧ Rp K H x d ∧ Shown d ∧ Q (.str d.shown) H
theorem call_reprW {X : Cx} (gd : X.A.guards = some []) (hu : X.A.units + 64 < cLine) : CallR X (.builtin "repr") (rReprW X.K) := by
  intro pins s σ H xs us Q I r h
  obtain ⟨x, d, rfl, hD, ⟨hs, hdp, hz, _⟩, q⟩ := h
  obtain ⟨u, rfl, ru⟩ := vals1 r
  have back : ∀ (h' : Heap) (u : Tok) (tk : Nat), (∀ b o, s.heap.get? b = some o → h'.get? b = some o) → EP X pins σ Q (.str d.shown u) { s with heap := h', toks := tk } := fun h' u tk hk => ⟨.str d.shown, H, I.kept hk, ⟨u, rfl⟩, q⟩
  rcases hD with ⟨hD, hn⟩ | ⟨a, kvs, ds, rfl, ea, ed, rfl⟩
  · cases hD with
    | non => cases ru; exact PySem.P.repr_of_none (back s.heap _ _ fun _ _ e => e)
    | bl b => cases ru; exact PySem.P.repr_of_bool (back s.heap _ _ fun _ _ e => e)
    | int i =>
      obtain ⟨t, rfl⟩ := ru
      exact PySem.P.repr_of_int (by simpa [PyData.showable] using hs) (back s.heap _ _ fun _ _ e => e)
    | str z =>
      obtain ⟨t, rfl⟩ := ru
      exact PySem.P.repr_of_str (back s.heap _ _ fun _ _ e => e) hz
    | @lst a xs ds h1 h2 =>
      cases (show u = Value.ref a from ru)
      obtain ⟨as, rd⟩ := Dp.reads I _ _ _ (.lst h1 h2) rfl
      exact repr_of_reads' rd hs (PyData.noDict_hsm hn) gd (by omega) (fun _ _ e => e) back hz
    | @tup a xs ds h1 h2 =>
      cases (show u = Value.ref a from ru)
      obtain ⟨as, rd⟩ := Dp.reads I _ _ _ (.tup h1 h2) rfl
      exact repr_of_reads' rd hs (PyData.noDict_hsm hn) gd (by omega) (fun _ _ e => e) back hz
  · cases (show u = Value.ref a from ru)
    obtain ⟨z, hm, vs, rel, o, es, ep, e1, e2, e3, e4, e5, e6⟩ := dk_of I.hok ea
    obtain ⟨r1, r2⟩ := reads_dk (h := s.heap) e5 rel ed
    have rd : Reads s.heap (.ref a) (.dict ds) (a :: [] ++ []) := .dict e1 e2.1 e3 r1 r2
    refine repr_of_reads' rd hs (fun _ hmem => ?_) gd (by omega) (fun _ _ e => e) back hz
    simp at hmem
    rw [hmem] at hm
    simp at hm
theorem strOk_app {x y : Str} (hx : PyData.strOk x = true) (hy : PyData.strOk y = true) : PyData.strOk (x ++ y) = true := by
  show (x.cps ++ y.cps).all (· < 0x110000) = true
  have hx : x.cps.all (· < 0x110000) = true := hx
  have hy : y.cps.all (· < 0x110000) = true := hy
  simp only [Array.all_append, hx, hy, Bool.and_self]
theorem strOk_of (s : String) : PyData.strOk (PySem.Str.ofString s) = true := by
  rw [PySem.Str.ofString_eq_toList]
  show ((s.toList.map Char.toNat).toArray).all (· < 0x110000) = true
  rw [List.all_toArray, List.all_map, List.all_eq_true]
  intro c _
  refine decide_eq_true ?_
  have h := c.valid
  show c.val.toNat < 0x110000
  rcases h with h | h
  · have h : c.val.toNat < 0xd800 := h
    omega
  · have h : c.val.toNat < 0x110000 := h.2
    omega
end SP
/-! repr of any plain data, texts and numbers, too. -/
namespace SP
open PySem PySem.Spec PyProof.Rows L2
def rReprV (K : PySem.W.Frag) : List V → Hp → VK → Prop := fun xs H Q => ∃ (x : V) (d : PyData), xs = [x] ∧ Dp K H x d ∧ d.hasDict = false ∧ d.showable = true ∧ d.depth ≤ 50 ∧ d.shown.length ≤ sizeLine ∧ Q (.str d.shown) H
theorem call_reprV {X : Cx} (gd : X.A.guards = some []) (hu : X.A.units + 64 < cLine) : CallR X (.builtin "repr") (rReprV X.K) := by
  intro pins s σ H xs us Q I r h
  obtain ⟨x, d, rfl, hD, hn, hs, hdp, hz, q⟩ := h
  obtain ⟨u, rfl, ru⟩ := vals1 r
  have back : ∀ (h' : Heap) (u : Tok) (tk : Nat), (∀ b o, s.heap.get? b = some o → h'.get? b = some o) → EP X pins σ Q (.str d.shown u) { s with heap := h', toks := tk } := fun h' u tk hk => ⟨.str d.shown, H, I.kept hk, ⟨u, rfl⟩, q⟩
  cases hD with
  | non => cases ru; exact PySem.P.repr_of_none (back s.heap _ _ fun _ _ e => e)
  | bl b => cases ru; exact PySem.P.repr_of_bool (back s.heap _ _ fun _ _ e => e)
  | int i =>
    obtain ⟨t, rfl⟩ := ru
    exact PySem.P.repr_of_int (by simpa [PyData.showable] using hs) (back s.heap _ _ fun _ _ e => e)
  | str z =>
    obtain ⟨t, rfl⟩ := ru
    exact PySem.P.repr_of_str (back s.heap _ _ fun _ _ e => e) hz
  | @lst a xs ds h1 h2 =>
    cases (show u = Value.ref a from ru)
    obtain ⟨as, rd⟩ := Dp.reads I _ _ _ (.lst h1 h2) rfl
    exact repr_of_reads' rd hs (PyData.noDict_hsm hn) gd (by omega) (fun _ _ e => e) back hz
  | @tup a xs ds h1 h2 =>
    cases (show u = Value.ref a from ru)
    obtain ⟨as, rd⟩ := Dp.reads I _ _ _ (.tup h1 h2) rfl
    exact repr_of_reads' rd hs (PyData.noDict_hsm hn) gd (by omega) (fun _ _ e => e) back hz
/-- the same inside a comprehension -/
theorem call_reprVK {X : Cx} {K : PySem.W.Frag} (e : X.K = K) (gd : X.A.guards = some []) (hu : X.A.units + 64 < cLine) : CallR X (.builtin "repr") (rReprV K) := by
  subst e
  exact call_reprV gd hu
end SP
/-! Lengths of texts; the repr of lists of ints, bools and texts. -/
namespace SP
open PySem PySem.Spec PyProof.Rows L2
/-- all signs are signs -/
def Asc (x : Str) : Prop := ∀ c ∈ x.cps.toList, c < 16 ^ 8
theorem asc_of (s : String) : Asc (PySem.Str.ofString s) := by
  intro c hc
  rw [PySem.Str.ofString_eq_toList] at hc
  simp only [List.mem_map] at hc
  obtain ⟨a, _, rfl⟩ := hc
  have := a.val.toNat_lt
  show a.val.toNat < 16 ^ 8
  omega
theorem asc_app {x y : Str} (hx : Asc x) (hy : Asc y) : Asc (x ++ y) := by
  intro c hc
  have : c ∈ x.cps.toList ++ y.cps.toList := by
    rw [← Array.toList_append]
    exact hc
  exact (List.mem_append.mp this).elim (hx c) (hy c)
theorem asc_empty : Asc Str.empty := fun c hc => by simp [Str.empty] at hc
theorem empty_app (x : Str) : Str.empty ++ x = x := by
  cases x with
  | mk cps => exact congrArg Str.mk (by simp [Str.empty])
theorem repr_len {x : Str} {n : Nat} (h : Asc x) (l : x.length ≤ n) : (reprText x).length ≤ 10 * n + 2 := Nat.le_trans (PySem.StrLaws.reprText_len x h) (by omega)
theorem textFrom_le : ∀ (ts : List Str) (k : Nat) (acc : Str), (textFrom k acc ts).length ≤ acc.length + (ts.map fun t => t.length + 2).sum
  | [], k, acc => Nat.le_refl _
  | t :: r, k, acc => by
    have ih := textFrom_le r (k + 1) (acc ++ (if k > 0 then ", " else "" : String) ++ t)
    have e : (acc ++ (if k > 0 then ", " else "" : String) ++ t).length = acc.length + (if k > 0 then 2 else 0) + t.length := by
      rw [strLen_append, strLen_append]
      split <;> rfl
    rw [e] at ih
    show (textFrom (k + 1) _ r).length ≤ acc.length + (t.length + 2 + (r.map fun t => t.length + 2).sum)
    have : (if k > 0 then 2 else 0) ≤ 2 := by split <;> omega
    omega
theorem listText_le (ts : List Str) : (listText ts).length ≤ 2 + (ts.map fun t => t.length + 2).sum := by
  have := textFrom_le ts 0 ("[" : Str)
  have e : (listText ts).length = (textFrom 0 ("[" : Str) ts).length + 1 := by
    show (textFrom 0 ("[" : Str) ts ++ ("]" : Str)).length = _
    rw [PySem.Str.length_append]
    rfl
  have e2 : ("[" : Str).length = 1 := rfl
  omega
theorem small_shown {ds : List PyData} {n : Nat} (h : ∀ d ∈ ds, d.shown.length ≤ n) (hn : ds.length * (n + 2) + 2 ≤ sizeLine) : (PyData.list ds).shown.length ≤ sizeLine := by
  have e : (PyData.list ds).shown = listText (PyData.shownAll ds) := by simp only [PyData.shown]
  rw [e]
  refine Nat.le_trans (listText_le _) ?_
  have key : ∀ ds : List PyData, (∀ d ∈ ds, d.shown.length ≤ n) → ((PyData.shownAll ds).map fun t => t.length + 2).sum ≤ ds.length * (n + 2) := by
    intro ds
    induction ds with
    | nil => intro _; simp [PyData.shownAll]
    | cons d r ih =>
      intro h
      have h1 := h d List.mem_cons_self
      have h2 := ih fun x hx => h x (List.mem_cons_of_mem _ hx)
      simp only [PyData.shownAll, List.map_cons, List.sum_cons, List.length_cons]
      rw [Nat.succ_mul]
      omega
  have := key ds h
  omega
theorem shown_int {i : Int} (h : i.natAbs.log2 < 1920) : (PyData.int i).shown.length ≤ 1921 := by
  simp only [PyData.shown]
  exact len1921 h
theorem shown_bool {b : Bool} : (PyData.bool b).shown.length ≤ 5 := by
  cases b <;> (simp only [PyData.shown]; decide +kernel)
theorem shown_str {x : Str} {n : Nat} (h : Asc x) (l : x.length ≤ n) : (PyData.str x).shown.length ≤ 10 * n + 2 := by
  simp only [PyData.shown]
  exact repr_len h l
end SP
/-! Data that can be laid, of a depth. -/
namespace SP
open PySem PySem.Spec PyProof.Rows L2
def Lay (n : Nat) (d : PyData) : Prop := d.canLay0 = true ∧ d.depth ≤ n
theorem Lay.mono {n m : Nat} {d : PyData} (h : Lay n d) (k : n ≤ m) : Lay m d := ⟨h.1, Nat.le_trans h.2 k⟩
theorem Lay.int {z : Int} : Lay 0 (.int z) := ⟨by simp [PyData.canLay0], by simp [PyData.depth]⟩
theorem Lay.bool {b : Bool} : Lay 0 (.bool b) := ⟨by simp [PyData.canLay0], by simp [PyData.depth]⟩
theorem Lay.non : Lay 0 .none := ⟨by simp [PyData.canLay0], by simp [PyData.depth]⟩
theorem Lay.all {n : Nat} : ∀ {ds : List PyData}, (∀ d ∈ ds, Lay n d) → PyData.canLayAll0 ds = true ∧ PyData.depthAll ds ≤ n
  | [], _ => ⟨by simp [PyData.canLayAll0], by simp [PyData.depthAll]⟩
  | d :: ds, h => by
    obtain ⟨h1, h2⟩ := Lay.all fun e he => h e (List.mem_cons_of_mem _ he)
    obtain ⟨g1, g2⟩ := h d List.mem_cons_self
    refine ⟨?_, ?_⟩
    · show (PyData.canLay0 d && PyData.canLayAll0 ds) = true
      rw [g1, h1]
      rfl
    · show max (PyData.depth d) (PyData.depthAll ds) ≤ n
      omega
theorem Lay.tup {n : Nat} {ds : List PyData} (h : ∀ d ∈ ds, Lay n d) : Lay (n + 1) (.tuple ds) := ⟨(Lay.all h).1, by show PyData.depthAll ds + 1 ≤ n + 1; exact Nat.succ_le_succ (Lay.all h).2⟩
theorem Lay.list {n : Nat} {ds : List PyData} (h : ∀ d ∈ ds, Lay n d) : Lay (n + 1) (.list ds) := ⟨(Lay.all h).1, by show PyData.depthAll ds + 1 ≤ n + 1; exact Nat.succ_le_succ (Lay.all h).2⟩
theorem Lay.ofMap {α : Type} {n : Nat} {f : α → PyData} {xs : List α} (h : ∀ a, Lay n (f a)) : ∀ d ∈ xs.map f, Lay n d := fun d hd => by
  obtain ⟨a, _, rfl⟩ := List.mem_map.mp hd
  exact h a
theorem Lay.shaped {n : Nat} {d : PyData} (h : Lay n d) (k : n ≤ 64) : SeqAt.shaped d = true := by
  show (d.canLay0 && decide (d.depth ≤ 64)) = true
  rw [h.1, decide_eq_true (Nat.le_trans h.2 k)]
  rfl
theorem Lay.two {n : Nat} {a b : PyData} (h1 : Lay n a) (h2 : Lay n b) : ∀ d ∈ [a, b], Lay n d := fun d hd => by
  rcases List.mem_cons.mp hd with e | hd
  · exact e ▸ h1
  · rw [List.mem_singleton.mp hd]
    exact h2
theorem Lay.str {z : Str} (h : z.cps.toList.all (fun c => decide (c < 128)) = true) : Lay 0 (.str z) := ⟨by
  show z.cps.all (fun c => decide (c < 0x110000)) = true
  rw [← Array.all_toList, List.all_eq_true]
  intro c hc
  have := of_decide_eq_true (List.all_eq_true.mp h c hc)
  exact decide_eq_true (by omega), by simp [PyData.depth]⟩
end SP
/-! Plainly: ascending lists of texts. -/
namespace SP
open PySem PySem.Spec PyProof.Rows
def sLt (a b : Str) : Prop := a.cps.toList < b.cps.toList
instance (a b : Str) : Decidable (sLt a b) := inferInstanceAs (Decidable (a.cps.toList < b.cps.toList))
theorem sLt.trans {a b c : Str} (h : sLt a b) (k : sLt b c) : sLt a c := List.lt_trans h k
theorem sLt.irr (a : Str) : ¬ sLt a a := List.lt_irrefl _
theorem str_ext {a b : Str} (h : a.cps.toList = b.cps.toList) : a = b := by
  cases a with
  | mk x =>
    cases b with
    | mk y =>
      have : x = y := Array.toList_inj.mp h
      rw [this]
theorem sLt.tri {a b : Str} (h : ¬ sLt a b) (k : ¬ sLt b a) : a = b := str_ext (List.le_antisymm (List.not_lt.mp k) (List.not_lt.mp h))
def AscS (l : List Str) : Prop := l.Pairwise sLt
instance (l : List Str) : Decidable (AscS l) := inferInstanceAs (Decidable (l.Pairwise sLt))
theorem AscS.nodup {l : List Str} (h : AscS l) : l.Nodup := List.Pairwise.imp (R := sLt) (S := fun a b => a ≠ b) (fun {a b} k (e : a = b) => sLt.irr a (by rw [← e] at k; exact k)) h
/-- a text put into its place -/
def ins (x : Str) : List Str → List Str
  | [] => [x]
  | y :: l => if x = y then y :: l else if sLt x y then x :: y :: l else y :: ins x l
/-- ascending, each once -/
def srt (l : List Str) : List Str := l.foldr ins []
theorem mem_ins {x z : Str} : ∀ {l : List Str}, z ∈ ins x l ↔ z = x ∨ z ∈ l
  | [] => by simp [ins]
  | y :: l => by
    unfold ins
    split
    · rename_i e
      subst e
      simp
    · split
      · simp
      · rw [List.mem_cons, mem_ins, List.mem_cons]
        exact ⟨fun h => h.elim (fun h => .inr (.inl h)) fun h => h.elim .inl fun h => .inr (.inr h), fun h => h.elim (fun h => .inr (.inl h)) fun h => h.elim .inl fun h => .inr (.inr h)⟩
theorem asc_ins {x : Str} : ∀ {l : List Str}, AscS l → AscS (ins x l)
  | [], _ => List.pairwise_singleton _ _
  | y :: l, h => by
    have h' := List.pairwise_cons.mp h
    unfold ins
    split
    · exact h
    · split
      · rename_i k
        exact List.pairwise_cons.mpr ⟨fun z hz => (List.mem_cons.mp hz).elim (fun e => e ▸ k) fun e => k.trans (h'.1 z e), h⟩
      · rename_i n k
        have q : sLt y x := Decidable.byContradiction fun z => n (sLt.tri k z)
        exact List.pairwise_cons.mpr ⟨fun z hz => (mem_ins.mp hz).elim (fun e => e ▸ q) fun e => h'.1 z e, asc_ins h'.2⟩
theorem mem_srt {z : Str} : ∀ {l : List Str}, z ∈ srt l ↔ z ∈ l
  | [] => Iff.rfl
  | y :: l => by
    show z ∈ ins y (srt l) ↔ _
    rw [mem_ins, mem_srt, List.mem_cons]
theorem asc_srt : ∀ (l : List Str), AscS (srt l)
  | [] => List.Pairwise.nil
  | y :: l => asc_ins (asc_srt l)
theorem asc_eq : ∀ {a b : List Str}, AscS a → AscS b → (∀ z, z ∈ a ↔ z ∈ b) → a = b
  | [], [], _, _, _ => rfl
  | [], y :: b, _, _, h => nomatch (h y).2 (List.mem_cons_self ..)
  | x :: a, [], _, _, h => nomatch (h x).1 (List.mem_cons_self ..)
  | x :: a, y :: b, ha, hb, h => by
    have a' := List.pairwise_cons.mp ha
    have b' := List.pairwise_cons.mp hb
    have e : x = y := by
      refine sLt.tri (fun k => ?_) fun k => ?_
      · rcases List.mem_cons.mp ((h x).1 (List.mem_cons_self ..)) with e | e
        · exact sLt.irr x (by rw [← e] at k; exact k)
        · exact sLt.irr x (k.trans (b'.1 x e))
      · rcases List.mem_cons.mp ((h y).2 (List.mem_cons_self ..)) with e | e
        · exact sLt.irr y (by rw [← e] at k; exact k)
        · exact sLt.irr y (k.trans (a'.1 y e))
    subst e
    rw [asc_eq a'.2 b'.2 fun z => ?_]
    constructor
    · intro hz
      rcases List.mem_cons.mp ((h z).1 (List.mem_cons_of_mem _ hz)) with e | e
      · exact (sLt.irr x (by have := a'.1 z hz; rw [e] at this; exact this)).elim
      · exact e
    · intro hz
      rcases List.mem_cons.mp ((h z).2 (List.mem_cons_of_mem _ hz)) with e | e
      · exact (sLt.irr x (by have := b'.1 z hz; rw [e] at this; exact this)).elim
      · exact e
theorem srt_asc {l : List Str} (h : AscS l) : srt l = l := asc_eq (asc_srt l) h fun _ => mem_srt
theorem srt_eq {a l : List Str} (h : AscS a) (k : ∀ z, z ∈ a ↔ z ∈ l) : a = srt l := asc_eq h (asc_srt l) fun z => (k z).trans mem_srt.symm
theorem srt_congr {a b : List Str} (k : ∀ z, z ∈ a ↔ z ∈ b) : srt a = srt b := asc_eq (asc_srt a) (asc_srt b) fun z => mem_srt.trans ((k z).trans mem_srt.symm)
theorem rising_le : ∀ {p : Str} {l : List Str}, risingS p l = true → (p :: l).Pairwise fun a b => ¬ sLt b a
  | p, [], _ => List.pairwise_singleton _ _
  | p, x :: l, h => by
    have h2 : ltCps x.cps.toList p.cps.toList = false ∧ risingS x l = true := by
      have : (!ltCps x.cps.toList p.cps.toList && risingS x l) = true := h
      rw [Bool.and_eq_true, Bool.not_eq_true'] at this
      exact this
    have t := rising_le h2.2
    have n : ¬ sLt x p := by
      have := h2.1
      rw [ltCps_eq] at this
      exact of_decide_eq_false this
    refine List.pairwise_cons.mpr ⟨fun z hz => ?_, t⟩
    rcases List.mem_cons.mp hz with e | e
    · rw [e]; exact n
    · have := (List.pairwise_cons.mp t).1 z e
      intro k
      -- z < p, p ≤ x, x ≤ z
      by_cases q : sLt p x
      · exact this (k.trans q)
      · rw [← sLt.tri q n] at this
        exact this k
theorem asc_sorted {l : List Str} (h : sortedS l = true) (nd : l.Nodup) : AscS l := by
  cases l with
  | nil => exact List.Pairwise.nil
  | cons x l =>
    exact (List.Pairwise.and (rising_le h) nd).imp fun {a b} k => Decidable.byContradiction fun z => k.2 (sLt.tri z k.1)
/-- what sorted(set(zs)) is -/
theorem srt_of {ys zs : List Str} (h : sortedS ys = true) (nd : ys.Nodup) (k : ∀ z, z ∈ ys ↔ z ∈ zs) : ys = srt zs := srt_eq (asc_sorted h nd) k
/-- what sorted(keys) is -/
theorem srt_perm {ys zs : List Str} (h : sortedS ys = true) (p : ys.Perm zs) (nd : zs.Nodup) : ys = srt zs := srt_of h (p.nodup_iff.mpr nd) fun _ => p.mem_iff
/-- unlike elements that stand all in a list are no more than these -/
theorem len_le {α : Type} [DecidableEq α] : ∀ {l m : List α}, l.Nodup → (∀ z ∈ l, z ∈ m) → l.length ≤ m.length
  | [], _, _, _ => Nat.zero_le _
  | x :: l, m, h, k => by
    have h' := List.nodup_cons.mp h
    have hx : x ∈ m := k x (List.mem_cons_self ..)
    have : l.length ≤ (m.erase x).length := len_le h'.2 fun z hz => by
      have hz' := k z (List.mem_cons_of_mem _ hz)
      exact (List.mem_erase_of_ne (a := z) (b := x) fun (e : z = x) => h'.1 (by rw [← e]; exact hz)).mpr hz'
    rw [List.length_erase_of_mem hx] at this
    have : 0 < m.length := List.length_pos_of_mem hx
    show l.length + 1 ≤ _
    omega
theorem length_ins_le {x : Str} : ∀ {l : List Str}, (ins x l).length ≤ l.length + 1
  | [] => Nat.le_refl _
  | y :: l => by
    unfold ins
    split
    · exact Nat.le_succ _
    · split
      · exact Nat.le_refl _
      · exact Nat.succ_le_succ length_ins_le
theorem length_srt_le : ∀ (l : List Str), (srt l).length ≤ l.length
  | [] => Nat.le_refl _
  | y :: l => Nat.le_trans length_ins_le (Nat.succ_le_succ (length_srt_le l))
theorem length_srt {l : List Str} (nd : l.Nodup) : (srt l).length = l.length :=
  Nat.le_antisymm (length_srt_le l) (len_le nd fun z hz => mem_srt.mpr hz)
end SP
/-! Plainly: pipes between nodes, what can be reached. -/
namespace SP
open PySem PySem.Spec PyProof.Rows
abbrev Edge := Str × Str
abbrev Pipe := Str × Edge
def Adj (E : List Edge) (u v : Str) : Prop := (u, v) ∈ E ∨ (v, u) ∈ E
def tips (E : List Edge) : List Str := E.flatMap fun e => [e.1, e.2]
def nds (E : List Edge) : List Str := srt (tips E)
def nbl (E : List Edge) (u : Str) : List Str := E.flatMap fun e => (if e.1 = u then [e.2] else []) ++ (if e.2 = u then [e.1] else [])
def nb (E : List Edge) (u : Str) : List Str := srt (nbl E u)
theorem Adj.symm {E : List Edge} {u v : Str} (h : Adj E u v) : Adj E v u := h.elim .inr .inl
theorem Adj.mono {E F : List Edge} {u v : Str} (h : Adj E u v) (k : ∀ e ∈ E, e ∈ F) : Adj F u v := h.elim (fun h => .inl (k _ h)) fun h => .inr (k _ h)
theorem mem_tips {E : List Edge} {u : Str} : u ∈ tips E ↔ ∃ v, Adj E u v := by
  unfold tips Adj
  rw [List.mem_flatMap]
  constructor
  · rintro ⟨⟨a, b⟩, he, h⟩
    rcases List.mem_cons.mp h with h | h
    · have h : u = a := h
      subst h
      exact ⟨b, .inl he⟩
    · have h : u = b := List.mem_singleton.mp h
      subst h
      exact ⟨a, .inr he⟩
  · rintro ⟨v, h | h⟩
    · exact ⟨_, h, List.mem_cons_self ..⟩
    · exact ⟨_, h, List.mem_cons_of_mem _ (List.mem_singleton.mpr rfl)⟩
theorem mem_nds {E : List Edge} {u : Str} : u ∈ nds E ↔ ∃ v, Adj E u v := mem_srt.trans mem_tips
theorem mem_nbl {E : List Edge} {u v : Str} : v ∈ nbl E u ↔ Adj E u v := by
  unfold nbl Adj
  rw [List.mem_flatMap]
  constructor
  · rintro ⟨⟨a, b⟩, he, h⟩
    rcases List.mem_append.mp h with h | h
    · split at h
      · rename_i e
        have h : v = b := List.mem_singleton.mp h
        have e : a = u := e
        subst h e
        exact .inl he
      · cases h
    · split at h
      · rename_i e
        have h : v = a := List.mem_singleton.mp h
        have e : b = u := e
        subst h e
        exact .inr he
      · cases h
  · rintro (h | h)
    · exact ⟨_, h, List.mem_append_left _ (by rw [if_pos rfl]; exact List.mem_singleton.mpr rfl)⟩
    · exact ⟨_, h, List.mem_append_right _ (by rw [if_pos rfl]; exact List.mem_singleton.mpr rfl)⟩
theorem mem_nb {E : List Edge} {u v : Str} : v ∈ nb E u ↔ Adj E u v := mem_srt.trans mem_nbl
theorem tips_append (E F : List Edge) : tips (E ++ F) = tips E ++ tips F := List.flatMap_append
theorem nbl_append (E F : List Edge) (u : Str) : nbl (E ++ F) u = nbl E u ++ nbl F u := List.flatMap_append
theorem length_nbl (u : Str) : ∀ E : List Edge, (nbl E u).length ≤ 2 * E.length
  | [] => Nat.le_refl _
  | e :: E => by
    have h := length_nbl u E
    have : (nbl (e :: E) u).length = ((if e.1 = u then [e.2] else []) ++ (if e.2 = u then [e.1] else [])).length + (nbl E u).length := by
      show (List.flatMap _ (e :: E)).length = _
      rw [List.flatMap_cons, List.length_append]
      rfl
    rw [this, List.length_append]
    show _ ≤ 2 * (E.length + 1)
    split <;> split <;> simp only [List.length_cons, List.length_nil] <;> omega
theorem length_tips : ∀ E : List Edge, (tips E).length = 2 * E.length
  | [] => rfl
  | e :: E => by
    show (List.flatMap _ (e :: E)).length = _
    rw [List.flatMap_cons, List.length_append, show (List.flatMap (fun e => [e.1, e.2]) E).length = 2 * E.length from length_tips E]
    show 2 + 2 * E.length = 2 * (E.length + 1)
    omega
/-- what can be reached from a node over some nodes -/
inductive Rch (E : List Edge) (A : List Str) (s : Str) : Str → Prop
  | refl : Rch E A s s
  | step {x y : Str} : Rch E A s x → Adj E x y → y ∈ A → Rch E A s y
theorem Rch.mem {E : List Edge} {A : List Str} {s x : Str} (h : Rch E A s x) (k : s ∈ A) : x ∈ A := by
  cases h with
  | refl => exact k
  | step _ _ q => exact q
theorem Rch.trans {E : List Edge} {A : List Str} {s x y : Str} (h : Rch E A s x) (k : Rch E A x y) : Rch E A s y := by
  induction k with
  | refl => exact h
  | step _ a m ih => exact .step ih a m
theorem Rch.symm {E : List Edge} {A : List Str} {s x : Str} (h : Rch E A s x) (k : s ∈ A) : Rch E A x s := by
  induction h with
  | refl => exact .refl
  | step h a m ih => exact Rch.trans (.step .refl a.symm (h.mem k)) ih
theorem Rch.mono {E F : List Edge} {A : List Str} {s x : Str} (h : Rch E A s x) (k : ∀ u v, Adj E u v → Adj F u v) : Rch F A s x := by
  induction h with
  | refl => exact .refl
  | step _ a m ih => exact .step ih (k _ _ a) m
/-- a list of what can be reached -/
def Rcd (E : List Edge) (A : List Str) (s : Str) (m : List Str) : Prop := m.Nodup ∧ ∀ x, x ∈ m ↔ Rch E A s x
/-- closed and reached -/
theorem Rcd.of {E : List Edge} {A : List Str} {s : Str} {m : List Str} (nd : m.Nodup) (h : ∀ x ∈ m, Rch E A s x) (hs : s ∈ m) (hc : ∀ x ∈ m, ∀ y, Adj E x y → y ∈ A → y ∈ m) : Rcd E A s m :=
  ⟨nd, fun x => ⟨h x, fun k => by
    induction k with
    | refl => exact hs
    | step _ a q ih => exact hc _ ih _ a q⟩⟩
theorem Rcd.len {E : List Edge} {A : List Str} {s : Str} {m : List Str} (h : Rcd E A s m) (hA : A.Nodup) (hs : s ∈ A) : m.length ≤ A.length := len_le h.1 fun x hx => ((h.2 x).1 hx).mem hs
/-- all are reached exactly if as many are -/
theorem Rcd.all {E : List Edge} {A : List Str} {s : Str} {m : List Str} (h : Rcd E A s m) (hA : A.Nodup) (hs : s ∈ A) : A.length ≤ m.length ↔ ∀ x ∈ A, Rch E A s x := by
  constructor
  · intro k x hx
    refine Classical.byContradiction fun n => ?_
    have : (x :: m).length ≤ A.length := len_le (List.nodup_cons.mpr ⟨fun z => n ((h.2 x).1 z), h.1⟩) fun z hz => (List.mem_cons.mp hz).elim (fun e => e ▸ hx) fun e => ((h.2 z).1 e).mem hs
    have : m.length + 1 ≤ A.length := this
    omega
  · intro k
    exact len_le hA fun x hx => (h.2 x).2 (k x hx)
/-- a connected net -/
def Conn (E : List Edge) : Prop := ∀ x ∈ nds E, ∀ y ∈ nds E, Rch E (nds E) x y
theorem Conn.of {E : List Edge} {s : Str} (hs : s ∈ nds E) (h : ∀ x ∈ nds E, Rch E (nds E) s x) : Conn E := fun x hx y hy => ((h x hx).symm hs).trans (h y hy)
/-- no edge leads from a node to itself -/
def Loopless (E : List Edge) : Prop := ∀ e ∈ E, e.1 ≠ e.2
/-- one edge less: E without (a, b) is F; what a and b are for one another then decides -/
theorem bridge_iff {E F : List Edge} {a b : Str} (hE : Conn E) (ha : a ∈ nds E) (hF : ∀ u v, Adj E u v → Adj F u v ∨ (u = a ∧ v = b) ∨ (u = b ∧ v = a)) (hb : b ∈ nds E) : Rch F (nds E) a b ↔ ∀ x ∈ nds E, Rch F (nds E) a x := by
  constructor
  · intro h x hx
    have := hE a ha x hx
    induction this with
    | refl => exact .refl
    | step r ad m ih =>
      have ih := ih (r.mem ha)
      rcases hF _ _ ad with k | ⟨_, e⟩ | ⟨_, e⟩
      · exact .step ih k m
      · rw [e]; exact h
      · rw [e]; exact .refl
  · exact fun h => h b hb
/-- what is left hangs together, and no node is lost -/
theorem less_nds {E F : List Edge} {a b : Str} (hab : a ≠ b) (hE : Conn E) (ha : a ∈ nds E) (hF : ∀ u v, Adj E u v → Adj F u v ∨ (u = a ∧ v = b) ∨ (u = b ∧ v = a)) (hb : b ∈ nds E) (sub : ∀ u v, Adj F u v → Adj E u v) (h : Rch F (nds E) a b) : nds F = nds E ∧ Conn F := by
  have tip : ∀ {x y : Str}, x ≠ y → Rch F (nds E) x y → y ∈ nds F := fun n r => by
    cases r with
    | refl => exact (n rfl).elim
    | step _ ad _ => exact mem_nds.2 ⟨_, ad.symm⟩
  have e : nds F = nds E := asc_eq (asc_srt _) (asc_srt _) fun x => by
    constructor
    · intro hx
      obtain ⟨v, k⟩ := mem_nds.1 hx
      exact mem_nds.2 ⟨v, sub _ _ k⟩
    · intro hx
      obtain ⟨v, k⟩ := mem_nds.1 hx
      rcases hF _ _ k with k | ⟨e, _⟩ | ⟨e, _⟩
      · exact mem_nds.2 ⟨v, k⟩
      · rw [e]; exact tip (fun z => hab z.symm) (h.symm ha)
      · rw [e]; exact tip hab h
  refine ⟨e, Conn.of (s := a) (by rw [e]; exact ha) ?_⟩
  rw [e]
  exact (bridge_iff hE ha hF hb).1 h
end SP
/-! Dicts whose keys are texts: the keys ks and what stands there by a function; edges and lists of texts in the heap. -/
namespace SP
open PySem PySem.Spec PyProof.Rows L2
theorem _root_.L2.Room.un1 {k : Nat} {A : Around} (r : Room k A) : A.units + 1 < cLine := by have := r.un; omega
def dk (ks : List Str) (f : Str → V) : List (Key × V) := ks.map fun k => (Sum.inr k, f k)
/-- f, v at n -/
def up {α : Type} (f : Str → α) (n : Str) (v : α) : Str → α := fun m => if m = n then v else f m
theorem up_eq {α : Type} {f : Str → α} {n : Str} {v : α} : up f n v n = v := if_pos rfl
theorem up_ne {α : Type} {f : Str → α} {n m : Str} {v : α} (h : m ≠ n) : up f n v m = f m := if_neg h
theorem dk_len {ks : List Str} {f : Str → V} : (dk ks f).length = ks.length := List.length_map ..
theorem dk_keys {ks : List Str} {f : Str → V} : (dk ks f).map (·.1) = ks.map Sum.inr := by
  unfold dk
  rw [List.map_map]
  rfl
theorem dk_kV {ks : List Str} {f : Str → V} : ((dk ks f).map fun kv => kV kv.1) = ks.map V.str := by
  unfold dk
  rw [List.map_map]
  rfl
theorem dk_vals {ks : List Str} {f : Str → V} : (dk ks f).map (·.2) = ks.map f := by
  unfold dk
  rw [List.map_map]
  rfl
theorem dk_at {ks : List Str} {f : Str → V} {i : Nat} {k : Key} {v : V} (h : (dk ks f)[i]? = some (k, v)) : ∃ n, ks[i]? = some n ∧ k = .inr n ∧ v = f n := by
  unfold dk at h
  rw [List.getElem?_map] at h
  cases e : ks[i]? with
  | none => rw [e] at h; cases h
  | some n =>
    rw [e] at h
    injection h with h
    injection h with h1 h2
    exact ⟨n, rfl, h1.symm, h2.symm⟩
theorem dk_val (f : Str → V) (n : Str) : ∀ ks : List Str, valV (dk ks f) (Sum.inr n) = if n ∈ ks then some (f n) else none
  | [] => rfl
  | k :: ks => by
    by_cases e : k = n
    · subst e
      rw [if_pos (List.mem_cons_self ..)]
      exact valV_pos rfl
    · have h : valV (dk (k :: ks) f) (Sum.inr n) = valV (dk ks f) (Sum.inr n) := valV_neg (fun z => e (by injection z))
      rw [h, dk_val f n ks]
      by_cases m : n ∈ ks
      · rw [if_pos m, if_pos (List.mem_cons_of_mem _ m)]
      · rw [if_neg m, if_neg fun z => (List.mem_cons.mp z).elim (fun q => e q.symm) m]
theorem dk_get {f : Str → V} {n : Str} {ks : List Str} (h : n ∈ ks) : valV (dk ks f) (Sum.inr n) = some (f n) := by rw [dk_val, if_pos h]
theorem dk_no {f : Str → V} {n : Str} {ks : List Str} (h : n ∉ ks) : valV (dk ks f) (Sum.inr n) = none := by rw [dk_val, if_neg h]
theorem dk_put {f : Str → V} {n : Str} {v : V} {ks : List Str} : putK (dk ks f) (Sum.inr n) v = dk (if n ∈ ks then ks else ks ++ [n]) (up f n v) := by
  by_cases m : n ∈ ks
  · rw [if_pos m]
    unfold putK
    rw [valV_any, dk_get m]
    rw [if_pos (show (some (f n)).isSome = true from rfl)]
    unfold dk
    rw [List.map_map]
    refine List.map_congr_left fun k hk => ?_
    show (if (Sum.inr k : Key) = Sum.inr n then ((Sum.inr k : Key), v) else (Sum.inr k, f k)) = (Sum.inr k, up f n v k)
    unfold up
    by_cases e : k = n
    · rw [if_pos (by rw [e]), if_pos e]
    · rw [if_neg (fun z => e (by injection z)), if_neg e]
  · rw [if_neg m, putK_new v (dk_no m)]
    unfold dk
    rw [List.map_append]
    congr 1
    · refine List.map_congr_left fun k hk => ?_
      rw [up_ne fun e : k = n => m (by rw [← e]; exact hk)]
    · show [((Sum.inr n : Key), v)] = [(Sum.inr n, up f n v n)]
      rw [up_eq]
theorem dk_drop {f : Str → V} {n : Str} {ks : List Str} : dropK (dk ks f) (Sum.inr n) = dk (ks.filter fun k => decide (k ≠ n)) f := by
  unfold dropK dk
  rw [List.filter_map]
  congr 1
  refine List.filter_congr fun k _ => ?_
  show decide ((Sum.inr k : Key) ≠ Sum.inr n) = decide (k ≠ n)
  by_cases e : k = n
  · rw [e]
    rw [decide_eq_false (fun z => z rfl), decide_eq_false (fun z => z rfl)]
  · rw [decide_eq_true (show (Sum.inr k : Key) ≠ Sum.inr n from fun z => e (by injection z)), decide_eq_true e]
theorem dk_congr {f g : Str → V} {ks : List Str} (h : ∀ k ∈ ks, f k = g k) : dk ks f = dk ks g := List.map_congr_left fun k hk => by rw [h k hk]
/-! ### a dict at a -/
def DAt (H : Hp) (a : Addr) (ks : List Str) (f : Str → V) : Prop := H a = some (.dK (dk ks f))
def DRd (H : Hp) (a : Addr) (ks : List Str) (f : Str → V) : Prop := Rd H a (.dK (dk ks f))
theorem DAt.rd {H : Hp} {a : Addr} {ks : List Str} {f : Str → V} (h : DAt H a ks f) : DRd H a ks f := .inl h
theorem DRd.get {H : Hp} {a : Addr} {ks : List Str} {f : Str → V} {n : Str} (h : DRd H a ks f) (m : n ∈ ks) : DGet H a (.str n) (some (f n)) := .inl ⟨_, .inr n, h, rfl, (dk_get m).symm⟩
theorem DRd.no {H : Hp} {a : Addr} {ks : List Str} {f : Str → V} {n : Str} (h : DRd H a ks f) (m : n ∉ ks) : DGet H a (.str n) none := .inl ⟨_, .inr n, h, rfl, (dk_no m).symm⟩
theorem DRd.look {H : Hp} {a : Addr} {ks : List Str} {f : Str → V} (n : Str) (h : DRd H a ks f) : DGet H a (.str n) (if n ∈ ks then some (f n) else none) := .inl ⟨_, .inr n, h, rfl, (dk_val f n ks).symm⟩
theorem DRd.isD {H : Hp} {a : Addr} {ks : List Str} {f : Str → V} (h : DRd H a ks f) : IsD H a := .inl ⟨_, h⟩
theorem DAt.put {H : Hp} {a : Addr} {ks : List Str} {f : Str → V} {n : Str} {v : V} (h : DAt H a ks f) (l : ks.length < 65536) : DPut H a (.str n) v (upd H a (.dK (dk (if n ∈ ks then ks else ks ++ [n]) (up f n v)))) := by
  have := DPut.k (k := .inr n) (v := v) h (by rw [dk_len, sizeLine_eq]; omega)
  rw [dk_put] at this
  exact this
/-! ### edges, lists of texts -/
def EdAt (H : Hp) (v : V) (e : Edge) : Prop := ∃ q, v = .ref q ∧ H q = some (.tup [.str e.1, .str e.2])
def EdsAt (H : Hp) (us : List V) (E : List Edge) : Prop := us.length = E.length ∧ ∀ (i : Nat) (v : V) , us[i]? = some v → ∃ e, E[i]? = some e ∧ EdAt H v e
def TxAt (H : Hp) (v : V) (l : List Str) : Prop := ∃ q, v = .ref q ∧ H q = some (.lst (l.map V.str))
theorem EdAt.same {H H' : Hp} {v : V} {e : Edge} (h : EdAt H v e) (s : Same H H') : EdAt H' v e := let ⟨q, e1, h⟩ := h; ⟨q, e1, s _ _ h⟩
theorem TxAt.same {H H' : Hp} {v : V} {l : List Str} (h : TxAt H v l) (s : Same H H') : TxAt H' v l := let ⟨q, e1, h⟩ := h; ⟨q, e1, s _ _ h⟩
theorem EdsAt.same {H H' : Hp} {us : List V} {E : List Edge} (h : EdsAt H us E) (s : Same H H') : EdsAt H' us E := ⟨h.1, fun i v q => let ⟨e, q1, q2⟩ := h.2 i v q; ⟨e, q1, q2.same s⟩⟩
theorem tup_lst {xs ys : List V} : (HO.tup xs) ≠ .lst ys := fun z => nomatch z
theorem tup_dk {xs : List V} {kvs : List (Key × V)} : (HO.tup xs) ≠ .dK kvs := fun z => nomatch z
theorem lst_dk {xs : List V} {kvs : List (Key × V)} : (HO.lst xs) ≠ .dK kvs := fun z => nomatch z
theorem ne_at {H : Hp} {a b : Addr} {u v : HO} (h : H a = some u) (k : H b = some v) (n : u ≠ v) : a ≠ b := fun e => by
  rw [e, k] at h
  exact n (by injection h with h; exact h.symm)
/-- what is no such thing stays where one thing changes -/
theorem kp_at {R : Addr} {H H' : Hp} {b : Addr} {u v : HO} (k : Kp R H H') (h : H b = some u) (e : H R = some v) (n : u ≠ v) : H' b = some u := k b u h (ne_at h e n)
theorem EdAt.kp {R : Addr} {H H' : Hp} {v : V} {e : Edge} {o : HO} (h : EdAt H v e) (k : Kp R H H') (eo : H R = some o) (n : ∀ xs, HO.tup xs ≠ o) : EdAt H' v e := let ⟨q, e1, h⟩ := h; ⟨q, e1, kp_at k h eo (n _)⟩
theorem inV_strs (x : Str) : ∀ l : List Str, inV (.str x) (l.map V.str) = decide (x ∈ l)
  | [] => rfl
  | y :: l => by
    show ((y == x) || inV (.str x) (l.map V.str)) = _
    rw [inV_strs x l]
    by_cases e : y = x
    · subst e
      rw [beq_self_eq_true, Bool.true_or, decide_eq_true (List.mem_cons_self ..)]
    · rw [beq_eq_false_iff_ne.mpr e, Bool.false_or]
      by_cases m : x ∈ l
      · rw [decide_eq_true m, decide_eq_true (List.mem_cons_of_mem _ m)]
      · rw [decide_eq_false m, decide_eq_false fun z => (List.mem_cons.mp z).elim (fun q => e q.symm) m]
theorem flat_strs (l : List Str) : (l.map V.str).all flatV = true := by
  rw [List.all_eq_true]
  intro v hv
  obtain ⟨z, _, rfl⟩ := List.mem_map.mp hv
  rfl
/-- a list or a tuple of texts -/
def SqX (H : Hp) (a : Addr) (l : List Str) : Prop := H a = some (.lst (l.map V.str)) ∨ H a = some (.tup (l.map V.str))
theorem SqX.same {H H' : Hp} {a : Addr} {l : List Str} (h : SqX H a l) (s : Same H H') : SqX H' a l := h.elim (fun h => .inl (s _ _ h)) fun h => .inr (s _ _ h)
theorem in_sqx {K : PySem.W.Frag} {H : Hp} {a : Addr} {l : List Str} {x : Str} {Q : VK} (h : SqX H a l) (q : Q (.bl (decide (x ∈ l))) H) : rIn K false (.str x) (.ref a) H Q :=
  ⟨a, l.map V.str, rfl, h.elim (fun h => .inl (SqL.of h)) (fun h => .inr (SqT.of h)), rfl, flat_strs l, by
    rw [if_neg (by decide), inV_strs]
    exact q⟩
theorem notin_sqx {K : PySem.W.Frag} {H : Hp} {a : Addr} {l : List Str} {x : Str} {Q : VK} (h : SqX H a l) (q : Q (.bl (!decide (x ∈ l))) H) : rIn K true (.str x) (.ref a) H Q :=
  ⟨a, l.map V.str, rfl, h.elim (fun h => .inl (SqL.of h)) (fun h => .inr (SqT.of h)), rfl, flat_strs l, by
    rw [if_pos rfl, inV_strs]
    exact q⟩
/-- a dict comprehension over it: Pv by the turn and the heap (the new dict at D within) -/
theorem dc_it {J : It} {n : Nat} {G : Hp → Prop} {Y : Nat → Hp → V → Hp → Prop} (w : Walk J n G Y) {g : TG} {tt : TT} {tk tv : TE} {vs : List Nat} {σ : L2.St} {H1 : Hp} {D : Addr} {Qd : Hp → Prop} (Pv : Nat → Hp → Prop) (h0 : Pv 0 (upd H1 D (.dK []))) (hG : ∀ i H, i ≤ n → Pv i H → G H)
    (hs : ∀ i x H H', i < n → Pv i H → Y i H x H' → g x (wipe σ vs) H' fun σ2 H2 => wipe σ2 vs = wipe σ vs ∧ tt σ2 H2 fun b H3 =>
      if b = true then tk σ2 H3 fun y H4 => tv σ2 H4 fun z H5 => ∃ kvs k, y = kV k ∧ H5 D = some (.dK kvs) ∧ kvs.length < sizeLine ∧ Pv (i + 1) (upd H5 D (.dK (putK kvs k z))) else Pv (i + 1) H3) (hd : ∀ H, Pv n H → Qd H) :
    ∃ W : Nat → Nat → Hp → Prop, (∃ m, W 0 m (upd H1 D (.dK []))) ∧ ∀ i m H, W i m H →
      (J.stop i H ∧ Qd H) ∨ (J.go i H ∧ ∃ Nx : Hp → Prop, (∀ H', Nx H' → ∃ m', m' < m ∧ W (i + 1) m' H') ∧ ∀ x H', J.yld i H x H' → g x (wipe σ vs) H' fun σ2 H2 => wipe σ2 vs = wipe σ vs ∧ tt σ2 H2 fun b H3 =>
        if b = true then tk σ2 H3 fun y H4 => tv σ2 H4 fun z H5 => ∃ kvs k, y = kV k ∧ H5 D = some (.dK kvs) ∧ kvs.length < sizeLine ∧ Nx (upd H5 D (.dK (putK kvs k z))) else Nx H3) :=
  ⟨fun i m H => m = n - i ∧ i ≤ n ∧ Pv i H, ⟨n, by simp, Nat.zero_le _, h0⟩, fun i m H ⟨em, hi, p⟩ => by
    by_cases l : i < n
    · exact .inr ⟨w.goes i H l (hG i H hi p), Pv (i + 1), fun H' k => ⟨n - (i + 1), by omega, rfl, l, k⟩, fun x H' y => hs i x H H' l p (w.yields i H x H' l (hG i H hi p) y)⟩
    · have e : i = n := Nat.le_antisymm hi (Nat.le_of_not_lt l)
      exact .inl ⟨by rw [e]; exact w.stops H (hG i H hi p), hd H (by rw [← e]; exact p)⟩⟩
theorem nin_take {α : Type} {l : List α} {i : Nat} {x : α} (nd : l.Nodup) (e : l[i]? = some x) : x ∉ l.take i := fun z => by
  obtain ⟨hi, e⟩ := List.getElem?_eq_some_iff.mp e
  obtain ⟨j, hj, ej⟩ := List.getElem_of_mem z
  rw [List.getElem_take] at ej
  rw [List.length_take] at hj
  exact List.pairwise_iff_getElem.mp nd j i (by omega) hi (by omega) (ej.trans e.symm)
theorem take_snoc {α : Type} {l : List α} {i : Nat} {x : α} (e : l[i]? = some x) : l.take i ++ [x] = l.take (i + 1) := by
  rw [List.take_add_one, e]
  rfl
/-- behind a lock all is as it was -/
theorem lock_same {H H' : Hp} {a : Addr} {u v : HO} (h : H a = some u) (s : Same (upd H a v) H') : Same H (upd H' a u) := fun b o e => by
  by_cases z : b = a
  · rw [z, upd_same]
    rw [z, h] at e
    exact e
  · rw [upd_ne z]
    exact s b o (by rw [upd_ne z]; exact e)
theorem EdAt.lock {H : Hp} {a : Addr} {v : V} {e : Edge} {ks : List Str} {f : Str → V} {o : HO} (h : EdAt H v e) (d : DAt H a ks f) : EdAt (upd H a o) v e := let ⟨q, e1, h⟩ := h; ⟨q, e1, by rw [upd_ne (ne_at h d tup_dk)]; exact h⟩
theorem mut_dk {kvs : List (Key × V)} : Mut (some (.dK kvs)) := True.intro
theorem dk_item {ks : List Str} {f : Str → V} {i : Nat} {x y : V} (hx : (dk ks f)[i]?.map (fun kv => kV kv.1) = some x) (hy : (dk ks f)[i]?.map Prod.snd = some y) : ∃ n, ks[i]? = some n ∧ x = .str n ∧ y = f n := by
  cases e : (dk ks f)[i]? with
  | none => rw [e] at hx; cases hx
  | some kv =>
    obtain ⟨k, v⟩ := kv
    obtain ⟨n, en, rfl, rfl⟩ := dk_at e
    rw [e] at hx hy
    injection hx with hx
    injection hy with hy
    exact ⟨n, en, hx.symm, hy.symm⟩
theorem eds_of {H : Hp} {f : Str → V} {e : Str → Edge} {l : List Str} (h : ∀ k ∈ l, EdAt H (f k) (e k)) : EdsAt H (l.map f) (l.map e) := ⟨by rw [List.length_map, List.length_map], fun i v hv => by
  rw [List.getElem?_map] at hv
  cases ex : l[i]? with
  | none => rw [ex] at hv; cases hv
  | some n =>
    rw [ex] at hv
    injection hv with hv
    subst hv
    exact ⟨e n, by rw [List.getElem?_map, ex]; rfl, h n (List.mem_of_getElem? ex)⟩⟩
end SP
/-! Lists of texts and of bools, shown. -/
namespace SP
open PySem PySem.Spec PyProof.Rows L2
theorem sh_strs : ∀ zs : List Str, PyData.showableAll (zs.map PyData.str) = true ∧ PyData.hasDictAll (zs.map PyData.str) = false ∧ PyData.depthAll (zs.map PyData.str) ≤ 1
  | [] => ⟨by simp [PyData.showableAll], by simp [PyData.hasDictAll], by simp [PyData.depthAll]⟩
  | z :: r => by
    obtain ⟨h1, h2, h3⟩ := sh_strs r
    refine ⟨by simp [PyData.showableAll, PyData.showable, h1], by simp [PyData.hasDictAll, PyData.hasDict, h2], ?_⟩
    simp only [List.map_cons, PyData.depthAll, PyData.depth]
    omega
theorem sh_bls : ∀ bs : List Bool, PyData.showableAll (bs.map PyData.bool) = true ∧ PyData.hasDictAll (bs.map PyData.bool) = false ∧ PyData.depthAll (bs.map PyData.bool) ≤ 1
  | [] => ⟨by simp [PyData.showableAll], by simp [PyData.hasDictAll], by simp [PyData.depthAll]⟩
  | b :: r => by
    obtain ⟨h1, h2, h3⟩ := sh_bls r
    refine ⟨by simp [PyData.showableAll, PyData.showable, h1], by simp [PyData.hasDictAll, PyData.hasDict, h2], ?_⟩
    simp only [List.map_cons, PyData.depthAll, PyData.depth]
    omega
def Shn (d : PyData) : Prop := d.showable = true ∧ d.hasDict = false ∧ d.depth ≤ 50 ∧ d.shown.length ≤ sizeLine
theorem strs_sh {zs : List Str} (h : zs.length ≤ 100) (a : ∀ z ∈ zs, Asc z ∧ z.length ≤ 100) : Shn (.list (zs.map .str)) := by
  obtain ⟨h1, h2, h3⟩ := sh_strs zs
  refine ⟨by simp only [PyData.showable]; exact h1, by simp only [PyData.hasDict]; exact h2, by simp only [PyData.depth]; omega, ?_⟩
  refine small_shown (n := 1002) (fun d hd => ?_) ?_
  · obtain ⟨z, hz, rfl⟩ := List.mem_map.mp hd
    exact shown_str (a z hz).1 (a z hz).2
  · rw [List.length_map]
    exact Nat.le_trans (show zs.length * 1004 + 2 ≤ 100402 by omega) (by decide)
theorem bls_sh {bs : List Bool} (h : bs.length ≤ 100) : Shn (.list (bs.map .bool)) := by
  obtain ⟨h1, h2, h3⟩ := sh_bls bs
  refine ⟨by simp only [PyData.showable]; exact h1, by simp only [PyData.hasDict]; exact h2, by simp only [PyData.depth]; omega, ?_⟩
  refine small_shown (n := 10) (fun d hd => ?_) ?_
  · obtain ⟨b, _, rfl⟩ := List.mem_map.mp hd
    exact Nat.le_trans shown_bool (by decide)
  · rw [List.length_map]
    exact Nat.le_trans (show bs.length * 12 + 2 ≤ 1202 by omega) (by decide)
section
variable {K : PySem.W.Frag} {H : Hp}
theorem dp_strs : ∀ zs : List Str, DpAll K H (zs.map V.str) (zs.map PyData.str)
  | [] => .nil
  | z :: r => .cons (.str z) (dp_strs r)
theorem dp_bls : ∀ bs : List Bool, DpAll K H (bs.map V.bl) (bs.map PyData.bool)
  | [] => .nil
  | b :: r => .cons (.bl b) (dp_bls r)
theorem rp_strs {a : Addr} {zs : List Str} {Q : VK} (ha : H a = some (.lst (zs.map V.str))) (h : zs.length ≤ 100) (n : ∀ z ∈ zs, Asc z ∧ z.length ≤ 100) (q : Q (.str (PyData.list (zs.map .str)).shown) H) : rReprD K [.ref a] H Q :=
  let ⟨s1, s2, s3, s4⟩ := strs_sh h n
  ⟨a, _, rfl, .lst (SqL.of ha) (dp_strs zs), s1, s2, s3, s4, q⟩
theorem rp_bls {a : Addr} {bs : List Bool} {Q : VK} (ha : H a = some (.lst (bs.map V.bl))) (h : bs.length ≤ 100) (q : Q (.str (PyData.list (bs.map .bool)).shown) H) : rReprD K [.ref a] H Q :=
  let ⟨s1, s2, s3, s4⟩ := bls_sh h
  ⟨a, _, rfl, .lst (SqL.of ha) (dp_bls bs), s1, s2, s3, s4, q⟩
end
end SP
/-! Equal data compared; lists of lists of texts. -/
namespace SP
open PySem PySem.Spec PyProof.Rows L2
section
variable {K : PySem.W.Frag} {H : Hp}
theorem ne_same {x y : V} {d : PyData} {n : Nat} {Q : VK} (hx : Dp K H x d) (hy : Dp K H y d) (l : Lay n d) (k : n ≤ 64) (q : Q (.bl false) H) : rNeD K x y H Q := ⟨d, d, hx, hy, l.shaped k, l.shaped k, by
  rw [SeqAt.eqv_refl d l.1]
  exact q⟩
theorem eq_same {x y : V} {d : PyData} {n : Nat} {Q : VK} (hx : Dp K H x d) (hy : Dp K H y d) (l : Lay n d) (k : n ≤ 64) (q : Q (.bl true) H) : rEqD K x y H Q := ⟨d, d, hx, hy, l.shaped k, l.shaped k, by
  rw [SeqAt.eqv_refl d l.1]
  exact q⟩
/-- signs below 128 -/
def Lo (z : Str) : Prop := z.cps.toList.all (fun c => decide (c < 128)) = true
theorem Lo.lay {z : Str} (h : Lo z) : Lay 0 (.str z) := Lay.str h
theorem lay_strs {l : List Str} (h : ∀ z ∈ l, Lo z) : Lay 1 (.list (l.map .str)) := Lay.list fun d hd => by
  obtain ⟨z, hz, rfl⟩ := List.mem_map.mp hd
  exact (h z hz).lay
/-- values that are lists of texts -/
def LLs (H : Hp) (us : List V) (L : List (List Str)) : Prop := us.length = L.length ∧ ∀ (i : Nat) (v : V), us[i]? = some v → ∃ l, L[i]? = some l ∧ TxAt H v l
theorem LLs.nil : LLs H [] [] := ⟨rfl, fun i v h => by simp at h⟩
theorem LLs.same {H' : Hp} {us : List V} {L : List (List Str)} (h : LLs H us L) (s : Same H H') : LLs H' us L := ⟨h.1, fun i v e => let ⟨l, a, b⟩ := h.2 i v e; ⟨l, a, b.same s⟩⟩
theorem LLs.snoc {us : List V} {L : List (List Str)} {v : V} {l : List Str} (h : LLs H us L) (k : TxAt H v l) : LLs H (us ++ [v]) (L ++ [l]) := ⟨by rw [List.length_append, List.length_append, h.1]; rfl, fun i x hx => by
  by_cases c : i < us.length
  · rw [List.getElem?_append_left c] at hx
    obtain ⟨l', e1, e2⟩ := h.2 i x hx
    exact ⟨l', by rw [List.getElem?_append_left (by rw [← h.1]; exact c)]; exact e1, e2⟩
  · rw [List.getElem?_append_right (by omega)] at hx
    have c2 : i - us.length = 0 := by
      have := (List.getElem?_eq_some_iff.mp hx).1
      simp at this
      omega
    rw [c2] at hx
    injection hx with hx
    subst hx
    exact ⟨l, by rw [List.getElem?_append_right (by rw [← h.1]; omega), ← h.1, c2]; rfl, k⟩⟩
def llD (L : List (List Str)) : PyData := .list (L.map fun l => .list (l.map .str))
theorem LLs.dps : ∀ {us : List V} {L : List (List Str)}, LLs H us L → DpAll K H us (L.map fun l => .list (l.map .str))
  | [], L, h => by
    have : L = [] := List.eq_nil_of_length_eq_zero h.1.symm
    subst this
    exact .nil
  | u :: us, L, h => by
    obtain ⟨l, L, rfl⟩ : ∃ l t, L = l :: t := by
      cases L with
      | nil => cases h.1
      | cons r t => exact ⟨r, t, rfl⟩
    obtain ⟨l', e1, q, rfl, hq⟩ := h.2 0 u rfl
    injection e1 with e1
    subst e1
    exact .cons (.lst (SqL.of hq) (dp_strs l)) (LLs.dps (us := us) (L := L) ⟨Nat.succ.inj h.1, fun i v e => h.2 (i + 1) v e⟩)
theorem LLs.dp {us : List V} {L : List (List Str)} {a : Addr} (h : LLs H us L) (ha : H a = some (.lst us)) : Dp K H (.ref a) (llD L) := .lst (SqL.of ha) h.dps
theorem lay_ll {L : List (List Str)} (h : ∀ l ∈ L, ∀ z ∈ l, Lo z) : Lay 2 (llD L) := Lay.list fun d hd => by
  obtain ⟨l, hl, rfl⟩ := List.mem_map.mp hd
  exact lay_strs (h l hl)
theorem LLs.kp {D : Addr} {H' : Hp} {us : List V} {L : List (List Str)} (h : LLs H us L) (n : V.ref D ∉ us) (k : Kp D H H') : LLs H' us L := ⟨h.1, fun i v e => let ⟨l, a, q, ev, b⟩ := h.2 i v e; ⟨l, a, q, ev, k _ _ b fun z => n (by rw [← z, ← ev]; exact List.mem_of_getElem? e)⟩⟩
/-- [f(x) for x in texts], each a new list of texts -/
theorem lc_lls {J : It} {G : Hp → Prop} {g : TG} {tt : TT} {te : TE} {vs : List Nat} {σ : L2.St} {H1 : Hp} {D : Addr} {Qd : Hp → Prop} {us : List Str} (F : Str → List Str) (w : Walk J (us.map V.str).length G (YAt (us.map V.str))) (nD : H1 D = none) (lu : us.length ≤ 1000) (hG : ∀ H, Same H1 H → G H)
    (hs : ∀ (u : Str) (H' : Hp) (Cn : V → Hp → Prop) (Z : Hp → Prop), u ∈ us → Same H1 H' → (∀ q H2, Same H' H2 → H' q = none → H2 q = some (.lst ((F u).map V.str)) → Cn (.ref q) H2) → g (.str u) (wipe σ vs) H' fun σ2 H2 => wipe σ2 vs = wipe σ vs ∧ tt σ2 H2 fun b H3 => if b = true then te σ2 H3 Cn else Z H3)
    (hd : ∀ H2 ws, Same H1 H2 → H2 D = some (.lst ws) → LLs H2 ws (us.map F) → Qd H2) :
    ∃ W : Nat → Nat → Hp → Prop, (∃ m, W 0 m (upd H1 D (.lst []))) ∧ ∀ i m H, W i m H →
      (J.stop i H ∧ Qd H) ∨ (J.go i H ∧ ∃ Nx : Hp → Prop, (∀ H', Nx H' → ∃ m', m' < m ∧ W (i + 1) m' H') ∧ ∀ x H', J.yld i H x H' → g x (wipe σ vs) H' fun σ2 H2 => wipe σ2 vs = wipe σ vs ∧ tt σ2 H2 fun b H3 =>
        if b = true then te σ2 H3 fun y H4 => ∃ acc, H4 D = some (.lst acc) ∧ acc.length < sizeLine ∧ Nx (upd H4 D (.lst (acc ++ [y]))) else Nx H3) := by
  refine lc_it w (fun i H' => Same H1 H' ∧ ∃ ws, H' D = some (.lst ws) ∧ LLs H' ws ((us.take i).map F) ∧ V.ref D ∉ ws) ⟨Same.new nD, [], upd_same, LLs.nil, List.not_mem_nil⟩ (fun i H _ k => hG H k.1) (fun i x H H' hi k yy => ?_) (fun H2 k => ?_)
  · obtain ⟨s, ws, hD, ll, nm⟩ := k
    obtain ⟨rfl, hv⟩ := yy
    rw [List.getElem?_map] at hv
    cases ex : us[i]? with
    | none => rw [ex] at hv; cases hv
    | some u =>
      rw [ex] at hv
      injection hv with hv
      subst hv
      refine hs u _ _ _ (List.mem_of_getElem? ex) s fun q H2 s2 nq hq => ⟨ws, s2 _ _ hD, ?_, Same.put (s.trans s2) nD, ws ++ [.ref q], upd_same, ?_, ?_⟩
      · have := ll.1
        rw [List.length_map, List.length_take] at this
        exact Nat.lt_of_le_of_lt (show ws.length ≤ 1000 by omega) (by decide)
      · have qD : q ≠ D := fun z => by rw [z, hD] at nq; cases nq
        rw [← take_snoc ex, List.map_append]
        exact LLs.snoc ((ll.same s2).kp nm Kp.upd) ⟨q, rfl, by rw [upd_ne qD]; exact hq⟩
      · intro z
        rcases List.mem_append.mp z with z | z
        · exact nm z
        · have := List.mem_singleton.mp z
          injection this with this
          rw [← this, hD] at nq
          cases nq
  · obtain ⟨s, ws, hD, ll, _⟩ := k
    rw [List.length_map, List.take_length] at ll
    exact hd H2 ws s hD ll
end
end SP
/-! k13: a row is read right. -/
namespace SP
open PySem PySem.Spec PyProof.Rows L2 TL


def tdD (z : Str) : Option (Int × Int) → List PyData
  | some f => [.str "amount", .bool true, .int f.1, .int f.2, .str z]
  | none => [.str "text", .int 1, .bool true]
theorem td_dp {K : PySem.W.Frag} {H : Hp} {l : Addr} {z : Str} {o : Option (Int × Int)} (h : H l = some (.lst (tdV z o))) : Dp K H (.ref l) (.list (tdD z o)) := by
  refine .lst (SqL.of h) ?_
  cases o with
  | none => exact .cons (.str _) (.cons (.int _) (.cons (.bl _) .nil))
  | some f => exact .cons (.str _) (.cons (.bl _) (.cons (.int _) (.cons (.int _) (.cons (.str _) .nil))))
theorem shown_int9 {i : Int} (h : i.natAbs < 2 ^ 1900) : (PyData.int i).shown.length ≤ 4000 := by
  have l1 := len1921 (small_log h (by decide) (by decide))
  have e : (PyData.int i).shown = PySem.Str.ofString (toString i) := by simp only [PyData.shown]
  rw [e]
  omega
theorem td_ok {z : Str} {o : Option (Int × Int)} (hz : z.length ≤ 300) (az : Asc z) (h : ∀ f, o = some f → f.1.natAbs < 2 ^ 1900 ∧ f.2.natAbs < 2 ^ 1900) :
    (PyData.list (tdD z o)).hasDict = false ∧ (PyData.list (tdD z o)).showable = true ∧ (PyData.list (tdD z o)).depth ≤ 50 ∧ (PyData.list (tdD z o)).shown.length ≤ sizeLine := by
  have st : ∀ (s : String), s.length ≤ 100 → (PyData.str (Str.ofString s)).shown.length ≤ 4000 ∨ True := fun _ _ => .inr trivial
  have e2 : ∀ x : Str, (PyData.str x).shown = reprText x := fun x => by simp only [PyData.shown]
  have e3 : ∀ b : Bool, (PyData.bool b).shown.length ≤ 4000 := fun b => by cases b <;> decide
  cases o with
  | none =>
    refine ⟨by simp [tdD, PyData.hasDict, PyData.hasDictAll], by simp [tdD, PyData.showable, PyData.showableAll]; decide, by simp [tdD, PyData.depth, PyData.depthAll], small_shown (n := 4000) (fun d hd => ?_) (by show 3 * 4002 + 2 ≤ sizeLine; decide)⟩
    rcases List.mem_cons.mp hd with rfl | hd
    · decide +kernel
    rcases List.mem_cons.mp hd with rfl | hd
    · exact shown_int9 (by decide +kernel)
    · rw [List.mem_singleton.mp hd]
      exact e3 true
  | some f =>
    obtain ⟨h1, h2⟩ := h f rfl
    refine ⟨by simp [tdD, PyData.hasDict, PyData.hasDictAll], ?_, by simp [tdD, PyData.depth, PyData.depthAll], small_shown (n := 4000) (fun d hd => ?_) (by show 5 * 4002 + 2 ≤ sizeLine; decide)⟩
    · have a1 := small_log h1 (by decide) (by decide)
      have a2 := small_log h2 (by decide) (by decide)
      simp [tdD, PyData.showable, PyData.showableAll, a1, a2]
    rcases List.mem_cons.mp hd with rfl | hd
    · decide +kernel
    rcases List.mem_cons.mp hd with rfl | hd
    · exact e3 true
    rcases List.mem_cons.mp hd with rfl | hd
    · exact shown_int9 h1
    rcases List.mem_cons.mp hd with rfl | hd
    · exact shown_int9 h2
    · rw [List.mem_singleton.mp hd, e2]
      exact Nat.le_trans (repr_len az hz) (by decide)
section
variable {P : Program} {w : World} {K : PySem.W.Frag} {mg : Str → Option Value} {base : Heap} {C CE CP : Addr}
def spLRr : Sp := fun vs H Q _ => ∃ z : Str, vs = [.str z] ∧ z.length ≤ 300 ∧ Asc z ∧ ∀ H', Same H H' → Q (.bl true) H'
theorem scLRr : FnScope ["_law_row", "_law_read_here", "_law_due"] ["_law_row"] (defScope sLRr) := ⟨rfl, rfl, rfl, by decide +kernel, rfl, by decide +kernel, by decide +kernel⟩
theorem d_lrr (T : K13W K mg C CE CP) (R : ErrOk P w K mg base "InvalidText" CE (Str.ofString "line")) : DefG P w K mg base 10 "_law_is_right" ["_law_row"] spLRr := by
  have DTo := d_lto (P := P) (w := w) (base := base) T R
  have DNm := d_lnm (P := P) (w := w) (base := base) T R
  have DRd := d_lrd (P := P) (w := w) (base := base) T.toK13V
  refine T.tLRr.ok scLRr (fun vs H Q E h => ?_) (fun f cdv A out s H vs Q E gd hr h => ?_)
  · obtain ⟨z, rfl, _⟩ := h
    rfl
  · obtain ⟨z, rfl, hz, az, q⟩ := h
    refine ⟨_, (pss_cons (ps_set (i := 1) scLRr.nd rfl (Or.inl rfl) (pe_callD DRd gd (hr.mono (by decide)) (pa_cons (pv 0) pa_nil)))
  (pss_cons (ps_set (i := 2) scLRr.nd rfl (Or.inl rfl) (pe_ifExp (pt_cmpR op_isN (pv 1) pe_non (nomark _)) (pe_lst (pa_cons pe_str (pa_cons pe_int (pa_cons pe_bl pa_nil)))) (pe_lst (pa_cons pe_str (pa_cons pe_bl (pa_cons (pe_ix ix_tup (pv 1) pe_int (fun _ _ => rfl)) (pa_cons (pe_ix ix_tup (pv 1) pe_int (fun _ _ => rfl)) (pa_cons (pv 0) pa_nil))))))))
  (pss_one (ps_ret (pe_and (pe_cmpR op_eq (pe_callB (call_reprV gd hr.units) (by rfl) T.b_repr (by decide +kernel) (pa_cons (pe_callD DTo gd (hr.mono (by decide)) (pa_cons (pv 0) pa_nil)) pa_nil)) (pe_callB (call_reprV gd hr.units) (by rfl) T.b_repr (by decide +kernel) (pa_cons (pv 2) pa_nil)) (nomark _)) (pe_one (pe_cmpR op_eq (pe_callB (call_reprV gd hr.units) (by rfl) T.b_repr (by decide +kernel) (pa_cons (pe_callD DNm gd (hr.mono (by decide)) (pa_cons (pv 0) pa_nil)) pa_nil)) (pe_callB (call_reprV gd hr.units) (by rfl) T.b_repr (by decide +kernel) (pa_cons (pv 2) pa_nil)) (nomark _)))))))), ?_⟩
    obtain ⟨o1, o2, o3, o4⟩ := td_ok (o := rdS z) hz az (fun f e => ⟨(rdS_bd e hz).1, (rdS_bd e hz).2.1⟩)
    have last : ∀ (D : Ends) (v1 : V) (du : Addr) (H2 : Hp), Same H H2 → H2 du = some (.lst (tdV z (rdS z))) → D.rt = Q → tRet (tAndV (tOp rEq (tCB (rReprV K) (tCons (tCall (spLTo K) [] E0 (tCons (tVar 0) tNil)) tNil)) (tCB (rReprV K) (tCons (tVar 2) tNil))) (tOp rEq (tCB (rReprV K) (tCons (tCall (spLTo K) [] E0 (tCons (tVar 0) tNil)) tNil)) (tCB (rReprV K) (tCons (tVar 2) tNil)))) D [some (.str z), some v1, some (.ref du)] H2 := fun D v1 du H2 s2 hd eD => by
      refine ⟨_, rfl, .str z, rfl, .inl ⟨z, rfl, hz, fun l H3 s3 nl hl => ?_⟩⟩
      refine ⟨.ref l, _, rfl, td_dp hl, o1, o2, o3, o4, _, rfl, .ref du, _, rfl, td_dp (s3 _ _ hd), o1, o2, o3, o4, rfl, ?_⟩
      rw [decide_eq_true (show V.str (PyData.list (tdD z (rdS z))).shown = V.str (PyData.list (tdD z (rdS z))).shown from rfl)]
      refine ⟨true, rfl, iteT ?_⟩
      refine ⟨_, rfl, .str z, rfl, .inl ⟨z, rfl, hz, fun l2 H4 s4 nl2 hl2 => ?_⟩⟩
      refine ⟨.ref l2, _, rfl, td_dp hl2, o1, o2, o3, o4, _, rfl, .ref du, _, rfl, td_dp ((s3.trans s4) _ _ hd), o1, o2, o3, o4, rfl, ?_⟩
      rw [decide_eq_true (show V.str (PyData.list (tdD z (rdS z))).shown = V.str (PyData.list (tdD z (rdS z))).shown from rfl)]
      show D.rt (.bl true) H4
      rw [eD]
      exact q _ ((s2.trans s3).trans s4)
    refine ⟨_, rfl, z, rfl, hz, fun H1 s1 => ?_⟩
    cases er : rdS z with
    | none =>
      refine ⟨_, rfl, rfl, _, rfl, iteT ⟨by show 3 ≤ sizeLine; decide, fun l nl => ?_⟩⟩
      refine last _ _ l _ (s1.trans (Same.new nl)) ?_ rfl
      rw [er]
      exact upd_same
    | some fr =>
      refine fun p np => ?_
      have s2 : Same H1 (upd H1 p (.tup [.int fr.1, .int fr.2])) := Same.new np
      refine ⟨_, rfl, rfl, _, rfl, iteF ⟨_, rfl, p, _, 0, .int fr.1, rfl, rfl, SqT.of upd_same, rfl, _, rfl, p, _, 1, .int fr.2, rfl, rfl, SqT.of upd_same, rfl, _, rfl, (by show 5 ≤ sizeLine; decide), fun l nl => ?_⟩⟩
      refine last _ _ l _ ((s1.trans s2).trans (Same.new nl)) ?_ rfl
      rw [er]
      exact upd_same
end
end SP
/-! k13: other ways of writing. (Printed by gen13g.py.) -/
namespace SP
open PySem PySem.Spec PyProof.Rows L2 TL
abbrev sLOw : Stmt := top 28
structure K13X (K : PySem.W.Frag) (mg : Str → Option Value) (C CE CP : Addr) : Prop extends K13W K mg C CE CP where
  tLOw : Top K mg "_law_other_ways" sLOw ["_law_top", "_law_bottom"]


theorem Rg.add {n m : Nat} {a b : Str} (ha : Rg n a) (hb : Rg m b) (k : n + m ≤ 300) : a.length + b.length ≤ sizeLine := by
  have := (ha.app hb).len (Nat.le_trans k (by decide))
  rw [strLen_append] at this
  exact this
theorem rl (s : Str) (h : (tl s).length ≤ 3 ∧ ∀ c ∈ tl s, c < 128) : Rg 3 s := h
section
variable {P : Program} {w : World} {K : PySem.W.Frag} {mg : Str → Option Value} {base : Heap} {C CE CP : Addr}
def spLOw : Sp := fun vs H Q _ => ∃ t b : Int, vs = [.int t, .int b] ∧ t.natAbs < 10 ^ 10 ∧ b.natAbs < 10 ^ 8 ∧ ∀ (l : Addr) (zs : List Str) (H' : Hp), Same H H' → H l = none → H' l = some (.lst (zs.map V.str)) → zs.length ≤ 17 → (∀ z ∈ zs, Rg 60 z) → Q (.ref l) H'
theorem scLOw : FnScope ["_law_top", "_law_bottom", "_law_found"] ["_law_top", "_law_bottom"] (defScope sLOw) := ⟨rfl, rfl, rfl, by decide +kernel, rfl, by decide +kernel, by decide +kernel⟩
theorem d_low (T : K13X K mg C CE CP) : DefG P w K mg base 1 "_law_other_ways" ["_law_top", "_law_bottom"] spLOw := by
  refine T.tLOw.ok scLOw (fun vs H Q E h => ?_) (fun f cdv A out s H vs Q E gd hr h => ?_)
  · obtain ⟨t, b, rfl, _⟩ := h
    rfl
  · obtain ⟨t, b, rfl, ht, hb, q⟩ := h
    refine ⟨_, (pss_cons (ps_set (i := 2) scLOw.nd rfl (Or.inl rfl) (pe_lst (pa_cons (pe_op op_add_str (pe_op op_add_str (pe_callTy call_str_int (by rfl) T.b_str (by decide +kernel) (pa_cons (pv 0) pa_nil)) pe_str) (pe_callTy call_str_int (by rfl) T.b_str (by decide +kernel) (pa_cons (pv 1) pa_nil))) (pa_cons (pe_op op_add_str (pe_op op_add_str (pe_callTy call_str_int (by rfl) T.b_str (by decide +kernel) (pa_cons (pe_op op_mul pe_int (pv 0)) pa_nil)) pe_str) (pe_callTy call_str_int (by rfl) T.b_str (by decide +kernel) (pa_cons (pe_op op_mul pe_int (pv 1)) pa_nil))) (pa_cons (pe_op op_add_str pe_str (pe_callTy call_str_int (by rfl) T.b_str (by decide +kernel) (pa_cons (pv 0) pa_nil))) (pa_cons (pe_op op_add_str pe_str (pe_callTy call_str_int (by rfl) T.b_str (by decide +kernel) (pa_cons (pe_callB call_abs (by rfl) T.b_abs (by decide +kernel) (pa_cons (pv 0) pa_nil)) pa_nil))) pa_nil))))))
  (pss_cons (ps_set (i := 2) scLOw.nd rfl (Or.inl rfl) (pe_op op_cat (pv 2) (pe_lst (pa_cons (pe_op op_add_str (pe_op op_add_str (pe_callTy call_str_int (by rfl) T.b_str (by decide +kernel) (pa_cons (pv 0) pa_nil)) pe_str) (pe_callTy call_str_int (by rfl) T.b_str (by decide +kernel) (pa_cons (pv 1) pa_nil))) (pa_cons (pe_op op_add_str (pe_op op_add_str (pe_callTy call_str_int (by rfl) T.b_str (by decide +kernel) (pa_cons (pv 0) pa_nil)) pe_str) (pe_callTy call_str_int (by rfl) T.b_str (by decide +kernel) (pa_cons (pv 1) pa_nil))) (pa_cons (pe_op op_add_str pe_str (pe_callTy call_str_int (by rfl) T.b_str (by decide +kernel) (pa_cons (pv 0) pa_nil))) (pa_cons (pe_op op_add_str (pe_callTy call_str_int (by rfl) T.b_str (by decide +kernel) (pa_cons (pv 0) pa_nil)) pe_str) pa_nil)))))))
  (pss_one (ps_ret (pe_op op_cat (pv 2) (pe_lst (pa_cons (pe_op op_add_str pe_str (pe_callTy call_str_int (by rfl) T.b_str (by decide +kernel) (pa_cons (pe_callB call_abs (by rfl) T.b_abs (by decide +kernel) (pa_cons (pv 0) pa_nil)) pa_nil))) (pa_cons (pe_op op_add_str (pe_callTy call_str_int (by rfl) T.b_str (by decide +kernel) (pa_cons (pv 0) pa_nil)) pe_str) (pa_cons (pe_op op_add_str pe_str (pe_callTy call_str_int (by rfl) T.b_str (by decide +kernel) (pa_cons (pv 1) pa_nil))) (pa_cons (pe_op op_add_str (pe_callTy call_str_int (by rfl) T.b_str (by decide +kernel) (pa_cons (pv 0) pa_nil)) pe_str) (pa_cons pe_str (pa_cons pe_str (pa_cons pe_str (pa_cons pe_str (pa_cons pe_str pa_nil))))))))))))))), ?_⟩
    have p10 : (10 : Nat) ^ 10 < 2 ^ 40 := by decide
    have p8 : (10 : Nat) ^ 8 < 2 ^ 40 := by decide
    have e40 : (2 : Nat) ^ 40 = 1099511627776 := by decide
    have e60 : (2 : Nat) ^ 60 = 1152921504606846976 := by decide
    have e10 : (10 : Nat) ^ 10 = 10000000000 := by decide
    have e8 : (10 : Nat) ^ 8 = 100000000 := by decide
    have e11 : (10 : Nat) ^ 11 = 100000000000 := by decide
    have e9 : (10 : Nat) ^ 9 = 1000000000 := by decide
    have gT : t.natAbs.log2 < 1920 := small_log (n := 60) (by omega) (by decide) (by decide)
    have gB : b.natAbs.log2 < 1920 := small_log (n := 60) (by omega) (by decide) (by decide)
    have gT2 : (2 * t).natAbs.log2 < 1920 := small_log (n := 60) (by omega) (by decide) (by decide)
    have gB2 : (2 * b).natAbs.log2 < 1920 := small_log (n := 60) (by omega) (by decide) (by decide)
    have mT : CMul 2 t := .inl ⟨by decide, by decide⟩
    have mB : CMul 2 b := .inl ⟨by decide, by decide⟩
    have gA : (if t < 0 then -t else t).natAbs.log2 < 1920 := small_log (n := 60) (by split <;> omega) (by decide) (by decide)
    have rT := rg_int (k := 10) (by decide) ht
    have rB := rg_int (k := 8) (by decide) hb
    have rT2 := rg_int (k := 11) (d := 2 * t) (by decide) (by omega)
    have rB2 := rg_int (k := 9) (d := 2 * b) (by decide) (by omega)
    have rA := rg_int (k := 10) (d := if t < 0 then -t else t) (by decide) (by split <;> omega)
    refine ⟨_, rfl, _, rfl, gT, _, _, rfl, rfl, rT.add (rl "/" ⟨by decide +kernel, by decide +kernel⟩) (by decide), _, rfl, _, rfl, gB, _, _, rfl, rfl, (rT.app (rl "/" ⟨by decide +kernel, by decide +kernel⟩)).add rB (by decide), _, rfl, _, _, rfl, rfl, mT, _, rfl, gT2, _, _, rfl, rfl, rT2.add (rl "/" ⟨by decide +kernel, by decide +kernel⟩) (by decide), _, rfl, _, _, rfl, rfl, mB, _, rfl, gB2, _, _, rfl, rfl, (rT2.app (rl "/" ⟨by decide +kernel, by decide +kernel⟩)).add rB2 (by decide), _, rfl, _, rfl, gT, _, _, rfl, rfl, (rl "+" ⟨by decide +kernel, by decide +kernel⟩).add rT (by decide), _, rfl, _, rfl, _, rfl, gA, _, _, rfl, rfl, (rl "0" ⟨by decide +kernel, by decide +kernel⟩).add rA (by decide), (by show 4 ≤ sizeLine; decide), fun l0 n0 => ?_⟩
    obtain ⟨zs0, ez0⟩ : ∃ zs : List Str, zs = [(((Str.ofString (toString t)) ++ ("/" : Str)) ++ (Str.ofString (toString b))), (((Str.ofString (toString (2 * t))) ++ ("/" : Str)) ++ (Str.ofString (toString (2 * b)))), (("+" : Str) ++ (Str.ofString (toString t))), (("0" : Str) ++ (Str.ofString (toString (if t < 0 then -t else t))))] := ⟨_, rfl⟩
    have rz0 : ∀ z ∈ zs0, Rg 60 z := fun z hz => by
      rw [ez0] at hz
      rcases List.mem_cons.mp hz with rfl | hz
      · exact ((rT.app (rl "/" ⟨by decide +kernel, by decide +kernel⟩)).app rB).mono (by decide)
      rcases List.mem_cons.mp hz with rfl | hz
      · exact ((rT2.app (rl "/" ⟨by decide +kernel, by decide +kernel⟩)).app rB2).mono (by decide)
      rcases List.mem_cons.mp hz with rfl | hz
      · exact ((rl "+" ⟨by decide +kernel, by decide +kernel⟩).app rT).mono (by decide)
      rw [List.mem_singleton.mp hz]
      exact ((rl "0" ⟨by decide +kernel, by decide +kernel⟩).app rA).mono (by decide)
    obtain ⟨H0, q0, s0, j0⟩ := mko n0 (.lst (zs0.map V.str))
    have len0 : zs0.length = 4 := by rw [ez0]; rfl
    rw [ez0] at q0
    replace q0 : upd H l0 (.lst [.str (((Str.ofString (toString t)) ++ ("/" : Str)) ++ (Str.ofString (toString b))), .str (((Str.ofString (toString (2 * t))) ++ ("/" : Str)) ++ (Str.ofString (toString (2 * b)))), .str (("+" : Str) ++ (Str.ofString (toString t))), .str (("0" : Str) ++ (Str.ofString (toString (if t < 0 then -t else t))))]) = H0 := q0
    rw [q0]
    have sA : Same H H0 := s0
    obtain ⟨J1, eJ1⟩ : ∃ J, J = H0 := ⟨_, rfl⟩
    rw [← eJ1] at j0 sA ⊢
    have jA : J1 l0 = some (.lst (zs0.map V.str)) := j0
    obtain ⟨zA, eA⟩ : ∃ z, z = zs0 := ⟨_, rfl⟩
    rw [← eA] at jA len0
    refine ⟨_, rfl, _, rfl, _, rfl, gT, _, _, rfl, rfl, rT.add (rl "/-" ⟨by decide +kernel, by decide +kernel⟩) (by decide), _, rfl, _, rfl, gB, _, _, rfl, rfl, (rT.app (rl "/-" ⟨by decide +kernel, by decide +kernel⟩)).add rB (by decide), _, rfl, _, rfl, gT, _, _, rfl, rfl, rT.add (rl " / " ⟨by decide +kernel, by decide +kernel⟩) (by decide), _, rfl, _, rfl, gB, _, _, rfl, rfl, (rT.app (rl " / " ⟨by decide +kernel, by decide +kernel⟩)).add rB (by decide), _, rfl, _, rfl, gT, _, _, rfl, rfl, (rl " " ⟨by decide +kernel, by decide +kernel⟩).add rT (by decide), _, rfl, _, rfl, gT, _, _, rfl, rfl, rT.add (rl ".0" ⟨by decide +kernel, by decide +kernel⟩) (by decide), (by show 4 ≤ sizeLine; decide), fun l1 n1 => ?_⟩
    obtain ⟨zs1, ez1⟩ : ∃ zs : List Str, zs = [(((Str.ofString (toString t)) ++ ("/-" : Str)) ++ (Str.ofString (toString b))), (((Str.ofString (toString t)) ++ (" / " : Str)) ++ (Str.ofString (toString b))), ((" " : Str) ++ (Str.ofString (toString t))), ((Str.ofString (toString t)) ++ (".0" : Str))] := ⟨_, rfl⟩
    have rz1 : ∀ z ∈ zs1, Rg 60 z := fun z hz => by
      rw [ez1] at hz
      rcases List.mem_cons.mp hz with rfl | hz
      · exact ((rT.app (rl "/-" ⟨by decide +kernel, by decide +kernel⟩)).app rB).mono (by decide)
      rcases List.mem_cons.mp hz with rfl | hz
      · exact ((rT.app (rl " / " ⟨by decide +kernel, by decide +kernel⟩)).app rB).mono (by decide)
      rcases List.mem_cons.mp hz with rfl | hz
      · exact ((rl " " ⟨by decide +kernel, by decide +kernel⟩).app rT).mono (by decide)
      rw [List.mem_singleton.mp hz]
      exact (rT.app (rl ".0" ⟨by decide +kernel, by decide +kernel⟩)).mono (by decide)
    obtain ⟨H1, q1, s1, j1⟩ := mko n1 (.lst (zs1.map V.str))
    have len1 : zs1.length = 4 := by rw [ez1]; rfl
    rw [ez1] at q1
    replace q1 : upd J1 l1 (.lst [.str (((Str.ofString (toString t)) ++ ("/-" : Str)) ++ (Str.ofString (toString b))), .str (((Str.ofString (toString t)) ++ (" / " : Str)) ++ (Str.ofString (toString b))), .str ((" " : Str) ++ (Str.ofString (toString t))), .str ((Str.ofString (toString t)) ++ (".0" : Str))]) = H1 := q1
    rw [q1]
    refine ⟨l0, l1, zA.map V.str, zs1.map V.str, rfl, rfl, s1 _ _ jA, j1, by rw [List.length_map, List.length_map]; exact Nat.le_trans (show _ ≤ 100 by omega) (by decide), fun m1 nm1 => ?_⟩
    obtain ⟨J2, q2, sm1, jm1⟩ := mko nm1 (.lst (zA.map V.str ++ zs1.map V.str))
    rw [q2]
    have sB : Same H J2 := (sA.trans s1).trans sm1
    refine ⟨_, rfl, _, rfl, _, rfl, _, rfl, gA, _, _, rfl, rfl, (rl "--" ⟨by decide +kernel, by decide +kernel⟩).add rA (by decide), _, rfl, _, rfl, gT, _, _, rfl, rfl, rT.add (rl "/" ⟨by decide +kernel, by decide +kernel⟩) (by decide), _, rfl, _, rfl, gB, _, _, rfl, rfl, (rl "/" ⟨by decide +kernel, by decide +kernel⟩).add rB (by decide), _, rfl, _, rfl, gT, _, _, rfl, rfl, rT.add (rl "/0" ⟨by decide +kernel, by decide +kernel⟩) (by decide), (by show 9 ≤ sizeLine; decide), fun l2 n2 => ?_⟩
    obtain ⟨zs2, ez2⟩ : ∃ zs : List Str, zs = [(("--" : Str) ++ (Str.ofString (toString (if t < 0 then -t else t)))), ((Str.ofString (toString t)) ++ ("/" : Str)), (("/" : Str) ++ (Str.ofString (toString b))), ((Str.ofString (toString t)) ++ ("/0" : Str)), ("" : Str), ("-" : Str), ("/" : Str), ("-0" : Str), ("0/1" : Str)] := ⟨_, rfl⟩
    have rz2 : ∀ z ∈ zs2, Rg 60 z := fun z hz => by
      rw [ez2] at hz
      rcases List.mem_cons.mp hz with rfl | hz
      · exact ((rl "--" ⟨by decide +kernel, by decide +kernel⟩).app rA).mono (by decide)
      rcases List.mem_cons.mp hz with rfl | hz
      · exact (rT.app (rl "/" ⟨by decide +kernel, by decide +kernel⟩)).mono (by decide)
      rcases List.mem_cons.mp hz with rfl | hz
      · exact ((rl "/" ⟨by decide +kernel, by decide +kernel⟩).app rB).mono (by decide)
      rcases List.mem_cons.mp hz with rfl | hz
      · exact (rT.app (rl "/0" ⟨by decide +kernel, by decide +kernel⟩)).mono (by decide)
      rcases List.mem_cons.mp hz with rfl | hz
      · exact (rl "" ⟨by decide +kernel, by decide +kernel⟩).mono (by decide)
      rcases List.mem_cons.mp hz with rfl | hz
      · exact (rl "-" ⟨by decide +kernel, by decide +kernel⟩).mono (by decide)
      rcases List.mem_cons.mp hz with rfl | hz
      · exact (rl "/" ⟨by decide +kernel, by decide +kernel⟩).mono (by decide)
      rcases List.mem_cons.mp hz with rfl | hz
      · exact (rl "-0" ⟨by decide +kernel, by decide +kernel⟩).mono (by decide)
      rw [List.mem_singleton.mp hz]
      exact (rl "0/1" ⟨by decide +kernel, by decide +kernel⟩).mono (by decide)
    obtain ⟨H2, q2, s2, j2⟩ := mko n2 (.lst (zs2.map V.str))
    have len2 : zs2.length = 9 := by rw [ez2]; rfl
    rw [ez2] at q2
    replace q2 : upd J2 l2 (.lst [.str (("--" : Str) ++ (Str.ofString (toString (if t < 0 then -t else t)))), .str ((Str.ofString (toString t)) ++ ("/" : Str)), .str (("/" : Str) ++ (Str.ofString (toString b))), .str ((Str.ofString (toString t)) ++ ("/0" : Str)), .str ("" : Str), .str ("-" : Str), .str ("/" : Str), .str ("-0" : Str), .str ("0/1" : Str)]) = H2 := q2
    rw [q2]
    refine ⟨m1, l2, _, zs2.map V.str, rfl, rfl, s2 _ _ jm1, j2, by rw [List.length_append, List.length_map, List.length_map, List.length_map]; exact Nat.le_trans (show _ ≤ 100 by omega) (by decide), fun m2 nm2 => ?_⟩
    have sC := (sB.trans s2).trans (Same.new (o := .lst ((zA.map V.str ++ zs1.map V.str) ++ zs2.map V.str)) nm2)
    refine q m2 ((zA ++ zs1) ++ zs2) _ sC ((sB.trans s2).free nm2) (by rw [List.map_append, List.map_append]; exact upd_same) (by rw [List.length_append, List.length_append]; omega) fun z hz => ?_
    rcases List.mem_append.mp hz with hz | hz
    · rcases List.mem_append.mp hz with hz | hz
      · exact rz0 z (by rw [← eA]; exact hz)
      · exact rz1 z hz
    · exact rz2 z hz
end
end SP
/-! Refusals of the amounts' part: defs that raise. -/
namespace SP
open PySem PySem.Spec PyProof.Rows L2


section
variable {P : Program} {w : World} {K : PySem.W.Frag} {mg : Str → Option Value} {base : Heap} {C CE : Addr}
/-- a value whose kind is told, that is no amount -/
def NoAm (K : PySem.W.Frag) (C : Addr) (H : Hp) (v : V) : Prop := ∃ (t : Value) (b1 b2 : Bool), TyX K H v t ∧ PySem.W.kitOne K t (.ref C) = some false ∧ PySem.W.kitOne K t (.type "int") = some b1 ∧ PySem.W.kitOne K t (.type "bool") = some b2 ∧ (b1 && !b2) = false
/-- refused with an error of the class at CE that bears v -/
def Refused (CE : Addr) (H : Hp) (E : XK) (v : V) : Prop := ∀ d, H d = none → E (.ref CE) (some d) (upd H d (.xd [(Str.ofString "value", v)]))
def spOfR (K : PySem.W.Frag) (C CE : Addr) : Sp := fun vs H _ E => ∃ v : V, vs = [v] ∧ NoAm K C H v ∧ Refused CE H E v
theorem ok_ofR {f : Addr} {fd : FuncData} (F : Fun K "amount_of" "amount_of" sOf f fd) (T : AmTxt K mg C) (R : ErrOk P w K mg base "InvalidAmount" CE (Str.ofString "value")) : FnG P w K mg base (L2.CX P w) 4 f fd ["value"] (spOfR K C CE) := by
  have DI := d_ii (P := P) (w := w) (base := base) T
  refine okG F scOf (fun vs H Q E h => ?_) (fun cdv A out s H vs Q E gd hr h => ?_)
  · obtain ⟨v, rfl, _⟩ := h
    rfl
  · obtain ⟨v, rfl, ⟨t, b1, b2, ty, kC, k1, k2, no⟩, q⟩ := h
    have TK : Takes (cxOf (L2.CX P w) P w K mg base ["value"] "amount_of" (defScope sOf) f cdv A out s H E) (fun cls d _ H => E cls d H) := takes_of rfl rfl rfl rfl
    refine ⟨_, (pss_cons (ps_if (pt_val (pe_callB call_isi (by rfl) T.b_isinstance (by decide +kernel) (pa_cons (pv 0) (pa_cons (pe_glob (v := .ref C) (by rfl) T.gC rfl) pa_nil)))) (pss_one (ps_ret (pv 0))) pss_nil)
  (pss_cons (ps_if (pt_not (pt_val (pe_callO DI (hr.mono (by decide)) (pa_cons (pv 0) pa_nil)))) (pss_one (ps_err R (hr.mono (by decide)) rfl TK (pa_cons (pv 0) pa_nil))) pss_nil)
  (pss_one (ps_ret (pe_callC (rn_amount1 T (hr.mono (by decide))) T.gC (kpC T) (pa_cons (pv 0) pa_nil)))))), ?_⟩
    refine ⟨_, rfl, v, .ref C, t, .ref C, false, rfl, .own C, ty, kC, false, rfl, iteF ?_⟩
    refine ⟨_, rfl, v, t, b1, b2, rfl, ty, k1, k2, ?_⟩
    rw [no]
    refine ⟨false, rfl, iteT ?_⟩
    exact ⟨_, rfl, _, rfl, q⟩
/-- a value whose kind is told, that is no INTEGER -/
def NoI (K : PySem.W.Frag) (H : Hp) (v : V) : Prop := ∃ (t : Value) (b1 b2 : Bool), TyX K H v t ∧ PySem.W.kitOne K t (.type "int") = some b1 ∧ PySem.W.kitOne K t (.type "bool") = some b2 ∧ (b1 && !b2) = false
/-- which of the two is refused -/
def BadIn (K : PySem.W.Frag) (H : Hp) (tp bt v : V) : Prop := (NoI K H tp ∧ v = tp) ∨ (∃ i : Int, tp = .int i ∧ v = bt ∧ (NoI K H bt ∨ bt = .int 0))
def spInitR (K : PySem.W.Frag) (CE : Addr) : Sp := fun vs H _ E => ∃ s tp bt v : V, vs = [s, tp, bt] ∧ BadIn K H tp bt v ∧ Refused CE H E v
theorem ok_initR {fI : Addr} {fd : FuncData} (F : FunD K "__init__" "Amount.__init__" (defArgs sInit) (defBody sInit) (defScope sInit) [.int 1] [] fI fd) (T : AmTxt K mg C) (R : ErrOk P w K mg base "InvalidInteger" CE (Str.ofString "value")) :
    FnOk P w K mg base (L2.CX P w) 3 fI fd ["self", "top", "bottom"] (spInitR K CE) := by
  have DI := d_ii (P := P) (w := w) (base := base) T
  have DC := d_cd (P := P) (w := w) (base := base) T
  have DP := d_pl (P := P) (w := w) (base := base) T
  refine F.ok scIn (fun vs H Q E h => ?_) (fun cdv A out s H vs Q E hr h => ?_)
  · obtain ⟨z, tp, bt, v, rfl, _⟩ := h
    rfl
  · obtain ⟨z, tp, bt, v, rfl, bad, q⟩ := h
    have TK : Takes (cxOf (L2.CX P w) P w K mg base ["self", "top", "bottom", "divisor"] "Amount.__init__" (defScope sInit) fI cdv A out s H E) (fun cls d _ H => E cls d H) := takes_of rfl rfl rfl rfl
    refine ⟨_, (pss_cons (ps_if (pt_not (pt_val (pe_callO DI (hr.mono (by decide)) (pa_cons (pv 1) pa_nil)))) (pss_one (ps_err R hr rfl TK (pa_cons (pv 1) pa_nil))) pss_nil)
  (pss_cons (ps_if (PW.pt (pw_or (pt_not (pt_val (pe_callO DI (hr.mono (by decide)) (pa_cons (pv 2) pa_nil)))) (pw_or1 (pt_cmpR op_eq (pv 2) pe_int (nomark _))))) (pss_one (ps_err R hr rfl TK (pa_cons (pv 2) pa_nil))) pss_nil)
  (pss_cons (ps_set (i := 3) scIn.nd rfl (Or.inl rfl) (pe_op op_mul (pe_callO DC (hr.mono (by decide)) (pa_cons (pv 1) (pa_cons (pv 2) pa_nil))) (pe_ifExp (pt_cmpR op_gt (pv 2) pe_int (nomark _)) pe_int (pe_un un_neg pe_int))))
  (pss_cons (ps_fld (pv 0) (pe_op op_fdivA (pv 1) (pv 3)) rfl)
  (pss_cons (ps_fld (pv 0) (pe_op op_fdivA (pv 2) (pv 3)) rfl)
  (pss_one (ps_fld (pv 0) (pe_callO DP (hr.mono (by decide)) (pa_cons (pe_fld (pv 0) rfl) (pa_cons (pe_fld (pv 0) rfl) pa_nil))) rfl))))))), ?_⟩
    rcases bad with ⟨⟨t, b1, b2, ty, k1, k2, no⟩, rfl⟩ | ⟨i, rfl, rfl, bad⟩
    · refine ⟨_, rfl, _, t, b1, b2, rfl, ty, k1, k2, ?_⟩
      rw [no]
      exact ⟨false, rfl, iteT ⟨_, rfl, _, rfl, q⟩⟩
    · refine ⟨_, rfl, _, _, true, false, rfl, .base (.int i), kII, kIB, true, rfl, iteF ?_⟩
      rcases bad with ⟨t, b1, b2, ty, k1, k2, no⟩ | rfl
      · refine ⟨_, rfl, _, t, b1, b2, rfl, ty, k1, k2, ?_⟩
        rw [no]
        refine ⟨false, rfl, iteT (iteT ⟨_, rfl, _, rfl, q⟩)⟩
      · refine ⟨_, rfl, _, _, true, false, rfl, .base (.int 0), kII, kIB, true, rfl, iteF ?_⟩
        refine ⟨_, rfl, rfl, _, rfl, ?_⟩
        rw [decide_eq_true (show V.int 0 = V.int 0 from rfl)]
        exact iteT ⟨_, rfl, _, rfl, q⟩
theorem tyOf_same {H H' : Hp} {v : V} {t : Value} (h : TyOf K H v t) (s : Same H H') : TyOf K H' v t := by
  cases h with
  | non => exact .non
  | bl x => exact .bl x
  | int i => exact .int i
  | str x => exact .str x
  | flt x => exact .flt x
  | lst e => exact .lst (s _ _ e)
  | frz e => exact .frz (s _ _ e)
  | tup e => exact .tup (s _ _ e)
  | dK e => exact .dK (s _ _ e)
  | dT e => exact .dT (s _ _ e)
  | ins e cl ha hn htk hm => exact .ins (s _ _ e) cl ha hn htk hm
theorem tyX_same {H H' : Hp} {v : V} {t : Value} (h : TyX K H v t) (s : Same H H') : TyX K H' v t := by
  cases h with
  | base h => exact .base (tyOf_same h s)
  | byt b => exact .byt b
  | set e => exact .set (s _ _ e)
  | kList e c => exact .kList e c
  | kTuple e c => exact .kTuple e c
  | kDict e c => exact .kDict e c
  | fTuple e => exact .fTuple (s _ _ e)
  | fDict e => exact .fDict (s _ _ e)
theorem NoI.same {H H' : Hp} {v : V} (h : NoI K H v) (s : Same H H') : NoI K H' v := let ⟨t, b1, b2, ty, r⟩ := h; ⟨t, b1, b2, tyX_same ty s, r⟩
theorem BadIn.same {H H' : Hp} {tp bt v : V} (h : BadIn K H tp bt v) (s : Same H H') : BadIn K H' tp bt v := h.elim (fun ⟨a, b⟩ => .inl ⟨a.same s, b⟩) fun ⟨i, a, b, c⟩ => .inr ⟨i, a, b, c.elim (fun c => .inl (c.same s)) .inr⟩
/-- Amount(tp, bt), refused -/
def spMakeR (K : PySem.W.Frag) (CE : Addr) : Sp := fun vs H _ E => ∃ tp bt v : V, vs = [tp, bt] ∧ BadIn K H tp bt v ∧ ∀ H1, Same H H1 → Refused CE H1 E v
theorem rn_amountR {X : Cx} {E : XK} (T : AmTxt X.K X.mg C) (R : ErrOk X.prog X.w X.K X.mg X.base "InvalidInteger" CE (Str.ofString "value")) (tk : Takes X (fun cls d _ H => E cls d H)) (hr : Room 4 X.A) :
    Rn X C (spMakeR X.K CE) [] E ∧ Rn X C (spMakeR X.K CE) [.int 1] E := by
  obtain ⟨fI, fd, mkC, F⟩ := T.mkC
  have key : ∀ (dvs : List V) (ds : List Value), Vals dvs ds → Binds X.K fd ["self", "top", "bottom"] ds → Rn X C (spMakeR X.K CE) dvs E := fun dvs ds r hb => by
    intro pins σ H1 s Q us vs I rv h
    refine run_make mkC (ok_initR (P := X.prog) (w := X.w) (base := X.base) F T R) hr hb r (pass_of tk) I rv ?_
    obtain ⟨tp, bt, v, ev, bad, q⟩ := h
    intro x dx nx nd ne
    have s0 : Same H1 (upd (upd H1 dx (.own x)) x (.ins C dx [])) := fun b o e => by
      rw [upd_ne (ne_of_none e nx), upd_ne (ne_of_none e nd)]
      exact e
    exact ⟨.ref x, tp, bt, v, by rw [ev], bad.same s0, q _ s0⟩
  constructor
  · obtain ⟨ds, r, hb⟩ := F.binds1 (ps := ["self", "top", "bottom"]) 3 1 (by simp) rfl (fun Tp kV doc pm an cdv ct us its h1 h2 => match us, its, h1, h2 with | [_, _, _], [_], _, _ => ⟨_, rfl, rfl⟩)
    exact key _ _ r hb
  · obtain ⟨ds, r, hb⟩ := F.binds1 (ps := ["self", "top", "bottom"]) 2 0 (by simp) rfl (fun Tp kV doc pm an cdv ct us its h1 h2 => match us, its, h1, h2 with | [_, _], [_], _, _ => ⟨_, rfl, rfl⟩)
    exact key _ _ r hb
/-- amount_of(v), refused -/
theorem rn_ofR {X : Cx} {E : XK} (T : AmTxt X.K X.mg C) (O : AmOps X.K X.mg C) (R : ErrOk X.prog X.w X.K X.mg X.base "InvalidAmount" CE (Str.ofString "value")) (tk : Takes X (fun cls d _ H => E cls d H)) (gd : X.A.guards = some []) (hr : Room 4 X.A) :
    ∃ f, X.mg "amount_of" = some (.ref f) ∧ PySem.W.keepIn X.K (.ref f) = true ∧ Rn X f (spOfR X.K C CE) [] E := by
  obtain ⟨f, fd, hm, F, hb⟩ := O.tOf.ex
  exact ⟨f, hm, F.kp, rn_g (ok_ofR F T R) gd hr hb .nil (pass_of tk)⟩
end
end SP
/-! k13: a cell. -/
namespace SP
open PySem PySem.Spec PyProof.Rows L2 TL
abbrev sLRi : Stmt := top 29
structure K13Y (K : PySem.W.Frag) (mg : Str → Option Value) (C CE CP : Addr) : Prop extends K13X K mg C CE CP where
  tLRi : Top K mg "_law_right" sLRi ["_law_pot_here"]
  kCS : PySem.W.kitOne K (.ref C) (.type "str") = some false
  b_range : mg "range" = none


theorem Rg.ok {n : Nat} {z : Str} (h : Rg n z) (k : n ≤ 300) : z.length ≤ 300 ∧ Asc z := ⟨by rw [len_tl]; exact Nat.le_trans h.1 k, fun c hc => Nat.lt_trans (h.2 c hc) (by decide)⟩
theorem rg_sTxt {t b : Int} {n m : Nat} (hn : 0 < n) (hm : 0 < m) (ht : t.natAbs < 10 ^ n) (hb : b.natAbs < 10 ^ m) : Rg (n + m + 3) (sTxt t b) := by
  have a := rg_int hn ht
  have c := rg_int hm hb
  unfold sTxt
  split
  · exact a.mono (by omega)
  · have e : Rg 0 Str.empty := ⟨Nat.le_refl _, fun c hc => nomatch hc⟩
    have s : Rg 1 ("/" : Str) := ⟨by decide +kernel, by decide +kernel⟩
    exact (((e.app a).app s).app c).mono (by omega)
theorem kp_free13 {p l : Addr} {H H' : Hp} (k : Kp p H H') (lp : l ≠ p) (n : H' l = none) : H l = none := by
  cases e : H l with
  | none => rfl
  | some u =>
    rw [k _ _ e lp] at n
    cases n
section
variable {P : Program} {w : World} {K : PySem.W.Frag} {mg : Str → Option Value} {base : Heap} {C CE CP : Addr}
def spLRi : Sp := fun vs H Q _ => ∃ (p : Addr), vs = [.ref p] ∧ Pot H p ∧ ∀ H', Kp p H H' → Pot H' p → Q (.bl true) H'
theorem scLRi : FnScope ["_law_pot_here", "_law_row", "_law_spoilt_here", "_law_one", "_law_top", "_law_bottom", "_law_made", "_law_thing"] ["_law_pot_here"] (defScope sLRi) := ⟨rfl, rfl, rfl, by decide +kernel, rfl, by decide +kernel, by decide +kernel⟩
theorem d_lri (T : K13Y K mg C CE CP) (R : ErrOk P w K mg base "InvalidText" CE (Str.ofString "line")) : DefG P w K mg base 12 "_law_right" ["_law_pot_here"] spLRi := by
  have DD := d_draw (P := P) (w := w) (base := base) T.pot
  have DWr := d_lwr (P := P) (w := w) (base := base) T.toK13T
  have DSp := d_lsp (P := P) (w := w) (base := base) T.toK13T
  have DRr := d_lrr (P := P) (w := w) (base := base) T.toK13W R
  have DTo := d_lto (P := P) (w := w) (base := base) T.toK13W R
  have DOw := d_low (P := P) (w := w) (base := base) T.toK13X
  refine T.tLRi.ok scLRi (fun vs H Q E h => ?_) (fun f cdv A0 out s0 H vs Q E0 gd hr h => ?_)
  · obtain ⟨p, rfl, _⟩ := h
    rfl
  · obtain ⟨p, rfl, hp, q⟩ := h
    refine ⟨_, (pss_cons (ps_set (i := 1) scLRi.nd rfl (Or.inl rfl) (pe_callD DWr gd (hr.mono (by decide)) (pa_cons (pv 0) pa_nil)))
  (pss_cons (ps_set (i := 2) scLRi.nd rfl (Or.inl rfl) (pe_lst (pa_cons (pv 1) (pa_cons (pe_callD DSp gd (hr.mono (by decide)) (pa_cons (pv 0) (pa_cons (pv 1) pa_nil))) pa_nil))))
  (pss_cons (ps_expr (pe_bm PySem.F.plainAttrs_list PySem.F.slot_list_append PySem.F.type_list_append mt_append (pv 2) (pa_cons (pe_callD DSp gd (hr.mono (by decide)) (pa_cons (pv 0) (pa_cons (pe_ix ix_list (pv 2) pe_int (fun _ _ => rfl)) pa_nil))) pa_nil)))
  (pss_cons (ps_for PassesOwn.never rfl (pi_list (pe_op op_cat (pv 2) (pe_lst (pa_cons (pv 1) pa_nil)))) (pg_name (i := 3) scLRi.nd rfl (Or.inl rfl)) (pss_one (ps_if (pt_not (pt_val (pe_callD DRr gd (hr.mono (by decide)) (pa_cons (pv 3) pa_nil)))) (pss_one (ps_ret pe_bl)) pss_nil)))
  (pss_cons (ps_par (i := 4) (j := 5) (by rfl) scLRi.nd rfl rfl (by decide) rfl rfl (pa_cons (pe_op op_sub (pe_callD DD gd (hr.mono (by decide)) (pa_cons (pv 0) (pa_cons (pe_op op_pow pe_int pe_int) pa_nil))) (pe_op op_pow pe_int pe_int)) (pa_cons (pe_op op_add pe_int (pe_callD DD gd (hr.mono (by decide)) (pa_cons (pv 0) (pa_cons (pe_op op_pow pe_int pe_int) pa_nil)))) pa_nil)) (by rfl))
  (pss_cons (ps_set (i := 6) scLRi.nd rfl (Or.inl rfl) (pe_callC (rn_amount T.toAmTxt (hr.mono (by decide))) T.gC (kpC T.toAmTxt) (pa_cons (pv 4) (pa_cons (pv 5) pa_nil))))
  (pss_cons (ps_if (PW.pt (pw_or (pt_not (pt_val (pe_callD DRr gd (hr.mono (by decide)) (pa_cons (pe_callTy (call_strAm T.toAmTxt T.cmp (hr.mono (by decide))) (by rfl) T.b_str (by decide +kernel) (pa_cons (pv 6) pa_nil)) pa_nil)))) (pw_or1 (pt_not (pt_val (pe_callD DRr gd (hr.mono (by decide)) (pa_cons (pe_callTy (call_strAm T.toAmTxt T.cmp (hr.mono (by decide))) (by rfl) T.b_str (by decide +kernel) (pa_cons (pe_callC (rn_amount1 T.toAmTxt (hr.mono (by decide))) T.gC (kpC T.toAmTxt) (pa_cons (pe_top (pv 6) T.toAmTxt T.cmp (hr.mono (by decide))) pa_nil)) pa_nil)) pa_nil))))))) (pss_one (ps_ret pe_bl)) pss_nil)
  (pss_cons (ps_if (pt_not (pt_val (pe_callB (cr_all rfl) (by rfl) T.b_all (by decide +kernel) (pa_cons (pe_lc (own := [("_law_one", 3)]) (g := (gName 3)) (by rfl) scLRi.nd (pi_list (pe_callD DOw gd (hr.mono (by decide)) (pa_cons (pv 4) (pa_cons (pv 5) pa_nil)))) (blkOk_by (own := [("_law_one", 3)]) (N := ["_law_pot_here", "_law_row", "_law_spoilt_here", "_law_one", "_law_top", "_law_bottom", "_law_made", "_law_thing"]) (sc := defScope sLRi) (by decide +kernel)) (fun _ _ _ _ _ => (pg_name (i := 3) scLRi.nd rfl (Or.inl rfl))) (fun _ _ _ _ _ => pts_nil) (fun _ _ _ _ _ => (pe_callD DRr gd (hr.mono (by decide)) (pa_cons (pv 3) pa_nil)))) pa_nil)))) (pss_one (ps_ret pe_bl)) pss_nil)
  (pss_cons (ps_for PassesOwn.never rfl (pi_list (pe_lst (pa_cons pe_non (pa_cons pe_int (pa_cons pe_bl (pa_cons (pe_lst (pa_cons pe_str pa_nil)) (pa_cons (pe_tup (pa_cons pe_str pa_nil)) (pa_cons pe_dnewK (pa_cons (pv 6) (pa_cons pe_int (pa_cons (pe_lst (pa_cons pe_str pa_nil)) pa_nil))))))))))) (pg_name (i := 7) scLRi.nd rfl (Or.inl rfl)) (pss_one (ps_if (pt_cmpR op_ne (pe_callB (call_reprV gd hr.units) (by rfl) T.b_repr (by decide +kernel) (pa_cons (pe_callD DTo gd (hr.mono (by decide)) (pa_cons (pv 7) pa_nil)) pa_nil)) (pe_callB (call_reprV gd hr.units) (by rfl) T.b_repr (by decide +kernel) (pa_cons (pe_lst (pa_cons pe_str (pa_cons pe_int (pa_cons pe_bl pa_nil)))) pa_nil)) (nomark _)) (pss_one (ps_ret pe_bl)) pss_nil)))
  (pss_one (ps_ret (pe_callD DRr gd (hr.mono (by decide)) (pa_cons (pv 1) pa_nil))))))))))))), ?_⟩
    obtain ⟨pl0, hpl0⟩ := hp.lst
    have npp : ∀ {H' : Hp} {b : Addr}, Pot H' p → H' b = none → b ≠ p := fun hp' nb z => by
      obtain ⟨_, hx⟩ := hp'.lst
      rw [z, hx] at nb
      cases nb
    refine ⟨_, rfl, p, rfl, hp, fun z H1 rz hp1 k1 => ?_⟩
    refine ⟨_, rfl, _, rfl, _, rfl, p, z, 15, rfl, hp1, rz, by decide, fun z2 H2 rz2 hp2 k2 => ⟨by show 2 ≤ sizeLine; decide, fun l nl => ?_⟩⟩
    have lp := npp hp2 nl
    obtain ⟨H3, e3, s3, j3⟩ := mko nl (.lst [.str z, .str z2])
    rw [e3]
    have k03 := (k1.trans k2).trans (Kp.of s3)
    have hp3 := hp2.same s3
    refine ⟨_, rfl, .inl ⟨rfl, _, SqL.of j3⟩, _, rfl, _, rfl, l, _, 1, .str z2, rfl, rfl, SqL.of j3, rfl, p, z2, 32, rfl, hp3, rz2, by decide, fun z3 H4 rz3 hp4 k4 => ?_⟩
    have j4 := k4 _ _ j3 lp
    refine ⟨l, _, _, rfl, rfl, j4, by show 2 < sizeLine; decide, ?_⟩
    obtain ⟨H5, e5, j5, k45, s35⟩ : ∃ H5, upd H4 l (.lst ([V.str z, .str z2] ++ [.str z3])) = H5 ∧ H5 l = some (.lst ([V.str z, .str z2] ++ [.str z3])) ∧ Kp l H4 H5 ∧ True := ⟨_, rfl, upd_same, Kp.upd, trivial⟩
    rw [e5]
    have nlH : H l = none := kp_free13 (k1.trans k2) lp nl
    have k05 : Kp p H H5 := fun b u hb n => k45 _ _ (k4 _ _ (k03 _ _ hb n) n) (ne_of_none hb nlH)
    have hp5 : Pot H5 p := by
      obtain ⟨a, b, h, r⟩ := hp4
      exact ⟨a, b, k45 _ _ h lp.symm, r⟩
    clear j3 j4 e3 e5
    -- the rows
    refine ⟨_, rfl, _, rfl, (by show 1 ≤ sizeLine; decide), fun l2 nl2 => ?_⟩
    obtain ⟨H6, e6, s6, j6⟩ := mko nl2 (.lst [.str z])
    rw [e6]
    refine ⟨l, l2, _, _, rfl, rfl, s6 _ _ j5, j6, by show 3 + 1 ≤ sizeLine; decide, fun l3 nl3 => ?_⟩
    obtain ⟨H7, e7, s7, j7⟩ := mko nl3 (.lst ([z, z2, z3, z].map V.str))
    rw [show upd H6 l3 (HO.lst ([V.str z, V.str z2] ++ [V.str z3] ++ [V.str z])) = upd H6 l3 (.lst ([z, z2, z3, z].map V.str)) from rfl]
    rw [e7]
    have rz4 : ∀ x ∈ [z, z2, z3, z], Rg 66 x := fun x hx => by
      rcases List.mem_cons.mp hx with rfl | hx
      · exact rz.mono (by decide)
      rcases List.mem_cons.mp hx with rfl | hx
      · exact rz2.mono (by decide)
      rcases List.mem_cons.mp hx with rfl | hx
      · exact rz3.mono (by decide)
      · rw [List.mem_singleton.mp hx]
        exact rz.mono (by decide)
    generalize [z, z2, z3, z] = rows at j7 rz4
    have k07 := k05.trans ((Kp.of s6).trans (.of s7))
    have hp7 := (hp5.same s6).same s7
    refine ⟨l3, rfl, ⟨_, SqL.of j7⟩, ?_⟩
    refine for_it (walk_list (K := K) (a := l3) (xs := rows.map V.str)) (fun i σ H' => Same H7 H' ∧ ∃ o3 : Option V, σ = [some (.ref p), some (.str z), some (.ref l), o3, none, none, none, none]) ⟨Same.refl _, none, rfl⟩ (fun i σ H' _ k => SqL.of (k.1 _ _ j7)) (fun i v σ H' H'' hi k yy => ?_) (fun σ H8 k => ?_)
    · obtain ⟨sx, o3, rfl⟩ := k
      obtain ⟨rfl, hv⟩ := yy
      rw [List.getElem?_map] at hv
      cases ex : rows[i]? with
      | none => rw [ex] at hv; cases hv
      | some u =>
        rw [ex] at hv
        injection hv with hv
        subst hv
        obtain ⟨u1, u2⟩ := (rz4 u (List.mem_of_getElem? ex)).ok (by decide)
        exact ⟨_, rfl, u, rfl, u1, u2, fun H9 s9 => ⟨_, rfl, iteF ⟨sx.trans s9, _, rfl⟩⟩⟩
    obtain ⟨s8, o3, rfl⟩ := k
    have k08 := k07.trans (.of s8)
    have hp8 := hp7.same s8
    clear j7 j6 j5
    -- a fraction
    refine ⟨_, rfl, _, _, rfl, rfl, ⟨by decide, by decide, by decide⟩, p, _, rfl, hp8, by decide, by decide, fun d H9 d0 d1 hp9 k9 => ?_⟩
    refine ⟨_, _, rfl, rfl, ⟨by decide, by decide, by decide⟩, _, _, rfl, rfl, ?_⟩
    refine ⟨_, rfl, _, _, rfl, rfl, ⟨by decide, by decide, by decide⟩, p, _, rfl, hp9, by decide, by decide, fun e H10 e0 e1 hp10 k10 => ⟨_, _, rfl, rfl, _, _, rfl, ?_⟩⟩
    have x8 : (10 : Int) ^ (8 : Int).toNat = 100000000 := by decide
    have x9 : (10 : Int) ^ (9 : Int).toNat = 1000000000 := by decide
    have x7 : (10 : Int) ^ (7 : Int).toNat = 10000000 := by decide
    have e10 : (10 : Nat) ^ 10 = 10000000000 := by decide
    have e8 : (10 : Nat) ^ 8 = 100000000 := by decide
    have hT1 : (d - (10 : Int) ^ (8 : Int).toNat).natAbs < 10 ^ 10 := by rw [x9] at d1; omega
    have hB1 : (1 + e).natAbs < 10 ^ 8 ∧ 1 + e ≠ 0 := by rw [x7] at e1; omega
    have p80 : (10 : Nat) ^ 10 < 2 ^ 1900 := by decide +kernel
    have p88 : (2 : Nat) ^ 1900 ≤ 2 ^ 8000 := Nat.pow_le_pow_right (by decide) (by decide)
    have p1 : (10 : Nat) ^ 8 ≤ 10 ^ 10 := by decide
    have k10' := k08.trans (k9.trans k10)
    refine ⟨_, rfl, _, rfl, d - (10 : Int) ^ (8 : Int).toNat, 1 + e, rfl, hB1.2, Nat.lt_of_lt_of_le (Nat.lt_trans hT1 p80) p88, Nat.lt_of_lt_of_le (Nat.lt_trans (Nat.lt_of_lt_of_le hB1.1 p1) p80) p88, fun a t b H11 lw am s11 na => ?_⟩
    obtain ⟨_, dx, plx, ex, hx⟩ := id am
    have bt1 : t.natAbs < 10 ^ 10 := Nat.lt_of_le_of_lt lw.lt hT1
    have bb1 : b.natAbs < 10 ^ 8 := Nat.lt_of_le_of_lt lw.lb hB1.1
    have t19 := Nat.lt_trans bt1 p80
    have b19 := Nat.lt_trans (Nat.lt_of_lt_of_le bb1 p1) p80
    obtain ⟨u1, u2⟩ := (rg_sTxt (n := 10) (m := 8) (by decide) (by decide) bt1 bb1).ok (by decide)
    refine ⟨_, rfl, a, t, b, rfl, am, t19, b19, sTxt t b, rfl, u1, u2, fun H12 s12 => ⟨_, rfl, iteF ?_⟩⟩
    refine ⟨_, rfl, a, dx, _, rfl, s12 _ _ ex, a, t, b, rfl, am.same s12, t, 1, rfl, by decide, Nat.lt_of_lt_of_le t19 p88, Nat.lt_of_lt_of_le (show (1 : Int).natAbs < 2 ^ 1900 by decide +kernel) p88, fun a2 t2 b2 H13 lw2 am2 s13 na2 => ?_⟩
    have bt2 : t2.natAbs < 10 ^ 10 := Nat.lt_of_le_of_lt lw2.lt bt1
    have bb2 : b2.natAbs < 10 ^ 8 := Nat.lt_of_le_of_lt lw2.lb (by decide)
    obtain ⟨u3, u4⟩ := (rg_sTxt (n := 10) (m := 8) (by decide) (by decide) bt2 bb2).ok (by decide)
    refine ⟨a2, t2, b2, rfl, am2, Nat.lt_trans bt2 p80, Nat.lt_trans (Nat.lt_of_lt_of_le bb2 p1) p80, sTxt t2 b2, rfl, u3, u4, fun H14 s14 => ⟨_, rfl, iteF ?_⟩⟩
    have s1114 := (s12.trans s13).trans s14
    -- other ways
    refine ⟨_, rfl, _, rfl, d - (10 : Int) ^ (8 : Int).toNat, 1 + e, rfl, hT1, hB1.1, fun l4 zs H15 s15 nl4 hl4 lz rzs => ⟨l4, rfl, ⟨_, SqL.of hl4⟩, fun D nD => ?_⟩⟩
    refine lc_it (walk_list (K := K) (a := l4) (xs := zs.map V.str)) (fun i H' => Same H15 H' ∧ H' D = some (.lst ((List.replicate i true).map V.bl))) ⟨Same.new nD, upd_same⟩ (fun i H' _ k => SqL.of (k.1 _ _ hl4)) (fun i v H' H'' hi k yy => ?_) (fun H16 k => ?_)
    · obtain ⟨sx, hD⟩ := k
      obtain ⟨rfl, hv⟩ := yy
      rw [List.getElem?_map] at hv
      cases ex : zs[i]? with
      | none => rw [ex] at hv; cases hv
      | some u =>
        rw [ex] at hv
        injection hv with hv
        subst hv
        obtain ⟨v1, v2⟩ := (rzs u (List.mem_of_getElem? ex)).ok (by decide)
        refine ⟨rfl, yes_t ⟨_, rfl, u, rfl, v1, v2, fun H9 s9 => ⟨_, s9 _ _ hD, ?_, Same.put (sx.trans s9) nD, ?_⟩⟩⟩
        · rw [List.length_map, List.length_replicate]
          rw [List.length_map] at hi
          exact Nat.lt_of_lt_of_le (show i < 17 by omega) (by decide)
        · rw [upd_same, List.replicate_succ', List.map_append]
          rfl
    obtain ⟨s16, hD⟩ := k
    rw [List.length_map] at hD
    refine ⟨D, List.replicate zs.length true, rfl, SqL.of hD, _, rfl, ?_⟩
    rw [show (List.replicate zs.length true).all id = true from List.all_eq_true.mpr fun b hb => List.eq_of_mem_replicate hb]
    refine iteF ?_
    have s1116 := (s1114.trans s15).trans s16
    have am16 := am.same s1116
    clear hD hl4
    -- no texts
    refine ⟨by show 1 ≤ sizeLine; decide, fun c1 nc1 => ?_⟩
    obtain ⟨Ha, qa, sa, ja⟩ := mko nc1 (.lst [.str "7"])
    rw [qa]
    refine ⟨by show 1 ≤ sizeLine; decide, fun c2 nc2 => ?_⟩
    obtain ⟨Hb, qb, sb, jb⟩ := mko nc2 (.tup [.str "7"])
    rw [qb]
    refine fun c3 nc3 => ?_
    obtain ⟨Hc, qc, sc, jc⟩ := mko nc3 (.dK [])
    rw [qc]
    refine ⟨_, rfl, (by show 1 ≤ sizeLine; decide), fun c4 nc4 => ?_⟩
    obtain ⟨Hd, qd, sd, jd⟩ := mko nc4 (.lst [.str "1/2"])
    rw [qd]
    refine ⟨by show 9 ≤ sizeLine; decide, fun l5 nl5 => ?_⟩
    obtain ⟨He, qe, se, je⟩ := mko nl5 (.lst [.non, .int 5, .bl true, .ref c1, .ref c2, .ref c3, .ref a, .int 0, .ref c4])
    rw [qe]
    have tg : ∀ v ∈ ([.non, .int 5, .bl true, .ref c1, .ref c2, .ref c3, .ref a, .int 0, .ref c4] : List V), ∃ t, TyX K He v t ∧ PySem.W.kitOne K t (.type "str") = some false := fun v hv => by
      rcases List.mem_cons.mp hv with rfl | hv
      · exact ⟨_, .base .non, kit_ty (by decide +kernel)⟩
      rcases List.mem_cons.mp hv with rfl | hv
      · exact ⟨_, .base (.int 5), kit_ty (by decide +kernel)⟩
      rcases List.mem_cons.mp hv with rfl | hv
      · exact ⟨_, .base (.bl true), kit_ty (by decide +kernel)⟩
      rcases List.mem_cons.mp hv with rfl | hv
      · exact ⟨_, .base (.lst ((((sb.trans sc).trans sd).trans se) _ _ ja)), kit_ty (by decide +kernel)⟩
      rcases List.mem_cons.mp hv with rfl | hv
      · exact ⟨_, .base (.tup (((sc.trans sd).trans se) _ _ jb)), kit_ty (by decide +kernel)⟩
      rcases List.mem_cons.mp hv with rfl | hv
      · exact ⟨_, .base (.dK ((sd.trans se) _ _ jc)), kit_ty (by decide +kernel)⟩
      rcases List.mem_cons.mp hv with rfl | hv
      · exact ⟨_, .base (T.toAmTxt.ty (am16.same ((((sa.trans sb).trans sc).trans sd).trans se))), T.kCS⟩
      rcases List.mem_cons.mp hv with rfl | hv
      · exact ⟨_, .base (.int 0), kit_ty (by decide +kernel)⟩
      · rw [List.mem_singleton.mp hv]
        exact ⟨_, .base (.lst (se _ _ jd)), kit_ty (by decide +kernel)⟩
    generalize ([.non, .int 5, .bl true, .ref c1, .ref c2, .ref c3, .ref a, .int 0, .ref c4] : List V) = things at je tg
    have s16e := (((sa.trans sb).trans sc).trans sd).trans se
    obtain ⟨o1, o2, o3', o4⟩ := td_ok (z := Str.empty) (o := none) (by decide) (fun c hc => nomatch hc) (fun f e => nomatch e)
    refine ⟨l5, rfl, ⟨_, SqL.of je⟩, ?_⟩
    dsimp only
    refine for_it (D := { nx := _, rt := Q, bk := fun _ _ => False, ct := fun _ _ => False }) (walk_list (K := K) (a := l5) (xs := things)) (fun i σ H' => Same He H' ∧ ∃ (v4 v5 : V) (o7 : Option V), σ = [some (.ref p), some (.str z), some (.ref l), o3, some v4, some v5, some (.ref a), o7]) ⟨Same.refl _, _, _, none, rfl⟩ (fun i σ H' _ k => SqL.of (k.1 _ _ je)) (fun i v σ H' H'' hi k yy => ?_) (fun σ Hf k => ?_)
    · obtain ⟨sx, v4, v5, o7, rfl⟩ := k
      obtain ⟨rfl, hv⟩ := yy
      obtain ⟨t', ty, kt⟩ := tg v (List.mem_of_getElem? hv)
      refine ⟨_, rfl, v, rfl, .inr ⟨t', fun H9 s9 => tyX_same ty (sx.trans s9), kt, fun l6 H9 s9 nl6 hl6 => ?_⟩⟩
      refine ⟨.ref l6, _, rfl, td_dp hl6, o1, o2, o3', o4, (by show 3 ≤ sizeLine; decide), fun l7 nl7 => ?_⟩
      have s10 : Same H9 (upd H9 l7 (.lst (tdV Str.empty none))) := Same.new nl7
      refine ⟨.ref l7, _, rfl, td_dp (z := Str.empty) (o := none) upd_same, o1, o2, o3', o4, rfl, ?_⟩
      rw [decide_eq_true (show V.str (PyData.list (tdD Str.empty none)).shown = V.str (PyData.list (tdD Str.empty none)).shown from rfl)]
      exact ⟨_, rfl, iteF ⟨(sx.trans s9).trans s10, v4, v5, _, rfl⟩⟩
    obtain ⟨sf, v4, v5, o7, rfl⟩ := k
    obtain ⟨w1, w2⟩ := rz.ok (by decide)
    have kall : Kp p H10 Hf := Kp.of ((((s11.trans s1116).trans s16e)).trans sf)
    have sall : Same H10 Hf := ((s11.trans s1116).trans s16e).trans sf
    exact ⟨_, rfl, z, rfl, w1, w2, fun Hg sg => q _ (k10'.trans (kall.trans (.of sg))) ((hp10.same sall).same sg)⟩
end
end SP
/-! k13: the law. -/
namespace SP
open PySem PySem.Spec PyProof.Rows L2 TL
abbrev sLGr : Stmt := top 30
abbrev sLaw : Stmt := top 31
structure K13Z (K : PySem.W.Frag) (mg : Str → Option Value) (C CE CP : Addr) : Prop extends K13Y K mg C CE CP where
  tLGr : Top K mg "_law_great_right" sLGr []
  b_min : mg "min" = none
  b_max : mg "max" = none


section
variable {P : Program} {w : World} {K : PySem.W.Frag} {mg : Str → Option Value} {base : Heap} {C CE CP : Addr}
def spLGr : Sp := fun vs H Q _ => vs = [] ∧ ∀ H', Same H H' → Q (.bl true) H'
theorem scLGr : FnScope ["_law_one", "_law_more", "_law_made"] [] (defScope sLGr) := ⟨rfl, rfl, rfl, by decide +kernel, rfl, by decide +kernel, by decide +kernel⟩
theorem d_lgr (T : K13Z K mg C CE CP) (R : ErrOk P w K mg base "InvalidText" CE (Str.ofString "line")) : DefG P w K mg base 12 "_law_great_right" [] spLGr := by
  have DRr := d_lrr (P := P) (w := w) (base := base) T.toK13W R
  refine T.tLGr.ok scLGr (fun vs H Q E h => ?_) (fun f cdv A0 out s0 H vs Q E0 gd hr h => ?_)
  · obtain ⟨rfl, _⟩ := h
    rfl
  · obtain ⟨rfl, q⟩ := h
    refine ⟨_, (pss_cons (ps_par (i := 0) (j := 1) (by rfl) scLGr.nd rfl rfl (by decide) rfl rfl (pa_cons (pe_callC (rn_amount T.toAmTxt (hr.mono (by decide))) T.gC (kpC T.toAmTxt) (pa_cons (pe_op op_sub (pe_op op_pow pe_int pe_int) pe_int) (pa_cons (pe_op op_sub (pe_op op_pow pe_int pe_int) pe_int) pa_nil))) (pa_cons (pe_callC (rn_amount T.toAmTxt (hr.mono (by decide))) T.gC (kpC T.toAmTxt) (pa_cons (pe_op op_add (pe_un un_neg (pe_op op_pow pe_int pe_int)) pe_int) (pa_cons (pe_op op_sub (pe_op op_pow pe_int pe_int) pe_int) pa_nil))) pa_nil)) (by rfl))
  (pss_one (ps_ret (pe_callB (cr_all rfl) (by rfl) T.b_all (by decide +kernel) (pa_cons (pe_lc (own := [("_law_made", 2)]) (g := (gName 2)) (by rfl) scLGr.nd (pi_list (pe_lst (pa_cons (pv 0) (pa_cons (pv 1) (pa_cons (pe_op (op_mulAm T.toAmTxt T.ops (hr.mono (by decide))) (pv 0) (pv 1)) (pa_cons (pe_op (op_subAm T.toAmTxt T.ops (hr.mono (by decide))) (pv 0) (pv 1)) pa_nil)))))) (blkOk_by (own := [("_law_made", 2)]) (N := ["_law_one", "_law_more", "_law_made"]) (sc := defScope sLGr) (by decide +kernel)) (fun _ _ _ _ _ => (pg_name (i := 2) scLGr.nd rfl (Or.inl rfl))) (fun _ _ _ _ _ => pts_nil) (fun _ _ _ _ _ => (pe_callD DRr gd (hr.mono (by decide)) (pa_cons (pe_callTy (call_strAm T.toAmTxt T.cmp (hr.mono (by decide))) (by rfl) T.b_str (by decide +kernel) (pa_cons (pv 2) pa_nil)) pa_nil)))) pa_nil))))), ?_⟩
    have pw : (10 : Nat) ^ 45 < 2 ^ 1900 := by decide +kernel
    have p30 : (2 : Nat) ^ 1900 ≤ 2 ^ 3000 := Nat.pow_le_pow_right (by decide) (by decide)
    have p80 : (2 : Nat) ^ 1900 ≤ 2 ^ 8000 := Nat.pow_le_pow_right (by decide) (by decide)
    have lt8 : ∀ {i : Int}, i.natAbs < 10 ^ 45 → i.natAbs < 2 ^ 8000 := fun h => Nat.lt_of_lt_of_le (Nat.lt_trans h pw) p80
    have lt3 : ∀ {i : Int}, i.natAbs < 10 ^ 45 → i.natAbs < 2 ^ 3000 := fun h => Nat.lt_of_lt_of_le (Nat.lt_trans h pw) p30
    have lt1 : ∀ {i : Int}, i.natAbs < 10 ^ 45 → i.natAbs < 2 ^ 1900 := fun h => Nat.lt_trans h pw
    refine ⟨_, _, rfl, rfl, ⟨by decide, by decide, by decide⟩, _, _, rfl, rfl, _, _, rfl, rfl, ⟨by decide, by decide, by decide⟩, _, _, rfl, rfl, _, _, rfl, by decide +kernel, lt8 (by decide +kernel), lt8 (by decide +kernel), fun a t b H1 lw am s1 na => ?_⟩
    refine ⟨_, _, rfl, rfl, ⟨by decide, by decide, by decide⟩, _, rfl, _, _, rfl, rfl, _, _, rfl, rfl, ⟨by decide, by decide, by decide⟩, _, _, rfl, rfl, _, _, rfl, by decide +kernel, lt8 (by decide +kernel), lt8 (by decide +kernel), fun a2 t2 b2 H2 lw2 am2 s2 na2 => ⟨_, _, rfl, ?_⟩⟩
    have bt1 : t.natAbs < 10 ^ 21 := Nat.lt_of_le_of_lt lw.lt (by decide +kernel)
    have bb1 : b.natAbs < 10 ^ 11 := Nat.lt_of_le_of_lt lw.lb (by decide +kernel)
    have bt2 : t2.natAbs < 10 ^ 21 := Nat.lt_of_le_of_lt lw2.lt (by decide +kernel)
    have bb2 : b2.natAbs < 10 ^ 11 := Nat.lt_of_le_of_lt lw2.lb (by decide +kernel)
    have am1 := am.same s2
    have g1 := lw.one
    have g2 := lw2.one
    clear lw lw2 am
    have q21 : (10 : Nat) ^ 21 ≤ 10 ^ 45 := Nat.pow_le_pow_right (by decide) (by decide)
    have q11 : (10 : Nat) ^ 11 ≤ 10 ^ 45 := Nat.pow_le_pow_right (by decide) (by decide)
    have ml : ∀ {x y : Int} {n m : Nat}, x.natAbs < 10 ^ n → y.natAbs < 10 ^ m → (x * y).natAbs < 10 ^ (n + m) := fun {x y n m} h k => by
      rw [Int.natAbs_mul, Nat.pow_add]
      exact Nat.mul_lt_mul'' h k
    have z21 : ∀ {i : Int}, i.natAbs < 10 ^ 21 → i.natAbs < 10 ^ 45 := fun h => Nat.lt_of_lt_of_le h q21
    have z11 : ∀ {i : Int}, i.natAbs < 10 ^ 11 → i.natAbs < 10 ^ 45 := fun h => Nat.lt_of_lt_of_le h q11
    refine ⟨_, rfl, _, rfl, _, rfl, _, rfl, t, b, t2, b2, .inl ⟨a, rfl, am1, g1⟩, .inl ⟨a2, rfl, am2, g2⟩, .inl ⟨a, rfl⟩, lt3 (z21 bt1), lt3 (z11 bb1), lt3 (z21 bt2), lt3 (z11 bb2), fun a3 t3 b3 H3 lw3 am3 s3 => ?_⟩
    have bt3 : t3.natAbs < 10 ^ 45 := Nat.lt_of_le_of_lt lw3.lt (Nat.lt_of_lt_of_le (ml bt1 bt2) (by decide +kernel))
    have bb3 : b3.natAbs < 10 ^ 45 := Nat.lt_of_le_of_lt lw3.lb (Nat.lt_of_lt_of_le (ml bb1 bb2) (by decide +kernel))
    refine ⟨_, rfl, _, rfl, t, b, t2, b2, .inl ⟨a, rfl, am1.same s3, g1⟩, .inl ⟨a2, rfl, am2.same s3, g2⟩, .inl ⟨a, rfl⟩, lt3 (z21 bt1), lt3 (z11 bb1), lt3 (z21 bt2), lt3 (z11 bb2), fun a4 t4 b4 H4 lw4 am4 s4 => ?_⟩
    have bt4 : t4.natAbs < 10 ^ 45 := by
      refine Nat.lt_of_le_of_lt lw4.lt ?_
      have m1 := ml bt1 bb2
      have m2 : (-t2 * b).natAbs < 10 ^ (21 + 11) := ml (x := -t2) (by rw [Int.natAbs_neg]; exact bt2) bb1
      have ad := Int.natAbs_add_le (t * b2) (-t2 * b)
      have p32 : 10 ^ (21 + 11) + 10 ^ (21 + 11) ≤ 10 ^ 45 := by decide +kernel
      show (t * b2 + -t2 * b).natAbs < 10 ^ 45
      omega
    have bb4 : b4.natAbs < 10 ^ 45 := Nat.lt_of_le_of_lt lw4.lb (Nat.lt_of_lt_of_le (ml bb1 bb2) (by decide +kernel))
    refine ⟨by show 4 ≤ sizeLine; decide, fun l nl => ?_⟩
    obtain ⟨H5, e5, s5, j5⟩ := mko nl (.lst [.ref a, .ref a2, .ref a3, .ref a4])
    rw [e5]
    have ams : ∀ v ∈ ([.ref a, .ref a2, .ref a3, .ref a4] : List V), ∃ x t b, v = .ref x ∧ AmAt C H5 x t b ∧ t.natAbs < 10 ^ 45 ∧ b.natAbs < 10 ^ 45 := fun v hv => by
      rcases List.mem_cons.mp hv with rfl | hv
      · exact ⟨a, t, b, rfl, ((am1.same s3).same s4).same s5, z21 bt1, z11 bb1⟩
      rcases List.mem_cons.mp hv with rfl | hv
      · exact ⟨a2, t2, b2, rfl, ((am2.same s3).same s4).same s5, z21 bt2, z11 bb2⟩
      rcases List.mem_cons.mp hv with rfl | hv
      · exact ⟨a3, t3, b3, rfl, (am3.same s4).same s5, bt3, bb3⟩
      · rw [List.mem_singleton.mp hv]
        exact ⟨a4, t4, b4, rfl, am4.same s5, bt4, bb4⟩
    have l4 : ([.ref a, .ref a2, .ref a3, .ref a4] : List V).length = 4 := rfl
    generalize ([.ref a, .ref a2, .ref a3, .ref a4] : List V) = xs at j5 ams l4
    have s05 := (((s1.trans s2).trans s3).trans s4).trans s5
    refine ⟨l, rfl, ⟨_, SqL.of j5⟩, fun D nD => ?_⟩
    refine lc_it (walk_list (K := K) (a := l) (xs := xs)) (fun i H' => Same H5 H' ∧ H' D = some (.lst ((List.replicate i true).map V.bl))) ⟨Same.new nD, upd_same⟩ (fun i H' _ k => SqL.of (k.1 _ _ j5)) (fun i v H' H'' hi k yy => ?_) (fun H6 k => ?_)
    · obtain ⟨sx, hD⟩ := k
      obtain ⟨rfl, hv⟩ := yy
      obtain ⟨x, tx, bx, rfl, amx, h1, h2⟩ := ams v (List.mem_of_getElem? hv)
      obtain ⟨u1, u2⟩ := (rg_sTxt (n := 45) (m := 45) (by decide) (by decide) h1 h2).ok (by decide)
      refine ⟨rfl, yes_t ⟨_, rfl, x, tx, bx, rfl, amx.same sx, lt1 h1, lt1 h2, sTxt tx bx, rfl, u1, u2, fun H9 s9 => ⟨_, s9 _ _ hD, ?_, Same.put (sx.trans s9) nD, ?_⟩⟩⟩
      · rw [List.length_map, List.length_replicate]
        exact Nat.lt_of_lt_of_le (show i < 4 by omega) (by decide)
      · rw [upd_same, List.replicate_succ', List.map_append]
        rfl
    obtain ⟨s6, hD⟩ := k
    refine ⟨D, List.replicate xs.length true, rfl, SqL.of hD, ?_⟩
    rw [show (List.replicate xs.length true).all id = true from List.all_eq_true.mpr fun b hb => List.eq_of_mem_replicate hb]
    exact q _ (s05.trans s6)
def spLaw (K : PySem.W.Frag) : Sp := fun vs H Q _ => ∃ (a : Addr) (ns : List Int), vs = [.ref a] ∧ SqL K H a (ns.map V.int) ∧ ns.length ≤ 63 ∧ ∀ H', Q (.bl true) H'
theorem scLaw : FnScope ["_law_script", "_law_k"] ["_law_script"] (defScope sLaw) := ⟨rfl, rfl, rfl, by decide +kernel, rfl, by decide +kernel, by decide +kernel⟩
theorem ok_law {f : Addr} {fd : FuncData} (T : K13Z K mg C CE CP) (R : ErrOk P w K mg base "InvalidText" CE (Str.ofString "line")) (F : Fun K "law" "law" sLaw f fd) : FnG P w K mg base CX0 14 f fd ["_law_script"] (spLaw K) := by
  have DR := d_lri (P := P) (w := w) (base := base) T.toK13Y R
  have DGr := d_lgr (P := P) (w := w) (base := base) T R
  have DPo := d_pot (P := P) (w := w) (base := base) T.pot
  refine okG0 F scLaw (fun vs H Q E h => ?_) (fun cdv A out s H vs Q E gd hr h => ?_)
  · obtain ⟨a, ns, rfl, _⟩ := h
    rfl
  · obtain ⟨a, ns, rfl, hS, hn, q⟩ := h
    refine ⟨_, (pss_cons (ps_if (pt_not (pt_val (pe_callD0 DGr gd (hr.mono (by decide))))) (pss_one (ps_ret pe_bl)) pss_nil)
  (pss_one (ps_ret (pe_callB (cr_all rfl) (by rfl) T.b_all (by decide +kernel) (pa_cons (pe_lc (own := [("_law_k", 1)]) (g := (gName 1)) (by rfl) scLaw.nd (pi_range1 (by rfl) T.b_range (pa_cons (pe_callB (call_max2 rfl) (by rfl) T.b_max (by decide +kernel) (pa_cons pe_int (pa_cons (pe_callB (call_min2 rfl) (by rfl) T.b_min (by decide +kernel) (pa_cons pe_int (pa_cons (pe_callB call_len (by rfl) T.b_len (by decide +kernel) (pa_cons (pv 0) pa_nil)) pa_nil))) pa_nil))) pa_nil)) (blkOk_by (own := [("_law_k", 1)]) (N := ["_law_script", "_law_k"]) (sc := defScope sLaw) (by decide +kernel)) (fun _ _ _ _ _ => (pg_name (i := 1) scLaw.nd rfl (Or.inl rfl))) (fun _ _ _ _ _ => pts_nil) (fun _ _ _ _ _ => (pe_callD DR gd (hr.mono (by decide)) (pa_cons (pe_callD DPo gd (hr.mono (by decide)) (pa_cons (pv 0) (pa_cons (pv 1) pa_nil))) pa_nil)))) pa_nil))))), ?_⟩
    refine ⟨rfl, fun H9 s09 => ⟨_, rfl, iteF ?_⟩⟩
    have hS9 := s09.seq hS
    refine ⟨_, rfl, _, ns.length, rfl, .inl ⟨_, hS9, by rw [List.length_map]⟩, ?_⟩
    have hm : ∃ m : Nat, m ≤ 6 ∧ (if (if (ns.length : Int) < 6 then (ns.length : Int) else 6) > 1 then (if (ns.length : Int) < 6 then (ns.length : Int) else 6) else 1) = (m : Int) := by
      refine ⟨(if (if (ns.length : Int) < 6 then (ns.length : Int) else 6) > 1 then (if (ns.length : Int) < 6 then (ns.length : Int) else 6) else 1).toNat, ?_, ?_⟩ <;> split <;> split <;> omega
    obtain ⟨m, m6, em⟩ := hm
    refine ⟨_, _, rfl, _, _, rfl, m, by rw [em], by omega, by omega, fun D nD => ?_⟩
    refine lc_it (walk_range (lo := 0) (n := m)) (fun i H' => Same H9 H' ∧ H' D = some (.lst ((List.replicate i true).map V.bl))) ⟨Same.new nD, upd_same⟩ (fun i H' _ k => trivial) (fun i v H' H'' hi k yy => ?_) (fun H10 k => ?_)
    · obtain ⟨s10, hD⟩ := k
      obtain ⟨rfl, rfl⟩ := yy
      refine ⟨rfl, yes_t ⟨_, rfl, _, rfl, a, ns, (i : Int), (by show [V.ref a, V.int (0 + (i : Int))] = _; rw [Int.zero_add]), s10.seq hS9, hn, by omega, by omega, fun p1 H11 s11 np1 hp1 => ⟨p1, rfl, hp1, fun H12 k12 hp12 => ?_⟩⟩⟩
      refine ⟨_, k12 _ _ (s11 _ _ hD) (ne_of_none hD np1), ?_, Same.put (fun b u hb => k12 _ _ (s11 _ _ (s10 _ _ hb)) (ne_of_none (s10 _ _ hb) np1)) nD, ?_⟩
      · rw [List.length_map, List.length_replicate]
        exact Nat.lt_of_lt_of_le hi (Nat.le_trans m6 (by decide))
      · rw [upd_same, List.replicate_succ', List.map_append]
        rfl
    · obtain ⟨s10, hD⟩ := k
      refine ⟨D, List.replicate m true, rfl, SqL.of hD, ?_⟩
      rw [show (List.replicate m true).all id = true from List.all_eq_true.mpr fun b hb => List.eq_of_mem_replicate hb]
      exact q _
end
end SP
/-! isinstance by own and built-in classes: what k_is has no answer for. -/
namespace SP
open PySem PySem.Spec PyProof.Rows L2
/-- isinstance by an own class, by a built-in one, of an own instance -/
theorem kit_refT {K : PySem.W.Frag} {t : Value} {D : Addr} (hC : PySem.W.isClsIn K D = true) (hT : PySem.W.typeIn K (.ref D) = some (.type "type")) (e : PySem.W.subIn K t (.ref D) = some true) : PySem.W.kitOne K t (.ref D) = some true := by
  have h1 : (PySem.W.clsIn K D).isSome = true := hC
  have h2 : ((PySem.W.clsIn K D).isSome && PySem.W.typeIn K (.ref D) == some (.type "type")) = true := by rw [h1, hT] <;> rfl
  unfold PySem.W.kitOne
  split
  · rfl
  · show (if ((PySem.W.clsIn K D).isSome && PySem.W.typeIn K (.ref D) == some (.type "type")) = true then PySem.W.subIn K t (.ref D) else none) = some true
    rw [if_pos h2]
    exact e
theorem kit_bi {K : PySem.W.Frag} {C : Addr} {T : String} {b : Bool} (m : PySem.W.kitMeta T = true) (e : PySem.W.subIn K (.ref C) (.type T) = some b) : PySem.W.kitOne K (.ref C) (.type T) = some b := by
  unfold PySem.W.kitOne
  rw [if_neg (show ¬ ((Value.ref C) == (Value.type T)) = true from fun z => by cases (beq_iff_eq.mp z))]
  show (if PySem.W.kitMeta T = true then PySem.W.subIn K (.ref C) (.type T) else none) = some b
  rw [if_pos m]
  exact e
theorem exm_own {K : PySem.W.Frag} {cls : Value} {D : Addr} {b : Bool} (hB : PySem.W.subIn K (.ref D) (.type "BaseException") = some true) (hC : PySem.W.isClsIn K D = true) (hT : PySem.W.typeIn K (.ref D) = some (.type "type")) (e : PySem.W.subIn K cls (.ref D) = some b) : PySem.W.exmOne K cls (.ref D) = some b := by
  have h1 : (PySem.W.clsIn K D).isSome = true := hC
  have h2 : ((PySem.W.clsIn K D).isSome && PySem.W.typeIn K (.ref D) == some (.type "type")) = true := by rw [h1, hT] <;> rfl
  have h3 : (PySem.W.subIn K (.ref D) (.type "BaseException") == some true) = true := by rw [hB] <;> rfl
  unfold PySem.W.exmOne
  rw [if_pos h3]
  show (if ((PySem.W.clsIn K D).isSome && PySem.W.typeIn K (.ref D) == some (.type "type")) = true then PySem.W.subIn K cls (.ref D) else none) = some b
  rw [if_pos h2]
  exact e
theorem kit_refF {K : PySem.W.Frag} {t : Value} {D : Addr} (hC : PySem.W.isClsIn K D = true) (hT : PySem.W.typeIn K (.ref D) = some (.type "type")) (n : (t == Value.ref D) = false) (e : PySem.W.subIn K t (.ref D) = some false) : PySem.W.kitOne K t (.ref D) = some false := by
  have h1 : (PySem.W.clsIn K D).isSome = true := hC
  have h2 : ((PySem.W.clsIn K D).isSome && PySem.W.typeIn K (.ref D) == some (.type "type")) = true := by rw [h1, hT] <;> rfl
  unfold PySem.W.kitOne
  rw [if_neg (by rw [n]; exact Bool.false_ne_true)]
  show (if ((PySem.W.clsIn K D).isSome && PySem.W.typeIn K (.ref D) == some (.type "type")) = true then PySem.W.subIn K t (.ref D) else none) = some false
  rw [if_pos h2]
  exact e
end SP
namespace SP
open PySem PySem.Spec PyProof.Rows L2
theorem kit_own {K : PySem.W.Frag} {C : Addr} {T : String} {ms : List Value} (hC : PySem.W.isClsIn K C = true) (hT : PySem.W.typeIn K (.ref C) = some (.type "type")) (e : fastBuiltinMro T = some ms) (n : ms.contains (.ref C) = false) : PySem.W.kitOne K (.type T) (.ref C) = some false := by
  have h2' : (PySem.W.clsIn K C).isSome = true := hC
  have e2 : ((PySem.W.clsIn K C).isSome && PySem.W.typeIn K (.ref C) == some (.type "type")) = true := by rw [h2', hT] <;> rfl
  show (if ((Value.type T) == (Value.ref C)) = true then some true else if ((PySem.W.clsIn K C).isSome && PySem.W.typeIn K (.ref C) == some (.type "type")) = true then PySem.W.subIn K (.type T) (.ref C) else none) = some false
  rw [if_neg (show ¬ ((Value.type T) == (Value.ref C)) = true from fun z => by cases (beq_iff_eq.mp z)), if_pos e2]
  exact sub_built e n
theorem not_own {K : PySem.W.Frag} {C : Addr} (hC : PySem.W.isClsIn K C = true) (hT : PySem.W.typeIn K (.ref C) = some (.type "type")) : NotAm K C :=
  ⟨kit_own hC hT mro_int rfl, kit_own hC hT mro_bool rfl, kit_own hC hT mro_str rfl, kit_own hC hT mro_none rfl, kit_own hC hT mro_tuple rfl, kit_own hC hT mro_list rfl⟩
theorem init_mk {K : PySem.W.Frag} {f TD : Addr} {oc kV doc pm cdv ct ocD vD : Value} {od an odD : Option Addr} {sl slD : Array (Option Value)} {nD : Nat}
    (l : K.lookup f = some ⟨oc, od, .func (PySem.W.fnOf "__init__" "Amount.__init__" (defArgs sInit) (defBody sInit) (defScope sInit) (.ref TD) kV doc pm an cdv ct), sl⟩) (c : PySem.W.codeIn K cdv "Amount.__init__" = true) (k : PySem.W.keepIn K (.ref f) = true)
    (lD : K.lookup TD = some ⟨ocD, odD, .seq #[vD] nD, slD⟩) (rD : RelV (.int 1) vD) : FunD K "__init__" "Amount.__init__" (defArgs sInit) (defBody sInit) (defScope sInit) [.int 1] [] f (PySem.W.fnOf "__init__" "Amount.__init__" (defArgs sInit) (defBody sInit) (defScope sInit) (.ref TD) kV doc pm an cdv ct) :=
  ⟨⟨oc, od, _, kV, doc, pm, an, cdv, ct, sl, rfl, l, c, .inr ⟨by simp, TD, _, [vD], nD, rfl, lD, rfl, .cons rD .nil⟩, .inl rfl⟩, k⟩
end SP
/-! How a def of an error's __init__ reads. -/
namespace SP
open PySem PySem.Spec PyProof.Rows L2 PySem.W PySem.Calls
/-- how a def of an error's __init__ reads -/
structure ErrTxt (st : Stmt) (fld : String) (vn : Str) : Prop where
  body : ∃ (txt : Str) (k0 : Nat) (p0 p1 p2 p3 p4 p5 p6 p7 p8 p9 : Pos), defBody st = errB txt (Str.ofString fld) vn k0 p0 p1 p2 p3 p4 p5 p6 p7 p8 p9 ∧
    ∀ (q : Str) (L f cda cc : Addr), eval (.Call (.Attribute (.Call (.Name "super" p0) [] [] p1) "__init__" p2) [.Constant (.str txt) k0 p3] [] p4) (ksEnv q (defScope st) L f (.ref cda) cc) = (do
      let ov ← attributeBase (.Call (.Name "super" p0) [] [] p1) "__init__" (ksEnv q (defScope st) L f (.ref cda) cc) (eval (.Call (.Name "super" p0) [] [] p1) (ksEnv q (defScope st) L f (.ref cda) cc))
      standAt p2.atName
      let (g, first) ← holding [ov] (getMethod ov "__init__" (do return (← importBound (.Call (.Name "super" p0) [] [] p1) (ksEnv q (defScope st) L f (.ref cda) cc)).getD true))
      callWith p4 g first (backTo p4 (starEach [.Constant (.str txt) k0 p3] (ksEnv q (defScope st) L f (.ref cda) cc))) [])
  hp : ∃ ar, ((defArgs st).posonlyargs ++ (defArgs st).args).head? = some ar ∧ ar.arg = "self"
  hne : ("self" : Str) ≠ vn
  hks : (defScope st).names.lookup ("super" : Str) = some .globalImplicit
  hkc : (defScope st).names.lookup ("__class__" : Str) = some .free
  hka : (defScope st).names.lookup ("self" : Str) = some .local
  hkv : (defScope st).names.lookup vn = some .local
  hdv : (vn == ("__debug__" : Str)) = false
  hk : (defScope st).kind = .function
  hcell : ∀ x ∈ (defScope st).names, x.2 ≠ .cell
  hco : (defScope st).isCoroutine = false
  hgen : (defScope st).isGenerator = false
end SP
/-! The own errors of the text: what k_is finds, put together. -/
namespace SP
open PySem PySem.Spec PyProof.Rows L2 PySem.W PySem.Calls
section
variable {P : Program} {w : World} {K : Frag} {mg : Str → Option Value} {base : Heap} {x : Str} {C D f cc cda : Addr} {name q file fld : String} {vn : Str} {st : Stmt}
  {kV doc pm ct : Value} {an od : Option Addr} {osl : Array (Option Value)} {oc : Value} {bmB : List Value}
theorem err_ok (R : ErrTxt st fld vn) (T : ErrIn K C D f cc cda (ksFn (Str.ofString name) (Str.ofString q) (defArgs st) (defBody st) (defScope st) .none kV doc pm an (.ref cda) ct cc) q file fld "ValueError" "ValueError.__init__" "ValueError.__new__" bmB)
    (FB : ExcBaseFacts "ValueError" "ValueError.__new__" "ValueError.__init__" bmB)
    (hfile : ((P.main.file : Str) == Str.ofString file) = true) (htop : (P.main.scope.names.lookup ("super" : Str)).isSome = false) (hm : mg x = some (.ref C)) (iC : findIn K (.ref C) "__init__" = some (some (.ref f))) (tI : typeIn K (.ref f) = some (.type "function"))
    (hb : Binds K (ksFn (Str.ofString name) (Str.ofString q) (defArgs st) (defBody st) (defScope st) .none kV doc pm an (.ref cda) ct cc) ["self", vn] []) : ErrOk P w K mg base x C (Str.ofString fld) := by
  obtain ⟨txt, k0, p0, p1, p2, p3, p4, p5, p6, p7, p8, p9, eb, hc⟩ := R.body
  rw [eb] at T hb
  exact ⟨hm, T.oex, f, _, vn, iC, tI, err_run T kxs_ValueError FB hfile htop R.hp R.hne R.hks R.hkc R.hka R.hkv R.hdv R.hk R.hcell R.hco R.hgen (hc _ · _ _ _), hb⟩
end
section
variable {P : Program} {w : World} {K : Frag} {h : Heap} {mg : Str → Option Value} {base : Heap} {x : Str} {C f cc cda : Addr} {cn q file fld : String} {vn : Str} {st : Stmt}
  {kV doc pm ct oc ccl cl : Value} {an od cdd cld : Option Addr} {osl ccs csl : Array (Option Value)} {bmB : List Value} {nm qn : Str} {N : Addr} {bs bm : List Value} {sn : List Str} {vs : Array Value} {tf : Tok}
theorem err_mk (R : ErrTxt st fld vn) (FB : ExcBaseFacts "ValueError" "ValueError.__new__" "ValueError.__init__" bmB) (hfile : ((P.main.file : Str) == Str.ofString file) = true) (htop : (P.main.scope.names.lookup ("super" : Str)).isSome = false)
    (hb : ∀ us : List Value, us.length = 2 → bindArgs (ksFn "__init__" (Str.ofString q) (defArgs st) (defBody st) (defScope st) .none kV doc pm an (.ref cda) ct cc) ⟨us, []⟩ = pure (([("self" : Str), vn] : List Str).zip us))
    (X : K.In h) (G : h.Ns mainGlobals mg) (aC : nsIn K mainGlobals x = some (some (.ref C)))
    (lC : ∃ nm q N bs bm sn sub ab col dd k0 k1 k2 k3 k5, K.lookup C = some (excClassObj nm q C N bs bm true sn sub ab col dd k0 k1 k2 k3 k5 "ValueError.__new__") ∧ PySem.HandSPX.refsVE bm = true)
    (sa : findIn K (.ref C) "__setattr__" = some (some (.builtin "object.__setattr__"))) (ex : subIn K (.ref C) (.type "BaseException") = some true) (ty : typeIn K (.ref C) = some (.type "type")) (kC : keepIn K (.ref C) = true)
    (iC : findIn K (.ref C) "__init__" = some (some (.ref f)))
    (lf : K.lookup f = some ⟨oc, od, .func (ksFn "__init__" (Str.ofString q) (defArgs st) (defBody st) (defScope st) .none kV doc pm an (.ref cda) ct cc), osl⟩) (tI : typeIn K (.ref f) = some (.type "function"))
    (lcd : K.lookup cda = some ⟨ccl, cdd, .fields vs, ccs⟩) (vcd : vs[2]? = some (.str (Str.ofString file) tf)) (rc : codeIn K (.ref cda) (Str.ofString q) = true) (lcc : K.lookup cc = some ⟨cl, cld, .cell (some (.ref C)), csl⟩)
    (sb : mroIn K C (.ref C) = some true) (su : nsIn K mainGlobals "super" = some none) (tp : nsIn K cStatics "thirdparty.any" = some none) (ini : ks_superIn K C C "__init__" = some (some (.builtin "ValueError.__init__")))
    (sv : subIn K (.ref C) (.type "ValueError") = some true) (ei : excInitIn K C bmB "ValueError.__new__" = true) (nf : findIn K (.ref C) (Str.ofString fld) = some none) : ErrOk P w K mg base x C (Str.ofString fld) := by
  have hcl : ∃ cdD, clsIn K C = some cdD := by
    obtain ⟨nm, q, N, bs, bm, sn, sub, ab, col, dd, k0, k1, k2, k3, k5, hC, hbm⟩ := lC
    exact ⟨{ name := nm, bases := bs, mro := .ref C :: bm, ns := N, qualname := q, hasDict := true, slotNames := sn, subclasses := sub, abstract := ab, collection := col, hasDel := false }, by unfold clsIn; rw [hC] <;> rfl⟩
  exact err_ok (name := "__init__") R ⟨⟨lC, sa, ex, ty, kC⟩, ⟨oc, od, osl, lf⟩, ⟨ccl, cdd, vs, ccs, tf, lcd, vcd⟩, rc, ⟨cl, cld, csl, lcc⟩, hcl, sb, su, tp, ini, sv, ei, nf⟩ FB hfile htop (mg_of X G aC) iC tI (.all hb)
end
/-- the text's -/
def sEII : Stmt := inClass (top 3) 0
theorem r_sEII : ErrTxt sEII "value" "value" := ⟨⟨_, _, _, _, _, _, _, _, _, _, _, _, rfl, fun q L f cda cc => by rfl⟩, ⟨_, rfl, rfl⟩, by decide, by rfl, by rfl, by rfl, by rfl, by decide, rfl, by decide, rfl, rfl⟩
def sEIA : Stmt := inClass (top 4) 0
theorem r_sEIA : ErrTxt sEIA "value" "value" := ⟨⟨_, _, _, _, _, _, _, _, _, _, _, _, rfl, fun q L f cda cc => by rfl⟩, ⟨_, rfl, rfl⟩, by decide, by rfl, by rfl, by rfl, by rfl, by decide, rfl, by decide, rfl, rfl⟩
end SP
namespace SP
open PySem PySem.Spec PyProof.Rows L2 PySem.Calls
def sEIT : Stmt := inClass (top 5) 0
theorem r_sEIT : ErrTxt sEIT "line" "line" := ⟨⟨_, _, _, _, _, _, _, _, _, _, _, _, rfl, fun q L f cda cc => by rfl⟩, ⟨_, rfl, rfl⟩, by decide, by rfl, by rfl, by rfl, by rfl, by decide, rfl, by decide, rfl, rfl⟩
theorem all_mk {P : Program} {w : World} {K : PySem.W.Frag} {h : Heap} {mg : Str → Option Value} {fa C fA0 fA1 fA2 TD fI fM0 fM1 fM2 fM3 fM4 fM5 fM6 pQ fQ fOf fOadd fOradd fOsub fOrsub fOmul fOrmul fOneg fOabs fObool fP0 fP1 fP2 pBt fBt CP CE1 fE1 uE1 cE1 fWh fAi pS fS fD0 fD1 fD2 fD3 fD4 fD5 fD6 fD7 fD8 fD9 fD10 fL : Addr} (X : K.In h) (G : h.Ns mainGlobals mg) (hfa : mg "law" = some (.ref fa))
    {odA0 anA0 : Option Addr} {slA0 : Array (Option Value)} {ocA0 kVA0 dcA0 pmA0 cdA0 ctA0 : Value}
    {odA1 anA1 : Option Addr} {slA1 : Array (Option Value)} {ocA1 kVA1 dcA1 pmA1 cdA1 ctA1 : Value}
    {odA2 anA2 : Option Addr} {slA2 : Array (Option Value)} {ocA2 kVA2 dcA2 pmA2 cdA2 ctA2 : Value}
    {ocD vD : Value} {odD : Option Addr} {slD : Array (Option Value)} {nD : Nat}
    {odI anI : Option Addr} {slI : Array (Option Value)} {ocI kVI dcI pmI cdI ctI : Value}
    {odM0 anM0 : Option Addr} {slM0 : Array (Option Value)} {ocM0 kVM0 dcM0 pmM0 cdM0 ctM0 : Value}
    {odM1 anM1 : Option Addr} {slM1 : Array (Option Value)} {ocM1 kVM1 dcM1 pmM1 cdM1 ctM1 : Value}
    {odM2 anM2 : Option Addr} {slM2 : Array (Option Value)} {ocM2 kVM2 dcM2 pmM2 cdM2 ctM2 : Value}
    {odM3 anM3 : Option Addr} {slM3 : Array (Option Value)} {ocM3 kVM3 dcM3 pmM3 cdM3 ctM3 : Value}
    {odM4 anM4 : Option Addr} {slM4 : Array (Option Value)} {ocM4 kVM4 dcM4 pmM4 cdM4 ctM4 : Value}
    {odM5 anM5 : Option Addr} {slM5 : Array (Option Value)} {ocM5 kVM5 dcM5 pmM5 cdM5 ctM5 : Value}
    {odM6 anM6 : Option Addr} {slM6 : Array (Option Value)} {ocM6 kVM6 dcM6 pmM6 cdM6 ctM6 : Value}
    {rsQ : List Value}
    {odQ anQ : Option Addr} {slQ : Array (Option Value)} {ocQ kVQ dcQ pmQ cdQ ctQ : Value}
    {odOf anOf : Option Addr} {slOf : Array (Option Value)} {ocOf kVOf dcOf pmOf cdOf ctOf : Value}
    {odOadd anOadd : Option Addr} {slOadd : Array (Option Value)} {ocOadd kVOadd dcOadd pmOadd cdOadd ctOadd : Value}
    {odOradd anOradd : Option Addr} {slOradd : Array (Option Value)} {ocOradd kVOradd dcOradd pmOradd cdOradd ctOradd : Value}
    {odOsub anOsub : Option Addr} {slOsub : Array (Option Value)} {ocOsub kVOsub dcOsub pmOsub cdOsub ctOsub : Value}
    {odOrsub anOrsub : Option Addr} {slOrsub : Array (Option Value)} {ocOrsub kVOrsub dcOrsub pmOrsub cdOrsub ctOrsub : Value}
    {odOmul anOmul : Option Addr} {slOmul : Array (Option Value)} {ocOmul kVOmul dcOmul pmOmul cdOmul ctOmul : Value}
    {odOrmul anOrmul : Option Addr} {slOrmul : Array (Option Value)} {ocOrmul kVOrmul dcOrmul pmOrmul cdOrmul ctOrmul : Value}
    {odOneg anOneg : Option Addr} {slOneg : Array (Option Value)} {ocOneg kVOneg dcOneg pmOneg cdOneg ctOneg : Value}
    {odOabs anOabs : Option Addr} {slOabs : Array (Option Value)} {ocOabs kVOabs dcOabs pmOabs cdOabs ctOabs : Value}
    {odObool anObool : Option Addr} {slObool : Array (Option Value)} {ocObool kVObool dcObool pmObool cdObool ctObool : Value}
    {odP0 anP0 : Option Addr} {slP0 : Array (Option Value)} {ocP0 kVP0 dcP0 pmP0 cdP0 ctP0 : Value}
    {odP1 anP1 : Option Addr} {slP1 : Array (Option Value)} {ocP1 kVP1 dcP1 pmP1 cdP1 ctP1 : Value}
    {odP2 anP2 : Option Addr} {slP2 : Array (Option Value)} {ocP2 kVP2 dcP2 pmP2 cdP2 ctP2 : Value}
    {rsBt : List Value}
    {odBt anBt : Option Addr} {slBt : Array (Option Value)} {ocBt kVBt dcBt pmBt cdBt ctBt : Value}
    {kE1 dE1 pE1 tE1 oE1 gE1 nE1 : Value} {an1 od1 ud1 nd1 : Option Addr} {os1 us1 ns1 : Array (Option Value)} {vE1 : Array Value} {wE1 : Tok} {FE1 : String}
    {vFg vMf : Value}
    {odWh anWh : Option Addr} {slWh : Array (Option Value)} {ocWh kVWh dcWh pmWh cdWh ctWh : Value}
    {odAi anAi : Option Addr} {slAi : Array (Option Value)} {ocAi kVAi dcAi pmAi cdAi ctAi : Value}
    {rsS : List Value}
    {odS anS : Option Addr} {slS : Array (Option Value)} {ocS kVS dcS pmS cdS ctS : Value}
    {odD0 anD0 : Option Addr} {slD0 : Array (Option Value)} {ocD0 kVD0 dcD0 pmD0 cdD0 ctD0 : Value}
    {odD1 anD1 : Option Addr} {slD1 : Array (Option Value)} {ocD1 kVD1 dcD1 pmD1 cdD1 ctD1 : Value}
    {odD2 anD2 : Option Addr} {slD2 : Array (Option Value)} {ocD2 kVD2 dcD2 pmD2 cdD2 ctD2 : Value}
    {odD3 anD3 : Option Addr} {slD3 : Array (Option Value)} {ocD3 kVD3 dcD3 pmD3 cdD3 ctD3 : Value}
    {odD4 anD4 : Option Addr} {slD4 : Array (Option Value)} {ocD4 kVD4 dcD4 pmD4 cdD4 ctD4 : Value}
    {odD5 anD5 : Option Addr} {slD5 : Array (Option Value)} {ocD5 kVD5 dcD5 pmD5 cdD5 ctD5 : Value}
    {odD6 anD6 : Option Addr} {slD6 : Array (Option Value)} {ocD6 kVD6 dcD6 pmD6 cdD6 ctD6 : Value}
    {odD7 anD7 : Option Addr} {slD7 : Array (Option Value)} {ocD7 kVD7 dcD7 pmD7 cdD7 ctD7 : Value}
    {odD8 anD8 : Option Addr} {slD8 : Array (Option Value)} {ocD8 kVD8 dcD8 pmD8 cdD8 ctD8 : Value}
    {odD9 anD9 : Option Addr} {slD9 : Array (Option Value)} {ocD9 kVD9 dcD9 pmD9 cdD9 ctD9 : Value}
    {odD10 anD10 : Option Addr} {slD10 : Array (Option Value)} {ocD10 kVD10 dcD10 pmD10 cdD10 ctD10 : Value}
    {odL anL : Option Addr} {slL : Array (Option Value)} {ocL kVL dcL pmL cdL ctL : Value}
    (aC : PySem.W.nsIn K mainGlobals "Amount" = some (some (.ref C)))
    (aA0 : PySem.W.nsIn K mainGlobals "is_integer" = some (some (.ref fA0)))
    (lA0 : K.lookup fA0 = some ⟨ocA0, odA0, .func (PySem.W.fnOf "is_integer" "is_integer" (defArgs sIsInt) (defBody sIsInt) (defScope sIsInt) .none kVA0 dcA0 pmA0 anA0 cdA0 ctA0), slA0⟩)
    (cA0 : PySem.W.codeIn K cdA0 "is_integer" = true)
    (kA0 : PySem.W.keepIn K (.ref fA0) = true)
    (aA1 : PySem.W.nsIn K mainGlobals "common_divisor" = some (some (.ref fA1)))
    (lA1 : K.lookup fA1 = some ⟨ocA1, odA1, .func (PySem.W.fnOf "common_divisor" "common_divisor" (defArgs sCD) (defBody sCD) (defScope sCD) .none kVA1 dcA1 pmA1 anA1 cdA1 ctA1), slA1⟩)
    (cA1 : PySem.W.codeIn K cdA1 "common_divisor" = true)
    (kA1 : PySem.W.keepIn K (.ref fA1) = true)
    (aA2 : PySem.W.nsIn K mainGlobals "place_of" = some (some (.ref fA2)))
    (lA2 : K.lookup fA2 = some ⟨ocA2, odA2, .func (PySem.W.fnOf "place_of" "place_of" (defArgs sPl) (defBody sPl) (defScope sPl) .none kVA2 dcA2 pmA2 anA2 cdA2 ctA2), slA2⟩)
    (cA2 : PySem.W.codeIn K cdA2 "place_of" = true)
    (kA2 : PySem.W.keepIn K (.ref fA2) = true)
    (aI : PySem.W.findIn K (.ref C) "__init__" = some (some (.ref fI)))
    (lI : K.lookup fI = some ⟨ocI, odI, .func (PySem.W.fnOf "__init__" "Amount.__init__" (defArgs sInit) (defBody sInit) (defScope sInit) (.ref TD) kVI dcI pmI anI cdI ctI), slI⟩)
    (cI : PySem.W.codeIn K cdI "Amount.__init__" = true)
    (kI : PySem.W.keepIn K (.ref fI) = true)
    (lD : K.lookup TD = some ⟨ocD, odD, .seq #[vD] nD, slD⟩)
    (rD : RelV (.int 1) vD)
    (iI : PySem.W.isFn K (.ref fI) = true)
    (mk : PySem.W.makesIn K C = true)
    (kc : PySem.W.keepIn K (.ref C) = true)
    (pg : PySem.W.plainGet K C Str.empty = true)
    (hd : PySem.W.hasDictIn K C = true)
    (po : PySem.W.plainOver K C = true)
    (sa : PySem.W.findIn K (.ref C) "__setattr__" = some (some (.builtin "object.__setattr__")))
    (ca : PySem.W.findIn K (.ref C) "__class__" = some (some (.builtin "object.__class__")))
    (cn : PySem.W.specialIn K (.builtin "object.__class__") "__get__" = some (some (.builtin "getset_descriptor.__get__")))
    (ck : PySem.W.takesIn K (.builtin "object.__class__") = some true)
    (cm : PySem.W.mroIn K C (.type "object") = some true)
    (ne : PySem.W.findIn K (.ref C) "__ne__" = some (some (.builtin "object.__ne__")))
    (tu : PySem.W.subIn K (.ref C) (.type "tuple") = some false)
    (li : PySem.W.subIn K (.ref C) (.type "list") = some false)
    (ic : PySem.W.isClsIn K C = true)
    (ty : PySem.W.typeIn K (.ref C) = some (.type "type"))
    (nT : PySem.W.findIn K (.ref C) "own_top" = some none)
    (nB : PySem.W.findIn K (.ref C) "own_bottom" = some none)
    (nP : PySem.W.findIn K (.ref C) "own_place" = some none)
    (z_isinstance : PySem.W.nsIn K mainGlobals "isinstance" = some none)
    (z_int : PySem.W.nsIn K mainGlobals "int" = some none)
    (z_bool : PySem.W.nsIn K mainGlobals "bool" = some none)
    (z_abs : PySem.W.nsIn K mainGlobals "abs" = some none)
    (aM0 : PySem.W.findIn K (.ref C) "__eq__" = some (some (.ref fM0)))
    (lM0 : K.lookup fM0 = some ⟨ocM0, odM0, .func (PySem.W.fnOf "__eq__" "Amount.__eq__" (defArgs sMEq) (defBody sMEq) (defScope sMEq) .none kVM0 dcM0 pmM0 anM0 cdM0 ctM0), slM0⟩)
    (cM0 : PySem.W.codeIn K cdM0 "Amount.__eq__" = true)
    (kM0 : PySem.W.keepIn K (.ref fM0) = true)
    (iM0 : PySem.W.isFn K (.ref fM0) = true)
    (aM1 : PySem.W.findIn K (.ref C) "__lt__" = some (some (.ref fM1)))
    (lM1 : K.lookup fM1 = some ⟨ocM1, odM1, .func (PySem.W.fnOf "__lt__" "Amount.__lt__" (defArgs sMLt) (defBody sMLt) (defScope sMLt) .none kVM1 dcM1 pmM1 anM1 cdM1 ctM1), slM1⟩)
    (cM1 : PySem.W.codeIn K cdM1 "Amount.__lt__" = true)
    (kM1 : PySem.W.keepIn K (.ref fM1) = true)
    (iM1 : PySem.W.isFn K (.ref fM1) = true)
    (aM2 : PySem.W.findIn K (.ref C) "__le__" = some (some (.ref fM2)))
    (lM2 : K.lookup fM2 = some ⟨ocM2, odM2, .func (PySem.W.fnOf "__le__" "Amount.__le__" (defArgs sMLe) (defBody sMLe) (defScope sMLe) .none kVM2 dcM2 pmM2 anM2 cdM2 ctM2), slM2⟩)
    (cM2 : PySem.W.codeIn K cdM2 "Amount.__le__" = true)
    (kM2 : PySem.W.keepIn K (.ref fM2) = true)
    (iM2 : PySem.W.isFn K (.ref fM2) = true)
    (aM3 : PySem.W.findIn K (.ref C) "__gt__" = some (some (.ref fM3)))
    (lM3 : K.lookup fM3 = some ⟨ocM3, odM3, .func (PySem.W.fnOf "__gt__" "Amount.__gt__" (defArgs sMGt) (defBody sMGt) (defScope sMGt) .none kVM3 dcM3 pmM3 anM3 cdM3 ctM3), slM3⟩)
    (cM3 : PySem.W.codeIn K cdM3 "Amount.__gt__" = true)
    (kM3 : PySem.W.keepIn K (.ref fM3) = true)
    (iM3 : PySem.W.isFn K (.ref fM3) = true)
    (aM4 : PySem.W.findIn K (.ref C) "__ge__" = some (some (.ref fM4)))
    (lM4 : K.lookup fM4 = some ⟨ocM4, odM4, .func (PySem.W.fnOf "__ge__" "Amount.__ge__" (defArgs sMGe) (defBody sMGe) (defScope sMGe) .none kVM4 dcM4 pmM4 anM4 cdM4 ctM4), slM4⟩)
    (cM4 : PySem.W.codeIn K cdM4 "Amount.__ge__" = true)
    (kM4 : PySem.W.keepIn K (.ref fM4) = true)
    (iM4 : PySem.W.isFn K (.ref fM4) = true)
    (aM5 : PySem.W.findIn K (.ref C) "__str__" = some (some (.ref fM5)))
    (lM5 : K.lookup fM5 = some ⟨ocM5, odM5, .func (PySem.W.fnOf "__str__" "Amount.__str__" (defArgs sMStr) (defBody sMStr) (defScope sMStr) .none kVM5 dcM5 pmM5 anM5 cdM5 ctM5), slM5⟩)
    (cM5 : PySem.W.codeIn K cdM5 "Amount.__str__" = true)
    (kM5 : PySem.W.keepIn K (.ref fM5) = true)
    (iM5 : PySem.W.isFn K (.ref fM5) = true)
    (aM6 : PySem.W.findIn K (.ref C) "__repr__" = some (some (.ref fM6)))
    (lM6 : K.lookup fM6 = some ⟨ocM6, odM6, .func (PySem.W.fnOf "__repr__" "Amount.__repr__" (defArgs sMRepr) (defBody sMRepr) (defScope sMRepr) .none kVM6 dcM6 pmM6 anM6 cdM6 ctM6), slM6⟩)
    (cM6 : PySem.W.codeIn K cdM6 "Amount.__repr__" = true)
    (kM6 : PySem.W.keepIn K (.ref fM6) = true)
    (iM6 : PySem.W.isFn K (.ref fM6) = true)
    (qQ : PySem.W.findIn K (.ref C) "top" = some (some (.ref pQ)))
    (gQ : PySem.W.specialIn K (.ref pQ) "__get__" = some (some (.builtin "property.__get__")))
    (tQ : PySem.W.takesIn K (.ref pQ) = some true)
    (aQ : PySem.W.recIn K pQ "property" = some (.ref fQ :: rsQ))
    (lQ : K.lookup fQ = some ⟨ocQ, odQ, .func (PySem.W.fnOf "top" "Amount.top" (defArgs sMTop) (defBody sMTop) (defScope sMTop) .none kVQ dcQ pmQ anQ cdQ ctQ), slQ⟩)
    (cQ : PySem.W.codeIn K cdQ "Amount.top" = true)
    (kQ : PySem.W.keepIn K (.ref fQ) = true)
    (z_str : PySem.W.nsIn K mainGlobals "str" = some none)
    (aOf : PySem.W.nsIn K mainGlobals "amount_of" = some (some (.ref fOf)))
    (lOf : K.lookup fOf = some ⟨ocOf, odOf, .func (PySem.W.fnOf "amount_of" "amount_of" (defArgs sOf) (defBody sOf) (defScope sOf) .none kVOf dcOf pmOf anOf cdOf ctOf), slOf⟩)
    (cOf : PySem.W.codeIn K cdOf "amount_of" = true)
    (kOf : PySem.W.keepIn K (.ref fOf) = true)
    (sf : PySem.W.selfFirst K C = true)
    (si : PySem.W.subIn K (.ref C) (.type "int") = some false)
    (aOadd : PySem.W.findIn K (.ref C) "__add__" = some (some (.ref fOadd)))
    (lOadd : K.lookup fOadd = some ⟨ocOadd, odOadd, .func (PySem.W.fnOf "__add__" "Amount.__add__" (defArgs sMAdd) (defBody sMAdd) (defScope sMAdd) .none kVOadd dcOadd pmOadd anOadd cdOadd ctOadd), slOadd⟩)
    (cOadd : PySem.W.codeIn K cdOadd "Amount.__add__" = true)
    (kOadd : PySem.W.keepIn K (.ref fOadd) = true)
    (iOadd : PySem.W.isFn K (.ref fOadd) = true)
    (aOradd : PySem.W.findIn K (.ref C) "__radd__" = some (some (.ref fOradd)))
    (lOradd : K.lookup fOradd = some ⟨ocOradd, odOradd, .func (PySem.W.fnOf "__radd__" "Amount.__radd__" (defArgs sMRadd) (defBody sMRadd) (defScope sMRadd) .none kVOradd dcOradd pmOradd anOradd cdOradd ctOradd), slOradd⟩)
    (cOradd : PySem.W.codeIn K cdOradd "Amount.__radd__" = true)
    (kOradd : PySem.W.keepIn K (.ref fOradd) = true)
    (iOradd : PySem.W.isFn K (.ref fOradd) = true)
    (aOsub : PySem.W.findIn K (.ref C) "__sub__" = some (some (.ref fOsub)))
    (lOsub : K.lookup fOsub = some ⟨ocOsub, odOsub, .func (PySem.W.fnOf "__sub__" "Amount.__sub__" (defArgs sMSub) (defBody sMSub) (defScope sMSub) .none kVOsub dcOsub pmOsub anOsub cdOsub ctOsub), slOsub⟩)
    (cOsub : PySem.W.codeIn K cdOsub "Amount.__sub__" = true)
    (kOsub : PySem.W.keepIn K (.ref fOsub) = true)
    (iOsub : PySem.W.isFn K (.ref fOsub) = true)
    (aOrsub : PySem.W.findIn K (.ref C) "__rsub__" = some (some (.ref fOrsub)))
    (lOrsub : K.lookup fOrsub = some ⟨ocOrsub, odOrsub, .func (PySem.W.fnOf "__rsub__" "Amount.__rsub__" (defArgs sMRsub) (defBody sMRsub) (defScope sMRsub) .none kVOrsub dcOrsub pmOrsub anOrsub cdOrsub ctOrsub), slOrsub⟩)
    (cOrsub : PySem.W.codeIn K cdOrsub "Amount.__rsub__" = true)
    (kOrsub : PySem.W.keepIn K (.ref fOrsub) = true)
    (iOrsub : PySem.W.isFn K (.ref fOrsub) = true)
    (aOmul : PySem.W.findIn K (.ref C) "__mul__" = some (some (.ref fOmul)))
    (lOmul : K.lookup fOmul = some ⟨ocOmul, odOmul, .func (PySem.W.fnOf "__mul__" "Amount.__mul__" (defArgs sMMul) (defBody sMMul) (defScope sMMul) .none kVOmul dcOmul pmOmul anOmul cdOmul ctOmul), slOmul⟩)
    (cOmul : PySem.W.codeIn K cdOmul "Amount.__mul__" = true)
    (kOmul : PySem.W.keepIn K (.ref fOmul) = true)
    (iOmul : PySem.W.isFn K (.ref fOmul) = true)
    (aOrmul : PySem.W.findIn K (.ref C) "__rmul__" = some (some (.ref fOrmul)))
    (lOrmul : K.lookup fOrmul = some ⟨ocOrmul, odOrmul, .func (PySem.W.fnOf "__rmul__" "Amount.__rmul__" (defArgs sMRmul) (defBody sMRmul) (defScope sMRmul) .none kVOrmul dcOrmul pmOrmul anOrmul cdOrmul ctOrmul), slOrmul⟩)
    (cOrmul : PySem.W.codeIn K cdOrmul "Amount.__rmul__" = true)
    (kOrmul : PySem.W.keepIn K (.ref fOrmul) = true)
    (iOrmul : PySem.W.isFn K (.ref fOrmul) = true)
    (aOneg : PySem.W.findIn K (.ref C) "__neg__" = some (some (.ref fOneg)))
    (lOneg : K.lookup fOneg = some ⟨ocOneg, odOneg, .func (PySem.W.fnOf "__neg__" "Amount.__neg__" (defArgs sMNeg) (defBody sMNeg) (defScope sMNeg) .none kVOneg dcOneg pmOneg anOneg cdOneg ctOneg), slOneg⟩)
    (cOneg : PySem.W.codeIn K cdOneg "Amount.__neg__" = true)
    (kOneg : PySem.W.keepIn K (.ref fOneg) = true)
    (iOneg : PySem.W.isFn K (.ref fOneg) = true)
    (aOabs : PySem.W.findIn K (.ref C) "__abs__" = some (some (.ref fOabs)))
    (lOabs : K.lookup fOabs = some ⟨ocOabs, odOabs, .func (PySem.W.fnOf "__abs__" "Amount.__abs__" (defArgs sMAbs) (defBody sMAbs) (defScope sMAbs) .none kVOabs dcOabs pmOabs anOabs cdOabs ctOabs), slOabs⟩)
    (cOabs : PySem.W.codeIn K cdOabs "Amount.__abs__" = true)
    (kOabs : PySem.W.keepIn K (.ref fOabs) = true)
    (iOabs : PySem.W.isFn K (.ref fOabs) = true)
    (aObool : PySem.W.findIn K (.ref C) "__bool__" = some (some (.ref fObool)))
    (lObool : K.lookup fObool = some ⟨ocObool, odObool, .func (PySem.W.fnOf "__bool__" "Amount.__bool__" (defArgs sMBool) (defBody sMBool) (defScope sMBool) .none kVObool dcObool pmObool anObool cdObool ctObool), slObool⟩)
    (cObool : PySem.W.codeIn K cdObool "Amount.__bool__" = true)
    (kObool : PySem.W.keepIn K (.ref fObool) = true)
    (iObool : PySem.W.isFn K (.ref fObool) = true)
    (z_max : PySem.W.nsIn K mainGlobals "max" = some none)
    (z_len : PySem.W.nsIn K mainGlobals "len" = some none)
    (z_divmod : PySem.W.nsIn K mainGlobals "divmod" = some none)
    (aP0 : PySem.W.nsIn K mainGlobals "_law_pot" = some (some (.ref fP0)))
    (lP0 : K.lookup fP0 = some ⟨ocP0, odP0, .func (PySem.W.fnOf "_law_pot" "_law_pot" (defArgs sPot) (defBody sPot) (defScope sPot) .none kVP0 dcP0 pmP0 anP0 cdP0 ctP0), slP0⟩)
    (cP0 : PySem.W.codeIn K cdP0 "_law_pot" = true)
    (kP0 : PySem.W.keepIn K (.ref fP0) = true)
    (aP1 : PySem.W.nsIn K mainGlobals "_law_draw" = some (some (.ref fP1)))
    (lP1 : K.lookup fP1 = some ⟨ocP1, odP1, .func (PySem.W.fnOf "_law_draw" "_law_draw" (defArgs sDraw) (defBody sDraw) (defScope sDraw) .none kVP1 dcP1 pmP1 anP1 cdP1 ctP1), slP1⟩)
    (cP1 : PySem.W.codeIn K cdP1 "_law_draw" = true)
    (kP1 : PySem.W.keepIn K (.ref fP1) = true)
    (aP2 : PySem.W.nsIn K mainGlobals "_law_choice" = some (some (.ref fP2)))
    (lP2 : K.lookup fP2 = some ⟨ocP2, odP2, .func (PySem.W.fnOf "_law_choice" "_law_choice" (defArgs sChoice) (defBody sChoice) (defScope sChoice) .none kVP2 dcP2 pmP2 anP2 cdP2 ctP2), slP2⟩)
    (cP2 : PySem.W.codeIn K cdP2 "_law_choice" = true)
    (kP2 : PySem.W.keepIn K (.ref fP2) = true)
    (qBt : PySem.W.findIn K (.ref C) "bottom" = some (some (.ref pBt)))
    (gBt : PySem.W.specialIn K (.ref pBt) "__get__" = some (some (.builtin "property.__get__")))
    (tBt : PySem.W.takesIn K (.ref pBt) = some true)
    (aBt : PySem.W.recIn K pBt "property" = some (.ref fBt :: rsBt))
    (lBt : K.lookup fBt = some ⟨ocBt, odBt, .func (PySem.W.fnOf "bottom" "Amount.bottom" (defArgs sMBot) (defBody sMBot) (defScope sMBot) .none kVBt dcBt pmBt anBt cdBt ctBt), slBt⟩)
    (cBt : PySem.W.codeIn K cdBt "Amount.bottom" = true)
    (kBt : PySem.W.keepIn K (.ref fBt) = true)
    (aPE : PySem.W.nsIn K mainGlobals "PipeError" = some (some (.ref CP)))
    (icP : PySem.W.isClsIn K CP = true)
    (tyP : PySem.W.typeIn K (.ref CP) = some (.type "type"))
    (eaC1 : PySem.W.nsIn K mainGlobals "InvalidText" = some (some (.ref CE1)))
    (eiC1 : PySem.W.findIn K (.ref CE1) "__init__" = some (some (.ref fE1)))
    (elf1 : K.lookup fE1 = some ⟨oE1, od1, .func (PySem.W.ksFn "__init__" (Str.ofString "InvalidText.__init__") (defArgs sEIT) (defBody sEIT) (defScope sEIT) .none kE1 dE1 pE1 an1 (.ref uE1) tE1 cE1), os1⟩)
    (elu1 : K.lookup uE1 = some ⟨gE1, ud1, .fields vE1, us1⟩)
    (evu1 : vE1[2]? = some (.str (Str.ofString FE1) wE1))
    (ehf1 : ((P.main.file : Str) == Str.ofString FE1) = true)
    (eht1 : (P.main.scope.names.lookup ("super" : Str)).isSome = false)
    (elC1 : ∃ nm q N bs bm sn sub ab col dd k0 k1 k2 k3 k5, K.lookup CE1 = some (excClassObj nm q CE1 N bs bm true sn sub ab col dd k0 k1 k2 k3 k5 "ValueError.__new__") ∧ PySem.HandSPX.refsVE bm = true)
    (esa1 : PySem.W.findIn K (.ref CE1) "__setattr__" = some (some (.builtin "object.__setattr__")))
    (eex1 : PySem.W.subIn K (.ref CE1) (.type "BaseException") = some true)
    (ety1 : PySem.W.typeIn K (.ref CE1) = some (.type "type"))
    (ekC1 : PySem.W.keepIn K (.ref CE1) = true)
    (etI1 : PySem.W.typeIn K (.ref fE1) = some (.type "function"))
    (erc1 : PySem.W.codeIn K (.ref uE1) (Str.ofString "InvalidText.__init__") = true)
    (elc1 : K.lookup cE1 = some ⟨nE1, nd1, .cell (some (.ref CE1)), ns1⟩)
    (esb1 : PySem.W.mroIn K CE1 (.ref CE1) = some true)
    (esu1 : PySem.W.nsIn K mainGlobals "super" = some none)
    (etp1 : PySem.W.nsIn K cStatics "thirdparty.any" = some none)
    (eni1 : PySem.W.ks_superIn K CE1 CE1 "__init__" = some (some (.builtin "ValueError.__init__")))
    (esv1 : PySem.W.subIn K (.ref CE1) (.type "ValueError") = some true)
    (eei1 : PySem.W.excInitIn K CE1 [.type "ValueError", .type "Exception", .type "BaseException", .type "object"] "ValueError.__new__" = true)
    (enf1 : PySem.W.findIn K (.ref CE1) (Str.ofString "line") = some none)
    (xga1 : PySem.W.findIn K (.ref CE1) "__getattribute__" = some (some (.builtin "BaseException.__getattribute__")))
    (xgg1 : PySem.W.findIn K (.ref CE1) "__getattr__" = some none)
    (xhd1 : PySem.W.hasDictIn K CE1 = true)
    (xic1 : PySem.W.isClsIn K CE1 = true)
    (xca1 : PySem.W.findIn K (.ref CE1) "__class__" = some (some (.builtin "object.__class__")))
    (xcm1 : PySem.W.mroIn K CE1 (.type "object") = some true)
    (xkP1 : PySem.W.subIn K (.ref CE1) (.ref CP) = some true)
    (xow1 : PySem.W.subIn K (.ref CE1) (.ref CE1) = some true)
    (kCS : PySem.W.subIn K (.ref C) (.type "str") = some false)
    (aFg : PySem.W.nsIn K mainGlobals "FIGURES" = some (some vFg))
    (rFg : RelV (.str "0123456789") vFg)
    (aMf : PySem.W.nsIn K mainGlobals "MOST_FIGURES" = some (some vMf))
    (rMf : RelV (.int 4000) vMf)
    (aWh : PySem.W.nsIn K mainGlobals "whole_in" = some (some (.ref fWh)))
    (lWh : K.lookup fWh = some ⟨ocWh, odWh, .func (PySem.W.fnOf "whole_in" "whole_in" (defArgs sWhole) (defBody sWhole) (defScope sWhole) .none kVWh dcWh pmWh anWh cdWh ctWh), slWh⟩)
    (cWh : PySem.W.codeIn K cdWh "whole_in" = true)
    (kWh : PySem.W.keepIn K (.ref fWh) = true)
    (aAi : PySem.W.nsIn K mainGlobals "amount_in" = some (some (.ref fAi)))
    (lAi : K.lookup fAi = some ⟨ocAi, odAi, .func (PySem.W.fnOf "amount_in" "amount_in" (defArgs sAmIn) (defBody sAmIn) (defScope sAmIn) .none kVAi dcAi pmAi anAi cdAi ctAi), slAi⟩)
    (cAi : PySem.W.codeIn K cdAi "amount_in" = true)
    (kAi : PySem.W.keepIn K (.ref fAi) = true)
    (rdS : PySem.W.readsIn K C (.type "type") = true)
    (gaS : PySem.W.specialIn K (.ref C) "__getattribute__" = some (some (.builtin "type.__getattribute__")))
    (atS : PySem.W.findCls K (.ref C) (.type "type") "read" = some (.get (.builtin "staticmethod.__get__") (.ref pS) .none (.ref C)))
    (aS : PySem.W.recIn K pS "staticmethod" = some (.ref fS :: rsS))
    (lS : K.lookup fS = some ⟨ocS, odS, .func (PySem.W.fnOf "read" "Amount.read" (defArgs sMRead) (defBody sMRead) (defScope sMRead) .none kVS dcS pmS anS cdS ctS), slS⟩)
    (cS : PySem.W.codeIn K cdS "Amount.read" = true)
    (kS : PySem.W.keepIn K (.ref fS) = true)
    (aD0 : PySem.W.nsIn K mainGlobals "_law_digits" = some (some (.ref fD0)))
    (lD0 : K.lookup fD0 = some ⟨ocD0, odD0, .func (PySem.W.fnOf "_law_digits" "_law_digits" (defArgs sLDg) (defBody sLDg) (defScope sLDg) .none kVD0 dcD0 pmD0 anD0 cdD0 ctD0), slD0⟩)
    (cD0 : PySem.W.codeIn K cdD0 "_law_digits" = true)
    (kD0 : PySem.W.keepIn K (.ref fD0) = true)
    (aD1 : PySem.W.nsIn K mainGlobals "_law_written" = some (some (.ref fD1)))
    (lD1 : K.lookup fD1 = some ⟨ocD1, odD1, .func (PySem.W.fnOf "_law_written" "_law_written" (defArgs sLWr) (defBody sLWr) (defScope sLWr) .none kVD1 dcD1 pmD1 anD1 cdD1 ctD1), slD1⟩)
    (cD1 : PySem.W.codeIn K cdD1 "_law_written" = true)
    (kD1 : PySem.W.keepIn K (.ref fD1) = true)
    (aD2 : PySem.W.nsIn K mainGlobals "_law_spoilt" = some (some (.ref fD2)))
    (lD2 : K.lookup fD2 = some ⟨ocD2, odD2, .func (PySem.W.fnOf "_law_spoilt" "_law_spoilt" (defArgs sLSp) (defBody sLSp) (defScope sLSp) .none kVD2 dcD2 pmD2 anD2 cdD2 ctD2), slD2⟩)
    (cD2 : PySem.W.codeIn K cdD2 "_law_spoilt" = true)
    (kD2 : PySem.W.keepIn K (.ref fD2) = true)
    (aD3 : PySem.W.nsIn K mainGlobals "_law_is_digits" = some (some (.ref fD3)))
    (lD3 : K.lookup fD3 = some ⟨ocD3, odD3, .func (PySem.W.fnOf "_law_is_digits" "_law_is_digits" (defArgs sLIs) (defBody sLIs) (defScope sLIs) .none kVD3 dcD3 pmD3 anD3 cdD3 ctD3), slD3⟩)
    (cD3 : PySem.W.codeIn K cdD3 "_law_is_digits" = true)
    (kD3 : PySem.W.keepIn K (.ref fD3) = true)
    (aD4 : PySem.W.nsIn K mainGlobals "_law_read" = some (some (.ref fD4)))
    (lD4 : K.lookup fD4 = some ⟨ocD4, odD4, .func (PySem.W.fnOf "_law_read" "_law_read" (defArgs sLRd) (defBody sLRd) (defScope sLRd) .none kVD4 dcD4 pmD4 anD4 cdD4 ctD4), slD4⟩)
    (cD4 : PySem.W.codeIn K cdD4 "_law_read" = true)
    (kD4 : PySem.W.keepIn K (.ref fD4) = true)
    (aD5 : PySem.W.nsIn K mainGlobals "_law_told" = some (some (.ref fD5)))
    (lD5 : K.lookup fD5 = some ⟨ocD5, odD5, .func (PySem.W.fnOf "_law_told" "_law_told" (defArgs sLTo) (defBody sLTo) (defScope sLTo) .none kVD5 dcD5 pmD5 anD5 cdD5 ctD5), slD5⟩)
    (cD5 : PySem.W.codeIn K cdD5 "_law_told" = true)
    (kD5 : PySem.W.keepIn K (.ref fD5) = true)
    (aD6 : PySem.W.nsIn K mainGlobals "_law_named" = some (some (.ref fD6)))
    (lD6 : K.lookup fD6 = some ⟨ocD6, odD6, .func (PySem.W.fnOf "_law_named" "_law_named" (defArgs sLNm) (defBody sLNm) (defScope sLNm) .none kVD6 dcD6 pmD6 anD6 cdD6 ctD6), slD6⟩)
    (cD6 : PySem.W.codeIn K cdD6 "_law_named" = true)
    (kD6 : PySem.W.keepIn K (.ref fD6) = true)
    (aD7 : PySem.W.nsIn K mainGlobals "_law_is_right" = some (some (.ref fD7)))
    (lD7 : K.lookup fD7 = some ⟨ocD7, odD7, .func (PySem.W.fnOf "_law_is_right" "_law_is_right" (defArgs sLRr) (defBody sLRr) (defScope sLRr) .none kVD7 dcD7 pmD7 anD7 cdD7 ctD7), slD7⟩)
    (cD7 : PySem.W.codeIn K cdD7 "_law_is_right" = true)
    (kD7 : PySem.W.keepIn K (.ref fD7) = true)
    (aD8 : PySem.W.nsIn K mainGlobals "_law_other_ways" = some (some (.ref fD8)))
    (lD8 : K.lookup fD8 = some ⟨ocD8, odD8, .func (PySem.W.fnOf "_law_other_ways" "_law_other_ways" (defArgs sLOw) (defBody sLOw) (defScope sLOw) .none kVD8 dcD8 pmD8 anD8 cdD8 ctD8), slD8⟩)
    (cD8 : PySem.W.codeIn K cdD8 "_law_other_ways" = true)
    (kD8 : PySem.W.keepIn K (.ref fD8) = true)
    (aD9 : PySem.W.nsIn K mainGlobals "_law_right" = some (some (.ref fD9)))
    (lD9 : K.lookup fD9 = some ⟨ocD9, odD9, .func (PySem.W.fnOf "_law_right" "_law_right" (defArgs sLRi) (defBody sLRi) (defScope sLRi) .none kVD9 dcD9 pmD9 anD9 cdD9 ctD9), slD9⟩)
    (cD9 : PySem.W.codeIn K cdD9 "_law_right" = true)
    (kD9 : PySem.W.keepIn K (.ref fD9) = true)
    (aD10 : PySem.W.nsIn K mainGlobals "_law_great_right" = some (some (.ref fD10)))
    (lD10 : K.lookup fD10 = some ⟨ocD10, odD10, .func (PySem.W.fnOf "_law_great_right" "_law_great_right" (defArgs sLGr) (defBody sLGr) (defScope sLGr) .none kVD10 dcD10 pmD10 anD10 cdD10 ctD10), slD10⟩)
    (cD10 : PySem.W.codeIn K cdD10 "_law_great_right" = true)
    (kD10 : PySem.W.keepIn K (.ref fD10) = true)
    (aL : PySem.W.nsIn K mainGlobals "law" = some (some (.ref fL)))
    (lL : K.lookup fL = some ⟨ocL, odL, .func (PySem.W.fnOf "law" "law" (defArgs sLaw) (defBody sLaw) (defScope sLaw) .none kVL dcL pmL anL cdL ctL), slL⟩)
    (cL : PySem.W.codeIn K cdL "law" = true)
    (kL : PySem.W.keepIn K (.ref fL) = true)
    (z_repr : PySem.W.nsIn K mainGlobals "repr" = some none)
    (z_all : PySem.W.nsIn K mainGlobals "all" = some none)
    (z_range : PySem.W.nsIn K mainGlobals "range" = some none)
    (z_min : PySem.W.nsIn K mainGlobals "min" = some none) :
    ∃ fd : FuncData, (∀ (s : Shared) (v : Value), BindsTo s fd ⟨[v], []⟩ [("_law_script", v)]) ∧ ∀ base : Heap, K.In base → base.Ns mainGlobals mg → FnG P w K mg base CX0 14 fa fd ["_law_script"] (spLaw K) := by
  have e := hfa.symm.trans (PySem.W.mg_of X G aL)
  cases e
  have FA0 := fun_mk (st := sIsInt) lA0 cA0 kA0
  have bA0 := FA0.binds (ps := ["value"]) fun _ _ _ _ _ _ us hl => match us, hl with | [_], _ => rfl
  have TA0 : Top K mg "is_integer" sIsInt ["value"] := ⟨_, _, PySem.W.mg_of X G aA0, FA0, bA0⟩
  have FA1 := fun_mk (st := sCD) lA1 cA1 kA1
  have bA1 := FA1.binds (ps := ["one", "other"]) fun _ _ _ _ _ _ us hl => match us, hl with | [_, _], _ => rfl
  have TA1 : Top K mg "common_divisor" sCD ["one", "other"] := ⟨_, _, PySem.W.mg_of X G aA1, FA1, bA1⟩
  have FA2 := fun_mk (st := sPl) lA2 cA2 kA2
  have bA2 := FA2.binds (ps := ["top", "bottom"]) fun _ _ _ _ _ _ us hl => match us, hl with | [_, _], _ => rfl
  have TA2 : Top K mg "place_of" sPl ["top", "bottom"] := ⟨_, _, PySem.W.mg_of X G aA2, FA2, bA2⟩
  have am : AmTxt K mg C := { b_isinstance := PySem.W.mg_none_of X G z_isinstance, b_int := PySem.W.mg_none_of X G z_int, b_bool := PySem.W.mg_none_of X G z_bool, b_abs := PySem.W.mg_none_of X G z_abs, tII := TA0, tCD := TA1, tPl := TA2, gC := PySem.W.mg_of X G aC, cl := ⟨pg, hd, po, sa⟩, ca := ca, cn := cn, ck := ck, cm := cm, ne := ne, fg := ⟨tu, li⟩, na := not_own ic ty, nT := nT, nB := nB, nP := nP, mkC := ⟨fI, _, ⟨mk, aI, iI, kc⟩, init_mk lI cI kI lD rD⟩ }
  have FM0 := fun_mk (st := sMEq) lM0 cM0 kM0
  have bM0 := FM0.binds (ps := ["self", "other"]) fun _ _ _ _ _ _ us hl => match us, hl with | [_, _], _ => rfl
  have TM0 : MethT K C "__eq__" "Amount.__eq__" sMEq ["self", "other"] := ⟨_, _, aM0, iM0, FM0, bM0⟩
  have FM1 := fun_mk (st := sMLt) lM1 cM1 kM1
  have bM1 := FM1.binds (ps := ["self", "other"]) fun _ _ _ _ _ _ us hl => match us, hl with | [_, _], _ => rfl
  have TM1 : MethT K C "__lt__" "Amount.__lt__" sMLt ["self", "other"] := ⟨_, _, aM1, iM1, FM1, bM1⟩
  have FM2 := fun_mk (st := sMLe) lM2 cM2 kM2
  have bM2 := FM2.binds (ps := ["self", "other"]) fun _ _ _ _ _ _ us hl => match us, hl with | [_, _], _ => rfl
  have TM2 : MethT K C "__le__" "Amount.__le__" sMLe ["self", "other"] := ⟨_, _, aM2, iM2, FM2, bM2⟩
  have FM3 := fun_mk (st := sMGt) lM3 cM3 kM3
  have bM3 := FM3.binds (ps := ["self", "other"]) fun _ _ _ _ _ _ us hl => match us, hl with | [_, _], _ => rfl
  have TM3 : MethT K C "__gt__" "Amount.__gt__" sMGt ["self", "other"] := ⟨_, _, aM3, iM3, FM3, bM3⟩
  have FM4 := fun_mk (st := sMGe) lM4 cM4 kM4
  have bM4 := FM4.binds (ps := ["self", "other"]) fun _ _ _ _ _ _ us hl => match us, hl with | [_, _], _ => rfl
  have TM4 : MethT K C "__ge__" "Amount.__ge__" sMGe ["self", "other"] := ⟨_, _, aM4, iM4, FM4, bM4⟩
  have FM5 := fun_mk (st := sMStr) lM5 cM5 kM5
  have bM5 := FM5.binds (ps := ["self"]) fun _ _ _ _ _ _ us hl => match us, hl with | [_], _ => rfl
  have TM5 : MethT K C "__str__" "Amount.__str__" sMStr ["self"] := ⟨_, _, aM5, iM5, FM5, bM5⟩
  have FM6 := fun_mk (st := sMRepr) lM6 cM6 kM6
  have bM6 := FM6.binds (ps := ["self"]) fun _ _ _ _ _ _ us hl => match us, hl with | [_], _ => rfl
  have TM6 : MethT K C "__repr__" "Amount.__repr__" sMRepr ["self"] := ⟨_, _, aM6, iM6, FM6, bM6⟩
  have FQ := fun_mk (st := sMTop) lQ cQ kQ
  have bQ := FQ.binds (ps := ["self"]) fun _ _ _ _ _ _ us hl => match us, hl with | [_], _ => rfl
  have TQ : PropT K C "top" "Amount.top" sMTop := ⟨_, _, _, ⟨qQ, gQ, tQ, _, aQ⟩, FQ, bQ⟩
  have cmp : AmCmp K mg C := { eq := TM0, lt := TM1, le := TM2, gt := TM3, ge := TM4, st := TM5, rp := TM6, pt := TQ, b_str := PySem.W.mg_none_of X G z_str }
  have FOf := fun_mk (st := sOf) lOf cOf kOf
  have bOf := FOf.binds (ps := ["value"]) fun _ _ _ _ _ _ us hl => match us, hl with | [_], _ => rfl
  have TOf : Top K mg "amount_of" sOf ["value"] := ⟨_, _, PySem.W.mg_of X G aOf, FOf, bOf⟩
  have FOadd := fun_mk (st := sMAdd) lOadd cOadd kOadd
  have bOadd := FOadd.binds (ps := ["self", "other"]) fun _ _ _ _ _ _ us hl => match us, hl with | [_, _], _ => rfl
  have TOadd : MethT K C "__add__" "Amount.__add__" sMAdd ["self", "other"] := ⟨_, _, aOadd, iOadd, FOadd, bOadd⟩
  have FOradd := fun_mk (st := sMRadd) lOradd cOradd kOradd
  have bOradd := FOradd.binds (ps := ["self", "other"]) fun _ _ _ _ _ _ us hl => match us, hl with | [_, _], _ => rfl
  have TOradd : MethT K C "__radd__" "Amount.__radd__" sMRadd ["self", "other"] := ⟨_, _, aOradd, iOradd, FOradd, bOradd⟩
  have FOsub := fun_mk (st := sMSub) lOsub cOsub kOsub
  have bOsub := FOsub.binds (ps := ["self", "other"]) fun _ _ _ _ _ _ us hl => match us, hl with | [_, _], _ => rfl
  have TOsub : MethT K C "__sub__" "Amount.__sub__" sMSub ["self", "other"] := ⟨_, _, aOsub, iOsub, FOsub, bOsub⟩
  have FOrsub := fun_mk (st := sMRsub) lOrsub cOrsub kOrsub
  have bOrsub := FOrsub.binds (ps := ["self", "other"]) fun _ _ _ _ _ _ us hl => match us, hl with | [_, _], _ => rfl
  have TOrsub : MethT K C "__rsub__" "Amount.__rsub__" sMRsub ["self", "other"] := ⟨_, _, aOrsub, iOrsub, FOrsub, bOrsub⟩
  have FOmul := fun_mk (st := sMMul) lOmul cOmul kOmul
  have bOmul := FOmul.binds (ps := ["self", "other"]) fun _ _ _ _ _ _ us hl => match us, hl with | [_, _], _ => rfl
  have TOmul : MethT K C "__mul__" "Amount.__mul__" sMMul ["self", "other"] := ⟨_, _, aOmul, iOmul, FOmul, bOmul⟩
  have FOrmul := fun_mk (st := sMRmul) lOrmul cOrmul kOrmul
  have bOrmul := FOrmul.binds (ps := ["self", "other"]) fun _ _ _ _ _ _ us hl => match us, hl with | [_, _], _ => rfl
  have TOrmul : MethT K C "__rmul__" "Amount.__rmul__" sMRmul ["self", "other"] := ⟨_, _, aOrmul, iOrmul, FOrmul, bOrmul⟩
  have FOneg := fun_mk (st := sMNeg) lOneg cOneg kOneg
  have bOneg := FOneg.binds (ps := ["self"]) fun _ _ _ _ _ _ us hl => match us, hl with | [_], _ => rfl
  have TOneg : MethT K C "__neg__" "Amount.__neg__" sMNeg ["self"] := ⟨_, _, aOneg, iOneg, FOneg, bOneg⟩
  have FOabs := fun_mk (st := sMAbs) lOabs cOabs kOabs
  have bOabs := FOabs.binds (ps := ["self"]) fun _ _ _ _ _ _ us hl => match us, hl with | [_], _ => rfl
  have TOabs : MethT K C "__abs__" "Amount.__abs__" sMAbs ["self"] := ⟨_, _, aOabs, iOabs, FOabs, bOabs⟩
  have FObool := fun_mk (st := sMBool) lObool cObool kObool
  have bObool := FObool.binds (ps := ["self"]) fun _ _ _ _ _ _ us hl => match us, hl with | [_], _ => rfl
  have TObool : MethT K C "__bool__" "Amount.__bool__" sMBool ["self"] := ⟨_, _, aObool, iObool, FObool, bObool⟩
  have ops : AmOps K mg C := { tOf := TOf, sf := sf, si := si, add := TOadd, radd := TOradd, sub := TOsub, rsub := TOrsub, mul := TOmul, rmul := TOrmul, neg := TOneg, abs := TOabs, bool := TObool }
  have FP0 := fun_mk (st := sPot) lP0 cP0 kP0
  have bP0 := FP0.binds (ps := ["_law_script", "_law_k"]) fun _ _ _ _ _ _ us hl => match us, hl with | [_, _], _ => rfl
  have TP0 : Top K mg "_law_pot" sPot ["_law_script", "_law_k"] := ⟨_, _, PySem.W.mg_of X G aP0, FP0, bP0⟩
  have FP1 := fun_mk (st := sDraw) lP1 cP1 kP1
  have bP1 := FP1.binds (ps := ["_law_pot_here", "_law_size"]) fun _ _ _ _ _ _ us hl => match us, hl with | [_, _], _ => rfl
  have TP1 : Top K mg "_law_draw" sDraw ["_law_pot_here", "_law_size"] := ⟨_, _, PySem.W.mg_of X G aP1, FP1, bP1⟩
  have FP2 := fun_mk (st := sChoice) lP2 cP2 kP2
  have bP2 := FP2.binds (ps := ["_law_pot_here", "_law_some"]) fun _ _ _ _ _ _ us hl => match us, hl with | [_, _], _ => rfl
  have TP2 : Top K mg "_law_choice" sChoice ["_law_pot_here", "_law_some"] := ⟨_, _, PySem.W.mg_of X G aP2, FP2, bP2⟩
  have pot : PotT K mg := { b_int := PySem.W.mg_none_of X G z_int, b_abs := PySem.W.mg_none_of X G z_abs, b_max := PySem.W.mg_none_of X G z_max, b_len := PySem.W.mg_none_of X G z_len, b_divmod := PySem.W.mg_none_of X G z_divmod, tPot := TP0, tDraw := TP1, tChoice := TP2 }
  have FBt := fun_mk (st := sMBot) lBt cBt kBt
  have bBt := FBt.binds (ps := ["self"]) fun _ _ _ _ _ _ us hl => match us, hl with | [_], _ => rfl
  have TBt : PropT K C "bottom" "Amount.bottom" sMBot := ⟨_, _, _, ⟨qBt, gBt, tBt, _, aBt⟩, FBt, bBt⟩
  have R1 : ∀ base : Heap, ErrOk P w K mg base "InvalidText" CE1 (Str.ofString "line") := fun base => err_mk r_sEIT PySem.F.excBase_ValueError ehf1 eht1 (fun us hl => match us, hl with | [_, _], _ => rfl) X G eaC1 elC1 esa1 eex1 ety1 ekC1 eiC1 elf1 etI1 elu1 evu1 erc1 elc1 esb1 esu1 etp1 eni1 esv1 eei1 enf1
  have FWh := fun_mk (st := sWhole) lWh cWh kWh
  have bWh := FWh.binds (ps := ["word"]) fun _ _ _ _ _ _ us hl => match us, hl with | [_], _ => rfl
  have TWh : Top K mg "whole_in" sWhole ["word"] := ⟨_, _, PySem.W.mg_of X G aWh, FWh, bWh⟩
  have FAi := fun_mk (st := sAmIn) lAi cAi kAi
  have bAi := FAi.binds (ps := ["text"]) fun _ _ _ _ _ _ us hl => match us, hl with | [_], _ => rfl
  have TAi : Top K mg "amount_in" sAmIn ["text"] := ⟨_, _, PySem.W.mg_of X G aAi, FAi, bAi⟩
  have FS := fun_mk (st := sMRead) lS cS kS
  have bS := FS.binds (ps := ["text"]) fun _ _ _ _ _ _ us hl => match us, hl with | [_], _ => rfl
  have FD0 := fun_mk (st := sLDg) lD0 cD0 kD0
  have bD0 := FD0.binds (ps := ["_law_pot_here", "_law_most"]) fun _ _ _ _ _ _ us hl => match us, hl with | [_, _], _ => rfl
  have TD0 : Top K mg "_law_digits" sLDg ["_law_pot_here", "_law_most"] := ⟨_, _, PySem.W.mg_of X G aD0, FD0, bD0⟩
  have FD1 := fun_mk (st := sLWr) lD1 cD1 kD1
  have bD1 := FD1.binds (ps := ["_law_pot_here"]) fun _ _ _ _ _ _ us hl => match us, hl with | [_], _ => rfl
  have TD1 : Top K mg "_law_written" sLWr ["_law_pot_here"] := ⟨_, _, PySem.W.mg_of X G aD1, FD1, bD1⟩
  have FD2 := fun_mk (st := sLSp) lD2 cD2 kD2
  have bD2 := FD2.binds (ps := ["_law_pot_here", "_law_row"]) fun _ _ _ _ _ _ us hl => match us, hl with | [_, _], _ => rfl
  have TD2 : Top K mg "_law_spoilt" sLSp ["_law_pot_here", "_law_row"] := ⟨_, _, PySem.W.mg_of X G aD2, FD2, bD2⟩
  have FD3 := fun_mk (st := sLIs) lD3 cD3 kD3
  have bD3 := FD3.binds (ps := ["_law_word"]) fun _ _ _ _ _ _ us hl => match us, hl with | [_], _ => rfl
  have TD3 : Top K mg "_law_is_digits" sLIs ["_law_word"] := ⟨_, _, PySem.W.mg_of X G aD3, FD3, bD3⟩
  have FD4 := fun_mk (st := sLRd) lD4 cD4 kD4
  have bD4 := FD4.binds (ps := ["_law_row"]) fun _ _ _ _ _ _ us hl => match us, hl with | [_], _ => rfl
  have TD4 : Top K mg "_law_read" sLRd ["_law_row"] := ⟨_, _, PySem.W.mg_of X G aD4, FD4, bD4⟩
  have FD5 := fun_mk (st := sLTo) lD5 cD5 kD5
  have bD5 := FD5.binds (ps := ["_law_thing"]) fun _ _ _ _ _ _ us hl => match us, hl with | [_], _ => rfl
  have TD5 : Top K mg "_law_told" sLTo ["_law_thing"] := ⟨_, _, PySem.W.mg_of X G aD5, FD5, bD5⟩
  have FD6 := fun_mk (st := sLNm) lD6 cD6 kD6
  have bD6 := FD6.binds (ps := ["_law_thing"]) fun _ _ _ _ _ _ us hl => match us, hl with | [_], _ => rfl
  have TD6 : Top K mg "_law_named" sLNm ["_law_thing"] := ⟨_, _, PySem.W.mg_of X G aD6, FD6, bD6⟩
  have FD7 := fun_mk (st := sLRr) lD7 cD7 kD7
  have bD7 := FD7.binds (ps := ["_law_row"]) fun _ _ _ _ _ _ us hl => match us, hl with | [_], _ => rfl
  have TD7 : Top K mg "_law_is_right" sLRr ["_law_row"] := ⟨_, _, PySem.W.mg_of X G aD7, FD7, bD7⟩
  have FD8 := fun_mk (st := sLOw) lD8 cD8 kD8
  have bD8 := FD8.binds (ps := ["_law_top", "_law_bottom"]) fun _ _ _ _ _ _ us hl => match us, hl with | [_, _], _ => rfl
  have TD8 : Top K mg "_law_other_ways" sLOw ["_law_top", "_law_bottom"] := ⟨_, _, PySem.W.mg_of X G aD8, FD8, bD8⟩
  have FD9 := fun_mk (st := sLRi) lD9 cD9 kD9
  have bD9 := FD9.binds (ps := ["_law_pot_here"]) fun _ _ _ _ _ _ us hl => match us, hl with | [_], _ => rfl
  have TD9 : Top K mg "_law_right" sLRi ["_law_pot_here"] := ⟨_, _, PySem.W.mg_of X G aD9, FD9, bD9⟩
  have FD10 := fun_mk (st := sLGr) lD10 cD10 kD10
  have bD10 := FD10.binds (ps := []) fun _ _ _ _ _ _ us hl => match us, hl with | [], _ => rfl
  have TD10 : Top K mg "_law_great_right" sLGr [] := ⟨_, _, PySem.W.mg_of X G aD10, FD10, bD10⟩
  have FL := fun_mk (st := sLaw) lL cL kL
  have bL := FL.binds (ps := ["_law_script"]) fun _ _ _ _ _ _ us hl => match us, hl with | [_], _ => rfl
  have TL : Top K mg "law" sLaw ["_law_script"] := ⟨_, _, PySem.W.mg_of X G aL, FL, bL⟩
  have t1 : K13T K mg C := { toAmTxt := am, cmp := cmp, ops := ops, pot := pot, tLDg := TD0, tLWr := TD1, tLSp := TD2 }
  have t2 : K13U K mg C CE1 := { t1 with b_str := PySem.W.mg_none_of X G z_str, b_len := PySem.W.mg_none_of X G z_len, b_all := PySem.W.mg_none_of X G z_all, figs := ⟨_, PySem.W.mg_of X G aFg, rFg⟩, most := ⟨_, PySem.W.mg_of X G aMf, rMf⟩, tWh := TWh, tAi := TAi, cr := ⟨rdS, gaS⟩, rd := ⟨pS, fS, _, ⟨atS, ⟨rsS, aS⟩⟩, FS, bS⟩ }
  have t3 : K13V K mg C CE1 := { t2 with tLIs := TD3, tLRd := TD4 }
  have t4 : K13W K mg C CE1 CP := { t3 with tLTo := TD5, tLNm := TD6, tLRr := TD7, bot := TBt, gE := PySem.W.mg_of X G eaC1, gP := PySem.W.mg_of X G aPE, xf := ⟨xga1, xgg1, eex1, xhd1⟩, ec := ⟨xic1, xga1, ⟨none, xgg1⟩, eex1, xca1, cn, ck, xcm1⟩, nv := enf1, kP := kit_refT icP tyP xkP1, own := exm_own eex1 xic1 ety1 xow1, b_repr := PySem.W.mg_none_of X G z_repr }
  have t5 : K13X K mg C CE1 CP := { t4 with tLOw := TD8 }
  have t6 : K13Y K mg C CE1 CP := { t5 with tLRi := TD9, kCS := kit_bi (by decide +kernel) kCS, b_range := PySem.W.mg_none_of X G z_range }
  have T : K13Z K mg C CE1 CP := { t6 with tLGr := TD10, b_min := PySem.W.mg_none_of X G z_min, b_max := PySem.W.mg_none_of X G z_max }
  exact ⟨_, fun s v => .of_eq rfl, fun base _ _ => ok_law T (R1 base) FL⟩
end SP
open PySem PySem.W PyProof.Rows
set_option maxRecDepth 100000 in
set_option maxHeartbeats 0 in
theorem PySem.Challenge.cw_surepipes_k13_amounts_read_and_written_holds : PySem.Challenge.rw_surepipes_k13_amounts_read_and_written.Holds := by
  refine hd ?_
  k_fill
  refine SP.walk_ofG (l := PySem.Challenge.rw_surepipes_k13_amounts_read_and_written) (n := 63) (k := 14) (x := "_law_script") (CX := fun _ => L2.CX0) (sp := fun w => SP.spLaw _) rfl (by decide) rfl ⟨rfl, by decide, by decide⟩ (fun w h Y => PySem.W.kIn_of Y) ?F (fun _ _ a ns hl _ hS => ⟨a, ns, rfl, hS, hl, fun _ => rfl⟩) fun _ _ _ _ _ z => z
  case F =>
    intro w mg fa h KX G hmg
    refine' SP.all_mk KX G hmg ?aC ?aA0 ?lA0 ?cA0 ?kA0 ?aA1 ?lA1 ?cA1 ?kA1 ?aA2 ?lA2 ?cA2 ?kA2 ?aI ?lI ?cI ?kI ?lD ?rD ?iI ?mk ?kc ?pg ?hd ?po ?sa ?ca ?cn ?ck ?cm ?ne ?tu ?li ?ic ?ty ?nT ?nB ?nP ?z_isinstance ?z_int ?z_bool ?z_abs ?aM0 ?lM0 ?cM0 ?kM0 ?iM0 ?aM1 ?lM1 ?cM1 ?kM1 ?iM1 ?aM2 ?lM2 ?cM2 ?kM2 ?iM2 ?aM3 ?lM3 ?cM3 ?kM3 ?iM3 ?aM4 ?lM4 ?cM4 ?kM4 ?iM4 ?aM5 ?lM5 ?cM5 ?kM5 ?iM5 ?aM6 ?lM6 ?cM6 ?kM6 ?iM6 ?qQ ?gQ ?tQ ?aQ ?lQ ?cQ ?kQ ?z_str ?aOf ?lOf ?cOf ?kOf ?sf ?si ?aOadd ?lOadd ?cOadd ?kOadd ?iOadd ?aOradd ?lOradd ?cOradd ?kOradd ?iOradd ?aOsub ?lOsub ?cOsub ?kOsub ?iOsub ?aOrsub ?lOrsub ?cOrsub ?kOrsub ?iOrsub ?aOmul ?lOmul ?cOmul ?kOmul ?iOmul ?aOrmul ?lOrmul ?cOrmul ?kOrmul ?iOrmul ?aOneg ?lOneg ?cOneg ?kOneg ?iOneg ?aOabs ?lOabs ?cOabs ?kOabs ?iOabs ?aObool ?lObool ?cObool ?kObool ?iObool ?z_max ?z_len ?z_divmod ?aP0 ?lP0 ?cP0 ?kP0 ?aP1 ?lP1 ?cP1 ?kP1 ?aP2 ?lP2 ?cP2 ?kP2 ?qBt ?gBt ?tBt ?aBt ?lBt ?cBt ?kBt ?aPE ?icP ?tyP ?eaC1 ?eiC1 ?elf1 ?elu1 ?evu1 ?ehf1 ?eht1 ?elC1 ?esa1 ?eex1 ?ety1 ?ekC1 ?etI1 ?erc1 ?elc1 ?esb1 ?esu1 ?etp1 ?eni1 ?esv1 ?eei1 ?enf1 ?xga1 ?xgg1 ?xhd1 ?xic1 ?xca1 ?xcm1 ?xkP1 ?xow1 ?kCS ?aFg ?rFg ?aMf ?rMf ?aWh ?lWh ?cWh ?kWh ?aAi ?lAi ?cAi ?kAi ?rdS ?gaS ?atS ?aS ?lS ?cS ?kS ?aD0 ?lD0 ?cD0 ?kD0 ?aD1 ?lD1 ?cD1 ?kD1 ?aD2 ?lD2 ?cD2 ?kD2 ?aD3 ?lD3 ?cD3 ?kD3 ?aD4 ?lD4 ?cD4 ?kD4 ?aD5 ?lD5 ?cD5 ?kD5 ?aD6 ?lD6 ?cD6 ?kD6 ?aD7 ?lD7 ?cD7 ?kD7 ?aD8 ?lD8 ?cD8 ?kD8 ?aD9 ?lD9 ?cD9 ?kD9 ?aD10 ?lD10 ?cD10 ?kD10 ?aL ?lL ?cL ?kL ?z_repr ?z_all ?z_range ?z_min
    (case aC => k_is)
    (case aA0 => k_is)
    (case lA0 => k_is)
    (case cA0 => k_is)
    (case kA0 => k_is)
    (case aA1 => k_is)
    (case lA1 => k_is)
    (case cA1 => k_is)
    (case kA1 => k_is)
    (case aA2 => k_is)
    (case lA2 => k_is)
    (case cA2 => k_is)
    (case kA2 => k_is)
    (case aI => k_is)
    (case lI => k_is)
    (case cI => k_is)
    (case kI => k_is)
    (case lD => k_is)
    (case rD => exact ⟨_, rfl⟩)
    (case iI => k_is)
    (case mk => k_is)
    (case kc => k_is)
    (case pg => k_is)
    (case hd => k_is)
    (case po => k_is)
    (case sa => k_is)
    (case ca => k_is)
    (case cn => k_is)
    (case ck => k_is)
    (case cm => k_is)
    (case ne => k_is)
    (case tu => k_is)
    (case li => k_is)
    (case ic => k_is)
    (case ty => k_is)
    (case nT => k_is)
    (case nB => k_is)
    (case nP => k_is)
    (case z_isinstance => k_is)
    (case z_int => k_is)
    (case z_bool => k_is)
    (case z_abs => k_is)
    (case aM0 => k_is)
    (case lM0 => k_is)
    (case cM0 => k_is)
    (case kM0 => k_is)
    (case iM0 => k_is)
    (case aM1 => k_is)
    (case lM1 => k_is)
    (case cM1 => k_is)
    (case kM1 => k_is)
    (case iM1 => k_is)
    (case aM2 => k_is)
    (case lM2 => k_is)
    (case cM2 => k_is)
    (case kM2 => k_is)
    (case iM2 => k_is)
    (case aM3 => k_is)
    (case lM3 => k_is)
    (case cM3 => k_is)
    (case kM3 => k_is)
    (case iM3 => k_is)
    (case aM4 => k_is)
    (case lM4 => k_is)
    (case cM4 => k_is)
    (case kM4 => k_is)
    (case iM4 => k_is)
    (case aM5 => k_is)
    (case lM5 => k_is)
    (case cM5 => k_is)
    (case kM5 => k_is)
    (case iM5 => k_is)
    (case aM6 => k_is)
    (case lM6 => k_is)
    (case cM6 => k_is)
    (case kM6 => k_is)
    (case iM6 => k_is)
    (case qQ => k_is)
    (case gQ => k_is)
    (case tQ => k_is)
    (case aQ => k_is)
    (case lQ => k_is)
    (case cQ => k_is)
    (case kQ => k_is)
    (case z_str => k_is)
    (case aOf => k_is)
    (case lOf => k_is)
    (case cOf => k_is)
    (case kOf => k_is)
    (case sf => k_is)
    (case si => k_is)
    (case aOadd => k_is)
    (case lOadd => k_is)
    (case cOadd => k_is)
    (case kOadd => k_is)
    (case iOadd => k_is)
    (case aOradd => k_is)
    (case lOradd => k_is)
    (case cOradd => k_is)
    (case kOradd => k_is)
    (case iOradd => k_is)
    (case aOsub => k_is)
    (case lOsub => k_is)
    (case cOsub => k_is)
    (case kOsub => k_is)
    (case iOsub => k_is)
    (case aOrsub => k_is)
    (case lOrsub => k_is)
    (case cOrsub => k_is)
    (case kOrsub => k_is)
    (case iOrsub => k_is)
    (case aOmul => k_is)
    (case lOmul => k_is)
    (case cOmul => k_is)
    (case kOmul => k_is)
    (case iOmul => k_is)
    (case aOrmul => k_is)
    (case lOrmul => k_is)
    (case cOrmul => k_is)
    (case kOrmul => k_is)
    (case iOrmul => k_is)
    (case aOneg => k_is)
    (case lOneg => k_is)
    (case cOneg => k_is)
    (case kOneg => k_is)
    (case iOneg => k_is)
    (case aOabs => k_is)
    (case lOabs => k_is)
    (case cOabs => k_is)
    (case kOabs => k_is)
    (case iOabs => k_is)
    (case aObool => k_is)
    (case lObool => k_is)
    (case cObool => k_is)
    (case kObool => k_is)
    (case iObool => k_is)
    (case z_max => k_is)
    (case z_len => k_is)
    (case z_divmod => k_is)
    (case aP0 => k_is)
    (case lP0 => k_is)
    (case cP0 => k_is)
    (case kP0 => k_is)
    (case aP1 => k_is)
    (case lP1 => k_is)
    (case cP1 => k_is)
    (case kP1 => k_is)
    (case aP2 => k_is)
    (case lP2 => k_is)
    (case cP2 => k_is)
    (case kP2 => k_is)
    (case qBt => k_is)
    (case gBt => k_is)
    (case tBt => k_is)
    (case aBt => k_is)
    (case lBt => k_is)
    (case cBt => k_is)
    (case kBt => k_is)
    (case aPE => k_is)
    (case icP => k_is)
    (case tyP => k_is)
    (case eaC1 => k_is)
    (case eiC1 => k_is)
    (case elf1 => k_is)
    (case elu1 => k_is)
    (case evu1 => rfl)
    (case ehf1 => rfl)
    (case eht1 => rfl)
    (case elC1 => exact ⟨_, _, _, _, _, _, _, _, _, _, _, _, _, _, _, rfl, by decide +kernel⟩)
    (case esa1 => k_is)
    (case eex1 => k_is)
    (case ety1 => k_is)
    (case ekC1 => k_is)
    (case etI1 => k_is)
    (case erc1 => k_is)
    (case elc1 => k_is)
    (case esb1 => k_is)
    (case esu1 => k_is)
    (case etp1 => k_is)
    (case eni1 => first | kernel_rfl | decide +kernel | rfl)
    (case esv1 => k_is)
    (case eei1 => first | k_is | decide +kernel | rfl)
    (case enf1 => k_is)
    (case xga1 => k_is)
    (case xgg1 => k_is)
    (case xhd1 => k_is)
    (case xic1 => k_is)
    (case xca1 => k_is)
    (case xcm1 => k_is)
    (case xkP1 => k_is)
    (case xow1 => k_is)
    (case kCS => k_is)
    (case aFg => k_is)
    (case rFg => exact ⟨_, rfl⟩)
    (case aMf => k_is)
    (case rMf => exact ⟨_, rfl⟩)
    (case aWh => k_is)
    (case lWh => k_is)
    (case cWh => k_is)
    (case kWh => k_is)
    (case aAi => k_is)
    (case lAi => k_is)
    (case cAi => k_is)
    (case kAi => k_is)
    (case rdS => k_is)
    (case gaS => k_is)
    (case atS => k_is)
    (case aS => k_is)
    (case lS => k_is)
    (case cS => k_is)
    (case kS => k_is)
    (case aD0 => k_is)
    (case lD0 => k_is)
    (case cD0 => k_is)
    (case kD0 => k_is)
    (case aD1 => k_is)
    (case lD1 => k_is)
    (case cD1 => k_is)
    (case kD1 => k_is)
    (case aD2 => k_is)
    (case lD2 => k_is)
    (case cD2 => k_is)
    (case kD2 => k_is)
    (case aD3 => k_is)
    (case lD3 => k_is)
    (case cD3 => k_is)
    (case kD3 => k_is)
    (case aD4 => k_is)
    (case lD4 => k_is)
    (case cD4 => k_is)
    (case kD4 => k_is)
    (case aD5 => k_is)
    (case lD5 => k_is)
    (case cD5 => k_is)
    (case kD5 => k_is)
    (case aD6 => k_is)
    (case lD6 => k_is)
    (case cD6 => k_is)
    (case kD6 => k_is)
    (case aD7 => k_is)
    (case lD7 => k_is)
    (case cD7 => k_is)
    (case kD7 => k_is)
    (case aD8 => k_is)
    (case lD8 => k_is)
    (case cD8 => k_is)
    (case kD8 => k_is)
    (case aD9 => k_is)
    (case lD9 => k_is)
    (case cD9 => k_is)
    (case kD9 => k_is)
    (case aD10 => k_is)
    (case lD10 => k_is)
    (case cD10 => k_is)
    (case kD10 => k_is)
    (case aL => k_is)
    (case lL => k_is)
    (case cL => k_is)
    (case kL => k_is)
    (case z_repr => k_is)
    (case z_all => k_is)
    (case z_range => k_is)
    (case z_min => k_is)
