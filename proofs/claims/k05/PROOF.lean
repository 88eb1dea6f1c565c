import PyProof.Rows.All
import Wide.All
import OpenK.AllK
import Wide.FinOn
import HandS.ForMost
import HandS.Defaults
import HandS.IsInst
import HandS.More
import HandS.Conv
import HandS.SortKw
import HandS.Strs
import HandS.Wide
import HandS.RaiseMore
import HandS.StrMore
import HandS.Walk
import HandS.Bytes
import HandS.Codes
import HandS.Star
import HandS.Exc
import HandS.WordsExc
import HandS.Head0
import HandS.Head1
import HandS.Head2
import HandS.HeadEnd
import HandS.HeadHook1
import HandS.HeadHook2
import HandS.HeadHook3
import HandS.HeadHook4
import HandS.HeadWalk
import KE.KIsAll
import HandS.DictComp
import KE.SortCalls
import KE.DataEq
import KE.KDictList
import KE.KDictWalk
import KE.KDictKeyed
import HandS.SortRule
import HandS.Style
import HandS.Small
import KE.KDictDisplayH
import KE.KDictCopyH
import KE.KDictOf
import HandS.TupLen
import HandS.ExcInit
import HandS.CallLocal
import HandS.TupSets
import KE.KDictPairs
import HandS.SlotsOwn
import HandS.Iter
import HandS.ExcIs
import HandS.ExcField
import HandS.IterVal
import HandS.Lambda
import PySem.Challenge.RW_sourceback_k05_imports_and_names_that_st
set_option Elab.async false
set_option linter.all false
set_option maxRecDepth 100000
/-! Layer G: the promises of defs where no repr is under way (A.guards = some []): what repr of lists, tuples and dicts wants. -/
namespace GL
open PySem PySem.Spec PyProof.Rows L2

/-- a def keeps its promise, called where no repr is under way -/
structure FnG (P : Program) (w : World) (K : PySem.W.Frag) (mg : Str → Option Value) (base : Heap) (CX : CXT) (k : Nat) (f : Addr) (fd : FuncData) (ps : List Str) (sp : Sp) : Prop where
  len : ∀ vs H Q E, sp vs H Q E → vs.length = ps.length
  run : ∀ (A : Around) (outer : List Env) (s : Shared) (H : Hp) (args : Args) (us : List Value) (vs : List V) (Q : VK) (E : XK), Room k A → A.guards = some [] →
    Env0 P w K mg base A outer s H → BindsTo s fd args (ps.zip us) → Vals vs us → sp vs H Q E → codeAny (model P w) A (.call (.ref f) args) (CR CX outer P w H s Q E) s
section
variable {P : Program} {w : World} {K : PySem.W.Frag} {mg : Str → Option Value} {base : Heap} {CX : CXT} {j k : Nat} {f : Addr} {fd : FuncData} {ps : List Str} {sp sp' : Sp}
theorem FnG.of (F : FnOk P w K mg base CX k f fd ps sp) : FnG P w K mg base CX k f fd ps sp := ⟨F.len, fun A o s H a us vs Q E r _ => F.run A o s H a us vs Q E r⟩
theorem FnG.mono (F : FnG P w K mg base CX j f fd ps sp) (h : j ≤ k) : FnG P w K mg base CX k f fd ps sp := ⟨F.len, fun A o s H a us vs Q E r => F.run A o s H a us vs Q E (r.mono h)⟩
theorem FnG.imp (F : FnG P w K mg base CX k f fd ps sp) (h : ∀ vs H Q E, sp' vs H Q E → sp vs H Q E) : FnG P w K mg base CX k f fd ps sp' :=
  ⟨fun vs H Q E q => F.len vs H Q E (h _ _ _ _ q), fun A o s H a us vs Q E r g e0 hb hv hs => F.run A o s H a us vs Q E r g e0 hb hv (h _ _ _ _ hs)⟩
end

section
variable {X : Cx} {CX : CXT} {k : Nat} {f : Addr} {fd : FuncData} {ps ks : List Str} {sp : Sp} {dvs : List V} {ds : List Value} {E : XK} {x : Str} {p pos : Pos} {e : Expr} {es : List Expr} {kws : List Keyword} {t tk : TA}
  {g : List Value → List Value → List Value} {gV : List V → List V → List V}
/-- what stands behind a call that ran -/
theorem call_end {pins : List (Addr × Obj)} {σ : L2.St} {H : Hp} {s : Shared} {Q : VK} (hx : Passes CX X E) (I : Inv X pins σ H s) {args : Args} (h : codeAny (model X.prog X.w) X.A (.call (.ref f) args) (CR CX X.stack X.prog X.w H s Q E) s) :
    wpAny (model X.prog X.w) X.A (call (.ref f) args.pos args.kw) (EP X pins σ Q) X.xe s :=
  wpAny_call (codeAny_mono h fun r s' hq => match r, hq with
    | .error e, hq => hx pins σ H s e s' I hq
    | .ok (.ret _), hq => I.after hq
    | .ok .next, hq => hq.elim
    | .ok .brk, hq => hq.elim
    | .ok .cont, hq => hq.elim)
theorem run_g {pins : List (Addr × Obj)} {σ : L2.St} {H : Hp} {s : Shared} {Q : VK} {us : List Value} {vs : List V} (F : FnG X.prog X.w X.K X.mg X.base CX k f fd ps sp) (hr : Room k X.A) (hG : X.A.guards = some []) (hb : Binds X.K fd ps ds) (hd : Vals dvs ds)
    (hx : Passes CX X E) (I : Inv X pins σ H s) (r : Vals vs us) (h : sp (vs ++ dvs) H Q E) : wpAny (model X.prog X.w) X.A (call (.ref f) us) (EP X pins σ Q) X.xe s := by
  have r2 := r.append hd
  refine call_end (args := ⟨us, []⟩) hx I (F.run X.A X.stack s H ⟨us, []⟩ (us ++ ds) (vs ++ dvs) Q E hr hG I.env0 (hb s us I.kIn ?_) r2 h)
  exact r2.length.symm.trans (F.len _ _ _ _ h)
theorem run_gk {pins : List (Addr × Obj)} {σ : L2.St} {H : Hp} {s : Shared} {Q : VK} {us ws : List Value} {vs zs : List V} (F : FnG X.prog X.w X.K X.mg X.base CX k f fd ps sp) (hr : Room k X.A) (hG : X.A.guards = some []) (hb : KBinds X.K fd ps ks g gV)
    (hx : Passes CX X E) (I : Inv X pins σ H s) (r : Vals vs us) (rz : Vals zs ws) (h : sp (gV vs zs) H Q E) : wpAny (model X.prog X.w) X.A (call (.ref f) us (ks.zip ws)) (EP X pins σ Q) X.xe s := by
  have r2 := hb.rel r rz
  refine call_end (args := ⟨us, ks.zip ws⟩) hx I (F.run X.A X.stack s H ⟨us, ks.zip ws⟩ (g us ws) (gV vs zs) Q E hr hG I.env0 (hb.to s us ws I.kIn ?_) r2 h)
  exact r2.length.symm.trans (F.len _ _ _ _ h)
/-- f(e, ..) -/
theorem pe_callG (F : FnG X.prog X.w X.K X.mg X.base CX k f fd ps sp) (hr : Room k X.A) (hG : X.A.guards = some []) (hg : Gl X x) (hm : X.mg x = some (.ref f)) (hk : PySem.W.keepIn X.K (.ref f) = true) (hb : Binds X.K fd ps ds) (hd : Vals dvs ds)
    (hx : Passes CX X E) (ha : PA X (e :: es) t) (hdb : (x == ("__debug__" : Str)) = false := by decide) (he : starEach (e :: es) X.env = (false, eval e X.env) :: starEach es X.env := by rfl)
    (hpl : (backTo pos (starEach es X.env)).any (·.1) = false := by rfl) : PE X (.Call (.Name x p) (e :: es) [] pos) (tCall sp dvs E t) :=
  ⟨fun pins s σ H Q I h => wpAny_Call_Name_kw (ld_glob I hg hm (PySem.W.callWith_K (h₀ := X.base) I.ok.mod.kin hk
    (thn (ha.run pos pins s σ H _ I h) fun us s1 ⟨vs, H1, I1, r, q⟩ => ⟨I1.kIn, run_g F hr hG hb hd hx I1 r q⟩) he hpl) hdb)⟩
/-- f() -/
theorem pe_call0G (F : FnG X.prog X.w X.K X.mg X.base CX k f fd ps sp) (hr : Room k X.A) (hG : X.A.guards = some []) (hg : Gl X x) (hm : X.mg x = some (.ref f)) (hk : PySem.W.keepIn X.K (.ref f) = true) (hb : Binds X.K fd ps ds) (hd : Vals dvs ds)
    (hx : Passes CX X E) (hdb : (x == ("__debug__" : Str)) = false := by decide) : PE X (.Call (.Name x p) [] [] pos) (tCall sp dvs E tNil) :=
  ⟨fun pins s σ H Q I h => wpAny_Call_Name_kw (ld_glob I hg hm (PySem.W.callWith_K0 I.kIn hk (run_g (us := []) F hr hG hb hd hx I .nil h)) hdb)⟩
/-- f(e, .., k = v, ..) -/
theorem pe_callKG (F : FnG X.prog X.w X.K X.mg X.base CX k f fd ps sp) (hr : Room k X.A) (hG : X.A.guards = some []) (hg : Gl X x) (hm : X.mg x = some (.ref f)) (hk : PySem.W.keepIn X.K (.ref f) = true) (hb : KBinds X.K fd ps ks g gV) (hx : Passes CX X E)
    (ha : PA X (e :: es) t) (hkw : PK X kws tk) (hall : (backToKw pos (keywordEach kws X.env)).all (·.1.isSome) = true := by rfl) (hks : (backToKw pos (keywordEach kws X.env)).filterMap (·.1) = ks := by rfl)
    (hdb : (x == ("__debug__" : Str)) = false := by decide) (he : starEach (e :: es) X.env = (false, eval e X.env) :: starEach es X.env := by rfl)
    (hpl : ((backTo pos (starEach (e :: es) X.env)).any (·.1) || (backToKw pos (keywordEach kws X.env)).any (·.1.isNone)) = false := by rfl) : PE X (.Call (.Name x p) (e :: es) kws pos) (tCallK sp gV E t tk) := by
  refine ⟨fun pins s σ H Q I h => wpAny_Call_Name_kw (ld_glob I hg hm (PySem.W.callWith_KW (h₀ := X.base) I.ok.mod.kin hk hall (thn (ha.run pos pins s σ H _ I h) fun us s1 ⟨vs, H1, I1, r, q⟩ =>
    thn (hkw.run pos pins s1 σ H1 _ I1 q) fun ws s2 ⟨zs, H2, I2, rz, q2⟩ => ⟨I2.kIn, ?_⟩) hpl he) hdb)⟩
  rw [hks]
  exact run_gk F hr hG hb hx I2 r rz q2
/-- f(k = v, ..) -/
theorem pe_callK0G (F : FnG X.prog X.w X.K X.mg X.base CX k f fd ps sp) (hr : Room k X.A) (hG : X.A.guards = some []) (hg : Gl X x) (hm : X.mg x = some (.ref f)) (hk : PySem.W.keepIn X.K (.ref f) = true) (hb : KBinds X.K fd ps ks g gV) (hx : Passes CX X E)
    (hkw : PK X kws tk) (hall : (backToKw pos (keywordEach kws X.env)).all (·.1.isSome) = true := by rfl) (hks : (backToKw pos (keywordEach kws X.env)).filterMap (·.1) = ks := by rfl) (hdb : (x == ("__debug__" : Str)) = false := by decide)
    (hpl : ((backTo pos (starEach [] X.env)).any (·.1) || (backToKw pos (keywordEach kws X.env)).any (·.1.isNone)) = false := by rfl) : PE X (.Call (.Name x p) [] kws pos) (tCallK sp gV E tNil tk) := by
  refine ⟨fun pins s σ H Q I h => wpAny_Call_Name_kw (ld_glob I hg hm (PySem.W.callWith_KW0 (h₀ := X.base) I.ok.mod.kin hk hall (thn (hkw.run pos pins s σ H _ I h) fun ws s1 ⟨zs, H1, I1, rz, q1⟩ => ⟨I1.kIn, ?_⟩) hpl) hdb)⟩
  rw [hks]
  exact run_gk F hr hG hb hx I1 .nil rz q1
end

section
variable {P : Program} {w : World} {K : PySem.W.Frag} {mg : Str → Option Value} {base : Heap}
/-- a def's promise by its body -/
theorem okG {CX : CXT} {x qual : Str} {st : Stmt} {f : Addr} {fd : FuncData} {N ps : List Str} {k : Nat} {sp : Sp} (F : Fun K x qual st f fd) (S : FnScope N ps (defScope st)) (len : ∀ vs H Q E, sp vs H Q E → vs.length = ps.length)
    (body : ∀ (cdv : Value) (A : Around) (outer : List Env) (s : Shared) (H : Hp) (vs : List V) (Q : VK) (E : XK), Room k (A.deeper (envOfC qual (defScope st) s.heap.objs.size f cdv)) → A.guards = some [] → sp vs H Q E →
      ∃ t, PSs (cxOf CX P w K mg base N qual (defScope st) f cdv A outer s H E) (defBody st) t ∧ t { nx := fun _ H' => Q .non H', rt := Q } (start N vs) H) : FnG P w K mg base CX (k + 1) f fd ps sp := by
  obtain ⟨oc, od, kV, doc, pm, an, cdv, ct, osl, rfl, lk, hcd⟩ := F.ex
  refine ⟨len, fun A outer s H args us vs Q E hr hG e0 hb rel hsp => ?_⟩
  have low : ∀ b o, base.get? b = some o → s.heap.get? b = some o := fun b o e => (e0.bs b o e).1
  have KX : K.In s.heap := e0.mod.kin.keeps low
  refine codeAny_call_function hr.depth (KX _ _ lk) rfl S.co S.gen rfl (PySem.W.codeRec_of KX hcd) (hb _ _ _ _ (wpAny_newFunctionEnv_cells S.kind ?kind fun env he s1 x => ?_))
  case kind =>
    rintro ⟨n, v⟩ hy
    exact (S.par n (List.of_mem_zip hy).1).imp id fun q => ⟨q, PySem.W.cellsFrom_some _ _ _ (.inl q)⟩
  subst he
  refine ⟨(e0.mod.nolimit.keeps low).keeps x.toInCall.keep, codeAny_func ?_⟩
  obtain ⟨t, ht, hq⟩ := body cdv A outer s H vs Q E (hr.deeper _) hG hsp
  have I := inv_start (CX := CX) (E := E) (qual := qual) (f := f) (cd := cdv) S hr.hd e0 (len _ _ _ _ hsp) rel x
  refine wpAny_mono (ht.run [] s1 (start N vs) H _ I hq) (fun fl s' hs => ?_) fun e s' hs => hs
  match fl, hs with
  | .ret u, ⟨v, σ', H', J, rv, q⟩ => exact ⟨v, H', J.os, J.bare, J.base, J.hok, rv, q⟩
  | .next, ⟨σ', H', J, q⟩ => exact ⟨.non, H', J.os, J.bare, J.base, J.hok, rfl, q⟩
  | .brk, ⟨_, _, _, q⟩ => exact q.elim
  | .cont, ⟨_, _, _, q⟩ => exact q.elim
/-- the same, nothing is raised out of the def -/
theorem okG0 {x qual : Str} {st : Stmt} {f : Addr} {fd : FuncData} {N ps : List Str} {k : Nat} {sp : Sp} (F : Fun K x qual st f fd) (S : FnScope N ps (defScope st)) (len : ∀ vs H Q E, sp vs H Q E → vs.length = ps.length)
    (body : ∀ (cdv : Value) (A : Around) (outer : List Env) (s : Shared) (H : Hp) (vs : List V) (Q : VK) (E : XK), Room k (A.deeper (envOfC qual (defScope st) s.heap.objs.size f cdv)) → A.guards = some [] → sp vs H Q E →
      ∃ t, PSs (cxOf CX0 P w K mg base N qual (defScope st) f cdv A outer s H E).nox (defBody st) t ∧ t { nx := fun _ H' => Q .non H', rt := Q } (start N vs) H) : FnG P w K mg base CX0 (k + 1) f fd ps sp :=
  okG F S len fun cdv A outer s H vs Q E hr hG h => let ⟨t, h1, h2⟩ := body cdv A outer s H vs Q E hr hG h; ⟨t, h1.nox, h2⟩

/-- the law's call: H tells the script alone (or nothing, where it is an object of the top) -/
theorem law_at {CX : CXT} {k : Nat} {fa a : Addr} {fd : FuncData} {x : Str} {sp : Sp} {s₁ : Shared} {mb : Str → Option Value} {H : Hp} (KX : K.In s₁.heap) (hns : s₁.heap.Ns mainGlobals mg) (hb : s₁.heap.Ns builtinsNs mb) (hbb : ∀ x : Str, x ≠ "__name__" → mb x = bootBuiltins x)
    (hlim : s₁.heap.NoLimit) (hg : s₁.gens = #[]) (hr : Room k callerA) (hok : HOk P w H s₁.heap) (hO : Only H) (hK : ∀ b, H b ≠ none → K.lookup b = none) (hD : ∀ b o es ep, s₁.heap.get? b = some o → o.data = .dict es ep → H b = none)
    (F : ∀ base : Heap, K.In base → base.Ns mainGlobals mg → FnG P w K mg base CX k fa fd [x] sp) (hbind : ∀ (s : Shared) (u : Value), BindsTo s fd ⟨[u], []⟩ [(x, u)])
    (hsp : sp [.ref a] H (fun v _ => v = .bl true) fun _ _ _ => False) (hCX : ∀ e s', CX [] H s₁ (fun _ _ _ => False) e s' → False) :
    codeAny (model P w) callerA (.call (.ref fa) ⟨[.ref a], []⟩) (fun r s' => r = .ok (.ret (.bool true)) ∧ OldK s₁.heap s'.heap ∧ s'.os = s₁.os ∧ AllBare s'.gens) s₁ := by
  have nsB : ∀ {b : Addr} {m : Str → Option Value}, s₁.heap.Ns b m → (hidT s₁.heap H).Ns b m := fun ⟨o, es, ep, e, d, r⟩ => ⟨o, es, ep, hidT_get e (hD _ _ _ _ e d), d, r⟩
  have kB : K.In (hidT s₁.heap H) := fun b o e => hidT_get (KX b o e) (Classical.byContradiction fun z => by
    have := hK b z
    rw [e] at this
    cases this)
  have md : Mod K mg (hidT s₁.heap H) := ⟨kB, nsB hns, ⟨mb, nsB hb, hbb⟩, let ⟨mc, h1, h2⟩ := hlim; ⟨mc, nsB h1, h2⟩⟩
  have e0 : Env0 P w K mg (hidT s₁.heap H) callerA [] s₁ H := ⟨rfl, md, fun _ _ e => of_hidT e, Nat.le_of_eq (hidT_size _ _), trivial, (fun b z => absurd (show b ∈ ([] : List Addr) from z) (by simp)), hok, AllBare.of_eq hg⟩
  refine codeAny_mono ((F _ kB (nsB hns)).run callerA [] s₁ H ⟨[.ref a], []⟩ [.ref a] [.ref a] _ _ hr rfl e0 (hbind s₁ (.ref a)) (.cons rfl .nil) hsp) fun r s' h => ?_
  match r, h with
  | .error e, h => exact (hCX e s' h).elim
  | .ok .next, h => exact h.elim
  | .ok .brk, h => exact h.elim
  | .ok .cont, h => exact h.elim
  | .ok (.ret u), ⟨v, H', os, bare, un, hok', rv, q⟩ =>
    obtain rfl : v = V.bl true := q
    obtain rfl : u = Value.bool true := rv
    refine ⟨rfl, OldK.of_keep fun b o e => ?_, os, bare⟩
    rcases hO b with z | ⟨ob, xs, z⟩
    · exact un.keep b o e z (fun y => absurd (show b ∈ ([] : List Addr) from y) (by simp)) (by simp)
    · have e1 := (hok b _ z).1
      have e2 := (hok' b _ (un.frzs b ob _ z)).1
      rw [← Option.some.inj (e1.symm.trans e)]
      exact e2
end
/-- the goal that k_head leaves, by the law's promise -/
theorem walk_ofG {l : PySem.W.OpenLaw} {n k : Nat} {q : Program} {loose : List Str} {XP : (Str → Option Value) → Heap → Prop} {YP : World → Heap → Prop} {d : DefRec} {K : Params → PySem.W.Frag} {CX : World → CXT} {sp : World → Sp} {x : Str}
    (hn : l.most = some n) (hn2 : n ≤ sizeLine) (hdf : d.params.defaults = []) (hr : Room k callerA) (hY : ∀ (w : World) (h : Heap), YP w h → (K w.params).In h)
    (F : ∀ (w : World) (mg : Str → Option Value) (fa : Addr) (h : Heap), (K w.params).In h → h.Ns mainGlobals mg → mg d.name = some (.ref fa) → ∃ fd : FuncData, (∀ (s : Shared) (u : Value), BindsTo s fd ⟨[u], []⟩ [(x, u)]) ∧
      ∀ base : Heap, (K w.params).In base → base.Ns mainGlobals mg → FnG l.prog w (K w.params) mg base (CX w) k fa fd [x] (sp w))
    (hsp : ∀ (w : World) (H : Hp) (a : Addr) (ns : List Int), ns.length ≤ n → Only H → SqL (K w.params) H a (ns.map V.int) → sp w [.ref a] H (fun v _ => v = .bl true) fun _ _ _ => False)
    (hCX : ∀ (w : World) (H : Hp) (s : Shared) (e : Value) (s' : Shared), CX w [] H s (fun _ _ _ => False) e s' → False) : PySem.W.WalkO q loose XP YP l.row.toRowW d [] (fun f vs => PySem.call f vs) := by
  refine Att.attach_call hn hdf fun w s₀ s₁ mg mb fa o pm cd doc a vs ns G Y ho hd hcd hmg hobj hints hlen hg => ?_
  have KX := hY w _ Y
  obtain ⟨fd, hb, hF⟩ := F w mg fa _ KX G.T.g hmg
  have rv := vals_ints hints
  have lenV := hints.length
  have hl : ns.length ≤ sizeLine := Nat.le_trans hlen hn2
  cases hk : (K w.params).lookup a with
  | some ob =>
    have e := KX a ob hk
    rw [hobj] at e
    cases e
    refine law_at (H := fun _ => none) KX G.T.g G.T.b G.T.builtins G.T.nolimit hg hr (fun b u z => nomatch z) (fun _ => .inl rfl) (fun b z => absurd rfl z) (fun _ _ _ _ _ _ => rfl) hF hb
      (hsp w _ a ns hlen (fun _ => .inl rfl) (.inr ⟨_, vs.toArray, _, hk, rfl, rfl, rfl, by rw [List.size_toArray, lenV]; exact hl, by simpa using rv⟩)) fun e s' => hCX w _ s₁ e s'
  | none =>
    have at' : ∀ {b : Addr} {u : HO}, (if b = a then some (HO.frz { cls := .type "list", data := .seq vs.toArray } (.lst (ns.map V.int))) else none) = some u → b = a ∧ u = .frz { cls := .type "list", data := .seq vs.toArray } (.lst (ns.map V.int)) := fun {b u} z => by
      by_cases hba : b = a
      · rw [if_pos hba] at z
        exact ⟨hba, (Option.some.inj z).symm⟩
      · rw [if_neg hba] at z
        cases z
    have only : Only fun b => if b = a then some (HO.frz { cls := .type "list", data := .seq vs.toArray } (.lst (ns.map V.int))) else none := fun b => by
      by_cases hba : b = a
      · exact .inr ⟨_, _, if_pos hba⟩
      · exact .inl (if_neg hba)
    refine law_at (H := fun b => if b = a then some (.frz { cls := .type "list", data := .seq vs.toArray } (.lst (ns.map V.int))) else none) KX G.T.g G.T.b G.T.builtins G.T.nolimit hg hr (fun b u z => ?_) only (fun b z => ?_) (fun b o es ep e d => ?_) hF hb
      (hsp w _ a ns hlen only (.inl (.inr ⟨{ cls := .type "list", data := .seq vs.toArray }, if_pos rfl⟩))) fun e s' => hCX w _ s₁ e s'
    · obtain ⟨rfl, rfl⟩ := at' z
      exact ⟨hobj, by rw [List.length_map]; exact hl, vs, _, rv, hobj⟩
    · by_cases hba : b = a
      · rw [hba]
        exact hk
      · exact absurd (if_neg hba) z
    · by_cases hba : b = a
      · subst hba
        rw [hobj] at e
        cases e
        cases d
      · exact if_neg hba
end GL

set_option Elab.async false
set_option linter.all false
set_option maxRecDepth 100000
/-! Data: None, bools, ints, texts, lists, tuples and dicts (with text and int keys) at any depth, as they stand in H; repr of them -/
namespace GL
open PySem PySem.Spec PyProof.Rows L2

def keyD : Key → PyData
  | .inl i => .int i
  | .inr x => .str x
mutual
inductive DV (K : PySem.W.Frag) (H : Hp) : V → PyData → Prop
  | non : DV K H .non .none
  | bl (b : Bool) : DV K H (.bl b) (.bool b)
  | int (i : Int) : DV K H (.int i) (.int i)
  | str (x : Str) : DV K H (.str x) (.str x)
  | lst {a : Addr} {xs : List V} {ds : List PyData} : SqL K H a xs → a ≠ sysModules → DVs K H xs ds → DV K H (.ref a) (.list ds)
  | tup {a : Addr} {xs : List V} {ds : List PyData} : SqT K H a xs → DVs K H xs ds → DV K H (.ref a) (.tuple ds)
  | dct {a : Addr} {kvs : List (Key × V)} {ds : List (PyData × PyData)} : Rd H a (.dK kvs) → DVk K H kvs ds → DV K H (.ref a) (.dict ds)
inductive DVs (K : PySem.W.Frag) (H : Hp) : List V → List PyData → Prop
  | nil : DVs K H [] []
  | cons {v : V} {vs : List V} {d : PyData} {ds : List PyData} : DV K H v d → DVs K H vs ds → DVs K H (v :: vs) (d :: ds)
inductive DVk (K : PySem.W.Frag) (H : Hp) : List (Key × V) → List (PyData × PyData) → Prop
  | nil : DVk K H [] []
  | cons {k : Key} {v : V} {vs : List (Key × V)} {d : PyData} {ds : List (PyData × PyData)} : DV K H v d → DVk K H vs ds → DVk K H ((k, v) :: vs) ((keyD k, d) :: ds)
end
theorem same_T {K : PySem.W.Frag} {H H' : Hp} {a : Addr} {xs : List V} (e : Same H H') (h : SqT K H a xs) : SqT K H' a xs := by
  rcases h with (h | ⟨o, h⟩) | h
  · exact .inl (.inl (e _ _ h))
  · exact .inl (.inr ⟨o, e _ _ h⟩)
  · exact .inr h
mutual
theorem DV.same {K : PySem.W.Frag} {H H' : Hp} (e : Same H H') : ∀ {v : V} {d : PyData}, DV K H v d → DV K H' v d
  | _, _, .non => .non
  | _, _, .bl b => .bl b
  | _, _, .int i => .int i
  | _, _, .str x => .str x
  | _, _, .lst h n t => .lst (e.seq h) n (DVs.same e t)
  | _, _, .tup h t => .tup (same_T e h) (DVs.same e t)
  | _, _, .dct h t => .dct (h.elim (fun z => .inl (e _ _ z)) fun ⟨o, z⟩ => .inr ⟨o, e _ _ z⟩) (DVk.same e t)
theorem DVs.same {K : PySem.W.Frag} {H H' : Hp} (e : Same H H') : ∀ {v : List V} {d : List PyData}, DVs K H v d → DVs K H' v d
  | _, _, .nil => .nil
  | _, _, .cons a t => .cons (DV.same e a) (DVs.same e t)
theorem DVk.same {K : PySem.W.Frag} {H H' : Hp} (e : Same H H') : ∀ {v : List (Key × V)} {d : List (PyData × PyData)}, DVk K H v d → DVk K H' v d
  | _, _, .nil => .nil
  | _, _, .cons a t => .cons (DV.same e a) (DVk.same e t)
end
section
variable {X : Cx} {pins : List (Addr × Obj)} {σ : L2.St} {H : Hp} {s : Shared}
theorem keyD_reads {k : Key} {v : Value} (h : keyIs k v = true) : Reads s.heap v (keyD k) [] := by
  rcases keyIs_shape h with ⟨i, t, rfl, rfl⟩ | ⟨x, t, rfl, rfl⟩
  · exact Reads.int i t
  · exact Reads.str x t
mutual
theorem DV.reads (I : Inv X pins σ H s) : ∀ {v : V} {d : PyData} {u : Value}, DV X.K H v d → RelV v u → ∃ as, Reads s.heap u d as ∧ sysModules ∉ as
  | _, _, _, .non, r => by
    cases r
    exact ⟨_, Reads.none, by simp⟩
  | _, _, _, .bl b, r => by
    cases r
    exact ⟨_, Reads.bool b, by simp⟩
  | _, _, _, .int i, r => by
    obtain ⟨t, rfl⟩ := r
    exact ⟨_, Reads.int i t, by simp⟩
  | _, _, _, .str x, r => by
    obtain ⟨t, rfl⟩ := r
    exact ⟨_, Reads.str x t, by simp⟩
  | _, _, _, .lst h n t, r => by
    cases r
    obtain ⟨its, rv, pl, _⟩ := I.list h
    obtain ⟨o, ho, hc, m, hd⟩ := pl.isList
    obtain ⟨as, ra, na⟩ := DVs.reads I t rv
    refine ⟨_, Reads.list ho hc hd (by simpa using ra), fun z => ?_⟩
    rcases List.mem_cons.mp z with z | z
    · exact n z.symm
    · exact na z
  | _, _, _, .tup h t, r => by
    cases r
    obtain ⟨its, rv, ⟨o, ho, hc, m, hd⟩, _⟩ := I.tuple h
    obtain ⟨as, ra, na⟩ := DVs.reads I t rv
    exact ⟨_, Reads.tuple ho hc hd (by simpa using ra), na⟩
  | _, _, _, .dct h t, r => by
    cases r
    obtain ⟨_, hs, vs, rel, o, es, ep, ho, hx, hd, _, pr, _⟩ := dk_rd I.hok h
    obtain ⟨as, ra, rb, na⟩ := DVk.reads I t rel pr
    refine ⟨_, Reads.dict ho hx.1 hd ra rb, fun z => ?_⟩
    rcases List.mem_append.mp z with z | z
    · rcases List.mem_cons.mp z with z | z
      · exact beq_eq_false_iff_ne.mp hs z.symm
      · exact absurd z (by simp)
    · exact na z
theorem DVs.reads (I : Inv X pins σ H s) : ∀ {v : List V} {d : List PyData} {u : List Value}, DVs X.K H v d → Vals v u → ∃ as, ReadsAll s.heap u d as ∧ sysModules ∉ as
  | _, _, _, .nil, .nil => ⟨_, ReadsAll.nil, by simp⟩
  | _, _, _, .cons a t, .cons r q => by
    obtain ⟨as, ra, na⟩ := DV.reads I a r
    obtain ⟨bs, rb, nb⟩ := DVs.reads I t q
    exact ⟨_, ReadsAll.cons ra rb, fun z => (List.mem_append.mp z).elim na nb⟩
theorem DVk.reads (I : Inv X pins σ H s) : ∀ {v : List (Key × V)} {d : List (PyData × PyData)} {u : List (Key × Value)} {es : List DictEntry}, DVk X.K H v d → KV v u → Pairs (mixKind X.prog X.w) es u →
    ∃ bs, ReadsAll s.heap (es.map (·.key)) (d.map (·.1)) [] ∧ ReadsAll s.heap (es.map (·.val)) (d.map (·.2)) bs ∧ sysModules ∉ bs
  | _, _, _, _, .nil, .nil, .nil => ⟨_, ReadsAll.nil, ReadsAll.nil, by simp⟩
  | _, _, _, _, .cons (k := k) a t, .cons r q, .cons hk ev p => by
    obtain ⟨as, ra, na⟩ := DV.reads I a r.2
    obtain ⟨bs, r1, r2, nb⟩ := DVk.reads I t q p
    rw [← ev] at ra
    rw [← r.1] at hk
    exact ⟨as ++ bs, ReadsAll.cons (as := []) (keyD_reads (k := k) hk) r1, ReadsAll.cons ra r2, fun z => (List.mem_append.mp z).elim na nb⟩
end
/-- repr(x) of data -/
def rRepr (K : PySem.W.Frag) : List V → Hp → VK → Prop := fun vs H Q => ∃ (x : V) (d : PyData), vs = [x] ∧ DV K H x d ∧ d.showable = true ∧ d.depth ≤ 60 ∧ d.shown.length ≤ sizeLine ∧ Q (.str d.shown) H
theorem call_reprD (hG : X.A.guards = some []) (hu : X.A.units + 64 < cLine) : CallR X (.builtin "repr") (rRepr X.K) := by
  intro pins s σ H vs us Q I r h
  obtain ⟨x, d, rfl, hd, sh, dp, sz, q⟩ := h
  obtain ⟨u, rfl, ru⟩ := vals1 r
  have out : ∀ {t : Tok} {tk : Nat}, EP X pins σ Q (.str d.shown t) { s with toks := tk } := fun {t tk} => ⟨.str d.shown, H, I.tok _, ⟨t, rfl⟩, q⟩
  cases hd with
  | non =>
    cases ru
    exact P.repr_of_none out
  | bl b =>
    cases ru
    refine P.repr_of_bool ?_
    cases b <;> exact out
  | int i =>
    obtain ⟨t, rfl⟩ := ru
    exact P.repr_of_int (of_decide_eq_true (by simpa [PyData.showable] using sh)) out
  | str z =>
    obtain ⟨t, rfl⟩ := ru
    exact P.repr_of_str out sz
  | lst h1 h2 h3 =>
    cases ru
    obtain ⟨as, ra, na⟩ := DV.reads I (DV.lst h1 h2 h3) rfl
    exact repr_of_reads' ra sh (fun _ => na) hG (by omega) (fun _ _ e => e) (fun h' t tk hk => ⟨.str _, H, I.kept hk, ⟨t, rfl⟩, q⟩) sz
  | tup h1 h2 =>
    cases ru
    obtain ⟨as, ra, na⟩ := DV.reads I (DV.tup h1 h2) rfl
    exact repr_of_reads' ra sh (fun _ => na) hG (by omega) (fun _ _ e => e) (fun h' t tk hk => ⟨.str _, H, I.kept hk, ⟨t, rfl⟩, q⟩) sz
  | dct h1 h2 =>
    cases ru
    obtain ⟨as, ra, na⟩ := DV.reads I (DV.dct h1 h2) rfl
    exact repr_of_reads' ra sh (fun _ => na) hG (by omega) (fun _ _ e => e) (fun h' t tk hk => ⟨.str _, H, I.kept hk, ⟨t, rfl⟩, q⟩) sz
/-- [a, b, ..], where it stands known to be none of the system's own -/
def tLstB (t : TA) : TE := fun σ H Q => t σ H fun xs H1 => xs.length ≤ sizeLine ∧ ∀ p, H1 p = none → p ≠ sysModules → Q (.ref p) (upd H1 p (.lst xs))
theorem pe_lstB {es : List Expr} {t : TA} {pos : Pos} (h : PA X es t) : PE X (.List es pos) (tLstB t) := by
  refine ⟨fun pins s σ H Q I hq => wpAny_List_spliced (thn (h.run pos pins s σ H _ I hq) fun us s1 ⟨xs, H1, I1, r, z, q⟩ => ⟨by rw [← r.length]; exact z, ?_⟩)⟩
  exact ⟨.ref s1.heap.objs.size, _, I1.laid (o := .lst xs) (t' := s1.toks) (fun b u e => Heap.get?_push_of_some _ e) (Nat.le_refl _) ⟨z, us, 0, r, Heap.get?_push_size _ rfl⟩, rfl, q _ (I1.hok.fresh (Nat.le_refl _)) (Nat.ne_of_gt I1.big)⟩
end
/-- a def of the program by its promise, as a caller wants it -/
structure DnG (P : Program) (w : World) (K : PySem.W.Frag) (mg : Str → Option Value) (base : Heap) (x : Str) (k : Nat) (ps : List Str) (sp : Sp) where
  f : Addr
  fd : FuncData
  ok : FnG P w K mg base CX0 k f fd ps sp
  g : mg x = some (.ref f)
  kp : PySem.W.keepIn K (.ref f) = true
  b : Binds K fd ps []
section
variable {X : Cx}
/-- list(s) of a text -/
def signs (x : Str) : List V := x.cps.toList.map fun c => V.str ⟨#[c]⟩
theorem call_listS (hc : X.calm = true) : CallR X (.type "list") (fun xs H Q => ∃ x : Str, xs = [.str x] ∧ x.length ≤ sizeLine ∧ ∀ l, H l = none → Q (.ref l) (upd H l (.lst (signs x)))) := by
  intro pins s σ H xs us Q I r h
  obtain ⟨x, rfl, hz, q⟩ := h
  obtain ⟨u, rfl, t, rfl⟩ := vals1 r
  refine call_list_str (I.ok.hd hc) x t (fun h' tk acc c hk hS hacc => ?_) hz
  have len : acc.toList.length = x.cps.toList.length := by
    rw [Array.length_toList, Array.length_toList]
    exact hacc.1
  refine ⟨.ref s.heap.objs.size, _, I.laid (o := .lst (signs x)) hk (Nat.le_refl _) ⟨?_, acc.toList, c, ?_, by rw [Array.toArray_toList]; exact hS⟩, rfl, q _ (I.hok.fresh (Nat.le_refl _))⟩
  · unfold signs
    rw [List.length_map, Array.length_toList]
    exact hz
  · refine vals_of_at (by rw [signs, List.length_map, len]) fun j v u h1 h2 => ?_
    obtain ⟨c', u', e1, rfl⟩ := hacc.2 j u (by rw [← h2, Array.getElem?_toList])
    rw [signs, List.getElem?_map, Array.getElem?_toList, e1] at h1
    cases h1
    exact ⟨u', rfl⟩
end
end GL

set_option Elab.async false
set_option linter.all false
set_option maxRecDepth 100000
/-! rules that the layer lacks: max(xs, default=d), tuple.index of flat things, a power of a great number -/
namespace GL
open PySem PySem.Spec PyProof.Rows L2

section
variable {prog : Program} {w : World} {A : Around} {R : Result → Shared → Prop} {I S : Addr} {fp wr : List Addr} {n : Nat} {P : Nat → Value → Prop} {St : Nat → Heap → Prop} {bt : Nat → Nat → Bool} {kw : List (Str × Value)}

/-- the list that holds the best item so far -/
abbrev keptAt (h : Heap) (S : Addr) (vs : Array Value) : Prop := ∃ c, h.get? S = some { cls := .type "list", dict := none, data := .seq vs c, slots := #[] }

/-- max.loop with keywords, an item being held: d turns are left -/
theorem loop_kw (W : Walks prog w A.in1 I fp wr n P St) (cmp : CmpOf prog w A.in1 .Gt P bt) (out : S ∉ fp) :
    ∀ (d j : Nat), j + 1 + d = n → ∀ (s : Shared) (v0 : Value), St (j + 1) s.heap → P (argBest bt j) v0 → keptAt s.heap S #[v0, v0] →
      (∀ v h' tk, P (argBest bt (n - 1)) v → (∀ b o, b ∉ wr → b ≠ S → s.heap.get? b = some o → h'.get? b = some o) → R (.ok (.ret v)) { s with heap := h', toks := tk }) →
      codeAny (model prog w) A (.builtin "max.loop" ⟨[.ref I, .none, .ref S], kw⟩) R s := by
  have outW : S ∉ wr := fun z => out (W.sub _ z)
  have nm : (toString "max" ++ toString ".loop" : String) = "max.loop" := by decide
  intro d
  induction d with
  | zero =>
    intro j ej s v0 st p0 ⟨c, hS⟩ fin
    refine codeAny_builtin F.entry_max_loop ?_ <;> rw [Around.under_plainId F.plain_max_loop _]
    show wpAny (model prog w) A.in1 (seqItems? (.ref S) >>= _) _ _ s
    refine wpAny_bind (wpAny_seqItems hS rfl (wpAny_bind (wpAny_tryCatch (W.done s _ _ (show St n s.heap from ej ▸ st) fun h1 t1 keep => ?_))))
    have hS1 := keep S _ outW hS
    refine wpAny_bind (wpAny_updateSeq hS1 rfl (wpAny_bind (wpAny_letGo (wpAny_pure (fin v0 _ t1 ?_ fun b o nb ns e => ?_)))))
    · have e1 : n - 1 = j := by omega
      rw [e1]
      exact p0
    · exact (Heap.get?_update_other _ _ (Ne.symm ns)).trans (keep b o nb e)
  | succ d ih =>
    intro j ej s v0 st p0 ⟨c, hS⟩ fin
    refine codeAny_builtin F.entry_max_loop ?_ <;> rw [Around.under_plainId F.plain_max_loop _]
    show wpAny (model prog w) A.in1 (seqItems? (.ref S) >>= _) _ _ s
    refine wpAny_bind (wpAny_seqItems hS rfl (wpAny_bind (wpAny_tryCatch (W.item (j + 1) s _ _ (by omega) st fun v h1 t1 pv st1 keep => ?_))))
    have hS1 := keep S _ outW hS
    refine wpAny_bind (wpAny_pure (wpAny_bind (wpAny_tryCatch (wpAny_holding (wpAny_bind (cmp (j + 1) (argBest bt j) v v0 _ _ _ pv p0 ?_))))))
    refine wpAny_bind (wpAny_holding (wpAny_truthy_bool (wpAny_bind (wpAny_letGo (wpAny_pure ?_)))))
    cases hb : bt (j + 1) (argBest bt j) with
    | true =>
      have p1 : P (argBest bt (j + 1)) v := by
        simp only [argBest, hb, if_true]
        exact pv
      simp only [if_true]
      refine wpAny_bind (wpAny_updateSeq hS1 rfl (wpAny_bind (wpAny_letGo ?_)))
      rw [nm]
      refine wpAny_pure ⟨plainId_quiet F.plain_max_loop _, ih (j + 1) (by omega) _ v (W.frame _ _ _ st1 fun b hb o e => ?_) p1 ⟨_, Heap.get?_update_self _ hS1 rfl⟩ fun v' h2 t2 pv' keep2 => ?_⟩
      · exact (Heap.get?_update_other _ _ (fun z : S = b => out (by rw [z]; exact hb))).trans e
      · exact fin v' h2 t2 pv' fun b o nb ns e => keep2 b o nb ns ((Heap.get?_update_other _ _ (Ne.symm ns)).trans (keep b o nb e))
    | false =>
      have p1 : P (argBest bt (j + 1)) v0 := by
        simp only [argBest, hb, Bool.false_eq_true, if_false]
        exact p0
      simp only [Bool.false_eq_true, if_false]
      refine wpAny_bind (wpAny_letGo ?_)
      rw [nm]
      refine wpAny_pure ⟨plainId_quiet F.plain_max_loop _, ih (j + 1) (by omega) _ v0 st1 p1 ⟨_, hS1⟩ fun v' h2 t2 pv' keep2 => ?_⟩
      exact fin v' h2 t2 pv' fun b o nb ns e => keep2 b o nb ns (keep b o nb e)

/-- max.loop with keywords, before the first item -/
theorem loop_kw0 (W : Walks prog w A.in1 I fp wr n P St) (cmp : CmpOf prog w A.in1 .Gt P bt) (out : S ∉ fp) (pos : 0 < n) {s : Shared} (st : St 0 s.heap) (kS : keptAt s.heap S #[])
    (fin : ∀ v h' tk, P (argBest bt (n - 1)) v → (∀ b o, b ∉ wr → b ≠ S → s.heap.get? b = some o → h'.get? b = some o) → R (.ok (.ret v)) { s with heap := h', toks := tk }) :
    codeAny (model prog w) A (.builtin "max.loop" ⟨[.ref I, .none, .ref S], kw⟩) R s := by
  have outW : S ∉ wr := fun z => out (W.sub _ z)
  have nm : (toString "max" ++ toString ".loop" : String) = "max.loop" := by decide
  obtain ⟨c, hS⟩ := kS
  refine codeAny_builtin F.entry_max_loop ?_ <;> rw [Around.under_plainId F.plain_max_loop _]
  show wpAny (model prog w) A.in1 (seqItems? (.ref S) >>= _) _ _ s
  refine wpAny_bind (wpAny_seqItems hS rfl (wpAny_bind (wpAny_tryCatch (W.item 0 s _ _ pos st fun v h1 t1 pv st1 keep => ?_))))
  have hS1 := keep S _ outW hS
  refine wpAny_bind (wpAny_pure (wpAny_bind (wpAny_updateSeq hS1 rfl ?_)))
  rw [nm]
  refine wpAny_pure ⟨plainId_quiet F.plain_max_loop _, loop_kw W cmp out (n - 1) 0 (by omega) _ v (W.frame _ _ _ st1 fun b hb o e => ?_) pv ⟨_, Heap.get?_update_self _ hS1 rfl⟩ fun v' h2 t2 pv' keep2 => ?_⟩
  · exact (Heap.get?_update_other _ _ (fun z : S = b => out (by rw [z]; exact hb))).trans e
  · exact fin v' h2 t2 pv' fun b o nb ns e => keep2 b o nb ns ((Heap.get?_update_other _ _ (Ne.symm ns)).trans (keep b o nb e))
/-- max.loop of nothing gives the default -/
theorem loop_none (W : Walks prog w A.in1 I fp wr 0 P St) (out : S ∉ fp) {s : Shared} (st : St 0 s.heap) (kS : keptAt s.heap S #[]) {d : Value}
    (fin : ∀ h' tk, (∀ b o, b ∉ wr → b ≠ S → s.heap.get? b = some o → h'.get? b = some o) → R (.ok (.ret d)) { s with heap := h', toks := tk }) :
    codeAny (model prog w) A (.builtin "max.loop" ⟨[.ref I, .none, .ref S], [("default", d)]⟩) R s := by
  have outW : S ∉ wr := fun z => out (W.sub _ z)
  obtain ⟨c, hS⟩ := kS
  refine codeAny_builtin F.entry_max_loop ?_ <;> rw [Around.under_plainId F.plain_max_loop _]
  show wpAny (model prog w) A.in1 (seqItems? (.ref S) >>= _) _ _ s
  refine wpAny_bind (wpAny_seqItems hS rfl (wpAny_bind (wpAny_tryCatch (W.done s _ _ st fun h1 t1 keep => ?_))))
  show wpAny (model prog w) A.in1 (rule _ >>= _) _ _ _
  refine wpAny_bind (wpAny_rule (wpAny_pure (fin h1 t1 fun b o nb _ e => keep b o nb e)))
end
section
variable {prog : Program} {w : World} {A : Around} {E : Value → Shared → Prop} {s : Shared} {l : Addr} {xs : Array (Int × Tok)}
/-- what a call of a built-in wants of its end -/
def EndOf (prog : Program) (w : World) (A : Around) (Q : Value → Shared → Prop) (E : Value → Shared → Prop) (fin : PySem.Fin) (s' : Shared) : Prop :=
  match fin with
  | .done f => (match (Except.ok f : Result) with | .ok (.ret v) => Q v s' | .ok _ => False | .error e => E e s')
  | .again c => c.quiet = true ∧ codeAny (model prog w) A c (fun r s2 => match r with | .ok (.ret v) => Q v s2 | .ok _ => False | .error e => E e s2) s'
theorem call_tree_kw {id : String} {b : Builtin} {args : List Value} {kw : List (Str × Value)} {Q : Value → Shared → Prop} (hk : builtinKind id = none) (hp : plainId id = true) (hb : entryFor table id = some b) (ha : argsOk id ⟨args, kw⟩)
    (hc : wpAny (model prog w) A.in1 (b ⟨args, kw⟩) (EndOf prog w A Q E) E s) : wpAny (model prog w) A (call (.builtin id) args kw) Q E s := by
  refine wpAny_call (codeAny_call_builtin hp hb ?_)
  simp only [checkBuiltinCall, hk]
  cases sg : Manifest.signature? id with
  | none => exact wpAny_pure hc
  | some g =>
    have e : Bind.checkArgs id g ⟨args, kw⟩ = pure () := by simpa only [argsOk, sg] using ha
    show wpAny _ _ (Bind.checkArgs id g ⟨args, kw⟩) _ _ s
    rw [e]
    exact wpAny_pure hc
theorem args_max_def (a d : Value) : argsOk "max" ⟨[a], [("default", d)]⟩ := by unfold argsOk; kernel_rfl
/-- max(l, default=d) of a list of ints -/
theorem max_def {Q : Value → Shared → Prop} {d : Value} (hh : A.handled = none) (hl : s.heap.IsList l (intItems xs))
    (h0 : xs.size = 0 → ∀ h' tk, (∀ b o, s.heap.get? b = some o → h'.get? b = some o) → Q d { s with heap := h', toks := tk })
    (h : ∀ v h' tk, 0 < xs.size → (intItems xs)[argBest (fun i j => decide (numAt xs i > numAt xs j)) (xs.size - 1)]? = some v → (∀ b o, s.heap.get? b = some o → h'.get? b = some o) → Q v { s with heap := h', toks := tk }) :
    wpAny (model prog w) A (call (.builtin "max") [.ref l] [("default", d)]) Q E s := by
  have nm : (toString "max" ++ toString ".loop" : String) = "max.loop" := by decide
  refine call_tree_kw F.kind_max F.plain_max F.entry_max (args_max_def _ _) ?_
  show wpAny (model prog w) A.in1 (Builtin.Builtins.bindParams "max" ["key", "default"] 0 ⟨[], [("default", d)]⟩ >>= _) _ _ s
  refine wpAny_bind (wpAny_of_eq (show Builtin.Builtins.bindParams "max" ["key", "default"] 0 ⟨[], [("default", d)]⟩ = pure [none, some d] from rfl) ?_)
  refine wpAny_bind (wpAny_pure (wpAny_bind (iter_intList hl fun s₂ e st hfp hlI => ?_)))
  subst e
  have W := Walks.list (prog := prog) (w := w) (A := A.in1) hh _ l hlI (intItems xs)
  refine wpAny_bind (wpAny_newObj_type ?_)
  rw [nm]
  have sf : (s.heap.push { cls := .type "list_iterator", data := .fields #[.ref l, .int 0 0] }).objs.size ∉ [s.heap.objs.size, l] := fun z => Nat.lt_irrefl _ (hfp _ z)
  refine wpAny_pure ⟨plainId_quiet F.plain_max_loop _, ?_⟩
  have push2 : ∀ (b : Addr) (o : Obj), (s.heap.push { cls := .type "list_iterator", data := .fields #[.ref l, .int 0 0] }).get? b = some o →
      ((s.heap.push { cls := .type "list_iterator", data := .fields #[.ref l, .int 0 0] }).push (seqObj "list" #[] 0)).get? b = some o := fun b o e => Heap.get?_push_of_some _ e
  have sz : (intItems xs).size = xs.size := by simp [intItems]
  have old : ∀ {h' : Heap}, (∀ b o, b ∉ [s.heap.objs.size] → b ≠ (s.heap.push { cls := .type "list_iterator", data := .fields #[.ref l, .int 0 0] }).objs.size →
      ((s.heap.push { cls := .type "list_iterator", data := .fields #[.ref l, .int 0 0] }).push (seqObj "list" #[] 0)).get? b = some o → h'.get? b = some o) → ∀ b o, s.heap.get? b = some o → h'.get? b = some o := fun k => old_kept fun b o nb e => k b o nb (Nat.ne_of_lt (Heap.lt_size e)) (push2 b o e)
  by_cases hz : xs.size = 0
  · have ez : (intItems xs).size = 0 := by rw [sz, hz]
    rw [ez] at W
    exact loop_none W sf (W.frame _ _ _ st fun b _ o e => push2 b o e) ⟨_, Heap.get?_push_size _ rfl⟩ fun h' tk keep => h0 hz h' tk (old keep)
  · refine loop_kw0 W (CmpOf.ints_gt (numAt xs) fun _ _ => intItems_at) sf (by omega) (W.frame _ _ _ st fun b _ o e => push2 b o e) ⟨_, Heap.get?_push_size _ rfl⟩ fun v h' tk pv keep => ?_
    rw [sz] at pv
    exact h v h' tk (by omega) pv (old keep)
end
/-! ### the rules by values -/
section
variable {X : Cx}
/-- max(xs, default=d) of a list of ints -/
def rMaxDef (K : PySem.W.Frag) : List V → List V → Hp → VK → Prop := fun vs zs H Q => ∃ (a : Addr) (ns : List Int) (d : V), vs = [.ref a] ∧ zs = [d] ∧ SqL K H a (ns.map V.int) ∧
  (ns = [] → Q d H) ∧ ∀ m, m ∈ ns → (∀ y ∈ ns, y ≤ m) → Q (.int m) H
theorem cr_maxDef (hc : X.calm = true) : CallRK X (.builtin "max") [Str.ofString "default"] (rMaxDef X.K) := by
  intro pins s σ H vs zs us ws Q I r rz h
  obtain ⟨a, ns, d, rfl, rfl, hs, q0, q⟩ := h
  obtain rfl := Vals.ref1 r
  obtain ⟨w1, rfl, rd⟩ := vals1 rz
  obtain ⟨its, rv, hl, _⟩ := I.list hs
  obtain ⟨xs, e⟩ := rv.ints.allInts.items
  have hn : numsOf (intItems xs).toList = ns := by
    rw [← e]
    exact rv.ints.numsOf
  rw [nums_intItems] at hn
  subst hn
  have hl2 := hl.isList
  rw [e] at hl2
  refine max_def (I.ok.hd hc) hl2 (fun z h' tk hk => ⟨d, H, I.kept hk, rd, q0 ?_⟩) fun v h' tk pos hv hk => ?_
  · have : xs.toList = [] := by
      apply List.eq_nil_of_length_eq_zero
      simpa using z
    rw [this]
    rfl
  · obtain ⟨t, rfl⟩ := intItems_at hv
    obtain ⟨h1, h2⟩ := argBest_gt (numAt xs) (xs.size - 1)
    refine ⟨.int _, H, I.kept hk, ⟨_, rfl⟩, q _ ?_ fun y hy => ?_⟩
    · rw [numAt_eq]
      exact PySem.getD_mem (by rw [List.length_map, Array.length_toList]; omega)
    · obtain ⟨j, hj, rfl⟩ := mem_getD hy
      rw [List.length_map, Array.length_toList] at hj
      rw [← numAt_eq]
      exact h2 j (by omega)

theorem idx_ahead : ∀ (l : List Int) (n : Int) (m : Nat) (h : m < l.length), m < l.idxOf n → l[m] ≠ n
  | x :: r, n, m, h, k => by
    rw [List.idxOf_cons] at k
    by_cases e : (x == n) = true
    · rw [e] at k
      simp at k
    · have e' : (x == n) = false := by simpa using e
      rw [e'] at k
      cases m with
      | zero => exact fun z => e (by show (x == n) = true; exact beq_iff_eq.mpr z)
      | succ m =>
        have k' : m < r.idxOf n := by simpa using k
        exact idx_ahead r n m (by simpa using h) k'
/-- t.index(y), flat items, the first place -/
def rIndexT (K : PySem.W.Frag) : V → List V → Hp → VK → Prop := fun x xs H Q => ∃ (a : Addr) (ns : List Int) (n : Int), x = .ref a ∧ xs = [.int n] ∧ SqT K H a (ns.map V.int) ∧ n ∈ ns ∧ Q (.int (ns.idxOf n : Nat)) H
theorem mt_indexT : MtR X "tuple.index" (rIndexT X.K) := by
  intro pins s σ H x xs v us Q I rx rs h
  obtain ⟨p, ns, n, rfl, rfl, hq, hm, q⟩ := h
  cases rx
  obtain ⟨u, rfl, t, rfl⟩ := vals1 rs
  obtain ⟨its, r, pl, hz⟩ := I.tuple hq
  obtain ⟨⟨cls, dd, dt, sl⟩, ho, hc, c, hd⟩ := pl
  simp only at hc hd
  subst hc
  subst hd
  have len : its.length = ns.length := by rw [← r.length, List.length_map]
  have hj : ns.idxOf n < its.toArray.size := by
    rw [List.size_toArray, len]
    exact List.idxOf_lt_length_iff.mpr hm
  have item : ∀ (m : Nat) (h1 : m < its.toArray.size) (h2 : m < ns.length), ∃ t', its.toArray[m] = Value.int ns[m] t' := fun m h1 h2 => by
    obtain ⟨w', e1, t', e2⟩ := r.get (i := m) (x := .int ns[m]) (by simp [h2])
    refine ⟨t', ?_⟩
    have e3 := (List.getElem?_eq_some_iff.mp e1).2
    rw [← e2, ← e3]
    simp
  have hf : (ns.map V.int).all flatV = true := by
    rw [List.all_map]
    exact List.all_eq_true.mpr fun _ _ => rfl
  refine call_meets PySem.F.slot_tuple_index ⟨_, ho, rfl⟩ PySem.F.entry_tuple_index (PySem.F.args_tuple_index_2 _ _) (TI.tuple_indexAt p its.toArray c dd sl (.int n t) (eqU (.int n)) (ns.idxOf n) hj ?_ ?_)
    ⟨ho, fun y hy => mem_eqAt (x := .int n) ⟨t, rfl⟩ rfl r hf y (by simpa using hy), ⟨.int (ns.idxOf n : Nat), H, I.tok _, ⟨_, rfl⟩, q⟩⟩
  · obtain ⟨t', e⟩ := item _ hj (List.idxOf_lt_length_iff.mpr hm)
    rw [e]
    show eqU (.int n) (Value.int _ t') = true
    rw [List.getElem_idxOf]
    show (n == n) = true
    exact beq_self_eq_true n
  · intro m h1 h2
    have h3 : m < ns.length := by
      rw [← len, ← List.size_toArray]
      exact h1
    obtain ⟨t', e⟩ := item m h1 h3
    rw [e]
    have k := idx_ahead ns n m h3 h2
    show (ns[m] == n) = false
    exact beq_eq_false_iff_ne.mpr k
/-- f(k = v, ..): keywords alone -/
theorem pe_callK0 {CX : CXT} {k : Nat} {f : Addr} {fd : FuncData} {ps ks : List Str} {sp : Sp} {E : XK} {x : Str} {p pos : Pos} {kws : List Keyword} {tk : TA} {g : List Value → List Value → List Value} {gV : List V → List V → List V}
    (F : FnOk X.prog X.w X.K X.mg X.base CX k f fd ps sp) (hr : Room k X.A) (hg : Gl X x) (hm : X.mg x = some (.ref f)) (hk : PySem.W.keepIn X.K (.ref f) = true) (hb : KBinds X.K fd ps ks g gV) (hx : Passes CX X E) (hkw : PK X kws tk)
    (hall : (backToKw pos (keywordEach kws X.env)).all (·.1.isSome) = true := by rfl) (hks : (backToKw pos (keywordEach kws X.env)).filterMap (·.1) = ks := by rfl) (hdb : (x == ("__debug__" : Str)) = false := by decide)
    (hpl : ((backTo pos (starEach [] X.env)).any (·.1) || (backToKw pos (keywordEach kws X.env)).any (·.1.isNone)) = false := by rfl) : PE X (.Call (.Name x p) [] kws pos) (tCallK sp gV E tNil tk) := by
  refine ⟨fun pins s σ H Q I h => wpAny_Call_Name_kw (ld_glob I hg hm ?_ hdb)⟩
  refine PySem.W.callWith_KW0 (h₀ := X.base) I.ok.mod.kin hk hall (thn (hkw.run pos pins s σ H _ I h) fun ws s1 ⟨zs, H1, I1, rz, q1⟩ => ⟨I1.kIn, ?_⟩) hpl
  rw [hks]
  exact run_fnk F hr hb hx I1 .nil rz q1
/-- a method's call within a comprehension: the written part by its own name -/
theorem pe_bmK {K : PySem.W.Frag} {e : Expr} {T : String} {r : V → List V → Hp → VK → Prop} {to : TE} {t : TA} (hK : X.K = K) (h : PE X e (tBM X.K T r to t)) : PE X e (tBM K T r to t) := by
  subst hK
  exact h
/-! ### tuples without a dict, and their methods -/
/-- a tuple at a whose object is known to have no dict -/
def FzT (H : Hp) (a : Addr) (xs : List V) : Prop := ∃ o : Obj, H a = some (.frz o (.tup xs)) ∧ o.dict = none
theorem FzT.sq {K : PySem.W.Frag} {H : Hp} {a : Addr} {xs : List V} (h : FzT H a xs) : SqT K H a xs := by
  obtain ⟨o, h1, _⟩ := h
  exact .inl (.inr ⟨o, h1⟩)
/-- (a, b, ..), its object known -/
def tTupF (t : TA) : TE := fun σ H Q => t σ H fun xs H1 => xs.length ≤ sizeLine ∧ ∀ (p : Addr) (o : Obj), H1 p = none → o.dict = none → Q (.ref p) (upd H1 p (.frz o (.tup xs)))
theorem pe_tupF {es : List Expr} {t : TA} {k : Nat} {pos : Pos} (h : PA X es t) : PE X (.Tuple es k pos) (tTupF t) := by
  refine ⟨fun pins s σ H Q I hq => wpAny_Tuple_spliced (thn (h.run pos pins s σ H _ I hq) fun us s1 ⟨xs, H1, I1, r, z, q⟩ => ⟨by rw [← r.length]; exact z, ?_⟩)⟩
  refine ⟨.ref s1.heap.objs.size, _, I1.laid (t' := s1.toks) (fun b u e => Heap.get?_push_of_some _ e) (Nat.le_refl _) ?_, rfl, q _ { cls := .type "tuple", data := .seq us.toArray } (I1.hok.fresh (Nat.le_refl _)) rfl⟩
  exact ⟨Heap.get?_push_size _ rfl, z, us, r, _, Heap.get?_push_size _ rfl, rfl, _, rfl⟩
/-- tuple(l) of a list, its object known -/
theorem call_tupleF : CallR X (.type "tuple") (fun xs H Q => ∃ p ys, xs = [.ref p] ∧ SqL X.K H p ys ∧ ∀ (l : Addr) (o : Obj), H l = none → o.dict = none → Q (.ref l) (upd H l (.frz o (.tup ys)))) := by
  intro pins s σ H xs us Q I r h
  obtain ⟨p, ys, rfl, hq, q⟩ := h
  obtain ⟨u, rfl, rx⟩ := vals1 r
  cases rx
  obtain ⟨its, rv, pl, hz⟩ := I.list hq
  have len := rv.length
  refine call_tuple_list pl.isList (fun h1 kp => ?_) (by simp only [List.size_toArray] <;> omega)
  have I1 : Inv X pins σ H { s with heap := h1 } := I.kept (t' := s.toks) kp
  refine ⟨.ref h1.objs.size, _, I1.laid (o := .frz { cls := .type "tuple", data := .seq its.toArray } (.tup ys)) (t' := s.toks) (fun b o e => Heap.get?_push_of_some _ e) (Nat.le_refl _) ?_, rfl, q _ _ (I1.hok.fresh (Nat.le_refl _)) rfl⟩
  exact ⟨Heap.get?_push_size _ rfl, hz, its, rv, IsTup.new _ _⟩
/-- t.m(e, ..) of such a tuple -/
def tBMT (r : V → List V → Hp → VK → Prop) (to : TE) (t : TA) : TE := fun σ H Q => to σ H fun x H1 => (∃ a xs, x = .ref a ∧ FzT H1 a xs) ∧ t σ H1 fun vs H2 => r x vs H2 Q
theorem pe_bmT {r : V → List V → Hp → VK → Prop} {name : Str} {id : String} {o e : Expr} {es : List Expr} {to : TE} {t : TA} {apos cpos : Pos} (slot : Slot "tuple" name id) (hty : typeOf (.builtin id) = pure (.type "method_descriptor")) (hm : MtR X id r) (ho : PE X o to) (ha : PA X (e :: es) t)
    (hbase : attributeBase o name X.env (eval o X.env) = eval o X.env := by rfl)
    (hfew : ((backTo cpos (starEach (e :: es) X.env)).all (fun x => !x.1) && (backToKw cpos (keywordEach [] X.env)).all (fun x => x.1.isSome) && decide ((e :: es).length + ([] : List Keyword).length + (if ([] : List Keyword).isEmpty then 0 else 1) < 30)) = true := by rfl)
    (hline : (apos.endLine == cpos.line) = true := by rfl) (hs : starEach (e :: es) X.env = (false, eval e X.env) :: starEach es X.env := by rfl) (hplain : (backTo cpos (starEach es X.env)).any (·.1) = false := by rfl) :
    PE X (.Call (.Attribute o name apos) (e :: es) [] cpos) (tBMT r to t) := by
  refine ⟨fun pins s σ H Q I h => wpAny_Call_method_late hbase hfew hline rfl (thn (ho.run pins s σ H _ I h) fun v s1 ⟨x, H1, I1, r1, ⟨a, xs, ex, ob, e1, e2⟩, q1⟩ => ?_)⟩
  subst ex
  obtain rfl : v = Value.ref a := r1
  obtain ⟨g1, _, its, rv, ob', g2, g3, _⟩ := I1.hok a _ e1
  obtain rfl : ob = ob' := Option.some.inj (g1.symm.trans g2)
  have hA := ha.run cpos pins s1 σ H1 _ I1 q1
  refine ⟨"tuple", id, PySem.F.plainAttrs_tuple, slot, hty, ⟨ob, g1, g3⟩, fun b eb => ?_, ?_⟩
  · cases eb
    exact ⟨ob, g1, e2⟩
  · rw [hs] at hA ⊢
    refine Calls.callWith_builtin ?_ (Calls.evalArgs_plain (thn hA fun us s2 ⟨vs, H2, I2, r2, q2⟩ => hm pins s2 σ H2 (.ref a) vs _ us Q I2 rfl r2 q2))
    show (false || (backTo cpos (starEach es X.env)).any (·.1)) = false
    rw [hplain]
    rfl
/-- a power of a great number -/
def CPowW (i j : Int) : Prop := 0 ≤ j ∧ j ≤ 1000 ∧ i.natAbs < 2 ^ 1000
theorem op_powW : OpR X (binaryOp .Pow) (rI CPowW fun i j => .int (i ^ j.toNat)) := opI fun i j _ _ _ _ _ hc q => pow_int hc.1 (by
  obtain ⟨h1, h2, h3⟩ := hc
  have hb : Builtin.Int.intBits i ≤ 1001 := by
    unfold Builtin.Int.intBits
    split
    · omega
    · by_cases z : i.natAbs = 0
      · rw [z]
        decide
      · have := (Nat.log2_lt z).mpr h3
        omega
  have : (Builtin.Int.intBits i : Int) * j ≤ 1001 * 1000 := Int.mul_le_mul (by omega) h2 h1 (by omega)
  have e : (2 : Int) ^ 27 = 134217728 := by decide
  rw [e]
  omega) q
end
end GL

set_option Elab.async false
set_option linter.all false
set_option maxRecDepth 100000
set_option maxHeartbeats 4000000
/-! the law's own drawing: box, take, of -/
namespace M05
open PySem PySem.Spec PyProof.Rows L2 GL
def topS (i : Nat) : Stmt := PySem.Challenge.pw_sourceback_k05_imports_and_names_that_st.main.body.getD i (.Pass ⟨0, 0, 0, 0⟩)
abbrev s_wall : Stmt := topS 0
abbrev s_literal_kind : Stmt := topS 28
abbrev s_bodies_in : Stmt := topS 31
abbrev s_entries_within : Stmt := topS 32
abbrev s_all_bodies : Stmt := topS 33
abbrev s_outer_bodies : Stmt := topS 34
abbrev s_raise_first : Stmt := topS 35
abbrev s_wrong_imports : Stmt := topS 36
abbrev s_repeated : Stmt := topS 37
abbrev s_own_names : Stmt := topS 38
abbrev s_repeated_imports : Stmt := topS 39
abbrev s_loops_of : Stmt := topS 40
abbrev s_repeated_names : Stmt := topS 41
abbrev s_unknown_names : Stmt := topS 42
abbrev s_used_by : Stmt := topS 43
abbrev s_uses_itself : Stmt := topS 44
abbrev s_rings : Stmt := topS 45
abbrev s_paths_of : Stmt := topS 47
abbrev s_lost_paths : Stmt := topS 48
abbrev s_wrong_overrides : Stmt := topS 49
abbrev s_wrong_where : Stmt := topS 50
abbrev s_wrong_declared : Stmt := topS 51
abbrev s_wrong_fields : Stmt := topS 52
abbrev s_check_names : Stmt := topS 53
abbrev s_sources_of : Stmt := topS 54
abbrev s_starred : Stmt := topS 57
abbrev s_is_level : Stmt := topS 58
abbrev s_owners_along : Stmt := topS 59
abbrev s_level_spots : Stmt := topS 60
abbrev s_found_at : Stmt := topS 62
abbrev s_node_at : Stmt := topS 63
abbrev s_leaves : Stmt := topS 66
abbrev s_loop_name : Stmt := topS 67
abbrev s_read_at : Stmt := topS 68
abbrev s_reads : Stmt := topS 69
abbrev s_has_circle : Stmt := topS 70
abbrev s_check_circles : Stmt := topS 71
abbrev s_is_word : Stmt := topS 86
abbrev s_is_name : Stmt := topS 87
abbrev sPart : Stmt := topS 88
abbrev sRun : Stmt := topS 89
abbrev sTokEnd : Stmt := topS 90
abbrev sGap : Stmt := topS 91
abbrev s_wrong_side : Stmt := topS 93
abbrev s_wrong_value : Stmt := topS 94
abbrev s_wrong_in_overrides : Stmt := topS 95
abbrev s_wrong_in_where : Stmt := topS 96
abbrev s_wrong_in_declared : Stmt := topS 97
abbrev s_wrong_items : Stmt := topS 98
abbrev s_wrong_kinds : Stmt := topS 99
abbrev s_check_kinds : Stmt := topS 100
abbrev s_read_file : Stmt := topS 107
abbrev s_is_file : Stmt := topS 111
abbrev s_are_files : Stmt := topS 112
abbrev s_read_sources : Stmt := topS 113
abbrev sBox : Stmt := topS 116
abbrev sTake : Stmt := topS 117
abbrev sOf : Stmt := topS 118
abbrev s_law_put : Stmt := topS 119
abbrev s_law_error : Stmt := topS 120
abbrev s_law_files : Stmt := topS 121
abbrev s_law_due : Stmt := topS 122
abbrev sLaw : Stmt := topS 123
theorem scB : FnScope ["_law_script", "_law_k", "_law_digits", "_law_own"] ["_law_script", "_law_k"] (defScope sBox) := ⟨rfl, rfl, rfl, by decide +kernel, rfl, by decide +kernel, by decide +kernel⟩
theorem scT : FnScope ["_law_box_here", "_law_many", "_law_digit", "_law_mixed"] ["_law_box_here", "_law_many"] (defScope sTake) := ⟨rfl, rfl, rfl, by decide +kernel, rfl, by decide +kernel, by decide +kernel⟩
theorem scO : FnScope ["_law_box_here", "_law_some"] ["_law_box_here", "_law_some"] (defScope sOf) := ⟨rfl, rfl, rfl, by decide +kernel, rfl, by decide +kernel, by decide +kernel⟩

abbrev m_BadFiles_init : Stmt := inClass (topS 3) 0
abbrev m_SourceError_init : Stmt := inClass (topS 4) 0
abbrev m_NoFile_init : Stmt := inClass (topS 5) 0
abbrev m_Literal_init : Stmt := inClass (topS 7) 0
abbrev m_Path_init : Stmt := inClass (topS 8) 0
abbrev m_Term_init : Stmt := inClass (topS 9) 0
abbrev m_Sum_init : Stmt := inClass (topS 10) 0
abbrev m_Sum_is_copy : Stmt := inClass (topS 10) 1
abbrev m_Sum_paths : Stmt := inClass (topS 10) 2
abbrev m_Choice_init : Stmt := inClass (topS 11) 0
abbrev m_Use_init : Stmt := inClass (topS 12) 0
abbrev m_Loop_init : Stmt := inClass (topS 13) 0
abbrev m_Entry_init : Stmt := inClass (topS 14) 0
abbrev m_Body_init : Stmt := inClass (topS 15) 0
abbrev m_Body_entry_of : Stmt := inClass (topS 15) 1
abbrev m_Template_init : Stmt := inClass (topS 16) 0
abbrev m_ListField_init : Stmt := inClass (topS 17) 0
abbrev m_ListSource_init : Stmt := inClass (topS 18) 0
abbrev m_ListSource_kind_of : Stmt := inClass (topS 18) 1
abbrev m_FileSource_init : Stmt := inClass (topS 19) 0
abbrev m_Field_init : Stmt := inClass (topS 27) 0
abbrev m_Sources_init : Stmt := inClass (topS 29) 0
abbrev m_Sources_file_named : Stmt := inClass (topS 29) 1
abbrev m_Sources_known_files : Stmt := inClass (topS 29) 2
abbrev m_Sources_template_of : Stmt := inClass (topS 29) 3
abbrev m_Sources_list_of : Stmt := inClass (topS 29) 4
abbrev m_Sources_own_template : Stmt := inClass (topS 29) 5
abbrev m_Sources_owner_body : Stmt := inClass (topS 29) 6
abbrev m_Sources_template_behind : Stmt := inClass (topS 29) 7
abbrev m_Sources_base_of : Stmt := inClass (topS 29) 8
abbrev m_Sources_fields_of : Stmt := inClass (topS 29) 9
abbrev m_Sources_field_for : Stmt := inClass (topS 29) 10
abbrev m_Sources_field_at : Stmt := inClass (topS 29) 11
abbrev m_Sources_home_of : Stmt := inClass (topS 29) 12
abbrev m_Sources_kind_of : Stmt := inClass (topS 29) 13
abbrev m_Sources_choice_kind : Stmt := inClass (topS 29) 14
abbrev m_Sources_owners : Stmt := inClass (topS 29) 15
abbrev m_Sources_settle : Stmt := inClass (topS 29) 16
abbrev m_Home_init : Stmt := inClass (topS 46) 0
abbrev m_Home_within : Stmt := inClass (topS 46) 1
abbrev m_Home_is_item : Stmt := inClass (topS 46) 2
abbrev m_Home_leads : Stmt := inClass (topS 46) 3
abbrev m_Home_kind_at : Stmt := inClass (topS 46) 4
abbrev m_Found_init : Stmt := inClass (topS 61) 0
abbrev m_Found_go_on : Stmt := inClass (topS 61) 1
abbrev m_Reader_init : Stmt := inClass (topS 106) 0
abbrev m_Reader_go_on : Stmt := inClass (topS 106) 1
abbrev m_Reader_take : Stmt := inClass (topS 106) 2
abbrev m_Reader_accept : Stmt := inClass (topS 106) 3
abbrev m_Reader_take_name : Stmt := inClass (topS 106) 4
abbrev m_Reader_is_number : Stmt := inClass (topS 106) 5
abbrev m_Reader_is_string : Stmt := inClass (topS 106) 6
abbrev m_Reader_take_number : Stmt := inClass (topS 106) 7
abbrev m_Reader_take_string : Stmt := inClass (topS 106) 8
abbrev m_Reader_read_literal : Stmt := inClass (topS 106) 9
abbrev m_Reader_read_path : Stmt := inClass (topS 106) 10
abbrev m_Reader_read_term : Stmt := inClass (topS 106) 11
abbrev m_Reader_read_simple : Stmt := inClass (topS 106) 12
abbrev m_Reader_read_choice : Stmt := inClass (topS 106) 13
abbrev m_Reader_read_use : Stmt := inClass (topS 106) 14
abbrev m_Reader_read_record : Stmt := inClass (topS 106) 15
abbrev m_Reader_read_loop : Stmt := inClass (topS 106) 16
abbrev m_Reader_read_value : Stmt := inClass (topS 106) 17
abbrev m_Reader_read_entry : Stmt := inClass (topS 106) 18
abbrev m_Reader_read_body : Stmt := inClass (topS 106) 19
abbrev m_Reader_read_item : Stmt := inClass (topS 106) 20
abbrev m_Reader_read_list_field : Stmt := inClass (topS 106) 21
abbrev m_Reader_read_list : Stmt := inClass (topS 106) 22
abbrev m_Reader_read_template : Stmt := inClass (topS 106) 23
abbrev m_Reader_read_all : Stmt := inClass (topS 106) 24
abbrev m_Project_init : Stmt := inClass (topS 114) 0
abbrev m_Project_with_serials : Stmt := inClass (topS 114) 1
abbrev m_Project_files : Stmt := inClass (topS 114) 2
abbrev m_Project_names : Stmt := inClass (topS 114) 3
abbrev m_Project_documents : Stmt := inClass (topS 114) 4
abbrev m_Project_getitem : Stmt := inClass (topS 114) 5
abbrev m_Project_contains : Stmt := inClass (topS 114) 6
abbrev m_Project_len : Stmt := inClass (topS 114) 7
abbrev m_Project_iter : Stmt := inClass (topS 114) 8
abbrev m_Project_eq : Stmt := inClass (topS 114) 9
abbrev m_Project_list_sizes : Stmt := inClass (topS 114) 10
abbrev m_Project_check_list : Stmt := inClass (topS 114) 11
abbrev m_Project_serials : Stmt := inClass (topS 114) 12
abbrev m_Project_next_serial : Stmt := inClass (topS 114) 13
abbrev m_Project_item : Stmt := inClass (topS 114) 14
abbrev m_Project_item_literal : Stmt := inClass (topS 114) 15
abbrev m_Project_files_with : Stmt := inClass (topS 114) 16
abbrev m_Project_written : Stmt := inClass (topS 114) 17
/-- the words that are no names -/
def kw : List Str := ["\x69mport", "template", "list", "document", "let", "new", "for", "in", "where", "give", "if", "then", "else"]
def kwV : List V := kw.map V.str
structure Bl (K : PySem.W.Frag) (mg : Str → Option Value) : Prop where
  len : mg "len" = none
  abs : mg "abs" = none
  int : mg "int" = none
  max : mg "max" = none
  min : mg "min" = none
  range : mg "range" = none
  list : mg "list" = none
  all : mg "all" = none
  any : mg "any" = none
  isinstance : mg "isinstance" = none
  str : mg "str" = none
  tuple : mg "tuple" = none
  sorted : mg "sorted" = none
  ord : mg "ord" = none
  dict : mg "dict" = none
  set : mg "set" = none
  ValueError : mg "ValueError" = none
  cletters : ∃ t, mg "LETTERS" = some (.str "abcdefghijklmnopqrstuvwxyz" t)
  cdigits : ∃ t, mg "DIGITS" = some (.str "0123456789" t)
  csigns : ∃ t, mg "SIGNS" = some (.str "{}[]():.,=+-*" t)
  cquote : ∃ t, mg "QUOTE" = some (.str "\"" t)
  cbackslash : ∃ t, mg "BACKSLASH" = some (.str "\\" t)
  cremark : ∃ t, mg "REMARK" = some (.str "#" t)
  cfeed : ∃ t, mg "FEED" = some (.str "\n" t)
  cend : ∃ t, mg "END" = some (.str "" t)
  cplus : ∃ t, mg "PLUS" = some (.str "+" t)
  cminus : ∃ t, mg "MINUS" = some (.str "-" t)
  crecord : ∃ t, mg "RECORD" = some (.str "record" t)
  crows : ∃ t, mg "ROWS" = some (.str "rows" t)
  cnumber : ∃ t, mg "NUMBER" = some (.str "number" t)
  ctext : ∃ t, mg "TEXT" = some (.str "text" t)
  cplain : ∃ t, mg "PLAIN" = some (.str "plain" t)
  cdocument : ∃ t, mg "DOCUMENT" = some (.str "" t)
  cmostinstring : ∃ t, mg "MOST_IN_STRING" = some (.int 60 t)
  cleastcode : ∃ t, mg "LEAST_CODE" = some (.int 32 t)
  cmostcode : ∃ t, mg "MOST_CODE" = some (.int 126 t)
  cmostletters : ∃ t, mg "MOST_LETTERS" = some (.int 12 t)
  cmostfiles : ∃ t, mg "MOST_FILES" = some (.int 6 t)
  cpair : ∃ t, mg "PAIR" = some (.int 2 t)
  cgaps : ∃ a, mg "GAPS" = some (.ref a) ∧ ∀ H, SqT K H a [.str " ", .str "\n"]
  ckinds : ∃ a, mg "KINDS" = some (.ref a) ∧ ∀ H, SqT K H a [.str "number", .str "text"]
  ckeywords : ∃ a, mg "KEYWORDS" = some (.ref a) ∧ ∀ H, SqT K H a kwV
/-- a box at b, of which at most n mixed numbers were drawn -/
def Box (H : Hp) (b : Addr) (n : Nat) : Prop := ∃ o m c : Int, H b = some (.lst [.int o, .int m, .int c]) ∧ 0 ≤ o ∧ 0 ≤ m ∧ m < 2 ^ 62 ∧ 0 ≤ c ∧ c ≤ n
theorem Box.mono {H : Hp} {b : Addr} {n k : Nat} (h : Box H b n) (e : n ≤ k) : Box H b k := by
  obtain ⟨o, m, c, h1, h2, h3, h4, h5, h6⟩ := h
  exact ⟨o, m, c, h1, h2, h3, h4, h5, by omega⟩

/-- an expression in two ways, its value by what is known of it -/
theorem if_any {t : TT} {a b : TE} {σ : L2.St} {H : Hp} {Q : VK} {R : V → Prop} (h : ∀ Q' : VK, (∀ v, R v → Q' v H) → tIf t a b σ H Q') (q : ∀ v, R v → Q v H) : tIf t a b σ H Q := h Q q
section
variable {P : Program} {w : World} {K : PySem.W.Frag} {mg : Str → Option Value} {base : Heap}

def spTake : Sp := fun vs H Q _ => ∃ (b : Addr) (many : Int) (n : Nat), vs = [.ref b, .int many] ∧ Box H b n ∧ n < 1000000 ∧ 0 < many ∧ many < 1000000 ∧
  ∀ (r : Int) (u : HO), 0 ≤ r → r < many → Box (upd H b u) b (n + 1) → Q (.int r) (upd H b u)
theorem ok_take {f : Addr} {fd : FuncData} {k : Nat} (F : Fun K "_law_take" "_law_take" sTake f fd) : FnOk P w K mg base CX0 (k + 1) f fd ["_law_box_here", "_law_many"] spTake := by
  refine F.ok scT (fun vs H Q E h => ?_) (fun cdv A outer s H vs Q E hr h => ?_)
  · obtain ⟨b, many, n, rfl, _⟩ := h
    rfl
  · obtain ⟨b, many, n, rfl, ⟨o, m, c, hb, ho, hm, hm2, hc, hcn⟩, hn, h0, h1, q⟩ := h
    refine ⟨_, (pss_cons (ps_if (pt_cmpR op_gt (pe_ix ix_list (pv 0) pe_int (fun _ _ => rfl)) pe_int (nomark _))
        (pss_cons (ps_set (i := 2) scT.nd rfl (Or.inl rfl) (pe_op op_mod (pe_ix ix_list (pv 0) pe_int (fun _ _ => rfl)) (pv 1)))
        (pss_cons (ps_asg (pe_op op_fdivW (pe_ix ix_list (pv 0) pe_int (fun _ _ => rfl)) (pv 1)) (pg_sub (pv 0) pe_int set_list))
        (pss_one (ps_ret (pv 2)))))
        pss_nil)
      (pss_cons (ps_asg (pe_op op_add (pe_ix ix_list (pv 0) pe_int (fun _ _ => rfl)) pe_int) (pg_sub (pv 0) pe_int set_list))
      (pss_cons (ps_set (i := 3) scT.nd rfl (Or.inl rfl) (pe_op op_mod (pe_op op_mul (pe_op op_add (pe_op op_add (pe_ix ix_list (pv 0) pe_int (fun _ _ => rfl)) (pe_op op_mul (pe_op op_mul pe_int (pe_ix ix_list (pv 0) pe_int (fun _ _ => rfl))) (pe_ix ix_list (pv 0) pe_int (fun _ _ => rfl)))) pe_int) pe_int) pe_int))
      (pss_cons (ps_set (i := 3) scT.nd rfl (Or.inl rfl) (pe_op op_mod (pe_op op_mul (pv 3) (pe_op op_add (pe_op op_mod (pv 3) pe_int) (pe_op op_mul pe_int (pe_ix ix_list (pv 0) pe_int (fun _ _ => rfl))))) pe_int))
      (pss_one (ps_ret (pe_op op_mod (pe_op op_add (pe_op op_fdiv (pv 3) pe_int) (pe_op op_fdiv (pv 3) pe_int)) (pv 1)))))))), ?_⟩
    have hL : SqL K H b [.int o, .int m, .int c] := SqL.of hb
    refine ⟨.ref b, rfl, b, _, 0, .int o, rfl, rfl, hL, rfl, o, 0, rfl, rfl, _, rfl, ite2 (fun e => ?_) (fun e => ?_)⟩
    · have e : 0 < o := of_decide_eq_true e
      refine ⟨.ref b, rfl, b, _, 0, .int o, rfl, rfl, hL, rfl, .int many, rfl, o, many, rfl, rfl, h0, ?_⟩
      refine ⟨.ref b, rfl, b, _, 0, .int o, rfl, rfl, hL, rfl, .int many, rfl, o, many, rfl, rfl, wide_div (b := 20) h0 (by omega) (by decide) (by decide), ?_⟩
      refine ⟨.ref b, rfl, b, _, 0, 0, rfl, rfl, hb, rfl, ?_⟩
      refine ⟨.int (o % many), rfl, ?_⟩
      refine q (o % many) _ (Int.emod_nonneg _ (by omega)) (Int.emod_lt_of_pos _ h0) ⟨o / many, m, c, upd_same, Int.ediv_nonneg ho (by omega), hm, hm2, hc, by omega⟩
    · refine ⟨.ref b, rfl, b, _, 2, .int c, rfl, rfl, hL, rfl, c, 1, rfl, rfl, ?_⟩
      refine ⟨.ref b, rfl, b, _, 2, 2, rfl, rfl, hb, rfl, ?_⟩
      have hb2 : (upd H b (.lst [.int o, .int m, .int (c + 1)])) b = some (.lst [.int o, .int m, .int (c + 1)]) := upd_same
      have hL2 : SqL K (upd H b (.lst [.int o, .int m, .int (c + 1)])) b [.int o, .int m, .int (c + 1)] := SqL.of hb2
      refine ⟨.ref b, rfl, b, _, 1, .int m, rfl, rfl, hL2, rfl, .ref b, rfl, b, _, 2, .int (c + 1), rfl, rfl, hL2, rfl, 65551, c + 1, rfl, rfl, .inl ⟨by decide, by decide⟩, .ref b, rfl, b, _, 2, .int (c + 1), rfl, rfl, hL2, rfl,
        65551 * (c + 1), c + 1, rfl, rfl, .inr ⟨by omega, by omega⟩, m, 65551 * (c + 1) * (c + 1), rfl, rfl, _, 29, rfl, rfl, _, 48281, rfl, rfl, .inr ⟨by decide, by decide⟩, _, 2305843009213693921, rfl, rfl, by show (0 : Int) < _; decide, ?_⟩
      dsimp only
      generalize hx : (m + 65551 * (c + 1) * (c + 1) + 29) * 48281 % 2305843009213693921 = x
      have x0 : 0 ≤ x := by rw [← hx]; exact Int.emod_nonneg _ (by decide)
      have x1 : x < 2305843009213693921 := by rw [← hx]; exact Int.emod_lt_of_pos _ (by decide)
      refine ⟨.int x, rfl, .int x, rfl, x, 1000039, rfl, rfl, by show (0 : Int) < _; decide, .ref b, rfl, b, _, 2, .int (c + 1), rfl, rfl, hL2, rfl, 99989, c + 1, rfl, rfl, .inl ⟨by decide, by decide⟩, _, _, rfl, rfl, x, _, rfl, rfl, .inl ⟨by omega, by omega⟩,
        _, 2305843009213693907, rfl, rfl, by show (0 : Int) < _; decide, ?_⟩
      dsimp only
      generalize hy : x * (x % 1000039 + 99989 * (c + 1)) % 2305843009213693907 = y
      have y0 : 0 ≤ y := by rw [← hy]; exact Int.emod_nonneg _ (by decide)
      refine ⟨.int y, rfl, y, 109, rfl, rfl, ⟨by decide, by decide⟩, .int y, rfl, y, 1000081, rfl, rfl, ⟨by decide, by decide⟩, _, _, rfl, rfl, .int many, rfl, _, many, rfl, rfl, h0, ?_⟩
      exact q _ _ (Int.emod_nonneg _ (by omega)) (Int.emod_lt_of_pos _ h0) ⟨o, m, c + 1, hb2, ho, hm, hm2, by omega, by omega⟩

def spBox (K : PySem.W.Frag) : Sp := fun vs H Q _ => ∃ (a : Addr) (ns : List Int) (k : Nat), vs = [.ref a, .int k] ∧ SqL K H a (ns.map V.int) ∧ k < 1000 ∧
  ∀ (p : Addr) (u : HO), H p = none → Box (upd H p u) p 0 → Q (.ref p) (upd H p u)
theorem ok_box {f : Addr} {fd : FuncData} {k : Nat} (F : Fun K "_law_box" "_law_box" sBox f fd) (T : Bl K mg) : FnOk P w K mg base CX0 (k + 1) f fd ["_law_script", "_law_k"] (spBox K) := by
  refine F.ok scB (fun vs H Q E h => ?_) (fun cdv A outer s H vs Q E hr h => ?_)
  · obtain ⟨a, ns, k, rfl, _⟩ := h
    rfl
  · obtain ⟨a, ns, k, rfl, hS, hk, q⟩ := h
    refine ⟨_, (pss_cons (ps_set (i := 2) scB.nd rfl (Or.inl rfl) (pe_ifExp (pt_cmpR op_lt (pv 1) (pe_callB call_len_seq (by rfl) T.len (by decide +kernel) (pa_cons (pv 0) pa_nil)) (nomark _)) (pe_ix ix_list (pv 0) (pv 1) (fun _ _ => rfl)) (pe_op op_add (pe_op op_mul pe_int (pv 1)) pe_int)))
      (pss_cons (ps_set (i := 3) scB.nd rfl (Or.inl rfl) (pe_op op_mul (pe_op op_mod (pe_callB call_abs (by rfl) T.abs (by decide +kernel) (pa_cons (pv 2) pa_nil)) (pe_op op_powW (pe_op op_pow pe_int pe_int) pe_int)) (pe_callTy call_int1 (by rfl) T.int (by decide +kernel) (pa_cons (pe_cmpR op_ge (pe_callB call_abs (by rfl) T.abs (by decide +kernel) (pa_cons (pv 2) pa_nil)) (pe_op op_pow pe_int pe_int) (nomark _)) pa_nil))))
      (pss_one (ps_ret (pe_lst (pa_cons (pv 3) (pa_cons (pe_op op_mod (pe_op op_add (pe_op op_add (pe_op op_mul (pe_op op_mod (pv 2) pe_int) pe_int) (pe_op op_mul (pe_op op_mul pe_int (pv 1)) (pv 1))) pe_int) pe_int) (pa_cons pe_int pa_nil)))))))), ?_⟩
    refine if_any (R := fun v => ∃ d : Int, v = .int d) (fun Q' q' => ?_) (fun v hv => ?_)
    · refine ⟨.int k, rfl, .ref a, rfl, a, _, rfl, .inl hS, (k : Int), _, rfl, rfl, _, rfl, ite2 (fun e => ?_) (fun e => ?_)⟩
      · have e : (k : Int) < ((ns.map V.int).length : Int) := of_decide_eq_true e
        have hl : k < ns.length := by
          rw [List.length_map] at e
          omega
        exact ⟨.ref a, rfl, .int k, rfl, a, _, (k : Int), .int ns[k], rfl, rfl, hS, atI_nat (by simp [hl]), q' _ ⟨_, rfl⟩⟩
      · exact ⟨.int k, rfl, 37, (k : Int), rfl, rfl, .inl ⟨by decide, by decide⟩, 37 * (k : Int), 5, rfl, rfl, q' _ ⟨_, rfl⟩⟩
    · obtain ⟨d, rfl⟩ := hv
      refine ⟨.int d, rfl, d, rfl, 10, 60, rfl, rfl, ⟨by decide, by decide, by decide⟩, 10 ^ 60, 5, rfl, rfl, ⟨by decide, by decide, by decide +kernel⟩, _, (10 ^ 60) ^ 5, rfl, rfl, by show (0 : Int) < _; decide +kernel, .int d, rfl, d, rfl, 10, 18, rfl, rfl, ⟨by decide, by decide, by decide⟩, _, 10 ^ 18, rfl, rfl, .inr ⟨_, rfl, ?_⟩⟩
      generalize (if d < 0 then -d else d) = e
      have hb : ∀ k : Bool, CMul (e % (10 ^ 60) ^ 5) (if k = true then 1 else 0) := fun k => .inr (by cases k <;> exact ⟨by decide, by decide⟩)
      refine ⟨_, _, rfl, rfl, hb _, ?_⟩
      dsimp only
      have ho : ∀ k : Bool, 0 ≤ e % (10 ^ 60) ^ 5 * (if k = true then 1 else 0) := fun k => Int.mul_nonneg (Int.emod_nonneg _ (by decide +kernel)) (by cases k <;> decide)
      have h2 := ho (decide (10 ^ 18 ≤ e))
      generalize (e % (10 ^ 60) ^ 5 * (if decide (10 ^ 18 ≤ e) = true then 1 else 0)) = o at h2
      refine ⟨.int o, rfl, .int d, rfl, d, 2305843009213693951, rfl, rfl, by show (0 : Int) < _; decide, _, 70079, rfl, rfl, .inr ⟨by decide, by decide⟩, .int k, rfl, 4799, (k : Int), rfl, rfl, .inl ⟨by decide, by decide⟩, .int k, rfl, _, (k : Int), rfl, rfl, .inr ⟨by omega, by omega⟩,
        _, _, rfl, rfl, _, 71, rfl, rfl, _, 2305843009213693921, rfl, rfl, by show (0 : Int) < _; decide, by show 3 ≤ sizeLine; decide, fun p hp => ?_⟩
      dsimp only
      exact q p _ hp ⟨o, _, 0, upd_same, h2, Int.emod_nonneg _ (by decide), Int.lt_trans (Int.emod_lt_of_pos _ (by decide)) (by decide), by decide, by decide⟩

def spOf : Sp := fun vs H Q _ => ∃ (b l : Addr) (xs : List V) (n : Nat), vs = [.ref b, .ref l] ∧ H l = some (.lst xs) ∧ l ≠ b ∧ Box H b n ∧ n < 1000000 ∧ 0 < xs.length ∧ xs.length < 1000000 ∧
  ∀ (x : V) (u : HO), x ∈ xs → Box (upd H b u) b (n + 1) → Q x (upd H b u)
theorem ok_of {f : Addr} {fd : FuncData} {k : Nat} (F : Fun K "_law_of" "_law_of" sOf f fd) (T : Bl K mg) (d_take : DnG P w K mg base "_law_take" 1 ["_law_box_here", "_law_many"] spTake) : FnG P w K mg base CX0 (k + 2) f fd ["_law_box_here", "_law_some"] spOf := by
  refine okG0 F scO (fun vs H Q E h => ?_) (fun cdv A outer s H vs Q E hr hG h => ?_)
  · obtain ⟨b, l, xs, n, rfl, _⟩ := h
    rfl
  · obtain ⟨b, l, xs, n, rfl, hl, ne, hB, hn, h0, h1, q⟩ := h
    refine ⟨_, (pss_one (ps_ret (pe_ix ix_list (pv 1) (pe_callG d_take.ok (hr.mono (Nat.le_add_left 1 k)) hG (by rfl) d_take.g d_take.kp d_take.b .nil pass0 (pa_cons (pv 0) (pa_cons (pe_callB call_len_seq (by rfl) T.len (by decide +kernel) (pa_cons (pv 1) pa_nil)) pa_nil))) (fun _ _ => rfl)))), ?_⟩
    refine ⟨.ref l, rfl, .ref b, rfl, .ref l, rfl, l, xs, rfl, .inl (SqL.of hl), b, xs.length, n, rfl, hB, hn, by omega, by omega, fun r u r0 r1 hB2 => ?_⟩
    obtain ⟨j, rfl⟩ : ∃ j : Nat, r = j := ⟨r.toNat, by omega⟩
    have hj : j < xs.length := by omega
    exact ⟨l, xs, j, xs[j], rfl, rfl, SqL.of (by rw [upd_ne ne]; exact hl), atI_nat (List.getElem?_eq_getElem hj), q _ u (List.getElem_mem hj) hB2⟩
end
/-- all but b is as it was -/
def Off (b : Addr) (H H' : Hp) : Prop := ∀ a o, a ≠ b → H a = some o → H' a = some o
theorem Off.refl (b : Addr) (H : Hp) : Off b H H := fun _ _ _ h => h
theorem Off.trans {b : Addr} {H H1 H2 : Hp} (x : Off b H H1) (y : Off b H1 H2) : Off b H H2 := fun a o n h => y a o n (x a o n h)
theorem Off.box {b : Addr} {H : Hp} {u : HO} : Off b H (upd H b u) := fun a o n h => by
  rw [upd_ne n]
  exact h
theorem Off.new {b p : Addr} {H : Hp} {u : HO} (hp : H p = none) : Off b H (upd H p u) := fun a o _ h => by
  rw [upd_ne (ne_of_none h hp)]
  exact h
/-- what H did not know may change -/
theorem Off.put {b p : Addr} {H H' : Hp} {u : HO} (x : Off b H H') (hp : H p = none) : Off b H (upd H' p u) := fun a o n h => by
  rw [upd_ne (ne_of_none h hp)]
  exact x a o n h
theorem Box.new {H : Hp} {b p : Addr} {n : Nat} {u : HO} (h : Box H b n) (ne : p ≠ b) : Box (upd H p u) b n := by
  obtain ⟨o, m, c, h1, h2⟩ := h
  exact ⟨o, m, c, by rw [upd_ne ne.symm]; exact h1, h2⟩
theorem Box.ne {H : Hp} {b p : Addr} {n : Nat} (h : Box H b n) (hp : H p = none) : p ≠ b := fun e => by
  obtain ⟨o, m, c, h1, h2⟩ := h
  rw [← e, hp] at h1
  cases h1
/-! ### lists of ints as data -/
abbrev iVs (ns : List Int) : List V := ns.map V.int
theorem erase_map : ∀ (ns : List Int) (j : Nat), (iVs ns).eraseIdx j = iVs (ns.eraseIdx j)
  | [], _ => rfl
  | _ :: _, 0 => rfl
  | n :: r, j + 1 => by
    show V.int n :: (iVs r).eraseIdx j = V.int n :: iVs (r.eraseIdx j)
    rw [erase_map r j]
theorem erase_perm : ∀ (ns : List Int) (j : Nat) (h : j < ns.length), (ns[j] :: ns.eraseIdx j).Perm ns
  | n :: r, 0, _ => List.Perm.refl _
  | n :: r, j + 1, h => by
    have hj : j < r.length := by simpa using h
    have ih := erase_perm r j hj
    exact (List.Perm.swap n r[j] _).trans (ih.cons n)
theorem dpI (K : PySem.W.Frag) (H : Hp) : ∀ ns : List Int, DpAll K H (iVs ns) (ns.map PyData.int)
  | [] => .nil
  | n :: r => .cons (.int n) (dpI K H r)
theorem layI : ∀ ns : List Int, PyData.canLayAll0 (ns.map PyData.int) = true
  | [] => rfl
  | n :: r => by
    rw [List.map_cons, PyData.canLayAll0, layI r]
    rfl
theorem depI : ∀ ns : List Int, PyData.depthAll (ns.map PyData.int) ≤ 1
  | [] => by decide
  | n :: r => by
    have := depI r
    rw [List.map_cons, PyData.depthAll]
    simp [PyData.depth]
    omega
theorem shI (ns : List Int) : SeqAt.shaped (.list (ns.map PyData.int)) = true := by
  unfold SeqAt.shaped
  have h1 : PyData.canLay0 (.list (ns.map PyData.int)) = true := layI ns
  have h2 := depI ns
  rw [h1]
  simp [PyData.depth]
  omega
theorem eqI : ∀ ns ms : List Int, PyData.eqvAll (ns.map PyData.int) (ms.map PyData.int) = decide (ns = ms)
  | [], [] => rfl
  | [], _ :: _ => rfl
  | _ :: _, [] => rfl
  | n :: r, m :: t => by
    rw [List.map_cons, List.map_cons, PyData.eqvAll, eqI r t]
    by_cases e : n = m
    · subst e
      simp [PyData.eqv]
    · have : ¬ (n :: r = m :: t) := fun z => e (List.cons.inj z).1
      simp [PyData.eqv, e]
theorem eqL (ns ms : List Int) : PyData.eqv (.list (ns.map PyData.int)) (.list (ms.map PyData.int)) = decide (ns = ms) := eqI ns ms

end M05

set_option Elab.async false
set_option linter.all false
set_option maxRecDepth 100000
set_option maxHeartbeats 1000000
/-! texts as lists of codes; tokens, gaps, whole texts -/
namespace M05
open PySem PySem.Spec PyProof.Rows L2 GL
abbrev Cd := List Nat
abbrev cs (z : Str) : Cd := z.cps.toList
def S (l : Cd) : Str := ⟨l.toArray⟩
theorem cs_S (l : Cd) : cs (S l) = l := by simp [cs, S]
theorem str_ext {a b : Str} (h : cs a = cs b) : a = b := by
  obtain ⟨⟨x⟩⟩ := a
  obtain ⟨⟨y⟩⟩ := b
  have h : x = y := h
  rw [h]
theorem S_cs (z : Str) : S (cs z) = z := str_ext (cs_S _)
theorem S_inj {a b : Cd} (h : S a = S b) : a = b := by rw [← cs_S a, h, cs_S]
theorem len_cs (z : Str) : z.length = (cs z).length := by simp [cs, Str.length]
theorem len_S (l : Cd) : (S l).length = l.length := by rw [len_cs, cs_S]
theorem cs_app (a b : Str) : cs (a ++ b) = cs a ++ cs b := by
  show (a.cps ++ b.cps).toList = _
  simp [cs]
theorem S_app (a b : Cd) : S a ++ S b = S (a ++ b) := str_ext (by rw [cs_app, cs_S, cs_S, cs_S])
def lets : Cd := cs "abcdefghijklmnopqrstuvwxyz"
def digs : Cd := cs "0123456789"
def sgns : Cd := cs "{}[]():.,=+-*"
theorem lets_eq : lets = List.range' 97 26 := by decide +kernel
theorem digs_eq : digs = List.range' 48 10 := by decide +kernel
theorem sgns_eq : sgns = [123, 125, 91, 93, 40, 41, 58, 46, 44, 61, 43, 45, 42] := by decide +kernel
theorem mem_lets {c : Nat} : c ∈ lets ↔ 97 ≤ c ∧ c ≤ 122 := by
  rw [lets_eq, List.mem_range'_1]
  omega
theorem mem_digs {c : Nat} : c ∈ digs ↔ 48 ≤ c ∧ c ≤ 57 := by
  rw [digs_eq, List.mem_range'_1]
  omega
theorem mem_sgns {c : Nat} : c ∈ sgns ↔ c = 123 ∨ c = 125 ∨ c = 91 ∨ c = 93 ∨ c = 40 ∨ c = 41 ∨ c = 58 ∨ c = 46 ∨ c = 44 ∨ c = 61 ∨ c = 43 ∨ c = 45 ∨ c = 42 := by
  rw [sgns_eq]
  simp
/-- what may stand between quotes -/
def Inn (b : Cd) : Prop := b.length ≤ 60 ∧ ∀ c ∈ b, 32 ≤ c ∧ c ≤ 126 ∧ c ≠ 34 ∧ c ≠ 92
inductive Tok : Cd → Prop
  | word {t : Cd} : t ≠ [] → (∀ c ∈ t, c ∈ lets) → Tok t
  | num {t : Cd} : t ≠ [] → (∀ c ∈ t, c ∈ digs) → (t.head? = some 48 → t.length = 1) → Tok t
  | str {b : Cd} : Inn b → Tok (34 :: (b ++ [34]))
  | sign {c : Nat} : c ∈ sgns → Tok [c]
/-- two tokens stay two -/
def Parts (t r : Cd) : Prop := ∀ c d, r.head? = some c → t.getLast? = some d → (d ∈ lets → c ∉ lets) ∧ (d ∈ digs → c ∉ digs)
/-- the gap at the head of r has k signs -/
inductive Gp : Cd → Nat → Prop
  | stop {r : Cd} : (∀ c, r.head? = some c → c ≠ 32 ∧ c ≠ 10 ∧ c ≠ 35) → Gp r 0
  | gap {c : Nat} {r : Cd} {k : Nat} : c = 32 ∨ c = 10 → Gp r k → Gp (c :: r) (k + 1)
  | rem {b r : Cd} {k : Nat} : (∀ c ∈ b, c ≠ 10) → (r = [] ∨ r.head? = some 10) → Gp r k → Gp (35 :: (b ++ r)) (1 + b.length + k)
/-- a text from an index on, its tokens -/
inductive Lx : Nat → Cd → List (Nat × Cd) → Prop
  | nil {n : Nat} : Lx n [] []
  | gap {n c : Nat} {r : Cd} {ps : List (Nat × Cd)} : c = 32 ∨ c = 10 → Lx (n + 1) r ps → Lx n (c :: r) ps
  | rem {n : Nat} {b r : Cd} {ps : List (Nat × Cd)} : (∀ c ∈ b, c ≠ 10) → (r = [] ∨ r.head? = some 10) → Lx (n + 1 + b.length) r ps → Lx n (35 :: (b ++ r)) ps
  | tok {n : Nat} {t r : Cd} {ps : List (Nat × Cd)} : Tok t → Parts t r → Lx (n + t.length) r ps → Lx n (t ++ r) ((n, t) :: ps)
/-- T's tokens from the index n on, at which one begins (or T ends) -/
inductive Ts (T : Cd) : Nat → List (Nat × Cd) → Prop
  | done : Ts T T.length []
  | tok {n k : Nat} {t r : Cd} {ps : List (Nat × Cd)} : T.drop n = t ++ r → Tok t → Parts t r → Gp r k → Ts T (n + t.length + k) ps → Ts T n ((n, t) :: ps)
theorem Tok.ne {t : Cd} (h : Tok t) : t ≠ [] := by
  cases h with
  | word h => exact h
  | num h => exact h
  | str h => simp
  | sign h => simp
theorem Tok.head {t : Cd} (h : Tok t) : ∃ c r, t = c :: r ∧ c ≠ 32 ∧ c ≠ 10 ∧ c ≠ 35 := by
  cases h with
  | word h1 h2 =>
    cases t with
    | nil => exact absurd rfl h1
    | cons c r =>
      have := mem_lets.mp (h2 c List.mem_cons_self)
      exact ⟨c, r, rfl, by omega, by omega, by omega⟩
  | num h1 h2 =>
    cases t with
    | nil => exact absurd rfl h1
    | cons c r =>
      have := mem_digs.mp (h2 c List.mem_cons_self)
      exact ⟨c, r, rfl, by omega, by omega, by omega⟩
  | str h => exact ⟨34, _, rfl, by decide, by decide, by decide⟩
  | @sign c h =>
    have := mem_sgns.mp h
    exact ⟨c, [], rfl, by omega, by omega, by omega⟩
theorem drop_app {T a b : Cd} {n : Nat} (h : T.drop n = a ++ b) : T.drop (n + a.length) = b := by
  rw [← List.drop_drop, h, List.drop_left]
theorem lx_ts {T : Cd} : ∀ {n : Nat} {r : Cd} {ps : List (Nat × Cd)}, Lx n r ps → n ≤ T.length → T.drop n = r → ∃ k, Gp r k ∧ Ts T (n + k) ps := by
  intro n r ps h
  induction h with
  | nil =>
    intro hn e
    have : T.length ≤ _ := List.drop_eq_nil_iff.mp e
    refine ⟨0, .stop (fun c hc => by simp at hc), ?_⟩
    rename_i n
    have e2 : n = T.length := by omega
    rw [e2]
    exact .done
  | @gap n c r ps hc h ih =>
    intro hn e
    have e2 : T.drop (n + 1) = r := by
      have := drop_app (a := [c]) (b := r) (T := T) (n := n) e
      exact this
    have hn2 : n + 1 ≤ T.length := by
      have := congrArg List.length e
      simp at this
      omega
    obtain ⟨k, g, t⟩ := ih hn2 e2
    exact ⟨k + 1, .gap hc g, by rw [show n + (k + 1) = n + 1 + k by omega]; exact t⟩
  | @rem n b r ps hb hr h ih =>
    intro hn e
    have e2 : T.drop (n + 1 + b.length) = r := by
      have := drop_app (a := 35 :: b) (b := r) (T := T) (n := n) e
      rw [show n + 1 + b.length = n + (35 :: b).length by simp; omega]
      exact this
    have hn2 : n + 1 + b.length ≤ T.length := by
      have := congrArg List.length e
      simp at this
      omega
    obtain ⟨k, g, t⟩ := ih hn2 e2
    exact ⟨1 + b.length + k, .rem hb hr g, by rw [show n + (1 + b.length + k) = n + 1 + b.length + k by omega]; exact t⟩
  | @tok n t r ps ht hp h ih =>
    intro hn e
    have hn2 : n + t.length ≤ T.length := by
      have := congrArg List.length e
      simp at this
      omega
    obtain ⟨k, g, ts⟩ := ih hn2 (drop_app e)
    refine ⟨0, .stop fun c hc => ?_, .tok e ht hp g ts⟩
    obtain ⟨d, q, rfl, h1⟩ := ht.head
    have : d = c := by simpa using hc
    exact this ▸ h1
/-- where the i-th token begins, or the text ends -/
def pos (T : Cd) (ps : List (Nat × Cd)) (i : Nat) : Nat := (ps[i]?.map (·.1)).getD T.length
theorem ts_pos {T : Cd} {n : Nat} {ps : List (Nat × Cd)} (h : Ts T n ps) : pos T ps 0 = n := by
  cases h <;> rfl
theorem ts_at {T : Cd} : ∀ {n : Nat} {ps : List (Nat × Cd)}, Ts T n ps → ∀ (i m : Nat) (t : Cd), ps[i]? = some (m, t) → ∃ r k, T.drop m = t ++ r ∧ Tok t ∧ Parts t r ∧ Gp r k ∧ pos T ps (i + 1) = m + t.length + k ∧ m + t.length ≤ T.length := by
  intro n ps h
  induction h with
  | done => intro i m t hi; simp at hi
  | @tok n k t r ps e ht hp g ts ih =>
    intro i m u hi
    cases i with
    | zero =>
      have hi : (n, t) = (m, u) := by simpa using hi
      cases hi
      refine ⟨r, k, e, ht, hp, g, ?_, ?_⟩
      · have := ts_pos ts
        unfold pos at this ⊢
        rw [List.getElem?_cons_succ]
        exact this
      · have e1 := congrArg List.length e
        simp at e1
        have : 0 < t.length := List.length_pos_iff.mpr ht.ne
        omega
    | succ i =>
      rw [List.getElem?_cons_succ] at hi
      obtain ⟨r', k', h1, h2, h3, h4, h5, h6⟩ := ih i m u hi
      refine ⟨r', k', h1, h2, h3, h4, ?_, h6⟩
      unfold pos at h5 ⊢
      rw [List.getElem?_cons_succ]
      exact h5
theorem ts_le {T : Cd} {n : Nat} {ps : List (Nat × Cd)} (h : Ts T n ps) : n ≤ T.length := by
  cases h with
  | done => exact Nat.le_refl _
  | tok e ht hp g ts =>
    have e1 := congrArg List.length e
    simp at e1
    have : 0 < _ := List.length_pos_iff.mpr ht.ne
    omega
theorem Gp.le {r : Cd} {k : Nat} (h : Gp r k) : k ≤ r.length := by
  induction h with
  | stop => exact Nat.zero_le _
  | gap _ _ ih => simp; exact ih
  | rem _ _ _ ih => simp; omega
end M05

set_option Elab.async false
set_option linter.all false
set_option maxRecDepth 100000
set_option maxHeartbeats 4000000
/-! the program's defs: is_string_part, run_end, token_end, behind_gap -/
namespace M05
open PySem PySem.Spec PyProof.Rows L2 GL
structure DnO (P : Program) (w : World) (K : PySem.W.Frag) (mg : Str → Option Value) (base : Heap) (x : Str) (k : Nat) (ps : List Str) (sp : Sp) where
  f : Addr
  fd : FuncData
  ok : FnOk P w K mg base CX0 k f fd ps sp
  g : mg x = some (.ref f)
  kp : PySem.W.keepIn K (.ref f) = true
  b : Binds K fd ps []
def DnO.G {P : Program} {w : World} {K : PySem.W.Frag} {mg : Str → Option Value} {base : Heap} {x : Str} {k : Nat} {ps : List Str} {sp : Sp} (d : DnO P w K mg base x k ps sp) : DnG P w K mg base x k ps sp := ⟨d.f, d.fd, .of d.ok, d.g, d.kp, d.b⟩
theorem scIP : FnScope ["text", "sign"] ["text"] (defScope sPart) := ⟨rfl, rfl, rfl, by decide +kernel, rfl, by decide +kernel, by decide +kernel⟩
theorem scRE : FnScope ["text", "start", "signs", "end"] ["text", "start", "signs"] (defScope sRun) := ⟨rfl, rfl, rfl, by decide +kernel, rfl, by decide +kernel, by decide +kernel⟩
theorem scTE : FnScope ["text", "start", "first", "end", "close"] ["text", "start"] (defScope sTokEnd) := ⟨rfl, rfl, rfl, by decide +kernel, rfl, by decide +kernel, by decide +kernel⟩
theorem scGA : FnScope ["text", "start", "at", "feed"] ["text", "start"] (defScope sGap) := ⟨rfl, rfl, rfl, by decide +kernel, rfl, by decide +kernel, by decide +kernel⟩
theorem big_le {n : Nat} (h : n ≤ 1000000) : n ≤ sizeLine := Nat.le_trans h (by decide)
theorem same_new {H : Hp} {p : Addr} {o : HO} (h : H p = none) : Same H (upd H p o) := fun b x e => by
  rw [upd_ne (ne_of_none e h)]
  exact e
theorem same_put {H H' : Hp} {p : Addr} {o : HO} (x : Same H H') (h : H p = none) : Same H (upd H' p o) := fun b y e => by
  rw [upd_ne (ne_of_none e h)]
  exact x b y e
theorem inS (z : Str) : ∀ l : List Str, inV (.str z) (l.map V.str) = decide (z ∈ l)
  | [] => rfl
  | y :: r => by
    have ih := inS z r
    unfold inV at ih ⊢
    rw [List.map_cons, List.any_cons, ih]
    show (y == z || decide (z ∈ r)) = _
    by_cases e : y = z
    · subst e
      simp
    · have e' : z ≠ y := fun q => e q.symm
      simp [e, e']
/-- one sign -/
abbrev ch (c : Nat) : Str := ⟨#[c]⟩
theorem ch_inj {c d : Nat} (h : ch c = ch d) : c = d := by
  have : cs (ch c) = cs (ch d) := by rw [h]
  simpa [cs] using this
theorem ch_S (c : Nat) : ch c = S [c] := rfl
/-- find of one sign -/
theorem find_at {T b r : Cd} {n c : Nat} (hn : n ≤ T.length) (e : T.drop n = b ++ r) (hb : c ∉ b) : (r.head? = some c → Txt.find3 (S T) (ch c) (n : Int) = ((n + b.length : Nat) : Int)) ∧ (r = [] → Txt.find3 (S T) (ch c) (n : Int) = -1) := by
  have fi : PySem.fromIndex (S T).length (n : Int) = n := by
    unfold PySem.fromIndex
    rw [if_neg (by omega)]
    simp
  have gd : ∀ v, (S T).cps.getD v 0 = T.getD v 0 := fun v => by simp [S]
  have at1 : ∀ v, v < b.length → T.getD (n + v) 0 ∈ b := fun v hv => by
    have : T[n + v]? = (b ++ r)[v]? := by rw [← e, List.getElem?_drop]
    rw [List.getElem?_append_left hv, List.getElem?_eq_getElem hv] at this
    rw [List.getD_eq_getElem?_getD, this]
    exact List.getElem_mem hv
  have lT : (S T).length = T.length := len_S T
  have le := congrArg List.length e
  simp at le
  refine ⟨fun hr => ?_, fun hr => ?_⟩
  · have hc : T.getD (n + b.length) 0 = c := by
      have : T[n + b.length]? = (b ++ r)[b.length]? := by rw [← e, List.getElem?_drop]
      rw [List.getElem?_append_right (Nat.le_refl _), Nat.sub_self, ← List.head?_eq_getElem?, hr] at this
      rw [List.getD_eq_getElem?_getD, this]
      rfl
    have rl : 0 < r.length := by
      cases r with
      | nil => simp at hr
      | cons => simp
    rcases PySem.StrLaws.find3_spec (S T) c (n : Int) with ⟨_, hno⟩ | ⟨k, hk, h1, h2, h3, h4⟩
    · have := hno (n + b.length) (by rw [fi]; omega) (by rw [lT]; omega)
      rw [gd, hc] at this
      exact absurd rfl this
    · rw [hk]
      rw [fi] at h1 h4
      rw [gd] at h3
      rcases Nat.lt_trichotomy k (n + b.length) with z | z | z
      · have := at1 (k - n) (by omega)
        rw [show n + (k - n) = k by omega, h3] at this
        exact absurd this hb
      · rw [z]
      · have := h4 (n + b.length) (by omega) z
        rw [gd, hc] at this
        exact absurd rfl this
  · subst hr
    rcases PySem.StrLaws.find3_spec (S T) c (n : Int) with ⟨h, _⟩ | ⟨k, hk, h1, h2, h3, h4⟩
    · exact h
    · rw [fi] at h1
      rw [gd] at h3
      rw [lT] at h2
      have lr : T.length - n = b.length := by simpa using le
      have := at1 (k - n) (by omega)
      rw [show n + (k - n) = k by omega, h3] at this
      exact absurd this hb
theorem atS {T : Cd} {i c : Nat} (h : T[i]? = some c) : atI (S T).cps.toList (i : Int) = some c := atI_nat (by show (cs (S T))[i]? = some c; rw [cs_S]; exact h)
/-- a slice -/
theorem cut_S {T : Cd} {i j : Nat} (h : i ≤ j) (hj : j ≤ T.length) : cutS (S T) (some (i : Int)) (some (j : Int)) = S ((T.drop i).take (j - i)) := by
  have e : (S T).length = T.length := len_S T
  unfold cutS
  have h1 : HT.sIx (S T).length 0 (some (i : Int)) = i := by rw [HT.sIx_nat, e]; exact Nat.min_eq_left (Nat.le_trans h hj)
  have h2 : HT.sIx (S T).length (S T).length (some (j : Int)) = j := by rw [HT.sIx_nat, e]; exact Nat.min_eq_left hj
  rw [h1, h2]
  simp [S]
section
variable {P : Program} {w : World} {K : PySem.W.Frag} {mg : Str → Option Value} {base : Heap}
def spPart : Sp := fun vs H Q _ => ∃ b : Cd, vs = [.str (S b)] ∧ Inn b ∧ ∀ H', Same H H' → Q (.bl true) H'
theorem ok_part {f : Addr} {fd : FuncData} (F : Fun K "is_string_part" "is_string_part" sPart f fd) (T : Bl K mg) : FnOk P w K mg base CX0 1 f fd ["text"] spPart := by
  refine F.ok scIP (fun vs H Q E h => ?_) (fun cdv A outer s H vs Q E hr h => ?_)
  · obtain ⟨v, rfl, _⟩ := h
    rfl
  · obtain ⟨b, rfl, hz, q⟩ := h
    refine ⟨_, (pss_cons (ps_if (pt_cmpR op_gt (pe_callB call_len_str (by rfl) T.len (by decide +kernel) (pa_cons (pv 0) pa_nil)) (pe_glob (v := .int 60) (by rfl) T.cmostinstring.choose_spec ⟨_, rfl⟩) (nomark _))
        (pss_one (ps_ret pe_bl))
        pss_nil)
      (pss_one (ps_ret (pe_callB (cr_all rfl) (by rfl) T.all (by decide +kernel) (pa_cons (pe_lc (own := [("sign", 1)]) (g := gName 1) (by rfl) scIP.nd (pi_str (pv 0)) (blkOk_by (own := [("sign", 1)]) (N := ["text", "sign"]) (sc := defScope sPart) (by decide +kernel)) (fun _ _ _ _ _ => (pg_name (i := 1) scIP.nd rfl (Or.inl rfl))) (fun _ _ _ _ _ => pts_nil) (fun _ _ _ _ _ => (pe_and (pe_chain op_le op_le (pe_glob (v := .int 32) (by rfl) T.cleastcode.choose_spec ⟨_, rfl⟩) (pe_callB call_ord (by rfl) T.ord (by decide +kernel) (pa_cons (pv 1) pa_nil)) (pe_glob (v := .int 126) (by rfl) T.cmostcode.choose_spec ⟨_, rfl⟩)) (pe_one (pe_cmpR (r := rIn K true) op_notIn_seq (pv 1) (pe_tup (pa_cons (pe_glob (v := .str "\"") (by rfl) T.cquote.choose_spec ⟨_, rfl⟩) (pa_cons (pe_glob (v := .str "\\") (by rfl) T.cbackslash.choose_spec ⟨_, rfl⟩) pa_nil))) (by rfl)))))) pa_nil))))), ?_⟩
    have hl : (S b).length ≤ 60 := by rw [len_S]; exact hz.1
    refine ⟨.str (S b), rfl, S b, rfl, big_le (by omega), _, 60, rfl, rfl, _, rfl, ?_⟩
    have e0 : decide (((S b).length : Int) > 60) = false := decide_eq_false (by omega)
    rw [e0]
    refine iteF ?_
    refine ⟨.str (S b), rfl, S b, rfl, fun D nD => ?_⟩
    refine lc_it (walk_str (z := S b)) (fun i H2 => Same H H2 ∧ H2 D = some (.lst ((List.replicate i true).map V.bl))) ⟨same_new nD, upd_same⟩ (fun _ _ _ _ => trivial) (fun i x H2 H3 hi hP hY => ?_) (fun H2 hP => ?_)
    · obtain ⟨sm, hD⟩ := hP
      obtain ⟨rfl, c, hc, rfl⟩ := hY
      have hm : c ∈ b := by
        have : (cs (S b))[i]? = some c := by rw [Array.getElem?_toList]; exact hc
        rw [cs_S] at this
        exact List.mem_of_getElem? this
      obtain ⟨c1, c2, c3, c4⟩ := hz.2 c hm
      have hi' : i < (S b).length := hi
      refine ⟨rfl, .str (ch c), rfl, ch c, rfl, rfl, 32, (c : Int), rfl, rfl, _, rfl, ?_⟩
      rw [decide_eq_true (show (32 : Int) ≤ (c : Int) by omega)]
      refine iteT ?_
      refine ⟨(c : Int), 126, rfl, rfl, _, rfl, ?_⟩
      rw [decide_eq_true (show (c : Int) ≤ 126 by omega)]
      refine iteT ?_
      refine ⟨.str (ch c), rfl, by show 2 ≤ sizeLine; decide, fun p np => ?_⟩
      refine ⟨p, _, rfl, .inr (SqT.of upd_same), rfl, rfl, ?_⟩
      have e1 : (!inV (.str (ch c)) ([("\"" : Str), "\\"].map V.str)) = true := by
        rw [inS]
        have : ch c ∉ [ch 34, ch 92] := fun hm => by
          rcases List.mem_cons.mp hm with e | hm
          · exact c3 (ch_inj e)
          · exact c4 (ch_inj (List.mem_singleton.mp hm))
        have : ch c ∉ [("\"" : Str), "\\"] := this
        simp [this]
      have sp := same_put sm (p := p) (o := .tup [.str "\"", .str "\\"]) (sm.free np)
      have nep : D ≠ p := ne_of_none hD np
      refine ⟨_, by rw [upd_ne nep]; exact hD, ?_, same_put sp nD, ?_⟩
      · simp
        exact Nat.lt_of_lt_of_le (by omega : i < 100) (by decide)
      · have e1 : (!inV (.str (ch c)) [.str "\"", .str "\\"]) = true := e1
        rw [upd_same, e1, List.replicate_succ', List.map_append]
        rfl
    · obtain ⟨sm, hD⟩ := hP
      refine ⟨D, _, rfl, SqL.of hD, ?_⟩
      have e5 : ∀ n, (List.replicate n true).all id = true := fun n => by simp
      rw [e5]
      exact q H2 sm

def spRun : Sp := fun vs H Q _ => ∃ (T u r sg : Cd) (n : Nat), vs = [.str (S T), .int n, .str (S sg)] ∧ T.length ≤ 1000000 ∧ n ≤ T.length ∧ T.drop n = u ++ r ∧ (∀ c ∈ u, c ∈ sg) ∧ (∀ c, r.head? = some c → c ∉ sg) ∧ Q (.int ((n + u.length : Nat) : Int)) H
theorem ok_run {f : Addr} {fd : FuncData} (F : Fun K "run_end" "run_end" sRun f fd) (T : Bl K mg) : FnOk P w K mg base CX0 1 f fd ["text", "start", "signs"] spRun := by
  refine F.ok scRE (fun vs H Q E h => ?_) (fun cdv A outer s H vs Q E hr h => ?_)
  · obtain ⟨_, _, _, _, _, rfl, _⟩ := h
    rfl
  · obtain ⟨T', u, r, sg, n, rfl, hT, hn, e, hu, hr2, q⟩ := h
    refine ⟨_, (pss_cons (ps_set (i := 3) scRE.nd rfl (Or.inl rfl) (pv 1))
      (pss_cons (ps_while PassesOwn.never (PW.pt (pw_and (pt_cmpR op_lt (pv 3) (pe_callB call_len_str (by rfl) T.len (by decide +kernel) (pa_cons (pv 0) pa_nil)) (nomark _)) (pw_and1 (pt_cmpR op_in_sign (pe_ix ix_str (pv 0) (pv 3) (fun _ _ => rfl)) (pv 2) (by rfl)))))
        (pss_one (ps_aug (i := 3) scRE.nd rfl (Or.inl rfl) pe_int ip_add)))
      (pss_one (ps_ret (pv 3))))), ?_⟩
    refine ⟨.int n, rfl, ?_⟩
    have lT : (S T').length = T'.length := len_S T'
    refine ⟨fun k σ H2 => ∃ j : Nat, H2 = H ∧ k = u.length - j ∧ j ≤ u.length ∧ σ = [some (.str (S T')), some (.int n), some (.str (S sg)), some (.int ((n + j : Nat) : Int))], ⟨u.length, 0, rfl, rfl, Nat.zero_le _, rfl⟩, fun k σ H2 h => ?_⟩
    obtain ⟨j, rfl, rfl, hj, rfl⟩ := h
    have le := congrArg List.length e
    simp at le
    have at_ : T'[n + j]? = (u ++ r)[j]? := by rw [← e, List.getElem?_drop]
    refine ⟨.int ((n + j : Nat) : Int), rfl, .str (S T'), rfl, S T', rfl, by rw [lT]; exact big_le hT, _, _, rfl, rfl, _, rfl, ite2 (fun g => ?_) (fun g => ?_)⟩
    · have g : ((n + j : Nat) : Int) < ((S T').length : Int) := of_decide_eq_true g
      rw [lT] at g
      have hlt : n + j < T'.length := by omega
      obtain ⟨c, hc⟩ : ∃ c, T'[n + j]? = some c := ⟨_, List.getElem?_eq_getElem hlt⟩
      refine ⟨.str (S T'), rfl, .int ((n + j : Nat) : Int), rfl, S T', _, c, rfl, rfl, by rw [lT]; exact big_le hT, atS hc, .str (S sg), rfl, c, S sg, rfl, rfl, _, rfl, ?_⟩
      rw [show (S sg).cps.toList = sg from cs_S sg]
      by_cases hju : j < u.length
      · have hcu : c ∈ u := by
          rw [hc, List.getElem?_append_left hju] at at_
          exact List.mem_of_getElem? at_.symm
        rw [decide_eq_true (hu c hcu)]
        refine iteT ⟨fun σ' H' => H' = H2 ∧ σ' = [some (.str (S T')), some (.int n), some (.str (S sg)), some (.int ((n + (j + 1) : Nat) : Int))], fun σ' H' h => ⟨u.length - (j + 1), by omega, j + 1, h.1, rfl, by omega, h.2⟩, ?_⟩
        refine ⟨_, rfl, ((n + j : Nat) : Int), 1, rfl, rfl, rfl, ?_⟩
        rw [show ((n + (j + 1) : Nat) : Int) = ((n + j : Nat) : Int) + 1 by omega]
        rfl
      · have ej : j = u.length := by omega
        subst ej
        rw [hc, List.getElem?_append_right (Nat.le_refl _), Nat.sub_self, ← List.head?_eq_getElem?] at at_
        rw [decide_eq_false (hr2 c at_.symm)]
        refine iteF ?_
        exact ⟨_, rfl, q⟩
    · have g : ¬ ((n + j : Nat) : Int) < ((S T').length : Int) := fun z => by
        rw [decide_eq_true z] at g
        exact absurd g (by decide)
      rw [lT] at g
      have ej : j = u.length := by omega
      subst ej
      exact ⟨_, rfl, q⟩
end
end M05

set_option Elab.async false
set_option linter.all false
set_option maxRecDepth 100000
set_option maxHeartbeats 4000000
/-! token_end, behind_gap -/
namespace M05
open PySem PySem.Spec PyProof.Rows L2 GL
theorem Parts.lets {t r : Cd} (h : Parts t r) (hn : t ≠ []) (ht : ∀ c ∈ t, c ∈ lets) : ∀ c, r.head? = some c → c ∉ lets := fun c hc => by
  obtain ⟨d, hd⟩ : ∃ d, t.getLast? = some d := ⟨t.getLast hn, List.getLast?_eq_some_getLast hn⟩
  exact (h c d hc hd).1 (ht d (List.mem_of_getLast? hd))
theorem Parts.digs {t r : Cd} (h : Parts t r) (hn : t ≠ []) (ht : ∀ c ∈ t, c ∈ digs) : ∀ c, r.head? = some c → c ∉ digs := fun c hc => by
  obtain ⟨d, hd⟩ : ∃ d, t.getLast? = some d := ⟨t.getLast hn, List.getLast?_eq_some_getLast hn⟩
  exact (h c d hc hd).2 (ht d (List.mem_of_getLast? hd))
theorem drop_get {T t : Cd} {n c : Nat} (e : T.drop n = c :: t) : T[n]? = some c := by
  have : T[n + 0]? = (c :: t)[0]? := by rw [← e, List.getElem?_drop]
  simpa using this
theorem drop_lt {T t : Cd} {n c : Nat} (e : T.drop n = c :: t) : n < T.length := (List.getElem?_eq_some_iff.mp (drop_get e)).1
section
variable {P : Program} {w : World} {K : PySem.W.Frag} {mg : Str → Option Value} {base : Heap}
def spTE : Sp := fun vs H Q _ => ∃ (T t r : Cd) (n : Nat), vs = [.str (S T), .int n] ∧ T.length ≤ 1000000 ∧ T.drop n = t ++ r ∧ Tok t ∧ Parts t r ∧ ∀ H', Same H H' → Q (.int ((n + t.length : Nat) : Int)) H'
theorem ok_te {f : Addr} {fd : FuncData} (F : Fun K "token_end" "token_end" sTokEnd f fd) (T : Bl K mg) (d_run_end : DnO P w K mg base "run_end" 1 ["text", "start", "signs"] spRun) (d_is_string_part : DnO P w K mg base "is_string_part" 1 ["text"] spPart) : FnOk P w K mg base CX0 2 f fd ["text", "start"] spTE := by
  refine F.ok scTE (fun vs H Q E h => ?_) (fun cdv A outer s H vs Q E hr h => ?_)
  · obtain ⟨_, _, _, _, rfl, _⟩ := h
    rfl
  · obtain ⟨T', t, r, n, rfl, hT, e, ht, hp, q⟩ := h
    refine ⟨_, (pss_cons (ps_set (i := 2) scTE.nd rfl (Or.inl rfl) (pe_ix ix_str (pv 0) (pv 1) (fun _ _ => rfl)))
      (pss_cons (ps_if (pt_cmpR op_in_sign (pv 2) (pe_glob (v := .str "abcdefghijklmnopqrstuvwxyz") (by rfl) T.cletters.choose_spec ⟨_, rfl⟩) (by rfl))
        (pss_one (ps_ret (pe_call d_run_end.ok (hr.mono (by omega)) (by rfl) d_run_end.g d_run_end.kp d_run_end.b .nil pass0 (pa_cons (pv 0) (pa_cons (pv 1) (pa_cons (pe_glob (v := .str "abcdefghijklmnopqrstuvwxyz") (by rfl) T.cletters.choose_spec ⟨_, rfl⟩) pa_nil))))))
        pss_nil)
      (pss_cons (ps_if (pt_cmpR op_in_sign (pv 2) (pe_glob (v := .str "0123456789") (by rfl) T.cdigits.choose_spec ⟨_, rfl⟩) (by rfl))
        (pss_cons (ps_set (i := 3) scTE.nd rfl (Or.inl rfl) (pe_call d_run_end.ok (hr.mono (by omega)) (by rfl) d_run_end.g d_run_end.kp d_run_end.b .nil pass0 (pa_cons (pv 0) (pa_cons (pv 1) (pa_cons (pe_glob (v := .str "0123456789") (by rfl) T.cdigits.choose_spec ⟨_, rfl⟩) pa_nil)))))
        (pss_one (ps_ret (pe_ifExp (PW.pt (pw_or (pt_cmpR op_ne (pv 2) (pe_ix ix_str (pe_glob (v := .str "0123456789") (by rfl) T.cdigits.choose_spec ⟨_, rfl⟩) pe_int (fun _ _ => rfl)) (nomark _)) (pw_or1 (pt_cmpR op_eq (pv 3) (pe_op op_add (pv 1) pe_int) (nomark _))))) (pv 3) pe_non))))
        pss_nil)
      (pss_cons (ps_if (pt_cmpR op_eq (pv 2) (pe_glob (v := .str "\"") (by rfl) T.cquote.choose_spec ⟨_, rfl⟩) (nomark _))
        (pss_cons (ps_set (i := 4) scTE.nd rfl (Or.inl rfl) (pe_bm PySem.F.plainAttrs_str PySem.F.slot_str_find PySem.F.type_str_find mt_find3 (pv 0) (pa_cons (pe_glob (v := .str "\"") (by rfl) T.cquote.choose_spec ⟨_, rfl⟩) (pa_cons (pe_op op_add (pv 1) pe_int) pa_nil))))
        (pss_one (ps_ret (pe_ifExp (PW.pt (pw_and (pt_cmpR op_ge (pv 4) pe_int (nomark _)) (pw_and1 (pt_val (pe_call d_is_string_part.ok (hr.mono (by omega)) (by rfl) d_is_string_part.g d_is_string_part.kp d_is_string_part.b .nil pass0 (pa_cons (pe_slice sl_str (pv 0) (po_some (pe_op op_add (pv 1) pe_int)) (po_some (pv 4))) pa_nil)))))) (pe_op op_add (pv 4) pe_int) pe_non))))
        pss_nil)
      (pss_one (ps_ret (pe_ifExp (pt_cmpR op_in_sign (pv 2) (pe_glob (v := .str "{}[]():.,=+-*") (by rfl) T.csigns.choose_spec ⟨_, rfl⟩) (by rfl)) (pe_op op_add (pv 1) pe_int) pe_non))))))), ?_⟩
    have lT : (S T').length = T'.length := len_S T'
    obtain ⟨c, t', rfl, _⟩ := ht.head
    have hc : T'[n]? = some c := drop_get e
    have hlt : n < T'.length := drop_lt e
    have szT : (S T').length ≤ sizeLine := by rw [lT]; exact big_le hT
    refine ⟨.str (S T'), rfl, .int n, rfl, S T', n, c, rfl, rfl, szT, atS hc, ?_⟩
    refine ⟨.str (ch c), rfl, c, _, rfl, rfl, _, rfl, ?_⟩
    rw [show (Str.cps "abcdefghijklmnopqrstuvwxyz").toList = lets from rfl]
    cases ht with
    | word h1 h2 =>
      rw [decide_eq_true (h2 c List.mem_cons_self)]
      refine iteT ?_
      exact ⟨.str (S T'), rfl, .int n, rfl, T', c :: t', r, lets, n, rfl, hT, by omega, e, h2, hp.lets h1 h2, q H (fun _ _ h => h)⟩
    | num h1 h2 h3 =>
      have hd := h2 c List.mem_cons_self
      have hd' := mem_digs.mp hd
      rw [decide_eq_false (fun z => by have := mem_lets.mp z; omega)]
      refine iteF ⟨.str (ch c), rfl, c, _, rfl, rfl, _, rfl, ?_⟩
      rw [show (Str.cps "0123456789").toList = digs from rfl, decide_eq_true hd]
      refine iteT ?_
      refine ⟨.str (S T'), rfl, .int n, rfl, T', c :: t', r, digs, n, rfl, hT, by omega, e, h2, hp.digs h1 h2, ?_⟩
      refine ⟨.str (ch c), rfl, _, 0, 48, rfl, rfl, by decide, by decide +kernel, rfl, _, rfl, ite2 (fun g => ?_) (fun g => ?_)⟩
      · exact iteT ⟨_, rfl, q H (fun _ _ h => h)⟩
      · have g : ch c = ch 48 := by
          have : V.str (ch c) = V.str (ch 48) := by simpa using g
          injection this
        have hc48 := ch_inj g
        have hl := h3 (by rw [hc48]; rfl)
        refine ⟨_, rfl, .int n, rfl, _, _, rfl, rfl, rfl, _, rfl, ?_⟩
        have e1 : decide (V.int ((n + (c :: t').length : Nat) : Int) = V.int ((n : Int) + 1)) = true := decide_eq_true (by rw [hl]; rfl)
        rw [e1]
        exact iteT ⟨_, rfl, q H (fun _ _ h => h)⟩
    | @str b hb =>
      rw [decide_eq_false (fun z => by have := mem_lets.mp z; omega)]
      refine iteF ⟨.str (ch 34), rfl, 34, _, rfl, rfl, _, rfl, ?_⟩
      rw [show (Str.cps "0123456789").toList = digs from rfl, decide_eq_false (fun z => by have := mem_digs.mp z; omega)]
      refine iteF ⟨.str (ch 34), rfl, rfl, _, rfl, ?_⟩
      rw [show decide (V.str (ch 34) = V.str "\"") = true by decide +kernel]
      have e1 : T'.drop (n + 1) = b ++ (34 :: r) := by
        have := drop_app (a := [34]) (b := b ++ [34] ++ r) (T := T') (n := n) e
        rw [List.append_assoc] at this
        exact this
      have le1 := congrArg List.length e1
      simp at le1
      have e2 := (find_at (c := 34) (by omega) e1 (fun z => (hb.2 34 z).2.2.1 rfl)).1 rfl
      refine iteT ?_
      refine ⟨.str (S T'), rfl, rfl, .int n, rfl, _, _, rfl, rfl, S T', _, _, rfl, rfl, ?_⟩
      rw [show ((n : Int) + 1) = ((n + 1 : Nat) : Int) by omega]
      rw [show ("\"" : Str) = ch 34 from rfl, e2]
      refine ⟨_, rfl, _, 0, rfl, rfl, _, rfl, ?_⟩
      rw [decide_eq_true (show (0 : Int) ≤ ((n + 1 + b.length : Nat) : Int) by omega)]
      refine iteT ?_
      refine ⟨.str (S T'), rfl, .int n, rfl, _, _, rfl, rfl, _, rfl, _, rfl, _, rfl, S T', rfl, szT, ?_⟩
      rw [show ((n : Int) + 1) = ((n + 1 : Nat) : Int) by omega, cut_S (by omega) (by omega)]
      have e3 : (T'.drop (n + 1)).take (n + 1 + b.length - (n + 1)) = b := by
        rw [e1, show n + 1 + b.length - (n + 1) = b.length by omega, List.take_left]
      rw [e3]
      refine ⟨b, rfl, hb, fun H' sm => ⟨true, rfl, iteT ?_⟩⟩
      refine ⟨_, rfl, _, _, rfl, rfl, ?_⟩
      have := q H' sm
      rw [show ((n + (34 :: (b ++ [34])).length : Nat) : Int) = ((n + 1 + b.length : Nat) : Int) + 1 by simp; omega] at this
      exact this
    | sign h1 =>
      have hs := mem_sgns.mp h1
      rw [decide_eq_false (fun z => by have := mem_lets.mp z; omega)]
      refine iteF ⟨.str (ch c), rfl, c, _, rfl, rfl, _, rfl, ?_⟩
      rw [show (Str.cps "0123456789").toList = digs from rfl, decide_eq_false (fun z => by have := mem_digs.mp z; omega)]
      refine iteF ⟨.str (ch c), rfl, rfl, _, rfl, ?_⟩
      have e4 : decide (V.str (ch c) = V.str "\"") = false := decide_eq_false fun z => by
        have z : ch c = ch 34 := by injection z
        have := ch_inj z
        omega
      rw [e4]
      refine iteF ⟨.str (ch c), rfl, c, _, rfl, rfl, _, rfl, ?_⟩
      rw [show (Str.cps "{}[]():.,=+-*").toList = sgns from rfl, decide_eq_true h1]
      refine iteT ⟨.int n, rfl, _, _, rfl, rfl, ?_⟩
      exact q H (fun _ _ h => h)

def spGap : Sp := fun vs H Q _ => ∃ (T : Cd) (n k : Nat), vs = [.str (S T), .int n] ∧ T.length ≤ 1000000 ∧ n ≤ T.length ∧ Gp (T.drop n) k ∧ Q (.int ((n + k : Nat) : Int)) H
theorem ok_gap {f : Addr} {fd : FuncData} (F : Fun K "behind_gap" "behind_gap" sGap f fd) (T : Bl K mg) : FnOk P w K mg base CX0 1 f fd ["text", "start"] spGap := by
  refine F.ok scGA (fun vs H Q E h => ?_) (fun cdv A outer s H vs Q E hr h => ?_)
  · obtain ⟨_, _, _, rfl, _⟩ := h
    rfl
  · obtain ⟨T', n, k, rfl, hT, hn, hg, q⟩ := h
    refine ⟨_, (pss_cons (ps_set (i := 2) scGA.nd rfl (Or.inl rfl) (pv 1))
      (pss_cons (ps_while PassesOwn.never (PW.pt (pw_and (pt_cmpR op_lt (pv 2) (pe_callB call_len_str (by rfl) T.len (by decide +kernel) (pa_cons (pv 0) pa_nil)) (nomark _)) (pw_and1 (PW.pt (pw_or (pt_cmpR (r := rIn K false) op_in_seq (pe_ix ix_str (pv 0) (pv 2) (fun _ _ => rfl)) (pe_glob (v := .ref T.cgaps.choose) (by rfl) T.cgaps.choose_spec.1 rfl) (by rfl)) (pw_or1 (pt_cmpR op_eq (pe_ix ix_str (pv 0) (pv 2) (fun _ _ => rfl)) (pe_glob (v := .str "#") (by rfl) T.cremark.choose_spec ⟨_, rfl⟩) (nomark _))))))))
        (pss_one (ps_if (pt_cmpR op_eq (pe_ix ix_str (pv 0) (pv 2) (fun _ _ => rfl)) (pe_glob (v := .str "#") (by rfl) T.cremark.choose_spec ⟨_, rfl⟩) (nomark _))
          (pss_cons (ps_set (i := 3) scGA.nd rfl (Or.inl rfl) (pe_bm PySem.F.plainAttrs_str PySem.F.slot_str_find PySem.F.type_str_find mt_find3 (pv 0) (pa_cons (pe_glob (v := .str "\n") (by rfl) T.cfeed.choose_spec ⟨_, rfl⟩) (pa_cons (pv 2) pa_nil))))
          (pss_one (ps_set (i := 2) scGA.nd rfl (Or.inl rfl) (pe_ifExp (pt_cmpR op_ge (pv 3) pe_int (nomark _)) (pv 3) (pe_callB call_len_str (by rfl) T.len (by decide +kernel) (pa_cons (pv 0) pa_nil))))))
          (pss_one (ps_aug (i := 2) scGA.nd rfl (Or.inl rfl) pe_int ip_add)))))
      (pss_one (ps_ret (pv 2))))), ?_⟩
    have lT : (S T').length = T'.length := len_S T'
    have szT : (S T').length ≤ sizeLine := by rw [lT]; exact big_le hT
    refine ⟨.int n, rfl, ?_⟩
    refine ⟨fun m σ H2 => ∃ (j : Nat) (fv : Option V), H2 = H ∧ n + k = j + m ∧ Gp (T'.drop j) m ∧ j ≤ T'.length ∧ σ = [some (.str (S T')), some (.int n), some (.int j), fv], ⟨k, n, none, rfl, rfl, hg, hn, rfl⟩, fun m σ H2 h => ?_⟩
    obtain ⟨j, fv, rfl, hj, hgj, hjT, rfl⟩ := h
    refine ⟨.int j, rfl, .str (S T'), rfl, S T', rfl, szT, _, _, rfl, rfl, _, rfl, ?_⟩
    rw [lT]
    have stop : m = 0 → Q (.int j) H2 := fun z => by
      subst z
      have : j = n + k := by omega
      rw [this]
      exact q
    by_cases hlt : j < T'.length
    · rw [decide_eq_true (show (j : Int) < (T'.length : Int) by omega)]
      refine iteT ?_
      obtain ⟨c, hc⟩ : ∃ c, T'[j]? = some c := ⟨_, List.getElem?_eq_getElem hlt⟩
      have hdr : T'.drop j = c :: T'.drop (j + 1) := by
        rw [List.drop_eq_getElem_cons hlt]
        rw [List.getElem?_eq_getElem hlt] at hc
        rw [Option.some.inj hc]
      refine ⟨.str (S T'), rfl, .int j, rfl, S T', j, c, rfl, rfl, szT, atS hc, ?_⟩
      refine ⟨T.cgaps.choose, _, rfl, .inr (T.cgaps.choose_spec.2 _), rfl, rfl, _, rfl, ?_⟩
      have e1 : inV (.str (ch c)) [.str " ", .str "\n"] = decide (c = 32 ∨ c = 10) := by
        have h1 := inS (ch c) [" ", "\n"]
        have h1 : inV (.str (ch c)) [.str " ", .str "\n"] = decide (ch c ∈ [ch 32, ch 10]) := h1
        rw [h1]
        refine decide_eq_decide.mpr ⟨fun z => ?_, fun z => ?_⟩
        · rcases List.mem_cons.mp z with z | z
          · exact .inl (ch_inj z)
          · exact .inr (ch_inj (List.mem_singleton.mp z))
        · rcases z with z | z <;> subst z <;> decide
      rw [show (if false = true then !inV (.str (ch c)) [.str " ", .str "\n"] else inV (.str (ch c)) [.str " ", .str "\n"]) = inV (.str (ch c)) [.str " ", .str "\n"] from rfl, e1]
      have e2 : decide (V.str (ch c) = V.str "#") = decide (c = 35) := decide_eq_decide.mpr ⟨fun z => by
          have z : ch c = ch 35 := by injection z
          exact ch_inj z, fun z => by rw [z]; rfl⟩
      have head : (c = 32 ∨ c = 10) ∨ c = 35 ∨ (c ≠ 32 ∧ c ≠ 10 ∧ c ≠ 35) := by omega
      rcases head with h0 | h0 | h0
      · -- a blank or a line feed
        rw [decide_eq_true h0]
        refine iteT (iteT ?_)
        obtain ⟨m', rfl, hg'⟩ : ∃ m', m = m' + 1 ∧ Gp (T'.drop (j + 1)) m' := by
          rw [hdr] at hgj
          generalize T'.drop (j + 1) = R at hgj
          cases hgj with
          | stop h =>
            have := h c rfl
            omega
          | gap _ g => exact ⟨_, rfl, g⟩
          | rem => omega
        refine ⟨fun σ' H' => H' = H2 ∧ σ' = [some (.str (S T')), some (.int n), some (.int ((j + 1 : Nat) : Int)), fv], fun σ' H' h => ⟨m', by omega, j + 1, fv, h.1, by omega, hg', by omega, h.2⟩, ?_⟩
        refine ⟨.str (S T'), rfl, .int j, rfl, S T', j, c, rfl, rfl, szT, atS hc, rfl, _, rfl, ?_⟩
        rw [e2, decide_eq_false (show ¬ c = 35 by omega)]
        refine iteF ?_
        exact ⟨_, rfl, _, 1, rfl, rfl, rfl, rfl⟩
      · -- a remark
        subst h0
        rw [decide_eq_false (by decide)]
        refine iteF ?_
        refine ⟨.str (S T'), rfl, .int j, rfl, S T', j, 35, rfl, rfl, szT, atS hc, rfl, _, rfl, ?_⟩
        rw [e2, decide_eq_true rfl]
        refine iteT ?_
        obtain ⟨b, R, m', hb, hR, hg', rfl, hRe⟩ : ∃ (b R : Cd) (m' : Nat), (∀ c ∈ b, c ≠ 10) ∧ (R = [] ∨ R.head? = some 10) ∧ Gp R m' ∧ m = 1 + b.length + m' ∧ T'.drop (j + 1) = b ++ R := by
          rw [hdr] at hgj
          generalize T'.drop (j + 1) = R at hgj ⊢
          generalize hh : 35 :: R = R2 at hgj
          cases hgj with
          | stop h => exact absurd rfl (h 35 (by rw [← hh]; rfl)).2.2
          | gap h g =>
            injection hh with h1 h2
            omega
          | @rem b R' k' h1 h2 g =>
            injection hh with h3 h4
            exact ⟨b, R', k', h1, h2, g, rfl, h4⟩
        have hdr' : T'.drop j = (35 :: b) ++ R := by rw [hdr, hRe]; rfl
        have hnb : 10 ∉ (35 :: b) := fun z => by
          rcases List.mem_cons.mp z with z | z
          · omega
          · exact hb 10 z rfl
        have hf := find_at (c := 10) (Nat.le_of_lt hlt) hdr' hnb
        have le := congrArg List.length hdr'
        simp at le
        have hgR : T'.drop (j + 1 + b.length) = R := by
          have := drop_app hdr'
          rw [show j + 1 + b.length = j + (35 :: b).length by simp; omega]
          exact this
        refine ⟨fun σ' H' => H' = H2 ∧ ∃ fv', σ' = [some (.str (S T')), some (.int n), some (.int ((j + 1 + b.length : Nat) : Int)), fv'], fun σ' H' h => ?_, ?_⟩
        · obtain ⟨h1, fv', h2⟩ := h
          exact ⟨m', by omega, j + 1 + b.length, fv', h1, by omega, by rw [hgR]; exact hg', by omega, h2⟩
        refine ⟨.str (S T'), rfl, .int j, rfl, S T', j, 35, rfl, rfl, szT, atS hc, rfl, _, rfl, ?_⟩
        rw [e2, decide_eq_true rfl]
        refine iteT ?_
        refine ⟨.str (S T'), rfl, rfl, .int j, rfl, S T', _, _, rfl, rfl, ?_⟩
        rw [show ("\n" : Str) = ch 10 from rfl]
        rcases hR with hR | hR
        · rw [hf.2 hR]
          refine ⟨_, rfl, _, 0, rfl, rfl, _, rfl, ?_⟩
          rw [decide_eq_false (by decide)]
          refine iteF ⟨.str (S T'), rfl, S T', rfl, szT, rfl, some (.int (-1)), ?_⟩
          rw [hR] at le
          have : j + 1 + b.length = (S T').length := by rw [lT]; simp at le; omega
          rw [this]
          rfl
        · rw [hf.1 hR]
          refine ⟨_, rfl, _, 0, rfl, rfl, _, rfl, ?_⟩
          rw [decide_eq_true (show (0 : Int) ≤ ((j + (35 :: b).length : Nat) : Int) by omega)]
          refine iteT ⟨_, rfl, rfl, some (.int ((j + (35 :: b).length : Nat) : Int)), ?_⟩
          rw [show j + 1 + b.length = j + (35 :: b).length by simp; omega]
          rfl
      · -- a token
        have hm : m = 0 := by
          rw [hdr] at hgj
          generalize T'.drop (j + 1) = R at hgj
          generalize hh : c :: R = R2 at hgj
          cases hgj with
          | stop h => rfl
          | gap h g =>
            injection hh with h1 h2
            omega
          | rem h1 h2 g =>
            injection hh with h3 h4
            omega
        rw [decide_eq_false (show ¬ (c = 32 ∨ c = 10) by omega)]
        refine iteF ?_
        refine ⟨.str (S T'), rfl, .int j, rfl, S T', j, c, rfl, rfl, szT, atS hc, rfl, _, rfl, ?_⟩
        rw [e2, decide_eq_false h0.2.2]
        refine iteF ?_
        exact ⟨_, rfl, stop hm⟩
    · rw [decide_eq_false (show ¬ (j : Int) < (T'.length : Int) by omega)]
      refine iteF ?_
      have hm : m = 0 := by
        have : T'.drop j = [] := List.drop_eq_nil_iff.mpr (by omega)
        rw [this] at hgj
        have := hgj.le
        simpa using this
      exact ⟨_, rfl, stop hm⟩
end
end M05

set_option Elab.async false
set_option linter.all false
set_option maxRecDepth 100000
set_option maxHeartbeats 4000000
/-! objects by the list of their fields' names; classes, their making, their methods; a field as a target -/
namespace M05
open PySem PySem.Spec PyProof.Rows L2 GL
/-! ### names zipped with values -/
theorem lkZ : ∀ {N : List Str} {f : Str} {i : Nat} {vs : List V} {v : V}, N.idxOf? f = some i → vs[i]? = some v → (N.zip vs).lookup f = some v
  | [], _, _, _, _, h, _ => by cases h
  | n :: N, f, i, vs, v, h, hv => by
    rw [List.idxOf?_cons] at h
    cases vs with
    | nil => simp at hv
    | cons w vs =>
      by_cases e : (n == f) = true
      · rw [if_pos e] at h
        cases h
        have e2 : (f == n) = true := beq_iff_eq.mpr (beq_iff_eq.mp e).symm
        show List.lookup f ((n, w) :: N.zip vs) = _
        rw [List.lookup_cons, e2]
        exact hv
      · rw [if_neg e] at h
        obtain ⟨j, hj, rfl⟩ := Option.map_eq_some_iff.mp h
        have e2 : (f == n) = false := by
          rw [Bool.eq_false_iff]
          exact fun z => e (beq_iff_eq.mpr (beq_iff_eq.mp z).symm)
        show List.lookup f ((n, w) :: N.zip vs) = _
        rw [List.lookup_cons, e2]
        exact lkZ hj hv
theorem lkN : ∀ {N : List Str} {f : Str} {vs : List V}, N.idxOf? f = none → (N.zip vs).lookup f = none
  | [], _, _, _ => rfl
  | n :: N, f, vs, h => by
    rw [List.idxOf?_cons] at h
    cases vs with
    | nil => rfl
    | cons w vs =>
      by_cases e : (n == f) = true
      · rw [if_pos e] at h
        cases h
      · rw [if_neg e] at h
        have e2 : (f == n) = false := by
          rw [Bool.eq_false_iff]
          exact fun z => e (beq_iff_eq.mpr (beq_iff_eq.mp z).symm)
        show List.lookup f ((n, w) :: N.zip vs) = _
        rw [List.lookup_cons, e2]
        exact lkN (Option.map_eq_none_iff.mp h)
theorem putZ : ∀ {N : List Str} {f : Str} {i : Nat} {vs : List V} {v : V}, N.idxOf? f = some i → i < vs.length → putF f v (N.zip vs) = N.zip (vs.set i v)
  | [], _, _, _, _, h, _ => by cases h
  | n :: N, f, i, vs, v, h, hv => by
    rw [List.idxOf?_cons] at h
    cases vs with
    | nil => simp at hv
    | cons w vs =>
      show (if n = f then (n, v) :: N.zip vs else (n, w) :: putF f v (N.zip vs)) = _
      by_cases e : n = f
      · rw [if_pos (beq_iff_eq.mpr e)] at h
        cases h
        rw [if_pos e]
        rfl
      · rw [if_neg (fun z => e (beq_iff_eq.mp z))] at h
        obtain ⟨j, hj, rfl⟩ := Option.map_eq_some_iff.mp h
        rw [if_neg e, putZ hj (by simpa using hv)]
        rfl
theorem addZ : ∀ {N : List Str} {f : Str} {vs : List V} {v : V}, N.idxOf? f = some vs.length → putF f v (N.zip vs) = N.zip (vs ++ [v])
  | [], _, _, _, h => by cases h
  | n :: N, f, vs, v, h => by
    rw [List.idxOf?_cons] at h
    cases vs with
    | nil =>
      by_cases e : (n == f) = true
      · obtain rfl := beq_iff_eq.mp e
        show [(n, v)] = (n, v) :: N.zip []
        rw [List.zip_nil_right]
      · rw [if_neg e] at h
        obtain ⟨j, _, h2⟩ := Option.map_eq_some_iff.mp h
        cases h2
    | cons w vs =>
      show (if n = f then (n, v) :: N.zip vs else (n, w) :: putF f v (N.zip vs)) = _
      by_cases e : (n == f) = true
      · rw [if_pos e] at h
        cases h
      · rw [if_neg e] at h
        obtain ⟨j, hj, h2⟩ := Option.map_eq_some_iff.mp h
        rw [if_neg (fun z => e (beq_iff_eq.mpr z)), addZ (by rw [hj]; exact congrArg some (Nat.succ.inj h2))]
        rfl
/-! ### classes -/
def AllF (K : PySem.W.Frag) (C : Addr) : List Str → Prop
  | [] => True
  | f :: r => NoAttr K C f ∧ AllF K C r
theorem AllF.get {K : PySem.W.Frag} {C : Addr} : ∀ {N : List Str} {f : Str} {i : Nat}, AllF K C N → N.idxOf? f = some i → NoAttr K C f
  | [], _, _, _, h => by cases h
  | n :: N, f, i, a, h => by
    rw [List.idxOf?_cons] at h
    by_cases e : (n == f) = true
    · rw [← beq_iff_eq.mp e]
      exact a.1
    · rw [if_neg e] at h
      obtain ⟨j, hj, _⟩ := Option.map_eq_some_iff.mp h
      exact AllF.get a.2 hj
/-- the class x, its fields N -/
structure Kl (K : PySem.W.Frag) (mg : Str → Option Value) (x : Str) (N : List Str) where
  C : Addr
  cl : Cls K C
  nf : AllF K C N
  len : N.length < 900
  g : mg x = some (.ref C)
structure Mkr (P : Program) (w : World) (K : PySem.W.Frag) (mg : Str → Option Value) (base : Heap) {x : Str} {N : List Str} (c : Kl K mg x N) (k : Nat) (ps : List Str) (sp : Addr → Sp) where
  f : Addr
  fd : FuncData
  mak : Mk K c.C f
  ok : FnOk P w K mg base CX0 k f fd ps (sp c.C)
  b : Binds K fd ps []
structure DnM (P : Program) (w : World) (K : PySem.W.Frag) (mg : Str → Option Value) (base : Heap) {x : Str} {N : List Str} (c : Kl K mg x N) (m : Str) (k : Nat) (ps : List Str) (sp : Sp) where
  f : Addr
  fd : FuncData
  ok : FnOk P w K mg base CX0 k f fd ps sp
  mt : Meth K c.C m f
  b : Binds K fd ps []
/-- a method with a starred parameter -/
structure DnR (P : Program) (w : World) (K : PySem.W.Frag) (mg : Str → Option Value) (base : Heap) {x : Str} {N : List Str} (c : Kl K mg x N) (m : Str) (k : Nat) (sp : Sp) where
  f : Addr
  ok : FnR P w K mg base CX0 k f sp
  mt : Meth K c.C m f
  bm : BMeth K c.C m f
/-- at a an instance of the class at C, its fields' values -/
def Ob (C : Addr) (N : List Str) (H : Hp) (a : Addr) (vs : List V) : Prop := ∃ dx, H a = some (.ins C dx (N.zip vs))
theorem Ob.same {C : Addr} {N : List Str} {H H' : Hp} {a : Addr} {vs : List V} (h : Ob C N H a vs) (s : Same H H') : Ob C N H' a vs := let ⟨dx, e⟩ := h; ⟨dx, s _ _ e⟩
section
variable {K : PySem.W.Frag} {mg : Str → Option Value} {x f : Str} {N : List Str} {H : Hp} {a dx : Addr} {vs : List V} {v : V} {i : Nat} {Q : VK}
theorem Kl.fldR (c : Kl K mg x N) (e : H a = some (.ins c.C dx (N.zip vs))) (hi : N.idxOf? f = some i) (hv : vs[i]? = some v) (q : Q v H) : ∃ a' C' dx fs v', V.ref a = .ref a' ∧ H a' = some (.ins C' dx fs) ∧ Cls K C' ∧ NoAttr K C' f ∧ fs.lookup f = some v' ∧ Q v' H :=
  ⟨a, c.C, dx, _, v, rfl, e, c.cl, c.nf.get hi, lkZ hi hv, q⟩
theorem Kl.fld (c : Kl K mg x N) (h : Ob c.C N H a vs) (hi : N.idxOf? f = some i) (hv : vs[i]? = some v) (q : Q v H) : ∃ a' C' dx fs v', V.ref a = .ref a' ∧ H a' = some (.ins C' dx fs) ∧ Cls K C' ∧ NoAttr K C' f ∧ fs.lookup f = some v' ∧ Q v' H := by
  obtain ⟨dx, e⟩ := h
  exact c.fldR e hi hv q
/-- a method's name is no field -/
theorem Kl.met {P : Prop} {C : Addr} (h : Ob C N H a vs) (hi : N.idxOf? f = none) (q : P) : ∃ a' dx fs, V.ref a = .ref a' ∧ H a' = some (.ins C dx fs) ∧ fs.lookup f = none ∧ P := by
  obtain ⟨dx, e⟩ := h
  exact ⟨a, dx, _, rfl, e, lkN hi, q⟩
end
/-! ### storing a field -/
/-- the i-th value put, also a new last one -/
def putA (vs : List V) (i : Nat) (v : V) : List V := vs.take i ++ v :: vs.drop (i + 1)
theorem putA_put {N : List Str} {f : Str} {i : Nat} {vs : List V} {v : V} (h : N.idxOf? f = some i) (hv : i ≤ vs.length) : putF f v (N.zip vs) = N.zip (putA vs i v) := by
  unfold putA
  rcases Nat.lt_or_ge i vs.length with z | z
  · rw [putZ h z, List.set_eq_take_append_cons_drop, if_pos z]
  · have e : i = vs.length := by omega
    subst e
    rw [addZ h, List.take_length, List.drop_eq_nil_of_le (by omega)]
/-- what is asked where y.f = v, and what is known then -/
def FP (K : PySem.W.Frag) (f : Str) (v y : V) (H : Hp) (D : Hp → Prop) : Prop := ∃ (a C dx : Addr) (N : List Str) (vs : List V) (i : Nat), y = .ref a ∧ H a = some (.ins C dx (N.zip vs)) ∧ Cls K C ∧ NoAttr K C f ∧ N.idxOf? f = some i ∧ i ≤ vs.length ∧ N.length < 900 ∧
  ∀ H', Off a H H' → H' a = some (.ins C dx (N.zip (putA vs i v))) → D H'
def sFldZ (K : PySem.W.Frag) (ta tv : TE) (f : Str) : TS := fun D σ H => tv σ H fun v H1 => ta σ H1 fun y H2 => FP K f v y H2 (D.nx σ)
def gFld (K : PySem.W.Frag) (to : TE) (f : Str) : TG := fun v σ H Q => to σ H fun y H1 => FP K f v y H1 (Q σ)
section
variable {X : Cx} {o value : Expr} {f : Str} {pos pos' : Pos} {to ta tv : TE}
theorem fp_ok {pins : List (Addr × Obj)} {σ : L2.St} {H : Hp} {s : Shared} {v y : V} {u ov : Value} {D : Hp → Prop} {A : Around} {E : Value → Shared → Prop} {Q : Unit → Shared → Prop} (I : Inv X pins σ H s) (r : RelV v u) (ry : RelV y ov) (h : FP X.K f v y H D) (q : ∀ H' s', Inv X pins σ H' s' → D H' → Q () s') :
    wpAny (model X.prog X.w) A (setAttr ov f u) Q E s := by
  obtain ⟨a, C, dx, N, vs, i, e, ea, c, n, hi, hl, hN, hq⟩ := h
  subst e
  obtain rfl : ov = Value.ref a := ry
  refine setattr_ok I ea c n ?_ r fun s2 I2 => ?_
  · rw [List.length_zip]
    omega
  · rw [putA_put hi hl] at I2
    exact q _ s2 I2 (hq _ Off.box upd_same)
theorem ps_fldZ (ha : PE X o ta) (hv : PE X value tv) (hs : swapsWith value (some (.Attribute o f pos')) pos.line X.env = pure false) : PS X (.Assign [.Attribute o f pos'] value pos) (sFldZ X.K ta tv f) := by
  refine ⟨fun pins s σ H D I h => ?_⟩
  exact plainObj_wpAny_Assign_Attribute (thn (hv.run pins s σ H _ I h) fun u s1 ⟨v, H1, I1, r, q⟩ => thn (ha.run pins s1 σ H1 _ I1 q) fun ov s2 ⟨y, H2, I2, ry, q2⟩ => fp_ok I2 r ry q2 fun H' s3 I3 d => ⟨σ, H', I3, d⟩) hs
theorem pg_fld (ho : PE X o to) : PG X (.Attribute o f pos) (gFld X.K to f) := by
  refine ⟨fun pins s σ H v u Q I r h => ?_⟩
  rw [assign_Attribute]
  refine wpAny_bind (wpAny_holding (thn (ho.run pins s σ H _ I h) fun ov s1 ⟨y, H1, I1, r1, q⟩ => ?_))
  exact wpAny_bind (wpAny_standAt (wpAny_bind (wpAny_holding (fp_ok I1 r r1 q fun H' s2 I2 d => wpAny_release ⟨σ, H', I2, d⟩))))
end
end M05

set_option Elab.async false
set_option linter.all false
namespace M05
open PySem PySem.Spec PyProof.Rows L2 GL
abbrev ix (N : List Str) (f : Str) : Option Nat := N.idxOf? f
def nReader : List Str := ["name", "signs", "start", "end", "token", "last_end"]
theorem ix_Reader_name : ix nReader "name" = some 0 := by decide +kernel
theorem ix_Reader_signs : ix nReader "signs" = some 1 := by decide +kernel
theorem ix_Reader_start : ix nReader "start" = some 2 := by decide +kernel
theorem ix_Reader_end : ix nReader "end" = some 3 := by decide +kernel
theorem ix_Reader_token : ix nReader "token" = some 4 := by decide +kernel
theorem ix_Reader_last_end : ix nReader "last_end" = some 5 := by decide +kernel
theorem nx_Reader_go_on : ix nReader "go_on" = none := by decide +kernel
theorem nx_Reader_take : ix nReader "take" = none := by decide +kernel
theorem nx_Reader_accept : ix nReader "accept" = none := by decide +kernel
theorem nx_Reader_take_name : ix nReader "take_name" = none := by decide +kernel
theorem nx_Reader_is_number : ix nReader "is_number" = none := by decide +kernel
theorem nx_Reader_is_string : ix nReader "is_string" = none := by decide +kernel
theorem nx_Reader_take_number : ix nReader "take_number" = none := by decide +kernel
theorem nx_Reader_take_string : ix nReader "take_string" = none := by decide +kernel
theorem nx_Reader_read_literal : ix nReader "read_literal" = none := by decide +kernel
theorem nx_Reader_read_path : ix nReader "read_path" = none := by decide +kernel
theorem nx_Reader_read_term : ix nReader "read_term" = none := by decide +kernel
theorem nx_Reader_read_simple : ix nReader "read_simple" = none := by decide +kernel
theorem nx_Reader_read_value : ix nReader "read_value" = none := by decide +kernel
theorem nx_Reader_read_entry : ix nReader "read_entry" = none := by decide +kernel
theorem nx_Reader_read_body : ix nReader "read_body" = none := by decide +kernel
theorem nx_Reader_read_list_field : ix nReader "read_list_field" = none := by decide +kernel
theorem nx_Reader_read_list : ix nReader "read_list" = none := by decide +kernel
theorem nx_Reader_read_template : ix nReader "read_template" = none := by decide +kernel
theorem nx_Reader_read_all : ix nReader "read_all" = none := by decide +kernel
def nLiteral : List Str := ["value", "start", "end"]
theorem ix_Literal_value : ix nLiteral "value" = some 0 := by decide +kernel
theorem ix_Literal_start : ix nLiteral "start" = some 1 := by decide +kernel
theorem ix_Literal_end : ix nLiteral "end" = some 2 := by decide +kernel
def nTerm : List Str := ["factor", "path", "is_plain"]
theorem ix_Term_factor : ix nTerm "factor" = some 0 := by decide +kernel
theorem ix_Term_path : ix nTerm "path" = some 1 := by decide +kernel
theorem ix_Term_is_plain : ix nTerm "is_plain" = some 2 := by decide +kernel
def nEntry : List Str := ["name", "name_start", "value", "is_hidden", "start", "end"]
theorem ix_Entry_name : ix nEntry "name" = some 0 := by decide +kernel
theorem ix_Entry_name_start : ix nEntry "name_start" = some 1 := by decide +kernel
theorem ix_Entry_value : ix nEntry "value" = some 2 := by decide +kernel
theorem ix_Entry_is_hidden : ix nEntry "is_hidden" = some 3 := by decide +kernel
theorem ix_Entry_start : ix nEntry "start" = some 4 := by decide +kernel
theorem ix_Entry_end : ix nEntry "end" = some 5 := by decide +kernel
def nBody : List Str := ["entries", "start", "end"]
theorem ix_Body_entries : ix nBody "entries" = some 0 := by decide +kernel
theorem ix_Body_start : ix nBody "start" = some 1 := by decide +kernel
theorem ix_Body_end : ix nBody "end" = some 2 := by decide +kernel
theorem nx_Body_entry_of : ix nBody "entry_of" = none := by decide +kernel
def nTemplate : List Str := ["name", "name_start", "body", "base", "base_start"]
theorem ix_Template_name : ix nTemplate "name" = some 0 := by decide +kernel
theorem ix_Template_name_start : ix nTemplate "name_start" = some 1 := by decide +kernel
theorem ix_Template_body : ix nTemplate "body" = some 2 := by decide +kernel
theorem ix_Template_base : ix nTemplate "base" = some 3 := by decide +kernel
theorem ix_Template_base_start : ix nTemplate "base_start" = some 4 := by decide +kernel
def nListField : List Str := ["name", "start", "kind"]
theorem ix_ListField_name : ix nListField "name" = some 0 := by decide +kernel
theorem ix_ListField_start : ix nListField "start" = some 1 := by decide +kernel
theorem ix_ListField_kind : ix nListField "kind" = some 2 := by decide +kernel
def nListSource : List Str := ["name", "name_start", "fields", "item_bodies", "open_end", "close_start"]
theorem ix_ListSource_name : ix nListSource "name" = some 0 := by decide +kernel
theorem ix_ListSource_name_start : ix nListSource "name_start" = some 1 := by decide +kernel
theorem ix_ListSource_fields : ix nListSource "fields" = some 2 := by decide +kernel
theorem ix_ListSource_item_bodies : ix nListSource "item_bodies" = some 3 := by decide +kernel
theorem ix_ListSource_open_end : ix nListSource "open_end" = some 4 := by decide +kernel
theorem ix_ListSource_close_start : ix nListSource "close_start" = some 5 := by decide +kernel
theorem nx_ListSource_kind_of : ix nListSource "kind_of" = none := by decide +kernel
def nFileSource : List Str := ["name", "signs", "imports", "templates", "list_sources", "document", "document_start"]
theorem ix_FileSource_name : ix nFileSource "name" = some 0 := by decide +kernel
theorem ix_FileSource_signs : ix nFileSource "signs" = some 1 := by decide +kernel
theorem ix_FileSource_imports : ix nFileSource "imports" = some 2 := by decide +kernel
theorem ix_FileSource_templates : ix nFileSource "templates" = some 3 := by decide +kernel
theorem ix_FileSource_list_sources : ix nFileSource "list_sources" = some 4 := by decide +kernel
theorem ix_FileSource_document : ix nFileSource "document" = some 5 := by decide +kernel
theorem ix_FileSource_document_start : ix nFileSource "document_start" = some 6 := by decide +kernel
def nField : List Str := ["name", "is_hidden", "value", "kind", "target", "loop", "list"]
theorem ix_Field_name : ix nField "name" = some 0 := by decide +kernel
theorem ix_Field_is_hidden : ix nField "is_hidden" = some 1 := by decide +kernel
theorem ix_Field_value : ix nField "value" = some 2 := by decide +kernel
theorem ix_Field_kind : ix nField "kind" = some 3 := by decide +kernel
theorem ix_Field_target : ix nField "target" = some 4 := by decide +kernel
theorem ix_Field_loop : ix nField "loop" = some 5 := by decide +kernel
theorem ix_Field_list : ix nField "list" = some 6 := by decide +kernel
def nSources : List Str := ["by_name", "known_fields"]
theorem ix_Sources_by_name : ix nSources "by_name" = some 0 := by decide +kernel
theorem ix_Sources_known_fields : ix nSources "known_fields" = some 1 := by decide +kernel
theorem nx_Sources_file_named : ix nSources "file_named" = none := by decide +kernel
theorem nx_Sources_known_files : ix nSources "known_files" = none := by decide +kernel
theorem nx_Sources_template_of : ix nSources "template_of" = none := by decide +kernel
theorem nx_Sources_list_of : ix nSources "list_of" = none := by decide +kernel
theorem nx_Sources_own_template : ix nSources "own_template" = none := by decide +kernel
theorem nx_Sources_owner_body : ix nSources "owner_body" = none := by decide +kernel
theorem nx_Sources_template_behind : ix nSources "template_behind" = none := by decide +kernel
theorem nx_Sources_base_of : ix nSources "base_of" = none := by decide +kernel
theorem nx_Sources_fields_of : ix nSources "fields_of" = none := by decide +kernel
theorem nx_Sources_field_for : ix nSources "field_for" = none := by decide +kernel
theorem nx_Sources_kind_of : ix nSources "kind_of" = none := by decide +kernel
theorem nx_Sources_choice_kind : ix nSources "choice_kind" = none := by decide +kernel
theorem nx_Sources_owners : ix nSources "owners" = none := by decide +kernel
theorem nx_Sources_settle : ix nSources "settle" = none := by decide +kernel
def nHome : List Str := ["sources", "owner", "loop", "list"]
theorem ix_Home_sources : ix nHome "sources" = some 0 := by decide +kernel
theorem ix_Home_owner : ix nHome "owner" = some 1 := by decide +kernel
theorem ix_Home_loop : ix nHome "loop" = some 2 := by decide +kernel
theorem ix_Home_list : ix nHome "list" = some 3 := by decide +kernel
theorem nx_Home_within : ix nHome "within" = none := by decide +kernel
theorem nx_Home_is_item : ix nHome "is_item" = none := by decide +kernel
theorem nx_Home_leads : ix nHome "leads" = none := by decide +kernel
theorem nx_Home_kind_at : ix nHome "kind_at" = none := by decide +kernel
def nProject : List Str := ["own_files", "own_texts", "sources", "own_documents", "evaluation", "places", "own_serials", "own_nexts"]
theorem ix_Project_own_files : ix nProject "own_files" = some 0 := by decide +kernel
theorem ix_Project_own_texts : ix nProject "own_texts" = some 1 := by decide +kernel
theorem ix_Project_sources : ix nProject "sources" = some 2 := by decide +kernel
theorem ix_Project_own_documents : ix nProject "own_documents" = some 3 := by decide +kernel
theorem ix_Project_evaluation : ix nProject "evaluation" = some 4 := by decide +kernel
theorem ix_Project_places : ix nProject "places" = some 5 := by decide +kernel
theorem ix_Project_own_serials : ix nProject "own_serials" = some 6 := by decide +kernel
theorem ix_Project_own_nexts : ix nProject "own_nexts" = some 7 := by decide +kernel
theorem nx_Project_list_sizes : ix nProject "list_sizes" = none := by decide +kernel
end M05

set_option Elab.async false
set_option linter.all false
set_option maxRecDepth 100000
set_option maxHeartbeats 4000000
/-! a head by one kernel run, looked at in several declarations: the written part is what stands at given addresses, empty tables left out -/
namespace Hk
open PySem PySem.W PySem.Calls PySem.Spec PyProof.Rows L2
/-- what is looked at: facts by names, other tests, defs -/
structure Look where
  fa : List He.Fa
  ex : List (Frag → Bool)
  defs : List He.DefD
abbrev Seen : Type := List Bool × (List Bool × (List Bool × List He.FnW))
def Look.see (L : Look) (K : Frag) : Seen := (L.fa.map fun f => f.ok K, L.ex.map fun t => t K, L.defs.map fun d => d.ok K, L.defs.map fun d => He.fnW K d.at_)
def Look.due (L : Look) : Seen := (L.fa.map fun _ => true, L.ex.map fun _ => true, L.defs.map fun _ => true, L.defs.map He.DefD.val)
theorem at_of {α β : Type} {l : List α} {f g : α → β} (e : l.map f = l.map g) {i : Nat} {x : α} (h : l[i]? = some x) : f x = g x := by
  have e2 : (l.map f)[i]? = (l.map g)[i]? := by rw [e]
  rw [List.getElem?_map, List.getElem?_map, h] at e2
  exact Option.some.inj e2
section
variable {L : Look} {K : Frag}
theorem Look.fact (c : L.see K = L.due) (i : Nat) {f : He.Fa} (h : L.fa[i]? = some f := by rfl) : f.ok K = true := at_of (congrArg (fun z : Seen => z.1) c) h
theorem Look.test (c : L.see K = L.due) (i : Nat) {t : Frag → Bool} (h : L.ex[i]? = some t := by rfl) : t K = true := at_of (congrArg (fun z : Seen => z.2.1) c) h
theorem Look.def_ (c : L.see K = L.due) (i : Nat) {d : He.DefD} (h : L.defs[i]? = some d := by rfl) : ∃ fd, FunD K d.name d.qual d.params d.body d.scope (d.dvs K) (d.kws K) (He.fAd K d.at_) fd :=
  He.DefD.funD (at_of (congrArg (fun z : Seen => z.2.2.2) c) h) (at_of (congrArg (fun z : Seen => z.2.2.1) c) h)
end
/-! ### the Hook: some looks, and tables of code objects -/
def part (as : List Addr) (g : Addr → Option Obj) : Frag := He.frT g as
abbrev Al : Type := List Seen × Bool
structure Says (as : List Addr) (Ls : List Look) (tf : List He.Defn) (h : Heap) (K : Frag) : Prop where
  see : ∀ L ∈ Ls, L.see K = L.due
  hd : ∀ p ∈ tf, codeHdIn K (He.cT K p).1 (He.cT K p).2 = true
  out : ∀ p ∈ tf, K.lookup (He.cT K p).2 = none
  empty : ∀ p ∈ tf, h.get? (He.cT K p).2 = some { cls := .none, data := .fields #[] }
theorem all_of {α β : Type} {l : List α} {f g : α → β} (e : l.map f = l.map g) : ∀ x ∈ l, f x = g x := List.map_inj_left.mp e
def hook (as : List Addr) (Ls : List Look) (tf : List He.Defn) : Hook where
  α := Al
  obs := fun s => (Ls.map fun L => L.see (part as s.heap.get?), He.tabsB s.heap.get? tf (part as s.heap.get?))
  val := fun _ => (Ls.map Look.due, true)
  says := fun _ h => ∃ K : Frag, K.In h ∧ Says as Ls tf h K
  of := fun _ s e => by
    refine ⟨part as s.heap.get?, He.frT_in, all_of (congrArg (fun z : Al => z.1) e), ?_, ?_, ?_⟩
    all_goals
      intro p hp
      obtain ⟨h1, h2⟩ := He.ba (List.all_eq_true.mp (congrArg (fun z : Al => z.2) e) p hp)
    · exact h1
    · cases q : s.heap.get? (He.cT (part as s.heap.get?) p).2 with
      | none =>
        rw [q] at h2
        cases h2
      | some o =>
        rw [q] at h2
        exact He.frT_none q h2
    · cases q : s.heap.get? (He.cT (part as s.heap.get?) p).2 with
      | none =>
        rw [q] at h2
        cases h2
      | some o =>
        rw [q] at h2
        exact congrArg some (He.emptyTab_eq h2)
  keeps := fun _ _ _ z kp => z.elim fun K y => ⟨K, Frag.In.keeps y.1 kp, y.2.see, y.2.hd, y.2.out, fun p hp => kp _ _ (y.2.empty p hp)⟩
def ob (as : List Addr) (Ls : List Look) (tf : List He.Defn) (s : SharedT) : Al := (Ls.map fun L => L.see (part as (HandSHeadRun.getT s)), He.tabsB (HandSHeadRun.getT s) tf (part as (HandSHeadRun.getT s)))
theorem ob_eq {as : List Addr} {Ls : List Look} {tf : List He.Defn} (s : SharedT) : ob as Ls tf s = (hook as Ls tf).obs s.abs := by
  have e : HandSHeadRun.getT s = s.abs.heap.get? := funext (HandSHeadRun.getT_eq s)
  show (Ls.map fun L => L.see (part as (HandSHeadRun.getT s)), He.tabsB (HandSHeadRun.getT s) tf (part as (HandSHeadRun.getT s))) = _
  rw [e]
  rfl
/-- the looks of one run, joined -/
theorem join {α β γ : Type} {o : Option α} {f : α → β} {g : α → γ} {t : α → Bool} {Ls : List Look} {K : α → Frag} {x : β} {y : γ} (e1 : o.map f = some x) (e2 : o.map g = some y) (e3 : ∀ L ∈ Ls, o.map (fun s => L.see (K s)) = some L.due) (e4 : o.map t = some true) :
    o.map (fun s => (f s, g s, (Ls.map fun L => L.see (K s), t s))) = some (x, y, (Ls.map Look.due, true)) := by
  cases o with
  | none => cases e1
  | some s =>
    have h1 : f s = x := Option.some.inj e1
    have h2 : g s = y := Option.some.inj e2
    have h4 : t s = true := Option.some.inj e4
    have h3 : (Ls.map fun L => L.see (K s)) = Ls.map Look.due := List.map_inj_left.mpr fun L hL => Option.some.inj (e3 L hL)
    show some (f s, g s, (Ls.map fun L => L.see (K s), t s)) = _
    rw [h1, h2, h3, h4]
/-- a class: its name, what it must have, its fields' names -/
def klB (K : Frag) (x : PySem.Str) (N : List PySem.Str) : Bool := (He.Fa.glo x).ok K && ((He.Fa.cls x).ok K && N.all fun f => He.eqO (findIn K (.ref (He.ga K x)) f) (some none))
def bmB (K : Frag) (C : Addr) (f : Addr) : Bool := He.eqO (specialIn K (.ref f) "__get__") (some (some (.builtin "function.__get__"))) && (decide (takesIn K (.ref f) = some false) && fnIn K f)
def oexB (K : Frag) (C : Addr) : Bool := match K.lookup C with
  | some ⟨.type c, _, .cls cd, sl⟩ => decide (c = "type") && (match cd.mro, sl.toList with
    | .ref C' :: bm, [_, _, _, _, some (.builtin n), _] => decide (C' = C) && (decide (n = "ValueError.__new__") && (!cd.hasDel && (cd.hasDict && PySem.HandSPX.refsVE bm)))
    | _, _ => false)
  | _ => false
def valB (K : Frag) (C : Addr) (mc : Value) (x : PySem.Str) (v : Value) : Bool := match findCls K (.ref C) mc x with
  | some (.val u) => decide (u = v)
  | _ => false
end Hk

set_option Elab.async false
set_option linter.all false
set_option maxRecDepth 100000
set_option maxHeartbeats 4000000
/-! what the head is asked for -/
namespace M05
open PySem PySem.Spec PyProof.Rows L2 GL
def fa0_0 : List He.Fa := [.glo "Body",
  .glo "Use",
  .glo "Loop",
  .glo "Sum",
  .glo "Choice",
  .glo "Literal",
  .glo "SourceError",
  .glo "BackError",
  .glo "BadFiles",
  .glo "NoFile",
  .free "len",
  .free "abs",
  .free "int",
  .free "max",
  .free "min",
  .free "range",
  .free "list",
  .free "all",
  .free "any",
  .free "isinstance"]
def fa0_1 : List He.Fa := [.free "str",
  .free "tuple",
  .free "sorted",
  .free "ord",
  .free "dict",
  .free "set",
  .free "ValueError",
  .str "LETTERS" "abcdefghijklmnopqrstuvwxyz",
  .str "DIGITS" "0123456789",
  .str "SIGNS" "{}[]():.,=+-*",
  .str "QUOTE" "\"",
  .str "BACKSLASH" "\\",
  .str "REMARK" "#",
  .str "FEED" "\n",
  .str "END" "",
  .str "PLUS" "+",
  .str "MINUS" "-",
  .str "RECORD" "record",
  .str "ROWS" "rows",
  .str "NUMBER" "number"]
def fa0_2 : List He.Fa := [.str "TEXT" "text",
  .str "PLAIN" "plain",
  .str "DOCUMENT" "",
  .int "MOST_IN_STRING" 60,
  .int "LEAST_CODE" 32,
  .int "MOST_CODE" 126,
  .int "MOST_LETTERS" 12,
  .int "MOST_FILES" 6,
  .int "PAIR" 2,
  .glo "GAPS",
  .glo "KINDS",
  .glo "KEYWORDS",
  .glo "law",
  .glo "_law_error",
  .glo "is_word",
  .glo "is_name",
  .glo "is_file",
  .glo "are_files",
  .glo "behind_gap",
  .glo "run_end"]
def fa0 : List He.Fa := fa0_0 ++ fa0_1 ++ fa0_2
def F_0 : Hk.Look := ⟨fa0, [], []⟩
def fa1_0 : List He.Fa := [.glo "is_string_part",
  .glo "token_end",
  .meth "Reader" "go_on",
  .mkr "Reader",
  .mkr "FileSource",
  .meth "Reader" "accept",
  .meth "Reader" "take_name",
  .mkr "ListSource",
  .meth "Reader" "take",
  .mkr "ListField",
  .meth "Reader" "read_list_field",
  .meth "Reader" "read_list",
  .mkr "Template",
  .mkr "Body",
  .mkr "Entry",
  .mkr "Literal",
  .meth "Reader" "is_string",
  .mkr "Term",
  .meth "Reader" "is_number",
  .meth "Reader" "take_number"]
def fa1_1 : List He.Fa := [.meth "Reader" "read_term",
  .meth "Reader" "read_simple",
  .meth "Reader" "read_value",
  .meth "Reader" "read_entry",
  .meth "Reader" "read_body",
  .meth "Reader" "read_template",
  .meth "Reader" "read_all",
  .glo "read_file",
  .mkr "Sources",
  .glo "raise_first",
  .glo "wrong_imports",
  .glo "own_names",
  .glo "repeated",
  .glo "repeated_imports",
  .glo "outer_bodies",
  .glo "loops_of",
  .glo "bodies_in",
  .glo "entries_within",
  .glo "all_bodies",
  .glo "repeated_names"]
def fa1_2 : List He.Fa := [.glo "unknown_names",
  .glo "used_by",
  .glo "uses_itself",
  .glo "rings",
  .mkr "Home",
  .meth "Sources" "own_template",
  .meth "Sources" "template_behind",
  .meth "Sources" "base_of",
  .meth "Sources" "owner_body",
  .mkr "Field",
  .meth "Sources" "field_for",
  .meth "Sources" "fields_of",
  .glo "paths_of",
  .glo "lost_paths",
  .glo "wrong_declared",
  .glo "wrong_fields",
  .glo "check_names",
  .glo "sources_of",
  .meth "Sources" "owners",
  .glo "literal_kind"]
def fa1 : List He.Fa := fa1_0 ++ fa1_1 ++ fa1_2
def F_1 : Hk.Look := ⟨fa1, [], []⟩
def fa2_0 : List He.Fa := [.meth "Sources" "kind_of",
  .meth "Sources" "settle",
  .glo "wrong_side",
  .glo "wrong_value",
  .glo "wrong_in_declared",
  .glo "wrong_items",
  .glo "wrong_kinds",
  .glo "check_kinds",
  .glo "check_circles",
  .glo "read_sources",
  .meth "Sources" "file_named",
  .meth "Project" "list_sizes",
  .mkr "Project",
  .meth "Project" "__len__",
  .glo "_law_box",
  .glo "_law_take",
  .glo "_law_of",
  .glo "_law_put",
  .glo "_law_files",
  .glo "_law_due"]
def fa2 : List He.Fa := fa2_0
def F_2 : Hk.Look := ⟨fa2, [], []⟩
def ex0_0 : List (PySem.W.Frag → Bool) := [fun K => Hk.klB K "Reader" nReader,
  fun K => Hk.klB K "Literal" nLiteral,
  fun K => Hk.klB K "Term" nTerm,
  fun K => Hk.klB K "Entry" nEntry,
  fun K => Hk.klB K "Body" nBody,
  fun K => Hk.klB K "Template" nTemplate,
  fun K => Hk.klB K "ListField" nListField,
  fun K => Hk.klB K "ListSource" nListSource,
  fun K => Hk.klB K "FileSource" nFileSource,
  fun K => Hk.klB K "Field" nField,
  fun K => Hk.klB K "Sources" nSources,
  fun K => Hk.klB K "Home" nHome,
  fun K => Hk.klB K "Project" nProject,
  fun K => decide (PySem.W.findIn K (.ref (He.ga K "Literal")) "__class__" = some (some (.builtin "object.__class__"))),
  fun K => decide (PySem.W.specialIn K (.builtin "object.__class__") "__get__" = some (some (.builtin "getset_descriptor.__get__"))),
  fun K => decide (PySem.W.takesIn K (.builtin "object.__class__") = some true),
  fun K => decide (PySem.W.mroIn K (He.ga K "Literal") (.type "object") = some true),
  fun K => decide (PySem.W.kitOne K (.ref (He.ga K "Literal")) (.ref (He.ga K "Body")) = some false),
  fun K => decide (PySem.W.kitOne K (.ref (He.ga K "Literal")) (.ref (He.ga K "Use")) = some false),
  fun K => decide (PySem.W.kitOne K (.ref (He.ga K "Literal")) (.ref (He.ga K "Loop")) = some false)]
def ex0_1 : List (PySem.W.Frag → Bool) := [fun K => decide (PySem.W.kitOne K (.ref (He.ga K "Literal")) (.ref (He.ga K "Sum")) = some false),
  fun K => decide (PySem.W.kitOne K (.ref (He.ga K "Literal")) (.ref (He.ga K "Choice")) = some false),
  fun K => decide (PySem.W.kitOne K (.ref (He.ga K "Literal")) (.ref (He.ga K "Literal")) = some true),
  fun K => Hk.oexB K (He.ga K "SourceError"),
  fun K => decide (PySem.W.findIn K (.ref (He.ga K "SourceError")) "__setattr__" = some (some (.builtin "object.__setattr__"))),
  fun K => decide (PySem.W.subIn K (.ref (He.ga K "SourceError")) (.type "BaseException") = some true),
  fun K => decide (PySem.W.typeIn K (.ref (He.ga K "SourceError")) = some (.type "type")),
  fun K => PySem.W.keepIn K (.ref (He.ga K "SourceError")),
  fun K => decide (PySem.W.findIn K (.ref (He.ga K "SourceError")) "word" = some none),
  fun K => decide (PySem.W.findIn K (.ref (He.ga K "SourceError")) "file" = some none),
  fun K => decide (PySem.W.findIn K (.ref (He.ga K "SourceError")) "index" = some none),
  fun K => decide (PySem.W.specialIn K (.ref (He.ga K "BackError")) "__getattribute__" = some (some (.builtin "type.__getattribute__"))),
  fun K => decide (PySem.W.typeIn K (.ref (He.ga K "BackError")) = some (.type "type")),
  fun K => PySem.W.readsIn K (He.ga K "BackError") (.type "type"),
  fun K => Hk.valB K (He.ga K "BackError") (.type "type") "__init__" (.builtin "ValueError.__init__"),
  fun K => decide (PySem.W.findIn K (.ref (He.ga K "SourceError")) "__getattribute__" = some (some (.builtin "BaseException.__getattribute__"))),
  fun K => decide (PySem.W.findIn K (.ref (He.ga K "SourceError")) "__getattr__" = some none),
  fun K => PySem.W.hasDictIn K (He.ga K "SourceError"),
  fun K => decide (PySem.W.findIn K (.ref (He.ga K "SourceError")) "__class__" = some (some (.builtin "object.__class__"))),
  fun K => decide (PySem.W.mroIn K (He.ga K "SourceError") (.type "object") = some true)]
def ex0_2 : List (PySem.W.Frag → Bool) := [fun K => decide (PySem.W.exmOne K (.ref (He.ga K "SourceError")) (.ref (He.ga K "BackError")) = some true),
  fun K => decide (PySem.W.kitOne K (.ref (He.ga K "SourceError")) (.ref (He.ga K "SourceError")) = some true),
  fun K => decide (PySem.W.kitAny K (.ref (He.ga K "SourceError")) [.ref (He.ga K "BadFiles"), .ref (He.ga K "NoFile")] = some false),
  fun K => decide (PySem.W.kitOne K (.ref (He.ga K "SourceError")) (.type "ValueError") = some true),
  fun K => He.tupB K "GAPS" [.str " ", .str "\n"],
  fun K => He.tupB K "KINDS" [.str "number", .str "text"],
  fun K => He.tupB K "KEYWORDS" [.str "\x69mport", .str "template", .str "list", .str "document", .str "let", .str "new", .str "for", .str "in", .str "where", .str "give", .str "if", .str "then", .str "else"],
  fun K => Hk.bmB K (He.ga K "Reader") (He.ma K (He.ga K "Reader") "take"),
  fun K => decide (PySem.W.findIn K (.ref (He.ga K "SourceError")) "__init__" = some (some (.ref (He.ma K (He.ga K "SourceError") "__init__")))),
  fun K => decide (PySem.W.typeIn K (.ref (He.ma K (He.ga K "SourceError") "__init__")) = some (.type "function")),
  fun K => Hk.bmB K (He.ga K "Sources") (He.ma K (He.ga K "Sources") "template_behind"),
  fun K => Hk.bmB K (He.ga K "Sources") (He.ma K (He.ga K "Sources") "owner_body"),
  fun K => Hk.bmB K (He.ga K "Sources") (He.ma K (He.ga K "Sources") "fields_of")]
def ex0 : List (PySem.W.Frag → Bool) := ex0_0 ++ ex0_1 ++ ex0_2
def T_0 : Hk.Look := ⟨[], ex0, []⟩
def de0_0 : List He.DefD := [⟨("_law_error", none), "_law_error", "_law_error", defArgs s_law_error, defBody s_law_error, defScope s_law_error, [], []⟩,
  ⟨("Project", some "__init__"), "__init__", "Project.__init__", defArgs m_Project_init, defBody m_Project_init, defScope m_Project_init, [], []⟩,
  ⟨("are_files", none), "are_files", "are_files", defArgs s_are_files, defBody s_are_files, defScope s_are_files, [], []⟩,
  ⟨("is_file", none), "is_file", "is_file", defArgs s_is_file, defBody s_is_file, defScope s_is_file, [], []⟩,
  ⟨("is_name", none), "is_name", "is_name", defArgs s_is_name, defBody s_is_name, defScope s_is_name, [], []⟩,
  ⟨("is_word", none), "is_word", "is_word", defArgs s_is_word, defBody s_is_word, defScope s_is_word, [], []⟩,
  ⟨("read_sources", none), "read_sources", "read_sources", defArgs s_read_sources, defBody s_read_sources, defScope s_read_sources, [], []⟩,
  ⟨("read_file", none), "read_file", "read_file", defArgs s_read_file, defBody s_read_file, defScope s_read_file, [], []⟩,
  ⟨("Reader", some "__init__"), "__init__", "Reader.__init__", defArgs m_Reader_init, defBody m_Reader_init, defScope m_Reader_init, [], []⟩,
  ⟨("Reader", some "go_on"), "go_on", "Reader.go_on", defArgs m_Reader_go_on, defBody m_Reader_go_on, defScope m_Reader_go_on, [], []⟩,
  ⟨("behind_gap", none), "behind_gap", "behind_gap", defArgs sGap, defBody sGap, defScope sGap, [], []⟩,
  ⟨("token_end", none), "token_end", "token_end", defArgs sTokEnd, defBody sTokEnd, defScope sTokEnd, [], []⟩,
  ⟨("run_end", none), "run_end", "run_end", defArgs sRun, defBody sRun, defScope sRun, [], []⟩,
  ⟨("is_string_part", none), "is_string_part", "is_string_part", defArgs sPart, defBody sPart, defScope sPart, [], []⟩,
  ⟨("Reader", some "read_all"), "read_all", "Reader.read_all", defArgs m_Reader_read_all, defBody m_Reader_read_all, defScope m_Reader_read_all, [], []⟩,
  ⟨("FileSource", some "__init__"), "__init__", "FileSource.__init__", defArgs m_FileSource_init, defBody m_FileSource_init, defScope m_FileSource_init, [], []⟩,
  ⟨("Reader", some "accept"), "accept", "Reader.accept", defArgs m_Reader_accept, defBody m_Reader_accept, defScope m_Reader_accept, [], []⟩,
  ⟨("Reader", some "take_name"), "take_name", "Reader.take_name", defArgs m_Reader_take_name, defBody m_Reader_take_name, defScope m_Reader_take_name, [], []⟩,
  ⟨("Reader", some "read_list"), "read_list", "Reader.read_list", defArgs m_Reader_read_list, defBody m_Reader_read_list, defScope m_Reader_read_list, [], []⟩,
  ⟨("ListSource", some "__init__"), "__init__", "ListSource.__init__", defArgs m_ListSource_init, defBody m_ListSource_init, defScope m_ListSource_init, [], []⟩]
def de0_1 : List He.DefD := [⟨("Reader", some "take"), "take", "Reader.take", defArgs m_Reader_take, defBody m_Reader_take, defScope m_Reader_take, [], []⟩,
  ⟨("Reader", some "read_list_field"), "read_list_field", "Reader.read_list_field", defArgs m_Reader_read_list_field, defBody m_Reader_read_list_field, defScope m_Reader_read_list_field, [], []⟩,
  ⟨("ListField", some "__init__"), "__init__", "ListField.__init__", defArgs m_ListField_init, defBody m_ListField_init, defScope m_ListField_init, [], []⟩]
def de0 : List He.DefD := de0_0 ++ de0_1
def D_0 : Hk.Look := ⟨[], [], de0⟩
def de1_0 : List He.DefD := [⟨("Reader", some "read_template"), "read_template", "Reader.read_template", defArgs m_Reader_read_template, defBody m_Reader_read_template, defScope m_Reader_read_template, [], []⟩,
  ⟨("Template", some "__init__"), "__init__", "Template.__init__", defArgs m_Template_init, defBody m_Template_init, defScope m_Template_init, [], []⟩,
  ⟨("Reader", some "read_body"), "read_body", "Reader.read_body", defArgs m_Reader_read_body, defBody m_Reader_read_body, defScope m_Reader_read_body, [], []⟩,
  ⟨("Body", some "__init__"), "__init__", "Body.__init__", defArgs m_Body_init, defBody m_Body_init, defScope m_Body_init, [], []⟩,
  ⟨("Reader", some "read_entry"), "read_entry", "Reader.read_entry", defArgs m_Reader_read_entry, defBody m_Reader_read_entry, defScope m_Reader_read_entry, [], []⟩,
  ⟨("Entry", some "__init__"), "__init__", "Entry.__init__", defArgs m_Entry_init, defBody m_Entry_init, defScope m_Entry_init, [], []⟩,
  ⟨("Reader", some "read_value"), "read_value", "Reader.read_value", defArgs m_Reader_read_value, defBody m_Reader_read_value, defScope m_Reader_read_value, [], []⟩,
  ⟨("Reader", some "read_simple"), "read_simple", "Reader.read_simple", defArgs m_Reader_read_simple, defBody m_Reader_read_simple, defScope m_Reader_read_simple, [], []⟩,
  ⟨("Literal", some "__init__"), "__init__", "Literal.__init__", defArgs m_Literal_init, defBody m_Literal_init, defScope m_Literal_init, [], []⟩,
  ⟨("Reader", some "is_string"), "is_string", "Reader.is_string", defArgs m_Reader_is_string, defBody m_Reader_is_string, defScope m_Reader_is_string, [], []⟩,
  ⟨("Reader", some "read_term"), "read_term", "Reader.read_term", defArgs m_Reader_read_term, defBody m_Reader_read_term, defScope m_Reader_read_term, [], []⟩,
  ⟨("Term", some "__init__"), "__init__", "Term.__init__", defArgs m_Term_init, defBody m_Term_init, defScope m_Term_init, [], []⟩,
  ⟨("Reader", some "is_number"), "is_number", "Reader.is_number", defArgs m_Reader_is_number, defBody m_Reader_is_number, defScope m_Reader_is_number, [], []⟩,
  ⟨("Reader", some "take_number"), "take_number", "Reader.take_number", defArgs m_Reader_take_number, defBody m_Reader_take_number, defScope m_Reader_take_number, [], []⟩,
  ⟨("sources_of", none), "sources_of", "sources_of", defArgs s_sources_of, defBody s_sources_of, defScope s_sources_of, [], []⟩,
  ⟨("Sources", some "__init__"), "__init__", "Sources.__init__", defArgs m_Sources_init, defBody m_Sources_init, defScope m_Sources_init, [], []⟩,
  ⟨("check_names", none), "check_names", "check_names", defArgs s_check_names, defBody s_check_names, defScope s_check_names, [], []⟩,
  ⟨("raise_first", none), "raise_first", "raise_first", defArgs s_raise_first, defBody s_raise_first, defScope s_raise_first, [], []⟩,
  ⟨("SourceError", some "__init__"), "__init__", "SourceError.__init__", defArgs m_SourceError_init, defBody m_SourceError_init, defScope m_SourceError_init, [], []⟩,
  ⟨("wrong_imports", none), "wrong_imports", "wrong_imports", defArgs s_wrong_imports, defBody s_wrong_imports, defScope s_wrong_imports, [], []⟩]
def de1_1 : List He.DefD := [⟨("repeated_names", none), "repeated_names", "repeated_names", defArgs s_repeated_names, defBody s_repeated_names, defScope s_repeated_names, [], []⟩,
  ⟨("own_names", none), "own_names", "own_names", defArgs s_own_names, defBody s_own_names, defScope s_own_names, [], []⟩,
  ⟨("repeated", none), "repeated", "repeated", defArgs s_repeated, defBody s_repeated, defScope s_repeated, [], []⟩]
def de1 : List He.DefD := de1_0 ++ de1_1
def D_1 : Hk.Look := ⟨[], [], de1⟩
def de2_0 : List He.DefD := [⟨("repeated_imports", none), "repeated_imports", "repeated_imports", defArgs s_repeated_imports, defBody s_repeated_imports, defScope s_repeated_imports, [], []⟩,
  ⟨("outer_bodies", none), "outer_bodies", "outer_bodies", defArgs s_outer_bodies, defBody s_outer_bodies, defScope s_outer_bodies, [], []⟩,
  ⟨("loops_of", none), "loops_of", "loops_of", defArgs s_loops_of, defBody s_loops_of, defScope s_loops_of, [], []⟩,
  ⟨("all_bodies", none), "all_bodies", "all_bodies", defArgs s_all_bodies, defBody s_all_bodies, defScope s_all_bodies, [], []⟩,
  ⟨("bodies_in", none), "bodies_in", "bodies_in", defArgs s_bodies_in, defBody s_bodies_in, defScope s_bodies_in, [], []⟩,
  ⟨("entries_within", none), "entries_within", "entries_within", defArgs s_entries_within, defBody s_entries_within, defScope s_entries_within, [], []⟩,
  ⟨("unknown_names", none), "unknown_names", "unknown_names", defArgs s_unknown_names, defBody s_unknown_names, defScope s_unknown_names, [], []⟩,
  ⟨("rings", none), "rings", "rings", defArgs s_rings, defBody s_rings, defScope s_rings, [], []⟩,
  ⟨("uses_itself", none), "uses_itself", "uses_itself", defArgs s_uses_itself, defBody s_uses_itself, defScope s_uses_itself, [], []⟩,
  ⟨("used_by", none), "used_by", "used_by", defArgs s_used_by, defBody s_used_by, defScope s_used_by, [], []⟩,
  ⟨("wrong_fields", none), "wrong_fields", "wrong_fields", defArgs s_wrong_fields, defBody s_wrong_fields, defScope s_wrong_fields, [], []⟩,
  ⟨("Home", some "__init__"), "__init__", "Home.__init__", defArgs m_Home_init, defBody m_Home_init, defScope m_Home_init, [], []⟩,
  ⟨("wrong_declared", none), "wrong_declared", "wrong_declared", defArgs s_wrong_declared, defBody s_wrong_declared, defScope s_wrong_declared, [], []⟩,
  ⟨("Sources", some "fields_of"), "fields_of", "Sources.fields_of", defArgs m_Sources_fields_of, defBody m_Sources_fields_of, defScope m_Sources_fields_of, [], []⟩,
  ⟨("Sources", some "base_of"), "base_of", "Sources.base_of", defArgs m_Sources_base_of, defBody m_Sources_base_of, defScope m_Sources_base_of, [], []⟩,
  ⟨("Sources", some "template_behind"), "template_behind", "Sources.template_behind", defArgs m_Sources_template_behind, defBody m_Sources_template_behind, defScope m_Sources_template_behind, [], []⟩,
  ⟨("Sources", some "own_template"), "own_template", "Sources.own_template", defArgs m_Sources_own_template, defBody m_Sources_own_template, defScope m_Sources_own_template, [], []⟩,
  ⟨("Sources", some "owner_body"), "owner_body", "Sources.owner_body", defArgs m_Sources_owner_body, defBody m_Sources_owner_body, defScope m_Sources_owner_body, [], []⟩,
  ⟨("Sources", some "field_for"), "field_for", "Sources.field_for", defArgs m_Sources_field_for, defBody m_Sources_field_for, defScope m_Sources_field_for, [], []⟩,
  ⟨("Field", some "__init__"), "__init__", "Field.__init__", defArgs m_Field_init, defBody m_Field_init, defScope m_Field_init, [], []⟩]
def de2_1 : List He.DefD := [⟨("lost_paths", none), "lost_paths", "lost_paths", defArgs s_lost_paths, defBody s_lost_paths, defScope s_lost_paths, [], []⟩,
  ⟨("paths_of", none), "paths_of", "paths_of", defArgs s_paths_of, defBody s_paths_of, defScope s_paths_of, [], []⟩,
  ⟨("check_kinds", none), "check_kinds", "check_kinds", defArgs s_check_kinds, defBody s_check_kinds, defScope s_check_kinds, [], []⟩]
def de2 : List He.DefD := de2_0 ++ de2_1
def D_2 : Hk.Look := ⟨[], [], de2⟩
def de3_0 : List He.DefD := [⟨("Sources", some "settle"), "settle", "Sources.settle", defArgs m_Sources_settle, defBody m_Sources_settle, defScope m_Sources_settle, [], []⟩,
  ⟨("Sources", some "owners"), "owners", "Sources.owners", defArgs m_Sources_owners, defBody m_Sources_owners, defScope m_Sources_owners, [], []⟩,
  ⟨("Sources", some "kind_of"), "kind_of", "Sources.kind_of", defArgs m_Sources_kind_of, defBody m_Sources_kind_of, defScope m_Sources_kind_of, [], []⟩,
  ⟨("literal_kind", none), "literal_kind", "literal_kind", defArgs s_literal_kind, defBody s_literal_kind, defScope s_literal_kind, [], []⟩,
  ⟨("wrong_kinds", none), "wrong_kinds", "wrong_kinds", defArgs s_wrong_kinds, defBody s_wrong_kinds, defScope s_wrong_kinds, [], []⟩,
  ⟨("wrong_in_declared", none), "wrong_in_declared", "wrong_in_declared", defArgs s_wrong_in_declared, defBody s_wrong_in_declared, defScope s_wrong_in_declared, [], []⟩,
  ⟨("wrong_value", none), "wrong_value", "wrong_value", defArgs s_wrong_value, defBody s_wrong_value, defScope s_wrong_value, [], []⟩,
  ⟨("wrong_side", none), "wrong_side", "wrong_side", defArgs s_wrong_side, defBody s_wrong_side, defScope s_wrong_side, [], []⟩,
  ⟨("wrong_items", none), "wrong_items", "wrong_items", defArgs s_wrong_items, defBody s_wrong_items, defScope s_wrong_items, [], []⟩,
  ⟨("check_circles", none), "check_circles", "check_circles", defArgs s_check_circles, defBody s_check_circles, defScope s_check_circles, [], []⟩,
  ⟨("Sources", some "file_named"), "file_named", "Sources.file_named", defArgs m_Sources_file_named, defBody m_Sources_file_named, defScope m_Sources_file_named, [], []⟩,
  ⟨("Project", some "list_sizes"), "list_sizes", "Project.list_sizes", defArgs m_Project_list_sizes, defBody m_Project_list_sizes, defScope m_Project_list_sizes, [], []⟩,
  ⟨("Project", some "__len__"), "__len__", "Project.__len__", defArgs m_Project_len, defBody m_Project_len, defScope m_Project_len, [], []⟩,
  ⟨("_law_box", none), "_law_box", "_law_box", defArgs sBox, defBody sBox, defScope sBox, [], []⟩,
  ⟨("_law_take", none), "_law_take", "_law_take", defArgs sTake, defBody sTake, defScope sTake, [], []⟩,
  ⟨("_law_files", none), "_law_files", "_law_files", defArgs s_law_files, defBody s_law_files, defScope s_law_files, [], []⟩,
  ⟨("_law_of", none), "_law_of", "_law_of", defArgs sOf, defBody sOf, defScope sOf, [], []⟩,
  ⟨("_law_put", none), "_law_put", "_law_put", defArgs s_law_put, defBody s_law_put, defScope s_law_put, [], []⟩,
  ⟨("_law_due", none), "_law_due", "_law_due", defArgs s_law_due, defBody s_law_due, defScope s_law_due, [], []⟩,
  ⟨("law", none), "law", "law", defArgs sLaw, defBody sLaw, defScope sLaw, [], []⟩]
def de3 : List He.DefD := de3_0
def D_3 : Hk.Look := ⟨[], [], de3⟩
def looks : List Hk.Look := [F_0, F_1, F_2, T_0, D_0, D_1, D_2, D_3]
def as : List Addr := mainGlobals :: List.range 1500
def tf : List He.Defn := [("law", none)]
end M05

set_option Elab.async false
set_option linter.all false
set_option maxRecDepth 100000
set_option maxHeartbeats 0
/-! the head: one run, looked at in separate declarations -/
namespace M05
open PySem PySem.W PySem.Calls PyProof.Rows HandSHeadRun
def nm0 : List PySem.Str := ["_wall", "BackError", "BadFiles", "SourceError", "NoFile", "Literal", "Path", "Term", "Sum", "Choice", "Use", "Loop", "Entry", "Body", "Template", "ListField", "ListSource", "FileSource", "RECORD", "ROWS"]
def nm1 : List PySem.Str := ["NUMBER", "TEXT", "PLAIN", "DOCUMENT", "Field", "literal_kind", "Sources", "bodies_in", "entries_within", "all_bodies", "outer_bodies", "raise_first", "wrong_imports", "repeated", "own_names", "repeated_imports", "loops_of", "repeated_names", "unknown_names", "used_by"]
def nm2 : List PySem.Str := ["uses_itself", "rings", "Home", "paths_of", "lost_paths", "wrong_overrides", "wrong_where", "wrong_declared", "wrong_fields", "check_names", "sources_of", "EVERY_levels", "starred", "is_level", "owners_along", "level_spots", "Found", "found_at", "node_at", "EVERY_circles"]
def nm3 : List PySem.Str := ["leaves", "loop_name", "read_at", "reads", "has_circle", "check_circles", "LETTERS", "DIGITS", "SIGNS", "QUOTE", "BACKSLASH", "REMARK", "FEED", "GAPS", "MOST_LETTERS", "MOST_IN_STRING", "LEAST_CODE", "MOST_CODE", "KEYWORDS", "is_word"]
def nm4 : List PySem.Str := ["is_name", "is_string_part", "run_end", "token_end", "behind_gap", "wrong_side", "wrong_value", "wrong_in_overrides", "wrong_in_where", "wrong_in_declared", "wrong_items", "wrong_kinds", "check_kinds", "KINDS", "END", "PLUS", "MINUS", "Reader", "read_file", "MOST_FILES"]
def nm5 : List PySem.Str := ["PAIR", "is_file", "are_files", "read_sources", "Project", "_law_box", "_law_take", "_law_of", "_law_put", "_law_error", "_law_files", "_law_due"]
def nms : List PySem.Str := nm0 ++ nm1 ++ nm2 ++ nm3 ++ nm4 ++ nm5
abbrev R : OpenRow := OpenLaw.row PySem.Challenge.rw_sourceback_k05_imports_and_names_that_st
def qv : Program := view R.prog [123]
def M : Nat := 12000
noncomputable abbrev End (w : World) (os : OsState) : Option SharedT := endF (stepQ (denQ tabQ) R.prog w) M R.prog w os
end M05

set_option Elab.async false
set_option linter.all false
set_option maxRecDepth 100000
set_option maxHeartbeats 0
namespace M05
open PySem PySem.W PySem.Calls PyProof.Rows HandSHeadRun
theorem run_looks (w : World) (os : OsState) : (End w os).map (fun s => looksF R.prog (boot_heap w.params) s.abs) = some (true) := by
  kernel_rfl
end M05

set_option Elab.async false
set_option linter.all false
set_option maxRecDepth 100000
set_option maxHeartbeats 0
namespace M05
open PySem PySem.W PySem.Calls PyProof.Rows HandSHeadRun
theorem run_seen (w : World) (os : OsState) : (End w os).map (fun s => seenQ qv nms (importedModules R.prog.main.body) (fun s => xlAt qv [] s && recOk R.toRowW.records s) s.abs) = some (openGood qv nms) := by
  kernel_rfl
end M05

set_option Elab.async false
set_option linter.all false
set_option maxRecDepth 100000
set_option maxHeartbeats 0
namespace M05
open PySem PySem.W PySem.Calls PyProof.Rows HandSHeadRun
theorem run_tab (w : World) (os : OsState) : (End w os).map (fun s => He.tabsB (getT s) tf (Hk.part as (getT s))) = some (true) := by
  kernel_rfl
end M05

set_option Elab.async false
set_option linter.all false
set_option maxRecDepth 100000
set_option maxHeartbeats 0
namespace M05
open PySem PySem.W PySem.Calls PyProof.Rows HandSHeadRun
theorem run_F_0 (w : World) (os : OsState) : (End w os).map (fun s => Hk.Look.see F_0 (Hk.part as (getT s))) = some (F_0.due) := by
  kernel_rfl
end M05

set_option Elab.async false
set_option linter.all false
set_option maxRecDepth 100000
set_option maxHeartbeats 0
namespace M05
open PySem PySem.W PySem.Calls PyProof.Rows HandSHeadRun
theorem run_F_1 (w : World) (os : OsState) : (End w os).map (fun s => Hk.Look.see F_1 (Hk.part as (getT s))) = some (F_1.due) := by
  kernel_rfl
end M05

set_option Elab.async false
set_option linter.all false
set_option maxRecDepth 100000
set_option maxHeartbeats 0
namespace M05
open PySem PySem.W PySem.Calls PyProof.Rows HandSHeadRun
theorem run_F_2 (w : World) (os : OsState) : (End w os).map (fun s => Hk.Look.see F_2 (Hk.part as (getT s))) = some (F_2.due) := by
  kernel_rfl
end M05

set_option Elab.async false
set_option linter.all false
set_option maxRecDepth 100000
set_option maxHeartbeats 0
namespace M05
open PySem PySem.W PySem.Calls PyProof.Rows HandSHeadRun
theorem run_T_0 (w : World) (os : OsState) : (End w os).map (fun s => Hk.Look.see T_0 (Hk.part as (getT s))) = some (T_0.due) := by
  kernel_rfl
end M05

set_option Elab.async false
set_option linter.all false
set_option maxRecDepth 100000
set_option maxHeartbeats 0
namespace M05
open PySem PySem.W PySem.Calls PyProof.Rows HandSHeadRun
theorem run_D_0 (w : World) (os : OsState) : (End w os).map (fun s => Hk.Look.see D_0 (Hk.part as (getT s))) = some (D_0.due) := by
  kernel_rfl
end M05

set_option Elab.async false
set_option linter.all false
set_option maxRecDepth 100000
set_option maxHeartbeats 0
namespace M05
open PySem PySem.W PySem.Calls PyProof.Rows HandSHeadRun
theorem run_D_1 (w : World) (os : OsState) : (End w os).map (fun s => Hk.Look.see D_1 (Hk.part as (getT s))) = some (D_1.due) := by
  kernel_rfl
end M05

set_option Elab.async false
set_option linter.all false
set_option maxRecDepth 100000
set_option maxHeartbeats 0
namespace M05
open PySem PySem.W PySem.Calls PyProof.Rows HandSHeadRun
theorem run_D_2 (w : World) (os : OsState) : (End w os).map (fun s => Hk.Look.see D_2 (Hk.part as (getT s))) = some (D_2.due) := by
  kernel_rfl
end M05

set_option Elab.async false
set_option linter.all false
set_option maxRecDepth 100000
set_option maxHeartbeats 0
namespace M05
open PySem PySem.W PySem.Calls PyProof.Rows HandSHeadRun
theorem run_D_3 (w : World) (os : OsState) : (End w os).map (fun s => Hk.Look.see D_3 (Hk.part as (getT s))) = some (D_3.due) := by
  kernel_rfl
end M05

set_option Elab.async false
set_option linter.all false
set_option maxRecDepth 100000
set_option maxHeartbeats 0
namespace M05
open PySem PySem.W PySem.Calls PyProof.Rows HandSHeadRun
theorem run (w : World) : RunEq R qv (Hk.hook as looks tf) (Hk.ob as looks tf) M nms w := by
  intro os
  refine Hk.join (K := fun s => Hk.part as (getT s)) (run_looks w os) (run_seen w os) (fun L hL => ?_) (run_tab w os)
  simp only [looks, List.mem_cons, List.not_mem_nil, or_false] at hL
  rcases hL with rfl | rfl | rfl | rfl | rfl | rfl | rfl | rfl
  · exact run_F_0 w os
  · exact run_F_1 w os
  · exact run_F_2 w os
  · exact run_T_0 w os
  · exact run_D_0 w os
  · exact run_D_1 w os
  · exact run_D_2 w os
  · exact run_D_3 w os
end M05

set_option Elab.async false
set_option linter.all false
set_option maxRecDepth 100000
set_option maxHeartbeats 4000000
/-! class Reader: its state by the number of the token; go_on, __init__, take, accept -/
namespace M05
open PySem PySem.Spec PyProof.Rows L2 GL
theorem scGo : FnScope ["self", "end", "found"] ["self", "end"] (defScope m_Reader_go_on) := ⟨rfl, rfl, rfl, by decide +kernel, rfl, by decide +kernel, by decide +kernel⟩
theorem scRd : FnScope ["self", "name", "signs"] ["self", "name", "signs"] (defScope m_Reader_init) := ⟨rfl, rfl, rfl, by decide +kernel, rfl, by decide +kernel, by decide +kernel⟩
theorem scTake : FnScope ["self", "wanted", "token"] ["self", "wanted"] (defScope m_Reader_take) := ⟨rfl, rfl, rfl, by decide +kernel, rfl, by decide +kernel, by decide +kernel⟩
theorem scAcc : FnScope ["self", "wanted", "is_there"] ["self", "wanted"] (defScope m_Reader_accept) := ⟨rfl, rfl, rfl, by decide +kernel, rfl, by decide +kernel, by decide +kernel⟩
/-- the i-th token, none behind the last -/
def tk (ps : List (Nat × Cd)) (i : Nat) : Cd := (ps[i]?.map (·.2)).getD []
/-- a text and its tokens -/
structure Pag (T : Cd) (ps : List (Nat × Cd)) : Prop where
  len : T.length ≤ 100000
  lx : Lx 0 T ps
/-- the i-th token is the first at e or behind it -/
def Bh (T : Cd) (ps : List (Nat × Cd)) (i e : Nat) : Prop := e ≤ T.length ∧ i ≤ ps.length ∧ ∃ k, Gp (T.drop e) k ∧ e + k = pos T ps i
theorem Pag.bh0 {T : Cd} {ps : List (Nat × Cd)} (h : Pag T ps) : Bh T ps 0 0 := by
  obtain ⟨k, g, t⟩ := lx_ts (T := T) h.lx (Nat.zero_le _) rfl
  exact ⟨Nat.zero_le _, Nat.zero_le _, k, g, (ts_pos t).symm⟩
theorem Pag.ts {T : Cd} {ps : List (Nat × Cd)} (h : Pag T ps) : ∃ n, Ts T n ps := by
  obtain ⟨k, g, t⟩ := lx_ts (T := T) h.lx (Nat.zero_le _) rfl
  exact ⟨_, t⟩
theorem pos_end {T : Cd} {ps : List (Nat × Cd)} {i : Nat} (h : ps.length ≤ i) : pos T ps i = T.length := by
  unfold pos
  rw [List.getElem?_eq_none h]
  rfl
theorem tk_end {ps : List (Nat × Cd)} {i : Nat} (h : ps.length ≤ i) : tk ps i = [] := by
  unfold tk
  rw [List.getElem?_eq_none h]
  rfl
theorem pos_at {T : Cd} {ps : List (Nat × Cd)} {i m : Nat} {t : Cd} (h : ps[i]? = some (m, t)) : pos T ps i = m ∧ tk ps i = t := by
  unfold pos tk
  rw [h]
  exact ⟨rfl, rfl⟩
theorem Pag.at {T : Cd} {ps : List (Nat × Cd)} (h : Pag T ps) {i : Nat} (hi : i < ps.length) : ∃ r, T.drop (pos T ps i) = tk ps i ++ r ∧ Tok (tk ps i) ∧ Parts (tk ps i) r ∧ Bh T ps (i + 1) (pos T ps i + (tk ps i).length) := by
  obtain ⟨n, ts⟩ := h.ts
  have e : ps[i]? = some (ps[i].1, ps[i].2) := List.getElem?_eq_getElem hi
  obtain ⟨r, k, h1, h2, h3, h4, h5, h6⟩ := ts_at ts i _ _ e
  obtain ⟨p1, p2⟩ := pos_at (T := T) e
  rw [p1, p2]
  exact ⟨r, h1, h2, h3, h6, hi, k, by rw [drop_app h1]; exact h4, h5.symm⟩
theorem Pag.le {T : Cd} {ps : List (Nat × Cd)} (h : Pag T ps) (i : Nat) : pos T ps i + (tk ps i).length ≤ T.length := by
  rcases Nat.lt_or_ge i ps.length with z | z
  · obtain ⟨_, _, _, _, h1, _⟩ := h.at z
    exact h1
  · rw [pos_end z, tk_end z]
    exact Nat.le_refl _
/-- a reader of the text T at the i-th token, read up to le -/
def rdV (nm : Str) (T : Cd) (ps : List (Nat × Cd)) (i le : Nat) : List V := [.str nm, .str (S T), .int (pos T ps i : Nat), .int ((pos T ps i + (tk ps i).length : Nat) : Int), .str (S (tk ps i)), .int (le : Nat)]
def Rd (C : Addr) (H : Hp) (r : Addr) (nm : Str) (T : Cd) (ps : List (Nat × Cd)) (i le : Nat) : Prop := Pag T ps ∧ Bh T ps i le ∧ Ob C nReader H r (rdV nm T ps i le)
theorem Rd.same {C : Addr} {H H' : Hp} {r : Addr} {nm : Str} {T : Cd} {ps : List (Nat × Cd)} {i le : Nat} (h : Rd C H r nm T ps i le) (s : Same H H') : Rd C H' r nm T ps i le := ⟨h.1, h.2.1, h.2.2.same s⟩
theorem Off.step {r a : Addr} {H H' : Hp} {u : HO} (o : Off r H H') (e : a = r) : Off r H (upd H' a u) := fun b x n h => by
  rw [upd_ne (fun z => n (z.trans e))]
  exact o b x n h
theorem Off.s {r : Addr} {H H1 H2 : Hp} (o : Off r H H1) (s : Same H1 H2) : Off r H H2 := fun b x n h => s b x (o b x n h)
section
variable {P : Program} {w : World} {K : PySem.W.Frag} {mg : Str → Option Value} {base : Heap}
def spGo (C : Addr) : Sp := fun vs H Q _ => ∃ (r dx : Addr) (nm : Str) (T : Cd) (ps : List (Nat × Cd)) (i e : Nat) (v2 v3 v4 v5 : V), vs = [.ref r, .int (e : Nat)] ∧ H r = some (.ins C dx (nReader.zip [.str nm, .str (S T), v2, v3, v4, v5])) ∧ Pag T ps ∧ Bh T ps i e ∧
  ∀ H', Off r H H' → Rd C H' r nm T ps i e → Q .non H'
theorem ok_go {f : Addr} {fd : FuncData} (F : Fun K "go_on" "Reader.go_on" m_Reader_go_on f fd) (T : Bl K mg) (k_Reader : Kl K mg "Reader" nReader) (d_behind_gap : DnO P w K mg base "behind_gap" 1 ["text", "start"] spGap) (d_token_end : DnO P w K mg base "token_end" 2 ["text", "start"] spTE) :
    FnOk P w K mg base CX0 3 f fd ["self", "end"] (spGo k_Reader.C) := by
  refine F.ok scGo (fun vs H Q E h => ?_) (fun cdv A outer s H vs Q E hr h => ?_)
  · obtain ⟨_, _, _, _, _, _, _, _, _, _, _, rfl, _⟩ := h
    rfl
  · obtain ⟨r, dx, nm, Tx, ps, i, e, v2, v3, v4, v5, rfl, hR, hP, hB, q⟩ := h
    refine ⟨_, (pss_cons (ps_fldZ (pv 0) (pv 1) rfl)
      (pss_cons (ps_fldZ (pv 0) (pe_call d_behind_gap.ok (hr.mono (by omega)) (by rfl) d_behind_gap.g d_behind_gap.kp d_behind_gap.b .nil pass0 (pa_cons (pe_fld (pv 0) rfl) (pa_cons (pv 1) pa_nil))) rfl)
      (pss_cons (ps_if (pt_cmpR op_eq (pe_fld (pv 0) rfl) (pe_callB call_len_str (by rfl) T.len (by decide +kernel) (pa_cons (pe_fld (pv 0) rfl) pa_nil)) (nomark _))
        (pss_cons (ps_asg (pe_tup (pa_cons (pe_fld (pv 0) rfl) (pa_cons (pe_glob (v := .str "") (by rfl) T.cend.choose_spec ⟨_, rfl⟩) pa_nil))) (pg_tup rfl (pgs_cons (pg_fld (pv 0)) (pgs_cons (pg_fld (pv 0)) pgs_nil))))
        (pss_one ps_retN))
        pss_nil)
      (pss_cons (ps_set (i := 2) scGo.nd rfl (Or.inl rfl) (pe_call d_token_end.ok (hr.mono (by omega)) (by rfl) d_token_end.g d_token_end.kp d_token_end.b .nil pass0 (pa_cons (pe_fld (pv 0) rfl) (pa_cons (pe_fld (pv 0) rfl) pa_nil))))
      (pss_cons (ps_if (pt_cmpR op_isN (pv 2) pe_non (nomark _))
        (pss_one ps_never)
        pss_nil)
      (pss_one (ps_asg (pe_tup (pa_cons (pv 2) (pa_cons (pe_slice sl_str (pe_fld (pv 0) rfl) (po_some (pe_fld (pv 0) rfl)) (po_some (pv 2))) pa_nil))) (pg_tup rfl (pgs_cons (pg_fld (pv 0)) (pgs_cons (pg_fld (pv 0)) pgs_nil)))))))))), ?_⟩
    have lT : (S Tx).length = Tx.length := len_S Tx
    have szT : (S Tx).length ≤ sizeLine := by rw [lT]; exact big_le (Nat.le_trans hP.len (by decide))
    obtain ⟨he, hi, k, hg, ek⟩ := hB
    have hO : ∀ H', Off r H H' → Pag Tx ps ∧ Bh Tx ps i e := fun _ _ => ⟨hP, he, hi, k, hg, ek⟩
    refine ⟨.int (e : Nat), rfl, .ref r, rfl, _, _, _, _, _, _, rfl, hR, k_Reader.cl, k_Reader.nf.get ix_Reader_last_end, ix_Reader_last_end, Nat.le_of_ble_eq_true rfl, k_Reader.len, fun H1 o1 hR1 => ?_⟩
    have hR1 : H1 r = some (.ins k_Reader.C dx (nReader.zip [.str nm, .str (S Tx), v2, v3, v4, .int (e : Nat)])) := hR1
    refine ⟨.ref r, rfl, _, _, _, _, _, rfl, hR1, k_Reader.cl, k_Reader.nf.get ix_Reader_signs, lkZ ix_Reader_signs rfl, .int (e : Nat), rfl, Tx, e, k, rfl, Nat.le_trans hP.len (by decide), he, hg, .ref r, rfl, _, _, _, _, _, _, rfl, hR1, k_Reader.cl, k_Reader.nf.get ix_Reader_start, ix_Reader_start, Nat.le_of_ble_eq_true rfl, k_Reader.len, fun H2 o2 hR2 => ?_⟩
    rw [ek] at hR2
    have hR2 : H2 r = some (.ins k_Reader.C dx (nReader.zip [.str nm, .str (S Tx), .int (pos Tx ps i : Nat), v3, v4, .int (e : Nat)])) := hR2
    have o12 := o1.trans o2
    refine ⟨.ref r, rfl, _, _, _, _, _, rfl, hR2, k_Reader.cl, k_Reader.nf.get ix_Reader_start, lkZ ix_Reader_start rfl, .ref r, rfl, _, _, _, _, _, rfl, hR2, k_Reader.cl, k_Reader.nf.get ix_Reader_signs, lkZ ix_Reader_signs rfl, S Tx, rfl, szT, rfl, _, rfl, ite2 (fun z => ?_) (fun z => ?_)⟩
    · have z : pos Tx ps i = Tx.length := by
        have z : V.int (pos Tx ps i : Nat) = V.int ((S Tx).length : Nat) := of_decide_eq_true z
        rw [lT] at z
        exact Int.ofNat.inj (V.int.inj z)
      have hl : ps.length ≤ i := by
        rcases Nat.lt_or_ge i ps.length with y | y
        · obtain ⟨_, _, ht, _, h1, _⟩ := hP.at y
          have := List.length_pos_iff.mpr ht.ne
          omega
        · exact y
      have tE := tk_end hl
      refine ⟨.ref r, rfl, _, _, _, _, _, rfl, hR2, k_Reader.cl, k_Reader.nf.get ix_Reader_start, lkZ ix_Reader_start rfl, by show 2 ≤ sizeLine; decide, fun t nt => ?_⟩
      have hR3 := same_new (o := .tup [.int (pos Tx ps i : Nat), .str ""]) nt _ _ hR2
      have o3 := o12.s (same_new (o := .tup [.int (pos Tx ps i : Nat), .str ""]) nt)
      refine ⟨t, _, rfl, SqT.of upd_same, rfl, _, _, rfl, .ref r, rfl, _, _, _, _, _, _, rfl, hR3, k_Reader.cl, k_Reader.nf.get ix_Reader_end, ix_Reader_end, Nat.le_of_ble_eq_true rfl, k_Reader.len, fun H4 o4 hR4 => ?_⟩
      refine ⟨_, _, rfl, .ref r, rfl, _, _, _, _, _, _, rfl, hR4, k_Reader.cl, k_Reader.nf.get ix_Reader_token, ix_Reader_token, Nat.le_of_ble_eq_true rfl, k_Reader.len, fun H5 o5 hR5 => ⟨rfl, ?_⟩⟩
      refine q H5 ((o3.trans o4).trans o5) ⟨hP, ⟨he, hi, k, hg, ek⟩, dx, ?_⟩
      unfold rdV
      rw [tE]
      exact hR5
    · have hl : i < ps.length := by
        rcases Nat.lt_or_ge i ps.length with y | y
        · exact y
        · refine absurd (decide_eq_true (congrArg (fun n : Nat => V.int (n : Int)) (?_ : pos Tx ps i = (S Tx).length))) z
          rw [lT, pos_end y]
      obtain ⟨rr, h1, h2, h3, h4⟩ := hP.at hl
      refine ⟨.ref r, rfl, _, _, _, _, _, rfl, hR2, k_Reader.cl, k_Reader.nf.get ix_Reader_signs, lkZ ix_Reader_signs rfl, .ref r, rfl, _, _, _, _, _, rfl, hR2, k_Reader.cl, k_Reader.nf.get ix_Reader_start, lkZ ix_Reader_start rfl, Tx, _, rr, _, rfl, Nat.le_trans hP.len (by decide), h1, h2, h3, fun H3 s3 => ?_⟩
      have hR3 := s3 _ _ hR2
      refine ⟨_, rfl, rfl, _, rfl, iteF ?_⟩
      refine ⟨_, rfl, .ref r, rfl, _, _, _, _, _, rfl, hR3, k_Reader.cl, k_Reader.nf.get ix_Reader_signs, lkZ ix_Reader_signs rfl, .ref r, rfl, _, _, _, _, _, rfl, hR3, k_Reader.cl, k_Reader.nf.get ix_Reader_start, lkZ ix_Reader_start rfl, _, rfl, _, rfl, _, rfl, S Tx, rfl, szT, by show 2 ≤ sizeLine; decide, fun t nt => ?_⟩
      have cut : cutS (S Tx) (some (pos Tx ps i : Nat)) (some ((pos Tx ps i + (tk ps i).length : Nat) : Int)) = S (tk ps i) := by
        rw [cut_S (Nat.le_add_right _ _) (hP.le i), h1, Nat.add_sub_cancel_left, List.take_left]
      have hR4 := same_new (o := .tup [.int ((pos Tx ps i + (tk ps i).length : Nat) : Int), .str (S (tk ps i))]) nt _ _ hR3
      have o4 := (o12.s s3).s (same_new (o := .tup [.int ((pos Tx ps i + (tk ps i).length : Nat) : Int), .str (S (tk ps i))]) nt)
      rw [cut]
      refine ⟨t, _, rfl, SqT.of upd_same, rfl, _, _, rfl, .ref r, rfl, _, _, _, _, _, _, rfl, hR4, k_Reader.cl, k_Reader.nf.get ix_Reader_end, ix_Reader_end, Nat.le_of_ble_eq_true rfl, k_Reader.len, fun H5 o5 hR5 => ?_⟩
      refine ⟨_, _, rfl, .ref r, rfl, _, _, _, _, _, _, rfl, hR5, k_Reader.cl, k_Reader.nf.get ix_Reader_token, ix_Reader_token, Nat.le_of_ble_eq_true rfl, k_Reader.len, fun H6 o6 hR6 => ⟨rfl, ?_⟩⟩
      exact q H6 ((o4.trans o5).trans o6) ⟨hP, ⟨he, hi, k, hg, ek⟩, dx, hR6⟩
end
end M05

set_option Elab.async false
set_option linter.all false
set_option maxRecDepth 100000
set_option maxHeartbeats 4000000
/-! is_word, is_name -/
namespace M05
open PySem PySem.Spec PyProof.Rows L2 GL
theorem scW : FnScope ["value", "letter"] ["value"] (defScope s_is_word) := ⟨rfl, rfl, rfl, by decide +kernel, rfl, by decide +kernel, by decide +kernel⟩
theorem scN : FnScope ["value"] ["value"] (defScope s_is_name) := ⟨rfl, rfl, rfl, by decide +kernel, rfl, by decide +kernel, by decide +kernel⟩
abbrev letters : Str := "abcdefghijklmnopqrstuvwxyz"
/-- all signs are letters -/
def low (z : Str) : Bool := z.cps.toList.all fun c => decide (c ∈ letters.cps.toList)
def isName (z : Str) : Bool := low z && (decide (1 ≤ z.length) && decide (z.length ≤ 12) && !decide (z ∈ kw))
theorem flatS (l : List Str) : (l.map V.str).all flatV = true := by
  rw [List.all_map]
  exact List.all_eq_true.mpr fun _ _ => rfl
theorem take_bl {l : List Bool} {i : Nat} {b : Bool} (h : l[i]? = some b) : l.take (i + 1) = l.take i ++ [b] := by
  rw [List.take_add_one, h]
  rfl
section
variable {P : Program} {w : World} {K : PySem.W.Frag} {mg : Str → Option Value} {base : Heap}
theorem kSS : kitB "str" "str" = some true := by decide +kernel
theorem small1000 {n : Nat} (h : n ≤ 1000) : n < sizeLine := Nat.lt_of_le_of_lt h (by decide)
def spWord : Sp := fun vs H Q _ => ∃ z : Str, vs = [.str z] ∧ z.length ≤ 1000 ∧ ∀ H', Same H H' → Q (.bl (!decide (z = "") && low z)) H'
theorem ok_word {f : Addr} {fd : FuncData} {k : Nat} (F : Fun K "is_word" "is_word" s_is_word f fd) (T : Bl K mg) : FnOk P w K mg base CX0 (k + 1) f fd ["value"] spWord := by
  refine F.ok scW (fun vs H Q E h => ?_) (fun cdv A outer s H vs Q E hr h => ?_)
  · obtain ⟨z, rfl, _⟩ := h
    rfl
  · obtain ⟨z, rfl, hz, q⟩ := h
    refine ⟨_, (pss_one (ps_ret (pe_and (pe_cmpR op_ne (pv 0) pe_str (nomark _)) (pe_one (pe_callB (cr_all rfl) (by rfl) T.all (by decide +kernel) (pa_cons (pe_lc (own := [("letter", 1)]) (g := gName 1) (by rfl) scW.nd (pi_str (pv 0)) (blkOk_by (own := [("letter", 1)]) (N := ["value", "letter"]) (sc := defScope s_is_word) (by decide +kernel)) (fun _ _ _ _ _ => (pg_name (i := 1) scW.nd rfl (Or.inl rfl))) (fun _ _ _ _ _ => pts_nil) (fun _ _ _ _ _ => (pe_cmpR op_in_sign (pv 1) (pe_glob (v := .str "abcdefghijklmnopqrstuvwxyz") (by rfl) T.cletters.choose_spec ⟨_, rfl⟩) (by rfl)))) pa_nil)))))), ?_⟩
    refine ⟨.str z, rfl, rfl, _, rfl, ite2 (fun e => ?_) (fun e => ?_)⟩
    · refine ⟨.str z, rfl, z, rfl, fun D nD => ?_⟩
      refine lc_it (walk_str (z := z)) (fun i H2 => Same H H2 ∧ H2 D = some (.lst (((z.cps.toList.map fun c => decide (c ∈ letters.cps.toList)).take i).map V.bl))) ⟨same_new nD, upd_same⟩ (fun _ _ _ _ => trivial) (fun i x H2 H3 hi hP hY => ?_) (fun H2 hP => ?_)
      · obtain ⟨sm, hD⟩ := hP
        obtain ⟨rfl, c, hc, rfl⟩ := hY
        have hc' : (z.cps.toList.map fun c => decide (c ∈ letters.cps.toList))[i]? = some (decide (c ∈ letters.cps.toList)) := by
          rw [List.getElem?_map, Array.getElem?_toList, hc]
          rfl
        have hi' : i < z.length := hi
        refine ⟨rfl, .str ⟨#[c]⟩, rfl, c, _, rfl, rfl, _, hD, ?_, same_put sm nD, ?_⟩
        · rw [List.length_map, List.length_take]
          exact Nat.lt_of_le_of_lt (Nat.min_le_left _ _) (small1000 (by omega))
        · rw [upd_same, take_bl hc', List.map_append]
          rfl
      · obtain ⟨sm, hD⟩ := hP
        rw [List.take_of_length_le (by rw [List.length_map, Array.length_toList]; exact Nat.le_refl _)] at hD
        refine ⟨D, _, rfl, SqL.of hD, ?_⟩
        have e2 : (!decide (z = "") && low z) = (z.cps.toList.map fun c => decide (c ∈ letters.cps.toList)).all id := by
          have : (!decide (z = "")) = true := by
            have e := e
            simpa using e
          rw [this, Bool.true_and, List.all_map]
          rfl
        rw [← e2]
        exact q H2 sm
    · have e2 : (!decide (z = "") && low z) = false := by
        have : (!decide (z = "")) = false := by
          have e := e
          simpa using e
        rw [this, Bool.false_and]
      have := q H (Same.refl H)
      rw [e2] at this
      exact this

theorem isName_kw {z : Str} (h : low z = true) (hn : z ≠ "") : isName z = (decide ((z.length : Int) ≤ 12) && !decide (z ∈ kw)) := by
  have h1 : 1 ≤ z.length := by
    cases e : z.length with
    | zero =>
      exfalso
      apply hn
      obtain ⟨c⟩ := z
      have : c = #[] := Array.eq_empty_of_size_eq_zero e
      rw [this]
      rfl
    | succ n => omega
  unfold isName
  rw [h, decide_eq_true h1, Bool.true_and, Bool.true_and]
  congr 1
  by_cases e : z.length ≤ 12
  · rw [decide_eq_true e, decide_eq_true (by omega)]
  · rw [decide_eq_false e, decide_eq_false (by omega)]
def spNm : Sp := fun vs H Q _ => ∃ z : Str, vs = [.str z] ∧ z.length ≤ 1000 ∧ ∀ H', Same H H' → Q (.bl (isName z)) H'
theorem ok_name {f : Addr} {fd : FuncData} (F : Fun K "is_name" "is_name" s_is_name f fd) (T : Bl K mg) (d_is_word : DnO P w K mg base "is_word" 1 ["value"] spWord) : FnOk P w K mg base CX0 2 f fd ["value"] spNm := by
  refine F.ok scN (fun vs H Q E h => ?_) (fun cdv A outer s H vs Q E hr h => ?_)
  · obtain ⟨v, rfl, _⟩ := h
    rfl
  · obtain ⟨z, rfl, hz, q⟩ := h
    refine ⟨_, (pss_cons (ps_if (PW.pt (pw_or (pt_not (pt_val (pe_callB call_isi (by rfl) T.isinstance (by decide +kernel) (pa_cons (pv 0) (pa_cons (pe_bltn (v := .ty "str") (by rfl) T.str (by decide +kernel) rfl) pa_nil))))) (pw_or1 (pt_not (pt_val (pe_call d_is_word.ok (hr.mono (by omega)) (by rfl) d_is_word.g d_is_word.kp d_is_word.b .nil pass0 (pa_cons (pv 0) pa_nil)))))))
        (pss_one (ps_ret pe_bl))
        pss_nil)
      (pss_one (ps_ret (pe_and (pe_cmpR op_le (pe_callB call_len_str (by rfl) T.len (by decide +kernel) (pa_cons (pv 0) pa_nil)) (pe_glob (v := .int 12) (by rfl) T.cmostletters.choose_spec ⟨_, rfl⟩) (nomark _)) (pe_one (pe_cmpR (r := rIn K true) op_notIn_seq (pv 0) (pe_glob (v := .ref T.ckeywords.choose) (by rfl) T.ckeywords.choose_spec.1 rfl) (by rfl))))))), ?_⟩
    refine ⟨.str z, rfl, .str z, .ty "str", _, _, true, rfl, .ty "str", .base (.str z), kit_ty kSS, true, rfl, ?_⟩
    refine ⟨.str z, rfl, z, rfl, hz, fun H1 sm => ⟨_, rfl, ?_⟩⟩
    refine ite2 (fun e => ?_) (fun e => ?_)
    · have e1 : (!decide (z = "") && low z) = false := (Bool.not_eq_true' _).mp e
      have e2 : isName z = false := by
        by_cases hl : low z = true
        · rw [hl, Bool.and_true] at e1
          have : z = "" := by simpa using e1
          subst this
          rfl
        · have : low z = false := by simpa using hl
          unfold isName
          rw [this, Bool.false_and]
      have := q H1 sm
      rw [e2] at this
      exact this
    · have e1 : (!decide (z = "") && low z) = true := by simpa using e
      obtain ⟨e3, e4⟩ := Bool.and_eq_true_iff.mp e1
      have e5 : z ≠ "" := by simpa using e3
      have e6 := isName_kw e4 e5
      refine ⟨.str z, rfl, z, rfl, Nat.le_of_lt (small1000 hz), _, 12, rfl, rfl, _, rfl, ite2 (fun g => ?_) (fun g => ?_)⟩
      · refine ⟨.str z, rfl, T.ckeywords.choose, kwV, rfl, .inr (T.ckeywords.choose_spec.2 _), rfl, flatS kw, ?_⟩
        show Q (.bl (!inV (.str z) (kw.map V.str))) H1
        rw [inS]
        have e7 : isName z = !decide (z ∈ kw) := by rw [e6, g, Bool.true_and]
        rw [← e7]
        exact q H1 sm
      · have g' : decide ((z.length : Int) ≤ 12) = false := by simpa using g
        have e7 : isName z = false := by rw [e6, g', Bool.false_and]
        have := q H1 sm
        rw [e7] at this
        exact this
end
end M05

set_option Elab.async false
set_option linter.all false
set_option maxRecDepth 100000
set_option maxHeartbeats 4000000
/-! class Reader: __init__, take, accept, take_name, is_number, is_string -/
namespace M05
open PySem PySem.Spec PyProof.Rows L2 GL
theorem scTN : FnScope ["self", "found"] ["self"] (defScope m_Reader_take_name) := ⟨rfl, rfl, rfl, by decide +kernel, rfl, by decide +kernel, by decide +kernel⟩
theorem scIN : FnScope ["self"] ["self"] (defScope m_Reader_is_number) := ⟨rfl, rfl, rfl, by decide +kernel, rfl, by decide +kernel, by decide +kernel⟩
theorem scIS : FnScope ["self"] ["self"] (defScope m_Reader_is_string) := ⟨rfl, rfl, rfl, by decide +kernel, rfl, by decide +kernel, by decide +kernel⟩
section
variable {C r : Addr} {H H' : Hp} {nm : Str} {T : Cd} {ps : List (Nat × Cd)} {i le : Nat}
/-- the reader as it was, all else stands -/
theorem Rd.go (h : Rd C H r nm T ps i le) : ∃ dx, H r = some (.ins C dx (nReader.zip (rdV nm T ps i le))) := h.2.2
end
section
variable {P : Program} {w : World} {K : PySem.W.Frag} {mg : Str → Option Value} {base : Heap}
/-- a new reader: at the first token -/
def spRdI (C : Addr) : Sp := fun vs H Q _ => ∃ (r dx : Addr) (nm : Str) (T : Cd) (ps : List (Nat × Cd)), vs = [.ref r, .str nm, .str (S T)] ∧ H r = some (.ins C dx (nReader.zip [])) ∧ Pag T ps ∧ ∀ H', Off r H H' → Rd C H' r nm T ps 0 0 → Q .non H'
theorem ok_rdI {f : Addr} {fd : FuncData} (F : Fun K "__init__" "Reader.__init__" m_Reader_init f fd) (T : Bl K mg) (k_Reader : Kl K mg "Reader" nReader) (m_go_on : DnM P w K mg base k_Reader "go_on" 3 ["self", "end"] (spGo k_Reader.C)) :
    FnOk P w K mg base CX0 4 f fd ["self", "name", "signs"] (spRdI k_Reader.C) := by
  refine F.ok scRd (fun vs H Q E h => ?_) (fun cdv A outer s H vs Q E hr h => ?_)
  · obtain ⟨_, _, _, _, _, rfl, _⟩ := h
    rfl
  · obtain ⟨r, dx, nm, Tx, ps, rfl, hR, hP, q⟩ := h
    refine ⟨_, (pss_cons (ps_fldZ (pv 0) (pv 1) rfl)
      (pss_cons (ps_fldZ (pv 0) (pv 2) rfl)
      (pss_cons (ps_fldZ (pv 0) pe_int rfl)
      (pss_cons (ps_fldZ (pv 0) pe_int rfl)
      (pss_cons (ps_fldZ (pv 0) (pe_glob (v := .str "") (by rfl) T.cend.choose_spec ⟨_, rfl⟩) rfl)
      (pss_cons (ps_fldZ (pv 0) pe_int rfl)
      (pss_one (ps_expr (pe_meth (pv 0) k_Reader.cl m_go_on.mt m_go_on.ok (hr.mono (by omega)) m_go_on.b .nil pass0 (pa_cons pe_int pa_nil)))))))))), ?_⟩
    refine ⟨.str nm, rfl, .ref r, rfl, _, _, _, _, _, _, rfl, hR, k_Reader.cl, k_Reader.nf.get ix_Reader_name, ix_Reader_name, Nat.le_of_ble_eq_true rfl, k_Reader.len, fun H1 o1 h1 => ?_⟩
    refine ⟨.str (S Tx), rfl, .ref r, rfl, _, _, _, _, _, _, rfl, h1, k_Reader.cl, k_Reader.nf.get ix_Reader_signs, ix_Reader_signs, Nat.le_of_ble_eq_true rfl, k_Reader.len, fun H2 o2 h2 => ?_⟩
    refine ⟨.ref r, rfl, _, _, _, _, _, _, rfl, h2, k_Reader.cl, k_Reader.nf.get ix_Reader_start, ix_Reader_start, Nat.le_of_ble_eq_true rfl, k_Reader.len, fun H3 o3 h3 => ?_⟩
    refine ⟨.ref r, rfl, _, _, _, _, _, _, rfl, h3, k_Reader.cl, k_Reader.nf.get ix_Reader_end, ix_Reader_end, Nat.le_of_ble_eq_true rfl, k_Reader.len, fun H4 o4 h4 => ?_⟩
    refine ⟨.ref r, rfl, _, _, _, _, _, _, rfl, h4, k_Reader.cl, k_Reader.nf.get ix_Reader_token, ix_Reader_token, Nat.le_of_ble_eq_true rfl, k_Reader.len, fun H5 o5 h5 => ?_⟩
    refine ⟨.ref r, rfl, _, _, _, _, _, _, rfl, h5, k_Reader.cl, k_Reader.nf.get ix_Reader_last_end, ix_Reader_last_end, Nat.le_of_ble_eq_true rfl, k_Reader.len, fun H6 o6 h6 => ?_⟩
    refine ⟨.ref r, rfl, _, _, _, rfl, h6, lkN nx_Reader_go_on, r, dx, nm, Tx, ps, 0, 0, .int 0, .int 0, .str "", .int 0, rfl, h6, hP, hP.bh0, fun H7 o7 h7 => ?_⟩
    exact q H7 (((((o1.trans o2).trans o3).trans o4).trans o5).trans (o6.trans o7)) h7
/-- one of the wanted words is taken -/
def spTk1 (C : Addr) : Sp := fun vs H Q _ => ∃ (r t : Addr) (nm : Str) (T : Cd) (ps : List (Nat × Cd)) (i le : Nat) (ws : List Str), vs = [.ref r, .ref t] ∧ H t = some (.tup (ws.map V.str)) ∧ Rd C H r nm T ps i le ∧ i < ps.length ∧ S (tk ps i) ∈ ws ∧
  ∀ H', Off r H H' → Rd C H' r nm T ps (i + 1) (pos T ps i + (tk ps i).length) → Q (.str (S (tk ps i))) H'
def spTk (C : Addr) : Sp := fun vs H Q _ => ∃ (r : Addr) (nm : Str) (T : Cd) (ps : List (Nat × Cd)) (i le : Nat) (ws : List Str), vs = .ref r :: ws.map V.str ∧ Rd C H r nm T ps i le ∧ i < ps.length ∧ S (tk ps i) ∈ ws ∧ ws.length ≤ 100 ∧
  ∀ H', Off r H H' → Rd C H' r nm T ps (i + 1) (pos T ps i + (tk ps i).length) → Q (.str (S (tk ps i))) H'
theorem ok_tk {f : Addr} {fd : FuncData} (F : Fun K "take" "Reader.take" m_Reader_take f fd) (T : Bl K mg) (k_Reader : Kl K mg "Reader" nReader) (m_go_on : DnM P w K mg base k_Reader "go_on" 3 ["self", "end"] (spGo k_Reader.C)) :
    FnR P w K mg base CX0 4 f (spTk k_Reader.C) := by
  obtain ⟨oc, od, kV, doc, pm, an, cdv, ct, osl, rfl, lk, hcd⟩ := F.ex
  have h := StX.fn_star (P := P) (w := w) (mg := mg) (base := base) (CX := CX0) (k := 3) (ps := ["self"]) (pv := "wanted") (sp := spTk1 k_Reader.C) lk hcd scTake StX.cxUp_none (fun us rest hl => StX.bind_star1 (B := fun l => bindArgs _ ⟨l, []⟩) (fun a => rfl) (fun a r rs => rfl) us rest hl) (fun A outer s H vs Q E hr h => ?_)
  · intro A outer s H us vs Q E hr e0 r hsp
    obtain ⟨r0, nm, Tx, ps, i, le, ws, rfl, hR, hi, hm, hw, q⟩ := hsp
    refine h A outer s H us _ Q E hr e0 r ⟨[.ref r0], ws.map V.str, rfl, rfl, by rw [List.length_map]; exact big_le (by omega), fun p np => ⟨r0, p, nm, Tx, ps, i, le, ws, rfl, upd_same, hR.same (same_new np), hi, hm, fun H' o hR' => q H' (fun a x n e => o a x n (same_new np _ _ e)) hR'⟩⟩
  · obtain ⟨r, t, nm, Tx, ps, i, le, ws, rfl, ht, ⟨hP, hB, dx, hR⟩, hi, hm, q⟩ := h
    suffices z : ∃ t', PSs (cxOf CX0 P w K mg base ["self", "wanted", "token"] "Reader.take" (defScope m_Reader_take) f cdv A outer s H E).nox (defBody m_Reader_take) t' ∧ t' { nx := fun _ H' => Q .non H', rt := Q } (start ["self", "wanted", "token"] [.ref r, .ref t]) H from let ⟨t', z1, z2⟩ := z; ⟨t', z1.nox, z2⟩
    refine ⟨_, (pss_cons (ps_if (pt_cmpR (r := rIn K true) op_notIn_seq (pe_fld (pv 0) rfl) (pv 1) (by rfl))
        (pss_one ps_never)
        pss_nil)
      (pss_cons (ps_set (i := 2) scTake.nd rfl (Or.inl rfl) (pe_fld (pv 0) rfl))
      (pss_cons (ps_expr (pe_meth (pv 0) k_Reader.cl m_go_on.mt m_go_on.ok (hr.mono (by omega)) m_go_on.b .nil pass0 (pa_cons (pe_fld (pv 0) rfl) pa_nil)))
      (pss_one (ps_ret (pv 2)))))), ?_⟩
    obtain ⟨_, _, _, _, h4⟩ := hP.at hi
    refine ⟨.ref r, rfl, _, _, _, _, _, rfl, hR, k_Reader.cl, k_Reader.nf.get ix_Reader_token, lkZ ix_Reader_token rfl, .ref t, rfl, t, _, rfl, .inr (SqT.of ht), rfl, flatS ws, _, rfl, ?_⟩
    rw [show (!inV (.str (S (tk ps i))) (ws.map V.str)) = false by rw [inS, decide_eq_true hm]; rfl]
    refine iteF ⟨.ref r, rfl, _, _, _, _, _, rfl, hR, k_Reader.cl, k_Reader.nf.get ix_Reader_token, lkZ ix_Reader_token rfl, ?_⟩
    refine ⟨.ref r, rfl, _, _, _, rfl, hR, lkN nx_Reader_go_on, .ref r, rfl, _, _, _, _, _, rfl, hR, k_Reader.cl, k_Reader.nf.get ix_Reader_end, lkZ ix_Reader_end rfl, r, dx, nm, Tx, ps, i + 1, _, _, _, _, _, rfl, hR, hP, h4, fun H' o hR' => ?_⟩
    exact ⟨_, rfl, q H' o hR'⟩
/-- a word is taken if it is there -/
def spAcc (C : Addr) : Sp := fun vs H Q _ => ∃ (r : Addr) (nm : Str) (T : Cd) (ps : List (Nat × Cd)) (i le : Nat) (w : Str), vs = [.ref r, .str w] ∧ Rd C H r nm T ps i le ∧ w ≠ "" ∧ (S (tk ps i) = w → ∀ H', Off r H H' → Rd C H' r nm T ps (i + 1) (pos T ps i + (tk ps i).length) → Q (.bl true) H') ∧ (S (tk ps i) ≠ w → Q (.bl false) H)
theorem Rd.lt {C r : Addr} {H : Hp} {nm : Str} {T : Cd} {ps : List (Nat × Cd)} {i le : Nat} (h : Rd C H r nm T ps i le) (hn : tk ps i ≠ []) : i < ps.length := by
  rcases Nat.lt_or_ge i ps.length with z | z
  · exact z
  · exact absurd (tk_end z) hn
theorem ok_acc {f : Addr} {fd : FuncData} (F : Fun K "accept" "Reader.accept" m_Reader_accept f fd) (T : Bl K mg) (k_Reader : Kl K mg "Reader" nReader) (m_go_on : DnM P w K mg base k_Reader "go_on" 3 ["self", "end"] (spGo k_Reader.C)) :
    FnOk P w K mg base CX0 4 f fd ["self", "wanted"] (spAcc k_Reader.C) := by
  refine F.ok scAcc (fun vs H Q E h => ?_) (fun cdv A outer s H vs Q E hr h => ?_)
  · obtain ⟨_, _, _, _, _, _, _, rfl, _⟩ := h
    rfl
  · obtain ⟨r, nm, Tx, ps, i, le, w0, rfl, hRd, hw, q1, q2⟩ := h
    obtain ⟨hP, hB, dx, hR⟩ := id hRd
    refine ⟨_, (pss_cons (ps_set (i := 2) scAcc.nd rfl (Or.inl rfl) (pe_cmpR op_eq (pe_fld (pv 0) rfl) (pv 1) (nomark _)))
      (pss_cons (ps_if (pt_val (pv 2))
        (pss_one (ps_expr (pe_meth (pv 0) k_Reader.cl m_go_on.mt m_go_on.ok (hr.mono (by omega)) m_go_on.b .nil pass0 (pa_cons (pe_fld (pv 0) rfl) pa_nil))))
        pss_nil)
      (pss_one (ps_ret (pv 2))))), ?_⟩
    refine ⟨.ref r, rfl, _, _, _, _, _, rfl, hR, k_Reader.cl, k_Reader.nf.get ix_Reader_token, lkZ ix_Reader_token rfl, .str w0, rfl, rfl, _, rfl, ?_⟩
    by_cases e : S (tk ps i) = w0
    · have hi := hRd.lt fun z => hw (by rw [← e, z]; rfl)
      obtain ⟨_, _, _, _, h4⟩ := hP.at hi
      have eq : decide (V.str (S (tk ps i)) = V.str w0) = true := decide_eq_true (congrArg V.str e)
      refine ⟨_, rfl, ?_⟩
      rw [eq]
      refine iteT ?_
      refine ⟨.ref r, rfl, _, _, _, rfl, hR, lkN nx_Reader_go_on, .ref r, rfl, _, _, _, _, _, rfl, hR, k_Reader.cl, k_Reader.nf.get ix_Reader_end, lkZ ix_Reader_end rfl, r, dx, nm, Tx, ps, i + 1, _, _, _, _, _, rfl, hR, hP, h4, fun H' o hR' => ?_⟩
      exact ⟨_, rfl, q1 e H' o hR'⟩
    · have eq : decide (V.str (S (tk ps i)) = V.str w0) = false := decide_eq_false fun z => e (V.str.inj z)
      refine ⟨_, rfl, ?_⟩
      rw [eq]
      exact iteF ⟨_, rfl, q2 e⟩
/-- a name and where it begins -/
def spTN (C : Addr) : Sp := fun vs H Q _ => ∃ (r : Addr) (nm : Str) (T : Cd) (ps : List (Nat × Cd)) (i le : Nat), vs = [.ref r] ∧ Rd C H r nm T ps i le ∧ isName (S (tk ps i)) = true ∧ (tk ps i).length ≤ 1000 ∧ i < ps.length ∧
  ∀ (t : Addr) (H' : Hp), Off r H H' → H t = none → H' t = some (.tup [.str (S (tk ps i)), .int (pos T ps i : Nat)]) → Rd C H' r nm T ps (i + 1) (pos T ps i + (tk ps i).length) → Q (.ref t) H'
theorem ok_tn {f : Addr} {fd : FuncData} (F : Fun K "take_name" "Reader.take_name" m_Reader_take_name f fd) (T : Bl K mg) (k_Reader : Kl K mg "Reader" nReader) (m_go_on : DnM P w K mg base k_Reader "go_on" 3 ["self", "end"] (spGo k_Reader.C)) (d_is_name : DnO P w K mg base "is_name" 2 ["value"] spNm) :
    FnOk P w K mg base CX0 4 f fd ["self"] (spTN k_Reader.C) := by
  refine F.ok scTN (fun vs H Q E h => ?_) (fun cdv A outer s H vs Q E hr h => ?_)
  · obtain ⟨_, _, _, _, _, _, rfl, _⟩ := h
    rfl
  · obtain ⟨r, nm, Tx, ps, i, le, rfl, ⟨hP, hB, dx, hR⟩, hn, hl, hi, q⟩ := h
    refine ⟨_, (pss_cons (ps_if (pt_not (pt_val (pe_call d_is_name.ok (hr.mono (by omega)) (by rfl) d_is_name.g d_is_name.kp d_is_name.b .nil pass0 (pa_cons (pe_fld (pv 0) rfl) pa_nil))))
        (pss_one ps_never)
        pss_nil)
      (pss_cons (ps_set (i := 1) scTN.nd rfl (Or.inl rfl) (pe_tup (pa_cons (pe_fld (pv 0) rfl) (pa_cons (pe_fld (pv 0) rfl) pa_nil))))
      (pss_cons (ps_expr (pe_meth (pv 0) k_Reader.cl m_go_on.mt m_go_on.ok (hr.mono (by omega)) m_go_on.b .nil pass0 (pa_cons (pe_fld (pv 0) rfl) pa_nil)))
      (pss_one (ps_ret (pv 1)))))), ?_⟩
    obtain ⟨_, _, _, _, h4⟩ := hP.at hi
    refine ⟨.ref r, rfl, _, _, _, _, _, rfl, hR, k_Reader.cl, k_Reader.nf.get ix_Reader_token, lkZ ix_Reader_token rfl, S (tk ps i), rfl, by rw [len_S]; exact hl, fun H1 s1 => ?_⟩
    have hR1 := s1 _ _ hR
    rw [hn]
    refine ⟨_, rfl, iteF ⟨.ref r, rfl, _, _, _, _, _, rfl, hR1, k_Reader.cl, k_Reader.nf.get ix_Reader_token, lkZ ix_Reader_token rfl, .ref r, rfl, _, _, _, _, _, rfl, hR1, k_Reader.cl, k_Reader.nf.get ix_Reader_start, lkZ ix_Reader_start rfl, by show 2 ≤ sizeLine; decide, fun t nt => ?_⟩⟩
    have hR2 := same_new (o := .tup [.str (S (tk ps i)), .int (pos Tx ps i : Nat)]) nt _ _ hR1
    have tr : t ≠ r := fun z => by rw [z, hR1] at nt; cases nt
    have nt0 : H t = none := by
      cases z : H t with
      | none => rfl
      | some u =>
        have := s1 _ _ z
        rw [nt] at this
        cases this
    have o2 : Off r H (upd H1 t (.tup [.str (S (tk ps i)), .int (pos Tx ps i : Nat)])) := fun a x n e => same_new nt _ _ (s1 _ _ e)
    refine ⟨.ref r, rfl, _, _, _, rfl, hR2, lkN nx_Reader_go_on, .ref r, rfl, _, _, _, _, _, rfl, hR2, k_Reader.cl, k_Reader.nf.get ix_Reader_end, lkZ ix_Reader_end rfl, r, dx, nm, Tx, ps, i + 1, _, _, _, _, _, rfl, hR2, hP, h4, fun H' o hR' => ?_⟩
    exact ⟨_, rfl, q t H' (o2.trans o) nt0 (o t _ tr upd_same) hR'⟩
/-- does a number begin here? -/
def spIN (C : Addr) : Sp := fun vs H Q _ => ∃ (r : Addr) (nm : Str) (T : Cd) (ps : List (Nat × Cd)) (i le c : Nat), vs = [.ref r] ∧ Rd C H r nm T ps i le ∧ (tk ps i).head? = some c ∧ Q (.bl (decide (c ∈ digs))) H
def spIS (C : Addr) : Sp := fun vs H Q _ => ∃ (r : Addr) (nm : Str) (T : Cd) (ps : List (Nat × Cd)) (i le c : Nat), vs = [.ref r] ∧ Rd C H r nm T ps i le ∧ (tk ps i).head? = some c ∧ Q (.bl (decide (c = 34))) H
theorem cut1 : ∀ {t : Cd} {c : Nat}, t.head? = some c → cutS (S t) none (some 1) = ch c
  | [], _, h => by cases h
  | d :: r, c, h => by
    obtain rfl : d = c := by simpa using h
    have e := cut_S (T := d :: r) (i := 0) (j := 1) (by omega) (by simp)
    have : cutS (S (d :: r)) none (some 1) = cutS (S (d :: r)) (some ((0 : Nat) : Int)) (some ((1 : Nat) : Int)) := by
      unfold cutS
      have : HT.sIx (S (d :: r)).length 0 (some ((0 : Nat) : Int)) = 0 := by rw [HT.sIx_nat]; exact Nat.zero_min _
      rw [this, HT.sIx_none]
      rfl
    rw [this, e]
    rfl
theorem ok_in {f : Addr} {fd : FuncData} (F : Fun K "is_number" "Reader.is_number" m_Reader_is_number f fd) (T : Bl K mg) (k_Reader : Kl K mg "Reader" nReader) : FnOk P w K mg base CX0 1 f fd ["self"] (spIN k_Reader.C) := by
  refine F.ok scIN (fun vs H Q E h => ?_) (fun cdv A outer s H vs Q E hr h => ?_)
  · obtain ⟨_, _, _, _, _, _, _, rfl, _⟩ := h
    rfl
  · obtain ⟨r, nm, Tx, ps, i, le, c, rfl, ⟨hP, hB, dx, hR⟩, hc, q⟩ := h
    refine ⟨_, (pss_one (ps_ret (pe_and (pe_cmpR op_in_sign (pe_slice sl_str (pe_fld (pv 0) rfl) po_none (po_some pe_int)) (pe_glob (v := .str "0123456789") (by rfl) T.cdigits.choose_spec ⟨_, rfl⟩) (by rfl)) (pe_one (pe_cmpR op_ne (pe_fld (pv 0) rfl) (pe_glob (v := .str "") (by rfl) T.cend.choose_spec ⟨_, rfl⟩) (nomark _)))))), ?_⟩
    have hl : (tk ps i).length ≤ 1000000 := by
      have h1 := hP.le i
      have h2 := hP.len
      omega
    refine ⟨.ref r, rfl, _, _, _, _, _, rfl, hR, k_Reader.cl, k_Reader.nf.get ix_Reader_token, lkZ ix_Reader_token rfl, _, rfl, S (tk ps i), rfl, by rw [len_S]; exact big_le hl, ?_⟩
    dsimp only
    rw [cut1 hc]
    refine ⟨c, "0123456789", rfl, rfl, ?_⟩
    have ne : tk ps i ≠ [] := fun z => by rw [z] at hc; cases hc
    refine ⟨_, rfl, ite2 (fun e => ?_) (fun e => ?_)⟩
    · have e : decide (c ∈ digs) = true := e
      refine ⟨.ref r, rfl, _, _, _, _, _, rfl, hR, k_Reader.cl, k_Reader.nf.get ix_Reader_token, lkZ ix_Reader_token rfl, rfl, ?_⟩
      rw [decide_eq_false (fun z : V.str (S (tk ps i)) = V.str "" => ne (S_inj (b := []) ((V.str.inj z).trans (by decide +kernel))))]
      rw [e] at q
      exact q
    · have e : decide (c ∈ digs) = false := Bool.eq_false_iff.mpr e
      rw [e] at q
      exact q
theorem ok_is {f : Addr} {fd : FuncData} (F : Fun K "is_string" "Reader.is_string" m_Reader_is_string f fd) (T : Bl K mg) (k_Reader : Kl K mg "Reader" nReader) : FnOk P w K mg base CX0 1 f fd ["self"] (spIS k_Reader.C) := by
  refine F.ok scIS (fun vs H Q E h => ?_) (fun cdv A outer s H vs Q E hr h => ?_)
  · obtain ⟨_, _, _, _, _, _, _, rfl, _⟩ := h
    rfl
  · obtain ⟨r, nm, Tx, ps, i, le, c, rfl, ⟨hP, hB, dx, hR⟩, hc, q⟩ := h
    refine ⟨_, (pss_one (ps_ret (pe_cmpR op_eq (pe_slice sl_str (pe_fld (pv 0) rfl) po_none (po_some pe_int)) (pe_glob (v := .str "\"") (by rfl) T.cquote.choose_spec ⟨_, rfl⟩) (nomark _)))), ?_⟩
    have hl : (tk ps i).length ≤ 1000000 := by
      have h1 := hP.le i
      have h2 := hP.len
      omega
    refine ⟨.ref r, rfl, _, _, _, _, _, rfl, hR, k_Reader.cl, k_Reader.nf.get ix_Reader_token, lkZ ix_Reader_token rfl, _, rfl, S (tk ps i), rfl, by rw [len_S]; exact big_le hl, ?_⟩
    dsimp only
    rw [cut1 hc]
    refine ⟨rfl, ?_⟩
    have e : decide (V.str (ch c) = V.str "\"") = decide (c = 34) := decide_eq_decide.mpr ⟨fun z => ch_inj ((V.str.inj z).trans (by decide +kernel)), fun z => by rw [z]; exact congrArg V.str (by decide +kernel)⟩
    rw [e]
    exact q
end
end M05

set_option Elab.async false
set_option linter.all false
set_option maxRecDepth 100000
set_option maxHeartbeats 4000000
/-! the nodes' classes: their making; take_number -/
namespace M05
open PySem PySem.Spec PyProof.Rows L2 GL
theorem scTNum : FnScope ["self", "number"] ["self"] (defScope m_Reader_take_number) := ⟨rfl, rfl, rfl, by decide +kernel, rfl, by decide +kernel, by decide +kernel⟩
theorem scLiteral : FnScope ["self", "value", "start", "end"] ["self", "value", "start", "end"] (defScope m_Literal_init) := ⟨rfl, rfl, rfl, by decide +kernel, rfl, by decide +kernel, by decide +kernel⟩
theorem scTerm : FnScope ["self", "factor", "path", "is_plain"] ["self", "factor", "path", "is_plain"] (defScope m_Term_init) := ⟨rfl, rfl, rfl, by decide +kernel, rfl, by decide +kernel, by decide +kernel⟩
theorem scBody : FnScope ["self", "entries", "start", "end"] ["self", "entries", "start", "end"] (defScope m_Body_init) := ⟨rfl, rfl, rfl, by decide +kernel, rfl, by decide +kernel, by decide +kernel⟩
theorem scListField : FnScope ["self", "name", "start", "kind"] ["self", "name", "start", "kind"] (defScope m_ListField_init) := ⟨rfl, rfl, rfl, by decide +kernel, rfl, by decide +kernel, by decide +kernel⟩
theorem scTemplate : FnScope ["self", "name", "name_start", "body"] ["self", "name", "name_start", "body"] (defScope m_Template_init) := ⟨rfl, rfl, rfl, by decide +kernel, rfl, by decide +kernel, by decide +kernel⟩
theorem scEntry : FnScope ["self", "name", "name_start", "value"] ["self", "name", "name_start", "value"] (defScope m_Entry_init) := ⟨rfl, rfl, rfl, by decide +kernel, rfl, by decide +kernel, by decide +kernel⟩
theorem scListSource : FnScope ["self", "name", "name_start", "fields"] ["self", "name", "name_start", "fields"] (defScope m_ListSource_init) := ⟨rfl, rfl, rfl, by decide +kernel, rfl, by decide +kernel, by decide +kernel⟩
theorem scFileSource : FnScope ["self", "name", "signs"] ["self", "name", "signs"] (defScope m_FileSource_init) := ⟨rfl, rfl, rfl, by decide +kernel, rfl, by decide +kernel, by decide +kernel⟩
theorem Off.none {b a : Addr} {H H' : Hp} (x : Off b H H') (n : a ≠ b) (h : H' a = none) : H a = none := by
  cases z : H a with
  | none => rfl
  | some o =>
    have := x a o n z
    rw [h] at this
    cases this
theorem same_made {H H' : Hp} {x dx : Addr} {u o : HO} (nx : H x = none) (nd : H dx = none) (h : Off x (upd (upd H dx u) x o) H') : Same H H' := fun b y e => by
  have n1 : b ≠ x := ne_of_none e nx
  have n2 : b ≠ dx := ne_of_none e nd
  exact h b y n1 (by rw [upd_ne n1, upd_ne n2]; exact e)
/-- the field f of what stands at v is e -/
def FldAt (K : PySem.W.Frag) (H : Hp) (v : Addr) (f : Str) (e : V) : Prop := ∃ (C dx : Addr) (fs : List (Str × V)), H v = some (.ins C dx fs) ∧ Cls K C ∧ NoAttr K C f ∧ fs.lookup f = some e
theorem FldAt.same {K : PySem.W.Frag} {H H' : Hp} {v : Addr} {f : Str} {e : V} (h : FldAt K H v f e) (s : Same H H') : FldAt K H' v f e := let ⟨C, dx, fs, h1, h2⟩ := h; ⟨C, dx, fs, s _ _ h1, h2⟩
theorem FldAt.off {K : PySem.W.Frag} {H H' : Hp} {v a : Addr} {f : Str} {e : V} (h : FldAt K H v f e) (s : Off a H H') (n : v ≠ a) : FldAt K H' v f e := let ⟨C, dx, fs, h1, h2⟩ := h; ⟨C, dx, fs, s _ _ n h1, h2⟩
theorem FldAt.of {K : PySem.W.Frag} {mg : Str → Option Value} {x f : Str} {N : List Str} {H : Hp} {a dx : Addr} {vs : List V} {i : Nat} {e : V} (c : Kl K mg x N) (h : H a = some (.ins c.C dx (N.zip vs))) (hi : N.idxOf? f = some i) (hv : vs[i]? = some e) : FldAt K H a f e := ⟨_, _, _, h, c.cl, c.nf.get hi, lkZ hi hv⟩
section
variable {P : Program} {w : World} {K : PySem.W.Frag} {mg : Str → Option Value} {base : Heap}
def spTNum (C : Addr) : Sp := fun vs H Q _ => ∃ (r : Addr) (nm : Str) (T : Cd) (ps : List (Nat × Cd)) (i le c : Nat) (n : Int), vs = [.ref r] ∧ Rd C H r nm T ps i le ∧ (tk ps i).head? = some c ∧ c ∈ digs ∧ PySem.intText? (S (tk ps i)) = some n ∧ (tk ps i).length ≤ 640 ∧
  ∀ H', Off r H H' → Rd C H' r nm T ps (i + 1) (pos T ps i + (tk ps i).length) → Q (.int n) H'
theorem ok_tnum {f : Addr} {fd : FuncData} (F : Fun K "take_number" "Reader.take_number" m_Reader_take_number f fd) (T : Bl K mg) (k_Reader : Kl K mg "Reader" nReader) (m_go_on : DnM P w K mg base k_Reader "go_on" 3 ["self", "end"] (spGo k_Reader.C)) (m_is_number : DnM P w K mg base k_Reader "is_number" 1 ["self"] (spIN k_Reader.C)) :
    FnOk P w K mg base CX0 4 f fd ["self"] (spTNum k_Reader.C) := by
  refine F.ok scTNum (fun vs H Q E h => ?_) (fun cdv A outer s H vs Q E hr h => ?_)
  · obtain ⟨_, _, _, _, _, _, _, _, rfl, _⟩ := h
    rfl
  · obtain ⟨r, nm, Tx, ps, i, le, c, n, rfl, hRd, hc, hd, hn, hl, q⟩ := h
    obtain ⟨hP, hB, dx, hR⟩ := id hRd
    refine ⟨_, (pss_cons (ps_if (pt_not (pt_val (pe_meth0 (pv 0) k_Reader.cl m_is_number.mt m_is_number.ok (hr.mono (by omega)) m_is_number.b .nil pass0)))
        (pss_one ps_never)
        pss_nil)
      (pss_cons (ps_set (i := 1) scTNum.nd rfl (Or.inl rfl) (pe_callTy call_int_str (by rfl) T.int (by decide +kernel) (pa_cons (pe_fld (pv 0) rfl) pa_nil)))
      (pss_cons (ps_expr (pe_meth (pv 0) k_Reader.cl m_go_on.mt m_go_on.ok (hr.mono (by omega)) m_go_on.b .nil pass0 (pa_cons (pe_fld (pv 0) rfl) pa_nil)))
      (pss_one (ps_ret (pv 1)))))), ?_⟩
    have hi := hRd.lt fun z => by rw [z] at hc; cases hc
    obtain ⟨_, _, _, _, h4⟩ := hP.at hi
    refine ⟨.ref r, rfl, _, _, _, rfl, hR, lkN nx_Reader_is_number, r, nm, Tx, ps, i, le, c, rfl, hRd, hc, ?_⟩
    rw [decide_eq_true hd]
    refine ⟨_, rfl, iteF ⟨.ref r, rfl, _, _, _, _, _, rfl, hR, k_Reader.cl, k_Reader.nf.get ix_Reader_token, lkZ ix_Reader_token rfl, S (tk ps i), n, rfl, hn, by rw [len_S]; exact hl, ?_⟩⟩
    refine ⟨.ref r, rfl, _, _, _, rfl, hR, lkN nx_Reader_go_on, .ref r, rfl, _, _, _, _, _, rfl, hR, k_Reader.cl, k_Reader.nf.get ix_Reader_end, lkZ ix_Reader_end rfl, r, dx, nm, Tx, ps, i + 1, _, _, _, _, _, rfl, hR, hP, h4, fun H' o hR' => ?_⟩
    exact ⟨_, rfl, q H' o hR'⟩
/-- a class whose three parameters are its fields -/
def sp3 (N : List Str) (C : Addr) : Sp := fun vs H Q _ => ∃ (a dx : Addr) (x y z : V), vs = [.ref a, x, y, z] ∧ H a = some (.ins C dx []) ∧ ∀ H', Off a H H' → H' a = some (.ins C dx (N.zip [x, y, z])) → Q .non H'
theorem ok_iLiteral {f : Addr} {fd : FuncData} (F : Fun K "__init__" "Literal.__init__" m_Literal_init f fd) (k_Literal : Kl K mg "Literal" nLiteral) : FnOk P w K mg base CX0 1 f fd ["self", "value", "start", "end"] (sp3 nLiteral k_Literal.C) := by
  refine F.ok scLiteral (fun vs H Q E h => ?_) (fun cdv A outer s H vs Q E hr h => ?_)
  · obtain ⟨_, _, _, _, _, rfl, _⟩ := h
    rfl
  · obtain ⟨a, dx, x, y, z, rfl, hR, q⟩ := h
    refine ⟨_, (pss_cons (ps_fldZ (pv 0) (pv 1) rfl)
      (pss_cons (ps_fldZ (pv 0) (pv 2) rfl)
      (pss_one (ps_fldZ (pv 0) (pv 3) rfl)))), ?_⟩
    have hR : H a = some (.ins k_Literal.C dx (nLiteral.zip [])) := hR
    refine ⟨x, rfl, .ref a, rfl, _, _, _, _, _, _, rfl, hR, k_Literal.cl, k_Literal.nf.get ix_Literal_value, ix_Literal_value, Nat.le_of_ble_eq_true rfl, k_Literal.len, fun H1 o1 h1 => ?_⟩
    refine ⟨y, rfl, .ref a, rfl, _, _, _, _, _, _, rfl, h1, k_Literal.cl, k_Literal.nf.get ix_Literal_start, ix_Literal_start, Nat.le_of_ble_eq_true rfl, k_Literal.len, fun H2 o2 h2 => ?_⟩
    refine ⟨z, rfl, .ref a, rfl, _, _, _, _, _, _, rfl, h2, k_Literal.cl, k_Literal.nf.get ix_Literal_end, ix_Literal_end, Nat.le_of_ble_eq_true rfl, k_Literal.len, fun H3 o3 h3 => ?_⟩
    exact q H3 ((o1.trans o2).trans o3) h3
theorem ok_iTerm {f : Addr} {fd : FuncData} (F : Fun K "__init__" "Term.__init__" m_Term_init f fd) (k_Term : Kl K mg "Term" nTerm) : FnOk P w K mg base CX0 1 f fd ["self", "factor", "path", "is_plain"] (sp3 nTerm k_Term.C) := by
  refine F.ok scTerm (fun vs H Q E h => ?_) (fun cdv A outer s H vs Q E hr h => ?_)
  · obtain ⟨_, _, _, _, _, rfl, _⟩ := h
    rfl
  · obtain ⟨a, dx, x, y, z, rfl, hR, q⟩ := h
    refine ⟨_, (pss_cons (ps_fldZ (pv 0) (pv 1) rfl)
      (pss_cons (ps_fldZ (pv 0) (pv 2) rfl)
      (pss_one (ps_fldZ (pv 0) (pv 3) rfl)))), ?_⟩
    have hR : H a = some (.ins k_Term.C dx (nTerm.zip [])) := hR
    refine ⟨x, rfl, .ref a, rfl, _, _, _, _, _, _, rfl, hR, k_Term.cl, k_Term.nf.get ix_Term_factor, ix_Term_factor, Nat.le_of_ble_eq_true rfl, k_Term.len, fun H1 o1 h1 => ?_⟩
    refine ⟨y, rfl, .ref a, rfl, _, _, _, _, _, _, rfl, h1, k_Term.cl, k_Term.nf.get ix_Term_path, ix_Term_path, Nat.le_of_ble_eq_true rfl, k_Term.len, fun H2 o2 h2 => ?_⟩
    refine ⟨z, rfl, .ref a, rfl, _, _, _, _, _, _, rfl, h2, k_Term.cl, k_Term.nf.get ix_Term_is_plain, ix_Term_is_plain, Nat.le_of_ble_eq_true rfl, k_Term.len, fun H3 o3 h3 => ?_⟩
    exact q H3 ((o1.trans o2).trans o3) h3
theorem ok_iBody {f : Addr} {fd : FuncData} (F : Fun K "__init__" "Body.__init__" m_Body_init f fd) (k_Body : Kl K mg "Body" nBody) : FnOk P w K mg base CX0 1 f fd ["self", "entries", "start", "end"] (sp3 nBody k_Body.C) := by
  refine F.ok scBody (fun vs H Q E h => ?_) (fun cdv A outer s H vs Q E hr h => ?_)
  · obtain ⟨_, _, _, _, _, rfl, _⟩ := h
    rfl
  · obtain ⟨a, dx, x, y, z, rfl, hR, q⟩ := h
    refine ⟨_, (pss_cons (ps_fldZ (pv 0) (pv 1) rfl)
      (pss_cons (ps_fldZ (pv 0) (pv 2) rfl)
      (pss_one (ps_fldZ (pv 0) (pv 3) rfl)))), ?_⟩
    have hR : H a = some (.ins k_Body.C dx (nBody.zip [])) := hR
    refine ⟨x, rfl, .ref a, rfl, _, _, _, _, _, _, rfl, hR, k_Body.cl, k_Body.nf.get ix_Body_entries, ix_Body_entries, Nat.le_of_ble_eq_true rfl, k_Body.len, fun H1 o1 h1 => ?_⟩
    refine ⟨y, rfl, .ref a, rfl, _, _, _, _, _, _, rfl, h1, k_Body.cl, k_Body.nf.get ix_Body_start, ix_Body_start, Nat.le_of_ble_eq_true rfl, k_Body.len, fun H2 o2 h2 => ?_⟩
    refine ⟨z, rfl, .ref a, rfl, _, _, _, _, _, _, rfl, h2, k_Body.cl, k_Body.nf.get ix_Body_end, ix_Body_end, Nat.le_of_ble_eq_true rfl, k_Body.len, fun H3 o3 h3 => ?_⟩
    exact q H3 ((o1.trans o2).trans o3) h3
theorem ok_iListField {f : Addr} {fd : FuncData} (F : Fun K "__init__" "ListField.__init__" m_ListField_init f fd) (k_ListField : Kl K mg "ListField" nListField) : FnOk P w K mg base CX0 1 f fd ["self", "name", "start", "kind"] (sp3 nListField k_ListField.C) := by
  refine F.ok scListField (fun vs H Q E h => ?_) (fun cdv A outer s H vs Q E hr h => ?_)
  · obtain ⟨_, _, _, _, _, rfl, _⟩ := h
    rfl
  · obtain ⟨a, dx, x, y, z, rfl, hR, q⟩ := h
    refine ⟨_, (pss_cons (ps_fldZ (pv 0) (pv 1) rfl)
      (pss_cons (ps_fldZ (pv 0) (pv 2) rfl)
      (pss_one (ps_fldZ (pv 0) (pv 3) rfl)))), ?_⟩
    have hR : H a = some (.ins k_ListField.C dx (nListField.zip [])) := hR
    refine ⟨x, rfl, .ref a, rfl, _, _, _, _, _, _, rfl, hR, k_ListField.cl, k_ListField.nf.get ix_ListField_name, ix_ListField_name, Nat.le_of_ble_eq_true rfl, k_ListField.len, fun H1 o1 h1 => ?_⟩
    refine ⟨y, rfl, .ref a, rfl, _, _, _, _, _, _, rfl, h1, k_ListField.cl, k_ListField.nf.get ix_ListField_start, ix_ListField_start, Nat.le_of_ble_eq_true rfl, k_ListField.len, fun H2 o2 h2 => ?_⟩
    refine ⟨z, rfl, .ref a, rfl, _, _, _, _, _, _, rfl, h2, k_ListField.cl, k_ListField.nf.get ix_ListField_kind, ix_ListField_kind, Nat.le_of_ble_eq_true rfl, k_ListField.len, fun H3 o3 h3 => ?_⟩
    exact q H3 ((o1.trans o2).trans o3) h3
def spTemplateI (C : Addr) : Sp := fun vs H Q _ => ∃ (a dx : Addr) (x y z : V), vs = [.ref a, x, y, z] ∧ H a = some (.ins C dx []) ∧ ∀ H', Off a H H' → H' a = some (.ins C dx (nTemplate.zip [x, y, z, .non, .int 0])) → Q .non H'
theorem ok_iTemplate {f : Addr} {fd : FuncData} (F : Fun K "__init__" "Template.__init__" m_Template_init f fd) (k_Template : Kl K mg "Template" nTemplate) : FnOk P w K mg base CX0 1 f fd ["self", "name", "name_start", "body"] (spTemplateI k_Template.C) := by
  refine F.ok scTemplate (fun vs H Q E h => ?_) (fun cdv A outer s H vs Q E hr h => ?_)
  · obtain ⟨_, _, _, _, _, rfl, _⟩ := h
    rfl
  · obtain ⟨a, dx, x, y, z, rfl, hR, q⟩ := h
    refine ⟨_, (pss_cons (ps_fldZ (pv 0) (pv 1) rfl)
      (pss_cons (ps_fldZ (pv 0) (pv 2) rfl)
      (pss_cons (ps_fldZ (pv 0) (pv 3) rfl)
      (pss_cons (ps_fldZ (pv 0) pe_non rfl)
      (pss_one (ps_fldZ (pv 0) pe_int rfl)))))), ?_⟩
    have hR : H a = some (.ins k_Template.C dx (nTemplate.zip [])) := hR
    refine ⟨x, rfl, .ref a, rfl, _, _, _, _, _, _, rfl, hR, k_Template.cl, k_Template.nf.get ix_Template_name, ix_Template_name, Nat.le_of_ble_eq_true rfl, k_Template.len, fun H1 o1 h1 => ?_⟩
    refine ⟨y, rfl, .ref a, rfl, _, _, _, _, _, _, rfl, h1, k_Template.cl, k_Template.nf.get ix_Template_name_start, ix_Template_name_start, Nat.le_of_ble_eq_true rfl, k_Template.len, fun H2 o2 h2 => ?_⟩
    refine ⟨z, rfl, .ref a, rfl, _, _, _, _, _, _, rfl, h2, k_Template.cl, k_Template.nf.get ix_Template_body, ix_Template_body, Nat.le_of_ble_eq_true rfl, k_Template.len, fun H3 o3 h3 => ?_⟩
    refine ⟨.ref a, rfl, _, _, _, _, _, _, rfl, h3, k_Template.cl, k_Template.nf.get ix_Template_base, ix_Template_base, Nat.le_of_ble_eq_true rfl, k_Template.len, fun H4 o4 h4 => ?_⟩
    refine ⟨.ref a, rfl, _, _, _, _, _, _, rfl, h4, k_Template.cl, k_Template.nf.get ix_Template_base_start, ix_Template_base_start, Nat.le_of_ble_eq_true rfl, k_Template.len, fun H5 o5 h5 => ?_⟩
    exact q H5 ((o1.trans o2).trans (o3.trans (o4.trans o5))) h5
def spEntryI (K : PySem.W.Frag) (C : Addr) : Sp := fun vs H Q _ => ∃ (a dx v : Addr) (x y e : V), vs = [.ref a, x, y, .ref v] ∧ H a = some (.ins C dx []) ∧ FldAt K H v "end" e ∧ ∀ H', Off a H H' → H' a = some (.ins C dx (nEntry.zip [x, y, .ref v, .bl false, y, e])) → Q .non H'
theorem ok_iEntry {f : Addr} {fd : FuncData} (F : Fun K "__init__" "Entry.__init__" m_Entry_init f fd) (k_Entry : Kl K mg "Entry" nEntry) : FnOk P w K mg base CX0 1 f fd ["self", "name", "name_start", "value"] (spEntryI K k_Entry.C) := by
  refine F.ok scEntry (fun vs H Q E h => ?_) (fun cdv A outer s H vs Q E hr h => ?_)
  · obtain ⟨_, _, _, _, _, _, rfl, _⟩ := h
    rfl
  · obtain ⟨a, dx, v, x, y, e, rfl, hR, hv, q⟩ := h
    refine ⟨_, (pss_cons (ps_fldZ (pv 0) (pv 1) rfl)
      (pss_cons (ps_fldZ (pv 0) (pv 2) rfl)
      (pss_cons (ps_fldZ (pv 0) (pv 3) rfl)
      (pss_cons (ps_fldZ (pv 0) pe_bl rfl)
      (pss_cons (ps_fldZ (pv 0) (pv 2) rfl)
      (pss_one (ps_fldZ (pv 0) (pe_fld (pv 3) rfl) rfl))))))), ?_⟩
    have va : v ≠ a := fun z => by
      obtain ⟨_, _, fs, h1, _, _, h2⟩ := hv
      rw [z, hR] at h1
      cases h1
      cases h2
    have hR : H a = some (.ins k_Entry.C dx (nEntry.zip [])) := hR
    refine ⟨x, rfl, .ref a, rfl, _, _, _, _, _, _, rfl, hR, k_Entry.cl, k_Entry.nf.get ix_Entry_name, ix_Entry_name, Nat.le_of_ble_eq_true rfl, k_Entry.len, fun H1 o1 h1 => ?_⟩
    refine ⟨y, rfl, .ref a, rfl, _, _, _, _, _, _, rfl, h1, k_Entry.cl, k_Entry.nf.get ix_Entry_name_start, ix_Entry_name_start, Nat.le_of_ble_eq_true rfl, k_Entry.len, fun H2 o2 h2 => ?_⟩
    refine ⟨.ref v, rfl, .ref a, rfl, _, _, _, _, _, _, rfl, h2, k_Entry.cl, k_Entry.nf.get ix_Entry_value, ix_Entry_value, Nat.le_of_ble_eq_true rfl, k_Entry.len, fun H3 o3 h3 => ?_⟩
    refine ⟨.ref a, rfl, _, _, _, _, _, _, rfl, h3, k_Entry.cl, k_Entry.nf.get ix_Entry_is_hidden, ix_Entry_is_hidden, Nat.le_of_ble_eq_true rfl, k_Entry.len, fun H4 o4 h4 => ?_⟩
    refine ⟨y, rfl, .ref a, rfl, _, _, _, _, _, _, rfl, h4, k_Entry.cl, k_Entry.nf.get ix_Entry_start, ix_Entry_start, Nat.le_of_ble_eq_true rfl, k_Entry.len, fun H5 o5 h5 => ?_⟩
    have o15 := (o1.trans o2).trans (o3.trans (o4.trans o5))
    obtain ⟨Cv, dv, fs, g1, g2, g3, g4⟩ := hv.off o15 va
    refine ⟨.ref v, rfl, v, Cv, dv, fs, e, rfl, g1, g2, g3, g4, .ref a, rfl, _, _, _, _, _, _, rfl, h5, k_Entry.cl, k_Entry.nf.get ix_Entry_end, ix_Entry_end, Nat.le_of_ble_eq_true rfl, k_Entry.len, fun H6 o6 h6 => ?_⟩
    exact q H6 (o15.trans o6) h6
def spListI (C : Addr) : Sp := fun vs H Q _ => ∃ (a dx : Addr) (x y z : V), vs = [.ref a, x, y, z] ∧ H a = some (.ins C dx []) ∧ ∀ H' l, Off a H H' → H l = none → H' l = some (.lst []) → H' a = some (.ins C dx (nListSource.zip [x, y, z, .ref l, .int 0, .int 0])) → Q .non H'
theorem ok_iList {f : Addr} {fd : FuncData} (F : Fun K "__init__" "ListSource.__init__" m_ListSource_init f fd) (k_ListSource : Kl K mg "ListSource" nListSource) : FnOk P w K mg base CX0 1 f fd ["self", "name", "name_start", "fields"] (spListI k_ListSource.C) := by
  refine F.ok scListSource (fun vs H Q E h => ?_) (fun cdv A outer s H vs Q E hr h => ?_)
  · obtain ⟨_, _, _, _, _, rfl, _⟩ := h
    rfl
  · obtain ⟨a, dx, x, y, z, rfl, hR, q⟩ := h
    refine ⟨_, (pss_cons (ps_fldZ (pv 0) (pv 1) rfl)
      (pss_cons (ps_fldZ (pv 0) (pv 2) rfl)
      (pss_cons (ps_fldZ (pv 0) (pv 3) rfl)
      (pss_cons (ps_fldZ (pv 0) (pe_lst pa_nil) rfl)
      (pss_cons (ps_fldZ (pv 0) pe_int rfl)
      (pss_one (ps_fldZ (pv 0) pe_int rfl))))))), ?_⟩
    have hR : H a = some (.ins k_ListSource.C dx (nListSource.zip [])) := hR
    refine ⟨x, rfl, .ref a, rfl, _, _, _, _, _, _, rfl, hR, k_ListSource.cl, k_ListSource.nf.get ix_ListSource_name, ix_ListSource_name, Nat.le_of_ble_eq_true rfl, k_ListSource.len, fun H1 o1 h1 => ?_⟩
    refine ⟨y, rfl, .ref a, rfl, _, _, _, _, _, _, rfl, h1, k_ListSource.cl, k_ListSource.nf.get ix_ListSource_name_start, ix_ListSource_name_start, Nat.le_of_ble_eq_true rfl, k_ListSource.len, fun H2 o2 h2 => ?_⟩
    refine ⟨z, rfl, .ref a, rfl, _, _, _, _, _, _, rfl, h2, k_ListSource.cl, k_ListSource.nf.get ix_ListSource_fields, ix_ListSource_fields, Nat.le_of_ble_eq_true rfl, k_ListSource.len, fun H3 o3 h3 => ?_⟩
    refine ⟨by show 0 ≤ sizeLine; decide, fun l nl => ?_⟩
    have h3' := same_new (o := .lst []) nl _ _ h3
    have la : l ≠ a := fun z => by rw [z, h3] at nl; cases nl
    have o13 := (o1.trans o2).trans o3
    have nl0 := o13.none la nl
    have o13' := o13.s (same_new (o := .lst []) nl)
    refine ⟨.ref a, rfl, _, _, _, _, _, _, rfl, h3', k_ListSource.cl, k_ListSource.nf.get ix_ListSource_item_bodies, ix_ListSource_item_bodies, Nat.le_of_ble_eq_true rfl, k_ListSource.len, fun H4 o4 h4 => ?_⟩
    have hl4 := o4 _ _ la (upd_same (H := H3) (a := l) (o := .lst []))
    refine ⟨.ref a, rfl, _, _, _, _, _, _, rfl, h4, k_ListSource.cl, k_ListSource.nf.get ix_ListSource_open_end, ix_ListSource_open_end, Nat.le_of_ble_eq_true rfl, k_ListSource.len, fun H5 o5 h5 => ?_⟩
    refine ⟨.ref a, rfl, _, _, _, _, _, _, rfl, h5, k_ListSource.cl, k_ListSource.nf.get ix_ListSource_close_start, ix_ListSource_close_start, Nat.le_of_ble_eq_true rfl, k_ListSource.len, fun H6 o6 h6 => ?_⟩
    exact q H6 l (o13'.trans (o4.trans (o5.trans o6))) nl0 (o6 _ _ la (o5 _ _ la hl4)) h6
def spFileI (C : Addr) : Sp := fun vs H Q _ => ∃ (a dx : Addr) (x y : V), vs = [.ref a, x, y] ∧ H a = some (.ins C dx []) ∧ ∀ H' l1 l2 l3, Off a H H' → H l1 = none → H l2 = none → H l3 = none → l1 ≠ l2 → l1 ≠ l3 → l2 ≠ l3 → H' l1 = some (.lst []) → H' l2 = some (.lst []) → H' l3 = some (.lst []) →
  H' a = some (.ins C dx (nFileSource.zip [x, y, .ref l1, .ref l2, .ref l3, .non, .int 0])) → Q .non H'
theorem ok_iFile {f : Addr} {fd : FuncData} (F : Fun K "__init__" "FileSource.__init__" m_FileSource_init f fd) (k_FileSource : Kl K mg "FileSource" nFileSource) : FnOk P w K mg base CX0 1 f fd ["self", "name", "signs"] (spFileI k_FileSource.C) := by
  refine F.ok scFileSource (fun vs H Q E h => ?_) (fun cdv A outer s H vs Q E hr h => ?_)
  · obtain ⟨_, _, _, _, rfl, _⟩ := h
    rfl
  · obtain ⟨a, dx, x, y, rfl, hR, q⟩ := h
    refine ⟨_, (pss_cons (ps_fldZ (pv 0) (pv 1) rfl)
      (pss_cons (ps_fldZ (pv 0) (pv 2) rfl)
      (pss_cons (ps_fldZ (pv 0) (pe_lst pa_nil) rfl)
      (pss_cons (ps_fldZ (pv 0) (pe_lst pa_nil) rfl)
      (pss_cons (ps_fldZ (pv 0) (pe_lst pa_nil) rfl)
      (pss_cons (ps_fldZ (pv 0) pe_non rfl)
      (pss_one (ps_fldZ (pv 0) pe_int rfl)))))))), ?_⟩
    have hR : H a = some (.ins k_FileSource.C dx (nFileSource.zip [])) := hR
    refine ⟨x, rfl, .ref a, rfl, _, _, _, _, _, _, rfl, hR, k_FileSource.cl, k_FileSource.nf.get ix_FileSource_name, ix_FileSource_name, Nat.le_of_ble_eq_true rfl, k_FileSource.len, fun H1 o1 h1 => ?_⟩
    refine ⟨y, rfl, .ref a, rfl, _, _, _, _, _, _, rfl, h1, k_FileSource.cl, k_FileSource.nf.get ix_FileSource_signs, ix_FileSource_signs, Nat.le_of_ble_eq_true rfl, k_FileSource.len, fun H2 o2 h2 => ?_⟩
    have o12 := o1.trans o2
    refine ⟨by show 0 ≤ sizeLine; decide, fun l1 nl1 => ?_⟩
    have a1 : l1 ≠ a := fun z => by rw [z, h2] at nl1; cases nl1
    have n1 := o12.none a1 nl1
    have h2' := same_new (o := .lst []) nl1 _ _ h2
    have p3 := o12.s (same_new (o := .lst []) nl1)
    refine ⟨.ref a, rfl, _, _, _, _, _, _, rfl, h2', k_FileSource.cl, k_FileSource.nf.get ix_FileSource_imports, ix_FileSource_imports, Nat.le_of_ble_eq_true rfl, k_FileSource.len, fun H3 o3 h3 => ?_⟩
    have g3 := o3 _ _ a1 (upd_same (H := H2) (a := l1) (o := .lst []))
    have q3 := p3.trans o3
    refine ⟨by show 0 ≤ sizeLine; decide, fun l2 nl2 => ?_⟩
    have a2 : l2 ≠ a := fun z => by rw [z, h3] at nl2; cases nl2
    have n2 := q3.none a2 nl2
    have d12 : l1 ≠ l2 := fun z => by rw [← z, g3] at nl2; cases nl2
    have h3' := same_new (o := .lst []) nl2 _ _ h3
    have g3' := same_new (o := .lst []) nl2 _ _ g3
    have p4 := q3.s (same_new (o := .lst []) nl2)
    refine ⟨.ref a, rfl, _, _, _, _, _, _, rfl, h3', k_FileSource.cl, k_FileSource.nf.get ix_FileSource_templates, ix_FileSource_templates, Nat.le_of_ble_eq_true rfl, k_FileSource.len, fun H4 o4 h4 => ?_⟩
    have g4 := o4 _ _ a1 g3'
    have f4 := o4 _ _ a2 (upd_same (H := H3) (a := l2) (o := .lst []))
    have q4 := p4.trans o4
    refine ⟨by show 0 ≤ sizeLine; decide, fun l3 nl3 => ?_⟩
    have a3 : l3 ≠ a := fun z => by rw [z, h4] at nl3; cases nl3
    have n3 := q4.none a3 nl3
    have d13 : l1 ≠ l3 := fun z => by rw [← z, g4] at nl3; cases nl3
    have d23 : l2 ≠ l3 := fun z => by rw [← z, f4] at nl3; cases nl3
    have s5 := same_new (o := .lst []) nl3
    have h4' := s5 _ _ h4
    have p5 := q4.s s5
    refine ⟨.ref a, rfl, _, _, _, _, _, _, rfl, h4', k_FileSource.cl, k_FileSource.nf.get ix_FileSource_list_sources, ix_FileSource_list_sources, Nat.le_of_ble_eq_true rfl, k_FileSource.len, fun H5 o5 h5 => ?_⟩
    have g5 := o5 _ _ a1 (s5 _ _ g4)
    have f5 := o5 _ _ a2 (s5 _ _ f4)
    have e5 := o5 _ _ a3 (upd_same (H := H4) (a := l3) (o := .lst []))
    refine ⟨.ref a, rfl, _, _, _, _, _, _, rfl, h5, k_FileSource.cl, k_FileSource.nf.get ix_FileSource_document, ix_FileSource_document, Nat.le_of_ble_eq_true rfl, k_FileSource.len, fun H6 o6 h6 => ?_⟩
    refine ⟨.ref a, rfl, _, _, _, _, _, _, rfl, h6, k_FileSource.cl, k_FileSource.nf.get ix_FileSource_document_start, ix_FileSource_document_start, Nat.le_of_ble_eq_true rfl, k_FileSource.len, fun H7 o7 h7 => ?_⟩
    have o67 := o6.trans o7
    exact q H7 l1 l2 l3 (p5.trans (o5.trans o67)) n1 n2 n3 d12 d13 d23 (o67 _ _ a1 g5) (o67 _ _ a2 f5) (o67 _ _ a3 e5) h7
end
end M05

set_option Elab.async false
set_option linter.all false
set_option maxRecDepth 100000
set_option maxHeartbeats 4000000
/-! class Reader: read_term, read_simple, read_value of a number -/
namespace M05
open PySem PySem.Spec PyProof.Rows L2 GL
theorem scTm : FnScope ["self", "sign", "number"] ["self", "sign"] (defScope m_Reader_read_term) := ⟨rfl, rfl, rfl, by decide +kernel, rfl, by decide +kernel, by decide +kernel⟩
theorem scSi : FnScope ["self", "start", "is_minus", "terms", "is_one", "term"] ["self"] (defScope m_Reader_read_simple) := ⟨rfl, rfl, rfl, by decide +kernel, rfl, by decide +kernel, by decide +kernel⟩
theorem scVl : FnScope ["self", "is_declared", "is_hidden"] ["self", "is_declared", "is_hidden"] (defScope m_Reader_read_value) := ⟨rfl, rfl, rfl, by decide +kernel, rfl, by decide +kernel, by decide +kernel⟩
def tNo : TE := fun _ _ _ => False
theorem pe_never {X : Cx} {e : Expr} : PE X e tNo := ⟨fun _ _ _ _ _ _ h => h.elim⟩
/-- the i-th token is this number, and no sign of a term stands behind it -/
structure NumAt (ps : List (Nat × Cd)) (i : Nat) (n : Int) : Prop where
  dig : ∃ c, (tk ps i).head? = some c ∧ c ∈ digs
  val : PySem.intText? (S (tk ps i)) = some n
  len : (tk ps i).length ≤ 640
  star : S (tk ps (i + 1)) ≠ "*"
  plus : S (tk ps (i + 1)) ≠ "+"
  minus : S (tk ps (i + 1)) ≠ "-"
/-- the end of the i-th token -/
def eT (T : Cd) (ps : List (Nat × Cd)) (i : Nat) : Nat := pos T ps i + (tk ps i).length
theorem head_ne {ps : List (Nat × Cd)} {i c : Nat} {z : Str} (h : (tk ps i).head? = some c) (hz : ∀ d, (cs z).head? = some d → d ≠ c) : S (tk ps i) ≠ z := fun e => by
  have : tk ps i = cs z := by rw [← e, cs_S]
  rw [this] at h
  exact hz c h rfl
section
variable {P : Program} {w : World} {K : PySem.W.Frag} {mg : Str → Option Value} {base : Heap}
def spTm (C CT : Addr) : Sp := fun vs H Q _ => ∃ (r : Addr) (nm : Str) (T : Cd) (ps : List (Nat × Cd)) (i le : Nat) (n : Int), vs = [.ref r, .int 1] ∧ Rd C H r nm T ps i le ∧ NumAt ps i n ∧
  ∀ H' t dt, Off r H H' → H t = none → H' t = some (.ins CT dt (nTerm.zip [.int n, .non, .bl false])) → Rd C H' r nm T ps (i + 1) (eT T ps i) → Q (.ref t) H'
theorem ok_tm {f : Addr} {fd : FuncData} (F : Fun K "read_term" "Reader.read_term" m_Reader_read_term f fd) (T : Bl K mg) (k_Reader : Kl K mg "Reader" nReader) (k_Term : Kl K mg "Term" nTerm) (i_Term : Mkr P w K mg base k_Term 1 ["self", "factor", "path", "is_plain"] (sp3 nTerm))
    (m_is_number : DnM P w K mg base k_Reader "is_number" 1 ["self"] (spIN k_Reader.C)) (m_take_number : DnM P w K mg base k_Reader "take_number" 4 ["self"] (spTNum k_Reader.C)) (m_accept : DnM P w K mg base k_Reader "accept" 4 ["self", "wanted"] (spAcc k_Reader.C)) :
    FnOk P w K mg base CX0 5 f fd ["self", "sign"] (spTm k_Reader.C k_Term.C) := by
  refine F.ok scTm (fun vs H Q E h => ?_) (fun cdv A outer s H vs Q E hr h => ?_)
  · obtain ⟨_, _, _, _, _, _, _, rfl, _⟩ := h
    rfl
  · obtain ⟨r, nm, Tx, ps, i, le, n, rfl, hRd, hn, q⟩ := h
    obtain ⟨hP, hB, dx, hR⟩ := id hRd
    obtain ⟨c, hc, hd⟩ := hn.dig
    refine ⟨_, (pss_cons (ps_if (pt_not (pt_val (pe_meth0 (pv 0) k_Reader.cl m_is_number.mt m_is_number.ok (hr.mono (by omega)) m_is_number.b .nil pass0)))
        (pss_one ps_never)
        pss_nil)
      (pss_cons (ps_set (i := 2) scTm.nd rfl (Or.inl rfl) (pe_op op_mul (pv 1) (pe_meth0 (pv 0) k_Reader.cl m_take_number.mt m_take_number.ok (hr.mono (by omega)) m_take_number.b .nil pass0)))
      (pss_one (ps_ret (pe_make i_Term.mak i_Term.ok (hr.mono (by omega)) (by rfl) k_Term.g i_Term.b .nil pass0 (pa_cons (pv 2) (pa_cons (pe_ifExp (pt_val (pe_meth (pv 0) k_Reader.cl m_accept.mt m_accept.ok (hr.mono (by omega)) m_accept.b .nil pass0 (pa_cons pe_str pa_nil))) pe_never pe_non) (pa_cons pe_bl pa_nil)))))))), ?_⟩
    refine ⟨.ref r, rfl, _, _, _, rfl, hR, lkN nx_Reader_is_number, r, nm, Tx, ps, i, le, c, rfl, hRd, hc, ?_⟩
    rw [decide_eq_true hd]
    refine ⟨_, rfl, iteF ⟨.int 1, rfl, .ref r, rfl, _, _, _, rfl, hR, lkN nx_Reader_take_number, r, nm, Tx, ps, i, le, c, n, rfl, hRd, hc, hd, hn.val, hn.len, fun H1 o1 hR1 => ?_⟩⟩
    obtain ⟨_, _, dx1, h1⟩ := id hR1
    refine ⟨1, n, rfl, rfl, .inl ⟨by decide, by decide⟩, _, rfl, .ref r, rfl, _, _, _, rfl, h1, lkN nx_Reader_accept, r, nm, Tx, ps, i + 1, _, "*", rfl, hR1, by decide +kernel, fun e => absurd e hn.star, fun _ => ⟨_, rfl, iteF ?_⟩⟩
    refine fun t dt nt nd ne => ⟨t, dt, _, _, _, rfl, upd_same, fun H2 o2 h2 => ⟨rfl, ?_⟩⟩
    have h2 : H2 t = some (.ins k_Term.C dt (nTerm.zip [.int (1 * n), .non, .bl false])) := h2
    rw [Int.one_mul] at h2
    have s2 := same_made nt nd o2
    exact q H2 t dt (o1.s s2) (o1.none (fun z => by rw [z, h1] at nt; cases nt) nt) h2 (hR1.same s2)
def spSi (C CL : Addr) : Sp := fun vs H Q _ => ∃ (r : Addr) (nm : Str) (T : Cd) (ps : List (Nat × Cd)) (i le : Nat) (n : Int), vs = [.ref r] ∧ Rd C H r nm T ps i le ∧ NumAt ps i n ∧
  ∀ H' t dt, Off r H H' → H t = none → H' t = some (.ins CL dt (nLiteral.zip [.int n, .int (pos T ps i : Nat), .int (eT T ps i : Nat)])) → Rd C H' r nm T ps (i + 1) (eT T ps i) → Q (.ref t) H'
theorem ok_si {f : Addr} {fd : FuncData} (F : Fun K "read_simple" "Reader.read_simple" m_Reader_read_simple f fd) (T : Bl K mg) (k_Reader : Kl K mg "Reader" nReader) (k_Term : Kl K mg "Term" nTerm) (k_Literal : Kl K mg "Literal" nLiteral) (i_Literal : Mkr P w K mg base k_Literal 1 ["self", "value", "start", "end"] (sp3 nLiteral))
    (m_is_string : DnM P w K mg base k_Reader "is_string" 1 ["self"] (spIS k_Reader.C)) (m_accept : DnM P w K mg base k_Reader "accept" 4 ["self", "wanted"] (spAcc k_Reader.C)) (m_read_term : DnM P w K mg base k_Reader "read_term" 5 ["self", "sign"] (spTm k_Reader.C k_Term.C)) :
    FnOk P w K mg base CX0 6 f fd ["self"] (spSi k_Reader.C k_Literal.C) := by
  refine F.ok scSi (fun vs H Q E h => ?_) (fun cdv A outer s H vs Q E hr h => ?_)
  · obtain ⟨_, _, _, _, _, _, _, rfl, _⟩ := h
    rfl
  · obtain ⟨r, nm, Tx, ps, i, le, n, rfl, hRd, hn, q⟩ := h
    obtain ⟨hP, hB, dx, hR⟩ := id hRd
    obtain ⟨c, hc, hd⟩ := hn.dig
    have hd' := mem_digs.mp hd
    refine ⟨_, (pss_cons (ps_if (pt_val (pe_meth0 (pv 0) k_Reader.cl m_is_string.mt m_is_string.ok (hr.mono (by omega)) m_is_string.b .nil pass0))
        (pss_one ps_never)
        pss_nil)
      (pss_cons (ps_par (i := 1) (j := 2) (by rfl) scSi.nd rfl rfl (by decide) rfl rfl (pa_cons (pe_fld (pv 0) rfl) (pa_cons (pe_meth (pv 0) k_Reader.cl m_accept.mt m_accept.ok (hr.mono (by omega)) m_accept.b .nil pass0 (pa_cons (pe_glob (v := .str "-") (by rfl) T.cminus.choose_spec ⟨_, rfl⟩) pa_nil)) pa_nil)) (by rfl))
      (pss_cons (ps_set (i := 3) scSi.nd rfl (Or.inl rfl) (pe_lst (pa_cons (pe_meth (pv 0) k_Reader.cl m_read_term.mt m_read_term.ok (hr.mono (by omega)) m_read_term.b .nil pass0 (pa_cons (pe_ifExp (pt_val (pv 2)) (pe_un un_neg pe_int) pe_int) pa_nil)) pa_nil)))
      (pss_cons (ps_set (i := 4) scSi.nd rfl (Or.inl rfl) (pe_cmpR (r := rIn K true) op_notIn_seq (pe_fld (pv 0) rfl) (pe_tup (pa_cons (pe_glob (v := .str "+") (by rfl) T.cplus.choose_spec ⟨_, rfl⟩) (pa_cons (pe_glob (v := .str "-") (by rfl) T.cminus.choose_spec ⟨_, rfl⟩) pa_nil))) (by rfl)))
      (pss_cons (ps_if (PW.pt (pw_and (pt_val (pv 4)) (pw_and1 (pt_cmpR op_isN (pe_fld (pe_ix (r := rIxL K) ix_list (pv 3) pe_int (fun _ _ => rfl)) rfl) pe_non (nomark _)))))
        (pss_one (ps_ret (pe_make i_Literal.mak i_Literal.ok (hr.mono (by omega)) (by rfl) k_Literal.g i_Literal.b .nil pass0 (pa_cons (pe_fld (pe_ix (r := rIxL K) ix_list (pv 3) pe_int (fun _ _ => rfl)) rfl) (pa_cons (pv 1) (pa_cons (pe_fld (pv 0) rfl) pa_nil))))))
        pss_nil)
      (pss_cons ps_never
      (pss_cons ps_never
      (pss_one ps_never)))))))), ?_⟩
    refine ⟨.ref r, rfl, _, _, _, rfl, hR, lkN nx_Reader_is_string, r, nm, Tx, ps, i, le, c, rfl, hRd, hc, ?_⟩
    rw [decide_eq_false (by omega : ¬ c = 34)]
    have nm0 : S (tk ps i) ≠ "-" := head_ne hc fun d hd2 e => by
      have : d = 45 := by
        have h := hd2
        rw [show cs "-" = [45] by decide +kernel] at h
        simpa using h.symm
      omega
    refine ⟨_, rfl, iteF ⟨.ref r, rfl, _, _, _, _, _, rfl, hR, k_Reader.cl, k_Reader.nf.get ix_Reader_start, lkZ ix_Reader_start rfl, .ref r, rfl, _, _, _, rfl, hR, lkN nx_Reader_accept, r, nm, Tx, ps, i, le, "-", rfl, hRd, by decide +kernel, fun e => absurd e nm0, fun _ => ?_⟩⟩
    refine ⟨_, _, rfl, ?_⟩
    refine ⟨.ref r, rfl, _, _, _, rfl, hR, lkN nx_Reader_read_term, .bl false, rfl, _, rfl, iteF ?_⟩
    refine ⟨r, nm, Tx, ps, i, le, n, rfl, hRd, hn, fun H1 t dt o1 nt h1 hR1 => ⟨by show 1 ≤ sizeLine; decide, fun L nL => ?_⟩⟩
    obtain ⟨_, _, dx1, g1⟩ := id hR1
    have s2 := same_new (o := .lst [.ref t]) nL
    have g2 := s2 _ _ g1
    have t2 := s2 _ _ h1
    have hR2 := hR1.same s2
    have l2 := upd_same (H := H1) (a := L) (o := .lst [.ref t])
    have Lr : L ≠ r := fun z => by rw [z, g1] at nL; cases nL
    have tr : t ≠ r := fun z => by rw [z, hR] at nt; cases nt
    refine ⟨.ref r, rfl, _, _, _, _, _, rfl, g2, k_Reader.cl, k_Reader.nf.get ix_Reader_token, lkZ ix_Reader_token rfl, by show 2 ≤ sizeLine; decide, fun u nu => ?_⟩
    have s3 := same_new (o := .tup [.str "+", .str "-"]) nu
    have u3 := upd_same (H := upd H1 L (.lst [.ref t])) (a := u) (o := .tup [.str "+", .str "-"])
    refine ⟨u, _, rfl, .inr (SqT.of u3), rfl, rfl, ?_⟩
    have ni : (!inV (.str (S (tk ps (i + 1)))) [.str "+", .str "-"]) = true := by
      rw [show ([.str "+", .str "-"] : List V) = (["+", "-"] : List Str).map V.str from rfl, inS, decide_eq_false (fun z => by
        rcases List.mem_cons.mp z with e | e
        · exact hn.plus e
        · exact hn.minus (List.mem_singleton.mp e))]
      rfl
    refine ⟨_, rfl, _, rfl, ?_⟩
    rw [ni]
    have l3 := s3 _ _ l2
    have t3 := s3 _ _ t2
    have g3 := s3 _ _ g2
    have hR3 := hR2.same s3
    refine iteT ⟨.ref L, rfl, L, _, 0, .ref t, rfl, rfl, SqL.of l3, rfl, _, _, _, _, _, rfl, t3, k_Term.cl, k_Term.nf.get ix_Term_path, lkZ ix_Term_path rfl, rfl, _, rfl, iteT ?_⟩
    refine ⟨.ref L, rfl, L, _, 0, .ref t, rfl, rfl, SqL.of l3, rfl, _, _, _, _, _, rfl, t3, k_Term.cl, k_Term.nf.get ix_Term_factor, lkZ ix_Term_factor rfl, _, rfl, .ref r, rfl, _, _, _, _, _, rfl, g3, k_Reader.cl, k_Reader.nf.get ix_Reader_last_end, lkZ ix_Reader_last_end rfl, fun v dv nv ndv ne => ⟨v, dv, _, _, _, rfl, upd_same, fun H4 o4 h4 => ⟨rfl, ?_⟩⟩⟩
    have s4 := same_made nv ndv o4
    have s14 := (s2.trans s3).trans s4
    have vr : v ≠ r := fun z => by rw [z, g3] at nv; cases nv
    have n3 : H1 v = none := by
      cases z : H1 v with
      | none => rfl
      | some y =>
        have := s3 _ _ (s2 _ _ z)
        rw [nv] at this
        cases this
    exact q H4 v dv (o1.s s14) (o1.none vr n3) h4 (hR1.same s14)
def spVl (C CL : Addr) : Sp := fun vs H Q _ => ∃ (r : Addr) (nm : Str) (T : Cd) (ps : List (Nat × Cd)) (i le : Nat) (n : Int), vs = [.ref r, .bl true, .bl false] ∧ Rd C H r nm T ps i le ∧ NumAt ps i n ∧
  ∀ H' t dt, Off r H H' → H t = none → H' t = some (.ins CL dt (nLiteral.zip [.int n, .int (pos T ps i : Nat), .int (eT T ps i : Nat)])) → Rd C H' r nm T ps (i + 1) (eT T ps i) → Q (.ref t) H'
theorem ok_vl {f : Addr} {fd : FuncData} (F : Fun K "read_value" "Reader.read_value" m_Reader_read_value f fd) (T : Bl K mg) (k_Reader : Kl K mg "Reader" nReader) (k_Literal : Kl K mg "Literal" nLiteral) (m_read_simple : DnM P w K mg base k_Reader "read_simple" 6 ["self"] (spSi k_Reader.C k_Literal.C)) :
    FnOk P w K mg base CX0 7 f fd ["self", "is_declared", "is_hidden"] (spVl k_Reader.C k_Literal.C) := by
  refine F.ok scVl (fun vs H Q E h => ?_) (fun cdv A outer s H vs Q E hr h => ?_)
  · obtain ⟨_, _, _, _, _, _, _, rfl, _⟩ := h
    rfl
  · obtain ⟨r, nm, Tx, ps, i, le, n, rfl, hRd, hn, q⟩ := h
    obtain ⟨hP, hB, dx, hR⟩ := id hRd
    obtain ⟨c, hc, hd⟩ := hn.dig
    have hd' := mem_digs.mp hd
    have ne : ∀ z : Str, (∀ d, (cs z).head? = some d → 97 ≤ d) → S (tk ps i) ≠ z := fun z hz => head_ne hc fun d h e => by
      have := hz d h
      omega
    have w1 := ne "if" (by decide +kernel)
    have w2 := ne "new" (by decide +kernel)
    have w3 := ne "for" (by decide +kernel)
    refine ⟨_, (pss_cons (ps_if (pt_cmpR op_eq (pe_fld (pv 0) rfl) pe_str (nomark _))
        (pss_one ps_never)
        pss_nil)
      (pss_cons (ps_if (pt_not (pt_val (pv 1)))
        (pss_one ps_never)
        pss_nil)
      (pss_cons (ps_if (pt_cmpR op_eq (pe_fld (pv 0) rfl) pe_str (nomark _))
        (pss_one ps_never)
        pss_nil)
      (pss_one (ps_ret (pe_ifExp (PW.pt (pw_and (pt_cmpR op_eq (pe_fld (pv 0) rfl) pe_str (nomark _)) (pw_and1 (pt_not (pt_val (pv 2)))))) pe_never (pe_meth0 (pv 0) k_Reader.cl m_read_simple.mt m_read_simple.ok (hr.mono (by omega)) m_read_simple.b .nil pass0))))))), ?_⟩
    refine ⟨.ref r, rfl, _, _, _, _, _, rfl, hR, k_Reader.cl, k_Reader.nf.get ix_Reader_token, lkZ ix_Reader_token rfl, rfl, _, rfl, ?_⟩
    rw [decide_eq_false (fun e : V.str (S (tk ps i)) = V.str "if" => w1 (V.str.inj e))]
    refine iteF ⟨.bl true, rfl, _, rfl, iteF ⟨.ref r, rfl, _, _, _, _, _, rfl, hR, k_Reader.cl, k_Reader.nf.get ix_Reader_token, lkZ ix_Reader_token rfl, rfl, _, rfl, ?_⟩⟩
    rw [decide_eq_false (fun e : V.str (S (tk ps i)) = V.str "new" => w2 (V.str.inj e))]
    refine iteF ⟨.ref r, rfl, _, _, _, _, _, rfl, hR, k_Reader.cl, k_Reader.nf.get ix_Reader_token, lkZ ix_Reader_token rfl, rfl, _, rfl, ?_⟩
    rw [decide_eq_false (fun e : V.str (S (tk ps i)) = V.str "for" => w3 (V.str.inj e))]
    refine iteF (iteF ⟨.ref r, rfl, _, _, _, rfl, hR, lkN nx_Reader_read_simple, r, nm, Tx, ps, i, le, n, rfl, hRd, hn, q⟩)
end
end M05

set_option Elab.async false
set_option linter.all false
set_option maxRecDepth 100000
set_option maxHeartbeats 4000000
/-! what is read, in the heap; read_entry, read_body -/
namespace M05
open PySem PySem.Spec PyProof.Rows L2 GL
theorem scEn : FnScope ["self", "is_declared", "start", "is_hidden", "name", "name_start", "found"] ["self", "is_declared"] (defScope m_Reader_read_entry) := ⟨rfl, rfl, rfl, by decide +kernel, rfl, by decide +kernel, by decide +kernel⟩
theorem scBo : FnScope ["self", "is_declared", "start", "entries"] ["self", "is_declared"] (defScope m_Reader_read_body) := ⟨rfl, rfl, rfl, by decide +kernel, rfl, by decide +kernel, by decide +kernel⟩
/-- the classes -/
structure Ks (K : PySem.W.Frag) (mg : Str → Option Value) where
  Reader : Kl K mg "Reader" nReader
  Literal : Kl K mg "Literal" nLiteral
  Term : Kl K mg "Term" nTerm
  Entry : Kl K mg "Entry" nEntry
  Body : Kl K mg "Body" nBody
  Template : Kl K mg "Template" nTemplate
  ListField : Kl K mg "ListField" nListField
  ListSource : Kl K mg "ListSource" nListSource
  FileSource : Kl K mg "FileSource" nFileSource
  Field : Kl K mg "Field" nField
  Sources : Kl K mg "Sources" nSources
  Home : Kl K mg "Home" nHome
  Project : Kl K mg "Project" nProject
section
variable {K : PySem.W.Frag} {mg : Str → Option Value} (k : Ks K mg)
def LitA (H : Hp) (a : Addr) (n : Int) : Prop := ∃ (d : Addr) (s e : V), H a = some (.ins k.Literal.C d (nLiteral.zip [.int n, s, e]))
def EntA (H : Hp) (a : Addr) (x : Str) (n : Int) : Prop := ∃ (d v : Addr) (p : Nat) (s e : V), H a = some (.ins k.Entry.C d (nEntry.zip [.str x, .int (p : Nat), .ref v, .bl false, s, e])) ∧ LitA k H v n
def BodA (H : Hp) (a : Addr) (x : Str) (n : Int) : Prop := ∃ (d l b : Addr) (s e : V), H a = some (.ins k.Body.C d (nBody.zip [.ref l, s, e])) ∧ H l = some (.lst [.ref b]) ∧ EntA k H b x n
/-- a template of one number -/
def TemA (H : Hp) (a : Addr) (x : Str) (p : Nat) : Prop := ∃ (d b : Addr), H a = some (.ins k.Template.C d (nTemplate.zip [.str x, .int (p : Nat), .ref b, .non, .int 0])) ∧ BodA k H b "n" 1
/-- a list without items -/
def LstA (H : Hp) (a : Addr) (x : Str) (p : Nat) : Prop := ∃ (d f i e d2 : Addr) (o c : V) (s : Nat), H a = some (.ins k.ListSource.C d (nListSource.zip [.str x, .int (p : Nat), .ref f, .ref i, o, c])) ∧ H i = some (.lst []) ∧ H f = some (.lst [.ref e]) ∧ H e = some (.ins k.ListField.C d2 (nListField.zip [.str "n", .int (s : Nat), .str "number"]))
variable {k} {H H' : Hp} {a : Addr} {x : Str} {n : Int} {p : Nat}
theorem LitA.same (h : LitA k H a n) (s : Same H H') : LitA k H' a n := let ⟨d, y, e, h1⟩ := h; ⟨d, y, e, s _ _ h1⟩
theorem EntA.same (h : EntA k H a x n) (s : Same H H') : EntA k H' a x n := let ⟨d, v, q, y, e, h1, h2⟩ := h; ⟨d, v, q, y, e, s _ _ h1, h2.same s⟩
theorem BodA.same (h : BodA k H a x n) (s : Same H H') : BodA k H' a x n := let ⟨d, l, b, y, e, h1, h2, h3⟩ := h; ⟨d, l, b, y, e, s _ _ h1, s _ _ h2, h3.same s⟩
theorem TemA.same (h : TemA k H a x p) (s : Same H H') : TemA k H' a x p := let ⟨d, b, h1, h2⟩ := h; ⟨d, b, s _ _ h1, h2.same s⟩
theorem LstA.same (h : LstA k H a x p) (s : Same H H') : LstA k H' a x p := let ⟨d, f, i, e, d2, o, c, y, h1, h2, h3, h4⟩ := h; ⟨d, f, i, e, d2, o, c, y, s _ _ h1, s _ _ h2, s _ _ h3, s _ _ h4⟩
end
/-- what H' has and H had not -/
def Nw (H H' : Hp) : Hp := fun b => match H b with
  | none => H' b
  | some _ => none
theorem Nw.at {H H' : Hp} {b : Addr} {o : HO} (n : H b = none) (h : H' b = some o) : Nw H H' b = some o := by
  unfold Nw
  rw [n]
  exact h
theorem Nw.of {H H' : Hp} {b : Addr} {o : HO} (h : Nw H H' b = some o) : H b = none ∧ H' b = some o := by
  unfold Nw at h
  cases z : H b with
  | none =>
    rw [z] at h
    exact ⟨rfl, h⟩
  | some y =>
    rw [z] at h
    cases h
theorem Nw.off {r : Addr} {H H2 H3 H4 : Hp} (o1 : Off r H H2) (hr : ∃ y, H2 r = some y) (o2 : Off r H3 H4) : Same (Nw H2 H3) (Nw H H4) := fun b o e => by
  obtain ⟨n, h⟩ := Nw.of e
  have ne : b ≠ r := fun z => by
    obtain ⟨y, hy⟩ := hr
    rw [z, hy] at n
    cases n
  exact Nw.at (o1.none ne n) (o2 b o ne h)
theorem Nw.same {H H' : Hp} : Same (Nw H H') H' := fun _ _ e => (Nw.of e).2
theorem Rd.some {C r : Addr} {H : Hp} {nm : Str} {T : Cd} {ps : List (Nat × Cd)} {i le : Nat} (h : Rd C H r nm T ps i le) : ∃ y, H r = some y := let ⟨_, _, dx, e⟩ := h; ⟨_, e⟩
section
variable {P : Program} {w : World} {K : PySem.W.Frag} {mg : Str → Option Value} {base : Heap}
def spEn (k : Ks K mg) : Sp := fun vs H Q _ => ∃ (r : Addr) (nm : Str) (T : Cd) (ps : List (Nat × Cd)) (i le : Nat) (n : Int), vs = [.ref r, .bl true] ∧ Rd k.Reader.C H r nm T ps i le ∧ S (tk ps i) ≠ "let" ∧ isName (S (tk ps i)) = true ∧ (tk ps i).length ≤ 1000 ∧ i + 1 < ps.length ∧ S (tk ps (i + 1)) = ":" ∧ NumAt ps (i + 2) n ∧
  ∀ H' a, Off r H H' → H a = none → EntA k (Nw H H') a (S (tk ps i)) n → Rd k.Reader.C H' r nm T ps (i + 3) (eT T ps (i + 2)) → Q (.ref a) H'
theorem ok_en {f : Addr} {fd : FuncData} (F : Fun K "read_entry" "Reader.read_entry" m_Reader_read_entry f fd) (T : Bl K mg) (k : Ks K mg) (i_Entry : Mkr P w K mg base k.Entry 1 ["self", "name", "name_start", "value"] (spEntryI K))
    (m_accept : DnM P w K mg base k.Reader "accept" 4 ["self", "wanted"] (spAcc k.Reader.C)) (m_take_name : DnM P w K mg base k.Reader "take_name" 4 ["self"] (spTN k.Reader.C)) (m_take : DnR P w K mg base k.Reader "take" 4 (spTk k.Reader.C)) (m_read_value : DnM P w K mg base k.Reader "read_value" 7 ["self", "is_declared", "is_hidden"] (spVl k.Reader.C k.Literal.C)) :
    FnOk P w K mg base CX0 8 f fd ["self", "is_declared"] (spEn k) := by
  refine F.ok scEn (fun vs H Q E h => ?_) (fun cdv A outer s H vs Q E hr h => ?_)
  · obtain ⟨_, _, _, _, _, _, _, rfl, _⟩ := h
    rfl
  · obtain ⟨r, nm, Tx, ps, i, le, n, rfl, hRd, nl, hN, hL, hi, hc, hn, q⟩ := h
    obtain ⟨hP, hB, dx, hR⟩ := id hRd
    refine ⟨_, (pss_cons (ps_par (i := 2) (j := 3) (by rfl) scEn.nd rfl rfl (by decide) rfl rfl (pa_cons (pe_fld (pv 0) rfl) (pa_cons (pe_and (pv 1) (pe_one (pe_meth (pv 0) k.Reader.cl m_accept.mt m_accept.ok (hr.mono (by omega)) m_accept.b .nil pass0 (pa_cons pe_str pa_nil)))) pa_nil)) (by rfl))
      (pss_cons (ps_asg (pe_meth0 (pv 0) k.Reader.cl m_take_name.mt m_take_name.ok (hr.mono (by omega)) m_take_name.b .nil pass0) (pg_tup rfl (pgs_cons (pg_name (i := 4) scEn.nd rfl (Or.inl rfl)) (pgs_cons (pg_name (i := 5) scEn.nd rfl (Or.inl rfl)) pgs_nil))))
      (pss_cons (ps_expr (pe_methR (pv 0) k.Reader.cl m_take.mt m_take.ok (hr.mono (by omega)) pass0 (pa_cons pe_str pa_nil)))
      (pss_cons (ps_set (i := 6) scEn.nd rfl (Or.inl rfl) (pe_make i_Entry.mak i_Entry.ok (hr.mono (by omega)) (by rfl) k.Entry.g i_Entry.b .nil pass0 (pa_cons (pv 4) (pa_cons (pv 5) (pa_cons (pe_meth (pv 0) k.Reader.cl m_read_value.mt m_read_value.ok (hr.mono (by omega)) m_read_value.b .nil pass0 (pa_cons (pv 1) (pa_cons (pv 3) pa_nil))) pa_nil)))))
      (pss_cons (ps_asg (pe_tup (pa_cons (pv 3) (pa_cons (pv 2) pa_nil))) (pg_tup rfl (pgs_cons (pg_fld (pv 6)) (pgs_cons (pg_fld (pv 6)) pgs_nil))))
      (pss_one (ps_ret (pv 6)))))))), ?_⟩
    refine ⟨.ref r, rfl, _, _, _, _, _, rfl, hR, k.Reader.cl, k.Reader.nf.get ix_Reader_start, lkZ ix_Reader_start rfl, .bl true, rfl, true, rfl, iteT ⟨.ref r, rfl, _, _, _, rfl, hR, lkN nx_Reader_accept, r, nm, Tx, ps, i, le, "let", rfl, hRd, by decide +kernel, fun e => absurd e nl, fun _ => ?_⟩⟩
    refine ⟨_, _, rfl, ?_⟩
    refine ⟨.ref r, rfl, _, _, _, rfl, hR, lkN nx_Reader_take_name, r, nm, Tx, ps, i, le, rfl, hRd, hN, hL, by omega, fun t H1 o1 nt ht hR1 => ?_⟩
    obtain ⟨_, _, dx1, g1⟩ := id hR1
    refine ⟨t, _, rfl, SqT.of ht, rfl, _, _, rfl, _, _, rfl, rfl, ?_⟩
    refine ⟨.ref r, rfl, _, _, _, rfl, g1, lkN nx_Reader_take, r, nm, Tx, ps, i + 1, _, [":"], rfl, hR1, hi, by rw [hc]; exact List.mem_singleton.mpr rfl, by decide, fun H2 o2 hR2 => ?_⟩
    obtain ⟨_, _, dx2, g2⟩ := id hR2
    refine ⟨.str (S (tk ps i)), rfl, .int (pos Tx ps i : Nat), rfl, .ref r, rfl, _, _, _, rfl, g2, lkN nx_Reader_read_value, .bl true, rfl, .bl false, rfl, r, nm, Tx, ps, i + 2, _, n, rfl, hR2, hn, fun H3 v dv o3 nv hv hR3 => ?_⟩
    obtain ⟨_, _, dx3, g3⟩ := id hR3
    refine fun a da na nda ne => ⟨a, da, v, _, _, .int (eT Tx ps (i + 2) : Nat), rfl, upd_same, ?_, fun H4 o4 h4 => ⟨rfl, ?_⟩⟩
    · exact (FldAt.of k.Literal hv ix_Literal_end rfl).same ((same_new nda).trans (same_new (by rw [upd_ne ne.symm]; exact na)))
    have s4 := same_made na nda o4
    have hR4 := hR3.same s4
    have g4 := s4 _ _ g3
    have v4 := s4 _ _ hv
    have ar : a ≠ r := fun z => by rw [z, g3] at na; cases na
    refine ⟨.bl false, rfl, .int (pos Tx ps i : Nat), rfl, by show 2 ≤ sizeLine; decide, fun t2 nt2 => ?_⟩
    have s5 := same_new (o := .tup [.bl false, .int (pos Tx ps i : Nat)]) nt2
    have h5 := s5 _ _ h4
    refine ⟨t2, _, rfl, SqT.of upd_same, rfl, _, _, rfl, .ref a, rfl, _, _, _, _, _, _, rfl, h5, k.Entry.cl, k.Entry.nf.get ix_Entry_is_hidden, ix_Entry_is_hidden, Nat.le_of_ble_eq_true rfl, k.Entry.len, fun H6 o6 h6 => ?_⟩
    refine ⟨_, _, rfl, .ref a, rfl, _, _, _, _, _, _, rfl, h6, k.Entry.cl, k.Entry.nf.get ix_Entry_start, ix_Entry_start, Nat.le_of_ble_eq_true rfl, k.Entry.len, fun H7 o7 h7 => ⟨rfl, ?_⟩⟩
    have va : v ≠ a := fun z => by rw [← z, hv] at na; cases na
    have o47 : Off a H4 H7 := fun b y nb e => o7 b y nb (o6 b y nb (s5 b y e))
    have vr : v ≠ r := fun z => by rw [z, g2] at nv; cases nv
    have nv0 : H v = none := o1.none vr (o2.none vr nv)
    have na0 : H a = none := o1.none ar (o2.none ar (o3.none ar na))
    refine ⟨.ref a, rfl, q H7 a ?_ na0 ⟨da, v, _, _, _, Nw.at na0 h7, dv, _, _, Nw.at nv0 (o47 _ _ va v4)⟩ ⟨hP, hR3.2.1, dx3, o47 _ _ ar.symm g4⟩⟩
    · intro b y nb e
      have e3 := o3 b y nb (o2 b y nb (o1 b y nb e))
      exact o47 b y (fun z => by rw [z, na] at e3; cases e3) (s4 b y e3)
end
end M05

set_option Elab.async false
set_option linter.all false
set_option maxRecDepth 100000
set_option maxHeartbeats 4000000
/-! read_body of one entry, read_template -/
namespace M05
open PySem PySem.Spec PyProof.Rows L2 GL
theorem scTe : FnScope ["self", "name", "start", "base", "found"] ["self"] (defScope m_Reader_read_template) := ⟨rfl, rfl, rfl, by decide +kernel, rfl, by decide +kernel, by decide +kernel⟩
theorem rd_ne {vs us : List V} {N : List Str} (hl : vs.length = 6) (hN : ix N "signs" = none) : nReader.zip vs ≠ N.zip us := fun e => by
  have l2 : (N.zip us).lookup ("signs" : Str) = none := lkN hN
  rw [← e] at l2
  match vs, hl with
  | [f0, f1, f2, f3, f4, f5], _ =>
    have l1 := lkZ (vs := [f0, f1, f2, f3, f4, f5]) ix_Reader_signs rfl
    rw [l1] at l2
    cases l2
section
variable {P : Program} {w : World} {K : PySem.W.Frag} {mg : Str → Option Value} {base : Heap}
/-- a body `{ x: n }` begins at the i-th token -/
structure BodyAt (ps : List (Nat × Cd)) (i : Nat) (n : Int) : Prop where
  op : S (tk ps i) = "{"
  nl : S (tk ps (i + 1)) ≠ "let"
  nm : isName (S (tk ps (i + 1))) = true
  ln : (tk ps (i + 1)).length ≤ 1000
  co : S (tk ps (i + 2)) = ":"
  nu : NumAt ps (i + 3) n
  cl : S (tk ps (i + 4)) = "}"
  lt : i + 4 < ps.length
theorem name_ne {z w : Str} (h : isName z = true) (hw : low w = false) : z ≠ w := fun e => by
  unfold isName at h
  rw [e, hw, Bool.false_and] at h
  cases h
def spBo (k : Ks K mg) : Sp := fun vs H Q _ => ∃ (r : Addr) (nm : Str) (T : Cd) (ps : List (Nat × Cd)) (i le : Nat) (n : Int), vs = [.ref r, .bl true] ∧ Rd k.Reader.C H r nm T ps i le ∧ BodyAt ps i n ∧
  ∀ H' a, Off r H H' → H a = none → BodA k (Nw H H') a (S (tk ps (i + 1))) n → Rd k.Reader.C H' r nm T ps (i + 5) (eT T ps (i + 4)) → Q (.ref a) H'
theorem ok_bo {f : Addr} {fd : FuncData} (F : Fun K "read_body" "Reader.read_body" m_Reader_read_body f fd) (T : Bl K mg) (k : Ks K mg) (i_Body : Mkr P w K mg base k.Body 1 ["self", "entries", "start", "end"] (sp3 nBody))
    (m_accept : DnM P w K mg base k.Reader "accept" 4 ["self", "wanted"] (spAcc k.Reader.C)) (m_take : DnR P w K mg base k.Reader "take" 4 (spTk k.Reader.C)) (m_read_entry : DnM P w K mg base k.Reader "read_entry" 8 ["self", "is_declared"] (spEn k)) :
    FnOk P w K mg base CX0 9 f fd ["self", "is_declared"] (spBo k) := by
  refine F.ok scBo (fun vs H Q E h => ?_) (fun cdv A outer s H vs Q E hr h => ?_)
  · obtain ⟨_, _, _, _, _, _, _, rfl, _⟩ := h
    rfl
  · obtain ⟨r, nm, Tx, ps, i, le, n, rfl, hRd, hb, q⟩ := h
    obtain ⟨hP, hB, dx, hR⟩ := id hRd
    have hlt := hb.lt
    refine ⟨_, (pss_cons (ps_par (i := 2) (j := 3) (by rfl) scBo.nd rfl rfl (by decide) rfl rfl (pa_cons (pe_fld (pv 0) rfl) (pa_cons (pe_lst pa_nil) pa_nil)) (by rfl))
      (pss_cons (ps_expr (pe_methR (pv 0) k.Reader.cl m_take.mt m_take.ok (hr.mono (by omega)) pass0 (pa_cons pe_str pa_nil)))
      (pss_cons (ps_while PassesOwn.never (pt_not (pt_val (pe_meth (pv 0) k.Reader.cl m_accept.mt m_accept.ok (hr.mono (by omega)) m_accept.b .nil pass0 (pa_cons pe_str pa_nil))))
        (pss_one (ps_expr (pe_bm PySem.F.plainAttrs_list PySem.F.slot_list_append PySem.F.type_list_append mt_append (pv 3) (pa_cons (pe_meth (pv 0) k.Reader.cl m_read_entry.mt m_read_entry.ok (hr.mono (by omega)) m_read_entry.b .nil pass0 (pa_cons (pv 1) pa_nil)) pa_nil)))))
      (pss_one (ps_ret (pe_make i_Body.mak i_Body.ok (hr.mono (by omega)) (by rfl) k.Body.g i_Body.b .nil pass0 (pa_cons (pv 3) (pa_cons (pv 2) (pa_cons (pe_fld (pv 0) rfl) pa_nil))))))))), ?_⟩
    refine ⟨.ref r, rfl, _, _, _, _, _, rfl, hR, k.Reader.cl, k.Reader.nf.get ix_Reader_start, lkZ ix_Reader_start rfl, by show 0 ≤ sizeLine; decide, fun L nL => ⟨_, _, rfl, ?_⟩⟩
    have s1 := same_new (o := .lst []) nL
    have h1 := s1 _ _ hR
    have Lr : L ≠ r := fun z => by rw [z, hR] at nL; cases nL
    refine ⟨.ref r, rfl, _, _, _, rfl, h1, lkN nx_Reader_take, r, nm, Tx, ps, i, le, ["{"], rfl, hRd.same s1, by omega, by rw [hb.op]; exact List.mem_singleton.mpr rfl, by decide, fun H2 o2 hR2 => ?_⟩
    obtain ⟨_, _, dx2, g2⟩ := id hR2
    have l2 := o2 _ _ Lr (upd_same (H := H) (a := L) (o := .lst []))
    have o02 : Off r H H2 := fun a x na e => o2 a x na (s1 a x e)
    refine ⟨fun m σ' H' => (m = 1 ∧ σ' = [some (.ref r), some (.bl true), some (.int (pos Tx ps i : Nat)), some (.ref L)] ∧ H' = H2) ∨ (m = 0 ∧ σ' = [some (.ref r), some (.bl true), some (.int (pos Tx ps i : Nat)), some (.ref L)] ∧ ∃ b, H' L = some (.lst [.ref b]) ∧ EntA k (Nw H2 H') b (S (tk ps (i + 1))) n ∧ Off r H H' ∧ Rd k.Reader.C H' r nm Tx ps (i + 4) (eT Tx ps (i + 3))), ⟨1, .inl ⟨rfl, rfl, rfl⟩⟩, ?_⟩
    rintro m σ' H' (⟨rfl, rfl, rfl⟩ | ⟨rfl, rfl, b, hL, hE, oH, hR4⟩)
    · refine ⟨.ref r, rfl, _, _, _, rfl, g2, lkN nx_Reader_accept, r, nm, Tx, ps, i + 1, _, "}", rfl, hR2, by decide +kernel, fun e => absurd e (name_ne hb.nm (by decide +kernel)), fun _ => ⟨_, rfl, iteT ⟨_, fun σ' H' p => ⟨0, by decide, .inr ⟨rfl, p⟩⟩, ?_⟩⟩⟩
      refine ⟨.ref L, rfl, .inl ⟨rfl, _, SqL.of l2⟩, .ref r, rfl, _, _, _, rfl, g2, lkN nx_Reader_read_entry, .bl true, rfl, r, nm, Tx, ps, i + 1, _, n, rfl, hR2, hb.nl, hb.nm, hb.ln, by omega, hb.co, hb.nu, fun H3 b o3 nb hE hR3 => ?_⟩
      obtain ⟨_, _, dx3, g3⟩ := id hR3
      have l3 := o3 _ _ Lr l2
      have s4 : ∀ a x, a ≠ L → H3 a = some x → (upd H3 L (.lst ([] ++ [.ref b]))) a = some x := fun a x na e => by rw [upd_ne na]; exact e
      refine ⟨L, [], _, rfl, rfl, l3, by decide, rfl, b, upd_same, ?_, ?_, ?_⟩
      · refine hE.same fun c o e => ?_
        obtain ⟨e1, e2⟩ := Nw.of e
        exact Nw.at e1 (s4 _ _ (fun z => by rw [z, l2] at e1; cases e1) e2)
      · intro a x na e
        exact s4 a x (fun z => by rw [z, nL] at e; cases e) (o3 a x na (o02 a x na e))
      · exact ⟨hP, hR3.2.1, dx3, s4 _ _ Lr.symm g3⟩
    · obtain ⟨_, _, dx4, g4⟩ := id hR4
      refine ⟨.ref r, rfl, _, _, _, rfl, g4, lkN nx_Reader_accept, r, nm, Tx, ps, i + 4, _, "}", rfl, hR4, by decide +kernel, fun _ H5 o5 hR5 => ⟨_, rfl, iteF ?_⟩, fun e => absurd hb.cl e⟩
      obtain ⟨_, _, dx5, g5⟩ := id hR5
      have l5 := o5 _ _ Lr hL
      refine ⟨.ref L, rfl, .int (pos Tx ps i : Nat), rfl, .ref r, rfl, _, _, _, _, _, rfl, g5, k.Reader.cl, k.Reader.nf.get ix_Reader_last_end, lkZ ix_Reader_last_end rfl, fun a da na nda ne => ⟨a, da, _, _, _, rfl, upd_same, fun H6 o6 h6 => ⟨rfl, ?_⟩⟩⟩
      have s6 := same_made na nda o6
      have ar : a ≠ r := fun z => by rw [z, g5] at na; cases na
      have o56 : Off r H H6 := fun c y nc e => s6 c y (o5 c y nc (oH c y nc e))
      have na0 : H a = none := by
        cases z : H a with
        | none => rfl
        | some y =>
          have := o5 _ _ ar (oH _ _ ar z)
          rw [na] at this
          cases this
      exact q H6 a o56 na0 ⟨da, L, b, _, _, Nw.at na0 h6, Nw.at nL (s6 _ _ l5), hE.same (Nw.off o02 hR2.some (o5.s s6))⟩ (hR5.same s6)
/-- a template `template W { n: 1 }` begins at the i-th token -/
structure TemAt (ps : List (Nat × Cd)) (i : Nat) : Prop where
  wd : S (tk ps i) = "template"
  nm : isName (S (tk ps (i + 1))) = true
  ln : (tk ps (i + 1)).length ≤ 1000
  bo : BodyAt ps (i + 2) 1
  nn : S (tk ps (i + 3)) = "n"
def spTe (k : Ks K mg) : Sp := fun vs H Q _ => ∃ (r : Addr) (nm : Str) (T : Cd) (ps : List (Nat × Cd)) (i le : Nat), vs = [.ref r] ∧ Rd k.Reader.C H r nm T ps i le ∧ TemAt ps i ∧
  ∀ H' a, Off r H H' → H a = none → TemA k (Nw H H') a (S (tk ps (i + 1))) (pos T ps (i + 1)) → Rd k.Reader.C H' r nm T ps (i + 7) (eT T ps (i + 6)) → Q (.ref a) H'
theorem ok_template {f : Addr} {fd : FuncData} (F : Fun K "read_template" "Reader.read_template" m_Reader_read_template f fd) (T : Bl K mg) (k : Ks K mg) (i_Template : Mkr P w K mg base k.Template 1 ["self", "name", "name_start", "body"] spTemplateI)
    (m_accept : DnM P w K mg base k.Reader "accept" 4 ["self", "wanted"] (spAcc k.Reader.C)) (m_take : DnR P w K mg base k.Reader "take" 4 (spTk k.Reader.C)) (m_take_name : DnM P w K mg base k.Reader "take_name" 4 ["self"] (spTN k.Reader.C)) (m_read_body : DnM P w K mg base k.Reader "read_body" 9 ["self", "is_declared"] (spBo k)) :
    FnOk P w K mg base CX0 10 f fd ["self"] (spTe k) := by
  refine F.ok scTe (fun vs H Q E h => ?_) (fun cdv A outer s H vs Q E hr h => ?_)
  · obtain ⟨_, _, _, _, _, _, rfl, _⟩ := h
    rfl
  · obtain ⟨r, nm, Tx, ps, i, le, rfl, hRd, ht, q⟩ := h
    obtain ⟨hP, hB, dx, hR⟩ := id hRd
    have hlt := ht.bo.lt
    refine ⟨_, (pss_cons (ps_expr (pe_methR (pv 0) k.Reader.cl m_take.mt m_take.ok (hr.mono (by omega)) pass0 (pa_cons pe_str pa_nil)))
      (pss_cons (ps_asg (pe_meth0 (pv 0) k.Reader.cl m_take_name.mt m_take_name.ok (hr.mono (by omega)) m_take_name.b .nil pass0) (pg_tup rfl (pgs_cons (pg_name (i := 1) scTe.nd rfl (Or.inl rfl)) (pgs_cons (pg_name (i := 2) scTe.nd rfl (Or.inl rfl)) pgs_nil))))
      (pss_cons (ps_set (i := 3) scTe.nd rfl (Or.inl rfl) (pe_ifExp (pt_val (pe_meth (pv 0) k.Reader.cl m_accept.mt m_accept.ok (hr.mono (by omega)) m_accept.b .nil pass0 (pa_cons pe_str pa_nil))) (pe_meth0 (pv 0) k.Reader.cl m_take_name.mt m_take_name.ok (hr.mono (by omega)) m_take_name.b .nil pass0) pe_non))
      (pss_cons (ps_set (i := 4) scTe.nd rfl (Or.inl rfl) (pe_make i_Template.mak i_Template.ok (hr.mono (by omega)) (by rfl) k.Template.g i_Template.b .nil pass0 (pa_cons (pv 1) (pa_cons (pv 2) (pa_cons (pe_meth (pv 0) k.Reader.cl m_read_body.mt m_read_body.ok (hr.mono (by omega)) m_read_body.b .nil pass0 (pa_cons (pe_cmpR op_isN (pv 3) pe_non (nomark _)) pa_nil)) pa_nil)))))
      (pss_cons (ps_if (pt_cmpR op_notN (pv 3) pe_non (nomark _))
        (pss_one (ps_asg (pv 3) (pg_tup rfl (pgs_cons (pg_fld (pv 4)) (pgs_cons (pg_fld (pv 4)) pgs_nil)))))
        pss_nil)
      (pss_one (ps_ret (pv 4)))))))), ?_⟩
    refine ⟨.ref r, rfl, _, _, _, rfl, hR, lkN nx_Reader_take, r, nm, Tx, ps, i, le, ["template"], rfl, hRd, by omega, by rw [ht.wd]; exact List.mem_singleton.mpr rfl, by decide, fun H1 o1 hR1 => ?_⟩
    obtain ⟨_, _, dx1, g1⟩ := id hR1
    refine ⟨.ref r, rfl, _, _, _, rfl, g1, lkN nx_Reader_take_name, r, nm, Tx, ps, i + 1, _, rfl, hR1, ht.nm, ht.ln, by omega, fun t H2 o2 nt htt hR2 => ?_⟩
    obtain ⟨_, _, dx2, g2⟩ := id hR2
    refine ⟨t, _, rfl, SqT.of htt, rfl, _, _, rfl, _, _, rfl, rfl, ?_⟩
    refine ⟨.ref r, rfl, _, _, _, rfl, g2, lkN nx_Reader_accept, r, nm, Tx, ps, i + 2, _, "=", rfl, hR2, by decide +kernel, fun e => absurd (ht.bo.op.symm.trans e) (by decide +kernel), fun _ => ⟨_, rfl, iteF ?_⟩⟩
    refine ⟨.str (S (tk ps (i + 1))), rfl, .int (pos Tx ps (i + 1) : Nat), rfl, .ref r, rfl, _, _, _, rfl, g2, lkN nx_Reader_read_body, .non, rfl, rfl, ?_⟩
    refine ⟨r, nm, Tx, ps, i + 2, _, 1, rfl, hR2, ht.bo, fun H3 b o3 nb hBd hR3 => fun a da na nda ne => ⟨a, da, _, _, _, rfl, upd_same, fun H4 o4 h4 => ⟨rfl, ?_⟩⟩⟩
    obtain ⟨_, _, dx3, g3⟩ := id hR3
    have s4 := same_made na nda o4
    have ar : a ≠ r := fun z => by rw [z, g3] at na; cases na
    refine ⟨_, rfl, rfl, _, rfl, iteF ⟨_, rfl, ?_⟩⟩
    have na0 := o1.none ar (o2.none ar (o3.none ar na))
    rw [show S (tk ps (i + 2 + 1)) = "n" from ht.nn] at hBd
    exact q H4 a (fun c y nc e => s4 c y (o3 c y nc (o2 c y nc (o1 c y nc e)))) na0 ⟨da, b, Nw.at na0 h4, hBd.same (Nw.off (o1.trans o2) hR2.some (Off.s (Off.refl r _) s4))⟩ (hR3.same s4)
end
end M05

set_option Elab.async false
set_option linter.all false
set_option maxRecDepth 100000
set_option maxHeartbeats 1000000
/-! a list, a dict compared with an empty one -/
namespace M05
open PySem PySem.Spec PyProof.Rows L2 GL
section
variable {X : Cx}
def rEqE (K : PySem.W.Frag) (k : Bool → Bool) : V → V → Hp → VK → Prop := fun x y H Q => ∃ (a b : Addr) (xs : List V), x = .ref a ∧ y = .ref b ∧ SqL K H a xs ∧ SqL K H b [] ∧ Q (.bl (k xs.isEmpty)) H
theorem op_neE (hu : X.A.units < cLine) : OpR X (compareOp .NotEq) (rEqE X.K (!·)) := by
  intro pins s σ H x y v u Q I rx ry h
  obtain ⟨a, b, xs, rfl, rfl, h1, h2, q⟩ := h
  cases rx
  cases ry
  obtain ⟨its, r, pl, _⟩ := I.list h1
  obtain ⟨jts, r2, pl2, _⟩ := I.list h2
  cases r2
  cases r with
  | nil =>
    refine SeqAt.RcNeAt.lists (A := X.A) (s := s) (e := fun _ => true) pl.isList pl2.isList rfl hu (fun j g1 => absurd g1 (by simp)) X.prog X.w X.xe (EP X pins σ Q) ?_
    exact ⟨.bl _, H, I, rfl, q⟩
  | cons p t =>
    refine SeqAt.RcNeAt.lists_lengths (A := X.A) (s := s) pl.isList pl2.isList (by simp) hu X.prog X.w X.xe (EP X pins σ Q) ?_
    exact ⟨.bl _, H, I, rfl, q⟩
theorem op_eqE (hu : X.A.units < cLine) : OpR X (compareOp .Eq) (rEqE X.K id) := by
  intro pins s σ H x y v u Q I rx ry h
  obtain ⟨a, b, xs, rfl, rfl, h1, h2, q⟩ := h
  cases rx
  cases ry
  obtain ⟨its, r, pl, _⟩ := I.list h1
  obtain ⟨jts, r2, pl2, _⟩ := I.list h2
  cases r2
  cases r with
  | nil =>
    refine SeqAt.RcAt.lists (A := X.A) (s := s) (e := fun _ => true) pl.isList pl2.isList rfl hu (fun j g1 => absurd g1 (by simp)) X.prog X.w X.xe (EP X pins σ Q) ?_
    exact ⟨.bl _, H, I, rfl, q⟩
  | cons p t =>
    refine SeqAt.RcAt.lists_lengths (A := X.A) (s := s) pl.isList pl2.isList (by simp) hu X.prog X.w X.xe (EP X pins σ Q) ?_
    exact ⟨.bl _, H, I, rfl, q⟩
def rEqD0 (k : Bool → Bool) : V → V → Hp → VK → Prop := fun x y H Q => ∃ (a b : Addr) (ks : List (Key × V)), x = .ref a ∧ y = .ref b ∧ H a = some (.dK ks) ∧ H b = some (.dK []) ∧ Q (.bl (k ks.isEmpty)) H
theorem op_eqD0 (hu : X.A.units < cLine) : OpR X (compareOp .Eq) (rEqD0 id) := by
  intro pins s σ H x y v u Q I rx ry h
  obtain ⟨a, b, ks, rfl, rfl, ea, eb, q⟩ := h
  obtain rfl : v = Value.ref a := rx
  obtain rfl : u = Value.ref b := ry
  obtain ⟨_, ya, va, ra, da⟩ := (show ObjOk X.prog X.w H s.heap a (.dK ks) from I.hok a _ ea)
  obtain ⟨_, yb, vb, rb, db⟩ := (show ObjOk X.prog X.w H s.heap b (.dK []) from I.hok b _ eb)
  have lb : vb = [] := by cases rb; rfl
  subst lb
  have la : va.length = ks.length := ra.length.symm
  refine PySem.W.keq_eq (knd := mixKind X.prog X.w) (r := true) ya yb da db hu (fun e => ?_) (fin_bl I q ?_)
  · have : va = [] := List.length_eq_zero_iff.mp e
    rw [this]
    exact .nil
  · cases ks <;> simp [la]
theorem op_neD0 (hu : X.A.units < cLine) : OpR X (compareOp .NotEq) (rEqD0 (!·)) := by
  intro pins s σ H x y v u Q I rx ry h
  obtain ⟨a, b, ks, rfl, rfl, ea, eb, q⟩ := h
  obtain rfl : v = Value.ref a := rx
  obtain rfl : u = Value.ref b := ry
  obtain ⟨_, ya, va, ra, da⟩ := (show ObjOk X.prog X.w H s.heap a (.dK ks) from I.hok a _ ea)
  obtain ⟨_, yb, vb, rb, db⟩ := (show ObjOk X.prog X.w H s.heap b (.dK []) from I.hok b _ eb)
  have lb : vb = [] := by cases rb; rfl
  subst lb
  have la : va.length = ks.length := ra.length.symm
  refine PySem.W.keq_ne (knd := mixKind X.prog X.w) (r := true) ya yb da db hu (fun e => ?_) (fin_bl I q ?_)
  · have : va = [] := List.length_eq_zero_iff.mp e
    rw [this]
    exact .nil
  · cases ks <;> simp [la]
end
end M05

set_option Elab.async false
set_option linter.all false
set_option maxRecDepth 100000
set_option maxHeartbeats 4000000
/-! read_list_field, read_list -/
namespace M05
open PySem PySem.Spec PyProof.Rows L2 GL
theorem scLF : FnScope ["self", "name", "start"] ["self"] (defScope m_Reader_read_list_field) := ⟨rfl, rfl, rfl, by decide +kernel, rfl, by decide +kernel, by decide +kernel⟩
theorem scLi : FnScope ["self", "name", "start", "fields", "found"] ["self"] (defScope m_Reader_read_list) := ⟨rfl, rfl, rfl, by decide +kernel, rfl, by decide +kernel, by decide +kernel⟩
section
variable {P : Program} {w : World} {K : PySem.W.Frag} {mg : Str → Option Value} {base : Heap}
/-- a field `x: number` begins at the i-th token -/
structure FieldAt (ps : List (Nat × Cd)) (i : Nat) : Prop where
  nm : isName (S (tk ps i)) = true
  ln : (tk ps i).length ≤ 1000
  co : S (tk ps (i + 1)) = ":"
  kd : S (tk ps (i + 2)) = "number"
  lt : i + 2 < ps.length
def spLF (k : Ks K mg) : Sp := fun vs H Q _ => ∃ (r : Addr) (nm : Str) (T : Cd) (ps : List (Nat × Cd)) (i le : Nat), vs = [.ref r] ∧ Rd k.Reader.C H r nm T ps i le ∧ FieldAt ps i ∧
  ∀ H' a d, Off r H H' → H a = none → H' a = some (.ins k.ListField.C d (nListField.zip [.str (S (tk ps i)), .int (pos T ps i : Nat), .str "number"])) → Rd k.Reader.C H' r nm T ps (i + 3) (eT T ps (i + 2)) → Q (.ref a) H'
theorem ok_lf {f : Addr} {fd : FuncData} (F : Fun K "read_list_field" "Reader.read_list_field" m_Reader_read_list_field f fd) (T : Bl K mg) (k : Ks K mg) (i_ListField : Mkr P w K mg base k.ListField 1 ["self", "name", "start", "kind"] (sp3 nListField))
    (m_take : DnR P w K mg base k.Reader "take" 4 (spTk k.Reader.C)) (m_take_name : DnM P w K mg base k.Reader "take_name" 4 ["self"] (spTN k.Reader.C)) : FnOk P w K mg base CX0 5 f fd ["self"] (spLF k) := by
  refine F.ok scLF (fun vs H Q E h => ?_) (fun cdv A outer s H vs Q E hr h => ?_)
  · obtain ⟨_, _, _, _, _, _, rfl, _⟩ := h
    rfl
  · obtain ⟨r, nm, Tx, ps, i, le, rfl, hRd, hf, q⟩ := h
    obtain ⟨hP, hB, dx, hR⟩ := id hRd
    have hlt := hf.lt
    refine ⟨_, (pss_cons (ps_asg (pe_meth0 (pv 0) k.Reader.cl m_take_name.mt m_take_name.ok (hr.mono (by omega)) m_take_name.b .nil pass0) (pg_tup rfl (pgs_cons (pg_name (i := 1) scLF.nd rfl (Or.inl rfl)) (pgs_cons (pg_name (i := 2) scLF.nd rfl (Or.inl rfl)) pgs_nil))))
      (pss_cons (ps_expr (pe_methR (pv 0) k.Reader.cl m_take.mt m_take.ok (hr.mono (by omega)) pass0 (pa_cons pe_str pa_nil)))
      (pss_one (ps_ret (pe_make i_ListField.mak i_ListField.ok (hr.mono (by omega)) (by rfl) k.ListField.g i_ListField.b .nil pass0 (pa_cons (pv 1) (pa_cons (pv 2) (pa_cons (pe_methS (pv 0) k.Reader.cl m_take.bm m_take.ok (hr.mono (by omega)) pass0 (pe_glob (v := .ref T.ckinds.choose) (by rfl) T.ckinds.choose_spec.1 rfl)) pa_nil)))))))), ?_⟩
    refine ⟨.ref r, rfl, _, _, _, rfl, hR, lkN nx_Reader_take_name, r, nm, Tx, ps, i, le, rfl, hRd, hf.nm, hf.ln, by omega, fun t H1 o1 nt ht hR1 => ?_⟩
    obtain ⟨_, _, dx1, g1⟩ := id hR1
    refine ⟨t, _, rfl, SqT.of ht, rfl, _, _, rfl, _, _, rfl, rfl, ?_⟩
    refine ⟨.ref r, rfl, _, _, _, rfl, g1, lkN nx_Reader_take, r, nm, Tx, ps, i + 1, _, [":"], rfl, hR1, by omega, by rw [hf.co]; exact List.mem_singleton.mpr rfl, by decide, fun H2 o2 hR2 => ?_⟩
    obtain ⟨_, _, dx2, g2⟩ := id hR2
    refine ⟨.str (S (tk ps i)), rfl, .int (pos Tx ps i : Nat), rfl, .ref r, rfl, _, _, _, rfl, g2, lkN nx_Reader_take, fun q0 nq => ?_⟩
    have s3 := same_new (o := .met m_take.f r) nq
    have hR3 := hR2.same s3
    refine ⟨_, _, rfl, T.ckinds.choose_spec.2 _, upd_same, r, nm, Tx, ps, i + 2, _, ["number", "text"], rfl, hR3, by omega, by rw [hf.kd]; exact List.mem_cons_self, by decide, fun H4 o4 hR4 => ?_⟩
    obtain ⟨_, _, dx4, g4⟩ := id hR4
    refine fun a da na nda ne => ⟨a, da, _, _, _, rfl, upd_same, fun H5 o5 h5 => ⟨rfl, ?_⟩⟩
    have s5 := same_made na nda o5
    have ar : a ≠ r := fun z => by rw [z, g4] at na; cases na
    have o14 : Off r H H4 := fun c y nc e => o4 c y nc (s3 c y (o2 c y nc (o1 c y nc e)))
    rw [hf.kd] at h5
    exact q H5 a da (o14.s s5) (o14.none ar na) h5 (hR4.same s5)
/-- a list `list W (n: number) [ ]` begins at the i-th token -/
structure LstAt (ps : List (Nat × Cd)) (i : Nat) : Prop where
  wd : S (tk ps i) = "list"
  nm : isName (S (tk ps (i + 1))) = true
  ln : (tk ps (i + 1)).length ≤ 1000
  op : S (tk ps (i + 2)) = "("
  fi : FieldAt ps (i + 3)
  nn : S (tk ps (i + 3)) = "n"
  cl : S (tk ps (i + 6)) = ")"
  sq : S (tk ps (i + 7)) = "["
  en : S (tk ps (i + 8)) = "]"
  lt : i + 8 < ps.length
def spLi (k : Ks K mg) : Sp := fun vs H Q _ => ∃ (r : Addr) (nm : Str) (T : Cd) (ps : List (Nat × Cd)) (i le : Nat), vs = [.ref r] ∧ Rd k.Reader.C H r nm T ps i le ∧ LstAt ps i ∧
  ∀ H' a, Off r H H' → H a = none → LstA k (Nw H H') a (S (tk ps (i + 1))) (pos T ps (i + 1)) → Rd k.Reader.C H' r nm T ps (i + 9) (eT T ps (i + 8)) → Q (.ref a) H'
theorem ok_list {f : Addr} {fd : FuncData} (F : Fun K "read_list" "Reader.read_list" m_Reader_read_list f fd) (T : Bl K mg) (k : Ks K mg) (i_ListSource : Mkr P w K mg base k.ListSource 1 ["self", "name", "name_start", "fields"] spListI)
    (m_take : DnR P w K mg base k.Reader "take" 4 (spTk k.Reader.C)) (m_take_name : DnM P w K mg base k.Reader "take_name" 4 ["self"] (spTN k.Reader.C)) (m_read_list_field : DnM P w K mg base k.Reader "read_list_field" 5 ["self"] (spLF k)) : FnOk P w K mg base CX0 6 f fd ["self"] (spLi k) := by
  refine F.ok scLi (fun vs H Q E h => ?_) (fun cdv A outer s H vs Q E hr h => ?_)
  · obtain ⟨_, _, _, _, _, _, rfl, _⟩ := h
    rfl
  · obtain ⟨r, nm, Tx, ps, i, le, rfl, hRd, hl, q⟩ := h
    obtain ⟨hP, hB, dx, hR⟩ := id hRd
    have hlt := hl.lt
    refine ⟨_, (pss_cons (ps_expr (pe_methR (pv 0) k.Reader.cl m_take.mt m_take.ok (hr.mono (by omega)) pass0 (pa_cons pe_str pa_nil)))
      (pss_cons (ps_asg (pe_meth0 (pv 0) k.Reader.cl m_take_name.mt m_take_name.ok (hr.mono (by omega)) m_take_name.b .nil pass0) (pg_tup rfl (pgs_cons (pg_name (i := 1) scLi.nd rfl (Or.inl rfl)) (pgs_cons (pg_name (i := 2) scLi.nd rfl (Or.inl rfl)) pgs_nil))))
      (pss_cons (ps_expr (pe_methR (pv 0) k.Reader.cl m_take.mt m_take.ok (hr.mono (by omega)) pass0 (pa_cons pe_str pa_nil)))
      (pss_cons (ps_set (i := 3) scLi.nd rfl (Or.inl rfl) (pe_lst pa_nil))
      (pss_cons (ps_while PassesOwn.never (pt_cmpR op_ne (pe_fld (pv 0) rfl) pe_str (nomark _))
        (pss_cons (ps_if (pt_cmpR (op_neE hr.units0) (pv 3) (pe_lst pa_nil) (nomark _))
          (pss_one ps_never)
          pss_nil)
        (pss_one (ps_expr (pe_bm PySem.F.plainAttrs_list PySem.F.slot_list_append PySem.F.type_list_append mt_append (pv 3) (pa_cons (pe_meth0 (pv 0) k.Reader.cl m_read_list_field.mt m_read_list_field.ok (hr.mono (by omega)) m_read_list_field.b .nil pass0) pa_nil))))))
      (pss_cons (ps_expr (pe_methR (pv 0) k.Reader.cl m_take.mt m_take.ok (hr.mono (by omega)) pass0 (pa_cons pe_str pa_nil)))
      (pss_cons (ps_set (i := 4) scLi.nd rfl (Or.inl rfl) (pe_make i_ListSource.mak i_ListSource.ok (hr.mono (by omega)) (by rfl) k.ListSource.g i_ListSource.b .nil pass0 (pa_cons (pv 1) (pa_cons (pv 2) (pa_cons (pv 3) pa_nil)))))
      (pss_cons (ps_expr (pe_methR (pv 0) k.Reader.cl m_take.mt m_take.ok (hr.mono (by omega)) pass0 (pa_cons pe_str pa_nil)))
      (pss_cons (ps_fldZ (pv 4) (pe_fld (pv 0) rfl) rfl)
      (pss_cons (ps_while PassesOwn.never (pt_cmpR op_ne (pe_fld (pv 0) rfl) pe_str (nomark _))
        (pss_one ps_never))
      (pss_cons (ps_fldZ (pv 4) (pe_fld (pv 0) rfl) rfl)
      (pss_cons (ps_expr (pe_methR (pv 0) k.Reader.cl m_take.mt m_take.ok (hr.mono (by omega)) pass0 (pa_cons pe_str pa_nil)))
      (pss_one (ps_ret (pv 4))))))))))))))), ?_⟩
    refine ⟨.ref r, rfl, _, _, _, rfl, hR, lkN nx_Reader_take, r, nm, Tx, ps, i, le, ["list"], rfl, hRd, by omega, by rw [hl.wd]; exact List.mem_singleton.mpr rfl, by decide, fun H1 o1 hR1 => ?_⟩
    obtain ⟨_, _, dx1, g1⟩ := id hR1
    refine ⟨.ref r, rfl, _, _, _, rfl, g1, lkN nx_Reader_take_name, r, nm, Tx, ps, i + 1, _, rfl, hR1, hl.nm, hl.ln, by omega, fun t H2 o2 nt ht hR2 => ?_⟩
    obtain ⟨_, _, dx2, g2⟩ := id hR2
    refine ⟨t, _, rfl, SqT.of ht, rfl, _, _, rfl, _, _, rfl, rfl, ?_⟩
    refine ⟨.ref r, rfl, _, _, _, rfl, g2, lkN nx_Reader_take, r, nm, Tx, ps, i + 2, _, ["("], rfl, hR2, by omega, by rw [hl.op]; exact List.mem_singleton.mpr rfl, by decide, fun H3 o3 hR3 => ?_⟩
    obtain ⟨_, _, dx3, g3⟩ := id hR3
    refine ⟨by show 0 ≤ sizeLine; decide, fun L nL => ?_⟩
    have s4 := same_new (o := .lst []) nL
    have hR4 := hR3.same s4
    have g4 := s4 _ _ g3
    have l4 := upd_same (H := H3) (a := L) (o := .lst [])
    have Lr : L ≠ r := fun z => by rw [z, g3] at nL; cases nL
    have o13 : Off r H H3 := fun c y nc e => o3 c y nc (o2 c y nc (o1 c y nc e))
    have nL0 := o13.none Lr nL
    have o14 := o13.s s4
    generalize upd H3 L (.lst []) = H4 at hR4 g4 l4 o14
    refine ⟨fun m σ' H' => (m = 1 ∧ σ' = [some (.ref r), some (.str (S (tk ps (i + 1)))), some (.int (pos Tx ps (i + 1) : Nat)), some (.ref L), none] ∧ H' = H4) ∨ (m = 0 ∧ σ' = [some (.ref r), some (.str (S (tk ps (i + 1)))), some (.int (pos Tx ps (i + 1) : Nat)), some (.ref L), none] ∧
      ∃ (b d : Addr) (s : Nat), H b = none ∧ H' L = some (.lst [.ref b]) ∧ H' b = some (.ins k.ListField.C d (nListField.zip [.str "n", .int (s : Nat), .str "number"])) ∧ Off r H H' ∧ Rd k.Reader.C H' r nm Tx ps (i + 6) (eT Tx ps (i + 5))), ⟨1, .inl ⟨rfl, rfl, rfl⟩⟩, ?_⟩
    rintro m σ' H' (⟨rfl, rfl, rfl⟩ | ⟨rfl, rfl, b, d, s0, nb0, hL, hb, oH, hR6⟩)
    · refine ⟨.ref r, rfl, _, _, _, _, _, rfl, g4, k.Reader.cl, k.Reader.nf.get ix_Reader_token, lkZ ix_Reader_token rfl, rfl, _, rfl, ?_⟩
      rw [decide_eq_false (fun e : V.str (S (tk ps (i + 3))) = V.str ")" => name_ne hl.fi.nm (by decide +kernel) (V.str.inj e))]
      refine iteT ⟨_, fun σ' H' p => ⟨0, by decide, .inr ⟨rfl, p⟩⟩, ?_⟩
      refine ⟨.ref L, rfl, by show 0 ≤ sizeLine; decide, fun e0 ne0 => ?_⟩
      have s5 := same_new (o := .lst []) ne0
      refine ⟨L, e0, [], rfl, rfl, SqL.of (s5 _ _ l4), SqL.of upd_same, _, rfl, iteF ?_⟩
      have l5 := s5 _ _ l4
      have g5 := s5 _ _ g4
      have hR5 := hR4.same s5
      refine ⟨.ref L, rfl, .inl ⟨rfl, _, SqL.of l5⟩, .ref r, rfl, _, _, _, rfl, g5, lkN nx_Reader_read_list_field, r, nm, Tx, ps, i + 3, _, rfl, hR5, hl.fi, fun H6 b d o6 nb hb hR6 => ?_⟩
      obtain ⟨_, _, dx6, g6⟩ := id hR6
      have l6 := o6 _ _ Lr l5
      have bL : b ≠ L := fun z => by rw [z, l5] at nb; cases nb
      refine ⟨L, [], _, rfl, rfl, l6, by decide, rfl, b, d, pos Tx ps (i + 3), ?_, upd_same, ?_, ?_, ?_⟩
      · have br : b ≠ r := fun z => by rw [z, g5] at nb; cases nb
        have n4 : H' b = none := by
          cases z : H' b with
          | none => rfl
          | some y =>
            have := s5 _ _ z
            rw [nb] at this
            cases this
        exact o14.none br n4
      · rw [upd_ne bL, hb, hl.nn]
      · intro a x na e
        rw [upd_ne (fun z => by rw [z, nL0] at e; cases e)]
        exact o6 a x na (s5 a x (o14 a x na e))
      · exact ⟨hP, hR6.2.1, dx6, by rw [upd_ne Lr.symm]; exact g6⟩
    · obtain ⟨_, _, dx6, g6⟩ := id hR6
      refine ⟨.ref r, rfl, _, _, _, _, _, rfl, g6, k.Reader.cl, k.Reader.nf.get ix_Reader_token, lkZ ix_Reader_token rfl, rfl, _, rfl, ?_⟩
      rw [decide_eq_true (congrArg V.str hl.cl : V.str (S (tk ps (i + 6))) = V.str ")")]
      refine iteF ⟨.ref r, rfl, _, _, _, rfl, g6, lkN nx_Reader_take, r, nm, Tx, ps, i + 6, _, [")"], rfl, hR6, by omega, by rw [hl.cl]; exact List.mem_singleton.mpr rfl, by decide, fun H7 o7 hR7 => ?_⟩
      obtain ⟨_, _, dx7, g7⟩ := id hR7
      have br : b ≠ r := fun z => by
        rw [z, g6] at hb
        exact rd_ne rfl (by decide +kernel) (HO.ins.inj (Option.some.inj hb)).2.2
      have l7 := o7 _ _ Lr hL
      have b7 := o7 _ _ br hb
      refine ⟨.str (S (tk ps (i + 1))), rfl, .int (pos Tx ps (i + 1) : Nat), rfl, .ref L, rfl, fun a da na nda ne => ⟨a, da, _, _, _, rfl, upd_same, fun H8 it o8 nit hit h8 => ⟨rfl, ?_⟩⟩⟩
      have s8 := same_made na nda o8
      have ar : a ≠ r := fun z => by rw [z, g7] at na; cases na
      have oH7 : Off r H H7 := fun c y nc e => o7 c y nc (oH c y nc e)
      have na0 := oH7.none ar na
      have nit7 : H7 it = none := by
        cases z : H7 it with
        | none => rfl
        | some y =>
          have n1 : it ≠ a := fun w => by rw [w, na] at z; cases z
          have n2 : it ≠ da := fun w => by rw [w, nda] at z; cases z
          rw [upd_ne n1, upd_ne n2, z] at nit
          cases nit
      have ir : it ≠ r := fun z => by rw [z, g7] at nit7; cases nit7
      have ia : it ≠ a := fun z => by rw [z, upd_same] at nit; cases nit
      have l8 := s8 _ _ l7
      have b8 := s8 _ _ b7
      have g8 := s8 _ _ g7
      have hR8 := hR7.same s8
      have La : L ≠ a := fun z => by rw [← z, l7] at na; cases na
      have ba : b ≠ a := fun z => by rw [← z, b7] at na; cases na
      refine ⟨.ref r, rfl, _, _, _, rfl, g8, lkN nx_Reader_take, r, nm, Tx, ps, i + 7, _, ["["], rfl, hR8, by omega, by rw [hl.sq]; exact List.mem_singleton.mpr rfl, by decide, fun H9 o9 hR9 => ?_⟩
      obtain ⟨_, _, dx9, g9⟩ := id hR9
      have h9 := o9 _ _ ar h8
      refine ⟨.ref r, rfl, _, _, _, _, _, rfl, g9, k.Reader.cl, k.Reader.nf.get ix_Reader_last_end, lkZ ix_Reader_last_end rfl, .ref a, rfl, _, _, _, _, _, _, rfl, h9, k.ListSource.cl, k.ListSource.nf.get ix_ListSource_open_end, ix_ListSource_open_end, Nat.le_of_ble_eq_true rfl, k.ListSource.len, fun Hb ob hb1 => ?_⟩
      have gb := ob _ _ ar.symm g9
      refine ⟨fun m σ' H' => m = 0 ∧ σ' = [some (.ref r), some (.str (S (tk ps (i + 1)))), some (.int (pos Tx ps (i + 1) : Nat)), some (.ref L), some (.ref a)] ∧ H' = Hb, ⟨0, rfl, rfl, rfl⟩, ?_⟩
      rintro m σ' H' ⟨rfl, rfl, rfl⟩
      refine ⟨.ref r, rfl, _, _, _, _, _, rfl, gb, k.Reader.cl, k.Reader.nf.get ix_Reader_token, lkZ ix_Reader_token rfl, rfl, _, rfl, ?_⟩
      rw [decide_eq_true (congrArg V.str hl.en : V.str (S (tk ps (i + 8))) = V.str "]")]
      refine iteF ⟨.ref r, rfl, _, _, _, _, _, rfl, gb, k.Reader.cl, k.Reader.nf.get ix_Reader_start, lkZ ix_Reader_start rfl, .ref a, rfl, _, _, _, _, _, _, rfl, hb1, k.ListSource.cl, k.ListSource.nf.get ix_ListSource_close_start, ix_ListSource_close_start, Nat.le_of_ble_eq_true rfl, k.ListSource.len, fun Hc oc hc => ?_⟩
      have gc := oc _ _ ar.symm gb
      have hRc : Rd k.Reader.C Hc r nm Tx ps (i + 8) _ := ⟨hP, hR9.2.1, dx9, gc⟩
      refine ⟨.ref r, rfl, _, _, _, rfl, gc, lkN nx_Reader_take, r, nm, Tx, ps, i + 8, _, ["]"], rfl, hRc, by omega, by rw [hl.en]; exact List.mem_singleton.mpr rfl, by decide, fun Hd od hRd2 => ⟨.ref a, rfl, ?_⟩⟩
      have go : ∀ c y, c ≠ r → c ≠ a → H8 c = some y → Hd c = some y := fun c y n1 n2 e => od c y n1 (oc c y n2 (ob c y n2 (o9 c y n1 e)))
      refine q Hd a (fun c y nc e => go c y nc (fun z => by rw [z, na0] at e; cases e) (s8 c y (oH7 c y nc e))) na0 ⟨da, L, it, b, d, _, _, _, Nw.at na0 (od _ _ ar hc), Nw.at (oH7.none ir nit7) (go _ _ ir ia hit), Nw.at nL0 (go _ _ Lr La l8), Nw.at nb0 (go _ _ br ba b8)⟩ hRd2
end
end M05

set_option Elab.async false
set_option linter.all false
set_option maxRecDepth 100000
set_option maxHeartbeats 4000000
/-! read_all, read_file -/
namespace M05
open PySem PySem.Spec PyProof.Rows L2 GL
theorem scAl : FnScope ["self", "found"] ["self"] (defScope m_Reader_read_all) := ⟨rfl, rfl, rfl, by decide +kernel, rfl, by decide +kernel, by decide +kernel⟩
theorem scRF : FnScope ["name", "text"] ["name", "text"] (defScope s_read_file) := ⟨rfl, rfl, rfl, by decide +kernel, rfl, by decide +kernel, by decide +kernel⟩
abbrev refs (ts : List Addr) : List V := ts.map V.ref
/-- each of these is as it should be -/
def Each {α : Type} (P : Addr → α → Prop) : List Addr → List α → Prop
  | [], [] => True
  | a :: as, x :: xs => P a x ∧ Each P as xs
  | _, _ => False
theorem Each.mono {α : Type} {P Q : Addr → α → Prop} (h : ∀ a x, P a x → Q a x) : ∀ {as : List Addr} {xs : List α}, Each P as xs → Each Q as xs
  | [], [], _ => trivial
  | _ :: _, _ :: _, z => ⟨h _ _ z.1, Each.mono h z.2⟩
  | [], _ :: _, z => z.elim
  | _ :: _, [], z => z.elim
theorem Each.len {α : Type} {P : Addr → α → Prop} : ∀ {as : List Addr} {xs : List α}, Each P as xs → as.length = xs.length
  | [], [], _ => rfl
  | _ :: _, _ :: _, z => congrArg (· + 1) (Each.len z.2)
  | [], _ :: _, z => z.elim
  | _ :: _, [], z => z.elim
theorem Each.snoc {α : Type} {P : Addr → α → Prop} {a : Addr} {x : α} (p : P a x) : ∀ {as : List Addr} {xs : List α}, Each P as xs → Each P (as ++ [a]) (xs ++ [x])
  | [], [], _ => ⟨p, trivial⟩
  | _ :: _, _ :: _, z => ⟨z.1, Each.snoc p z.2⟩
  | [], _ :: _, z => z.elim
  | _ :: _, [], z => z.elim
/-- the file's own things from the i-th token on: is it a list? its name, where it stands -/
inductive OwnAt (T : Cd) (ps : List (Nat × Cd)) : Nat → List (Bool × Str × Nat) → Prop
  | nil {i : Nat} : ps.length ≤ i → OwnAt T ps i []
  | tem {i : Nat} {l : List (Bool × Str × Nat)} : TemAt ps i → OwnAt T ps (i + 7) l → OwnAt T ps i ((false, S (tk ps (i + 1)), pos T ps (i + 1)) :: l)
  | lst {i : Nat} {l : List (Bool × Str × Nat)} : LstAt ps i → OwnAt T ps (i + 9) l → OwnAt T ps i ((true, S (tk ps (i + 1)), pos T ps (i + 1)) :: l)
/-- the file from the i-th token on: what it brings, its own things -/
inductive FilAt (T : Cd) (ps : List (Nat × Cd)) : Nat → List (Str × Nat) → List (Bool × Str × Nat) → Prop
  | own {i : Nat} {l : List (Bool × Str × Nat)} : OwnAt T ps i l → FilAt T ps i [] l
  | imp {i : Nat} {l : List (Str × Nat)} {o : List (Bool × Str × Nat)} : S (tk ps i) = "\x69mport" → isName (S (tk ps (i + 1))) = true → (tk ps (i + 1)).length ≤ 1000 → i + 1 < ps.length → FilAt T ps (i + 2) l o → FilAt T ps i ((S (tk ps (i + 1)), pos T ps (i + 1)) :: l) o
def tems (l : List (Bool × Str × Nat)) : List (Str × Nat) := l.filterMap fun q => if q.1 then none else some q.2
def lsts (l : List (Bool × Str × Nat)) : List (Str × Nat) := l.filterMap fun q => if q.1 then some q.2 else none
theorem tems_snoc (l : List (Bool × Str × Nat)) (q : Bool × Str × Nat) : tems (l ++ [q]) = if q.1 then tems l else tems l ++ [q.2] := by
  unfold tems
  rw [List.filterMap_append]
  cases h : q.1 <;> simp [h]
theorem lsts_snoc (l : List (Bool × Str × Nat)) (q : Bool × Str × Nat) : lsts (l ++ [q]) = if q.1 then lsts l ++ [q.2] else lsts l := by
  unfold lsts
  rw [List.filterMap_append]
  cases h : q.1 <;> simp [h]
theorem OwnAt.word {T : Cd} {ps : List (Nat × Cd)} {i : Nat} {l : List (Bool × Str × Nat)} (h : OwnAt T ps i l) : S (tk ps i) = "" ∨ S (tk ps i) = "template" ∨ S (tk ps i) = "list" := by
  cases h with
  | nil h => exact .inl (by rw [tk_end h]; rfl)
  | tem h => exact .inr (.inl h.wd)
  | lst h => exact .inr (.inr h.wd)
section
variable {K : PySem.W.Frag} {mg : Str → Option Value} (k : Ks K mg)
/-- a file that was read -/
def FilA (H : Hp) (a : Addr) (nm : Str) (T : Cd) (ims : List (Str × Nat)) (own : List (Bool × Str × Nat)) : Prop := ∃ (d l1 l2 l3 : Addr) (ds : V) (ts us vs : List Addr), H a = some (.ins k.FileSource.C d (nFileSource.zip [.str nm, .str (S T), .ref l1, .ref l2, .ref l3, .non, ds])) ∧
  H l1 = some (.lst (refs ts)) ∧ Each (fun t q => H t = some (.tup [.str q.1, .int (q.2 : Nat)])) ts ims ∧ H l2 = some (.lst (refs us)) ∧ Each (fun t q => TemA k H t q.1 q.2) us (tems own) ∧ H l3 = some (.lst (refs vs)) ∧ Each (fun t q => LstA k H t q.1 q.2) vs (lsts own)
variable {k}
theorem FilA.same {H H' : Hp} {a : Addr} {nm : Str} {T : Cd} {ims : List (Str × Nat)} {own : List (Bool × Str × Nat)} (h : FilA k H a nm T ims own) (s : Same H H') : FilA k H' a nm T ims own := by
  obtain ⟨d, l1, l2, l3, ds, ts, us, vs, h1, h2, h3, h4, h5, h6, h7⟩ := h
  exact ⟨d, l1, l2, l3, ds, ts, us, vs, s _ _ h1, s _ _ h2, h3.mono fun _ _ z => s _ _ z, s _ _ h4, h5.mono fun _ _ z => z.same s, s _ _ h6, h7.mono fun _ _ z => z.same s⟩
end
/-- H' has all that H has -/
def Dm (H H' : Hp) : Prop := ∀ b, H' b = none → H b = none
theorem Off.dm {r : Addr} {H H' : Hp} (o : Off r H H') (hr : ∃ y, H' r = some y) : Dm H H' := fun b n => o.none (fun z => by obtain ⟨y, hy⟩ := hr; rw [← z, n] at hy; cases hy) n
theorem Dm.trans {H H1 H2 : Hp} (a : Dm H H1) (b : Dm H1 H2) : Dm H H2 := fun c n => a c (b c n)
theorem Dm.upd {H H' : Hp} {l : Addr} {u : HO} (a : Dm H H') : Dm H (upd H' l u) := fun c n => a c (by
  by_cases z : c = l
  · rw [z, upd_same] at n
    cases n
  · rw [upd_ne z] at n
    exact n)
theorem same_dm {H H' : Hp} (s : Same H H') : Dm H H' := fun b n => by
  cases z : H b with
  | none => rfl
  | some y =>
    have := s _ _ z
    rw [n] at this
    cases this
theorem Nw.dom {H1 H2 H3 : Hp} (d : Dm H1 H2) : Same (Nw H2 H3) (Nw H1 H3) := fun b o e => let ⟨n, h⟩ := Nw.of e; Nw.at (d b n) h
theorem Nw.upd {H1 H3 : Hp} {l : Addr} {u y : HO} (hl : H1 l = some y) : Same (Nw H1 H3) (Nw H1 (upd H3 l u)) := fun b o e => by
  obtain ⟨n, h⟩ := Nw.of e
  have ne : b ≠ l := fun z => by rw [z, hl] at n; cases n
  exact Nw.at n (by rw [upd_ne ne]; exact h)
section
variable {K : PySem.W.Frag} {mg : Str → Option Value}
/-- a file under way: what stood in H1 when it was made, what was read since -/
structure FSt (k : Ks K mg) (H H1 H' : Hp) (r a d l1 l2 l3 : Addr) (nm : Str) (T : Cd) (ts us vs : List Addr) (im tm ls : List (Str × Nat)) : Prop where
  off : Off r H H'
  dm : Dm H1 H'
  ha : H' a = some (.ins k.FileSource.C d (nFileSource.zip [.str nm, .str (S T), .ref l1, .ref l2, .ref l3, .non, .int 0]))
  h1 : H' l1 = some (.lst (refs ts))
  e1 : Each (fun t q => Nw H1 H' t = some (.tup [.str q.1, .int (q.2 : Nat)])) ts im
  h2 : H' l2 = some (.lst (refs us))
  e2 : Each (fun t q => TemA k (Nw H1 H') t q.1 q.2) us tm
  h3 : H' l3 = some (.lst (refs vs))
  e3 : Each (fun t q => LstA k (Nw H1 H') t q.1 q.2) vs ls
/-- the addresses of a new file -/
structure FNew (H H1 : Hp) (r a l1 l2 l3 : Addr) : Prop where
  n : H a = none ∧ H l1 = none ∧ H l2 = none ∧ H l3 = none
  s : (∃ y, H1 r = some y) ∧ (∃ y, H1 a = some y) ∧ (∃ y, H1 l1 = some y) ∧ (∃ y, H1 l2 = some y) ∧ ∃ y, H1 l3 = some y
  ne : a ≠ r ∧ l1 ≠ r ∧ l2 ≠ r ∧ l3 ≠ r
  d : a ≠ l1 ∧ a ≠ l2 ∧ a ≠ l3 ∧ l1 ≠ l2 ∧ l1 ≠ l3 ∧ l2 ≠ l3
variable {k : Ks K mg} {H H1 H' H'' : Hp} {r a d l1 l2 l3 : Addr} {nm : Str} {T : Cd} {ts us vs : List Addr} {im tm ls : List (Str × Nat)}
theorem FSt.go (h : FSt k H H1 H' r a d l1 l2 l3 nm T ts us vs im tm ls) (N : FNew H H1 r a l1 l2 l3) (o : Off r H' H'') (hr : ∃ y, H'' r = some y) : FSt k H H1 H'' r a d l1 l2 l3 nm T ts us vs im tm ls := by
  have s : Same (Nw H1 H') (Nw H1 H'') := Nw.off (Off.refl r H1) N.s.1 o
  exact ⟨h.off.trans o, h.dm.trans (o.dm hr), o _ _ N.ne.1 h.ha, o _ _ N.ne.2.1 h.h1, h.e1.mono fun _ _ z => s _ _ z, o _ _ N.ne.2.2.1 h.h2, h.e2.mono fun _ _ z => z.same s, o _ _ N.ne.2.2.2 h.h3, h.e3.mono fun _ _ z => z.same s⟩
theorem Off.putN {p : Addr} {u : HO} (x : Off r H H') (hp : H p = Option.none) : Off r H (upd H' p u) := fun b y n e => by
  rw [upd_ne (ne_of_none e hp)]
  exact x b y n e
theorem FSt.addI (h : FSt k H H1 H' r a d l1 l2 l3 nm T ts us vs im tm ls) (N : FNew H H1 r a l1 l2 l3) {t : Addr} {x : Str} {p : Nat} (nt : H1 t = none) (ht : H' t = some (.tup [.str x, .int (p : Nat)])) :
    FSt k H H1 (upd H' l1 (.lst (refs ts ++ [.ref t]))) r a d l1 l2 l3 nm T (ts ++ [t]) us vs (im ++ [(x, p)]) tm ls := by
  obtain ⟨y1, hy1⟩ := N.s.2.2.1
  have s : Same (Nw H1 H') (Nw H1 (upd H' l1 (.lst (refs ts ++ [.ref t])))) := Nw.upd hy1
  refine ⟨h.off.putN N.n.2.1, h.dm.upd, by rw [upd_ne N.d.1]; exact h.ha, by rw [upd_same]; simp [refs], Each.snoc (s _ _ (Nw.at nt ht)) (h.e1.mono fun _ _ z => s _ _ z), by rw [upd_ne N.d.2.2.2.1.symm]; exact h.h2, h.e2.mono fun _ _ z => z.same s, by rw [upd_ne N.d.2.2.2.2.1.symm]; exact h.h3, h.e3.mono fun _ _ z => z.same s⟩
theorem FSt.addT (h : FSt k H H1 H' r a d l1 l2 l3 nm T ts us vs im tm ls) (N : FNew H H1 r a l1 l2 l3) {t : Addr} {x : Str} {p : Nat} (ht : TemA k (Nw H1 H') t x p) :
    FSt k H H1 (upd H' l2 (.lst (refs us ++ [.ref t]))) r a d l1 l2 l3 nm T ts (us ++ [t]) vs im (tm ++ [(x, p)]) ls := by
  obtain ⟨y1, hy1⟩ := N.s.2.2.2.1
  have s : Same (Nw H1 H') (Nw H1 (upd H' l2 (.lst (refs us ++ [.ref t])))) := Nw.upd hy1
  refine ⟨h.off.putN N.n.2.2.1, h.dm.upd, by rw [upd_ne N.d.2.1]; exact h.ha, by rw [upd_ne N.d.2.2.2.1]; exact h.h1, h.e1.mono fun _ _ z => s _ _ z, by rw [upd_same]; simp [refs], Each.snoc (ht.same s) (h.e2.mono fun _ _ z => z.same s), by rw [upd_ne N.d.2.2.2.2.2.symm]; exact h.h3, h.e3.mono fun _ _ z => z.same s⟩
theorem FSt.addL (h : FSt k H H1 H' r a d l1 l2 l3 nm T ts us vs im tm ls) (N : FNew H H1 r a l1 l2 l3) {t : Addr} {x : Str} {p : Nat} (ht : LstA k (Nw H1 H') t x p) :
    FSt k H H1 (upd H' l3 (.lst (refs vs ++ [.ref t]))) r a d l1 l2 l3 nm T ts us (vs ++ [t]) im tm (ls ++ [(x, p)]) := by
  obtain ⟨y1, hy1⟩ := N.s.2.2.2.2
  have s : Same (Nw H1 H') (Nw H1 (upd H' l3 (.lst (refs vs ++ [.ref t])))) := Nw.upd hy1
  refine ⟨h.off.putN N.n.2.2.2, h.dm.upd, by rw [upd_ne N.d.2.2.1]; exact h.ha, by rw [upd_ne N.d.2.2.2.2.1]; exact h.h1, h.e1.mono fun _ _ z => s _ _ z, by rw [upd_ne N.d.2.2.2.2.2]; exact h.h2, h.e2.mono fun _ _ z => z.same s, by rw [upd_same]; simp [refs], Each.snoc (ht.same s) (h.e3.mono fun _ _ z => z.same s)⟩
end
section
variable {P : Program} {w : World} {K : PySem.W.Frag} {mg : Str → Option Value} {base : Heap}
def spAll (k : Ks K mg) : Sp := fun vs H Q _ => ∃ (r : Addr) (nm : Str) (T : Cd) (ps : List (Nat × Cd)) (le : Nat) (ims : List (Str × Nat)) (own : List (Bool × Str × Nat)), vs = [.ref r] ∧ Rd k.Reader.C H r nm T ps 0 le ∧ FilAt T ps 0 ims own ∧ ims.length ≤ 100 ∧ own.length ≤ 100 ∧
  ∀ H' a, Off r H H' → (∃ y, H' r = some y) → FilA k (Nw H H') a nm T ims own → Q (.ref a) H'
theorem ok_all {f : Addr} {fd : FuncData} (F : Fun K "read_all" "Reader.read_all" m_Reader_read_all f fd) (T : Bl K mg) (k : Ks K mg) (i_FileSource : Mkr P w K mg base k.FileSource 1 ["self", "name", "signs"] spFileI)
    (m_accept : DnM P w K mg base k.Reader "accept" 4 ["self", "wanted"] (spAcc k.Reader.C)) (m_take_name : DnM P w K mg base k.Reader "take_name" 4 ["self"] (spTN k.Reader.C)) (m_read_list : DnM P w K mg base k.Reader "read_list" 6 ["self"] (spLi k)) (m_read_template : DnM P w K mg base k.Reader "read_template" 10 ["self"] (spTe k)) :
    FnOk P w K mg base CX0 11 f fd ["self"] (spAll k) := by
  refine F.ok scAl (fun vs H Q E h => ?_) (fun cdv A outer s H vs Q E hr h => ?_)
  · obtain ⟨_, _, _, _, _, _, _, rfl, _⟩ := h
    rfl
  · obtain ⟨r, nm, Tx, ps, le0, ims, own, rfl, hRd, hF, lI, lO, q⟩ := h
    obtain ⟨hP, hB, dx, hR⟩ := id hRd
    refine ⟨_, (pss_cons (ps_set (i := 1) scAl.nd rfl (Or.inl rfl) (pe_make i_FileSource.mak i_FileSource.ok (hr.mono (by omega)) (by rfl) k.FileSource.g i_FileSource.b .nil pass0 (pa_cons (pe_fld (pv 0) rfl) (pa_cons (pe_fld (pv 0) rfl) pa_nil))))
      (pss_cons (ps_while PassesOwn.never (pt_val (pe_meth (pv 0) k.Reader.cl m_accept.mt m_accept.ok (hr.mono (by omega)) m_accept.b .nil pass0 (pa_cons pe_str pa_nil)))
        (pss_one (ps_expr (pe_bm PySem.F.plainAttrs_list PySem.F.slot_list_append PySem.F.type_list_append mt_append (pe_fld (pv 1) rfl) (pa_cons (pe_meth0 (pv 0) k.Reader.cl m_take_name.mt m_take_name.ok (hr.mono (by omega)) m_take_name.b .nil pass0) pa_nil)))))
      (pss_cons (ps_while PassesOwn.never (pt_cmpR (r := rIn K false) op_in_seq (pe_fld (pv 0) rfl) (pe_tup (pa_cons pe_str (pa_cons pe_str pa_nil))) (by rfl))
        (pss_one (ps_if (pt_cmpR op_eq (pe_fld (pv 0) rfl) pe_str (nomark _))
          (pss_one (ps_expr (pe_bm PySem.F.plainAttrs_list PySem.F.slot_list_append PySem.F.type_list_append mt_append (pe_fld (pv 1) rfl) (pa_cons (pe_meth0 (pv 0) k.Reader.cl m_read_list.mt m_read_list.ok (hr.mono (by omega)) m_read_list.b .nil pass0) pa_nil))))
          (pss_one (ps_expr (pe_bm PySem.F.plainAttrs_list PySem.F.slot_list_append PySem.F.type_list_append mt_append (pe_fld (pv 1) rfl) (pa_cons (pe_meth0 (pv 0) k.Reader.cl m_read_template.mt m_read_template.ok (hr.mono (by omega)) m_read_template.b .nil pass0) pa_nil)))))))
      (pss_cons (ps_fldZ (pv 1) (pe_fld (pv 0) rfl) rfl)
      (pss_cons (ps_if (pt_val (pe_meth (pv 0) k.Reader.cl m_accept.mt m_accept.ok (hr.mono (by omega)) m_accept.b .nil pass0 (pa_cons pe_str pa_nil)))
        (pss_one ps_never)
        pss_nil)
      (pss_cons (ps_if (pt_cmpR op_ne (pe_fld (pv 0) rfl) (pe_glob (v := .str "") (by rfl) T.cend.choose_spec ⟨_, rfl⟩) (nomark _))
        (pss_one ps_never)
        pss_nil)
      (pss_one (ps_ret (pv 1))))))))), ?_⟩
    refine ⟨.ref r, rfl, _, _, _, _, _, rfl, hR, k.Reader.cl, k.Reader.nf.get ix_Reader_name, lkZ ix_Reader_name rfl, .ref r, rfl, _, _, _, _, _, rfl, hR, k.Reader.cl, k.Reader.nf.get ix_Reader_signs, lkZ ix_Reader_signs rfl, fun a da na nda ne => ⟨a, da, _, _, rfl, upd_same, fun H1 l1 l2 l3 o1 n1 n2 n3 d12 d13 d23 g1 g2 g3 ga => ⟨rfl, ?_⟩⟩⟩
    have s1 := same_made na nda o1
    have hn : ∀ l, (upd (upd H da (.own a)) a (.ins k.FileSource.C da [])) l = none → H l = none ∧ a ≠ l := fun l z => by
      have e1 : l ≠ a := fun w => by rw [w, upd_same] at z; cases z
      rw [upd_ne e1] at z
      have e2 : l ≠ da := fun w => by rw [w, upd_same] at z; cases z
      rw [upd_ne e2] at z
      exact ⟨z, e1.symm⟩
    obtain ⟨n1, c1⟩ := hn _ n1
    obtain ⟨n2, c2⟩ := hn _ n2
    obtain ⟨n3, c3⟩ := hn _ n3
    have nr : ∀ {b : Addr}, H b = none → b ≠ r := fun nb z => by rw [z, hR] at nb; cases nb
    have N : FNew H H1 r a l1 l2 l3 := ⟨⟨na, n1, n2, n3⟩, ⟨⟨_, s1 _ _ hR⟩, ⟨_, ga⟩, ⟨_, g1⟩, ⟨_, g2⟩, ⟨_, g3⟩⟩, ⟨nr na, nr n1, nr n2, nr n3⟩, ⟨c1, c2, c3, d12, d13, d23⟩⟩
    refine ⟨fun m σ' H' => ∃ (i le : Nat) (rest done : List (Str × Nat)) (ts : List Addr), m = rest.length ∧ σ' = [some (.ref r), some (.ref a)] ∧ done ++ rest = ims ∧ FilAt Tx ps i rest own ∧ Rd k.Reader.C H' r nm Tx ps i le ∧ FSt k H H1 H' r a da l1 l2 l3 nm Tx ts [] [] done [] [], ⟨_, 0, le0, ims, [], [], rfl, rfl, rfl, hF, hRd.same s1, ⟨Off.s (Off.refl r H) s1, fun _ z => z, ga, g1, trivial, g2, trivial, g3, trivial⟩⟩, ?_⟩
    rintro m σ' H' ⟨i, le, rest, done, ts, rfl, rfl, hd, hFi, hRi, hS⟩
    obtain ⟨_, _, dxi, gi⟩ := id hRi
    cases hFi with
    | @imp i l o w1 w2 w3 w4 hFn =>
      refine ⟨.ref r, rfl, _, _, _, rfl, gi, lkN nx_Reader_accept, r, nm, Tx, ps, i, le, "\x69mport", rfl, hRi, by decide +kernel, fun _ H2 o2 hR2 => ⟨_, rfl, iteT ⟨_, fun _ _ p => p, ?_⟩⟩, fun e => absurd w1 e⟩
      obtain ⟨_, _, dx2, e2⟩ := id hR2
      have S2 := hS.go N o2 hR2.some
      refine ⟨.ref a, rfl, _, _, _, _, _, rfl, S2.ha, k.FileSource.cl, k.FileSource.nf.get ix_FileSource_imports, lkZ ix_FileSource_imports rfl, .inl ⟨rfl, _, SqL.of S2.h1⟩, .ref r, rfl, _, _, _, rfl, e2, lkN nx_Reader_take_name, r, nm, Tx, ps, i + 1, _, rfl, hR2, w2, w3, w4, fun t H3 o3 nt ht hR3 => ?_⟩
      have S3 := S2.go N o3 hR3.some
      have lt : ts.length = done.length := S3.e1.len
      have ld := congrArg List.length hd
      rw [List.length_append] at ld
      refine ⟨l1, refs ts, _, rfl, rfl, S3.h1, by rw [List.length_map]; exact small1000 (by omega), l.length, by simp, i + 2, pos Tx ps (i + 1) + (tk ps (i + 1)).length, l, done ++ [(S (tk ps (i + 1)), pos Tx ps (i + 1))], ts ++ [t], rfl, rfl, by rw [← hd]; simp, hFn, ?_, S3.addI N (S2.dm t nt) ht⟩
      exact ⟨hP, hR3.2.1, let ⟨_, _, d3, z⟩ := hR3; ⟨d3, by rw [upd_ne N.ne.2.1.symm]; exact z⟩⟩
    | @own i l hO =>
      have wne : S (tk ps i) ≠ "\x69mport" := fun e => by
        rcases hO.word with z | z | z
        · exact absurd (z.symm.trans e) (by decide +kernel)
        · exact absurd (z.symm.trans e) (by decide +kernel)
        · exact absurd (z.symm.trans e) (by decide +kernel)
      refine ⟨.ref r, rfl, _, _, _, rfl, gi, lkN nx_Reader_accept, r, nm, Tx, ps, i, le, "\x69mport", rfl, hRi, by decide +kernel, fun e => absurd e wne, fun _ => ⟨_, rfl, iteF ?_⟩⟩
      rw [List.append_nil] at hd
      subst hd
      refine ⟨fun m σ' H' => ∃ (i le : Nat) (rest dn : List (Bool × Str × Nat)) (us vs : List Addr), m = rest.length ∧ σ' = [some (.ref r), some (.ref a)] ∧ dn ++ rest = own ∧ OwnAt Tx ps i rest ∧ Rd k.Reader.C H' r nm Tx ps i le ∧ FSt k H H1 H' r a da l1 l2 l3 nm Tx ts us vs done (tems dn) (lsts dn), ⟨_, i, le, own, [], [], [], rfl, rfl, rfl, hO, hRi, hS⟩, ?_⟩
      clear hS hRi gi hO wne
      rintro m σ' H' ⟨i, le, rest, dn, us, vs, rfl, rfl, hd, hO, hRi, hS⟩
      obtain ⟨_, _, dxi, gi⟩ := id hRi
      have lu : us.length = (tems dn).length := hS.e2.len
      have lv : vs.length = (lsts dn).length := hS.e3.len
      have ft : (tems dn).length ≤ dn.length := List.length_filterMap_le _ _
      have fl : (lsts dn).length ≤ dn.length := List.length_filterMap_le _ _
      have ld := congrArg List.length hd
      rw [List.length_append] at ld
      refine ⟨.ref r, rfl, _, _, _, _, _, rfl, gi, k.Reader.cl, k.Reader.nf.get ix_Reader_token, lkZ ix_Reader_token rfl, by show 2 ≤ sizeLine; decide, fun u nu => ?_⟩
      have s2 := same_new (o := .tup [.str "template", .str "list"]) nu
      have hR2 := hRi.same s2
      have g2' := s2 _ _ gi
      have S2 := hS.go N (Off.s (Off.refl r _) s2) hR2.some
      have u2 := upd_same (H := H') (a := u) (o := .tup [.str "template", .str "list"])
      have inn : ∀ z : Str, inV (.str z) [.str "template", .str "list"] = decide (z ∈ (["template", "list"] : List Str)) := fun z => inS z ["template", "list"]
      refine ⟨u, _, rfl, .inr (SqT.of u2), rfl, rfl, _, rfl, ?_⟩
      generalize upd H' u (.tup [.str "template", .str "list"]) = H2 at hR2 g2' S2 u2
      clear hS hRi gi
      cases hO with
      | nil hlen =>
        have tE := tk_end hlen
        have e0 : S (tk ps i) = "" := by rw [tE]; rfl
        rw [inn, e0, decide_eq_false (by decide +kernel)]
        refine iteF ⟨.ref r, rfl, _, _, _, _, _, rfl, g2', k.Reader.cl, k.Reader.nf.get ix_Reader_start, lkZ ix_Reader_start rfl, .ref a, rfl, _, _, _, _, _, _, rfl, S2.ha, k.FileSource.cl, k.FileSource.nf.get ix_FileSource_document_start, ix_FileSource_document_start, Nat.le_of_ble_eq_true rfl, k.FileSource.len, fun H3 o3 h3 => ?_⟩
        have g3' := o3 _ _ N.ne.1.symm g2'
        have hR3 : Rd k.Reader.C H3 r nm Tx ps i le := ⟨hP, hR2.2.1, dxi, g3'⟩
        refine ⟨.ref r, rfl, _, _, _, rfl, g3', lkN nx_Reader_accept, r, nm, Tx, ps, i, le, "document", rfl, hR3, by decide +kernel, fun e => absurd (e0.symm.trans e) (by decide +kernel), fun _ => ⟨_, rfl, iteF ?_⟩⟩
        refine ⟨.ref r, rfl, _, _, _, _, _, rfl, g3', k.Reader.cl, k.Reader.nf.get ix_Reader_token, lkZ ix_Reader_token rfl, rfl, _, rfl, ?_⟩
        rw [show (!decide (V.str (S (tk ps i)) = V.str "")) = false by rw [decide_eq_true (congrArg V.str e0)]; rfl]
        refine iteF ⟨_, rfl, q H3 a ?_ hR3.some ?_⟩
        · intro b y nb e
          exact o3 b y (fun z => by rw [z, na] at e; cases e) (S2.off b y nb e)
        · rw [List.append_nil] at hd
          subst hd
          have sN : ∀ b o, b ≠ a → Nw H1 H2 b = some o → Nw H H3 b = some o := fun b o nb e => by
            obtain ⟨e1, e2⟩ := Nw.of e
            exact Nw.at (same_dm s1 b e1) (o3 b o nb e2)
          have sM : Same (Nw H1 H2) (Nw H H3) := fun b o e => sN b o (fun z => by
            obtain ⟨e1, _⟩ := Nw.of e
            rw [z, ga] at e1
            cases e1) e
          exact ⟨da, l1, l2, l3, _, ts, us, vs, Nw.at na h3, Nw.at n1 (o3 _ _ N.d.1.symm S2.h1), S2.e1.mono fun _ _ z => sM _ _ z, Nw.at n2 (o3 _ _ N.d.2.1.symm S2.h2), S2.e2.mono fun _ _ z => z.same sM, Nw.at n3 (o3 _ _ N.d.2.2.1.symm S2.h3), S2.e3.mono fun _ _ z => z.same sM⟩
      | @tem i l hT hO =>
        rw [inn, hT.wd, decide_eq_true (by decide +kernel)]
        refine iteT ⟨_, fun _ _ p => p, .ref r, rfl, _, _, _, _, _, rfl, g2', k.Reader.cl, k.Reader.nf.get ix_Reader_token, lkZ ix_Reader_token rfl, rfl, _, rfl, ?_⟩
        rw [decide_eq_false (fun e : V.str (S (tk ps i)) = V.str "list" => absurd (hT.wd.symm.trans (V.str.inj e)) (by decide +kernel))]
        refine iteF ⟨.ref a, rfl, _, _, _, _, _, rfl, S2.ha, k.FileSource.cl, k.FileSource.nf.get ix_FileSource_templates, lkZ ix_FileSource_templates rfl, .inl ⟨rfl, _, SqL.of S2.h2⟩, .ref r, rfl, _, _, _, rfl, g2', lkN nx_Reader_read_template, r, nm, Tx, ps, i, le, rfl, hR2, hT, fun H3 t o3 nt hA hR3 => ?_⟩
        have S3 := S2.go N o3 hR3.some
        have st := S3.addT N (hA.same (Nw.dom S2.dm))
        refine ⟨l2, refs us, _, rfl, rfl, S3.h2, by rw [List.length_map]; exact small1000 (by omega), l.length, by simp, i + 7, eT Tx ps (i + 6), l, dn ++ [(false, S (tk ps (i + 1)), pos Tx ps (i + 1))], us ++ [t], vs, rfl, rfl, by rw [← hd]; simp, hO, ?_, ?_⟩
        · exact ⟨hP, hR3.2.1, let ⟨_, _, d3, z⟩ := hR3; ⟨d3, by rw [upd_ne N.ne.2.2.1.symm]; exact z⟩⟩
        · rw [tems_snoc, lsts_snoc]
          exact st
      | @lst i l hT hO =>
        rw [inn, hT.wd, decide_eq_true (by decide +kernel)]
        refine iteT ⟨_, fun _ _ p => p, .ref r, rfl, _, _, _, _, _, rfl, g2', k.Reader.cl, k.Reader.nf.get ix_Reader_token, lkZ ix_Reader_token rfl, rfl, _, rfl, ?_⟩
        rw [decide_eq_true (congrArg V.str hT.wd : V.str (S (tk ps i)) = V.str "list")]
        refine iteT ⟨.ref a, rfl, _, _, _, _, _, rfl, S2.ha, k.FileSource.cl, k.FileSource.nf.get ix_FileSource_list_sources, lkZ ix_FileSource_list_sources rfl, .inl ⟨rfl, _, SqL.of S2.h3⟩, .ref r, rfl, _, _, _, rfl, g2', lkN nx_Reader_read_list, r, nm, Tx, ps, i, le, rfl, hR2, hT, fun H3 t o3 nt hA hR3 => ?_⟩
        have S3 := S2.go N o3 hR3.some
        have st := S3.addL N (hA.same (Nw.dom S2.dm))
        refine ⟨l3, refs vs, _, rfl, rfl, S3.h3, by rw [List.length_map]; exact small1000 (by omega), l.length, by simp, i + 9, eT Tx ps (i + 8), l, dn ++ [(true, S (tk ps (i + 1)), pos Tx ps (i + 1))], us, vs ++ [t], rfl, rfl, by rw [← hd]; simp, hO, ?_, ?_⟩
        · exact ⟨hP, hR3.2.1, let ⟨_, _, d3, z⟩ := hR3; ⟨d3, by rw [upd_ne N.ne.2.2.2.symm]; exact z⟩⟩
        · rw [tems_snoc, lsts_snoc]
          exact st
def spRF (k : Ks K mg) : Sp := fun vs H Q _ => ∃ (nm : Str) (T : Cd) (ps : List (Nat × Cd)) (ims : List (Str × Nat)) (own : List (Bool × Str × Nat)), vs = [.str nm, .str (S T)] ∧ Pag T ps ∧ FilAt T ps 0 ims own ∧ ims.length ≤ 100 ∧ own.length ≤ 100 ∧
  ∀ H' a, Same H H' → FilA k (Nw H H') a nm T ims own → Q (.ref a) H'
theorem ok_rf {f : Addr} {fd : FuncData} (F : Fun K "read_file" "read_file" s_read_file f fd) (T : Bl K mg) (k : Ks K mg) (i_Reader : Mkr P w K mg base k.Reader 4 ["self", "name", "signs"] spRdI) (m_read_all : DnM P w K mg base k.Reader "read_all" 11 ["self"] (spAll k)) :
    FnOk P w K mg base CX0 12 f fd ["name", "text"] (spRF k) := by
  refine F.ok scRF (fun vs H Q E h => ?_) (fun cdv A outer s H vs Q E hr h => ?_)
  · obtain ⟨_, _, _, _, _, rfl, _⟩ := h
    rfl
  · obtain ⟨nm, Tx, ps, ims, own, rfl, hP, hF, lI, lO, q⟩ := h
    refine ⟨_, (pss_one (ps_ret (pe_meth0 (pe_make i_Reader.mak i_Reader.ok (hr.mono (by omega)) (by rfl) k.Reader.g i_Reader.b .nil pass0 (pa_cons (pv 0) (pa_cons (pv 1) pa_nil))) k.Reader.cl m_read_all.mt m_read_all.ok (hr.mono (by omega)) m_read_all.b .nil pass0))), ?_⟩
    refine ⟨.str nm, rfl, .str (S Tx), rfl, fun r dr nr ndr ne => ⟨r, dr, nm, Tx, ps, rfl, upd_same, hP, fun H1 o1 hR1 => ⟨rfl, ?_⟩⟩⟩
    obtain ⟨_, _, dx1, g1⟩ := id hR1
    have s1 := same_made nr ndr o1
    refine ⟨_, _, _, rfl, g1, lkN nx_Reader_read_all, r, nm, Tx, ps, 0, ims, own, rfl, hR1, hF, lI, lO, fun H2 a o2 hr2 hA => ?_⟩
    have s2 : Same H H2 := fun b y e => o2 b y (ne_of_none e nr) (s1 b y e)
    exact q H2 a s2 (hA.same (Nw.dom (same_dm s1)))
end
end M05

set_option Elab.async false
set_option linter.all false
set_option maxRecDepth 100000
set_option maxHeartbeats 4000000
/-! values as data, tuples and flat things -/
namespace M05
open PySem PySem.Spec PyProof.Rows L2 GL
mutual
inductive TV (K : PySem.W.Frag) (H : Hp) : V → PyData → Prop
  | non : TV K H .non .none
  | bl (b : Bool) : TV K H (.bl b) (.bool b)
  | int (i : Int) : TV K H (.int i) (.int i)
  | str (x : Str) : TV K H (.str x) (.str x)
  | tup {a : Addr} {xs : List V} {ds : List PyData} : SqT K H a xs → TVs K H xs ds → TV K H (.ref a) (.tuple ds)
inductive TVs (K : PySem.W.Frag) (H : Hp) : List V → List PyData → Prop
  | nil : TVs K H [] []
  | cons {v : V} {vs : List V} {d : PyData} {ds : List PyData} : TV K H v d → TVs K H vs ds → TVs K H (v :: vs) (d :: ds)
end
/-- tuples stay -/
def TK (H H' : Hp) : Prop := ∀ a xs, (H a = some (.tup xs) → H' a = some (.tup xs)) ∧ ∀ o, H a = some (.frz o (.tup xs)) → H' a = some (.frz o (.tup xs))
theorem TK.refl (H : Hp) : TK H H := fun _ _ => ⟨id, fun _ => id⟩
theorem TK.trans {H H1 H2 : Hp} (x : TK H H1) (y : TK H1 H2) : TK H H2 := fun a xs => ⟨fun h => (y a xs).1 ((x a xs).1 h), fun o h => (y a xs).2 o ((x a xs).2 o h)⟩
theorem tk_same {H H' : Hp} (x : Same H H') : TK H H' := fun a xs => ⟨fun h => x _ _ h, fun _ h => x _ _ h⟩
/-- a change of what is no tuple -/
theorem tk_put {H H' : Hp} {p : Addr} {u : HO} (x : TK H H') (h : ∀ xs, H p ≠ some (.tup xs) ∧ ∀ o, H p ≠ some (.frz o (.tup xs))) : TK H (upd H' p u) := fun a xs => by
  refine ⟨fun e => ?_, fun o e => ?_⟩
  · have : a ≠ p := fun z => by
      rw [z] at e
      exact (h xs).1 e
    rw [upd_ne this]
    exact (x a xs).1 e
  · have : a ≠ p := fun z => by
      rw [z] at e
      exact (h xs).2 o e
    rw [upd_ne this]
    exact (x a xs).2 o e
theorem tk_new {H H' : Hp} {p : Addr} {u : HO} (x : TK H H') (h : H p = none) : TK H (upd H' p u) := tk_put x fun xs => ⟨fun e => (by rw [h] at e; cases e), fun o e => (by rw [h] at e; cases e)⟩
theorem tk_lst {H H' : Hp} {p : Addr} {ys : List V} {u : HO} (x : TK H H') (h : H p = some (.lst ys)) : TK H (upd H' p u) := tk_put x fun xs => ⟨fun e => (by rw [h] at e; cases e), fun o e => (by rw [h] at e; cases e)⟩
theorem SqT.tk {K : PySem.W.Frag} {H H' : Hp} {a : Addr} {xs : List V} (e : TK H H') (h : SqT K H a xs) : SqT K H' a xs := by
  rcases h with (h | ⟨o, h⟩) | h
  · exact .inl (.inl ((e a xs).1 h))
  · exact .inl (.inr ⟨o, (e a xs).2 o h⟩)
  · exact .inr h
mutual
theorem TV.tk {K : PySem.W.Frag} {H H' : Hp} (e : TK H H') : ∀ {v : V} {d : PyData}, TV K H v d → TV K H' v d
  | _, _, .non => .non
  | _, _, .bl b => .bl b
  | _, _, .int i => .int i
  | _, _, .str x => .str x
  | _, _, .tup h t => .tup (SqT.tk e h) (TVs.tk e t)
theorem TVs.tk {K : PySem.W.Frag} {H H' : Hp} (e : TK H H') : ∀ {v : List V} {d : List PyData}, TVs K H v d → TVs K H' v d
  | _, _, .nil => .nil
  | _, _, .cons a t => .cons (TV.tk e a) (TVs.tk e t)
end
mutual
theorem TV.dv {K : PySem.W.Frag} {H : Hp} : ∀ {v : V} {d : PyData}, TV K H v d → DV K H v d
  | _, _, .non => .non
  | _, _, .bl b => .bl b
  | _, _, .int i => .int i
  | _, _, .str x => .str x
  | _, _, .tup h t => .tup h (TVs.dv t)
theorem TVs.dv {K : PySem.W.Frag} {H : Hp} : ∀ {v : List V} {d : List PyData}, TVs K H v d → DVs K H v d
  | _, _, .nil => .nil
  | _, _, .cons a t => .cons (TV.dv a) (TVs.dv t)
end
mutual
theorem TV.dp {K : PySem.W.Frag} {H : Hp} : ∀ {v : V} {d : PyData}, TV K H v d → Dp K H v d
  | _, _, .non => .non
  | _, _, .bl b => .bl b
  | _, _, .int i => .int i
  | _, _, .str x => .str x
  | _, _, .tup h t => .tup h (TVs.dp t)
theorem TVs.dp {K : PySem.W.Frag} {H : Hp} : ∀ {v : List V} {d : List PyData}, TVs K H v d → DpAll K H v d
  | _, _, .nil => .nil
  | _, _, .cons a t => .cons (TV.dp a) (TVs.dp t)
end
section
variable {K : PySem.W.Frag} {H : Hp} {v : V} {vs : List V} {d : PyData} {ds : List PyData}
theorem TV.ofInt {i : Int} (h : TV K H v (.int i)) : v = .int i := by cases h; rfl
theorem TV.ofStr {x : Str} (h : TV K H v (.str x)) : v = .str x := by cases h; rfl
theorem TV.ofTup (h : TV K H v (.tuple ds)) : ∃ a xs, v = .ref a ∧ SqT K H a xs ∧ TVs K H xs ds := by
  cases h with
  | tup h t => exact ⟨_, _, rfl, h, t⟩
theorem TVs.ofNil (h : TVs K H vs []) : vs = [] := by cases h; rfl
theorem TVs.ofCons (h : TVs K H vs (d :: ds)) : ∃ v r, vs = v :: r ∧ TV K H v d ∧ TVs K H r ds := by
  cases h with
  | cons a t => exact ⟨_, _, rfl, a, t⟩
theorem TVs.of2 {d e : PyData} (h : TVs K H vs [d, e]) : ∃ x y, vs = [x, y] ∧ TV K H x d ∧ TV K H y e := by
  obtain ⟨x, r, rfl, hx, h⟩ := h.ofCons
  obtain ⟨y, r, rfl, hy, h⟩ := h.ofCons
  obtain rfl := h.ofNil
  exact ⟨x, y, rfl, hx, hy⟩
theorem TVs.of3 {d e f : PyData} (h : TVs K H vs [d, e, f]) : ∃ x y z, vs = [x, y, z] ∧ TV K H x d ∧ TV K H y e ∧ TV K H z f := by
  obtain ⟨x, r, rfl, hx, h⟩ := h.ofCons
  obtain ⟨y, z, rfl, hy, hz⟩ := h.of2
  exact ⟨x, y, z, rfl, hx, hy, hz⟩
theorem TVs.length : ∀ {vs : List V} {ds : List PyData}, TVs K H vs ds → vs.length = ds.length
  | _, _, .nil => rfl
  | _, _, .cons _ t => by
    rw [List.length_cons, List.length_cons, TVs.length t]
theorem TVs.get : ∀ {vs : List V} {ds : List PyData} {i : Nat} {v : V}, TVs K H vs ds → vs[i]? = some v → ∃ d, ds[i]? = some d ∧ TV K H v d
  | _, _, _, _, .nil, e => by simp at e
  | _, _, 0, _, .cons a _, e => by
    simp at e
    subst e
    exact ⟨_, rfl, a⟩
  | _, _, i + 1, _, .cons _ t, e => TVs.get (i := i) t (by simpa using e)
theorem TVs.app : ∀ {vs : List V} {ds : List PyData} {ws : List V} {es : List PyData}, TVs K H vs ds → TVs K H ws es → TVs K H (vs ++ ws) (ds ++ es)
  | _, _, _, _, .nil, h => h
  | _, _, _, _, .cons a t, h => .cons a (TVs.app t h)

end
end M05

set_option Elab.async false
set_option linter.all false
set_option maxRecDepth 100000
set_option maxHeartbeats 4000000
/-! sorted(..) of nested tuples of ints and texts, of which each two can be compared up to the first place that differs -/
namespace M05
open PySem PySem.Spec PyProof.Rows L2 GL PySem.SeqAt PySem.W
/-! ### the data -/
mutual
/-- ints, texts, tuples -/
def tdat : PyData → Bool
  | .int _ => true
  | .str _ => true
  | .tuple xs => tdats xs
  | _ => false
def tdats : List PyData → Bool
  | [] => true
  | x :: xs => tdat x && tdats xs
end
theorem tdats_cons {x : PyData} {xs : List PyData} (h : tdats (x :: xs) = true) : tdat x = true ∧ tdats xs = true := by
  rw [tdats, Bool.and_eq_true] at h
  exact h
mutual
/-- up to the first place that differs all can be compared -/
def akin : PyData → PyData → Bool
  | .int _, .int _ => true
  | .str _, .str _ => true
  | .tuple xs, .tuple ys => akins xs ys
  | _, _ => false
def akins : List PyData → List PyData → Bool
  | x :: xs, y :: ys => if PyData.eqv x y = true then akins xs ys else akin x y
  | [], _ => true
  | _ :: _, [] => true
end
theorem akins_yes {x y : PyData} {xs ys : List PyData} (h : akins (x :: xs) (y :: ys) = true) (e : PyData.eqv x y = true) : akins xs ys = true := by
  rw [akins, if_pos e] at h
  exact h
theorem akins_no {x y : PyData} {xs ys : List PyData} (h : akins (x :: xs) (y :: ys) = true) (e : PyData.eqv x y = false) : akin x y = true := by
  rw [akins, if_neg (by rw [e]; exact Bool.false_ne_true)] at h
  exact h
mutual
theorem tdat_eqv : ∀ {x y : PyData}, tdat x = true → tdat y = true → PyData.eqv x y = true → x = y
  | .int a, .int b, _, _, e => by
    have : a = b := by simpa [PyData.eqv] using e
    rw [this]
  | .str a, .str b, _, _, e => by
    have : a = b := by simpa [PyData.eqv] using e
    rw [this]
  | .tuple a, .tuple b, hx, hy, e => by
    rw [tdat] at hx hy
    rw [PyData.eqv] at e
    rw [tdats_eqv hx hy e]
  | .int _, .str _, _, _, e => by simp [PyData.eqv] at e
  | .int _, .tuple _, _, _, e => by simp [PyData.eqv] at e
  | .str _, .int _, _, _, e => by simp [PyData.eqv] at e
  | .str _, .tuple _, _, _, e => by simp [PyData.eqv] at e
  | .tuple _, .int _, _, _, e => by simp [PyData.eqv] at e
  | .tuple _, .str _, _, _, e => by simp [PyData.eqv] at e
theorem tdats_eqv : ∀ {xs ys : List PyData}, tdats xs = true → tdats ys = true → PyData.eqvAll xs ys = true → xs = ys
  | [], [], _, _, _ => rfl
  | [], _ :: _, _, _, e => by simp [PyData.eqvAll] at e
  | _ :: _, [], _, _, e => by simp [PyData.eqvAll] at e
  | x :: xs, y :: ys, hx, hy, e => by
    rw [eqv_all_cons, Bool.and_eq_true] at e
    rw [tdat_eqv (tdats_cons hx).1 (tdats_cons hy).1 e.1, tdats_eqv (tdats_cons hx).2 (tdats_cons hy).2 e.2]
end
mutual
theorem tdat_lay : ∀ {x : PyData}, tdat x = true → x.plain = true
  | .int _, _ => rfl
  | .str _, _ => rfl
  | .tuple a, h => by
    rw [tdat] at h
    rw [PyData.plain]
    exact tdats_lay h
theorem tdats_lay : ∀ {xs : List PyData}, tdats xs = true → PyData.plainAll xs = true
  | [], _ => rfl
  | x :: xs, h => by
    rw [PyData.plainAll, tdat_lay (tdats_cons h).1, tdats_lay (tdats_cons h).2]
    rfl
end
abbrev lxT := PyProof.Rows.lexLt itemOrd
theorem toks_nil : keyToksAll [] = [.inl 0] := by rw [keyToksAll]
mutual
theorem toks_akin : ∀ {x y : PyData}, tdat x = true → tdat y = true → akin x y = true → PyData.eqv x y = false → ∀ l m, lxT (keyToks x ++ l) (keyToks y ++ m) = lxT (keyToks x) (keyToks y)
  | .int a, .int b, _, _, _, e, l, m => by
    have hne : a ≠ b := fun q => by
      subst q
      simp [PyData.eqv] at e
    simp only [keyToks]
    exact lex_atom (fun q => hne (Sum.inl.inj q)) l m
  | .str a, .str b, _, _, _, e, l, m => by
    have hne : a ≠ b := fun q => by
      subst q
      simp [PyData.eqv] at e
    simp only [keyToks]
    exact lex_atom (fun q => hne (str_of_cps (Sum.inr.inj q))) l m
  | .tuple a, .tuple b, hx, hy, h, e, l, m => by
    rw [tdat] at hx hy
    rw [akin] at h
    rw [PyData.eqv] at e
    simp only [keyToks]
    exact toks_akins hx hy h e l m
  | .int _, .str _, _, _, h, _, _, _ => by simp [akin] at h
  | .int _, .tuple _, _, _, h, _, _, _ => by simp [akin] at h
  | .str _, .int _, _, _, h, _, _, _ => by simp [akin] at h
  | .str _, .tuple _, _, _, h, _, _, _ => by simp [akin] at h
  | .tuple _, .int _, _, _, h, _, _, _ => by simp [akin] at h
  | .tuple _, .str _, _, _, h, _, _, _ => by simp [akin] at h
theorem toks_akins : ∀ {xs ys : List PyData}, tdats xs = true → tdats ys = true → akins xs ys = true → PyData.eqvAll xs ys = false → ∀ l m, lxT (keyToksAll xs ++ l) (keyToksAll ys ++ m) = lxT (keyToksAll xs) (keyToksAll ys)
  | [], [], _, _, _, e, _, _ => by simp [PyData.eqvAll] at e
  | [], y :: ys, _, _, _, _, l, m => by
    rw [toks_nil, toks_all_cons]
    exact (lex_atom (by simp) _ _).trans (lex_atom (by simp) _ _).symm
  | x :: xs, [], _, _, _, _, l, m => by
    rw [toks_nil, toks_all_cons]
    exact (lex_atom (by simp) _ _).trans (lex_atom (by simp) _ _).symm
  | x :: xs, y :: ys, hx, hy, h, e, l, m => by
    rw [eqv_all_cons] at e
    rw [toks_all_cons, toks_all_cons, List.cons_append, List.cons_append, List.append_assoc, List.append_assoc]
    have s1 := lex_self (O := itemOrd) (Sum.inl 1 : Int ⊕ List Nat)
    rw [lxT, s1, s1]
    cases q : PyData.eqv x y with
    | true =>
      rw [q, Bool.true_and] at e
      rw [tdat_eqv (tdats_cons hx).1 (tdats_cons hy).1 q, lex_pre, lex_pre]
      exact toks_akins (tdats_cons hx).2 (tdats_cons hy).2 (akins_yes h q) e l m
    | false =>
      have t := toks_akin (tdats_cons hx).1 (tdats_cons hy).1 (akins_no h q) q
      exact (t _ _).trans (t _ _).symm
end
theorem lx_yes {x y : PyData} {xs ys : List PyData} (hx : tdat x = true) (hy : tdat y = true) (q : PyData.eqv x y = true) : lxT (keyToksAll (x :: xs)) (keyToksAll (y :: ys)) = lxT (keyToksAll xs) (keyToksAll ys) := by
  rw [toks_all_cons, toks_all_cons, tdat_eqv hx hy q, lxT, lex_self (O := itemOrd), lex_pre]
theorem lx_no {x y : PyData} {xs ys : List PyData} (hx : tdat x = true) (hy : tdat y = true) (h : akin x y = true) (q : PyData.eqv x y = false) : lxT (keyToksAll (x :: xs)) (keyToksAll (y :: ys)) = dataLt x y := by
  rw [toks_all_cons, toks_all_cons, lxT, lex_self (O := itemOrd)]
  exact toks_akin hx hy h q _ _
/-! ### tuple < tuple, place by place -/
section
variable {A : Around} {s : Shared}
/-- asked only at the first place that differs -/
theorem tupLtSeq (l b : Addr) (items items2 : Array Value) (n n2 : Nat) (dd dd2 : Option Addr) (sl sl2 : Array (Option Value)) (e r : Nat → Bool) :
    Meets (Builtin.«tuple.__lt__» ⟨[.ref l, .ref b], []⟩) (fun A R s => s.heap.get? l = some ⟨.type "tuple", dd, .seq items n, sl⟩ ∧ s.heap.get? b = some ⟨.type "tuple", dd2, .seq items2 n2, sl2⟩ ∧
      (∀ j (h1 : j < items.size) (h2 : j < items2.size), EqAt A.in1 s items[j] items2[j] (e j)) ∧
      (∀ j (h1 : j < items.size) (h2 : j < items2.size), (∀ i, i < j → e i = true) → e j = false → RcLt A.in1 s items[j] items2[j] (r j)) ∧
      R (.ok (.ret (.bool (firstLt e r (decide (items.size < items2.size)) (List.range (min items.size items2.size)))))) s) := by
  refine .of_wp fun prog w A R s h => ?_
  obtain ⟨hp, g, d, tk, os⟩ := s
  obtain ⟨hl, hb, he, hr, h⟩ := h
  have sub := AutoSeq1.sub_tuple_tuple
  have zl : (items.toList.zip items2.toList).length = min items.size items2.size := by simp
  wp_walk using AutoSeq1.wpAny_loadPart' hl, AutoSeq1.wpAny_loadPart' hb, wpAny_forIn_list _ (fun rest c s' => c.1 = none ∧ s' = ⟨hp, g, d, tk, os⟩ ∧ ∃ i, (∀ k, k < i → e k = true) ∧ rest = (items.toList.zip items2.toList).drop i ∧
    R (.ok (.ret (.bool (firstLt e r (decide (items.size < items2.size)) ((List.range (min items.size items2.size)).drop i))))) ⟨hp, g, d, tk, os⟩) _
  case turn =>
    rintro ⟨y, x⟩ rest c s' ⟨hc, rfl, i, hi, hz, hR⟩
    by_cases lt : i < (items.toList.zip items2.toList).length
    · have lm : i < min items.size items2.size := zl ▸ lt
      have l1 := Nat.lt_of_lt_of_le lm (Nat.min_le_left _ _)
      have l2 := Nat.lt_of_lt_of_le lm (Nat.min_le_right _ _)
      rw [List.drop_eq_getElem_cons lt] at hz
      obtain ⟨p1, p2⟩ := List.cons.inj hz
      obtain rfl : y = items[i] := by simpa using congrArg Prod.fst p1
      obtain rfl : x = items2[i] := by simpa using congrArg Prod.snd p1
      have rd : (List.range (min items.size items2.size)).drop i = i :: (List.range (min items.size items2.size)).drop (i + 1) := by
        simp [List.drop_eq_getElem_cons, lm]
      rw [rd] at hR
      refine wpAny_bind (he i l1 l2 prog w _ _ ?_)
      cases q : e i with
      | true =>
        rw [firstLt_yes q] at hR
        wp_walk
        refine ⟨rfl, rfl, i + 1, fun k hk => ?_, p2, hR⟩
        rcases Nat.lt_succ_iff_lt_or_eq.mp hk with hk | rfl
        · exact hi k hk
        · exact q
      | false =>
        rw [firstLt_no q] at hR
        have hrc := hr i l1 l2 hi q prog w
        generalize richCompare .Lt items[i] items2[i] = rc at hrc ⊢
        wp_walk
        refine hrc _ _ ?_
        wp_walk
        exact ⟨_, rfl, hR⟩
    · rw [List.drop_of_length_le (Nat.le_of_not_lt lt)] at hz
      cases hz
  case fin =>
    rintro ⟨c1, c2⟩ s' ⟨hc, rfl, i, _, hz, hR⟩
    simp only at hc
    subst hc
    have ge : min items.size items2.size ≤ i := by
      by_cases lt : i < (items.toList.zip items2.toList).length
      · rw [List.drop_eq_getElem_cons lt] at hz
        cases hz
      · rw [← zl]
        exact Nat.le_of_not_lt lt
    rw [List.drop_of_length_le (by simpa using ge)] at hR
    wp_walk
    exact ⟨_, rfl, by simpa [Builtin.Tuple.tupleCompareSizes, firstLt] using hR⟩
  case h => exact ⟨rfl, rfl, 0, fun k hk => absurd hk (Nat.not_lt_zero k), rfl, by simpa using h⟩
theorem rcLtSeq {l b : Addr} {items items2 : Array Value} {e r : Nat → Bool} {k : Bool} (hl : s.heap.IsTuple l items) (hb : s.heap.IsTuple b items2) (hu : A.units < cLine) (he : ∀ j (h1 : j < items.size) (h2 : j < items2.size), EqAt A.in1 s items[j] items2[j] (e j))
    (hr : ∀ j (h1 : j < items.size) (h2 : j < items2.size), (∀ i, i < j → e i = true) → e j = false → RcLt A.in1 s items[j] items2[j] (r j)) (hk : firstLt e r (decide (items.size < items2.size)) (List.range (min items.size items2.size)) = k) : RcLt A s (.ref l) (.ref b) k := fun prog w E Q h => by
  subst hk
  obtain ⟨⟨cl, dd, da, sl⟩, ho, hc, n, hd⟩ := id hl
  obtain ⟨⟨cl2, dd2, da2, sl2⟩, ho2, hc2, n2, hd2⟩ := id hb
  simp only at hc hd hc2 hd2
  subst hc hd hc2 hd2
  refine richCompare_meets_room (op := .Lt) ⟨_, ho, rfl⟩ ⟨_, ho2, rfl⟩ F.slot_tuple_lt F.entry_tuple_lt (F.args_tuple_lt_2 _ _) (tupLtSeq l b items items2 n n2 dd dd2 sl sl2 e r) ⟨ho, ho2, he, hr, ?_⟩ hu
  exact (show Value.bool _ ≠ Value.notImplemented ∧ Q (.bool _) s from ⟨(fun x => nomatch x), h⟩)
end
/-- the first place that differs, as the rows of signs say it -/
theorem first_toks : ∀ {xs ys : List PyData}, tdats xs = true → tdats ys = true → akins xs ys = true →
    firstLt (pairEq xs ys) (fun j => dataLt (xs.getD j .none) (ys.getD j .none)) (decide (xs.length < ys.length)) (List.range (min xs.length ys.length)) = lxT (keyToksAll xs) (keyToksAll ys)
  | [], [], _, _, _ => by simp [firstLt, lex_irrefl]
  | [], y :: ys, _, _, _ => by
    rw [toks_all_cons, toks_nil, lxT, lex_diff (O := itemOrd) (by simp)]
    simp [firstLt, itemLt]
  | x :: xs, [], _, _, _ => by
    rw [toks_all_cons, toks_nil, lxT, lex_diff (O := itemOrd) (by simp)]
    simp [firstLt, itemLt]
  | x :: xs, y :: ys, hx, hy, h => by
    have e1 : min (x :: xs).length (y :: ys).length = min xs.length ys.length + 1 := by simp only [List.length_cons]; omega
    have e2 : decide ((x :: xs).length < (y :: ys).length) = decide (xs.length < ys.length) := by simp
    rw [e1, e2, List.range_succ_eq_map]
    cases q : PyData.eqv x y with
    | true =>
      rw [firstLt_yes (show pairEq (x :: xs) (y :: ys) 0 = true from q), firstLt_map, lx_yes (tdats_cons hx).1 (tdats_cons hy).1 q]
      exact first_toks (tdats_cons hx).2 (tdats_cons hy).2 (akins_yes h q)
    | false =>
      rw [firstLt_no (show pairEq (x :: xs) (y :: ys) 0 = false from q), lx_no (tdats_cons hx).1 (tdats_cons hy).1 (akins_no h q) q]
      rfl
mutual
/-- a < b -/
theorem rcAkin : ∀ (da db : PyData) (A : Around) (s : Shared) (a b : Value) (as bs : List Addr), Reads s.heap a da as → Reads s.heap b db bs → tdat da = true → tdat db = true → akin da db = true → A.units + min da.depth db.depth < cLine → RcLt A s a b (dataLt da db)
  | .int x, db, A, s, _, _, _, _, ra, rb, _, _, h, _ => by
    cases db with
    | int y =>
      cases ra
      cases rb
      intro prog w E Q hq
      rw [dataLt_int] at hq
      exact P.lt_int hq
    | _ => simp [akin] at h
  | .str x, db, A, s, _, _, _, _, ra, rb, _, _, h, _ => by
    cases db with
    | str y =>
      cases ra
      cases rb
      intro prog w E Q hq
      rw [dataLt_str] at hq
      exact P.lt_str hq
    | _ => simp [akin] at h
  | .tuple xs, db, A, s, _, _, _, _, ra, rb, ha, hb, h, hu => by
    cases db with
    | tuple ys =>
      rw [tdat] at ha hb
      rw [akin] at h
      cases ra with
      | @tuple l o vs n _ as₁ h1 h2 h3 h4 =>
        cases rb with
        | @tuple l' o' vs' n' _ bs₁ k1 k2 k3 k4 =>
          have n1 : vs.size = xs.length := by simpa using ReadsAll.length _ _ _ h4
          have n2 : vs'.size = ys.length := by simpa using ReadsAll.length _ _ _ k4
          refine rcLtSeq (e := pairEq xs ys) (r := fun j => dataLt (xs.getD j .none) (ys.getD j .none)) ⟨_, h1, h2, _, h3⟩ ⟨_, k1, k2, _, k3⟩ (room_here hu) (fun j j1 j2 => ?_) (fun j j1 j2 hi hj => ?_) (by rw [n1, n2, dataLt_tuple]; exact first_toks ha hb h)
          · have q := eqAt_plainAll xs ys A.in1 s vs.toList vs'.toList _ _ h4 k4 (tdats_lay ha) (tdats_lay hb) (room_in hu) j (by simpa using j1) (by simpa using j2)
            simpa using q
          · have q := rcAkins xs ys A.in1 s vs.toList vs'.toList _ _ h4 k4 ha hb h (room_in hu) j (by simpa using j1) (by simpa using j2) hi hj
            simpa using q
    | _ => simp [akin] at h
  | .none, _, _, _, _, _, _, _, _, _, ha, _, _, _ => by simp [tdat] at ha
  | .bool _, _, _, _, _, _, _, _, _, _, ha, _, _, _ => by simp [tdat] at ha
  | .list _, _, _, _, _, _, _, _, _, _, ha, _, _, _ => by simp [tdat] at ha
  | .dict _, _, _, _, _, _, _, _, _, _, ha, _, _, _ => by simp [tdat] at ha
theorem rcAkins : ∀ (xs ys : List PyData) (A : Around) (s : Shared) (vs ws : List Value) (as bs : List Addr), ReadsAll s.heap vs xs as → ReadsAll s.heap ws ys bs → tdats xs = true → tdats ys = true → akins xs ys = true → A.units + min (PyData.depthAll xs) (PyData.depthAll ys) < cLine →
    ∀ j (h1 : j < vs.length) (h2 : j < ws.length), (∀ i, i < j → pairEq xs ys i = true) → pairEq xs ys j = false → RcLt A s vs[j] ws[j] (dataLt (xs.getD j .none) (ys.getD j .none))
  | [], _, _, _, _, _, _, _, ra, _, _, _, _, _, j, h1, _, _, _ => by
    cases ra
    exact absurd h1 (Nat.not_lt_zero _)
  | _ :: _, [], _, _, _, _, _, _, _, rb, _, _, _, _, j, _, h2, _, _ => by
    cases rb
    exact absurd h2 (Nat.not_lt_zero _)
  | x :: xs, y :: ys, A, s, _, _, _, _, ra, rb, ha, hb, h, hu, j, h1, h2, hi, hj => by
    cases ra with
    | cons r rs =>
      cases rb with
      | cons r' rs' =>
        cases j with
        | zero => exact rcAkin x y A s _ _ _ _ r r' (tdats_cons ha).1 (tdats_cons hb).1 (akins_no h hj) (room_head hu)
        | succ j => exact rcAkins xs ys A s _ _ _ _ rs rs' (tdats_cons ha).2 (tdats_cons hb).2 (akins_yes h (hi 0 (Nat.succ_pos j))) (room_tail hu) j (Nat.lt_of_succ_lt_succ h1) (Nat.lt_of_succ_lt_succ h2) (fun i hk => hi (i + 1) (Nat.succ_lt_succ hk)) hj
end
/-! ### as sorting compares -/
section
variable {prog : Program} {w : World} {A : Around} {E : Value → Shared → Prop} {s : Shared}
theorem oneAkin {f : Bool} {da db : PyData} {a b : Value} {as bs : List Addr} {Q : Bool → Shared → Prop} (hf : f = true → (∃ z, da = .str z) ∨ ∃ z, da = .int z) (ra : Reads s.heap a da as) (rb : Reads s.heap b db bs) (ha : tdat da = true) (hb : tdat db = true) (h : akin da db = true)
    (hu : A.units + min da.depth db.depth < cLine) (hq : Q (dataLt da db) s) : wpAny (model prog w) A (oneLt' f a b) Q E s := by
  cases f with
  | false =>
    rw [oneLt'_eq]
    simp only [Bool.false_eq_true, if_false]
    exact wpAny_bind (rcAkin da db A s a b as bs ra rb ha hb h hu prog w E _ (wpAny_truthy_bool hq))
  | true =>
    rcases hf rfl with ⟨z, rfl⟩ | ⟨z, rfl⟩
    · cases db with
      | str y =>
        cases ra
        cases rb
        rw [dataLt_str] at hq
        exact oneLt_str hq
      | _ => simp [akin] at h
    · cases db with
      | int y =>
        cases ra
        cases rb
        rw [dataLt_int] at hq
        exact oneLt_int hq
      | _ => simp [akin] at h
theorem katAkin {b fin : Bool} {Q : Bool → Shared → Prop} : ∀ (xs ys : List PyData) (i : Nat) (vs ws : List Value) (as bs : List Addr), ReadsAll s.heap vs xs as → ReadsAll s.heap ws ys bs → tdats xs = true → tdats ys = true → akins xs ys = true →
    A.units + min (PyData.depthAll xs) (PyData.depthAll ys) < cLine → (i = 0 → ∀ x r, xs = x :: r → (∃ z, x = .str z) ∨ ∃ z, x = .int z) → fin = decide (xs.length < ys.length) → Q (lxT (keyToksAll xs) (keyToksAll ys)) s → KatLex prog w A b fin Q (vs.zip ws) i s
  | [], [], i, _, _, _, _, ra, rb, _, _, _, _, _, hf, hq => by
    cases ra
    cases rb
    subst hf
    rw [lxT, lex_irrefl] at hq
    exact kat_nil hq
  | [], y :: ys, i, _, _, _, _, ra, rb, _, _, _, _, _, hf, hq => by
    cases ra
    subst hf
    rw [toks_all_cons, toks_nil, lxT, lex_diff (O := itemOrd) (by simp)] at hq
    rw [List.zip_nil_left]
    exact kat_nil (by simpa [itemLt] using hq)
  | x :: xs, [], i, _, _, _, _, ra, rb, _, _, _, _, _, hf, hq => by
    cases rb
    subst hf
    rw [toks_all_cons, toks_nil, lxT, lex_diff (O := itemOrd) (by simp)] at hq
    rw [List.zip_nil_right]
    exact kat_nil (by simpa [itemLt] using hq)
  | x :: xs, y :: ys, i, _, _, _, _, ra, rb, ha, hb, h, hu, hz, hf, hq => by
    have hf' : fin = decide (xs.length < ys.length) := by
      rw [hf]
      simp
    cases ra with
    | cons r rs =>
      cases rb with
      | cons r' rs' =>
        rw [List.zip_cons_cons]
        refine kat_cons (eqAt_plain x y A s _ _ _ _ r r' (tdat_lay (tdats_cons ha).1) (tdat_lay (tdats_cons hb).1) (room_head hu) prog w _ _ ?_)
        cases q : PyData.eqv x y with
        | true =>
          rw [lx_yes (tdats_cons ha).1 (tdats_cons hb).1 q] at hq
          exact kat_yes (katAkin xs ys (i + 1) _ _ _ _ rs rs' (tdats_cons ha).2 (tdats_cons hb).2 (akins_yes h q) (room_tail hu) (fun hi => absurd hi (Nat.succ_ne_zero i)) hf' hq)
        | false =>
          rw [lx_no (tdats_cons ha).1 (tdats_cons hb).1 (akins_no h q) q] at hq
          refine kat_no (oneAkin (fun hbi => ?_) r r' (tdats_cons ha).1 (tdats_cons hb).1 (akins_no h q) (room_head hu) hq)
          rw [Bool.and_eq_true] at hbi
          exact hz (by simpa using hbi.2) x xs rfl
end
end M05

set_option Elab.async false
set_option linter.all false
set_option maxRecDepth 100000
set_option maxHeartbeats 4000000
/-! sorted(..) of lists and of a dict's values -/
namespace M05
open PySem PySem.Spec PyProof.Rows L2 GL PySem.SeqAt PySem.W
/-! ### sorted of whatever is collected -/
section
variable {prog : Program} {w : World} {A : Around} {E : Value → Shared → Prop} {s : Shared}
theorem sorted_by {arg : Value} {vs : List Value} {ltv : Value → Value → Bool} {Q : Value → Shared → Prop} (O : SrtO.Swo ltv) (hz : vs.length ≤ sizeLine)
    (hcol : ∀ (R : List Value → Shared → Prop) (E' : Value → Shared → Prop), (∀ (h' : Heap) (tk : Nat), (∀ b o, s.heap.get? b = some o → h'.get? b = some o) → s.heap.objs.size < h'.objs.size → R vs { s with heap := h', toks := tk }) → wpAny (model prog w) A.in1 (collect arg) R E' s)
    (hS : ∀ (h₁ : Heap) (tk : Nat) (a : Addr), h₁.get? a = some (seqObj "list" vs.toArray 0) → (∀ b o, s.heap.get? b = some o → b ≠ a ∧ h₁.get? b = some o) → 2 ≤ vs.length → SrtO.SortableO prog w A.in1.in1 { s with heap := h₁, toks := tk } a vs ltv)
    (h : ∀ (out : List Value) (h' : Heap) (tk : Nat) (d : Addr), SrtO.Srtd ltv out → SrtO.Stb ltv out vs → (∀ b o, s.heap.get? b = some o → h'.get? b = some o) → s.heap.objs.size ≤ d → (∃ n, h'.get? d = some (seqObj "list" out.toArray n)) → Q (.ref d) { s with heap := h', toks := tk }) :
    wpAny (model prog w) A (call (.builtin "sorted") [arg]) Q E s := by
  refine Calls.call_function_entry kind_sorted plain_sorted entry_sorted (args_sorted1 _) ?_
  unfold Builtin.«sorted»
  refine wpAny_bind (m := checkCount "sorted" 1 1 _) (wpAny_pure (wpAny_bind (hcol _ _ fun h' tk kp up => wpAny_bind (wpAny_newList ?_ hz))))
  have at1 : (h'.push (seqObj "list" vs.toArray 0)).get? h'.objs.size = some (seqObj "list" vs.toArray 0) := Heap.get?_push_size _ rfl
  have old1 : ∀ b o, s.heap.get? b = some o → b ≠ h'.objs.size ∧ (h'.push (seqObj "list" vs.toArray 0)).get? b = some o := fun b o e => ⟨Nat.ne_of_lt (Nat.lt_trans (Heap.lt_size e) up), Heap.get?_push_of_some _ (kp b o e)⟩
  show wpAny _ _ _ _ _ { s with heap := h'.push (seqObj "list" vs.toArray 0), toks := tk }
  refine wpAny_bind (wpAny_holding (wpAny_call_entry slot_list_sort ⟨_, at1, rfl⟩ entry_list_sort (SrtO.list_sort_ord O at1 hz (hS _ _ _ at1 old1) fun out hs hb => ⟨_, rfl, ?_⟩) (args_list_sort _)))
  refine wpAny_pure ⟨_, rfl, h out _ tk h'.objs.size hs hb (fun b o e => ?_) (Nat.le_of_lt up) (sortedHeap_at at1)⟩
  obtain ⟨n1, e1⟩ := old1 b o e
  exact (sortedHeap_old n1 (Heap.lt_size e1)).trans e1
/-- collect of a dict's view -/
theorem collect_src {T : String} {r d : Addr} {n : Nat} {P : Nat → Value → Prop} {OK : Heap → Prop} {R : List Value → Shared → Prop} (K : KdlSrc prog w T r d n P OK) (hh : A.handled = none) (hok : OK s.heap) (hn : n ≤ sizeLine)
    (hR : ∀ (h' : Heap) (tk : Nat) (acc : Array Value), (∀ b o, s.heap.get? b = some o → h'.get? b = some o) → s.heap.objs.size < h'.objs.size → ItemsOf P acc n → R acc.toList { s with heap := h', toks := tk }) : wpAny (model prog w) A (collect (.ref r)) R E s := by
  unfold collect
  refine wpAny_bind (wpAny_runValue (codeAny_builtin F.entry_proto_collect ?_))
  rw [Around.under_plainId F.plain_proto_collect _]
  show wpAny _ A.in1 (newList [] >>= fun l => again (.builtin "list.__iadd__" ⟨[l, .ref r], []⟩)) _ _ s
  refine wpAny_bind (wpAny_newObj_type (wpAny_pure ⟨plainId_quiet F.plain_list_iadd _, codeAny_builtin F.entry_list_iadd ?_⟩))
  rw [Around.under_plainId F.plain_list_iadd _]
  have here : (s.heap.push { cls := .type "list", data := .seq ([] : List Value).toArray }).get? s.heap.objs.size = some { cls := .type "list", data := .seq #[] 0 } := Heap.get?_push_size _ rfl
  have lt := K.there _ hok
  show wpAny _ A.in1 (Builtin.List.listExtendWith (.ref s.heap.objs.size) (.ref r) (.ref s.heap.objs.size)) _ _ _
  refine wpAny_mono (kdl_extend (A := A) (R := fun rr s' => rr = .ok (.ret (.ref s.heap.objs.size)) ∧ ∃ (h' : Heap) (tk : Nat) (acc : Array Value) (c' : Nat), s' = { s with heap := h', toks := tk } ∧ (∀ b o, s.heap.get? b = some o → h'.get? b = some o) ∧
      h'.get? s.heap.objs.size = some { cls := .type "list", dict := none, data := .seq acc c', slots := #[] } ∧ ItemsOf P acc n)
    (s := { s with heap := s.heap.push { cls := .type "list", data := .seq ([] : List Value).toArray } }) K hh (K.keep _ _ hok fun b _ o e => Heap.get?_push_of_some _ e) _ (Nat.ne_of_gt lt.1) (Nat.ne_of_gt lt.2) _ 0 here
    (fun h' tk acc c' kp e hi => ⟨rfl, h', tk, acc, c', rfl, fun b o q => kp b o (Nat.ne_of_lt (Heap.lt_size q)) (Heap.get?_push_of_some _ q), e, hi⟩) hn) (fun fin s' q => ?_) (fun e s' q => absurd q.1 (by simp))
  have go : ∀ {rr : Result} {s' : Shared}, (rr = .ok (.ret (.ref s.heap.objs.size)) ∧ ∃ (h' : Heap) (tk : Nat) (acc : Array Value) (c' : Nat), s' = { s with heap := h', toks := tk } ∧ (∀ b o, s.heap.get? b = some o → h'.get? b = some o) ∧
      h'.get? s.heap.objs.size = some { cls := .type "list", dict := none, data := .seq acc c', slots := #[] } ∧ ItemsOf P acc n) → wpAny (model prog w) A (load s.heap.objs.size >>= fun o => match o.data with | .seq xs _ => pure xs.toList | _ => unsupported "internal:collect") R E s' := by
    rintro rr s' ⟨_, h', tk, acc, c', rfl, kp, e, hi⟩
    exact wpAny_bind (wpAny_load e (wpAny_pure (hR h' tk acc kp (Heap.lt_size e) hi)))
  cases fin with
  | done f =>
    obtain ⟨e, h', tk, acc, c', rfl, kp, hS', hi⟩ := q
    cases e
    show wpAny _ A (load s.heap.objs.size >>= _) _ _ _
    exact wpAny_bind (wpAny_load hS' (wpAny_pure (hR h' tk acc kp (Heap.lt_size hS') hi)))
  | again c' =>
    refine ⟨q.1, codeAny_mono q.2 fun rr s'' z => ?_⟩
    obtain ⟨rfl, h', tk, acc, c', rfl, kp, hS', hi⟩ := z
    show wpAny _ A (load s.heap.objs.size >>= _) _ _ _
    exact wpAny_bind (wpAny_load hS' (wpAny_pure (hR h' tk acc kp (Heap.lt_size hS') hi)))
/-- d.values(), by the entries -/
theorem raw_values {r d : Addr} {es : Array DictEntry} {ep : Nat} : KdlSrc prog w "dict_values" r d es.size (fun i v => ∃ hi : i < es.size, v = es[i].val) (fun h => h.IsValuesView r d ∧ h.DictRaw d es ep) where
  type := fun _ m => m.1.typeIs
  there := fun _ m => by
    obtain ⟨⟨o, ho, _⟩, ⟨o', ho', _⟩⟩ := m
    exact ⟨Heap.lt_size ho, Heap.lt_size ho'⟩
  keep := fun _ _ m k => by
    obtain ⟨⟨o, ho, x⟩, y⟩ := m
    exact ⟨⟨o, k r (.inl rfl) o ho, x⟩, y.at fun o e => k d (.inr rfl) o e⟩
  notList := by decide
  notTuple := by decide
  hint := fun _ _ _ _ m hq => kdl_hint_values m.1.typeIs hq
  iter := fun _ s hh m => by
    refine ⟨_, _, fun _ _ hq => wpAny_pyIter_values_raw m.1 m.2 hq, Walks.rawValues hh _ d (Nat.ne_of_lt ?_) es ep, ⟨⟨_, Heap.get?_push_size _ rfl, rfl, rfl⟩, m.2.at fun o e => Heap.get?_push_of_some _ e⟩⟩
    obtain ⟨o', ho', _⟩ := m.2
    exact Heap.lt_size ho'
end
/-! ### the values, by what they read as -/
def dtv (dt : Addr → PyData) : Value → PyData
  | .ref a => dt a
  | _ => .none
abbrev ltA (dt : Addr → PyData) (a b : Addr) : Bool := lxT (keyToks (dt a)) (keyToks (dt b))
abbrev ltW (dt : Addr → PyData) (a b : Value) : Bool := lxT (keyToks (dtv dt a)) (keyToks (dtv dt b))
theorem swo_toks {α : Type} (k : α → List (Int ⊕ List Nat)) : SrtO.Swo fun x y => lxT (k x) (k y) := by
  refine ⟨fun x y h => ?_, fun x y z h1 h2 => ?_⟩
  · cases e : lxT (k y) (k x) with
    | false => rfl
    | true =>
      have := lex_trans (O := itemOrd) _ _ _ h e
      rw [lex_irrefl] at this
      cases this
  · cases e : lxT (k z) (k x) with
    | false => rfl
    | true =>
      rcases lex_negTrans (O := itemOrd) _ (k y) _ e with q | q
      · rw [lxT] at h2
        rw [h2] at q
        cases q
      · rw [lxT] at h1
        rw [h1] at q
        cases q
structure GoodD (K : PySem.W.Frag) (H : Hp) (dt : Addr → PyData) (as : List Addr) : Prop where
  tv : ∀ a ∈ as, TV K H (.ref a) (dt a)
  td : ∀ a ∈ as, tdat (dt a) = true
  dp : ∀ a ∈ as, (dt a).depth ≤ 60
  st : (∀ a ∈ as, ∃ z r, dt a = .tuple (.str z :: r)) ∨ ∀ a ∈ as, ∃ z r, dt a = .tuple (.int z :: r)
  ak : ∀ a ∈ as, ∀ b ∈ as, akin (dt a) (dt b) = true
mutual
theorem reads_but {h h' : Heap} {a : Addr} (k : ∀ b o, b ≠ a → h.get? b = some o → h'.get? b = some o) (ha : ∀ o, h.get? a = some o → o.cls ≠ .type "tuple") : ∀ (d : PyData) (v : Value) (as : List Addr), tdat d = true → Reads h v d as → Reads h' v d as
  | .int _, _, _, _, r => by
    cases r
    exact Reads.int _ _
  | .str _, _, _, _, r => by
    cases r
    exact Reads.str _ _
  | .tuple xs, _, _, hd, r => by
    rw [tdat] at hd
    cases r with
    | tuple h1 h2 h3 h4 =>
      refine Reads.tuple (k _ _ (fun z => ?_) h1) h2 h3 (readsAll_but k ha xs _ _ hd h4)
      subst z
      exact ha _ h1 h2
  | .none, _, _, hd, _ => by simp [tdat] at hd
  | .bool _, _, _, hd, _ => by simp [tdat] at hd
  | .list _, _, _, hd, _ => by simp [tdat] at hd
  | .dict _, _, _, hd, _ => by simp [tdat] at hd
theorem readsAll_but {h h' : Heap} {a : Addr} (k : ∀ b o, b ≠ a → h.get? b = some o → h'.get? b = some o) (ha : ∀ o, h.get? a = some o → o.cls ≠ .type "tuple") : ∀ (ds : List PyData) (vs : List Value) (as : List Addr), tdats ds = true → ReadsAll h vs ds as → ReadsAll h' vs ds as
  | [], _, _, _, r => by
    cases r
    exact ReadsAll.nil
  | d :: ds, _, _, hd, r => by
    cases r with
    | cons h1 h2 => exact ReadsAll.cons (reads_but k ha d _ _ (tdats_cons hd).1 h1) (readsAll_but k ha ds _ _ (tdats_cons hd).2 h2)
end
theorem each_of {α β : Type} {R : α → β → Prop} {f : α → β} : ∀ {l : List α}, (∀ a ∈ l, R a (f a)) → EachIs R l (l.map f)
  | [], _ => .nil
  | a :: l, h => .cons (h a (List.mem_cons_self ..)) (each_of fun b hb => h b (List.mem_cons_of_mem _ hb))
section
variable {prog : Program} {w : World} {A : Around} {s : Shared}
theorem sortable_td {dt : Addr → PyData} {as : List Addr} {a : Addr} (hr : ∀ x ∈ as, ∃ bs, Reads s.heap (.ref x) (dt x) bs) (td : ∀ a ∈ as, tdat (dt a) = true) (dp : ∀ a ∈ as, A.units + (dt a).depth < cLine) (st : (∀ a ∈ as, ∃ z r, dt a = .tuple (.str z :: r)) ∨ ∀ a ∈ as, ∃ z r, dt a = .tuple (.int z :: r))
    (ak : ∀ a ∈ as, ∀ b ∈ as, akin (dt a) (dt b) = true) (ha : ∀ o, s.heap.get? a = some o → o.cls ≠ .type "tuple") (h2 : 2 ≤ as.length) : SrtO.SortableO prog w A s a (as.map Value.ref) (ltW dt) := by
  intro h' kp
  have hr' : ∀ x ∈ as, ∃ bs, Reads h' (.ref x) (dt x) bs := fun x hx => by
    obtain ⟨bs, r⟩ := hr x hx
    exact ⟨bs, reads_but kp ha _ _ _ (td x hx) r⟩
  refine ⟨tuples' true, fun Q E hq => ?_, fun p q hp hq => ?_⟩
  · have each : EachIs (fun v d => ∃ bs, Reads h' v d bs) (as.map Value.ref) ((as.map Value.ref).map (dtv dt)) := each_of fun v hv => by
      obtain ⟨x, hx, rfl⟩ := List.mem_map.mp hv
      exact hr' x hx
    have hd : ∀ x ∈ as, ∃ y r, dt x = .tuple (y :: r) := fun x hx => st.elim (fun st => let ⟨z, r, e⟩ := st x hx; ⟨_, r, e⟩) fun st => let ⟨z, r, e⟩ := st x hx; ⟨_, r, e⟩
    obtain ⟨fs, t1, t2, t3⟩ := each_katTups each fun d hd' => by
      obtain ⟨v, hv, rfl⟩ := List.mem_map.mp hd'
      obtain ⟨x, hx, rfl⟩ := List.mem_map.mp hv
      obtain ⟨y, r, e⟩ := hd x hx
      exact ⟨_, _, e⟩
    rcases st with st | st
    · refine kat_kind (T := .type "str") t1 (by rw [t2, List.length_map]; omega) (fun f hf => ?_) (by rfl) ?_
      · obtain ⟨x, r, bs, m1, m2⟩ := t3 f hf
        obtain ⟨v, hv, e⟩ := List.mem_map.mp m1
        obtain ⟨y, hy, rfl⟩ := List.mem_map.mp hv
        obtain ⟨z, r2, e2⟩ := st y hy
        have e3 : dt y = .tuple (x :: r) := e
        rw [e2] at e3
        injection e3 with e3
        obtain ⟨rfl, _⟩ := List.cons.inj e3
        exact looks_reads m2
      · have e : (Value.type "str" != Value.type "tuple") = true := by first | decide +kernel | rfl
        rw [e]
        exact hq
    · refine kat_kind (T := .type "int") t1 (by rw [t2, List.length_map]; omega) (fun f hf => ?_) (by rfl) ?_
      · obtain ⟨x, r, bs, m1, m2⟩ := t3 f hf
        obtain ⟨v, hv, e⟩ := List.mem_map.mp m1
        obtain ⟨y, hy, rfl⟩ := List.mem_map.mp hv
        obtain ⟨z, r2, e2⟩ := st y hy
        have e3 : dt y = .tuple (x :: r) := e
        rw [e2] at e3
        injection e3 with e3
        obtain ⟨rfl, _⟩ := List.cons.inj e3
        exact looks_reads m2
      · have e : (Value.type "int" != Value.type "tuple") = true := by first | decide +kernel | rfl
        rw [e]
        exact hq
  · obtain ⟨x, hx, ex⟩ := List.mem_map.mp hp
    obtain ⟨y, hy, ey⟩ := List.mem_map.mp hq
    show wpAny (model prog w) A (keyLt' (tuples' true) p.1 q.1) (fun r s' => s' = _ ∧ r = ltW dt p.1 q.1) (fun _ _ => False) _
    rw [← ex, ← ey]
    obtain ⟨bs, rx⟩ := hr' x hx
    obtain ⟨cs, ry⟩ := hr' y hy
    obtain ⟨z, r, e1, hz⟩ : ∃ z r, dt x = .tuple (z :: r) ∧ ((∃ i, z = .str i) ∨ ∃ i, z = .int i) := st.elim (fun st => let ⟨z, r, e⟩ := st x hx; ⟨_, r, e, .inl ⟨z, rfl⟩⟩) fun st => let ⟨z, r, e⟩ := st x hx; ⟨_, r, e, .inr ⟨z, rfl⟩⟩
    obtain ⟨z2, r2, e2⟩ : ∃ z r, dt y = .tuple (z :: r) := st.elim (fun st => let ⟨z, r, e⟩ := st y hy; ⟨_, r, e⟩) fun st => let ⟨z, r, e⟩ := st y hy; ⟨_, r, e⟩
    have hak := ak x hx y hy
    have tx := td x hx
    have ty := td y hy
    have dx := dp x hx
    show wpAny (model prog w) A (keyLt' (tuples' true) _ _) (fun r s' => s' = _ ∧ r = lxT (keyToks (dt x)) (keyToks (dt y))) (fun _ _ => False) _
    rw [e1] at rx hak tx dx ⊢
    rw [e2] at ry hak ty ⊢
    rw [akin] at hak
    rw [tdat] at tx ty
    cases rx with
    | @tuple l o vs n _ as₁ h1 h2 h3 h4 =>
      cases ry with
      | @tuple l' o' vs' n' _ bs₁ k1 k2 k3 k4 =>
        have n1 : vs.size = (z :: r).length := by simpa using ReadsAll.length _ _ _ h4
        have n2 : vs'.size = (z2 :: r2).length := by simpa using ReadsAll.length _ _ _ k4
        have hroom : A.units + min (PyData.depthAll (z :: r)) (PyData.depthAll (z2 :: r2)) < cLine := by
          have : (PyData.tuple (z :: r)).depth = PyData.depthAll (z :: r) + 1 := by rw [PyData.depth]
          have := Nat.min_le_left (PyData.depthAll (z :: r)) (PyData.depthAll (z2 :: r2))
          omega
        refine kat_lt h1 h3 k1 k3 (katAkin _ _ 0 _ _ _ _ h4 k4 tx ty hak hroom (fun _ x' r' e => ?_) (by rw [n1, n2]) ⟨rfl, ?_⟩)
        · obtain ⟨rfl, _⟩ := List.cons.inj e
          exact hz
        · simp only [keyToks]
end
/-! ### the rules -/
section
variable {X : Cx} {pins : List (Addr × Obj)} {σ : L2.St} {H : Hp} {s : Shared}
theorem GoodD.sortable {dt : Addr → PyData} {as : List Addr} (I : Inv X pins σ H s) (hu : X.A.units + 64 < cLine) (G : GoodD X.K H dt as) (h₁ : Heap) (tk : Nat) (a : Addr) (at1 : h₁.get? a = some (seqObj "list" (as.map Value.ref).toArray 0))
    (old : ∀ b o, s.heap.get? b = some o → b ≠ a ∧ h₁.get? b = some o) (h2 : 2 ≤ (as.map Value.ref).length) : SrtO.SortableO X.prog X.w X.A.in1.in1 { s with heap := h₁, toks := tk } a (as.map Value.ref) (ltW dt) := by
  refine sortable_td (s := { s with heap := h₁, toks := tk }) (fun x hx => ?_) G.td (fun x hx => ?_) G.st G.ak (fun o e => ?_) (by rwa [List.length_map] at h2)
  · obtain ⟨bs, r, _⟩ := DV.reads I (TV.dv (G.tv x hx)) rfl
    exact ⟨bs, Reads.keeps (fun b o e => (old b o e).2) r⟩
  · have := G.dp x hx
    simp only [Around.in1_units]
    omega
  · have e' : some o = some (seqObj "list" (as.map Value.ref).toArray 0) := e.symm.trans at1
    cases e'
    intro c
    exact absurd (Value.type.inj c) (by decide)
theorem refs_as : ∀ {as : List Addr} {us : List Value}, Vals (as.map V.ref) us → us = as.map Value.ref
  | [], _, .nil => rfl
  | a :: as, _, .cons p t => by
    obtain rfl := p
    rw [refs_as t]
    rfl
theorem as_refs : ∀ (as : List Addr), Vals (as.map V.ref) (as.map Value.ref)
  | [] => .nil
  | a :: as => .cons rfl (as_refs as)
/-- what sorted leaves -/
theorem sorted_end {dt : Addr → PyData} {as : List Addr} {Q : VK} (I : Inv X pins σ H s) (hz : as.length ≤ sizeLine) (q : ∀ ys p, SrtO.Srtd (ltA dt) ys → ys.Perm as → H p = none → Q (.ref p) (upd H p (.lst (ys.map V.ref))))
    (out : List Value) (h' : Heap) (tk : Nat) (d : Addr) (hs : SrtO.Srtd (ltW dt) out) (hb : SrtO.Stb (ltW dt) out (as.map Value.ref)) (kp : ∀ b o, s.heap.get? b = some o → h'.get? b = some o) (hd : s.heap.objs.size ≤ d) (hn : ∃ n, h'.get? d = some (seqObj "list" out.toArray n)) :
    EP X pins σ Q (.ref d) { s with heap := h', toks := tk } := by
  obtain ⟨ys, rfl⟩ : ∃ ys : List Addr, out = ys.map Value.ref := by
    have : ∀ (l : List Value), (∀ v ∈ l, ∃ a, v = Value.ref a) → ∃ ys : List Addr, l = ys.map Value.ref := by
      intro l
      induction l with
      | nil => exact fun _ => ⟨[], rfl⟩
      | cons v l ih =>
        intro h
        obtain ⟨a, rfl⟩ := h v (List.mem_cons_self ..)
        obtain ⟨ys, rfl⟩ := ih fun u hu => h u (List.mem_cons_of_mem _ hu)
        exact ⟨a :: ys, rfl⟩
    refine this out fun v hv => ?_
    obtain ⟨a, _, rfl⟩ := List.mem_map.mp (hb.perm.mem_iff.mp hv)
    exact ⟨a, rfl⟩
  have pm : ys.Perm as := by
    have h1 := hb.perm.map (fun v => match v with | .ref a => a | _ => 0)
    rw [List.map_map, List.map_map] at h1
    have e : ∀ l : List Addr, l.map ((fun v => match v with | Value.ref a => a | _ => 0) ∘ Value.ref) = l := fun l => by
      show l.map (fun a => a) = l
      simp
    rw [e, e] at h1
    exact h1
  obtain ⟨n, hn⟩ := hn
  refine ⟨.ref d, upd H d (.lst (ys.map V.ref)), I.laid (t' := tk) kp hd ⟨?_, ys.map Value.ref, n, as_refs ys, hn⟩, rfl, q ys d (List.pairwise_map.mp hs) pm (I.hok.fresh hd)⟩
  rw [List.length_map, pm.length_eq]
  exact hz
/-- sorted(l) -/
def rSortD (K : PySem.W.Frag) : List V → Hp → VK → Prop := fun vs H Q => ∃ (a : Addr) (as : List Addr) (dt : Addr → PyData), vs = [.ref a] ∧ SqL K H a (as.map V.ref) ∧ GoodD K H dt as ∧ ∀ ys p, SrtO.Srtd (ltA dt) ys → ys.Perm as → H p = none → Q (.ref p) (upd H p (.lst (ys.map V.ref)))
theorem cr_sortD (hu : X.A.units + 64 < cLine) : CallR X (.builtin "sorted") (rSortD X.K) := by
  intro pins s σ H vs us Q I r h
  obtain ⟨a, as, dt, rfl, hs, G, q⟩ := h
  obtain ⟨its, rv, hl, hz⟩ := I.list hs
  obtain rfl := refs_as rv
  obtain ⟨u, rfl, ru⟩ := vals1 r
  obtain rfl : u = Value.ref a := ru
  rw [List.length_map] at hz
  refine sorted_by (ltv := ltW dt) (swo_toks fun v => keyToks (dtv dt v)) (by rw [List.length_map]; exact hz) (fun R E' k => ?_) (fun h₁ tk a at1 old h2 => G.sortable I hu h₁ tk a at1 old h2) (fun out h' tk d h1 h2 kp hd hn => sorted_end I hz q out h' tk d h1 h2 kp hd hn)
  refine collect_list hl.isList (k _ s.toks (fun b o e => ?_) ?_) (by rw [List.length_map]; exact hz)
  · rw [Heap.get?_update_ne _ _ _ _ (Nat.ne_of_lt (Heap.lt_size e))]
    exact Heap.get?_push_of_some _ e
  · rw [Heap.size_update, size_push']
    exact Nat.lt_succ_self _
end
end M05

set_option Elab.async false
set_option linter.all false
set_option maxRecDepth 100000
set_option maxHeartbeats 4000000
/-! Sources: its making; wrong_imports, repeated -/
namespace M05
open PySem PySem.Spec PyProof.Rows L2 GL
theorem scSo : FnScope ["self", "files", "file"] ["self", "files"] (defScope m_Sources_init) := ⟨rfl, rfl, rfl, by decide +kernel, rfl, by decide +kernel, by decide +kernel⟩
theorem scWI : FnScope ["sources", "file", "found", "known", "name", "start"] ["sources", "file"] (defScope s_wrong_imports) := ⟨rfl, rfl, rfl, by decide +kernel, rfl, by decide +kernel, by decide +kernel⟩
theorem scRp : FnScope ["pairs", "found", "known", "name", "start"] ["pairs"] (defScope s_repeated) := ⟨rfl, rfl, rfl, by decide +kernel, rfl, by decide +kernel, by decide +kernel⟩
theorem pe_fldK {X : Cx} {K : PySem.W.Frag} {e : Expr} {f : Str} {pos : Pos} {ta : TE} (hK : X.K = K) (he : PE X e ta) (hb : attributeBase e f X.env (eval e X.env) = eval e X.env) : PE X (.Attribute e f pos) (tFld K ta f) := by
  subst hK
  exact pe_fld he hb
theorem u1 {k : Nat} {A : Around} (r : Room k A) : A.units + 1 < cLine := by have := r.un; omega
theorem pip_ext {X : Cx} : PIp X .Add rExt2 := fun pins s σ H x y v u Q I rx ry q => iop_ext pins s σ H x y v u Q I rx ry q
theorem rdSame {H H' : Hp} {a : Addr} {u : HO} (h : L2.Rd H a u) (s : Same H H') : L2.Rd H' a u := h.elim (fun e => .inl (s _ _ e)) fun ⟨o, e⟩ => .inr ⟨o, s _ _ e⟩
theorem DGet.kR {H : Hp} {a : Addr} {kvs : List (Key × V)} {k : Key} (e : L2.Rd H a (.dK kvs)) : DGet H a (kV k) (valV kvs k) := .inl ⟨kvs, k, e, rfl, rfl⟩
/-- a file: its name, its text, what it brings, its own things -/
structure Fd where
  nm : Str
  T : Cd
  ims : List (Str × Nat)
  own : List (Bool × Str × Nat)
def byN : List Fd → List Addr → List (Key × V)
  | f :: fs, a :: as => (.inr f.nm, .ref a) :: byN fs as
  | _, _ => []
theorem byN_snoc : ∀ {fs : List Fd} {as : List Addr} (f : Fd) (a : Addr), fs.length = as.length → byN (fs ++ [f]) (as ++ [a]) = byN fs as ++ [(.inr f.nm, .ref a)]
  | [], [], _, _, _ => rfl
  | g :: fs, b :: as, f, a, h => by
    show (_, _) :: byN (fs ++ [f]) (as ++ [a]) = _
    rw [byN_snoc f a (Nat.succ.inj h)]
    rfl
  | [], _ :: _, _, _, h => by cases h
  | _ :: _, [], _, _, h => by cases h
theorem byN_len : ∀ (fs : List Fd) (as : List Addr), (byN fs as).length ≤ fs.length
  | [], _ => Nat.zero_le _
  | _ :: _, [] => Nat.zero_le _
  | f :: fs, a :: as => Nat.succ_le_succ (byN_len fs as)
theorem byN_none {z : Str} : ∀ {fs : List Fd} {as : List Addr}, z ∉ fs.map Fd.nm → valV (byN fs as) (.inr z) = none
  | [], _, _ => rfl
  | _ :: _, [], _ => rfl
  | f :: fs, a :: as, h => by
    rw [List.map_cons, List.mem_cons, not_or] at h
    show valV ((_, _) :: byN fs as) _ = _
    rw [valV_neg (fun e => h.1 (Sum.inr.inj e).symm), byN_none h.2]
theorem byN_some {f : Fd} {a : Addr} : ∀ {fs : List Fd} {as : List Addr} {i : Nat}, (fs.map Fd.nm).Nodup → fs[i]? = some f → as[i]? = some a → valV (byN fs as) (.inr f.nm) = some (.ref a)
  | [], _, _, _, h, _ => by simp at h
  | _ :: _, [], _, _, _, h => by simp at h
  | g :: fs, b :: as, 0, _, h1, h2 => by
    obtain rfl : g = f := by simpa using h1
    obtain rfl : b = a := by simpa using h2
    exact valV_pos rfl
  | g :: fs, b :: as, i + 1, hn, h1, h2 => by
    rw [List.getElem?_cons_succ] at h1 h2
    rw [List.map_cons, List.nodup_cons] at hn
    show valV ((_, _) :: byN fs as) _ = _
    rw [valV_neg (fun e => hn.1 (by
      have e : g.nm = f.nm := Sum.inr.inj e
      rw [e]
      exact List.mem_map_of_mem (List.mem_of_getElem? h1)))]
    exact byN_some hn.2 h1 h2
/-- a name is known by the dict -/
theorem byN_has {z : Str} {fs : List Fd} {as : List Addr} (hl : as.length = fs.length) (hn : (fs.map Fd.nm).Nodup) : (valV (byN fs as) (.inr z)).isSome = decide (z ∈ fs.map Fd.nm) := by
  by_cases h : z ∈ fs.map Fd.nm
  · obtain ⟨f, hf, rfl⟩ := List.mem_map.mp h
    obtain ⟨i, hi, e⟩ := List.getElem_of_mem hf
    have h2 : as[i]? = some as[i] := List.getElem?_eq_getElem (by omega)
    rw [byN_some hn (by rw [List.getElem?_eq_getElem hi, e]) h2, decide_eq_true h]
    rfl
  · rw [byN_none h, decide_eq_false h]
    rfl
section
variable {K : PySem.W.Frag} {mg : Str → Option Value} (k : Ks K mg)
abbrev Fils (H : Hp) (as : List Addr) (fs : List Fd) : Prop := Each (fun a f => FilA k H a f.nm f.T f.ims f.own) as fs
/-- the sources: files by their names, what fields are known -/
def SrcA (H : Hp) (so B Kf : Addr) (as : List Addr) (fs : List Fd) : Prop := (∃ d, H so = some (.ins k.Sources.C d (nSources.zip [.ref B, .ref Kf]))) ∧ L2.Rd H B (.dK (byN fs as)) ∧ Fils k H as fs ∧ (fs.map Fd.nm).Nodup ∧ fs.length ≤ 100
variable {k}
theorem Fils.same {H H' : Hp} {as : List Addr} {fs : List Fd} (h : Fils k H as fs) (s : Same H H') : Fils k H' as fs := h.mono fun _ _ z => z.same s
theorem SrcA.same {H H' : Hp} {so B Kf : Addr} {as : List Addr} {fs : List Fd} (h : SrcA k H so B Kf as fs) (s : Same H H') : SrcA k H' so B Kf as fs := ⟨let ⟨d, e⟩ := h.1; ⟨d, s _ _ e⟩, rdSame h.2.1 s, Fils.same h.2.2.1 s, h.2.2.2⟩
end
theorem Each.get {α : Type} {P : Addr → α → Prop} : ∀ {as : List Addr} {xs : List α} {i : Nat} {x : α}, Each P as xs → xs[i]? = some x → ∃ a, as[i]? = some a ∧ P a x
  | [], [], _, _, _, h => by simp at h
  | a :: as, y :: xs, 0, x, z, h => by
    obtain rfl : y = x := by simpa using h
    exact ⟨a, rfl, z.1⟩
  | a :: as, y :: xs, i + 1, x, z, h => by
    rw [List.getElem?_cons_succ] at h ⊢
    exact Each.get z.2 h
  | [], _ :: _, _, _, z, _ => z.elim
  | _ :: _, [], _, _, z, _ => z.elim
theorem Each.at {α : Type} {P : Addr → α → Prop} : ∀ {as : List Addr} {xs : List α} {i : Nat} {a : Addr}, Each P as xs → as[i]? = some a → ∃ x, xs[i]? = some x ∧ P a x
  | [], [], _, _, _, h => by simp at h
  | a :: as, y :: xs, 0, b, z, h => by
    obtain rfl : a = b := by simpa using h
    exact ⟨y, rfl, z.1⟩
  | a :: as, y :: xs, i + 1, x, z, h => by
    rw [List.getElem?_cons_succ] at h ⊢
    exact Each.at z.2 h
  | [], _ :: _, _, _, z, _ => z.elim
  | _ :: _, [], _, _, z, _ => z.elim
section
variable {P : Program} {w : World} {K : PySem.W.Frag} {mg : Str → Option Value} {base : Heap}
def spSoI (k : Ks K mg) : Sp := fun vs H Q _ => ∃ (so dx L : Addr) (as : List Addr) (fs : List Fd) (H0 : Hp), vs = [.ref so, .ref L] ∧ H so = some (.ins k.Sources.C dx []) ∧ H L = some (.lst (refs as)) ∧ H0 so = none ∧ Same H0 H ∧ Fils k H0 as fs ∧ (fs.map Fd.nm).Nodup ∧ fs.length ≤ 100 ∧
  ∀ H' B Kf, Off so H H' → H B = none → H Kf = none → B ≠ Kf → H' Kf = some (.dT []) → H' B = some (.dK (byN fs as)) → SrcA k H' so B Kf as fs → Q .non H'
theorem ok_soI {f : Addr} {fd : FuncData} (F : Fun K "__init__" "Sources.__init__" m_Sources_init f fd) (T : Bl K mg) (k : Ks K mg) : FnOk P w K mg base CX0 1 f fd ["self", "files"] (spSoI k) := by
  refine F.ok scSo (fun vs H Q E h => ?_) (fun cdv A outer s H vs Q E hr h => ?_)
  · obtain ⟨_, _, _, _, _, _, rfl, _⟩ := h
    rfl
  · obtain ⟨so, dx, L, as, fs, H0, rfl, hso, hL, n0, s0, hF0, hn, hl, q⟩ := h
    have hF : Fils k H as fs := Fils.same hF0 s0
    refine ⟨_, (pss_cons (ps_fldZ (pv 0) (pe_dc (own := [("file", 2)]) (g := gName 2) (by rfl) scSo.nd (pi_list (pv 1)) (blkOk_by (own := [("file", 2)]) (N := ["self", "files", "file"]) (sc := defScope m_Sources_init) (by decide +kernel)) (fun _ _ _ _ _ => (pg_name (i := 2) scSo.nd rfl (Or.inl rfl))) (fun _ _ _ _ _ => pts_nil) (fun _ _ _ _ _ => (pe_fldK (K := K) rfl (pv 2) rfl)) (fun _ _ _ _ _ => (pv 2))) rfl)
      (pss_one (ps_fldZ (pv 0) pe_dnewT rfl))), ?_⟩
    have la := hF.len
    have hso : H so = some (.ins k.Sources.C dx (nSources.zip [])) := hso
    refine ⟨.ref L, rfl, L, rfl, ⟨_, SqL.of hL⟩, fun B nB => ?_⟩
    have BL : B ≠ L := fun z => by rw [z, hL] at nB; cases nB
    refine ⟨fun i m Hi => m = as.length - i ∧ i ≤ as.length ∧ Hi = upd H B (.dK (byN (fs.take i) (as.take i))), ⟨_, rfl, Nat.zero_le _, rfl⟩, ?_⟩
    rintro i m Hi ⟨rfl, hi, rfl⟩
    have sB : ∀ u, Same H (upd H B u) := fun u => same_new nB
    have hLi := sB (.dK (byN (fs.take i) (as.take i))) _ _ hL
    by_cases hlt : i < as.length
    · refine .inr ⟨⟨_, .ref as[i], SqL.of hLi, by simp [hlt]⟩, fun H' => H' = upd H B (.dK (byN (fs.take (i + 1)) (as.take (i + 1)))), fun H' e => ⟨as.length - (i + 1), by omega, rfl, hlt, e⟩, fun x H' y => ?_⟩
      obtain ⟨rfl, y⟩ := y
      have hx := y _ (SqL.of hLi)
      obtain rfl : x = .ref as[i] := by
        rw [List.getElem?_map, List.getElem?_eq_getElem hlt] at hx
        exact (Option.some.inj hx).symm
      obtain ⟨fi, hfi, hA⟩ := hF.at (List.getElem?_eq_getElem hlt)
      obtain ⟨d, l1, l2, l3, ds, ts, us, vs, g1, _⟩ := hA
      have g1 := sB (.dK (byN (fs.take i) (as.take i))) _ _ g1
      refine ⟨rfl, .ref as[i], rfl, _, _, _, _, _, rfl, g1, k.FileSource.cl, k.FileSource.nf.get ix_FileSource_name, lkZ ix_FileSource_name rfl, .ref as[i], rfl, _, .inr fi.nm, rfl, upd_same, ?_, ?_⟩
      · have := byN_len (fs.take i) (as.take i)
        rw [List.length_take] at this
        exact small1000 (by omega)
      · rw [upd_upd]
        have hfi2 := List.getElem?_eq_some_iff.mp hfi
        rw [putK_new _ (byN_none (fun z => ?_)), ← byN_snoc fi as[i] (by rw [List.length_take, List.length_take]; omega), List.take_add_one, List.take_add_one, hfi, List.getElem?_eq_getElem hlt]
        · rfl
        · obtain ⟨h1, h2⟩ := hfi2
          rw [← h2] at z
          obtain ⟨g, hg, e⟩ := List.mem_map.mp z
          obtain ⟨j, hj, e2⟩ := List.getElem_of_mem hg
          rw [List.length_take] at hj
          rw [List.getElem_take] at e2
          have := (List.getElem_inj (h₀ := by rw [List.length_map]; omega) (h₁ := by rw [List.length_map]; exact h1) hn (i := j) (j := i)).mp (by rw [List.getElem_map, List.getElem_map, e2, e])
          omega
    · have e : i = as.length := by omega
      subst e
      refine .inl ⟨⟨_, SqL.of hLi, by simp⟩, ?_⟩
      rw [List.take_length, la, List.take_length]
      have hso2 := sB (.dK (byN fs as)) _ _ hso
      refine ⟨.ref so, rfl, _, _, _, _, _, _, rfl, hso2, k.Sources.cl, k.Sources.nf.get ix_Sources_by_name, ix_Sources_by_name, Nat.le_of_ble_eq_true rfl, k.Sources.len, fun H1 o1 h1 => fun Kf nK => ?_⟩
      have s2 := same_new (o := .dT []) nK
      have h2 := s2 _ _ h1
      refine ⟨.ref so, rfl, _, _, _, _, _, _, rfl, h2, k.Sources.cl, k.Sources.nf.get ix_Sources_known_fields, ix_Sources_known_fields, Nat.le_of_ble_eq_true rfl, k.Sources.len, fun H3 o3 h3 => ?_⟩
      have Bs : B ≠ so := fun z => by rw [z, hso] at nB; cases nB
      have Ks0 : Kf ≠ so := fun z => by rw [z, h1] at nK; cases nK
      have o13 : Off so H H3 := fun a x na e => o3 a x na (s2 a x (o1 a x na (sB (.dK (byN fs as)) a x e)))
      have hB3 := o3 _ _ Bs (s2 _ _ (o1 _ _ Bs (upd_same (H := H) (a := B) (o := .dK (byN fs as)))))
      have hK3 := o3 _ _ Ks0 (upd_same (H := H1) (a := Kf) (o := .dT []))
      have BK : B ≠ Kf := fun z => by
        have := o1 _ _ Bs (upd_same (H := H) (a := B) (o := .dK (byN fs as)))
        rw [z, nK] at this
        cases this
      have nK0 : H Kf = none := by
        cases z : H Kf with
        | none => rfl
        | some y =>
          have := o1 _ _ Ks0 (sB (.dK (byN fs as)) _ _ z)
          rw [nK] at this
          cases this
      have hF3 : Fils k H3 as fs := Fils.same hF0 fun b o e => o13 b o (ne_of_none e n0) (s0 b o e)
      exact q H3 B Kf o13 nB nK0 BK hK3 hB3 ⟨⟨dx, h3⟩, .inl hB3, hF3, hn, hl⟩
/-- the imports that cannot be: known so far, all files -/
def badI (all : List Str) : List Str → List (Str × Nat) → List Nat
  | _, [] => []
  | kn, q :: r => (if q.1 ∈ kn ∨ q.1 ∉ all then [q.2] else []) ++ badI all (kn ++ [q.1]) r
def iN (ns : List Nat) : List V := ns.map fun n => V.int (n : Nat)
theorem badI_len (all : List Str) : ∀ (kn : List Str) (l : List (Str × Nat)), (badI all kn l).length ≤ l.length
  | _, [] => Nat.le_refl _
  | kn, q :: r => by
    have := badI_len all (kn ++ [q.1]) r
    unfold badI
    rw [List.length_append, List.length_cons]
    split <;> simp <;> omega
def spWI (k : Ks K mg) : Sp := fun vs H Q _ => ∃ (so B Kf a : Addr) (as : List Addr) (fs : List Fd) (f : Fd), vs = [.ref so, .ref a] ∧ SrcA k H so B Kf as fs ∧ FilA k H a f.nm f.T f.ims f.own ∧ f.ims.length ≤ 100 ∧ ∀ H' L, Same H H' → H' L = some (.lst (iN (badI (fs.map Fd.nm) [f.nm] f.ims))) → Q (.ref L) H'
theorem ok_wi {f : Addr} {fd : FuncData} (F : Fun K "wrong_imports" "wrong_imports" s_wrong_imports f fd) (T : Bl K mg) (k : Ks K mg) : FnOk P w K mg base CX0 1 f fd ["sources", "file"] (spWI k) := by
  refine F.ok scWI (fun vs H Q E h => ?_) (fun cdv A outer s H vs Q E hr h => ?_)
  · obtain ⟨_, _, _, _, _, _, _, rfl, _⟩ := h
    rfl
  · obtain ⟨so, B, Kf, a, as, fs, f, rfl, ⟨⟨d, hso⟩, hB, hF, hn, hl⟩, hA, hil, q⟩ := h
    obtain ⟨da, l1, l2, l3, ds, ts, us, vs, g1, g2, g3, _⟩ := hA
    refine ⟨_, (pss_cons (ps_par (i := 2) (j := 3) (by rfl) scWI.nd rfl rfl (by decide) rfl rfl (pa_cons (pe_lst pa_nil) (pa_cons (pe_lst (pa_cons (pe_fld (pv 1) rfl) pa_nil)) pa_nil)) (by rfl))
      (pss_cons (ps_for PassesOwn.never rfl (pi_list (pe_fld (pv 1) rfl)) (pg_tup rfl (pgs_cons (pg_name (i := 4) scWI.nd rfl (Or.inl rfl)) (pgs_cons (pg_name (i := 5) scWI.nd rfl (Or.inl rfl)) pgs_nil)))
        (pss_cons (ps_if (PW.pt (pw_or (pt_cmpR (r := rIn K false) op_in_seq (pv 4) (pv 3) (by rfl)) (pw_or1 (pt_cmp (pc_dnotin (u1 hr) (pv 4) (pe_fld (pv 0) rfl))))))
          (pss_one (ps_expr (pe_bm PySem.F.plainAttrs_list PySem.F.slot_list_append PySem.F.type_list_append mt_append (pv 2) (pa_cons (pv 5) pa_nil))))
          pss_nil)
        (pss_one (ps_expr (pe_bm PySem.F.plainAttrs_list PySem.F.slot_list_append PySem.F.type_list_append mt_append (pv 3) (pa_cons (pv 4) pa_nil))))))
      (pss_one (ps_ret (pv 2))))), ?_⟩
    refine ⟨by show 0 ≤ sizeLine; decide, fun L nL => ?_⟩
    have s1 := same_new (o := .lst []) nL
    have g1' := s1 _ _ g1
    refine ⟨.ref a, rfl, _, _, _, _, _, rfl, g1', k.FileSource.cl, k.FileSource.nf.get ix_FileSource_name, lkZ ix_FileSource_name rfl, by show 1 ≤ sizeLine; decide, fun M nM => ⟨_, _, rfl, ?_⟩⟩
    have s2 := same_new (o := .lst [.str f.nm]) nM
    have s12 := s1.trans s2
    have hL2 := s2 _ _ (upd_same (H := H) (a := L) (o := .lst []))
    have LM : L ≠ M := fun z => by rw [← z, upd_same] at nM; cases nM
    have nM0 : H M = none := by
      rw [upd_ne LM.symm] at nM
      exact nM
    have lt := g3.len
    have g1'' := s12 _ _ g1
    refine ⟨.ref a, rfl, _, _, _, _, _, rfl, g1'', k.FileSource.cl, k.FileSource.nf.get ix_FileSource_imports, lkZ ix_FileSource_imports rfl, l1, rfl, ⟨_, SqL.of (s12 _ _ g2)⟩, ?_⟩
    refine for_list (K := K) (a := l1) (xs := refs ts) (fun i σ Hi => ∃ (y4 y5 : Option V) (done rest : List (Str × Nat)) (bad : List Nat), σ = [some (.ref so), some (.ref a), some (.ref L), some (.ref M), y4, y5] ∧ done ++ rest = f.ims ∧ done.length = i ∧ Same H Hi ∧ Hi L = some (.lst (iN bad)) ∧ Hi M = some (.lst (([f.nm] ++ done.map (·.1)).map V.str)) ∧ bad.length ≤ i ∧ bad ++ badI (fs.map Fd.nm) ([f.nm] ++ done.map (·.1)) rest = badI (fs.map Fd.nm) [f.nm] f.ims)
      ⟨none, none, [], f.ims, [], rfl, rfl, rfl, s12, hL2, upd_same, Nat.le_refl _, rfl⟩ (fun i σ Hi _ hP => by obtain ⟨_, _, _, _, _, _, _, _, sm, _⟩ := hP; exact SqL.of (sm _ _ g2)) (fun i x σ Hi hx hP => ?_) (fun σ Hi hP => ?_)
    · obtain ⟨y4, y5, done, rest, bad, rfl, hd, hi, sm, hL, hM, hbl, hbd⟩ := hP
      obtain ⟨t, rfl⟩ : ∃ t, x = .ref t := by
        rw [List.getElem?_map] at hx
        obtain ⟨t, _, e⟩ := Option.map_eq_some_iff.mp hx
        exact ⟨t, e.symm⟩
      have ht : ts[i]? = some t := by
        rw [List.getElem?_map] at hx
        obtain ⟨t', h1, e⟩ := Option.map_eq_some_iff.mp hx
        cases e
        exact h1
      obtain ⟨y, hy, hty⟩ := g3.at ht
      have hrest : rest = y :: rest.tail := by
        have : f.ims[i]? = rest[0]? := by rw [← hd, List.getElem?_append_right (by omega), hi, Nat.sub_self]
        rw [hy] at this
        cases rest with
        | nil => simp at this
        | cons r0 r =>
          obtain rfl : y = r0 := by simpa using this
          rfl
      have hil2 : i < f.ims.length := (List.getElem?_eq_some_iff.mp hy).1
      refine ⟨t, _, rfl, SqT.of (sm _ _ hty), rfl, _, _, rfl, _, _, rfl, rfl, .str y.1, rfl, .ref M, rfl, M, _, rfl, .inl (SqL.of hM), rfl, flatS _, _, rfl, ?_⟩
      rw [inS]
      have hso2 := sm _ _ hso
      have hB2 := rdSame hB sm
      have sz1 : (iN bad).length < sizeLine := by unfold iN; rw [List.length_map]; exact small1000 (by omega)
      have szM : ((([f.nm] ++ done.map (·.1)).map V.str)).length < sizeLine := by
        rw [List.length_map, List.length_append, List.length_map]
        exact small1000 (by simp only [List.length_singleton]; omega)
      have bstep : badI (fs.map Fd.nm) ([f.nm] ++ done.map (·.1)) rest = (if y.1 ∈ ([f.nm] ++ done.map (·.1)) ∨ y.1 ∉ fs.map Fd.nm then [y.2] else []) ++ badI (fs.map Fd.nm) ([f.nm] ++ (done ++ [y]).map (·.1)) rest.tail := by
        rw [hrest]
        show (if _ then _ else _) ++ badI _ _ _ = _
        rw [List.tail_cons, List.map_append, ← List.append_assoc]
        rfl
      have dn2 : (done ++ [y]) ++ rest.tail = f.ims := by
        rw [← hd]
        conv => rhs; rw [hrest]
        simp
      have snocM : ([f.nm] ++ done.map (·.1)).map V.str ++ [.str y.1] = ([f.nm] ++ (done ++ [y]).map (·.1)).map V.str := by simp
      have bady : y.1 ∈ ([f.nm] ++ done.map (·.1)) ∨ y.1 ∉ fs.map Fd.nm → iN bad ++ [.int (y.2 : Nat)] = iN (bad ++ [y.2]) ∧ (bad ++ [y.2]) ++ badI (fs.map Fd.nm) ([f.nm] ++ (done ++ [y]).map (·.1)) rest.tail = badI (fs.map Fd.nm) [f.nm] f.ims := fun c => by
        refine ⟨by unfold iN; simp, ?_⟩
        rw [bstep, if_pos c] at hbd
        rw [List.append_assoc]
        exact hbd
      have putB : (c : y.1 ∈ ([f.nm] ++ done.map (·.1)) ∨ y.1 ∉ fs.map Fd.nm) → Same H (upd Hi L (.lst (iN bad ++ [.int (y.2 : Nat)]))) ∧ (upd Hi L (.lst (iN bad ++ [.int (y.2 : Nat)]))) M = some (.lst (([f.nm] ++ done.map (·.1)).map V.str)) ∧ (upd Hi L (.lst (iN bad ++ [.int (y.2 : Nat)]))) L = some (.lst (iN bad ++ [.int (y.2 : Nat)])) := fun _ => ⟨same_put sm nL, by rw [upd_ne LM.symm]; exact hM, upd_same⟩
      by_cases c1 : y.1 ∈ ([f.nm] ++ done.map (·.1))
      · rw [decide_eq_true c1]
        obtain ⟨e1, e2⟩ := bady (.inl c1)
        obtain ⟨p1, p2, p3⟩ := putB (.inl c1)
        refine iteT (iteT ⟨.ref L, rfl, .inl ⟨rfl, _, SqL.of hL⟩, .int (y.2 : Nat), rfl, L, iN bad, _, rfl, rfl, hL, sz1, .ref M, rfl, .inl ⟨rfl, _, SqL.of p2⟩, .str y.1, rfl, M, _, _, rfl, rfl, p2, szM, ?_⟩)
        refine ⟨_, _, done ++ [y], rest.tail, bad ++ [y.2], rfl, dn2, by simp [hi], same_put p1 nM0, ?_, ?_, by simp; omega, e2⟩
        · rw [upd_ne LM, p3, e1]
        · rw [upd_same, snocM]
      · rw [decide_eq_false c1]
        refine iteF ⟨.str y.1, rfl, .ref so, rfl, _, _, _, _, _, rfl, hso2, k.Sources.cl, k.Sources.nf.get ix_Sources_by_name, lkZ ix_Sources_by_name rfl, B, _, rfl, DGet.kR (k := Sum.inr y.1) hB2, _, rfl, ?_⟩
        rw [byN_has hF.len hn]
        by_cases c2 : y.1 ∈ fs.map Fd.nm
        · rw [decide_eq_true c2]
          refine iteF ⟨.ref M, rfl, .inl ⟨rfl, _, SqL.of hM⟩, .str y.1, rfl, M, _, _, rfl, rfl, hM, szM, ?_⟩
          refine ⟨_, _, done ++ [y], rest.tail, bad, rfl, dn2, by simp [hi], same_put sm nM0, ?_, ?_, by omega, ?_⟩
          · rw [upd_ne LM]
            exact hL
          · rw [upd_same, snocM]
          · rw [bstep, if_neg (fun z => z.elim c1 fun z => z c2), List.nil_append] at hbd
            exact hbd
        · rw [decide_eq_false c2]
          obtain ⟨e1, e2⟩ := bady (.inr c2)
          obtain ⟨p1, p2, p3⟩ := putB (.inr c2)
          refine iteT ⟨.ref L, rfl, .inl ⟨rfl, _, SqL.of hL⟩, .int (y.2 : Nat), rfl, L, iN bad, _, rfl, rfl, hL, sz1, .ref M, rfl, .inl ⟨rfl, _, SqL.of p2⟩, .str y.1, rfl, M, _, _, rfl, rfl, p2, szM, ?_⟩
          refine ⟨_, _, done ++ [y], rest.tail, bad ++ [y.2], rfl, dn2, by simp [hi], same_put p1 nM0, ?_, ?_, by simp; omega, e2⟩
          · rw [upd_ne LM, p3, e1]
          · rw [upd_same, snocM]
    · obtain ⟨y4, y5, done, rest, bad, rfl, hd, hi, sm, hL, hM, hbl, hbd⟩ := hP
      have : rest = [] := by
        have h1 := congrArg List.length hd
        rw [List.length_append] at h1
        rw [List.length_map] at hi
        exact List.length_eq_zero_iff.mp (by omega)
      subst this
      refine ⟨.ref L, rfl, q Hi L sm ?_⟩
      rw [← hbd]
      unfold badI
      rw [List.append_nil]
      exact hL
end
end M05

set_option Elab.async false
set_option linter.all false
set_option maxRecDepth 100000
set_option maxHeartbeats 4000000
/-! repeated; own_names -/
namespace M05
open PySem PySem.Spec PyProof.Rows L2 GL
/-- where a name stands again -/
def rep : List Str → List (Str × Nat) → List Nat
  | _, [] => []
  | kn, q :: r => (if q.1 ∈ kn then [q.2] else []) ++ rep (kn ++ [q.1]) r
abbrev Prs (H : Hp) (ts : List Addr) (qs : List (Str × Nat)) : Prop := Each (fun t q => H t = some (.tup [.str q.1, .int (q.2 : Nat)])) ts qs
theorem Prs.same {H H' : Hp} {ts : List Addr} {qs : List (Str × Nat)} (h : Prs H ts qs) (s : Same H H') : Prs H' ts qs := h.mono fun _ _ z => s _ _ z
section
variable {P : Program} {w : World} {K : PySem.W.Frag} {mg : Str → Option Value} {base : Heap}
def spRp : Sp := fun vs H Q _ => ∃ (l : Addr) (ts : List Addr) (qs : List (Str × Nat)), vs = [.ref l] ∧ H l = some (.lst (refs ts)) ∧ Prs H ts qs ∧ qs.length ≤ 1000 ∧ ∀ H' L, Same H H' → H L = none → H' L = some (.lst (iN (rep [] qs))) → Q (.ref L) H'
theorem ok_rp {f : Addr} {fd : FuncData} (F : Fun K "repeated" "repeated" s_repeated f fd) (T : Bl K mg) : FnOk P w K mg base CX0 1 f fd ["pairs"] spRp := by
  refine F.ok scRp (fun vs H Q E h => ?_) (fun cdv A outer s H vs Q E hr h => ?_)
  · obtain ⟨_, _, _, rfl, _⟩ := h
    rfl
  · obtain ⟨l, ts, qs, rfl, hl, hP, hz, q⟩ := h
    refine ⟨_, (pss_cons (ps_par (i := 1) (j := 2) (by rfl) scRp.nd rfl rfl (by decide) rfl rfl (pa_cons (pe_lst pa_nil) (pa_cons pe_dnewK pa_nil)) (by rfl))
      (pss_cons (ps_for PassesOwn.never rfl (pi_list (pv 0)) (pg_tup rfl (pgs_cons (pg_name (i := 3) scRp.nd rfl (Or.inl rfl)) (pgs_cons (pg_name (i := 4) scRp.nd rfl (Or.inl rfl)) pgs_nil)))
        (pss_cons (ps_if (pt_cmp (pc_din (u1 hr) (pv 3) (pv 2)))
          (pss_one (ps_expr (pe_bm PySem.F.plainAttrs_list PySem.F.slot_list_append PySem.F.type_list_append mt_append (pv 1) (pa_cons (pv 4) pa_nil))))
          pss_nil)
        (pss_one (ps_dput (u1 hr) (pv 2) (pv 3) pe_bl rfl))))
      (pss_one (ps_ret (pv 1))))), ?_⟩
    refine ⟨by show 0 ≤ sizeLine; decide, fun L nL => fun M nM => ⟨_, _, rfl, ?_⟩⟩
    have s1 := same_new (o := .lst []) nL
    have s2 := same_new (o := .dK []) nM
    have s12 := s1.trans s2
    have hL2 := s2 _ _ (upd_same (H := H) (a := L) (o := .lst []))
    have LM : L ≠ M := fun z => by rw [← z, upd_same] at nM; cases nM
    have nM0 : H M = none := by
      rw [upd_ne LM.symm] at nM
      exact nM
    have lt := hP.len
    refine ⟨.ref l, rfl, l, rfl, ⟨_, SqL.of (s12 _ _ hl)⟩, ?_⟩
    refine for_list (K := K) (a := l) (xs := refs ts) (fun i σ Hi => ∃ (y3 y4 : Option V) (done rest : List (Str × Nat)) (bad : List Nat) (kvs : List (Key × V)), σ = [some (.ref l), some (.ref L), some (.ref M), y3, y4] ∧ done ++ rest = qs ∧ done.length = i ∧ Same H Hi ∧ Hi L = some (.lst (iN bad)) ∧ Hi M = some (.dK kvs) ∧ (∀ z : Str, (valV kvs (.inr z)).isSome = decide (z ∈ done.map (·.1))) ∧ kvs.length ≤ i ∧ bad.length ≤ i ∧ bad ++ rep (done.map (·.1)) rest = rep [] qs)
      ⟨none, none, [], qs, [], [], rfl, rfl, rfl, s12, hL2, upd_same, fun _ => rfl, Nat.le_refl _, Nat.le_refl _, rfl⟩ (fun i σ Hi _ hP => by obtain ⟨_, _, _, _, _, _, _, _, _, sm, _⟩ := hP; exact SqL.of (sm _ _ hl)) (fun i x σ Hi hx hP' => ?_) (fun σ Hi hP' => ?_)
    · obtain ⟨y3, y4, done, rest, bad, kvs, rfl, hd, hi, sm, hL, hM, hk, hkl, hbl, hbd⟩ := hP'
      obtain ⟨t, rfl, ht⟩ : ∃ t, x = .ref t ∧ ts[i]? = some t := by
        rw [List.getElem?_map] at hx
        obtain ⟨t, h1, e⟩ := Option.map_eq_some_iff.mp hx
        exact ⟨t, e.symm, h1⟩
      obtain ⟨y, hy, hty⟩ := hP.at ht
      have hrest : rest = y :: rest.tail := by
        have : qs[i]? = rest[0]? := by rw [← hd, List.getElem?_append_right (by omega), hi, Nat.sub_self]
        rw [hy] at this
        cases rest with
        | nil => simp at this
        | cons r0 r =>
          obtain rfl : y = r0 := by simpa using this
          rfl
      have hil2 : i < qs.length := (List.getElem?_eq_some_iff.mp hy).1
      have sz1 : (iN bad).length < sizeLine := by unfold iN; rw [List.length_map]; exact small1000 (by omega)
      have dn2 : (done ++ [y]) ++ rest.tail = qs := by
        rw [← hd]
        conv => rhs; rw [hrest]
        simp
      have bstep : rep (done.map (·.1)) rest = (if y.1 ∈ done.map (·.1) then [y.2] else []) ++ rep ((done ++ [y]).map (·.1)) rest.tail := by
        rw [hrest]
        show (if _ then _ else _) ++ rep _ _ = _
        rw [List.tail_cons, List.map_append]
        rfl
      have hk2 : ∀ z : Str, (valV (putK kvs (.inr y.1) (.bl true)) (.inr z)).isSome = decide (z ∈ (done ++ [y]).map (·.1)) := fun z => by
        rw [valV_put]
        by_cases e : (Sum.inr z : Key) = .inr y.1
        · rw [if_pos e]
          have e : z = y.1 := Sum.inr.inj e
          subst e
          simp
        · rw [if_neg e, hk z]
          have e : z ≠ y.1 := fun w => e (congrArg Sum.inr w)
          simp [e]
      have hkl2 := length_putK kvs (.inr y.1 : Key) (.bl true)
      refine ⟨t, _, rfl, SqT.of (sm _ _ hty), rfl, _, _, rfl, _, _, rfl, rfl, .str y.1, rfl, .ref M, rfl, M, _, rfl, DGet.k (k := Sum.inr y.1) hM, _, rfl, ?_⟩
      rw [hk]
      by_cases c : y.1 ∈ done.map (·.1)
      · rw [decide_eq_true c]
        have hM3 : (upd Hi L (.lst (iN bad ++ [.int (y.2 : Nat)]))) M = some (.dK kvs) := by rw [upd_ne LM.symm]; exact hM
        refine iteT ⟨.ref L, rfl, .inl ⟨rfl, _, SqL.of hL⟩, .int (y.2 : Nat), rfl, L, iN bad, _, rfl, rfl, hL, sz1, .ref M, rfl, .str y.1, rfl, M, _, rfl, DPut.k (k := Sum.inr y.1) hM3 (small1000 (by omega)), ?_⟩
        refine ⟨_, _, done ++ [y], rest.tail, bad ++ [y.2], _, rfl, dn2, by simp [hi], same_put (same_put sm nL) nM0, ?_, upd_same, hk2, by omega, by simp; omega, ?_⟩
        · rw [upd_ne LM, upd_same]
          unfold iN
          simp
        · rw [bstep, if_pos c] at hbd
          rw [List.append_assoc]
          exact hbd
      · rw [decide_eq_false c]
        refine iteF ⟨.ref M, rfl, .str y.1, rfl, M, _, rfl, DPut.k (k := Sum.inr y.1) hM (small1000 (by omega)), ?_⟩
        refine ⟨_, _, done ++ [y], rest.tail, bad, _, rfl, dn2, by simp [hi], same_put sm nM0, ?_, upd_same, hk2, by omega, by omega, ?_⟩
        · rw [upd_ne LM]
          exact hL
        · rw [bstep, if_neg c, List.nil_append] at hbd
          exact hbd
    · obtain ⟨y3, y4, done, rest, bad, kvs, rfl, hd, hi, sm, hL, hM, hk, hkl, hbl, hbd⟩ := hP'
      have : rest = [] := by
        have h1 := congrArg List.length hd
        rw [List.length_append] at h1
        rw [List.length_map] at hi
        exact List.length_eq_zero_iff.mp (by omega)
      subst this
      refine ⟨.ref L, rfl, q Hi L sm nL ?_⟩
      rw [← hbd]
      unfold rep
      rw [List.append_nil]
      exact hL
end
end M05

set_option Elab.async false
set_option linter.all false
set_option maxRecDepth 100000
set_option maxHeartbeats 4000000
/-! own_names: sorted by where they stand is the file's own sequence -/
namespace M05
open PySem PySem.Spec PyProof.Rows L2 GL
theorem scON : FnScope ["file", "found", "template", "source", "start", "name"] ["file"] (defScope s_own_names) := ⟨rfl, rfl, rfl, by decide +kernel, rfl, by decide +kernel, by decide +kernel⟩
/-! ### plain lists -/
theorem asc_eq : ∀ {l m : List (Str × Nat)}, l.Perm m → l.Pairwise (fun a b => a.2 < b.2) → m.Pairwise (fun a b => a.2 < b.2) → l = m
  | [], m, p, _, _ => (List.nil_perm.mp p).symm
  | x :: l, [], p, _, _ => absurd p.length_eq (by simp)
  | x :: l, y :: m, p, h1, h2 => by
    rw [List.pairwise_cons] at h1 h2
    have hx : x ∈ y :: m := p.subset List.mem_cons_self
    have hy : y ∈ x :: l := p.symm.subset List.mem_cons_self
    have e : x = y := by
      rcases List.mem_cons.mp hx with e | e
      · exact e
      · rcases List.mem_cons.mp hy with e2 | e2
        · exact e2.symm
        · have a := h2.1 _ e
          have b := h1.1 _ e2
          omega
    subst e
    rw [asc_eq (List.perm_cons x |>.mp p) h1.2 h2.2]
theorem split_perm : ∀ l : List (Bool × Str × Nat), (tems l ++ lsts l).Perm (l.map (·.2))
  | [] => List.Perm.refl _
  | (true, q) :: l => by
    have ih := split_perm l
    have e1 : tems ((true, q) :: l) = tems l := rfl
    have e2 : lsts ((true, q) :: l) = q :: lsts l := rfl
    rw [e1, e2]
    exact List.perm_middle.trans (ih.cons q)
  | (false, q) :: l => by
    have ih := split_perm l
    have e1 : tems ((false, q) :: l) = q :: tems l := rfl
    have e2 : lsts ((false, q) :: l) = lsts l := rfl
    rw [e1, e2]
    exact ih.cons q
/-- the pairs, where they stand first -/
abbrev Prq (H : Hp) (ts : List Addr) (qs : List (Str × Nat)) : Prop := Each (fun t q => H t = some (.tup [.int (q.2 : Nat), .str q.1])) ts qs
theorem Prq.same {H H' : Hp} {ts : List Addr} {qs : List (Str × Nat)} (h : Prq H ts qs) (s : Same H H') : Prq H' ts qs := h.mono fun _ _ z => s _ _ z
theorem Prq.put {H : Hp} {D : Addr} {xs : List V} {u : HO} {ts : List Addr} {qs : List (Str × Nat)} (h : Prq H ts qs) (hD : H D = some (.lst xs)) : Prq (upd H D u) ts qs := h.mono fun t _ z => by rw [upd_ne (ne_of z hD (by intro w; cases w))]; exact z
theorem Prs.put {H : Hp} {D : Addr} {xs : List V} {u : HO} {ts : List Addr} {qs : List (Str × Nat)} (h : Prs H ts qs) (hD : H D = some (.lst xs)) : Prs (upd H D u) ts qs := h.mono fun t _ z => by rw [upd_ne (ne_of z hD (by intro w; cases w))]; exact z
theorem Each.app {α : Type} {P : Addr → α → Prop} : ∀ {as bs : List Addr} {xs ys : List α}, Each P as xs → Each P bs ys → Each P (as ++ bs) (xs ++ ys)
  | [], _, [], _, _, h => h
  | _ :: _, _, _ :: _, _, z, h => ⟨z.1, Each.app z.2 h⟩
  | [], _, _ :: _, _, z, _ => z.elim
  | _ :: _, _, [], _, z, _ => z.elim
theorem Each.mem {α : Type} {P : Addr → α → Prop} : ∀ {as : List Addr} {xs : List α} {a : Addr}, Each P as xs → a ∈ as → ∃ x ∈ xs, P a x
  | _ :: _, _ :: _, _, z, h => (List.mem_cons.mp h).elim (fun e => ⟨_, List.mem_cons_self, e ▸ z.1⟩) fun e => let ⟨x, h1, h2⟩ := Each.mem z.2 e; ⟨x, List.mem_cons_of_mem _ h1, h2⟩
  | [], [], _, _, h => by cases h
  | [], _ :: _, _, z, _ => z.elim
  | _ :: _, [], _, z, _ => z.elim
/-- what a pair at an address is -/
def datA (H : Hp) (a : Addr) : Str × Nat := match H a with
  | some (.tup [.int p, .str x]) => (x, p.toNat)
  | _ => ("", 0)
theorem datA_of {H : Hp} {a : Addr} {q : Str × Nat} (h : H a = some (.tup [.int (q.2 : Nat), .str q.1])) : datA H a = q := by
  unfold datA
  rw [h]
  rfl
def dtP (H : Hp) (a : Addr) : PyData := .tuple [.int ((datA H a).2 : Nat), .str (datA H a).1]
theorem Prq.map {H : Hp} : ∀ {ts : List Addr} {qs : List (Str × Nat)}, Prq H ts qs → ts.map (datA H) = qs
  | [], [], _ => rfl
  | t :: ts, q :: qs, z => by rw [List.map_cons, datA_of z.1, Prq.map z.2]
  | [], _ :: _, z => z.elim
  | _ :: _, [], z => z.elim
theorem Prq.of_map {H : Hp} : ∀ {ts : List Addr}, (∀ t ∈ ts, ∃ q : Str × Nat, H t = some (.tup [.int (q.2 : Nat), .str q.1])) → Prq H ts (ts.map (datA H))
  | [], _ => trivial
  | t :: ts, h => by
    obtain ⟨q, hq⟩ := h t List.mem_cons_self
    refine ⟨?_, Prq.of_map fun s hs => h s (List.mem_cons_of_mem _ hs)⟩
    rw [datA_of hq]
    exact hq
theorem good_prq {K : PySem.W.Frag} {H : Hp} {ts : List Addr} {qs : List (Str × Nat)} (h : Prq H ts qs) : GoodD K H (dtP H) ts := by
  have at_ : ∀ a ∈ ts, ∃ q : Str × Nat, H a = some (.tup [.int (q.2 : Nat), .str q.1]) ∧ dtP H a = .tuple [.int (q.2 : Nat), .str q.1] := fun a ha => by
    obtain ⟨q, _, e⟩ := h.mem ha
    refine ⟨q, e, ?_⟩
    unfold dtP
    rw [datA_of e]
  refine ⟨fun a ha => ?_, fun a ha => ?_, fun a ha => ?_, .inr fun a ha => ?_, fun a ha b hb => ?_⟩
  · obtain ⟨q, e, d⟩ := at_ a ha
    rw [d]
    exact .tup (SqT.of e) (.cons (.int _) (.cons (.str _) .nil))
  · obtain ⟨q, e, d⟩ := at_ a ha
    rw [d]
    rfl
  · obtain ⟨q, e, d⟩ := at_ a ha
    rw [d]
    show 1 ≤ 60
    decide
  · exact ⟨_, _, rfl⟩
  · show akins _ _ = true
    rw [akins]
    split
    · rw [akins]
      split
      · rfl
      · rfl
    · rfl
open PySem.SeqAt PySem.W in
theorem lt_prq {H : Hp} {a b : Addr} (h : (datA H a).2 < (datA H b).2) : ltA (dtP H) a b = true := by
  unfold ltA dtP
  simp only [keyToks]
  have e : PyData.eqv (.int ((datA H a).2 : Nat)) (.int ((datA H b).2 : Nat)) = false := by
    show decide (((datA H a).2 : Int) = ((datA H b).2 : Int)) = false
    exact decide_eq_false (by omega)
  rw [lx_no rfl rfl rfl e, dataLt_int]
  exact decide_eq_true (by omega)
theorem sorted_own {H : Hp} {ts ys : List Addr} {own : List (Bool × Str × Nat)} (h : Prq H ts (tems own ++ lsts own)) (ho : (own.map (·.2)).Pairwise fun a b => a.2 < b.2) (hs : SrtO.Srtd (ltA (dtP H)) ys) (hp : ys.Perm ts) : Prq H ys (own.map (·.2)) := by
  have hm : ∀ t ∈ ys, ∃ q : Str × Nat, H t = some (.tup [.int (q.2 : Nat), .str q.1]) := fun t ht => by
    obtain ⟨q, _, e⟩ := h.mem (hp.subset ht)
    exact ⟨q, e⟩
  have p1 : (ys.map (datA H)).Perm (own.map (·.2)) := by
    have := hp.map (datA H)
    rw [Prq.map h] at this
    exact this.trans (split_perm own)
  have nd : ((ys.map (datA H)).map (·.2)).Nodup := by
    refine (p1.map (·.2)).nodup_iff.mpr ?_
    rw [List.Nodup, List.pairwise_map]
    exact ho.imp fun {a b} h => Nat.ne_of_lt h
  have le : (ys.map (datA H)).Pairwise fun a b => a.2 ≤ b.2 := by
    rw [List.pairwise_map]
    refine List.Pairwise.imp (fun {a b} z => ?_) hs
    rcases Nat.lt_or_ge (datA H b).2 (datA H a).2 with w | w
    · rw [lt_prq w] at z
      cases z
    · exact w
  have lt : (ys.map (datA H)).Pairwise fun a b => a.2 < b.2 := by
    rw [List.Nodup, List.pairwise_map] at nd
    exact (le.and nd).imp fun {a b} z => Nat.lt_of_le_of_ne z.1 z.2
  rw [← asc_eq p1 lt ho]
  exact Prq.of_map hm
section
variable {P : Program} {w : World} {K : PySem.W.Frag} {mg : Str → Option Value} {base : Heap}
def spON (k : Ks K mg) : Sp := fun vs H Q _ => ∃ (a : Addr) (f : Fd), vs = [.ref a] ∧ FilA k H a f.nm f.T f.ims f.own ∧ (f.own.map (·.2)).Pairwise (fun a b => a.2 < b.2) ∧ f.own.length ≤ 100 ∧
  ∀ H' L ts, Same H H' → H L = none → H' L = some (.lst (refs ts)) → Prs H' ts (f.own.map (·.2)) → Q (.ref L) H'
theorem ok_on {f : Addr} {fd : FuncData} (F : Fun K "own_names" "own_names" s_own_names f fd) (T : Bl K mg) (k : Ks K mg) : FnOk P w K mg base CX0 1 f fd ["file"] (spON k) := by
  refine F.ok scON (fun vs H Q E h => ?_) (fun cdv A outer s H vs Q E hr h => ?_)
  · obtain ⟨_, _, rfl, _⟩ := h
    rfl
  · obtain ⟨a, f, rfl, hA, hasc, hlen, q⟩ := h
    obtain ⟨da, l1, l2, l3, ds, ts, us, vs, g1, g2, g3, g4, g5, g6, g7⟩ := hA
    have lu := g5.len
    have lv := g7.len
    have ft : (tems f.own).length ≤ f.own.length := List.length_filterMap_le _ _
    have fl : (lsts f.own).length ≤ f.own.length := List.length_filterMap_le _ _
    refine ⟨_, (pss_cons (ps_setLc (i := 1) (own := [("template", 2)]) (g := gName 2) (by rfl) scON.nd rfl rfl (sw_true rfl rfl rfl (by decide +kernel)) (pi_list (pe_fld (pv 0) rfl)) (blkOk_by (own := [("template", 2)]) (N := ["file", "found", "template", "source", "start", "name"]) (sc := defScope s_own_names) (by decide +kernel)) (fun _ _ _ _ _ => (pg_name (i := 2) scON.nd rfl (Or.inl rfl))) (fun _ _ _ _ _ => pts_nil) (fun _ _ _ _ _ => (pe_tup (pa_cons (pe_fldK (K := K) rfl (pv 2) rfl) (pa_cons (pe_fldK (K := K) rfl (pv 2) rfl) pa_nil)))))
      (pss_cons (ps_aug (i := 1) scON.nd rfl (Or.inl rfl) (pe_lc (own := [("source", 3)]) (g := gName 3) (by rfl) scON.nd (pi_list (pe_fld (pv 0) rfl)) (blkOk_by (own := [("source", 3)]) (N := ["file", "found", "template", "source", "start", "name"]) (sc := defScope s_own_names) (by decide +kernel)) (fun _ _ _ _ _ => (pg_name (i := 3) scON.nd rfl (Or.inl rfl))) (fun _ _ _ _ _ => pts_nil) (fun _ _ _ _ _ => (pe_tup (pa_cons (pe_fldK (K := K) rfl (pv 3) rfl) (pa_cons (pe_fldK (K := K) rfl (pv 3) rfl) pa_nil))))) pip_ext)
      (pss_one (ps_ret (pe_lc (own := [("start", 4), ("name", 5)]) (g := gTup K 2 (gCons (gName 4) (gCons (gName 5) gNil))) (by rfl) scON.nd (pi_list (pe_callB (cr_sortD hr.units) (by rfl) T.sorted (by decide +kernel) (pa_cons (pv 1) pa_nil))) (blkOk_by (own := [("start", 4), ("name", 5)]) (N := ["file", "found", "template", "source", "start", "name"]) (sc := defScope s_own_names) (by decide +kernel)) (fun _ _ _ _ _ => (pg_tup rfl (pgs_cons (pg_name (i := 4) scON.nd rfl (Or.inl rfl)) (pgs_cons (pg_name (i := 5) scON.nd rfl (Or.inl rfl)) pgs_nil)))) (fun _ _ _ _ _ => pts_nil) (fun _ _ _ _ _ => (pe_tup (pa_cons (pv 5) (pa_cons (pv 4) pa_nil))))))))), ?_⟩
    refine ⟨.ref a, rfl, _, _, _, _, _, rfl, g1, k.FileSource.cl, k.FileSource.nf.get ix_FileSource_templates, lkZ ix_FileSource_templates rfl, l2, rfl, ⟨_, SqL.of g4⟩, fun D nD => ?_⟩
    refine lc_list (K := K) (a := l2) (xs := refs us) (fun i Hi => ∃ tt, Same H Hi ∧ Hi D = some (.lst (refs tt)) ∧ Prq Hi tt ((tems f.own).take i)) ⟨[], same_new nD, upd_same, trivial⟩ (fun i Hi _ hP => SqL.of (hP.choose_spec.1 _ _ g4)) (fun i x Hi hx hP => ?_) (fun Hi hP => ?_)
    · obtain ⟨tt, sm, hD, hq⟩ := hP
      obtain ⟨u, rfl, hu⟩ : ∃ u, x = .ref u ∧ us[i]? = some u := by
        rw [List.getElem?_map] at hx
        obtain ⟨t, h1, e⟩ := Option.map_eq_some_iff.mp hx
        exact ⟨t, e.symm, h1⟩
      obtain ⟨y, hy, dd, bb, hT, _⟩ := g5.at hu
      have hT := sm _ _ hT
      have hi : i < us.length := (List.getElem?_eq_some_iff.mp hu).1
      refine ⟨rfl, .ref u, rfl, _, _, _, _, _, rfl, hT, k.Template.cl, k.Template.nf.get ix_Template_name_start, lkZ ix_Template_name_start rfl, .ref u, rfl, _, _, _, _, _, rfl, hT, k.Template.cl, k.Template.nf.get ix_Template_name, lkZ ix_Template_name rfl, by show 2 ≤ sizeLine; decide, fun t nt => ?_⟩
      have s1 := same_new (o := .tup [.int (y.2 : Nat), .str y.1]) nt
      have hD1 := s1 _ _ hD
      have tl := hq.len
      rw [List.length_take] at tl
      refine ⟨refs tt, hD1, by rw [List.length_map]; exact small1000 (by omega), tt ++ [t], same_put (sm.trans s1) nD, by rw [upd_same]; simp [refs], ?_⟩
      rw [List.take_add_one, hy]
      exact Prq.put (Each.app (hq.same s1) ⟨upd_same, trivial⟩) hD1
    · obtain ⟨tt, sm, hD, hq⟩ := hP
      have e1 : (refs us).length = (tems f.own).length := by rw [List.length_map, lu]
      rw [e1, List.take_length] at hq
      have ha := sm _ _ g1
      refine ⟨.ref D, rfl, .ref a, rfl, _, _, _, _, _, rfl, ha, k.FileSource.cl, k.FileSource.nf.get ix_FileSource_list_sources, lkZ ix_FileSource_list_sources rfl, l3, rfl, ⟨_, SqL.of (sm _ _ g6)⟩, fun D2 nD2 => ?_⟩
      have DD : D ≠ D2 := fun z => by rw [← z, hD] at nD2; cases nD2
      refine lc_list (K := K) (a := l3) (xs := refs vs) (fun i Hj => ∃ t2, Same Hi Hj ∧ Hj D2 = some (.lst (refs t2)) ∧ Prq Hj t2 ((lsts f.own).take i)) ⟨[], same_new nD2, upd_same, trivial⟩ (fun i Hj _ hP => SqL.of (hP.choose_spec.1 _ _ (sm _ _ g6))) (fun i x Hj hx hP => ?_) (fun Hj hP => ?_)
      · obtain ⟨t2, sm2, hD2, hq2⟩ := hP
        obtain ⟨u, rfl, hu⟩ : ∃ u, x = .ref u ∧ vs[i]? = some u := by
          rw [List.getElem?_map] at hx
          obtain ⟨t, h1, e⟩ := Option.map_eq_some_iff.mp hx
          exact ⟨t, e.symm, h1⟩
        obtain ⟨y, hy, hLs⟩ := g7.at hu
        obtain ⟨dd, f0, i0, e0, d2, o0, c0, s0, hT, _⟩ := hLs
        have hT := sm2 _ _ (sm _ _ hT)
        have hi : i < vs.length := (List.getElem?_eq_some_iff.mp hu).1
        refine ⟨rfl, .ref u, rfl, _, _, _, _, _, rfl, hT, k.ListSource.cl, k.ListSource.nf.get ix_ListSource_name_start, lkZ ix_ListSource_name_start rfl, .ref u, rfl, _, _, _, _, _, rfl, hT, k.ListSource.cl, k.ListSource.nf.get ix_ListSource_name, lkZ ix_ListSource_name rfl, by show 2 ≤ sizeLine; decide, fun t nt => ?_⟩
        have s1 := same_new (o := .tup [.int (y.2 : Nat), .str y.1]) nt
        have hD1 := s1 _ _ hD2
        have tl := hq2.len
        rw [List.length_take] at tl
        refine ⟨refs t2, hD1, by rw [List.length_map]; exact small1000 (by omega), t2 ++ [t], same_put (sm2.trans s1) nD2, by rw [upd_same]; simp [refs], ?_⟩
        rw [List.take_add_one, hy]
        exact Prq.put (Each.app (hq2.same s1) ⟨upd_same, trivial⟩) hD1
      · obtain ⟨t2, sm2, hD2, hq2⟩ := hP
        have e2 : (refs vs).length = (lsts f.own).length := by rw [List.length_map, lv]
        rw [e2, List.take_length] at hq2
        have hDj := sm2 _ _ hD
        have hqj := hq.same sm2
        have l1' := hq.len
        have l2' := hq2.len
        refine ⟨D, D2, refs tt, refs t2, rfl, rfl, hDj, hD2, by rw [List.length_map, List.length_map]; exact Nat.le_of_lt (small1000 (by omega)), ?_⟩
        have er : refs tt ++ refs t2 = refs (tt ++ t2) := by simp [refs]
        rw [er]
        have hall := Prq.put (u := .lst (refs (tt ++ t2))) (Each.app hqj hq2) hDj
        have hD3 := upd_same (H := Hj) (a := D) (o := .lst (refs (tt ++ t2)))
        have sH : Same H (upd Hj D (.lst (refs (tt ++ t2)))) := same_put (sm.trans sm2) nD
        generalize upd Hj D (.lst (refs (tt ++ t2))) = H3 at hall hD3 sH
        refine ⟨.ref D, rfl, D, tt ++ t2, dtP H3, rfl, SqL.of hD3, good_prq hall, fun ys p srt perm np => ?_⟩
        have hys := sorted_own hall hasc srt perm
        have s4 := same_new (o := .lst (ys.map V.ref)) np
        have hp4 := upd_same (H := H3) (a := p) (o := .lst (ys.map V.ref))
        have hy4 := hys.same s4
        have sH4 := sH.trans s4
        generalize upd H3 p (.lst (ys.map V.ref)) = H4 at hy4 hp4 s4 sH4
        refine ⟨p, rfl, ⟨_, SqL.of hp4⟩, fun D5 nD5 => ?_⟩
        have D50 : H D5 = none := same_dm sH4 _ nD5
        refine lc_list (K := K) (a := p) (xs := refs ys) (fun i Hk => ∃ t3, Same H4 Hk ∧ Hk D5 = some (.lst (refs t3)) ∧ Prs Hk t3 ((f.own.map (·.2)).take i)) ⟨[], same_new nD5, upd_same, trivial⟩ (fun i Hk _ hP => SqL.of (hP.choose_spec.1 _ _ hp4)) (fun i x Hk hx hP => ?_) (fun Hk hP => ?_)
        · obtain ⟨t3, sm3, hD5, hq3⟩ := hP
          obtain ⟨u, rfl, hu⟩ : ∃ u, x = .ref u ∧ ys[i]? = some u := by
            rw [List.getElem?_map] at hx
            obtain ⟨t, h1, e⟩ := Option.map_eq_some_iff.mp hx
            exact ⟨t, e.symm, h1⟩
          obtain ⟨y, hy, hT⟩ := hy4.at hu
          have hT := sm3 _ _ hT
          have hi : i < ys.length := (List.getElem?_eq_some_iff.mp hu).1
          have ly := hy4.len
          rw [List.length_map] at ly
          refine ⟨u, _, rfl, SqT.of hT, rfl, _, _, rfl, _, _, rfl, rfl, rfl, .str y.1, rfl, .int (y.2 : Nat), rfl, by show 2 ≤ sizeLine; decide, fun t nt => ?_⟩
          have s1 := same_new (o := .tup [.str y.1, .int (y.2 : Nat)]) nt
          have hD6 := s1 _ _ hD5
          have tl := hq3.len
          rw [List.length_take, List.length_map] at tl
          refine ⟨refs t3, hD6, by rw [List.length_map]; exact small1000 (by omega), t3 ++ [t], same_put (sm3.trans s1) nD5, by rw [upd_same]; simp [refs], ?_⟩
          rw [List.take_add_one, hy]
          exact Prs.put (Each.app (hq3.same s1) ⟨upd_same, trivial⟩) hD6
        · obtain ⟨t3, sm3, hD5, hq3⟩ := hP
          have e3 : (refs ys).length = (f.own.map (·.2)).length := by rw [List.length_map, hy4.len]
          rw [e3, List.take_length] at hq3
          exact q Hk D5 t3 (sH4.trans sm3) D50 hD5 hq3
end
end M05

set_option Elab.async false
set_option linter.all false
set_option maxRecDepth 100000
set_option maxHeartbeats 4000000
/-! repeated_imports -/
namespace M05
open PySem PySem.Spec PyProof.Rows L2 GL
theorem scRI : FnScope ["sources", "file", "found", "known", "start", "other", "brought", "name", "place"] ["sources", "file"] (defScope s_repeated_imports) := ⟨rfl, rfl, rfl, by decide +kernel, rfl, by decide +kernel, by decide +kernel⟩
def nmsOf (l : List (Bool × Str × Nat)) : List Str := l.map fun q => q.2.1
theorem nms_eq (l : List (Bool × Str × Nat)) : ((l.map (·.2)).map (·.1)) = nmsOf l := by
  unfold nmsOf
  rw [List.map_map]
  rfl
/-- a file's own names, by the file's name -/
def ownsOf (fs : List Fd) (z : Str) : List Str := match fs.find? fun f => decide (f.nm = z) with
  | some f => nmsOf f.own
  | none => []
/-- where names come that are there -/
def repI (ow : Str → List Str) : List Str → List (Str × Nat) → List Nat
  | _, [] => []
  | kn, q :: r => (if (ow q.1).any (fun z => decide (z ∈ kn)) then [q.2] else []) ++ repI ow (kn ++ ow q.1) r
theorem find_of {fs : List Fd} {z : Str} (h : z ∈ fs.map Fd.nm) : ∃ (i : Nat) (g : Fd), fs[i]? = some g ∧ g.nm = z ∧ ownsOf fs z = nmsOf g.own ∧ g ∈ fs := by
  cases e : fs.find? fun f => decide (f.nm = z) with
  | none =>
    obtain ⟨f, hf, hz⟩ := List.mem_map.mp h
    have := List.find?_eq_none.mp e f hf
    simp [hz] at this
  | some g =>
    have hm := List.mem_of_find?_eq_some e
    have hz : g.nm = z := by simpa using List.find?_some e
    obtain ⟨i, hi, e2⟩ := List.getElem_of_mem hm
    refine ⟨i, g, by rw [List.getElem?_eq_getElem hi, e2], hz, ?_, hm⟩
    unfold ownsOf
    rw [e]
/-- a file as it is drawn: its own things stand one behind the other, few of them -/
structure Fd.ok (f : Fd) : Prop where
  asc : (f.own.map (·.2)).Pairwise fun a b => a.2 < b.2
  lo : f.own.length ≤ 100
  li : f.ims.length ≤ 100
section
variable {P : Program} {w : World} {K : PySem.W.Frag} {mg : Str → Option Value} {base : Heap}
def spRI (k : Ks K mg) : Sp := fun vs H Q _ => ∃ (so B Kf a : Addr) (as : List Addr) (fs : List Fd) (f : Fd), vs = [.ref so, .ref a] ∧ SrcA k H so B Kf as fs ∧ FilA k H a f.nm f.T f.ims f.own ∧ f.ok ∧ (∀ g ∈ fs, g.ok) ∧ (∀ q ∈ f.ims, q.1 ∈ fs.map Fd.nm) ∧
  ∀ H' L, Same H H' → H L = none → H' L = some (.lst (iN (repI (ownsOf fs) (nmsOf f.own) f.ims))) → Q (.ref L) H'
theorem ok_ri {f : Addr} {fd : FuncData} (F : Fun K "repeated_imports" "repeated_imports" s_repeated_imports f fd) (T : Bl K mg) (k : Ks K mg) (d_own_names : DnO P w K mg base "own_names" 1 ["file"] (spON k)) : FnOk P w K mg base CX0 2 f fd ["sources", "file"] (spRI k) := by
  refine F.ok scRI (fun vs H Q E h => ?_) (fun cdv A outer s H vs Q E hr h => ?_)
  · obtain ⟨_, _, _, _, _, _, _, rfl, _⟩ := h
    rfl
  · obtain ⟨so, B, Kf, a, as, fs, f, rfl, hS, hA, hf, hg, him, q⟩ := h
    refine ⟨_, (pss_cons (ps_asg (pe_tup (pa_cons (pe_lst pa_nil) (pa_cons (pe_lc (own := [("name", 7), ("start", 4)]) (g := gTup K 2 (gCons (gName 7) (gCons (gName 4) gNil))) (by rfl) scRI.nd (pi_list (pe_call d_own_names.ok (hr.mono (by omega)) (by rfl) d_own_names.g d_own_names.kp d_own_names.b .nil pass0 (pa_cons (pv 1) pa_nil))) (blkOk_by (own := [("name", 7), ("start", 4)]) (N := ["sources", "file", "found", "known", "start", "other", "brought", "name", "place"]) (sc := defScope s_repeated_imports) (by decide +kernel)) (fun _ _ _ _ _ => (pg_tup rfl (pgs_cons (pg_name (i := 7) scRI.nd rfl (Or.inl rfl)) (pgs_cons (pg_name (i := 4) scRI.nd rfl (Or.inl rfl)) pgs_nil)))) (fun _ _ _ _ _ => pts_nil) (fun _ _ _ _ _ => (pv 7))) pa_nil))) (pg_tup rfl (pgs_cons (pg_name (i := 2) scRI.nd rfl (Or.inl rfl)) (pgs_cons (pg_name (i := 3) scRI.nd rfl (Or.inr rfl)) pgs_nil))))
      (pss_cons (ps_for PassesOwn.never rfl (pi_list (pe_fld (pv 1) rfl)) (pg_tup rfl (pgs_cons (pg_name (i := 5) scRI.nd rfl (Or.inl rfl)) (pgs_cons (pg_name (i := 4) scRI.nd rfl (Or.inl rfl)) pgs_nil)))
        (pss_cons (ps_setLc (i := 6) (own := [("name", 7), ("place", 8)]) (g := gTup K 2 (gCons (gName 7) (gCons (gName 8) gNil))) (by rfl) scRI.nd rfl rfl (sw_true rfl rfl rfl (by decide +kernel)) (pi_list (pe_call d_own_names.ok (hr.mono (by omega)) (by rfl) d_own_names.g d_own_names.kp d_own_names.b .nil pass0 (pa_cons (pe_dget (u1 hr) (pe_fld (pv 0) rfl) (pv 5) (fun _ _ => rfl)) pa_nil))) (blkOk_by (own := [("name", 7), ("place", 8)]) (N := ["sources", "file", "found", "known", "start", "other", "brought", "name", "place"]) (sc := defScope s_repeated_imports) (by decide +kernel)) (fun _ _ _ _ _ => (pg_tup rfl (pgs_cons (pg_name (i := 7) scRI.nd rfl (Or.inl rfl)) (pgs_cons (pg_name (i := 8) scRI.nd rfl (Or.inl rfl)) pgs_nil)))) (fun _ _ _ _ _ => pts_nil) (fun _ _ _ _ _ => (pv 7)))
        (pss_cons (ps_if (pt_val (pe_callB (cr_any rfl) (by rfl) T.any (by decide +kernel) (pa_cons (pe_lc (own := [("name", 7)]) (g := gName 7) (by rfl) scRI.nd (pi_list (pv 6)) (blkOk_by (own := [("name", 7)]) (N := ["sources", "file", "found", "known", "start", "other", "brought", "name", "place"]) (sc := defScope s_repeated_imports) (by decide +kernel)) (fun _ _ _ _ _ => (pg_name (i := 7) scRI.nd rfl (Or.inl rfl))) (fun _ _ _ _ _ => pts_nil) (fun _ _ _ _ _ => (pe_cmpR (r := rIn K false) op_in_seq (pv 7) (pv 3) (by rfl)))) pa_nil)))
          (pss_one (ps_expr (pe_bm PySem.F.plainAttrs_list PySem.F.slot_list_append PySem.F.type_list_append mt_append (pv 2) (pa_cons (pv 4) pa_nil))))
          pss_nil)
        (pss_one (ps_aug (i := 3) scRI.nd rfl (Or.inr rfl) (pv 6) pip_ext)))))
      (pss_one (ps_ret (pv 2))))), ?_⟩
    have hfo := hf.lo
    have hfi := hf.li
    refine ⟨by show 0 ≤ sizeLine; decide, fun L nL => ?_⟩
    have s1 := same_new (o := .lst []) nL
    have L1 := upd_same (H := H) (a := L) (o := .lst [])
    generalize upd H L (.lst []) = H1 at s1 L1
    refine ⟨.ref a, rfl, a, f, rfl, hA.same s1, hf.asc, hf.lo, fun H2 l ts s2 nl hl hts => ⟨l, rfl, ⟨_, SqL.of hl⟩, fun D nD => ?_⟩⟩
    refine lc_list (K := K) (a := l) (xs := refs ts) (fun i Hi => Same H2 Hi ∧ Hi D = some (.lst ((((f.own.map (·.2)).take i).map (·.1)).map V.str))) ⟨same_new nD, upd_same⟩ (fun i Hi _ hP => SqL.of (hP.1 _ _ hl)) (fun i x Hi hx hP => ?_) (fun Hi hP => ?_)
    · obtain ⟨sm, hD⟩ := hP
      obtain ⟨u, rfl, hu⟩ : ∃ u, x = .ref u ∧ ts[i]? = some u := by
        rw [List.getElem?_map] at hx
        obtain ⟨t, h1, e⟩ := Option.map_eq_some_iff.mp hx
        exact ⟨t, e.symm, h1⟩
      obtain ⟨y, hy, hT⟩ := hts.at hu
      have hi : i < ts.length := (List.getElem?_eq_some_iff.mp hu).1
      have ly := hts.len
      rw [List.length_map] at ly
      refine ⟨u, _, rfl, SqT.of (sm _ _ hT), rfl, _, _, rfl, _, _, rfl, rfl, rfl, .str y.1, rfl, _, hD, by rw [List.length_map, List.length_map, List.length_take, List.length_map]; exact small1000 (by omega), same_put sm nD, ?_⟩
      rw [upd_same, List.take_add_one, hy, List.map_append, List.map_append]
      rfl
    · obtain ⟨sm, hD⟩ := hP
      have e1 : (refs ts).length = (f.own.map (·.2)).length := by rw [List.length_map, hts.len]
      rw [e1, List.take_length] at hD
      have hD : Hi D = some (.lst ((nmsOf f.own).map V.str)) := by
        rw [hD, nms_eq]
      refine ⟨by show 2 ≤ sizeLine; decide, fun t nt => ?_⟩
      have s3 := same_new (o := .tup [.ref L, .ref D]) nt
      have s12 := s1.trans s2
      have sH : Same H Hi := s12.trans sm
      have Li := sm _ _ (s2 _ _ L1)
      have nD0 : H D = none := same_dm s12 _ nD
      have LD : L ≠ D := fun z => by
        have := s2 _ _ L1
        rw [z, nD] at this
        cases this
      refine ⟨t, _, rfl, SqT.of upd_same, rfl, _, _, rfl, _, _, rfl, rfl, ?_⟩
      have L3 := s3 _ _ Li
      have D3 := s3 _ _ hD
      have sH3 := sH.trans s3
      generalize upd Hi t (.tup [.ref L, .ref D]) = H3 at L3 D3 sH3
      obtain ⟨da, l1, l2, l3, ds, tsI, us, vs, g1, g2, g3, _⟩ := id hA
      have g1' := sH3 _ _ g1
      have ltI := g3.len
      refine ⟨.ref a, rfl, _, _, _, _, _, rfl, g1', k.FileSource.cl, k.FileSource.nf.get ix_FileSource_imports, lkZ ix_FileSource_imports rfl, l1, rfl, ⟨_, SqL.of (sH3 _ _ g2)⟩, ?_⟩
      refine for_list (K := K) (a := l1) (xs := refs tsI) (fun i σ Hi => ∃ (y4 y5 y6 y7 y8 : Option V) (done rest : List (Str × Nat)) (bad : List Nat) (kn : List Str), σ = [some (.ref so), some (.ref a), some (.ref L), some (.ref D), y4, y5, y6, y7, y8] ∧ done ++ rest = f.ims ∧ done.length = i ∧ Same H Hi ∧ Hi L = some (.lst (iN bad)) ∧ Hi D = some (.lst (kn.map V.str)) ∧ bad.length ≤ i ∧ kn.length ≤ 100 + 100 * i ∧ bad ++ repI (ownsOf fs) kn rest = repI (ownsOf fs) (nmsOf f.own) f.ims)
        ⟨_, _, _, _, _, [], f.ims, [], nmsOf f.own, rfl, rfl, rfl, sH3, L3, D3, Nat.le_refl _, by unfold nmsOf; rw [List.length_map]; omega, rfl⟩ (fun i σ Hi _ hP => by obtain ⟨_, _, _, _, _, _, _, _, _, _, _, _, sm, _⟩ := hP; exact SqL.of (sm _ _ g2)) (fun i x σ Hi hx hP => ?_) (fun σ Hi hP => ?_)
      · obtain ⟨y4, y5, y6, y7, y8, done, rest, bad, kn, rfl, hd, hi, sm, hL, hD, hbl, hkl, hbd⟩ := hP
        obtain ⟨t, rfl, ht⟩ : ∃ t, x = .ref t ∧ tsI[i]? = some t := by
          rw [List.getElem?_map] at hx
          obtain ⟨t, h1, e⟩ := Option.map_eq_some_iff.mp hx
          exact ⟨t, e.symm, h1⟩
        obtain ⟨y, hy, hty⟩ := g3.at ht
        have hrest : rest = y :: rest.tail := by
          have : f.ims[i]? = rest[0]? := by rw [← hd, List.getElem?_append_right (by omega), hi, Nat.sub_self]
          rw [hy] at this
          cases rest with
          | nil => simp at this
          | cons r0 r =>
            obtain rfl : y = r0 := by simpa using this
            rfl
        have hil2 : i < f.ims.length := (List.getElem?_eq_some_iff.mp hy).1
        have dn2 : (done ++ [y]) ++ rest.tail = f.ims := by
          rw [← hd]
          conv => rhs; rw [hrest]
          simp
        obtain ⟨j, g, hj, hgz, hog, hgm⟩ := find_of (him y (List.mem_of_getElem? hy))
        have hgo := hg g hgm
        have hSi := hS.same sm
        obtain ⟨⟨dS, hso⟩, hB, hF, hnd, _⟩ := hSi
        obtain ⟨ag, hag, hAg⟩ := hF.get hj
        have hDG : DGet Hi B (.str y.1) (some (.ref ag)) := by
          have := byN_some hnd hj hag
          rw [hgz] at this
          rw [← this]
          exact DGet.kR (k := Sum.inr y.1) hB
        have bstep : repI (ownsOf fs) kn rest = (if (nmsOf g.own).any (fun z => decide (z ∈ kn)) then [y.2] else []) ++ repI (ownsOf fs) (kn ++ nmsOf g.own) rest.tail := by
          conv => lhs; rw [hrest]
          show (if (ownsOf fs y.1).any _ then _ else _) ++ repI _ (kn ++ ownsOf fs y.1) _ = _
          rw [hog]
        have hgl : (nmsOf g.own).length ≤ 100 := by unfold nmsOf; rw [List.length_map]; exact hgo.lo
        refine ⟨t, _, rfl, SqT.of (sm _ _ hty), rfl, _, _, rfl, _, _, rfl, rfl, ?_⟩
        refine ⟨.ref so, rfl, _, _, _, _, _, rfl, hso, k.Sources.cl, k.Sources.nf.get ix_Sources_by_name, lkZ ix_Sources_by_name rfl, .str y.1, rfl, B, .ref ag, rfl, hDG, ag, g, rfl, hAg, hgo.asc, hgo.lo, fun H4 l4 ts4 s4 nl4 hl4 hts4 => ⟨l4, rfl, ⟨_, SqL.of hl4⟩, fun D2 nD2 => ?_⟩⟩
        refine lc_list (K := K) (a := l4) (xs := refs ts4) (fun i Hj => Same H4 Hj ∧ Hj D2 = some (.lst ((((g.own.map (·.2)).take i).map (·.1)).map V.str))) ⟨same_new nD2, upd_same⟩ (fun i Hj _ hP => SqL.of (hP.1 _ _ hl4)) (fun i2 x Hj hx hP => ?_) (fun Hj hP => ?_)
        · obtain ⟨sm2, hD2⟩ := hP
          obtain ⟨u, rfl, hu⟩ : ∃ u, x = .ref u ∧ ts4[i2]? = some u := by
            rw [List.getElem?_map] at hx
            obtain ⟨t, h1, e⟩ := Option.map_eq_some_iff.mp hx
            exact ⟨t, e.symm, h1⟩
          obtain ⟨y2, hy2, hT⟩ := hts4.at hu
          have hi2 : i2 < ts4.length := (List.getElem?_eq_some_iff.mp hu).1
          have ly := hts4.len
          rw [List.length_map] at ly
          have := hgo.lo
          refine ⟨u, _, rfl, SqT.of (sm2 _ _ hT), rfl, _, _, rfl, _, _, rfl, rfl, rfl, .str y2.1, rfl, _, hD2, by rw [List.length_map, List.length_map, List.length_take, List.length_map]; exact small1000 (by omega), same_put sm2 nD2, ?_⟩
          rw [upd_same, List.take_add_one, hy2, List.map_append, List.map_append]
          rfl
        · obtain ⟨sm2, hD2⟩ := hP
          have e1 : (refs ts4).length = (g.own.map (·.2)).length := by rw [List.length_map, hts4.len]
          rw [e1, List.take_length, nms_eq] at hD2
          have sj : Same Hi Hj := s4.trans sm2
          have Lj := sj _ _ hL
          have Dj := sj _ _ hD
          have nD20 : Hi D2 = none := same_dm s4 _ nD2
          have smj : Same H Hj := sm.trans sj
          refine ⟨.ref D2, rfl, D2, rfl, ⟨_, SqL.of hD2⟩, fun D3 nD3 => ?_⟩
          refine lc_list (K := K) (a := D2) (xs := (nmsOf g.own).map V.str) (fun i Hk => Same Hj Hk ∧ Hk D3 = some (.lst ((((nmsOf g.own).take i).map fun z => decide (z ∈ kn)).map V.bl))) ⟨same_new nD3, upd_same⟩ (fun i Hk _ hP => SqL.of (hP.1 _ _ hD2)) (fun i3 x Hk hx hP => ?_) (fun Hk hP => ?_)
          · obtain ⟨sm3, hD3⟩ := hP
            obtain ⟨z, rfl, hz⟩ : ∃ z, x = .str z ∧ (nmsOf g.own)[i3]? = some z := by
              rw [List.getElem?_map] at hx
              obtain ⟨t, h1, e⟩ := Option.map_eq_some_iff.mp hx
              exact ⟨t, e.symm, h1⟩
            have hi3 : i3 < (nmsOf g.own).length := (List.getElem?_eq_some_iff.mp hz).1
            refine ⟨rfl, .str z, rfl, .ref D, rfl, D, _, rfl, .inl (SqL.of (sm3 _ _ Dj)), rfl, flatS kn, _, hD3, by rw [List.length_map, List.length_map, List.length_take]; exact small1000 (by omega), same_put sm3 nD3, ?_⟩
            rw [upd_same, List.take_add_one, hz, inS, List.map_append, List.map_append]
            rfl
          · obtain ⟨sm3, hD3⟩ := hP
            rw [List.length_map, List.take_length] at hD3
            have Lk := sm3 _ _ Lj
            have Dk := sm3 _ _ Dj
            have D2k := sm3 _ _ hD2
            have smk : Same H Hk := smj.trans sm3
            have anyE : ((nmsOf g.own).map fun z => decide (z ∈ kn)).any id = (nmsOf g.own).any fun z => decide (z ∈ kn) := by rw [List.any_map]; rfl
            refine ⟨D3, _, rfl, SqL.of hD3, _, rfl, ?_⟩
            rw [anyE]
            have DD2 : D ≠ D2 := fun z => by rw [← z, hD] at nD20; cases nD20
            have LD2 : L ≠ D2 := fun z => by rw [← z, hL] at nD20; cases nD20
            have szK : (kn.map V.str).length + ((nmsOf g.own).map V.str).length ≤ sizeLine := by
              rw [List.length_map, List.length_map]
              exact big_le (by omega)
            have catK : kn.map V.str ++ (nmsOf g.own).map V.str = (kn ++ nmsOf g.own).map V.str := by rw [List.map_append]
            have lk2 : (kn ++ nmsOf g.own).length ≤ 100 + 100 * (i + 1) := by
              rw [List.length_append]
              omega
            by_cases c : ((nmsOf g.own).any fun z => decide (z ∈ kn)) = true
            · rw [c]
              have sz1 : (iN bad).length < sizeLine := by unfold iN; rw [List.length_map]; exact small1000 (by omega)
              have D5 : (upd Hk L (.lst (iN bad ++ [.int (y.2 : Nat)]))) D = some (.lst (kn.map V.str)) := by rw [upd_ne LD.symm]; exact Dk
              have D25 : (upd Hk L (.lst (iN bad ++ [.int (y.2 : Nat)]))) D2 = some (.lst ((nmsOf g.own).map V.str)) := by rw [upd_ne LD2.symm]; exact D2k
              refine iteT ⟨.ref L, rfl, .inl ⟨rfl, _, SqL.of Lk⟩, .int (y.2 : Nat), rfl, L, iN bad, _, rfl, rfl, Lk, sz1, .ref D, rfl, .ref D2, rfl, D, D2, _, _, rfl, rfl, D5, D25, szK, ?_⟩
              refine ⟨_, _, _, _, _, done ++ [y], rest.tail, bad ++ [y.2], kn ++ nmsOf g.own, rfl, dn2, by simp [hi], same_put (same_put smk nL) nD0, ?_, ?_, by simp; omega, lk2, ?_⟩
              · rw [upd_ne LD, upd_same]
                unfold iN
                simp
              · rw [upd_same, catK]
              · rw [bstep, if_pos c] at hbd
                rw [List.append_assoc]
                exact hbd
            · have c' : ((nmsOf g.own).any fun z => decide (z ∈ kn)) = false := by simpa using c
              rw [c']
              refine iteF ⟨.ref D, rfl, .ref D2, rfl, D, D2, _, _, rfl, rfl, Dk, D2k, szK, ?_⟩
              refine ⟨_, _, _, _, _, done ++ [y], rest.tail, bad, kn ++ nmsOf g.own, rfl, dn2, by simp [hi], same_put smk nD0, ?_, ?_, by omega, lk2, ?_⟩
              · rw [upd_ne LD]
                exact Lk
              · rw [upd_same, catK]
              · rw [bstep, if_neg c, List.nil_append] at hbd
                exact hbd
      · obtain ⟨y4, y5, y6, y7, y8, done, rest, bad, kn, rfl, hd, hi, sm, hL, hD, hbl, hkl, hbd⟩ := hP
        have : rest = [] := by
          have h1 := congrArg List.length hd
          rw [List.length_append] at h1
          rw [List.length_map] at hi
          exact List.length_eq_zero_iff.mp (by omega)
        subst this
        refine ⟨.ref L, rfl, q Hi L sm nL ?_⟩
        rw [← hbd]
        unfold repI
        rw [List.append_nil]
        exact hL
end
end M05

set_option Elab.async false
set_option linter.all false
set_option maxRecDepth 100000
set_option maxHeartbeats 4000000
/-! bodies_in, entries_within, all_bodies, outer_bodies, loops_of -/
namespace M05
open PySem PySem.Spec PyProof.Rows L2 GL
theorem scBI : FnScope ["value", "use"] ["value"] (defScope s_bodies_in) := ⟨rfl, rfl, rfl, by decide +kernel, rfl, by decide +kernel, by decide +kernel⟩
theorem scEW : FnScope ["body", "found", "entry", "inner"] ["body"] (defScope s_entries_within) := ⟨rfl, rfl, rfl, by decide +kernel, rfl, by decide +kernel, by decide +kernel⟩
theorem scAB : FnScope ["body", "found", "entry"] ["body"] (defScope s_all_bodies) := ⟨rfl, rfl, rfl, by decide +kernel, rfl, by decide +kernel, by decide +kernel⟩
theorem scOB : FnScope ["file", "found", "template"] ["file"] (defScope s_outer_bodies) := ⟨rfl, rfl, rfl, by decide +kernel, rfl, by decide +kernel, by decide +kernel⟩
theorem scLO : FnScope ["body", "entry"] ["body"] (defScope s_loops_of) := ⟨rfl, rfl, rfl, by decide +kernel, rfl, by decide +kernel, by decide +kernel⟩
/-- a class by its name -/
structure Cn (mg : Str → Option Value) (x : Str) where
  C : Addr
  g : mg x = some (.ref C)
/-- what isinstance says of a literal -/
structure Isi {K : PySem.W.Frag} {mg : Str → Option Value} (k : Ks K mg) where
  Body : Cn mg "Body"
  Use : Cn mg "Use"
  Loop : Cn mg "Loop"
  Sum : Cn mg "Sum"
  Choice : Cn mg "Choice"
  Literal : Cn mg "Literal"
  cls : PySem.W.findIn K (.ref k.Literal.C) "__class__" = some (some (.builtin "object.__class__"))
  get : PySem.W.specialIn K (.builtin "object.__class__") "__get__" = some (some (.builtin "getset_descriptor.__get__"))
  tak : PySem.W.takesIn K (.builtin "object.__class__") = some true
  mro : PySem.W.mroIn K k.Literal.C (.type "object") = some true
  nBody : PySem.W.kitOne K (.ref k.Literal.C) (.ref Body.C) = some false
  nUse : PySem.W.kitOne K (.ref k.Literal.C) (.ref Use.C) = some false
  nLoop : PySem.W.kitOne K (.ref k.Literal.C) (.ref Loop.C) = some false
  nSum : PySem.W.kitOne K (.ref k.Literal.C) (.ref Sum.C) = some false
  nChoice : PySem.W.kitOne K (.ref k.Literal.C) (.ref Choice.C) = some false
  yLit : PySem.W.kitOne K (.ref k.Literal.C) (.ref Literal.C) = some true
section
variable {K : PySem.W.Frag} {mg : Str → Option Value} {k : Ks K mg}
theorem Isi.ty (I : Isi k) {H : Hp} {v : Addr} {n : Int} (h : LitA k H v n) : TyX K H (.ref v) (.ref k.Literal.C) := let ⟨_, _, _, e⟩ := h; .base (.ins e k.Literal.cl I.cls I.get I.tak I.mro)
/-- isinstance(v, C), v a literal -/
theorem Isi.ask (I : Isi k) {H : Hp} {v C : Addr} {n : Int} {b : Bool} {Q : VK} (h : LitA k H v n) (e : PySem.W.kitOne K (.ref k.Literal.C) (.ref C) = some b) (q : Q (.bl b) H) :
    ∃ (x c : V) (t u : Value) (b : Bool), [V.ref v, V.ref C] = [x, c] ∧ ClsV c u ∧ TyX K H x t ∧ PySem.W.kitOne K t u = some b ∧ Q (.bl b) H := ⟨.ref v, .ref C, _, _, b, rfl, .own C, I.ty h, e, q⟩
end
section
variable {P : Program} {w : World} {K : PySem.W.Frag} {mg : Str → Option Value} {base : Heap}
def spBI (k : Ks K mg) : Sp := fun vs H Q _ => ∃ (v : Addr) (n : Int), vs = [.ref v] ∧ LitA k H v n ∧ ∀ H' L, Same H H' → H L = none → H' L = some (.lst []) → Q (.ref L) H'
theorem ok_bi {f : Addr} {fd : FuncData} (F : Fun K "bodies_in" "bodies_in" s_bodies_in f fd) (T : Bl K mg) (k : Ks K mg) (I : Isi k) : FnOk P w K mg base CX0 1 f fd ["value"] (spBI k) := by
  refine F.ok scBI (fun vs H Q E h => ?_) (fun cdv A outer s H vs Q E hr h => ?_)
  · obtain ⟨_, _, rfl, _⟩ := h
    rfl
  · obtain ⟨v, n, rfl, hv, q⟩ := h
    refine ⟨_, (pss_cons (ps_if (pt_val (pe_callB call_isi (by rfl) T.isinstance (by decide +kernel) (pa_cons (pv 0) (pa_cons (pe_glob (v := .ref I.Body.C) (by rfl) I.Body.g rfl) pa_nil))))
        (pss_one (ps_ret (pe_lst (pa_cons (pv 0) pa_nil))))
        pss_nil)
      (pss_cons (ps_set (i := 1) scBI.nd rfl (Or.inl rfl) (pe_ifExp (pt_val (pe_callB call_isi (by rfl) T.isinstance (by decide +kernel) (pa_cons (pv 0) (pa_cons (pe_glob (v := .ref I.Loop.C) (by rfl) I.Loop.g rfl) pa_nil)))) (pe_fld (pv 0) rfl) (pv 0)))
      (pss_one (ps_ret (pe_ifExp (PW.pt (pw_and (pt_val (pe_callB call_isi (by rfl) T.isinstance (by decide +kernel) (pa_cons (pv 1) (pa_cons (pe_glob (v := .ref I.Use.C) (by rfl) I.Use.g rfl) pa_nil)))) (pw_and1 (pt_cmpR op_notN (pe_fld (pv 1) rfl) pe_non (nomark _))))) (pe_lst (pa_cons (pe_fld (pv 1) rfl) pa_nil)) (pe_lst pa_nil)))))), ?_⟩
    refine ⟨.ref v, rfl, .ref v, .ref I.Body.C, _, _, false, rfl, .own _, I.ty hv, I.nBody, false, rfl, iteF ?_⟩
    refine ⟨.ref v, rfl, .ref v, .ref I.Loop.C, _, _, false, rfl, .own _, I.ty hv, I.nLoop, false, rfl, iteF ⟨.ref v, rfl, ?_⟩⟩
    refine ⟨.ref v, rfl, .ref v, .ref I.Use.C, _, _, false, rfl, .own _, I.ty hv, I.nUse, false, rfl, iteF (iteF ⟨by show 0 ≤ sizeLine; decide, fun L nL => ?_⟩)⟩
    exact q _ L (same_new nL) nL upd_same
def spEW (k : Ks K mg) : Sp := fun vs H Q _ => ∃ (a l b : Addr), vs = [.ref a] ∧ (∃ d s e, H a = some (.ins k.Body.C d (nBody.zip [.ref l, s, e]))) ∧ H l = some (.lst [.ref b]) ∧ (∃ x n, EntA k H b x n) ∧ ∀ H' L, Same H H' → H L = none → H' L = some (.lst [.ref b]) → Q (.ref L) H'
theorem ok_ew {f : Addr} {fd : FuncData} (F : Fun K "entries_within" "entries_within" s_entries_within f fd) (T : Bl K mg) (k : Ks K mg) (d_bodies_in : DnO P w K mg base "bodies_in" 1 ["value"] (spBI k)) : FnOk P w K mg base CX0 2 f fd ["body"] (spEW k) := by
  refine F.ok scEW (fun vs H Q E h => ?_) (fun cdv A outer s H vs Q E hr h => ?_)
  · obtain ⟨_, _, _, rfl, _⟩ := h
    rfl
  · obtain ⟨a, l, b, rfl, ⟨d, s0, e0, ha⟩, hl, ⟨x, n, hE⟩, q⟩ := h
    refine ⟨_, (pss_cons (ps_set (i := 1) scEW.nd rfl (Or.inl rfl) (pe_lst pa_nil))
      (pss_cons (ps_for PassesOwn.never rfl (pi_list (pe_fld (pv 0) rfl)) (pg_name (i := 2) scEW.nd rfl (Or.inl rfl))
        (pss_cons (ps_expr (pe_bm PySem.F.plainAttrs_list PySem.F.slot_list_append PySem.F.type_list_append mt_append (pv 1) (pa_cons (pv 2) pa_nil)))
        (pss_one (ps_for PassesOwn.never rfl (pi_list (pe_call d_bodies_in.ok (hr.mono (by omega)) (by rfl) d_bodies_in.g d_bodies_in.kp d_bodies_in.b .nil pass0 (pa_cons (pe_fld (pv 2) rfl) pa_nil))) (pg_name (i := 3) scEW.nd rfl (Or.inl rfl))
          (pss_one ps_never)))))
      (pss_one (ps_ret (pv 1))))), ?_⟩
    refine ⟨by show 0 ≤ sizeLine; decide, fun L nL => ?_⟩
    have s1 := same_new (o := .lst []) nL
    have ha1 := s1 _ _ ha
    refine ⟨.ref a, rfl, _, _, _, _, _, rfl, ha1, k.Body.cl, k.Body.nf.get ix_Body_entries, lkZ ix_Body_entries rfl, l, rfl, ⟨_, SqL.of (s1 _ _ hl)⟩, ?_⟩
    refine for_list (K := K) (a := l) (xs := [.ref b]) (fun i σ Hi => ∃ (y2 y3 : Option V), σ = [some (.ref a), some (.ref L), y2, y3] ∧ Same H Hi ∧ Hi L = some (.lst ([.ref b].take i))) ⟨none, none, rfl, s1, upd_same⟩ (fun i σ Hi _ hP => by obtain ⟨_, _, _, sm, _⟩ := hP; exact SqL.of (sm _ _ hl)) (fun i x1 σ Hi hx hP => ?_) (fun σ Hi hP => ?_)
    · obtain ⟨y2, y3, rfl, sm, hL⟩ := hP
      have hi : i = 0 := by
        have := (List.getElem?_eq_some_iff.mp hx).1
        simp at this
        exact this
      subst hi
      obtain rfl : V.ref b = x1 := by simpa using hx
      have hEi := hE.same sm
      have s2 : Same H (upd Hi L (.lst ([] ++ [.ref b]))) := same_put sm nL
      have hE2 := hE.same s2
      obtain ⟨de, v, p, y, e, hb, hv⟩ := hE2
      refine ⟨.ref L, rfl, .inl ⟨rfl, _, SqL.of hL⟩, .ref b, rfl, L, [], _, rfl, rfl, hL, by decide, .ref b, rfl, _, _, _, _, _, rfl, hb, k.Entry.cl, k.Entry.nf.get ix_Entry_value, lkZ ix_Entry_value rfl, v, n, rfl, hv, fun H3 L3 s3 n3 h3 => ⟨L3, rfl, ⟨_, SqL.of h3⟩, ?_⟩⟩
      refine for_list (K := K) (a := L3) (xs := []) (fun i σ Hi => σ = [some (.ref a), some (.ref L), some (.ref b), y3] ∧ Hi = H3) ⟨rfl, rfl⟩ (fun i σ Hi _ hP => by rw [hP.2]; exact SqL.of h3) (fun i x1 σ Hi hx hP => by simp at hx) (fun σ Hi hP => ?_)
      obtain ⟨rfl, rfl⟩ := hP
      exact ⟨_, _, rfl, s2.trans s3, s3 _ _ upd_same⟩
    · obtain ⟨y2, y3, rfl, sm, hL⟩ := hP
      exact ⟨.ref L, rfl, q Hi L sm nL hL⟩
def spAB (k : Ks K mg) : Sp := fun vs H Q _ => ∃ (a : Addr), vs = [.ref a] ∧ (∃ x n, BodA k H a x n) ∧ ∀ H' L, Same H H' → H L = none → H' L = some (.lst [.ref a]) → Q (.ref L) H'
theorem ok_ab {f : Addr} {fd : FuncData} (F : Fun K "all_bodies" "all_bodies" s_all_bodies f fd) (T : Bl K mg) (k : Ks K mg) (d_bodies_in : DnO P w K mg base "bodies_in" 1 ["value"] (spBI k)) (d_entries_within : DnO P w K mg base "entries_within" 2 ["body"] (spEW k)) : FnOk P w K mg base CX0 3 f fd ["body"] (spAB k) := by
  refine F.ok scAB (fun vs H Q E h => ?_) (fun cdv A outer s H vs Q E hr h => ?_)
  · obtain ⟨_, rfl, _⟩ := h
    rfl
  · obtain ⟨a, rfl, ⟨x, n, hB⟩, q⟩ := h
    refine ⟨_, (pss_cons (ps_set (i := 1) scAB.nd rfl (Or.inl rfl) (pe_lst (pa_cons (pv 0) pa_nil)))
      (pss_cons (ps_for PassesOwn.never rfl (pi_list (pe_call d_entries_within.ok (hr.mono (by omega)) (by rfl) d_entries_within.g d_entries_within.kp d_entries_within.b .nil pass0 (pa_cons (pv 0) pa_nil))) (pg_name (i := 2) scAB.nd rfl (Or.inl rfl))
        (pss_one (ps_expr (pe_bm PySem.F.plainAttrs_list PySem.F.slot_list_extend PySem.F.type_list_extend mt_extend (pv 1) (pa_cons (pe_call d_bodies_in.ok (hr.mono (by omega)) (by rfl) d_bodies_in.g d_bodies_in.kp d_bodies_in.b .nil pass0 (pa_cons (pe_fld (pv 2) rfl) pa_nil)) pa_nil)))))
      (pss_one (ps_ret (pv 1))))), ?_⟩
    refine ⟨.ref a, rfl, by show 1 ≤ sizeLine; decide, fun L nL => ?_⟩
    have s1 := same_new (o := .lst [.ref a]) nL
    obtain ⟨d, l, b, s0, e0, ha0, hl0, hE0⟩ := hB
    refine ⟨.ref a, rfl, a, l, b, rfl, ⟨d, s0, e0, s1 _ _ ha0⟩, s1 _ _ hl0, ⟨x, n, hE0.same s1⟩, fun H2 L2 s2 n2 h2 => ⟨L2, rfl, ⟨_, SqL.of h2⟩, ?_⟩⟩
    have hL2 := s2 _ _ (upd_same (H := H) (a := L) (o := .lst [.ref a]))
    have L2L : L2 ≠ L := fun z => by rw [z, upd_same] at n2; cases n2
    refine for_list (K := K) (a := L2) (xs := [.ref b]) (fun i σ Hi => ∃ (y2 : Option V), σ = [some (.ref a), some (.ref L), y2] ∧ Same H Hi ∧ Hi L = some (.lst [.ref a]) ∧ Hi L2 = some (.lst [.ref b])) ⟨none, rfl, s1.trans s2, hL2, h2⟩ (fun i σ Hi _ hP => by obtain ⟨_, _, _, _, h⟩ := hP; exact SqL.of h) (fun i x1 σ Hi hx hP => ?_) (fun σ Hi hP => ?_)
    · obtain ⟨y2, rfl, sm, hL, hLi⟩ := hP
      have hi : i = 0 := by
        have := (List.getElem?_eq_some_iff.mp hx).1
        simp at this
        exact this
      subst hi
      obtain rfl : V.ref b = x1 := by simpa using hx
      obtain ⟨de, v, p, y, e, hb, hv⟩ := hE0.same sm
      refine ⟨.ref L, rfl, .inl ⟨rfl, _, SqL.of hL⟩, .ref b, rfl, _, _, _, _, _, rfl, hb, k.Entry.cl, k.Entry.nf.get ix_Entry_value, lkZ ix_Entry_value rfl, v, n, rfl, hv, fun H3 L3 s3 n3 h3 => ?_⟩
      have hL3 := s3 _ _ hL
      refine ⟨L, L3, [.ref a], [], rfl, rfl, hL3, h3, by show 1 ≤ sizeLine; decide, _, rfl, same_put (sm.trans s3) nL, upd_same, ?_⟩
      rw [upd_ne L2L]
      exact s3 _ _ hLi
    · obtain ⟨y2, rfl, sm, hL, hLi⟩ := hP
      exact ⟨.ref L, rfl, q Hi L sm nL hL⟩
def spOB (k : Ks K mg) : Sp := fun vs H Q _ => ∃ (a : Addr) (f : Fd) (H0 : Hp), vs = [.ref a] ∧ Same H0 H ∧ FilA k H0 a f.nm f.T f.ims f.own ∧ f.own.length ≤ 100 ∧ ∀ H' L bs, Same H H' → H L = none → H' L = some (.lst (refs bs)) → Each (fun b (_ : Str × Nat) => BodA k H0 b "n" 1) bs (tems f.own) → Q (.ref L) H'
theorem ok_ob {f : Addr} {fd : FuncData} (F : Fun K "outer_bodies" "outer_bodies" s_outer_bodies f fd) (T : Bl K mg) (k : Ks K mg) : FnOk P w K mg base CX0 1 f fd ["file"] (spOB k) := by
  refine F.ok scOB (fun vs H Q E h => ?_) (fun cdv A outer s H vs Q E hr h => ?_)
  · obtain ⟨_, _, _, rfl, _⟩ := h
    rfl
  · obtain ⟨a, f, H0, rfl, s00, hA, hlen, q⟩ := h
    obtain ⟨da, l1, l2, l3, ds, ts, us, vs, g1, g2, g3, g4, g5, g6, g7⟩ := hA
    have g1 := s00 _ _ g1
    have g4 := s00 _ _ g4
    have lu := g5.len
    have ft : (tems f.own).length ≤ f.own.length := List.length_filterMap_le _ _
    refine ⟨_, (pss_cons (ps_setLc (i := 1) (own := [("template", 2)]) (g := gName 2) (by rfl) scOB.nd rfl rfl (sw_true rfl rfl rfl (by decide +kernel)) (pi_list (pe_fld (pv 0) rfl)) (blkOk_by (own := [("template", 2)]) (N := ["file", "found", "template"]) (sc := defScope s_outer_bodies) (by decide +kernel)) (fun _ _ _ _ _ => (pg_name (i := 2) scOB.nd rfl (Or.inl rfl))) (fun _ _ _ _ _ => pts_nil) (fun _ _ _ _ _ => (pe_fldK (K := K) rfl (pv 2) rfl)))
      (pss_one (ps_ret (pe_ifExp (pt_cmpR op_notN (pe_fld (pv 0) rfl) pe_non (nomark _)) (pe_op op_cat (pv 1) (pe_lst (pa_cons (pe_fld (pv 0) rfl) pa_nil))) (pv 1))))), ?_⟩
    refine ⟨.ref a, rfl, _, _, _, _, _, rfl, g1, k.FileSource.cl, k.FileSource.nf.get ix_FileSource_templates, lkZ ix_FileSource_templates rfl, l2, rfl, ⟨_, SqL.of g4⟩, fun D nD => ?_⟩
    refine lc_list (K := K) (a := l2) (xs := refs us) (fun i Hi => ∃ bs, Same H Hi ∧ Hi D = some (.lst (refs bs)) ∧ Each (fun b (_ : Str × Nat) => BodA k H0 b "n" 1) bs ((tems f.own).take i)) ⟨[], same_new nD, upd_same, trivial⟩ (fun i Hi _ hP => SqL.of (hP.choose_spec.1 _ _ g4)) (fun i x Hi hx hP => ?_) (fun Hi hP => ?_)
    · obtain ⟨bs, sm, hD, hq⟩ := hP
      obtain ⟨u, rfl, hu⟩ : ∃ u, x = .ref u ∧ us[i]? = some u := by
        rw [List.getElem?_map] at hx
        obtain ⟨t, h1, e⟩ := Option.map_eq_some_iff.mp hx
        exact ⟨t, e.symm, h1⟩
      obtain ⟨y, hy, dd, bb, hT, hBd⟩ := g5.at hu
      have hi : i < us.length := (List.getElem?_eq_some_iff.mp hu).1
      have hT := sm _ _ (s00 _ _ hT)
      have tl := hq.len
      rw [List.length_take] at tl
      refine ⟨rfl, .ref u, rfl, _, _, _, _, _, rfl, hT, k.Template.cl, k.Template.nf.get ix_Template_body, lkZ ix_Template_body rfl, refs bs, hD, by rw [List.length_map]; exact small1000 (by omega), bs ++ [bb], same_put sm nD, by rw [upd_same]; simp [refs], ?_⟩
      rw [List.take_add_one, hy]
      exact Each.app hq ⟨hBd, trivial⟩
    · obtain ⟨bs, sm, hD, hq⟩ := hP
      have e1 : (refs us).length = (tems f.own).length := by rw [List.length_map, lu]
      rw [e1, List.take_length] at hq
      have ha := sm _ _ g1
      refine ⟨.ref a, rfl, _, _, _, _, _, rfl, ha, k.FileSource.cl, k.FileSource.nf.get ix_FileSource_document, lkZ ix_FileSource_document rfl, rfl, _, rfl, iteF ⟨.ref D, rfl, q Hi D bs sm nD hD hq⟩⟩
def spLO (k : Ks K mg) : Sp := fun vs H Q _ => ∃ (a : Addr), vs = [.ref a] ∧ (∃ x n, BodA k H a x n) ∧ ∀ H' L, Same H H' → H L = none → H' L = some (.lst []) → Q (.ref L) H'
theorem ok_lo {f : Addr} {fd : FuncData} (F : Fun K "loops_of" "loops_of" s_loops_of f fd) (T : Bl K mg) (k : Ks K mg) (I : Isi k) : FnOk P w K mg base CX0 1 f fd ["body"] (spLO k) := by
  refine F.ok scLO (fun vs H Q E h => ?_) (fun cdv A outer s H vs Q E hr h => ?_)
  · obtain ⟨_, rfl, _⟩ := h
    rfl
  · obtain ⟨a, rfl, ⟨x, n, hB⟩, q⟩ := h
    obtain ⟨d, l, b, s0, e0, ha0, hl0, hE0⟩ := hB
    refine ⟨_, (pss_one (ps_ret (pe_lc (own := [("entry", 1)]) (g := gName 1) (by rfl) scLO.nd (pi_list (pe_fld (pv 0) rfl)) (blkOk_by (own := [("entry", 1)]) (N := ["body", "entry"]) (sc := defScope s_loops_of) (by decide +kernel)) (fun _ _ _ _ _ => (pg_name (i := 1) scLO.nd rfl (Or.inl rfl))) (fun _ _ _ _ _ => (pts_one (pt_val (pe_callB (r := rIsi K) call_isi (by rfl) T.isinstance (by decide +kernel) (pa_cons (pe_fldK (K := K) rfl (pv 1) rfl) (pa_cons (pe_glob (v := .ref I.Loop.C) (by rfl) I.Loop.g rfl) pa_nil)))))) (fun _ _ _ _ _ => (pe_fldK (K := K) rfl (pv 1) rfl))))), ?_⟩
    refine ⟨.ref a, rfl, _, _, _, _, _, rfl, ha0, k.Body.cl, k.Body.nf.get ix_Body_entries, lkZ ix_Body_entries rfl, l, rfl, ⟨_, SqL.of hl0⟩, fun D nD => ?_⟩
    refine lc_list (K := K) (a := l) (xs := [.ref b]) (fun i Hi => Same H Hi ∧ Hi D = some (.lst [])) ⟨same_new nD, upd_same⟩ (fun i Hi _ hP => SqL.of (hP.1 _ _ hl0)) (fun i x1 Hi hx hP => ?_) (fun Hi hP => ?_)
    · obtain ⟨sm, hD⟩ := hP
      obtain rfl : V.ref b = x1 := by
        have hi : i = 0 := by
          have := (List.getElem?_eq_some_iff.mp hx).1
          simp at this
          exact this
        subst hi
        simpa using hx
      obtain ⟨de, v, p, y, e, hb, hv⟩ := hE0.same sm
      exact ⟨rfl, .ref b, rfl, _, _, _, _, _, rfl, hb, k.Entry.cl, k.Entry.nf.get ix_Entry_value, lkZ ix_Entry_value rfl, .ref v, .ref I.Loop.C, _, _, false, rfl, .own _, I.ty hv, I.nLoop, false, rfl, sm, hD⟩
    · exact q Hi D hP.1 nD hP.2
end
end M05

set_option Elab.async false
set_option linter.all false
set_option maxRecDepth 100000
set_option maxHeartbeats 8000000
/-! repeated_names -/
namespace M05
open PySem PySem.Spec PyProof.Rows L2 GL
theorem scRN : FnScope ["sources", "file", "found", "outer", "names", "body", "source", "item", "entry", "loop", "field"] ["sources", "file"] (defScope s_repeated_names) := ⟨rfl, rfl, rfl, by decide +kernel, rfl, by decide +kernel, by decide +kernel⟩
/-- where names of a file stand twice -/
def twice (fs : List Fd) (f : Fd) : List Nat := rep [] (f.own.map (·.2)) ++ repI (ownsOf fs) (nmsOf f.own) f.ims
theorem rep_len : ∀ (kn : List Str) (l : List (Str × Nat)), (rep kn l).length ≤ l.length
  | _, [] => Nat.le_refl _
  | kn, q :: r => by
    have := rep_len (kn ++ [q.1]) r
    unfold rep
    rw [List.length_append, List.length_cons]
    split <;> simp <;> omega
theorem repI_len (ow : Str → List Str) : ∀ (kn : List Str) (l : List (Str × Nat)), (repI ow kn l).length ≤ l.length
  | _, [] => Nat.le_refl _
  | kn, q :: r => by
    have := repI_len ow (kn ++ ow q.1) r
    unfold repI
    rw [List.length_append, List.length_cons]
    split <;> simp <;> omega
theorem twice_len {fs : List Fd} {f : Fd} (h : f.ok) : (twice fs f).length ≤ 200 := by
  have h1 := rep_len [] (f.own.map (·.2))
  have h2 := repI_len (ownsOf fs) (nmsOf f.own) f.ims
  rw [List.length_map] at h1
  have := h.lo
  have := h.li
  unfold twice
  rw [List.length_append]
  omega
section
variable {P : Program} {w : World} {K : PySem.W.Frag} {mg : Str → Option Value} {base : Heap}
def spRN (k : Ks K mg) : Sp := fun vs H Q _ => ∃ (so B Kf a : Addr) (as : List Addr) (fs : List Fd) (f : Fd), vs = [.ref so, .ref a] ∧ SrcA k H so B Kf as fs ∧ FilA k H a f.nm f.T f.ims f.own ∧ f.ok ∧ (∀ g ∈ fs, g.ok) ∧ (∀ q ∈ f.ims, q.1 ∈ fs.map Fd.nm) ∧
  ∀ H' L, Same H H' → H' L = some (.lst (iN (twice fs f))) → Q (.ref L) H'
theorem ok_rn {f : Addr} {fd : FuncData} (F : Fun K "repeated_names" "repeated_names" s_repeated_names f fd) (T : Bl K mg) (k : Ks K mg) (d_own_names : DnO P w K mg base "own_names" 1 ["file"] (spON k)) (d_repeated : DnO P w K mg base "repeated" 1 ["pairs"] spRp) (d_repeated_imports : DnO P w K mg base "repeated_imports" 2 ["sources", "file"] (spRI k))
    (d_outer_bodies : DnO P w K mg base "outer_bodies" 1 ["file"] (spOB k)) (d_loops_of : DnO P w K mg base "loops_of" 1 ["body"] (spLO k)) (d_all_bodies : DnO P w K mg base "all_bodies" 3 ["body"] (spAB k)) : FnOk P w K mg base CX0 4 f fd ["sources", "file"] (spRN k) := by
  refine F.ok scRN (fun vs H Q E h => ?_) (fun cdv A outer s H vs Q E hr h => ?_)
  · obtain ⟨_, _, _, _, _, _, _, rfl, _⟩ := h
    rfl
  · obtain ⟨so, B, Kf, a, as, fs, f, rfl, hS, hA, hf, hg, him, q⟩ := h
    have hlo := hf.lo
    have htl := twice_len (fs := fs) hf
    refine ⟨_, (pss_cons (ps_set (i := 2) scRN.nd rfl (Or.inl rfl) (pe_op op_cat (pe_call d_repeated.ok (hr.mono (by omega)) (by rfl) d_repeated.g d_repeated.kp d_repeated.b .nil pass0 (pa_cons (pe_call d_own_names.ok (hr.mono (by omega)) (by rfl) d_own_names.g d_own_names.kp d_own_names.b .nil pass0 (pa_cons (pv 1) pa_nil)) pa_nil)) (pe_call d_repeated_imports.ok (hr.mono (by omega)) (by rfl) d_repeated_imports.g d_repeated_imports.kp d_repeated_imports.b .nil pass0 (pa_cons (pv 0) (pa_cons (pv 1) pa_nil)))))
      (pss_cons (ps_for PassesOwn.never rfl (pi_list (pe_call d_outer_bodies.ok (hr.mono (by omega)) (by rfl) d_outer_bodies.g d_outer_bodies.kp d_outer_bodies.b .nil pass0 (pa_cons (pv 1) pa_nil))) (pg_name (i := 3) scRN.nd rfl (Or.inl rfl))
        (pss_cons (ps_set (i := 4) scRN.nd rfl (Or.inr rfl) (pe_lc (own := [("entry", 8)]) (g := gName 8) (by rfl) scRN.nd (pi_list (pe_fld (pv 3) rfl)) (blkOk_by (own := [("entry", 8)]) (N := ["sources", "file", "found", "outer", "names", "body", "source", "item", "entry", "loop", "field"]) (sc := defScope s_repeated_names) (by decide +kernel)) (fun _ _ _ _ _ => (pg_name (i := 8) scRN.nd rfl (Or.inl rfl))) (fun _ _ _ _ _ => pts_nil) (fun _ _ _ _ _ => (pe_fldK (K := K) rfl (pv 8) rfl))))
        (pss_cons (ps_aug (i := 2) scRN.nd rfl (Or.inl rfl) (pe_lc (own := [("loop", 9)]) (g := gName 9) (by rfl) scRN.nd (pi_list (pe_call d_loops_of.ok (hr.mono (by omega)) (by rfl) d_loops_of.g d_loops_of.kp d_loops_of.b .nil pass0 (pa_cons (pv 3) pa_nil))) (blkOk_by (own := [("loop", 9)]) (N := ["sources", "file", "found", "outer", "names", "body", "source", "item", "entry", "loop", "field"]) (sc := defScope s_repeated_names) (by decide +kernel)) (fun _ _ _ _ _ => (pg_name (i := 9) scRN.nd rfl (Or.inl rfl))) (fun _ _ _ _ _ => (pts_one (pt_cmpR (r := rIn K false) op_in_seq (pe_fldK (K := K) rfl (pv 9) rfl) (pv 4) (by rfl)))) (fun _ _ _ _ _ => (pe_fldK (K := K) rfl (pv 9) rfl))) pip_ext)
        (pss_one (ps_for PassesOwn.never rfl (pi_list (pe_call d_all_bodies.ok (hr.mono (by omega)) (by rfl) d_all_bodies.g d_all_bodies.kp d_all_bodies.b .nil pass0 (pa_cons (pv 3) pa_nil))) (pg_name (i := 5) scRN.nd rfl (Or.inl rfl))
          (pss_one (ps_aug (i := 2) scRN.nd rfl (Or.inl rfl) (pe_call d_repeated.ok (hr.mono (by omega)) (by rfl) d_repeated.g d_repeated.kp d_repeated.b .nil pass0 (pa_cons (pe_lc (own := [("entry", 8)]) (g := gName 8) (by rfl) scRN.nd (pi_list (pe_fld (pv 5) rfl)) (blkOk_by (own := [("entry", 8)]) (N := ["sources", "file", "found", "outer", "names", "body", "source", "item", "entry", "loop", "field"]) (sc := defScope s_repeated_names) (by decide +kernel)) (fun _ _ _ _ _ => (pg_name (i := 8) scRN.nd rfl (Or.inl rfl))) (fun _ _ _ _ _ => pts_nil) (fun _ _ _ _ _ => (pe_tup (pa_cons (pe_fldK (K := K) rfl (pv 8) rfl) (pa_cons (pe_fldK (K := K) rfl (pv 8) rfl) pa_nil))))) pa_nil)) pip_ext)))))))
      (pss_cons (ps_for PassesOwn.never rfl (pi_list (pe_fld (pv 1) rfl)) (pg_name (i := 6) scRN.nd rfl (Or.inl rfl))
        (pss_cons (ps_aug (i := 2) scRN.nd rfl (Or.inl rfl) (pe_call d_repeated.ok (hr.mono (by omega)) (by rfl) d_repeated.g d_repeated.kp d_repeated.b .nil pass0 (pa_cons (pe_lc (own := [("field", 10)]) (g := gName 10) (by rfl) scRN.nd (pi_list (pe_fld (pv 6) rfl)) (blkOk_by (own := [("field", 10)]) (N := ["sources", "file", "found", "outer", "names", "body", "source", "item", "entry", "loop", "field"]) (sc := defScope s_repeated_names) (by decide +kernel)) (fun _ _ _ _ _ => (pg_name (i := 10) scRN.nd rfl (Or.inl rfl))) (fun _ _ _ _ _ => pts_nil) (fun _ _ _ _ _ => (pe_tup (pa_cons (pe_fldK (K := K) rfl (pv 10) rfl) (pa_cons (pe_fldK (K := K) rfl (pv 10) rfl) pa_nil))))) pa_nil)) pip_ext)
        (pss_one (ps_for PassesOwn.never rfl (pi_list (pe_fld (pv 6) rfl)) (pg_name (i := 7) scRN.nd rfl (Or.inl rfl))
          (pss_one (ps_aug (i := 2) scRN.nd rfl (Or.inl rfl) (pe_call d_repeated.ok (hr.mono (by omega)) (by rfl) d_repeated.g d_repeated.kp d_repeated.b .nil pass0 (pa_cons (pe_lc (own := [("entry", 8)]) (g := gName 8) (by rfl) scRN.nd (pi_list (pe_fld (pv 7) rfl)) (blkOk_by (own := [("entry", 8)]) (N := ["sources", "file", "found", "outer", "names", "body", "source", "item", "entry", "loop", "field"]) (sc := defScope s_repeated_names) (by decide +kernel)) (fun _ _ _ _ _ => (pg_name (i := 8) scRN.nd rfl (Or.inl rfl))) (fun _ _ _ _ _ => pts_nil) (fun _ _ _ _ _ => (pe_tup (pa_cons (pe_fldK (K := K) rfl (pv 8) rfl) (pa_cons (pe_fldK (K := K) rfl (pv 8) rfl) pa_nil))))) pa_nil)) pip_ext))))))
      (pss_one (ps_ret (pv 2)))))), ?_⟩
    refine ⟨.ref a, rfl, a, f, rfl, hA, hf.asc, hf.lo, fun H1 L1 ts s1 n1 h1 pr => ⟨L1, ts, _, rfl, h1, pr, by rw [List.length_map]; omega, fun H2 L2 s2 n2 h2 => ?_⟩⟩
    have s02 := s1.trans s2
    refine ⟨.ref so, rfl, .ref a, rfl, so, B, Kf, a, as, fs, f, rfl, hS.same s02, hA.same s02, hf, hg, him, fun H3 L3 s3 n3 h3 => ?_⟩
    have h23 := s3 _ _ h2
    have e12 : iN (rep [] (f.own.map (·.2))) ++ iN (repI (ownsOf fs) (nmsOf f.own) f.ims) = iN (twice fs f) := by unfold iN twice; rw [List.map_append]
    refine ⟨L2, L3, _, _, rfl, rfl, h23, h3, by rw [← List.length_append, e12]; unfold iN; rw [List.length_map]; exact big_le (by omega), fun R nR => ?_⟩
    rw [e12]
    have s4 := same_new (o := .lst (iN (twice fs f))) nR
    have hR4 := upd_same (H := H3) (a := R) (o := .lst (iN (twice fs f)))
    have s04 : Same H (upd H3 R (.lst (iN (twice fs f)))) := (s02.trans s3).trans s4
    have nR0 : H R = none := same_dm (s02.trans s3) _ nR
    generalize upd H3 R (.lst (iN (twice fs f))) = H4 at hR4 s04
    have ext0 : iN (twice fs f) ++ [] = iN (twice fs f) := List.append_nil _
    have szR : (iN (twice fs f)).length + ([] : List V).length ≤ sizeLine := by
      unfold iN
      rw [List.length_map]
      exact big_le (by simp; omega)
    refine ⟨.ref a, rfl, a, f, H, rfl, s04, hA, hf.lo, fun H5 L5 bs s5 n5 h5 hbs => ⟨L5, rfl, ⟨_, SqL.of h5⟩, ?_⟩⟩
    have hR5 := s5 _ _ hR4
    have R5 : R ≠ L5 := fun z => by rw [← z, hR4] at n5; cases n5
    have s05 := s04.trans s5
    -- what stays while found is stored again
    have keepR : ∀ {Hi : Hp}, (∀ b o, b ≠ R → H5 b = some o → Hi b = some o) → Same H Hi := fun z b o e => z b o (ne_of_none e nR0) (s05 b o e)
    refine for_list (K := K) (a := L5) (xs := refs bs) (fun i σ Hi => ∃ (y3 y4 y5 y6 y7 y8 y9 y10 : Option V), σ = [some (.ref so), some (.ref a), some (.ref R), y3, y4, y5, y6, y7, y8, y9, y10] ∧ (∀ b o, b ≠ R → H5 b = some o → Hi b = some o) ∧ Hi R = some (.lst (iN (twice fs f))))
      ⟨_, _, _, _, _, _, _, _, rfl, fun _ _ _ e => e, hR5⟩ (fun i σ Hi _ hP => by obtain ⟨_, _, _, _, _, _, _, _, _, sm, _⟩ := hP; exact SqL.of (sm _ _ R5.symm h5)) (fun i x σ Hi hx hP => ?_) (fun σ Hi hP => ?_)
    · obtain ⟨y3, y4, y5, y6, y7, y8, y9, y10, rfl, sm, hRi⟩ := hP
      obtain ⟨u, rfl, hu⟩ : ∃ u, x = .ref u ∧ bs[i]? = some u := by
        rw [List.getElem?_map] at hx
        obtain ⟨t, h1, e⟩ := Option.map_eq_some_iff.mp hx
        exact ⟨t, e.symm, h1⟩
      obtain ⟨y, hy, hB5⟩ := hbs.at hu
      have sHi := keepR sm
      obtain ⟨d, l, b, s0, e0, ga, gl, gE⟩ := hB5.same sHi
      obtain ⟨de, v, p, y0, e1, gb, gv⟩ := gE
      -- names = [entry.name for entry in outer.entries]
      refine ⟨.ref u, rfl, _, _, _, _, _, rfl, ga, k.Body.cl, k.Body.nf.get ix_Body_entries, lkZ ix_Body_entries rfl, l, rfl, ⟨_, SqL.of gl⟩, fun D nD => ?_⟩
      refine lc_list (K := K) (a := l) (xs := [.ref b]) (fun i Hj => Same Hi Hj ∧ Hj D = some (.lst (([.str "n"] : List V).take i))) ⟨same_new nD, upd_same⟩ (fun i Hj _ hP => SqL.of (hP.1 _ _ gl)) (fun i2 x1 Hj hx hP => ?_) (fun Hj hP => ?_)
      · obtain ⟨smj, hD⟩ := hP
        have hi : i2 = 0 := by
          have := (List.getElem?_eq_some_iff.mp hx).1
          simp at this
          exact this
        subst hi
        obtain rfl : V.ref b = x1 := by simpa using hx
        have gbj := smj _ _ gb
        exact ⟨rfl, .ref b, rfl, _, _, _, _, _, rfl, gbj, k.Entry.cl, k.Entry.nf.get ix_Entry_name, lkZ ix_Entry_name rfl, [], hD, by decide, same_put smj nD, upd_same⟩
      · obtain ⟨smj, hD⟩ := hP
        have hRj := smj _ _ hRi
        have sHj := sHi.trans smj
        -- found += [.. for loop in loops_of(outer) if ..]
        refine ⟨.ref R, rfl, .ref u, rfl, u, rfl, ⟨_, _, hB5.same sHj⟩, fun H6 L6 s6 n6 h6 => ⟨L6, rfl, ⟨_, SqL.of h6⟩, fun D2 nD2 => ?_⟩⟩
        refine lc_list (K := K) (a := L6) (xs := []) (fun i Hk => Hk = upd H6 D2 (.lst [])) rfl (fun i Hk _ hP => by rw [hP]; exact SqL.of (same_new nD2 _ _ h6)) (fun i x1 Hk hx hP => by simp at hx) (fun Hk hP => ?_)
        subst hP
        have s67 := same_new (o := .lst []) nD2
        have hR7 := s67 _ _ (s6 _ _ hRj)
        have hD7 := upd_same (H := H6) (a := D2) (o := .lst [])
        have RD2 : R ≠ D2 := fun z => by rw [← z, s6 _ _ hRj] at nD2; cases nD2
        refine ⟨R, D2, _, [], rfl, rfl, hR7, hD7, szR, ?_⟩
        rw [ext0]
        have s5i : ∀ b o, b ≠ R → H5 b = some o → (upd (upd H6 D2 (.lst [])) R (.lst (iN (twice fs f)))) b = some o := fun b o nb e => by
          rw [upd_ne nb]
          exact s67 _ _ (s6 _ _ (smj _ _ (sm b o nb e)))
        have hR8 := upd_same (H := upd H6 D2 (.lst [])) (a := R) (o := .lst (iN (twice fs f)))
        generalize upd (upd H6 D2 (.lst [])) R (.lst (iN (twice fs f))) = H8 at s5i hR8
        have s08 := keepR s5i
        -- for body in all_bodies(outer)
        refine ⟨.ref u, rfl, u, rfl, ⟨_, _, hB5.same s08⟩, fun H9 L9 s9 n9 h9 => ⟨L9, rfl, ⟨_, SqL.of h9⟩, ?_⟩⟩
        have R9 : R ≠ L9 := fun z => by rw [← z, hR8] at n9; cases n9
        have hR9 := s9 _ _ hR8
        refine for_list (K := K) (a := L9) (xs := [.ref u]) (fun i σ Hk => ∃ (y5 y6 y7 y8 y9 y10 : Option V), σ = [some (.ref so), some (.ref a), some (.ref R), some (.ref u), some (.ref D), y5, y6, y7, y8, y9, y10] ∧ (∀ b o, b ≠ R → H9 b = some o → Hk b = some o) ∧ Hk R = some (.lst (iN (twice fs f))))
          ⟨_, _, _, _, _, _, rfl, fun _ _ _ e => e, hR9⟩ (fun i σ Hk _ hP => by obtain ⟨_, _, _, _, _, _, _, smk, _⟩ := hP; exact SqL.of (smk _ _ R9.symm h9)) (fun i2 x1 σ Hk hx hP => ?_) (fun σ Hk hP => ?_)
        · obtain ⟨y5, y6, y7, y8, y9, y10, rfl, smk, hRk⟩ := hP
          have hi : i2 = 0 := by
            have := (List.getElem?_eq_some_iff.mp hx).1
            simp at this
            exact this
          subst hi
          obtain rfl : V.ref u = x1 := by simpa using hx
          have s5k : ∀ b o, b ≠ R → H5 b = some o → Hk b = some o := fun b o nb e => smk b o nb (s9 _ _ (s5i b o nb e))
          obtain ⟨d', l', b', s0', e0', ga', gl', gE'⟩ := hB5.same (keepR s5k)
          obtain ⟨de', v', p', y0', e1', gb', gv'⟩ := gE'
          refine ⟨.ref R, rfl, .ref u, rfl, _, _, _, _, _, rfl, ga', k.Body.cl, k.Body.nf.get ix_Body_entries, lkZ ix_Body_entries rfl, l', rfl, ⟨_, SqL.of gl'⟩, fun D3 nD3 => ?_⟩
          refine lc_list (K := K) (a := l') (xs := [.ref b']) (fun i Hm => Same Hk Hm ∧ ∃ tt, Hm D3 = some (.lst (refs tt)) ∧ Prs Hm tt (([("n", p')] : List (Str × Nat)).take i)) ⟨same_new nD3, [], upd_same, trivial⟩ (fun i Hm _ hP => SqL.of (hP.1 _ _ gl')) (fun i3 x1 Hm hx hP => ?_) (fun Hm hP => ?_)
          · obtain ⟨smm, tt, hD3, htt⟩ := hP
            have hi : i3 = 0 := by
              have := (List.getElem?_eq_some_iff.mp hx).1
              simp at this
              exact this
            subst hi
            obtain rfl : V.ref b' = x1 := by simpa using hx
            have gbm := smm _ _ gb'
            have tl := htt.len
            obtain rfl : tt = [] := List.length_eq_zero_iff.mp (by simpa using tl)
            refine ⟨rfl, .ref b', rfl, _, _, _, _, _, rfl, gbm, k.Entry.cl, k.Entry.nf.get ix_Entry_name, lkZ ix_Entry_name rfl, .ref b', rfl, _, _, _, _, _, rfl, gbm, k.Entry.cl, k.Entry.nf.get ix_Entry_name_start, lkZ ix_Entry_name_start rfl, by show 2 ≤ sizeLine; decide, fun t nt => ?_⟩
            have s1' := same_new (o := .tup [.str "n", .int (p' : Nat)]) nt
            have hD3' := s1' _ _ hD3
            refine ⟨[], hD3', by decide, same_put (smm.trans s1') nD3, [t], upd_same, ?_⟩
            exact Prs.put ⟨upd_same, trivial⟩ hD3'
          · obtain ⟨smm, tt, hD3, htt⟩ := hP
            refine ⟨D3, tt, [("n", p')], rfl, hD3, htt, by show 1 ≤ 1000; decide, fun H10 L10 s10 n10 h10 => ?_⟩
            have hR10 := s10 _ _ (smm _ _ hRk)
            have h10 : H10 L10 = some (.lst []) := h10
            refine ⟨R, L10, _, [], rfl, rfl, hR10, h10, szR, ?_⟩
            rw [ext0]
            exact ⟨_, _, _, _, _, _, rfl, fun b o nb e => by rw [upd_ne nb]; exact s10 _ _ (smm _ _ (smk b o nb e)), upd_same⟩
        · obtain ⟨y5, y6, y7, y8, y9, y10, rfl, smk, hRk⟩ := hP
          exact ⟨_, _, _, _, _, _, _, _, rfl, fun b o nb e => smk b o nb (s9 _ _ (s5i b o nb e)), hRk⟩
    · obtain ⟨y3, y4, y5, y6, y7, y8, y9, y10, rfl, sm, hRi⟩ := hP
      obtain ⟨da, l1, l2, l3, ds, ts1, us, vs, g1, g2, g3, g4, g5, g6, g7⟩ := hA
      have sHi := keepR sm
      have g1' := sHi _ _ g1
      refine ⟨.ref a, rfl, _, _, _, _, _, rfl, g1', k.FileSource.cl, k.FileSource.nf.get ix_FileSource_list_sources, lkZ ix_FileSource_list_sources rfl, l3, rfl, ⟨_, SqL.of (sHi _ _ g6)⟩, ?_⟩
      refine for_list (K := K) (a := l3) (xs := refs vs) (fun i σ Hk => ∃ (y3 y4 y5 y6 y7 y8 y9 y10 : Option V), σ = [some (.ref so), some (.ref a), some (.ref R), y3, y4, y5, y6, y7, y8, y9, y10] ∧ (∀ b o, b ≠ R → H5 b = some o → Hk b = some o) ∧ Hk R = some (.lst (iN (twice fs f))))
        ⟨_, _, _, _, _, _, _, _, rfl, sm, hRi⟩ (fun i σ Hk _ hP => by obtain ⟨_, _, _, _, _, _, _, _, _, smk, _⟩ := hP; exact SqL.of (keepR smk _ _ g6)) (fun i x1 σ Hk hx hP => ?_) (fun σ Hk hP => ?_)
      · obtain ⟨y3, y4, y5, y6, y7, y8, y9, y10, rfl, smk, hRk⟩ := hP
        obtain ⟨u, rfl, hu⟩ : ∃ u, x1 = .ref u ∧ vs[i]? = some u := by
          rw [List.getElem?_map] at hx
          obtain ⟨t, h1, e⟩ := Option.map_eq_some_iff.mp hx
          exact ⟨t, e.symm, h1⟩
        obtain ⟨y, hy, hL5⟩ := g7.at hu
        obtain ⟨dl, fl, il, el, d2, o0, c0, st, z1, z2, z3, z4⟩ := hL5.same (keepR smk)
        refine ⟨.ref R, rfl, .ref u, rfl, _, _, _, _, _, rfl, z1, k.ListSource.cl, k.ListSource.nf.get ix_ListSource_fields, lkZ ix_ListSource_fields rfl, fl, rfl, ⟨_, SqL.of z3⟩, fun D3 nD3 => ?_⟩
        refine lc_list (K := K) (a := fl) (xs := [.ref el]) (fun i Hm => Same Hk Hm ∧ ∃ tt, Hm D3 = some (.lst (refs tt)) ∧ Prs Hm tt (([("n", st)] : List (Str × Nat)).take i)) ⟨same_new nD3, [], upd_same, trivial⟩ (fun i Hm _ hP => SqL.of (hP.1 _ _ z3)) (fun i3 x1 Hm hx hP => ?_) (fun Hm hP => ?_)
        · obtain ⟨smm, tt, hD3, htt⟩ := hP
          have hi : i3 = 0 := by
            have := (List.getElem?_eq_some_iff.mp hx).1
            simp at this
            exact this
          subst hi
          obtain rfl : V.ref el = x1 := by simpa using hx
          have gbm := smm _ _ z4
          have tl := htt.len
          obtain rfl : tt = [] := List.length_eq_zero_iff.mp (by simpa using tl)
          refine ⟨rfl, .ref el, rfl, _, _, _, _, _, rfl, gbm, k.ListField.cl, k.ListField.nf.get ix_ListField_name, lkZ ix_ListField_name rfl, .ref el, rfl, _, _, _, _, _, rfl, gbm, k.ListField.cl, k.ListField.nf.get ix_ListField_start, lkZ ix_ListField_start rfl, by show 2 ≤ sizeLine; decide, fun t nt => ?_⟩
          have s1' := same_new (o := .tup [.str "n", .int (st : Nat)]) nt
          have hD3' := s1' _ _ hD3
          refine ⟨[], hD3', by decide, same_put (smm.trans s1') nD3, [t], upd_same, ?_⟩
          exact Prs.put ⟨upd_same, trivial⟩ hD3'
        · obtain ⟨smm, tt, hD3, htt⟩ := hP
          refine ⟨D3, tt, [("n", st)], rfl, hD3, htt, by show 1 ≤ 1000; decide, fun H10 L10 s10 n10 h10 => ?_⟩
          have hR10 := s10 _ _ (smm _ _ hRk)
          have h10 : H10 L10 = some (.lst []) := h10
          refine ⟨R, L10, _, [], rfl, rfl, hR10, h10, szR, ?_⟩
          rw [ext0]
          have s5m : ∀ b o, b ≠ R → H5 b = some o → (upd H10 R (.lst (iN (twice fs f)))) b = some o := fun b o nb e => by rw [upd_ne nb]; exact s10 _ _ (smm _ _ (smk b o nb e))
          have hRm := upd_same (H := H10) (a := R) (o := .lst (iN (twice fs f)))
          generalize upd H10 R (.lst (iN (twice fs f))) = H11 at s5m hRm
          obtain ⟨dl, fl, il, el, d2, o0, c0, st, z1, z2, z3, z4⟩ := hL5.same (keepR s5m)
          refine ⟨.ref u, rfl, _, _, _, _, _, rfl, z1, k.ListSource.cl, k.ListSource.nf.get ix_ListSource_item_bodies, lkZ ix_ListSource_item_bodies rfl, il, rfl, ⟨_, SqL.of z2⟩, ?_⟩
          refine for_list (K := K) (a := il) (xs := []) (fun i σ Hn => σ = [some (.ref so), some (.ref a), some (.ref R), y3, y4, y5, some (.ref u), y7, y8, y9, y10] ∧ Hn = H11) ⟨rfl, rfl⟩ (fun i σ Hn _ hP => by rw [hP.2]; exact SqL.of z2) (fun i x1 σ Hn hx hP => by simp at hx) (fun σ Hn hP => ?_)
          obtain ⟨rfl, rfl⟩ := hP
          exact ⟨_, _, _, _, _, _, _, _, rfl, s5m, hRm⟩
      · obtain ⟨y3, y4, y5, y6, y7, y8, y9, y10, rfl, smk, hRk⟩ := hP
        exact ⟨.ref R, rfl, q Hk R (keepR smk) hRk⟩
end
end M05

set_option Elab.async false
set_option linter.all false
set_option maxRecDepth 100000
set_option maxHeartbeats 4000000
/-! unknown_names, used_by, uses_itself, rings: nothing is found -/
namespace M05
open PySem PySem.Spec PyProof.Rows L2 GL
theorem scUN : FnScope ["sources", "file", "found", "template", "outer", "entry", "use"] ["sources", "file"] (defScope s_unknown_names) := ⟨rfl, rfl, rfl, by decide +kernel, rfl, by decide +kernel, by decide +kernel⟩
theorem scUB : FnScope ["sources", "file", "template", "names", "entry", "use", "found", "name", "other", "node"] ["sources", "file", "template"] (defScope s_used_by) := ⟨rfl, rfl, rfl, by decide +kernel, rfl, by decide +kernel, by decide +kernel⟩
theorem scUI : FnScope ["sources", "file", "template", "goal", "known", "waiting", "here"] ["sources", "file", "template"] (defScope s_uses_itself) := ⟨rfl, rfl, rfl, by decide +kernel, rfl, by decide +kernel, by decide +kernel⟩
theorem scRg : FnScope ["sources", "file", "one"] ["sources", "file"] (defScope s_rings) := ⟨rfl, rfl, rfl, by decide +kernel, rfl, by decide +kernel, by decide +kernel⟩
theorem scPO : FnScope ["value"] ["value"] (defScope s_paths_of) := ⟨rfl, rfl, rfl, by decide +kernel, rfl, by decide +kernel, by decide +kernel⟩
theorem scLP : FnScope ["home", "value", "path"] ["home", "value"] (defScope s_lost_paths) := ⟨rfl, rfl, rfl, by decide +kernel, rfl, by decide +kernel, by decide +kernel⟩
theorem scHo : FnScope ["self", "sources", "file", "owner"] ["self", "sources", "file", "owner"] (defScope m_Home_init) := ⟨rfl, rfl, rfl, by decide +kernel, rfl, by decide +kernel, by decide +kernel⟩
def tNoT : TT := fun _ _ _ => False
theorem pt_never {X : Cx} {e : Expr} : PT X e tNoT := ⟨fun _ _ _ _ _ _ h => h.elim⟩
theorem one_at {α : Type} {a x : α} {i : Nat} (h : [a][i]? = some x) : i = 0 ∧ a = x := by
  have hi : i = 0 := by
    have := (List.getElem?_eq_some_iff.mp h).1
    simp at this
    exact this
  subst hi
  exact ⟨rfl, by simpa using h⟩
theorem ref_at {ts : List Addr} {x : V} {i : Nat} (h : (refs ts)[i]? = some x) : ∃ t, x = .ref t ∧ ts[i]? = some t := by
  rw [List.getElem?_map] at h
  obtain ⟨t, h1, e⟩ := Option.map_eq_some_iff.mp h
  exact ⟨t, e.symm, h1⟩
section
variable {P : Program} {w : World} {K : PySem.W.Frag} {mg : Str → Option Value} {base : Heap}
/-- of a file nothing is found -/
def spNone (k : Ks K mg) : Sp := fun vs H Q _ => ∃ (so a : Addr) (f : Fd), vs = [.ref so, .ref a] ∧ FilA k H a f.nm f.T f.ims f.own ∧ f.own.length ≤ 100 ∧ ∀ H' L, Same H H' → H' L = some (.lst []) → Q (.ref L) H'
theorem ok_un {f : Addr} {fd : FuncData} (F : Fun K "unknown_names" "unknown_names" s_unknown_names f fd) (T : Bl K mg) (k : Ks K mg) (I : Isi k) (d_outer_bodies : DnO P w K mg base "outer_bodies" 1 ["file"] (spOB k)) : FnOk P w K mg base CX0 2 f fd ["sources", "file"] (spNone k) := by
  refine F.ok scUN (fun vs H Q E h => ?_) (fun cdv A outer s H vs Q E hr h => ?_)
  · obtain ⟨_, _, _, rfl, _⟩ := h
    rfl
  · obtain ⟨so, a, f, rfl, hA, hlen, q⟩ := h
    obtain ⟨da, l1, l2, l3, ds, ts, us, vs, g1, g2, g3, g4, g5, g6, g7⟩ := id hA
    refine ⟨_, (pss_cons (ps_set (i := 2) scUN.nd rfl (Or.inl rfl) (pe_lst pa_nil))
      (pss_cons (ps_for PassesOwn.never rfl (pi_list (pe_fld (pv 1) rfl)) (pg_name (i := 3) scUN.nd rfl (Or.inl rfl))
        (pss_one (ps_if (PW.pt (pw_and (pt_cmpR op_notN (pe_fld (pv 3) rfl) pe_non (nomark _)) (pw_and1 pt_never)))
          (pss_one ps_never)
          pss_nil)))
      (pss_cons (ps_for PassesOwn.never rfl (pi_list (pe_call d_outer_bodies.ok (hr.mono (by omega)) (by rfl) d_outer_bodies.g d_outer_bodies.kp d_outer_bodies.b .nil pass0 (pa_cons (pv 1) pa_nil))) (pg_name (i := 4) scUN.nd rfl (Or.inl rfl))
        (pss_one (ps_for PassesOwn.never rfl (pi_list (pe_fld (pv 4) rfl)) (pg_name (i := 5) scUN.nd rfl (Or.inl rfl))
          (pss_cons (ps_set (i := 6) scUN.nd rfl (Or.inl rfl) (pe_ifExp (pt_val (pe_callB call_isi (by rfl) T.isinstance (by decide +kernel) (pa_cons (pe_fld (pv 5) rfl) (pa_cons (pe_glob (v := .ref I.Loop.C) (by rfl) I.Loop.g rfl) pa_nil)))) (pe_fld (pe_fld (pv 5) rfl) rfl) (pe_fld (pv 5) rfl)))
          (pss_cons (ps_if (PW.pt (pw_and (pt_val (pe_callB call_isi (by rfl) T.isinstance (by decide +kernel) (pa_cons (pv 6) (pa_cons (pe_glob (v := .ref I.Use.C) (by rfl) I.Use.g rfl) pa_nil)))) (pw_and1 pt_never)))
            (pss_one ps_never)
            pss_nil)
          (pss_one (ps_if (PW.pt (pw_and (pt_val (pe_callB call_isi (by rfl) T.isinstance (by decide +kernel) (pa_cons (pe_fld (pv 5) rfl) (pa_cons (pe_glob (v := .ref I.Loop.C) (by rfl) I.Loop.g rfl) pa_nil)))) (pw_and1 pt_never)))
            (pss_one ps_never)
            pss_nil)))))))
      (pss_one (ps_ret (pv 2)))))), ?_⟩
    refine ⟨by show 0 ≤ sizeLine; decide, fun L nL => ?_⟩
    have s1 := same_new (o := .lst []) nL
    have hL1 := upd_same (H := H) (a := L) (o := .lst [])
    generalize upd H L (.lst []) = H1 at s1 hL1
    have g1' := s1 _ _ g1
    refine ⟨.ref a, rfl, _, _, _, _, _, rfl, g1', k.FileSource.cl, k.FileSource.nf.get ix_FileSource_templates, lkZ ix_FileSource_templates rfl, l2, rfl, ⟨_, SqL.of (s1 _ _ g4)⟩, ?_⟩
    refine for_list (K := K) (a := l2) (xs := refs us) (fun i σ Hi => ∃ (y3 : Option V), σ = [some (.ref so), some (.ref a), some (.ref L), y3, none, none, none] ∧ Hi = H1) ⟨none, rfl, rfl⟩ (fun i σ Hi _ hP => by obtain ⟨_, _, rfl⟩ := hP; exact SqL.of (s1 _ _ g4)) (fun i x σ Hi hx hP => ?_) (fun σ Hi hP => ?_)
    · obtain ⟨y3, rfl, rfl⟩ := hP
      obtain ⟨u, rfl, hu⟩ := ref_at hx
      obtain ⟨y, hy, dd, bb, hT, hBd⟩ := g5.at hu
      have hT := s1 _ _ hT
      exact ⟨.ref u, rfl, _, _, _, _, _, rfl, hT, k.Template.cl, k.Template.nf.get ix_Template_base, lkZ ix_Template_base rfl, rfl, _, rfl, iteF (iteF ⟨_, rfl, rfl⟩)⟩
    · obtain ⟨y3, rfl, rfl⟩ := hP
      refine ⟨.ref a, rfl, a, f, H, rfl, s1, hA, hlen, fun H5 L5 bs s5 n5 h5 hbs => ⟨L5, rfl, ⟨_, SqL.of h5⟩, ?_⟩⟩
      have s05 := s1.trans s5
      refine for_list (K := K) (a := L5) (xs := refs bs) (fun i σ Hi => ∃ (y3 y4 y5 y6 : Option V), σ = [some (.ref so), some (.ref a), some (.ref L), y3, y4, y5, y6] ∧ Hi = H5) ⟨_, _, _, _, rfl, rfl⟩ (fun i σ Hi _ hP => by obtain ⟨_, _, _, _, _, rfl⟩ := hP; exact SqL.of h5) (fun i x σ Hi hx hP => ?_) (fun σ Hi hP => ?_)
      · obtain ⟨y3, y4, y5, y6, rfl, rfl⟩ := hP
        obtain ⟨u, rfl, hu⟩ := ref_at hx
        obtain ⟨y, hy, hB5⟩ := hbs.at hu
        obtain ⟨d, l, b, s0, e0, ga, gl, gE⟩ := hB5.same s05
        refine ⟨.ref u, rfl, _, _, _, _, _, rfl, ga, k.Body.cl, k.Body.nf.get ix_Body_entries, lkZ ix_Body_entries rfl, l, rfl, ⟨_, SqL.of gl⟩, ?_⟩
        refine for_list (K := K) (a := l) (xs := [.ref b]) (fun i σ Hj => ∃ (y3 y4 y5 y6 : Option V), σ = [some (.ref so), some (.ref a), some (.ref L), y3, y4, y5, y6] ∧ Hj = Hi) ⟨_, _, _, _, rfl, rfl⟩ (fun i σ Hj _ hP => by obtain ⟨_, _, _, _, _, rfl⟩ := hP; exact SqL.of gl) (fun i2 x σ Hi hx hP => ?_) (fun σ Hi hP => ?_)
        · obtain ⟨y3, y4, y5, y6, rfl, rfl⟩ := hP
          obtain ⟨_, rfl⟩ := one_at hx
          obtain ⟨de, v, p, y0, e1, gb, gv⟩ := gE
          refine ⟨.ref b, rfl, _, _, _, _, _, rfl, gb, k.Entry.cl, k.Entry.nf.get ix_Entry_value, lkZ ix_Entry_value rfl, .ref v, .ref I.Loop.C, _, _, false, rfl, .own _, I.ty gv, I.nLoop, false, rfl, iteF ⟨.ref b, rfl, _, _, _, _, _, rfl, gb, k.Entry.cl, k.Entry.nf.get ix_Entry_value, lkZ ix_Entry_value rfl, ?_⟩⟩
          refine ⟨.ref v, rfl, .ref v, .ref I.Use.C, _, _, false, rfl, .own _, I.ty gv, I.nUse, false, rfl, iteF (iteF ?_)⟩
          exact ⟨.ref b, rfl, _, _, _, _, _, rfl, gb, k.Entry.cl, k.Entry.nf.get ix_Entry_value, lkZ ix_Entry_value rfl, .ref v, .ref I.Loop.C, _, _, false, rfl, .own _, I.ty gv, I.nLoop, false, rfl, iteF (iteF ⟨_, _, _, _, rfl, rfl⟩)⟩
        · obtain ⟨y3, y4, y5, y6, rfl, rfl⟩ := hP
          exact ⟨_, _, _, _, rfl, rfl⟩
      · obtain ⟨y3, y4, y5, y6, rfl, rfl⟩ := hP
        exact ⟨.ref L, rfl, q _ L s05 (s5 _ _ hL1)⟩
def spUB (k : Ks K mg) : Sp := fun vs H Q _ => ∃ (so u : Addr) (nm x : Str) (p : Nat), vs = [.ref so, .str nm, .ref u] ∧ TemA k H u x p ∧ ∀ H' L, Same H H' → H' L = some (.lst []) → Q (.ref L) H'
theorem ok_ub {f : Addr} {fd : FuncData} (F : Fun K "used_by" "used_by" s_used_by f fd) (T : Bl K mg) (k : Ks K mg) (I : Isi k) : FnOk P w K mg base CX0 1 f fd ["sources", "file", "template"] (spUB k) := by
  refine F.ok scUB (fun vs H Q E h => ?_) (fun cdv A outer s H vs Q E hr h => ?_)
  · obtain ⟨_, _, _, _, _, rfl, _⟩ := h
    rfl
  · obtain ⟨so, u, nm, x, p, rfl, hT, q⟩ := h
    obtain ⟨dd, bb, hT, hBd⟩ := hT
    refine ⟨_, (pss_cons (ps_set (i := 3) scUB.nd rfl (Or.inl rfl) (pe_ifExp (pt_cmpR op_notN (pe_fld (pv 2) rfl) pe_non (nomark _)) (pe_lst (pa_cons (pe_fld (pv 2) rfl) pa_nil)) (pe_lst pa_nil)))
      (pss_cons (ps_for PassesOwn.never rfl (pi_list (pe_fld (pe_fld (pv 2) rfl) rfl)) (pg_name (i := 4) scUB.nd rfl (Or.inl rfl))
        (pss_cons (ps_set (i := 5) scUB.nd rfl (Or.inl rfl) (pe_ifExp (pt_val (pe_callB call_isi (by rfl) T.isinstance (by decide +kernel) (pa_cons (pe_fld (pv 4) rfl) (pa_cons (pe_glob (v := .ref I.Loop.C) (by rfl) I.Loop.g rfl) pa_nil)))) (pe_fld (pe_fld (pv 4) rfl) rfl) (pe_fld (pv 4) rfl)))
        (pss_one (ps_if (pt_val (pe_callB call_isi (by rfl) T.isinstance (by decide +kernel) (pa_cons (pv 5) (pa_cons (pe_glob (v := .ref I.Use.C) (by rfl) I.Use.g rfl) pa_nil))))
          (pss_one ps_never)
          pss_nil))))
      (pss_cons (ps_setLc (i := 6) (own := [("name", 7)]) (g := gName 7) (by rfl) scUB.nd rfl rfl (sw_true rfl rfl rfl (by decide +kernel)) (pi_list (pv 3)) (blkOk_by (own := [("name", 7)]) (N := ["sources", "file", "template", "names", "entry", "use", "found", "name", "other", "node"]) (sc := defScope s_used_by) (by decide +kernel)) (fun _ _ _ _ _ => (pg_name (i := 7) scUB.nd rfl (Or.inl rfl))) (fun _ _ _ _ _ => pts_nil) (fun _ _ _ _ _ => pe_never))
      (pss_one (ps_ret (pe_lc (own := [("other", 8), ("node", 9)]) (g := gTup K 2 (gCons (gName 8) (gCons (gName 9) gNil))) (by rfl) scUB.nd (pi_list (pv 6)) (blkOk_by (own := [("other", 8), ("node", 9)]) (N := ["sources", "file", "template", "names", "entry", "use", "found", "name", "other", "node"]) (sc := defScope s_used_by) (by decide +kernel)) (fun _ _ _ _ _ => (pg_tup rfl (pgs_cons (pg_name (i := 8) scUB.nd rfl (Or.inl rfl)) (pgs_cons (pg_name (i := 9) scUB.nd rfl (Or.inl rfl)) pgs_nil)))) (fun _ _ _ _ _ => pts_nil) (fun _ _ _ _ _ => pe_never))))))), ?_⟩
    refine ⟨.ref u, rfl, _, _, _, _, _, rfl, hT, k.Template.cl, k.Template.nf.get ix_Template_base, lkZ ix_Template_base rfl, rfl, _, rfl, iteF ⟨by show 0 ≤ sizeLine; decide, fun L nL => ?_⟩⟩
    have s1 := same_new (o := .lst []) nL
    have hL1 := upd_same (H := H) (a := L) (o := .lst [])
    generalize upd H L (.lst []) = H1 at s1 hL1
    have hT1 := s1 _ _ hT
    obtain ⟨d, l, b, s0, e0, ga, gl, gE⟩ := hBd.same s1
    refine ⟨.ref u, rfl, _, _, _, _, _, rfl, hT1, k.Template.cl, k.Template.nf.get ix_Template_body, lkZ ix_Template_body rfl, _, _, _, _, _, rfl, ga, k.Body.cl, k.Body.nf.get ix_Body_entries, lkZ ix_Body_entries rfl, l, rfl, ⟨_, SqL.of gl⟩, ?_⟩
    refine for_list (K := K) (a := l) (xs := [.ref b]) (fun i σ Hi => ∃ (y4 y5 : Option V), σ = [some (.ref so), some (.str nm), some (.ref u), some (.ref L), y4, y5, none, none, none, none] ∧ Hi = H1) ⟨_, _, rfl, rfl⟩ (fun i σ Hi _ hP => by obtain ⟨_, _, _, rfl⟩ := hP; exact SqL.of gl) (fun i2 x σ Hi hx hP => ?_) (fun σ Hi hP => ?_)
    · obtain ⟨y4, y5, rfl, rfl⟩ := hP
      obtain ⟨_, rfl⟩ := one_at hx
      obtain ⟨de, v, p, y0, e1, gb, gv⟩ := gE
      refine ⟨.ref b, rfl, _, _, _, _, _, rfl, gb, k.Entry.cl, k.Entry.nf.get ix_Entry_value, lkZ ix_Entry_value rfl, .ref v, .ref I.Loop.C, _, _, false, rfl, .own _, I.ty gv, I.nLoop, false, rfl, iteF ⟨.ref b, rfl, _, _, _, _, _, rfl, gb, k.Entry.cl, k.Entry.nf.get ix_Entry_value, lkZ ix_Entry_value rfl, ?_⟩⟩
      exact ⟨.ref v, rfl, .ref v, .ref I.Use.C, _, _, false, rfl, .own _, I.ty gv, I.nUse, false, rfl, iteF ⟨_, _, rfl, rfl⟩⟩
    · obtain ⟨y4, y5, rfl, rfl⟩ := hP
      refine ⟨.ref L, rfl, L, rfl, ⟨_, SqL.of hL1⟩, fun D nD => ?_⟩
      refine lc_list (K := K) (a := L) (xs := []) (fun i Hk => Hk = upd _ D (.lst [])) rfl (fun i Hk _ hP => by rw [hP]; exact SqL.of (same_new nD _ _ hL1)) (fun i x1 Hk hx hP => by simp at hx) (fun Hk hP => ?_)
      subst hP
      have s2 := same_new (o := .lst []) nD
      have hD := upd_same (a := D) (o := .lst []) (H := Hi)
      refine ⟨.ref D, rfl, D, rfl, ⟨_, SqL.of hD⟩, fun D2 nD2 => ?_⟩
      refine lc_list (K := K) (a := D) (xs := []) (fun i Hk => Hk = upd _ D2 (.lst [])) rfl (fun i Hk _ hP => by rw [hP]; exact SqL.of (same_new nD2 _ _ hD)) (fun i x1 Hk hx hP => by simp at hx) (fun Hk hP => ?_)
      subst hP
      exact q _ D2 ((s1.trans s2).trans (same_new nD2)) upd_same
def spUI (k : Ks K mg) : Sp := fun vs H Q _ => ∃ (so u : Addr) (nm x : Str) (p : Nat), vs = [.ref so, .str nm, .ref u] ∧ TemA k H u x p ∧ ∀ H', Same H H' → Q (.bl false) H'
theorem ok_ui {f : Addr} {fd : FuncData} (F : Fun K "uses_itself" "uses_itself" s_uses_itself f fd) (T : Bl K mg) (k : Ks K mg) (d_used_by : DnO P w K mg base "used_by" 1 ["sources", "file", "template"] (spUB k)) : FnOk P w K mg base CX0 2 f fd ["sources", "file", "template"] (spUI k) := by
  refine F.ok scUI (fun vs H Q E h => ?_) (fun cdv A outer s H vs Q E hr h => ?_)
  · obtain ⟨_, _, _, _, _, rfl, _⟩ := h
    rfl
  · obtain ⟨so, u, nm, x, p, rfl, hT, q⟩ := h
    obtain ⟨dd, bb, hTt, hBd⟩ := id hT
    refine ⟨_, (pss_cons (ps_par3 (i := 3) (j := 4) (l := 5) (by rfl) scUI.nd rfl rfl rfl (by decide) (by decide) (by decide) rfl rfl rfl (pa_cons (pe_tup (pa_cons (pv 1) (pa_cons (pe_fld (pv 2) rfl) pa_nil))) (pa_cons pe_dnewK (pa_cons (pe_call d_used_by.ok (hr.mono (by omega)) (by rfl) d_used_by.g d_used_by.kp d_used_by.b .nil pass0 (pa_cons (pv 0) (pa_cons (pv 1) (pa_cons (pv 2) pa_nil)))) pa_nil))) (by rfl))
      (pss_cons (ps_while PassesOwn.never (pt_cmpR (op_neE hr.units0) (pv 5) (pe_lst pa_nil) (nomark _))
        (pss_cons ps_never
        (pss_cons ps_never
        (pss_one ps_never))))
      (pss_one (ps_ret pe_bl)))), ?_⟩
    refine ⟨.str nm, rfl, .ref u, rfl, _, _, _, _, _, rfl, hTt, k.Template.cl, k.Template.nf.get ix_Template_name, lkZ ix_Template_name rfl, by show 2 ≤ sizeLine; decide, fun t nt => fun M nM => ?_⟩
    have s1 := (same_new (o := .tup [.str nm, .str x]) nt).trans (same_new (o := .dK []) nM)
    refine ⟨.ref so, rfl, .str nm, rfl, .ref u, rfl, so, u, nm, x, p, rfl, hT.same s1, fun H2 L s2 hL => ⟨_, _, _, rfl, ?_⟩⟩
    refine ⟨fun m σ' H' => m = 0 ∧ σ' = [some (.ref so), some (.str nm), some (.ref u), some (.ref t), some (.ref M), some (.ref L), none] ∧ H' = H2, ⟨0, rfl, rfl, rfl⟩, ?_⟩
    rintro m σ' H' ⟨rfl, rfl, rfl⟩
    refine ⟨.ref L, rfl, by show 0 ≤ sizeLine; decide, fun e0 ne0 => ?_⟩
    have s5 := same_new (o := .lst []) ne0
    exact ⟨L, e0, [], rfl, rfl, SqL.of (s5 _ _ hL), SqL.of upd_same, _, rfl, iteF (q _ ((s1.trans s2).trans s5))⟩
theorem ok_rings {f : Addr} {fd : FuncData} (F : Fun K "rings" "rings" s_rings f fd) (T : Bl K mg) (k : Ks K mg) (d_uses_itself : DnO P w K mg base "uses_itself" 2 ["sources", "file", "template"] (spUI k)) : FnOk P w K mg base CX0 3 f fd ["sources", "file"] (spNone k) := by
  refine F.ok scRg (fun vs H Q E h => ?_) (fun cdv A outer s H vs Q E hr h => ?_)
  · obtain ⟨_, _, _, rfl, _⟩ := h
    rfl
  · obtain ⟨so, a, f, rfl, hA, hlen, q⟩ := h
    obtain ⟨da, l1, l2, l3, ds, ts, us, vs, g1, g2, g3, g4, g5, g6, g7⟩ := id hA
    refine ⟨_, (pss_one (ps_ret (pe_lc (own := [("one", 2)]) (g := gName 2) (by rfl) scRg.nd (pi_list (pe_fld (pv 1) rfl)) (blkOk_by (own := [("one", 2)]) (N := ["sources", "file", "one"]) (sc := defScope s_rings) (by decide +kernel)) (fun _ _ _ _ _ => (pg_name (i := 2) scRg.nd rfl (Or.inl rfl))) (fun _ _ _ _ _ => (pts_one (pt_val (pe_call d_uses_itself.ok (hr.mono (by omega)) (by rfl) d_uses_itself.g d_uses_itself.kp d_uses_itself.b .nil pass0 (pa_cons (pv 0) (pa_cons (pe_fldK (K := K) rfl (pv 1) rfl) (pa_cons (pv 2) pa_nil))))))) (fun _ _ _ _ _ => (pe_fldK (K := K) rfl (pv 2) rfl))))), ?_⟩
    refine ⟨.ref a, rfl, _, _, _, _, _, rfl, g1, k.FileSource.cl, k.FileSource.nf.get ix_FileSource_templates, lkZ ix_FileSource_templates rfl, l2, rfl, ⟨_, SqL.of g4⟩, fun D nD => ?_⟩
    refine lc_list (K := K) (a := l2) (xs := refs us) (fun i Hi => Same H Hi ∧ Hi D = some (.lst [])) ⟨same_new nD, upd_same⟩ (fun i Hi _ hP => SqL.of (hP.1 _ _ g4)) (fun i x1 Hi hx hP => ?_) (fun Hi hP => q Hi D hP.1 hP.2)
    obtain ⟨sm, hD⟩ := hP
    obtain ⟨u, rfl, hu⟩ := ref_at hx
    obtain ⟨y, hy, hT⟩ := g5.at hu
    have g1i := sm _ _ g1
    exact ⟨rfl, .ref so, rfl, .ref a, rfl, _, _, _, _, _, rfl, g1i, k.FileSource.cl, k.FileSource.nf.get ix_FileSource_name, lkZ ix_FileSource_name rfl, .ref u, rfl, so, u, f.nm, y.1, y.2, rfl, hT.same sm, fun H2 s2 => ⟨false, rfl, sm.trans s2, s2 _ _ hD⟩⟩
def spPO (k : Ks K mg) : Sp := fun vs H Q _ => ∃ (v : Addr) (n : Int), vs = [.ref v] ∧ LitA k H v n ∧ ∀ H' L, Same H H' → H' L = some (.lst []) → Q (.ref L) H'
theorem ok_po {f : Addr} {fd : FuncData} (F : Fun K "paths_of" "paths_of" s_paths_of f fd) (T : Bl K mg) (k : Ks K mg) (I : Isi k) : FnOk P w K mg base CX0 1 f fd ["value"] (spPO k) := by
  refine F.ok scPO (fun vs H Q E h => ?_) (fun cdv A outer s H vs Q E hr h => ?_)
  · obtain ⟨_, _, rfl, _⟩ := h
    rfl
  · obtain ⟨v, n, rfl, hv, q⟩ := h
    refine ⟨_, (pss_cons (ps_if (pt_val (pe_callB call_isi (by rfl) T.isinstance (by decide +kernel) (pa_cons (pv 0) (pa_cons (pe_glob (v := .ref I.Sum.C) (by rfl) I.Sum.g rfl) pa_nil))))
        (pss_one ps_never)
        pss_nil)
      (pss_cons (ps_if (pt_val (pe_callB call_isi (by rfl) T.isinstance (by decide +kernel) (pa_cons (pv 0) (pa_cons (pe_glob (v := .ref I.Choice.C) (by rfl) I.Choice.g rfl) pa_nil))))
        (pss_one ps_never)
        pss_nil)
      (pss_one (ps_ret (pe_lst pa_nil))))), ?_⟩
    refine ⟨.ref v, rfl, .ref v, .ref I.Sum.C, _, _, false, rfl, .own _, I.ty hv, I.nSum, false, rfl, iteF ?_⟩
    refine ⟨.ref v, rfl, .ref v, .ref I.Choice.C, _, _, false, rfl, .own _, I.ty hv, I.nChoice, false, rfl, iteF ⟨by show 0 ≤ sizeLine; decide, fun L nL => ?_⟩⟩
    exact q _ L (same_new nL) upd_same
def spLP (k : Ks K mg) : Sp := fun vs H Q _ => ∃ (ho v : Addr) (n : Int), vs = [.ref ho, .ref v] ∧ LitA k H v n ∧ ∀ H' L, Same H H' → H' L = some (.lst []) → Q (.ref L) H'
theorem ok_lp {f : Addr} {fd : FuncData} (F : Fun K "lost_paths" "lost_paths" s_lost_paths f fd) (T : Bl K mg) (k : Ks K mg) (d_paths_of : DnO P w K mg base "paths_of" 1 ["value"] (spPO k)) : FnOk P w K mg base CX0 2 f fd ["home", "value"] (spLP k) := by
  refine F.ok scLP (fun vs H Q E h => ?_) (fun cdv A outer s H vs Q E hr h => ?_)
  · obtain ⟨_, _, _, rfl, _⟩ := h
    rfl
  · obtain ⟨ho, v, n, rfl, hv, q⟩ := h
    refine ⟨_, (pss_one (ps_ret (pe_lc (own := [("path", 2)]) (g := gName 2) (by rfl) scLP.nd (pi_list (pe_call d_paths_of.ok (hr.mono (by omega)) (by rfl) d_paths_of.g d_paths_of.kp d_paths_of.b .nil pass0 (pa_cons (pv 1) pa_nil))) (blkOk_by (own := [("path", 2)]) (N := ["home", "value", "path"]) (sc := defScope s_lost_paths) (by decide +kernel)) (fun _ _ _ _ _ => (pg_name (i := 2) scLP.nd rfl (Or.inl rfl))) (fun _ _ _ _ _ => (pts_one pt_never)) (fun _ _ _ _ _ => pe_never)))), ?_⟩
    refine ⟨.ref v, rfl, v, n, rfl, hv, fun H1 L s1 hL => ⟨L, rfl, ⟨_, SqL.of hL⟩, fun D nD => ?_⟩⟩
    refine lc_list (K := K) (a := L) (xs := []) (fun i Hk => Hk = upd H1 D (.lst [])) rfl (fun i Hk _ hP => by rw [hP]; exact SqL.of (same_new nD _ _ hL)) (fun i x1 Hk hx hP => by simp at hx) (fun Hk hP => ?_)
    subst hP
    exact q _ D (s1.trans (same_new nD)) upd_same
/-- a home: its sources, file, owner -/
def HomA (k : Ks K mg) (H : Hp) (ho so : Addr) (nm x : Str) : Prop := ∃ d t, H ho = some (.ins k.Home.C d (nHome.zip [.ref so, .ref t, .non, .non])) ∧ H t = some (.tup [.str nm, .str x])
def spHo (k : Ks K mg) : Sp := fun vs H Q _ => ∃ (a dx so : Addr) (nm x : Str), vs = [.ref a, .ref so, .str nm, .str x] ∧ H a = some (.ins k.Home.C dx []) ∧ ∀ H', Off a H H' → HomA k H' a so nm x → Q .non H'
theorem ok_ho {f : Addr} {fd : FuncData} (F : Fun K "__init__" "Home.__init__" m_Home_init f fd) (T : Bl K mg) (k : Ks K mg) : FnOk P w K mg base CX0 1 f fd ["self", "sources", "file", "owner"] (spHo k) := by
  refine F.ok scHo (fun vs H Q E h => ?_) (fun cdv A outer s H vs Q E hr h => ?_)
  · obtain ⟨_, _, _, _, _, rfl, _⟩ := h
    rfl
  · obtain ⟨a, dx, so, nm, x, rfl, hR, q⟩ := h
    refine ⟨_, (pss_cons (ps_fldZ (pv 0) (pv 1) rfl)
      (pss_cons (ps_fldZ (pv 0) (pe_tup (pa_cons (pv 2) (pa_cons (pv 3) pa_nil))) rfl)
      (pss_cons (ps_fldZ (pv 0) pe_non rfl)
      (pss_one (ps_fldZ (pv 0) pe_non rfl))))), ?_⟩
    have hR : H a = some (.ins k.Home.C dx (nHome.zip [])) := hR
    refine ⟨.ref so, rfl, .ref a, rfl, _, _, _, _, _, _, rfl, hR, k.Home.cl, k.Home.nf.get ix_Home_sources, ix_Home_sources, Nat.le_of_ble_eq_true rfl, k.Home.len, fun H1 o1 h1 => ?_⟩
    refine ⟨.str nm, rfl, .str x, rfl, by show 2 ≤ sizeLine; decide, fun t nt => ?_⟩
    have s2 := same_new (o := .tup [.str nm, .str x]) nt
    have h2 := s2 _ _ h1
    have t2 := upd_same (H := H1) (a := t) (o := .tup [.str nm, .str x])
    have ta : t ≠ a := fun z => by rw [z, h1] at nt; cases nt
    refine ⟨.ref a, rfl, _, _, _, _, _, _, rfl, h2, k.Home.cl, k.Home.nf.get ix_Home_owner, ix_Home_owner, Nat.le_of_ble_eq_true rfl, k.Home.len, fun H3 o3 h3 => ?_⟩
    refine ⟨.ref a, rfl, _, _, _, _, _, _, rfl, h3, k.Home.cl, k.Home.nf.get ix_Home_loop, ix_Home_loop, Nat.le_of_ble_eq_true rfl, k.Home.len, fun H4 o4 h4 => ?_⟩
    refine ⟨.ref a, rfl, _, _, _, _, _, _, rfl, h4, k.Home.cl, k.Home.nf.get ix_Home_list, ix_Home_list, Nat.le_of_ble_eq_true rfl, k.Home.len, fun H5 o5 h5 => ?_⟩
    exact q H5 (fun b y nb e => o5 b y nb (o4 b y nb (o3 b y nb (s2 b y (o1 b y nb e))))) ⟨dx, t, h5, o5 _ _ ta (o4 _ _ ta (o3 _ _ ta t2))⟩
end
end M05

set_option Elab.async false
set_option linter.all false
set_option maxRecDepth 100000
set_option maxHeartbeats 4000000
/-! Sources: own_template, owner_body, template_behind, base_of -/
namespace M05
open PySem PySem.Spec PyProof.Rows L2 GL
theorem scOT : FnScope ["self", "file", "owner", "template"] ["self", "file", "owner"] (defScope m_Sources_own_template) := ⟨rfl, rfl, rfl, by decide +kernel, rfl, by decide +kernel, by decide +kernel⟩
theorem scOw : FnScope ["self", "file", "owner"] ["self", "file", "owner"] (defScope m_Sources_owner_body) := ⟨rfl, rfl, rfl, by decide +kernel, rfl, by decide +kernel, by decide +kernel⟩
theorem scTB : FnScope ["self", "file", "owner", "other", "template"] ["self", "file", "owner"] (defScope m_Sources_template_behind) := ⟨rfl, rfl, rfl, by decide +kernel, rfl, by decide +kernel, by decide +kernel⟩
theorem scBa : FnScope ["self", "file", "owner", "found"] ["self", "file", "owner"] (defScope m_Sources_base_of) := ⟨rfl, rfl, rfl, by decide +kernel, rfl, by decide +kernel, by decide +kernel⟩
theorem tems_len (l : List (Bool × Str × Nat)) : (tems l).length ≤ l.length := List.length_filterMap_le _ _
theorem mem_at {α : Type} {x : α} {l : List α} (h : x ∈ l) : ∃ i : Nat, l[i]? = some x := by
  obtain ⟨i, hi, e⟩ := List.getElem_of_mem h
  exact ⟨i, by rw [List.getElem?_eq_getElem hi, e]⟩
section
variable {P : Program} {w : World} {K : PySem.W.Frag} {mg : Str → Option Value} {base : Heap}
/-- what the asking for a template wants -/
structure Ask (k : Ks K mg) (H : Hp) (so : Addr) (f : Fd) (x : Str) : Prop where
  src : ∃ B Kf as fs, SrcA k H so B Kf as fs ∧ f ∈ fs
  len : f.own.length ≤ 100
  mem : x ∈ (tems f.own).map (·.1)
  ne : x ≠ ""
theorem Ask.same {k : Ks K mg} {H H' : Hp} {so : Addr} {f : Fd} {x : Str} (h : Ask k H so f x) (s : Same H H') : Ask k H' so f x := ⟨let ⟨B, Kf, as, fs, h1, h2⟩ := h.src; ⟨B, Kf, as, fs, h1.same s, h2⟩, h.len, h.mem, h.ne⟩
def spOT (k : Ks K mg) : Sp := fun vs H Q _ => ∃ (so : Addr) (f : Fd) (x : Str) (H0 : Hp), vs = [.ref so, .str f.nm, .str x] ∧ Ask k H0 so f x ∧ Same H0 H ∧ ∀ H' u p, Same H H' → TemA k H0 u x p → Q (.ref u) H'
theorem ok_ot {f : Addr} {fd : FuncData} (F : Fun K "own_template" "Sources.own_template" m_Sources_own_template f fd) (T : Bl K mg) (k : Ks K mg) : FnOk P w K mg base CX0 1 f fd ["self", "file", "owner"] (spOT k) := by
  refine F.ok scOT (fun vs H Q E h => ?_) (fun cdv A outer s H vs Q E hr h => ?_)
  · obtain ⟨_, _, _, _, rfl, _⟩ := h
    rfl
  · obtain ⟨so, f, x, H0, rfl, ⟨⟨B, Kf, as, fs, hS, hf⟩, hlen, hx, _⟩, s0, q⟩ := h
    obtain ⟨⟨d, hso⟩, hB, hF, hn, hl⟩ := id hS
    obtain ⟨i0, hi0⟩ := mem_at hf
    obtain ⟨a, ha, hA⟩ := hF.get hi0
    obtain ⟨da, l1, l2, l3, ds, ts, us, vs, g1, g2, g3, g4, g5, g6, g7⟩ := id hA
    have hlu := g5.len
    have hso := s0 _ _ hso
    have hB := rdSame hB s0
    have g1 := s0 _ _ g1
    have g4 := s0 _ _ g4
    have hlt := tems_len f.own
    refine ⟨_, (pss_one (ps_ret (pe_ix (r := rIxL K) ix_list (pe_lc (own := [("template", 3)]) (g := gName 3) (by rfl) scOT.nd (pi_list (pe_fld (pe_dget (u1 hr) (pe_fld (pv 0) rfl) (pv 1) (fun _ _ => rfl)) rfl)) (blkOk_by (own := [("template", 3)]) (N := ["self", "file", "owner", "template"]) (sc := defScope m_Sources_own_template) (by decide +kernel)) (fun _ _ _ _ _ => (pg_name (i := 3) scOT.nd rfl (Or.inl rfl))) (fun _ _ _ _ _ => (pts_one (pt_cmpR op_eq (pe_fldK (K := K) rfl (pv 3) rfl) (pv 2) (nomark _)))) (fun _ _ _ _ _ => (pv 3))) pe_int (fun _ _ => rfl)))), ?_⟩
    have hDG : DGet H B (.str f.nm) (some (.ref a)) := by
      have z := byN_some (f := f) (a := a) hn hi0 ha
      rw [← z]
      exact DGet.kR (k := Sum.inr f.nm) hB
    refine ⟨.ref so, rfl, _, _, _, _, _, rfl, hso, k.Sources.cl, k.Sources.nf.get ix_Sources_by_name, lkZ ix_Sources_by_name rfl, .str f.nm, rfl, B, .ref a, rfl, hDG, _, _, _, _, _, rfl, g1, k.FileSource.cl, k.FileSource.nf.get ix_FileSource_templates, lkZ ix_FileSource_templates rfl, l2, rfl, ⟨_, SqL.of g4⟩, fun D nD => ?_⟩
    refine lc_list (K := K) (a := l2) (xs := refs us) (fun i Hi => ∃ acc : List Addr, Same H Hi ∧ Hi D = some (.lst (refs acc)) ∧ acc.length ≤ i ∧ (∀ u ∈ acc, ∃ p, TemA k H0 u x p) ∧ (x ∈ ((tems f.own).take i).map (·.1) → acc ≠ [])) ⟨[], same_new nD, upd_same, Nat.le_refl _, by simp, by simp⟩ (fun i Hi _ hP => by obtain ⟨_, s, _⟩ := hP; exact SqL.of (s _ _ g4)) (fun i x1 Hi hx1 hP => ?_) (fun Hi hP => ?_)
    · obtain ⟨acc, sm, hD, hal, hall, hin⟩ := hP
      obtain ⟨u, rfl, hu⟩ := ref_at hx1
      obtain ⟨y, hy, hT⟩ := g5.at hu
      obtain ⟨dd, bb, hTt, hBd⟩ := id hT
      have hTi := sm _ _ (s0 _ _ hTt)
      refine ⟨rfl, .ref u, rfl, _, _, _, _, _, rfl, hTi, k.Template.cl, k.Template.nf.get ix_Template_name, lkZ ix_Template_name rfl, .str x, rfl, rfl, _, rfl, ?_⟩
      have hi : i < us.length := (List.getElem?_eq_some_iff.mp hu).1
      by_cases e : y.1 = x
      · have eq : decide (V.str y.1 = V.str x) = true := decide_eq_true (congrArg V.str e)
        rw [eq]
        refine iteT ⟨.ref u, rfl, _, hD, by unfold refs; rw [List.length_map]; exact small1000 (by omega), acc ++ [u], ?_, ?_, by rw [List.length_append]; simp; omega, ?_, fun _ => by simp⟩
        · exact fun b o eb => by
            rw [upd_ne (ne_of_none eb nD)]
            exact sm b o eb
        · rw [upd_same]
          unfold refs
          rw [List.map_append]
          rfl
        · intro v hv
          rcases List.mem_append.mp hv with hv | hv
          · exact hall v hv
          · obtain rfl := List.mem_singleton.mp hv
            exact ⟨y.2, by rw [← e]; exact hT⟩
      · have eq : decide (V.str y.1 = V.str x) = false := decide_eq_false fun z => e (V.str.inj z)
        rw [eq]
        refine iteF ⟨acc, sm, hD, by omega, hall, fun z => hin ?_⟩
        rw [List.take_add_one, hy, List.map_append, List.mem_append] at z
        rcases z with z | z
        · exact z
        · simp at z
          exact absurd z.symm e
    · obtain ⟨acc, sm, hD, hal, hall, hin⟩ := hP
      have hne := hin (by
        unfold refs
        rw [List.length_map, hlu, List.take_length]
        exact hx)
      cases acc with
      | nil => exact absurd rfl hne
      | cons u r =>
        obtain ⟨p, hp⟩ := hall u (List.mem_cons_self ..)
        exact ⟨D, _, 0, .ref u, rfl, rfl, SqL.of hD, atI_nat (j := 0) rfl, q Hi u p sm hp⟩
/-- the body of a template -/
def spOw (k : Ks K mg) : Sp := fun vs H Q _ => ∃ (so : Addr) (f : Fd) (x : Str) (H0 : Hp), vs = [.ref so, .str f.nm, .str x] ∧ Ask k H0 so f x ∧ Same H0 H ∧ ∀ H' b, Same H H' → BodA k H0 b "n" 1 → Q (.ref b) H'
theorem ok_ow {f : Addr} {fd : FuncData} (F : Fun K "owner_body" "Sources.owner_body" m_Sources_owner_body f fd) (T : Bl K mg) (k : Ks K mg) (m_own_template : DnM P w K mg base k.Sources "own_template" 1 ["self", "file", "owner"] (spOT k)) : FnOk P w K mg base CX0 2 f fd ["self", "file", "owner"] (spOw k) := by
  refine F.ok scOw (fun vs H Q E h => ?_) (fun cdv A outer s H vs Q E hr h => ?_)
  · obtain ⟨_, _, _, _, rfl, _⟩ := h
    rfl
  · obtain ⟨so, f, x, H0, rfl, hA, s0, q⟩ := h
    obtain ⟨B, Kf, as, fs, ⟨⟨d, hso⟩, _⟩, hf⟩ := hA.src
    have hso := s0 _ _ hso
    refine ⟨_, (pss_one (ps_ret (pe_ifExp (pt_cmpR op_eq (pv 2) (pe_glob (v := .str "") (by rfl) T.cdocument.choose_spec ⟨_, rfl⟩) (nomark _)) pe_never (pe_fld (pe_meth (pv 0) k.Sources.cl m_own_template.mt m_own_template.ok (hr.mono (by omega)) m_own_template.b .nil pass0 (pa_cons (pv 1) (pa_cons (pv 2) pa_nil))) rfl)))), ?_⟩
    have eq : decide (V.str x = V.str "") = false := decide_eq_false fun z => hA.ne (V.str.inj z)
    refine ⟨.str x, rfl, rfl, _, rfl, ?_⟩
    rw [eq]
    refine iteF ⟨.ref so, rfl, _, _, _, rfl, hso, lkN nx_Sources_own_template, .str f.nm, rfl, .str x, rfl, so, f, x, H0, rfl, hA, s0, fun H1 u p s1 hT => ?_⟩
    obtain ⟨dd, bb, hTt, hBd⟩ := id hT
    have hT1 := s1 _ _ (s0 _ _ hTt)
    exact ⟨_, _, _, _, _, rfl, hT1, k.Template.cl, k.Template.nf.get ix_Template_body, lkZ ix_Template_body rfl, q _ bb s1 hBd⟩
/-- no template stands behind -/
def spTB (k : Ks K mg) : Sp := fun vs H Q _ => ∃ (so : Addr) (f : Fd) (x : Str) (H0 : Hp), vs = [.ref so, .str f.nm, .str x] ∧ Ask k H0 so f x ∧ Same H0 H ∧ ∀ H', Same H H' → Q .non H'
theorem ok_tb {f : Addr} {fd : FuncData} (F : Fun K "template_behind" "Sources.template_behind" m_Sources_template_behind f fd) (T : Bl K mg) (k : Ks K mg) (m_own_template : DnM P w K mg base k.Sources "own_template" 1 ["self", "file", "owner"] (spOT k)) : FnOk P w K mg base CX0 2 f fd ["self", "file", "owner"] (spTB k) := by
  refine F.ok scTB (fun vs H Q E h => ?_) (fun cdv A outer s H vs Q E hr h => ?_)
  · obtain ⟨_, _, _, _, rfl, _⟩ := h
    rfl
  · obtain ⟨so, f, x, H0, rfl, hA, s0, q⟩ := h
    obtain ⟨B, Kf, as, fs, ⟨⟨d, hso⟩, _⟩, hf⟩ := hA.src
    have hso := s0 _ _ hso
    refine ⟨_, (pss_cons (ps_if (PW.pt (pw_or (pt_cmpR op_eq (pv 2) (pe_glob (v := .str "") (by rfl) T.cdocument.choose_spec ⟨_, rfl⟩) (nomark _)) (pw_or1 (pt_cmpR op_isN (pe_fld (pe_meth (pv 0) k.Sources.cl m_own_template.mt m_own_template.ok (hr.mono (by omega)) m_own_template.b .nil pass0 (pa_cons (pv 1) (pa_cons (pv 2) pa_nil))) rfl) pe_non (nomark _)))))
        (pss_one (ps_ret pe_non))
        pss_nil)
      (pss_cons ps_never
      (pss_one ps_never))), ?_⟩
    have eq : decide (V.str x = V.str "") = false := decide_eq_false fun z => hA.ne (V.str.inj z)
    refine ⟨.str x, rfl, rfl, _, rfl, ?_⟩
    rw [eq]
    refine iteF ⟨.ref so, rfl, _, _, _, rfl, hso, lkN nx_Sources_own_template, .str f.nm, rfl, .str x, rfl, so, f, x, H0, rfl, hA, s0, fun H1 u p s1 hT => ?_⟩
    obtain ⟨dd, bb, hTt, hBd⟩ := id hT
    have hT1 := s1 _ _ (s0 _ _ hTt)
    exact ⟨_, _, _, _, _, rfl, hT1, k.Template.cl, k.Template.nf.get ix_Template_base, lkZ ix_Template_base rfl, rfl, _, rfl, iteT (q _ s1)⟩
/-- a template without a base is its own -/
def spBa (k : Ks K mg) : Sp := fun vs H Q _ => ∃ (so : Addr) (f : Fd) (x : Str) (H0 : Hp), vs = [.ref so, .str f.nm, .str x] ∧ Ask k H0 so f x ∧ Same H0 H ∧ ∀ H' t, Same H H' → H t = none → H' t = some (.tup [.str f.nm, .str x]) → Q (.ref t) H'
theorem ok_ba {f : Addr} {fd : FuncData} (F : Fun K "base_of" "Sources.base_of" m_Sources_base_of f fd) (T : Bl K mg) (k : Ks K mg) (m_template_behind : DnM P w K mg base k.Sources "template_behind" 2 ["self", "file", "owner"] (spTB k)) (b_template_behind : BMeth K k.Sources.C "template_behind" m_template_behind.f) : FnOk P w K mg base CX0 3 f fd ["self", "file", "owner"] (spBa k) := by
  refine F.ok scBa (fun vs H Q E h => ?_) (fun cdv A outer s H vs Q E hr h => ?_)
  · obtain ⟨_, _, _, _, rfl, _⟩ := h
    rfl
  · obtain ⟨so, f, x, H0, rfl, hA, s0, q⟩ := h
    refine ⟨_, (pss_cons (ps_set (i := 3) scBa.nd rfl (Or.inl rfl) (pe_tup (pa_cons (pv 1) (pa_cons (pv 2) pa_nil))))
      (pss_cons (ps_while PassesOwn.never (pt_cmpR op_notN (pe_methS (pv 0) k.Sources.cl b_template_behind (m_template_behind.ok.raw m_template_behind.b .nil) (hr.mono (by omega)) pass0 (pv 3)) pe_non (nomark _))
        (pss_one ps_never))
      (pss_one (ps_ret (pv 3))))), ?_⟩
    refine ⟨.str f.nm, rfl, .str x, rfl, by show 2 ≤ sizeLine; decide, fun t nt => ?_⟩
    have s1 := same_new (o := .tup [.str f.nm, .str x]) nt
    have ht := upd_same (H := H) (a := t) (o := .tup [.str f.nm, .str x])
    generalize upd H t (.tup [.str f.nm, .str x]) = H1 at s1 ht
    refine ⟨fun m σ' H' => m = 0 ∧ σ' = [some (.ref so), some (.str f.nm), some (.str x), some (.ref t)] ∧ H' = H1, ⟨0, rfl, rfl, rfl⟩, ?_⟩
    rintro m σ' H' ⟨rfl, rfl, rfl⟩
    obtain ⟨B, Kf, as, fs, ⟨⟨d, hso⟩, _⟩, hf⟩ := hA.src
    have hso := s1 _ _ (s0 _ _ hso)
    refine ⟨.ref so, rfl, so, d, _, rfl, hso, lkN nx_Sources_template_behind, fun q1 n1 => ?_⟩
    have s2 := same_new (o := .met m_template_behind.f so) n1
    refine ⟨.ref t, rfl, t, _, rfl, SqT.of (s2 _ _ ht), upd_same, so, f, x, H0, rfl, hA, (s0.trans s1).trans s2, fun H3 s3 => ?_⟩
    exact ⟨rfl, _, rfl, iteF ⟨.ref t, rfl, q H3 t ((s1.trans s2).trans s3) nt (s3 _ _ (s2 _ _ ht))⟩⟩
end
end M05

set_option Elab.async false
set_option linter.all false
set_option maxRecDepth 100000
set_option maxHeartbeats 4000000
/-! Field, field_for, fields_of: what fields are known -/
namespace M05
open PySem PySem.Spec PyProof.Rows L2 GL
theorem scFi : FnScope ["self", "entry"] ["self", "entry"] (defScope m_Field_init) := ⟨rfl, rfl, rfl, by decide +kernel, rfl, by decide +kernel, by decide +kernel⟩
theorem scFF : FnScope ["self", "file", "entry", "found", "use", "other", "template", "source"] ["self", "file", "entry"] (defScope m_Sources_field_for) := ⟨rfl, rfl, rfl, by decide +kernel, rfl, by decide +kernel, by decide +kernel⟩
theorem scFO : FnScope ["self", "file", "owner", "home", "body", "entry"] ["self", "file", "owner"] (defScope m_Sources_fields_of) := ⟨rfl, rfl, rfl, by decide +kernel, rfl, by decide +kernel, by decide +kernel⟩
theorem nodup_len {α : Type} [DecidableEq α] : ∀ {l m : List α}, l.Nodup → (∀ x ∈ l, x ∈ m) → l.length ≤ m.length
  | [], _, _, _ => Nat.zero_le _
  | a :: l, m, hn, h => by
    have ha := h a (List.mem_cons_self ..)
    have hn := List.nodup_cons.mp hn
    have := nodup_len (l := l) (m := m.erase a) hn.2 (fun x hx => (List.mem_erase_of_ne (fun z => hn.1 (by rw [← z]; exact hx))).mpr (h x (List.mem_cons_of_mem _ hx)))
    rw [List.length_erase_of_mem ha] at this
    have hp : 0 < m.length := List.length_pos_of_mem ha
    rw [List.length_cons]
    omega
theorem valV_none_of {κ : Type} [DecidableEq κ] {kv : List (κ × V)} {y : κ} (h : valV kv y = none) : y ∉ kv.map Prod.fst := fun z => by
  obtain ⟨p, hp, e⟩ := List.mem_map.mp z
  unfold valV at h
  have h2 := List.find?_eq_none.mp (Option.map_eq_none_iff.mp h) p hp
  simp [e] at h2
theorem valV_some_of {κ : Type} [DecidableEq κ] {kv : List (κ × V)} {y : κ} {v : V} (h : valV kv y = some v) : (y, v) ∈ kv := by
  unfold valV at h
  obtain ⟨p, hp, e⟩ := Option.map_eq_some_iff.mp h
  have h1 := List.mem_of_find?_eq_some hp
  have h2 := List.find?_some hp
  obtain ⟨a, b⟩ := p
  obtain rfl : a = y := by simpa using h2
  obtain rfl : b = v := e
  exact h1
theorem valV_put {κ : Type} [DecidableEq κ] {kv : List (κ × V)} {y : κ} {v : V} (h : valV kv y = none) : valV (kv ++ [(y, v)]) y = some v := by
  have := valV_none_of h
  induction kv with
  | nil => exact valV_pos rfl
  | cons p r ih =>
    have ne : ¬ p.1 = y := fun z => this (by rw [List.map_cons, z]; exact List.mem_cons_self ..)
    show valV (p :: (r ++ [(y, v)])) y = _
    rw [valV_neg ne]
    rw [valV_neg ne] at h
    exact ih h (fun z => this (by rw [List.map_cons]; exact List.mem_cons_of_mem _ z))
abbrev kyOf (nm x : Str) : List L2.Key := [.inr nm, .inr x]
def allK (fs : List Fd) : List (List L2.Key) := fs.flatMap fun f => (tems f.own).map fun q => kyOf f.nm q.1
theorem allK_len : ∀ {fs : List Fd}, (∀ f ∈ fs, f.own.length ≤ 100) → (allK fs).length ≤ 100 * fs.length
  | [], _ => Nat.zero_le _
  | f :: fs, h => by
    have h1 := allK_len fun g hg => h g (List.mem_cons_of_mem _ hg)
    have h2 := h f (List.mem_cons_self ..)
    have h3 := tems_len f.own
    unfold allK at h1 ⊢
    rw [List.flatMap_cons, List.length_append, List.length_map, List.length_cons]
    omega
theorem allK_mem {fs : List Fd} {f : Fd} {x : Str} (hf : f ∈ fs) (hx : x ∈ (tems f.own).map (·.1)) : kyOf f.nm x ∈ allK fs := by
  obtain ⟨q, hq, rfl⟩ := List.mem_map.mp hx
  exact List.mem_flatMap.mpr ⟨f, hf, List.mem_map.mpr ⟨q, hq, rfl⟩⟩
section
variable {P : Program} {w : World} {K : PySem.W.Frag} {mg : Str → Option Value} {base : Heap}
def FldA (k : Ks K mg) (H : Hp) (a v : Addr) (kd : Str) : Prop := ∃ d, H a = some (.ins k.Field.C d (nField.zip [.str "n", .bl false, .ref v, .str kd, .non, .non, .non]))
def spFi (k : Ks K mg) : Addr → Sp := fun _ vs H Q _ => ∃ (a dx e : Addr) (H0 : Hp) (n : Int), vs = [.ref a, .ref e] ∧ H a = some (.ins k.Field.C dx []) ∧ H0 a = none ∧ Same H0 H ∧ EntA k H0 e "n" n ∧ ∀ H' v, Off a H H' → FldA k H' a v "plain" → LitA k H0 v n → Q .non H'
theorem ok_fi {f : Addr} {fd : FuncData} (F : Fun K "__init__" "Field.__init__" m_Field_init f fd) (T : Bl K mg) (k : Ks K mg) : FnOk P w K mg base CX0 1 f fd ["self", "entry"] (spFi k k.Field.C) := by
  refine F.ok scFi (fun vs H Q E h => ?_) (fun cdv A outer s H vs Q E hr h => ?_)
  · obtain ⟨_, _, _, _, _, rfl, _⟩ := h
    rfl
  · obtain ⟨a, dx, e, H0, n, rfl, hR, n0, s0, ⟨de, v, p, y0, e0, ge, gv⟩, q⟩ := h
    refine ⟨_, (pss_cons (ps_fldZ (pv 0) (pe_fld (pv 1) rfl) rfl)
      (pss_cons (ps_fldZ (pv 0) (pe_fld (pv 1) rfl) rfl)
      (pss_cons (ps_fldZ (pv 0) (pe_fld (pv 1) rfl) rfl)
      (pss_cons (ps_fldZ (pv 0) (pe_glob (v := .str "plain") (by rfl) T.cplain.choose_spec ⟨_, rfl⟩) rfl)
      (pss_cons (ps_fldZ (pv 0) pe_non rfl)
      (pss_cons (ps_fldZ (pv 0) pe_non rfl)
      (pss_one (ps_fldZ (pv 0) pe_non rfl)))))))), ?_⟩
    have ne : e ≠ a := ne_of_none ge n0
    have g := s0 _ _ ge
    have hR : H a = some (.ins k.Field.C dx (nField.zip [])) := hR
    refine ⟨.ref e, rfl, _, _, _, _, _, rfl, g, k.Entry.cl, k.Entry.nf.get ix_Entry_name, lkZ ix_Entry_name rfl, .ref a, rfl, _, _, _, _, _, _, rfl, hR, k.Field.cl, k.Field.nf.get ix_Field_name, ix_Field_name, Nat.le_of_ble_eq_true rfl, k.Field.len, fun H1 o1 h1 => ?_⟩
    have g1 := o1 _ _ ne g
    refine ⟨.ref e, rfl, _, _, _, _, _, rfl, g1, k.Entry.cl, k.Entry.nf.get ix_Entry_is_hidden, lkZ ix_Entry_is_hidden rfl, .ref a, rfl, _, _, _, _, _, _, rfl, h1, k.Field.cl, k.Field.nf.get ix_Field_is_hidden, ix_Field_is_hidden, Nat.le_of_ble_eq_true rfl, k.Field.len, fun H2 o2 h2 => ?_⟩
    have g2 := o2 _ _ ne g1
    refine ⟨.ref e, rfl, _, _, _, _, _, rfl, g2, k.Entry.cl, k.Entry.nf.get ix_Entry_value, lkZ ix_Entry_value rfl, .ref a, rfl, _, _, _, _, _, _, rfl, h2, k.Field.cl, k.Field.nf.get ix_Field_value, ix_Field_value, Nat.le_of_ble_eq_true rfl, k.Field.len, fun H3 o3 h3 => ?_⟩
    refine ⟨.ref a, rfl, _, _, _, _, _, _, rfl, h3, k.Field.cl, k.Field.nf.get ix_Field_kind, ix_Field_kind, Nat.le_of_ble_eq_true rfl, k.Field.len, fun H4 o4 h4 => ?_⟩
    refine ⟨.ref a, rfl, _, _, _, _, _, _, rfl, h4, k.Field.cl, k.Field.nf.get ix_Field_target, ix_Field_target, Nat.le_of_ble_eq_true rfl, k.Field.len, fun H5 o5 h5 => ?_⟩
    refine ⟨.ref a, rfl, _, _, _, _, _, _, rfl, h5, k.Field.cl, k.Field.nf.get ix_Field_loop, ix_Field_loop, Nat.le_of_ble_eq_true rfl, k.Field.len, fun H6 o6 h6 => ?_⟩
    refine ⟨.ref a, rfl, _, _, _, _, _, _, rfl, h6, k.Field.cl, k.Field.nf.get ix_Field_list, ix_Field_list, Nat.le_of_ble_eq_true rfl, k.Field.len, fun H7 o7 h7 => ?_⟩
    exact q H7 v (fun b y nb e => o7 b y nb (o6 b y nb (o5 b y nb (o4 b y nb (o3 b y nb (o2 b y nb (o1 b y nb e))))))) ⟨dx, h7⟩ gv
def spFF (k : Ks K mg) : Sp := fun vs H Q _ => ∃ (so e : Addr) (nm : Str) (n : Int) (H0 : Hp), vs = [.ref so, .str nm, .ref e] ∧ Same H0 H ∧ EntA k H0 e "n" n ∧ ∀ H' fo v, Same H H' → H fo = none → FldA k H' fo v "plain" → LitA k H0 v n → Q (.ref fo) H'
theorem ok_ff {f : Addr} {fd : FuncData} (F : Fun K "field_for" "Sources.field_for" m_Sources_field_for f fd) (T : Bl K mg) (k : Ks K mg) (I : Isi k) (i_Field : Mkr P w K mg base k.Field 1 ["self", "entry"] (spFi k)) : FnOk P w K mg base CX0 3 f fd ["self", "file", "entry"] (spFF k) := by
  refine F.ok scFF (fun vs H Q E h => ?_) (fun cdv A outer s H vs Q E hr h => ?_)
  · obtain ⟨_, _, _, _, _, rfl, _⟩ := h
    rfl
  · obtain ⟨so, e, nm, n, H0, rfl, s0, hE, q⟩ := h
    refine ⟨_, (pss_cons (ps_set (i := 3) scFF.nd rfl (Or.inl rfl) (pe_make i_Field.mak i_Field.ok (hr.mono (by omega)) (by rfl) k.Field.g i_Field.b .nil pass0 (pa_cons (pv 2) pa_nil)))
      (pss_cons (ps_set (i := 4) scFF.nd rfl (Or.inl rfl) (pe_ifExp (pt_val (pe_callB call_isi (by rfl) T.isinstance (by decide +kernel) (pa_cons (pe_fld (pv 2) rfl) (pa_cons (pe_glob (v := .ref I.Loop.C) (by rfl) I.Loop.g rfl) pa_nil)))) pe_never (pe_fld (pv 2) rfl)))
      (pss_cons (ps_if (pt_val (pe_callB call_isi (by rfl) T.isinstance (by decide +kernel) (pa_cons (pv 4) (pa_cons (pe_glob (v := .ref I.Use.C) (by rfl) I.Use.g rfl) pa_nil))))
        (pss_cons ps_never
        (pss_one ps_never))
        pss_nil)
      (pss_cons (ps_if (pt_val (pe_callB call_isi (by rfl) T.isinstance (by decide +kernel) (pa_cons (pe_fld (pv 2) rfl) (pa_cons (pe_glob (v := .ref I.Loop.C) (by rfl) I.Loop.g rfl) pa_nil))))
        (pss_cons ps_never
        (pss_one ps_never))
        pss_nil)
      (pss_one (ps_ret (pv 3))))))), ?_⟩
    refine ⟨.ref e, rfl, fun a dx na nda ne => ⟨a, dx, e, H0, n, rfl, upd_same, ?_, ?_, hE, fun H1 v o1 hf hv => ⟨rfl, ?_⟩⟩⟩
    · cases z : H0 a with
      | none => rfl
      | some y =>
        have := s0 _ _ z
        rw [na] at this
        cases this
    · exact fun b y eb => by
        have eb := s0 b y eb
        rw [upd_ne (ne_of_none eb na), upd_ne (ne_of_none eb nda)]
        exact eb
    have s1 := same_made na nda o1
    obtain ⟨de, v', p, y0, e0, ge, gv⟩ := hE.same (s0.trans s1)
    refine ⟨.ref e, rfl, _, _, _, _, _, rfl, ge, k.Entry.cl, k.Entry.nf.get ix_Entry_value, lkZ ix_Entry_value rfl, .ref v', .ref I.Loop.C, _, _, false, rfl, .own _, I.ty gv, I.nLoop, false, rfl, iteF ⟨.ref e, rfl, _, _, _, _, _, rfl, ge, k.Entry.cl, k.Entry.nf.get ix_Entry_value, lkZ ix_Entry_value rfl, ?_⟩⟩
    refine ⟨.ref v', rfl, .ref v', .ref I.Use.C, _, _, false, rfl, .own _, I.ty gv, I.nUse, false, rfl, iteF ?_⟩
    refine ⟨.ref e, rfl, _, _, _, _, _, rfl, ge, k.Entry.cl, k.Entry.nf.get ix_Entry_value, lkZ ix_Entry_value rfl, .ref v', .ref I.Loop.C, _, _, false, rfl, .own _, I.ty gv, I.nLoop, false, rfl, iteF ?_⟩
    exact ⟨.ref a, rfl, q H1 a v s1 na hf hv⟩
/-- a dict of one field -/
def DctA (k : Ks K mg) (H0 H : Hp) (D : Addr) (kd : Str) : Prop := ∃ (fo v : Addr) (n : Int), H0 D = none ∧ H0 fo = none ∧ H D = some (.dK [(.inr "n", .ref fo)]) ∧ FldA k H fo v kd ∧ LitA k H0 v n ∧ (kd = "plain" ∨ kd = "number")
theorem DctA.same {k : Ks K mg} {H0 H H' : Hp} {D : Addr} {kd : Str} (h : DctA k H0 H D kd) (s : Same H H') : DctA k H0 H' D kd := let ⟨fo, v, n, h1, h2, h3, ⟨d, h4⟩, h5, h6⟩ := h; ⟨fo, v, n, h1, h2, s _ _ h3, ⟨d, s _ _ h4⟩, h5, h6⟩
theorem DctA.off {k : Ks K mg} {H0 H H' : Hp} {D Kf : Addr} {kd : Str} {kv : List (List L2.Key × V)} (h : DctA k H0 H D kd) (hK : H Kf = some (.dT kv)) (s : Off Kf H H') : DctA k H0 H' D kd := by
  obtain ⟨fo, v, n, h1, h2, h3, ⟨d, h4⟩, h5, h6⟩ := h
  exact ⟨fo, v, n, h1, h2, s _ _ (fun z => by rw [z, hK] at h3; cases h3) h3, ⟨d, s _ _ (fun z => by rw [z, hK] at h4; cases h4) h4⟩, h5, h6⟩
/-- the sources' state: what fields are known; those of Ky are settled -/
structure StS (k : Ks K mg) (H0 H : Hp) (so Kf : Addr) (fs : List Fd) (Ky : List (List L2.Key)) : Prop where
  src : ∃ B as, SrcA k H0 so B Kf as fs
  n0 : H0 Kf = none
  sm : Same H0 H
  own : ∀ f ∈ fs, f.own.length ≤ 100
  kn : ∃ kv, H Kf = some (.dT kv) ∧ (kv.map Prod.fst).Nodup ∧ (∀ y ∈ Ky, y ∈ kv.map Prod.fst) ∧ ∀ y ∈ kv, y.1 ∈ allK fs ∧ ∃ D kd, y.2 = .ref D ∧ DctA k H0 H D kd ∧ (y.1 ∈ Ky → kd = "number")
theorem StS.same {k : Ks K mg} {H0 H H' : Hp} {so Kf : Addr} {fs : List Fd} {Ky : List (List L2.Key)} (h : StS k H0 H so Kf fs Ky) (s : Same H H') : StS k H0 H' so Kf fs Ky := ⟨h.src, h.n0, h.sm.trans s, h.own, let ⟨kv, h1, h2, h3, h4⟩ := h.kn; ⟨kv, s _ _ h1, h2, h3, fun y hy => let ⟨m, D, kd, e, hd, hk⟩ := h4 y hy; ⟨m, D, kd, e, hd.same s, hk⟩⟩⟩
theorem StS.ask {k : Ks K mg} {H0 H : Hp} {so Kf : Addr} {fs : List Fd} {Ky : List (List L2.Key)} {f : Fd} {x : Str} (h : StS k H0 H so Kf fs Ky) (hf : f ∈ fs) (hx : x ∈ (tems f.own).map (·.1)) (ne : x ≠ "") : Ask k H0 so f x := ⟨let ⟨B, as, h1⟩ := h.src; ⟨B, Kf, as, fs, h1, hf⟩, h.own f hf, hx, ne⟩
def spFO (k : Ks K mg) : Sp := fun vs H Q _ => ∃ (H0 : Hp) (so Kf : Addr) (fs : List Fd) (Ky : List (List L2.Key)) (f : Fd) (x : Str), vs = [.ref so, .str f.nm, .str x] ∧ StS k H0 H so Kf fs Ky ∧ f ∈ fs ∧ x ∈ (tems f.own).map (·.1) ∧ x ≠ "" ∧
  ∀ H' D kd, Off Kf H H' → StS k H0 H' so Kf fs Ky → DctA k H0 H' D kd → (kyOf f.nm x ∈ Ky → kd = "number") → (∃ kv, H' Kf = some (.dT kv) ∧ valV kv (kyOf f.nm x) = some (.ref D)) → Q (.ref D) H'
theorem ok_fo {f : Addr} {fd : FuncData} (F : Fun K "fields_of" "Sources.fields_of" m_Sources_fields_of f fd) (T : Bl K mg) (k : Ks K mg) (m_base_of : DnM P w K mg base k.Sources "base_of" 3 ["self", "file", "owner"] (spBa k)) (m_owner_body : DnM P w K mg base k.Sources "owner_body" 2 ["self", "file", "owner"] (spOw k)) (b_owner_body : BMeth K k.Sources.C "owner_body" m_owner_body.f)
    (m_field_for : DnM P w K mg base k.Sources "field_for" 3 ["self", "file", "entry"] (spFF k)) : FnOk P w K mg base CX0 4 f fd ["self", "file", "owner"] (spFO k) := by
  refine F.ok scFO (fun vs H Q E h => ?_) (fun cdv A outer s H vs Q E hr h => ?_)
  · obtain ⟨_, _, _, _, _, _, _, rfl, _⟩ := h
    rfl
  · obtain ⟨H0, so, Kf, fs, Ky, f, x, rfl, hS, hf, hx, nx, q⟩ := h
    refine ⟨_, (pss_cons (ps_set (i := 3) scFO.nd rfl (Or.inr rfl) (pe_meth (pv 0) k.Sources.cl m_base_of.mt m_base_of.ok (hr.mono (by omega)) m_base_of.b .nil pass0 (pa_cons (pv 1) (pa_cons (pv 2) pa_nil))))
      (pss_cons (ps_if (pt_cmp (pc_dnotin (u1 hr) (pv 3) (pe_fld (pv 0) rfl)))
        (pss_cons (ps_set (i := 4) scFO.nd rfl (Or.inl rfl) (pe_methS (pv 0) k.Sources.cl b_owner_body (m_owner_body.ok.raw m_owner_body.b .nil) (hr.mono (by omega)) pass0 (pv 3)))
        (pss_one (ps_dput (u1 hr) (pe_fld (pv 0) rfl) (pv 3) (pe_dc (own := [("entry", 5)]) (g := gName 5) (by rfl) scFO.nd (pi_list (pe_fld (pv 4) rfl)) (blkOk_by (own := [("entry", 5)]) (N := ["self", "file", "owner", "home", "body", "entry"]) (sc := defScope m_Sources_fields_of) (by decide +kernel)) (fun _ _ _ _ _ => (pg_name (i := 5) scFO.nd rfl (Or.inl rfl))) (fun _ _ _ _ _ => pts_nil) (fun _ _ _ _ _ => (pe_fldK (K := K) rfl (pv 5) rfl)) (fun _ _ _ _ _ => (pe_meth (pv 0) k.Sources.cl m_field_for.mt m_field_for.ok (hr.mono (by omega)) m_field_for.b .nil pass0 (pa_cons (pe_ix (r := rIxT K) ix_tup (pv 3) pe_int (fun _ _ => rfl)) (pa_cons (pv 5) pa_nil))))) rfl)))
        pss_nil)
      (pss_one (ps_ret (pe_dget (u1 hr) (pe_fld (pv 0) rfl) (pv 3) (fun _ _ => rfl)))))), ?_⟩
    have hA := hS.ask hf hx nx
    obtain ⟨B, as, ⟨d, hso0⟩, hsr⟩ := hS.src
    have hso := hS.sm _ _ hso0
    refine ⟨.ref so, rfl, _, _, _, rfl, hso, lkN nx_Sources_base_of, .str f.nm, rfl, .str x, rfl, so, f, x, H0, rfl, hA, hS.sm, fun H1 t s1 nt ht => ?_⟩
    have hS1 := hS.same s1
    have hso1 := s1 _ _ hso
    obtain ⟨kv, hk, hnd, hky, hkv⟩ := hS1.kn
    have ht' : H1 t = some (.tup ((kyOf f.nm x).map kV)) := ht
    refine ⟨.ref t, rfl, .ref so, rfl, _, _, _, _, _, rfl, hso1, k.Sources.cl, k.Sources.nf.get ix_Sources_known_fields, lkZ ix_Sources_known_fields rfl, Kf, valV kv (kyOf f.nm x), rfl, DGet.t hk ht', _, rfl, ?_⟩
    cases hv : valV kv (kyOf f.nm x) with
    | some u =>
      refine iteF ?_
      obtain ⟨hm, D, kd, e, hD, hkd⟩ := hkv _ (valV_some_of hv)
      obtain rfl : u = .ref D := e
      refine ⟨.ref so, rfl, _, _, _, _, _, rfl, hso1, k.Sources.cl, k.Sources.nf.get ix_Sources_known_fields, lkZ ix_Sources_known_fields rfl, .ref t, rfl, Kf, .ref D, rfl, ?_, q H1 D kd (fun b y _ e => s1 b y e) hS1 hD hkd ⟨kv, hk, hv⟩⟩
      rw [← hv]
      exact DGet.t hk ht'
    | none =>
      refine iteT ?_
      refine ⟨.ref so, rfl, so, d, _, rfl, hso1, lkN nx_Sources_owner_body, fun q1 n1 => ?_⟩
      have s2 := same_new (o := .met m_owner_body.f so) n1
      have t2 := s2 _ _ ht
      refine ⟨.ref t, rfl, t, _, rfl, SqT.of t2, upd_same, so, f, x, H0, rfl, hA, hS1.sm.trans s2, fun H3 b s3 hb => ?_⟩
      have s13 := s2.trans s3
      have s03 := s1.trans s13
      have t3 := s3 _ _ t2
      have hso3 := s13 _ _ hso1
      have hS3 := hS1.same s13
      obtain ⟨d3, l, be, p0, e0, gb0, gl0, gE⟩ := id hb
      have gb := hS3.sm _ _ gb0
      have gl := hS3.sm _ _ gl0
      refine ⟨.ref b, rfl, _, _, _, _, _, rfl, gb, k.Body.cl, k.Body.nf.get ix_Body_entries, lkZ ix_Body_entries rfl, l, rfl, ⟨_, SqL.of gl⟩, fun D nD => ?_⟩
      have s4 : ∀ u, Same H3 (upd H3 D u) := fun u => same_new nD
      refine ⟨fun i m Hi => m = 1 - i ∧ i ≤ 1 ∧ Same H3 Hi ∧ (i = 0 → Hi D = some (.dK [])) ∧ (i = 1 → ∃ fo v n, H3 fo = none ∧ Hi D = some (.dK [(.inr "n", .ref fo)]) ∧ FldA k Hi fo v "plain" ∧ LitA k H0 v n), ⟨_, rfl, by decide, s4 _, fun _ => upd_same, fun z => by cases z⟩, ?_⟩
      rintro i m Hi ⟨rfl, hi, sm, hD0, hD1⟩
      have gli := sm _ _ gl
      by_cases hlt : i < 1
      · obtain rfl : i = 0 := by omega
        have hD0 := hD0 rfl
        refine .inr ⟨⟨_, .ref be, SqL.of gli, rfl⟩, fun H' => Same H3 H' ∧ ∃ fo v n, H3 fo = none ∧ H' D = some (.dK [(.inr "n", .ref fo)]) ∧ FldA k H' fo v "plain" ∧ LitA k H0 v n, fun H' e => ⟨0, by decide, rfl, by decide, e.1, (fun z => by cases z), fun _ => e.2⟩, fun x1 H' y => ?_⟩
        obtain ⟨rfl, y⟩ := y
        have hx1 := y _ (SqL.of gli)
        obtain rfl : x1 = .ref be := (Option.some.inj hx1).symm
        obtain ⟨de, v0, p1, y1, e1, ge0, gv0⟩ := id gE
        have ge := sm _ _ (hS3.sm _ _ ge0)
        have hso4 := sm _ _ hso3
        refine ⟨rfl, .ref be, rfl, _, _, _, _, _, rfl, ge, k.Entry.cl, k.Entry.nf.get ix_Entry_name, lkZ ix_Entry_name rfl, .ref so, rfl, _, _, _, rfl, hso4, lkN nx_Sources_field_for, _, rfl, t, [.str f.nm, .str x], 0, .str f.nm, rfl, rfl, SqT.of (sm _ _ t3), atI_nat (j := 0) rfl, .ref be, rfl, so, be, f.nm, 1, H0, rfl, hS3.sm.trans sm, gE, fun H5 fo v s5 nfo hfo hv => ⟨[], .inr "n", rfl, s5 _ _ hD0, by decide, ?_, fo, v, 1, ?_, upd_same, ?_, hv⟩⟩
        · intro b y e
          rw [upd_ne (ne_of_none e nD)]
          exact s5 b y (sm b y e)
        · cases z : H3 fo with
          | none => rfl
          | some y =>
            have := sm _ _ z
            rw [nfo] at this
            cases this
        · obtain ⟨df, hfo⟩ := hfo
          exact ⟨df, by rw [upd_ne (fun z => by rw [z, s5 _ _ hD0] at hfo; cases hfo)]; exact hfo⟩
      · obtain rfl : i = 1 := by omega
        obtain ⟨fo, v, n, nfo, hD, hfo, hv0⟩ := hD1 rfl
        refine .inl ⟨⟨_, SqL.of gli, Nat.le_refl 1⟩, ?_⟩
        have hsoi := sm _ _ hso3
        have hki := sm _ _ (s13 _ _ hk)
        have ti := sm _ _ t3
        have ti' : Hi t = some (.tup ((kyOf f.nm x).map kV)) := ti
        have hmem := allK_mem hf hx
        have hlen : kv.length < sizeLine := by
          have h1 := nodup_len hnd (m := allK fs) (fun y hy => by
            obtain ⟨p, hp, rfl⟩ := List.mem_map.mp hy
            exact (hkv p hp).1)
          have h2 := allK_len hS.own
          rw [List.length_map] at h1
          have h3 : 100 * fs.length ≤ 10000 := by have := hsr.2.2.2; omega
          exact Nat.lt_of_le_of_lt (Nat.le_trans h1 (Nat.le_trans h2 h3)) (by decide)
        refine ⟨.ref so, rfl, _, _, _, _, _, rfl, hsoi, k.Sources.cl, k.Sources.nf.get ix_Sources_known_fields, lkZ ix_Sources_known_fields rfl, .ref t, rfl, Kf, _, rfl, DPut.t hki ti' hlen, ?_⟩
        rw [putK_new _ hv]
        have DK : D ≠ Kf := fun z => by rw [z, hki] at hD; cases hD
        have nD0 : H0 D = none := by
          cases z : H0 D with
          | none => rfl
          | some y =>
            have := hS3.sm _ _ z
            rw [nD] at this
            cases this
        have nfo0 : H0 fo = none := by
          cases z : H0 fo with
          | none => rfl
          | some y =>
            have := hS3.sm _ _ z
            rw [nfo] at this
            cases this
        obtain ⟨df, hfo⟩ := hfo
        have fK : fo ≠ Kf := fun z => by rw [z, hki] at hfo; cases hfo
        have tK : t ≠ Kf := fun z => by rw [z, hki] at ti; cases ti
        have sK : so ≠ Kf := fun z => by rw [z, hki] at hsoi; cases hsoi
        have s06 : Same H Hi := s03.trans sm
        have o6 : Off Kf H (upd Hi Kf (.dT (kv ++ [(kyOf f.nm x, .ref D)]))) := fun b y nb e => by rw [upd_ne nb]; exact s06 b y e
        have hnK : kyOf f.nm x ∉ Ky := fun z => valV_none_of hv (hky _ z)
        have hDc : DctA k H0 (upd Hi Kf (.dT (kv ++ [(kyOf f.nm x, .ref D)]))) D "plain" := ⟨fo, v, n, nD0, nfo0, by rw [upd_ne DK]; exact hD, ⟨df, by rw [upd_ne fK]; exact hfo⟩, hv0, .inl rfl⟩
        have hg := valV_put (v := .ref D) hv
        have hK7 := upd_same (H := Hi) (a := Kf) (o := .dT (kv ++ [(kyOf f.nm x, .ref D)]))
        have hS7 : StS k H0 (upd Hi Kf (.dT (kv ++ [(kyOf f.nm x, .ref D)]))) so Kf fs Ky := by
          refine ⟨hS.src, hS.n0, fun b y e => ?_, hS.own, _, hK7, ?_, fun y hy => ?_, fun y hy => ?_⟩
          · rw [upd_ne (ne_of_none e hS.n0)]
            exact sm b y (hS3.sm b y e)
          · rw [List.map_append]
            exact List.nodup_append.mpr ⟨hnd, by simp, fun a ha b hb z => by
              obtain rfl : b = kyOf f.nm x := by simpa using hb
              exact valV_none_of hv (z ▸ ha)⟩
          · rw [List.map_append]
            exact List.mem_append_left _ (hky y hy)
          · rcases List.mem_append.mp hy with hy | hy
            · obtain ⟨hm, D1, kd, e, hd, hkk⟩ := hkv y hy
              exact ⟨hm, D1, kd, e, ((hd.same s13).same sm).off hki (fun b y nb e => by rw [upd_ne nb]; exact e), hkk⟩
            · obtain rfl := List.mem_singleton.mp hy
              exact ⟨hmem, D, "plain", rfl, hDc, fun z => absurd z hnK⟩
        refine ⟨.ref so, rfl, _, _, _, _, _, rfl, (by rw [upd_ne sK]; exact hsoi), k.Sources.cl, k.Sources.nf.get ix_Sources_known_fields, lkZ ix_Sources_known_fields rfl, .ref t, rfl, Kf, .ref D, rfl, ?_, q _ D "plain" o6 hS7 hDc (fun z => absurd z hnK) ⟨_, hK7, hg⟩⟩
        rw [← hg]
        exact DGet.t hK7 (by rw [upd_ne tK]; exact ti')
end
end M05

set_option Elab.async false
set_option linter.all false
set_option maxRecDepth 100000
set_option maxHeartbeats 4000000
/-! wrong_declared, wrong_fields: nothing is found -/
namespace M05
open PySem PySem.Spec PyProof.Rows L2 GL
theorem scWD : FnScope ["home", "body", "found", "fields", "entry", "field", "inner", "part"] ["home", "body"] (defScope s_wrong_declared) := ⟨rfl, rfl, rfl, by decide +kernel, rfl, by decide +kernel, by decide +kernel⟩
theorem scWF : FnScope ["sources", "file", "found", "template", "home", "source", "item", "entry"] ["sources", "file"] (defScope s_wrong_fields) := ⟨rfl, rfl, rfl, by decide +kernel, rfl, by decide +kernel, by decide +kernel⟩
theorem same_self {H : Hp} {a : Addr} {o : HO} (h : H a = some o) : Same H (upd H a o) := fun b y e => by
  by_cases z : b = a
  · rw [z] at e ⊢
    rw [upd_same, ← e, h]
  · rw [upd_ne z]
    exact e
theorem dget1 {H : Hp} {D fo : Addr} (h : H D = some (.dK [(.inr "n", .ref fo)])) : DGet H D (.str "n") (some (.ref fo)) := by
  have z : valV [((Sum.inr "n" : L2.Key), V.ref fo)] (.inr "n") = some (.ref fo) := valV_pos rfl
  rw [← z]
  exact DGet.k (k := Sum.inr "n") h
section
variable {P : Program} {w : World} {K : PySem.W.Frag} {mg : Str → Option Value} {base : Heap}
def spWD (k : Ks K mg) : Sp := fun vs H Q _ => ∃ (ho b so Kf : Addr) (H0 : Hp) (fs : List Fd) (Ky : List (List L2.Key)) (f : Fd) (x : Str), vs = [.ref ho, .ref b] ∧ StS k H0 H so Kf fs Ky ∧ HomA k H ho so f.nm x ∧ f ∈ fs ∧ x ∈ (tems f.own).map (·.1) ∧ x ≠ "" ∧ BodA k H0 b "n" 1 ∧
  ∀ H' L, Off Kf H H' → StS k H0 H' so Kf fs Ky → H' L = some (.lst []) → Q (.ref L) H'
theorem ok_wd {f : Addr} {fd : FuncData} (F : Fun K "wrong_declared" "wrong_declared" s_wrong_declared f fd) (T : Bl K mg) (k : Ks K mg) (m_fields_of : DnM P w K mg base k.Sources "fields_of" 4 ["self", "file", "owner"] (spFO k)) (b_fields_of : BMeth K k.Sources.C "fields_of" m_fields_of.f)
    (d_bodies_in : DnO P w K mg base "bodies_in" 1 ["value"] (spBI k)) (d_lost_paths : DnO P w K mg base "lost_paths" 2 ["home", "value"] (spLP k)) : FnOk P w K mg base CX0 5 f fd ["home", "body"] (spWD k) := by
  refine F.ok scWD (fun vs H Q E h => ?_) (fun cdv A outer s H vs Q E hr h => ?_)
  · obtain ⟨_, _, _, _, _, _, _, _, _, rfl, _⟩ := h
    rfl
  · obtain ⟨ho, b, so, Kf, H0, fs, Ky, f, x, rfl, hS, ⟨dh, th, hH, hth⟩, hf, hx, nx, hB, q⟩ := h
    refine ⟨_, (pss_cons (ps_par (i := 2) (j := 3) (by rfl) scWD.nd rfl rfl (by decide) rfl rfl (pa_cons (pe_lst pa_nil) (pa_cons (pe_methS (pe_fld (pv 0) rfl) k.Sources.cl b_fields_of (m_fields_of.ok.raw m_fields_of.b .nil) (hr.mono (by omega)) pass0 (pe_fld (pv 0) rfl)) pa_nil)) (by rfl))
      (pss_cons (ps_for PassesOwn.never rfl (pi_list (pe_fld (pv 1) rfl)) (pg_name (i := 4) scWD.nd rfl (Or.inl rfl))
        (pss_cons (ps_par (i := 5) (j := 6) (by rfl) scWD.nd rfl rfl (by decide) rfl rfl (pa_cons (pe_dget (u1 hr) (pv 3) (pe_fld (pv 4) rfl) (fun _ _ => rfl)) (pa_cons (pv 0) pa_nil)) (by rfl))
        (pss_cons (ps_if (pt_cmpR op_notN (pe_fld (pv 5) rfl) pe_non (nomark _))
          (pss_cons ps_never
          (pss_one ps_never))
          pss_nil)
        (pss_cons (ps_for PassesOwn.never rfl (pi_list (pe_call d_bodies_in.ok (hr.mono (by omega)) (by rfl) d_bodies_in.g d_bodies_in.kp d_bodies_in.b .nil pass0 (pa_cons (pe_fld (pv 4) rfl) pa_nil))) (pg_name (i := 7) scWD.nd rfl (Or.inl rfl))
          (pss_one ps_never))
        (pss_one (ps_aug (i := 2) scWD.nd rfl (Or.inl rfl) (pe_call d_lost_paths.ok (hr.mono (by omega)) (by rfl) d_lost_paths.g d_lost_paths.kp d_lost_paths.b .nil pass0 (pa_cons (pv 0) (pa_cons (pe_fld (pv 4) rfl) pa_nil))) pip_ext))))))
      (pss_one (ps_ret (pv 2))))), ?_⟩
    obtain ⟨B, as, ⟨d, hso0⟩, hsr⟩ := id hS.src
    refine ⟨by show 0 ≤ sizeLine; decide, fun L nL => ?_⟩
    have s1 := same_new (o := .lst []) nL
    have hL1 := upd_same (H := H) (a := L) (o := .lst [])
    generalize upd H L (.lst []) = H1 at s1 hL1
    have hS1 := hS.same s1
    have hH1 := s1 _ _ hH
    refine ⟨.ref ho, rfl, _, _, _, _, _, rfl, hH1, k.Home.cl, k.Home.nf.get ix_Home_sources, lkZ ix_Home_sources rfl, so, d, _, rfl, hS1.sm _ _ hso0, lkN nx_Sources_fields_of, fun q1 n1 => ?_⟩
    have s2 := same_new (o := .met m_fields_of.f so) n1
    have hS2 := hS1.same s2
    have hH2 := s2 _ _ hH1
    refine ⟨.ref ho, rfl, _, _, _, _, _, rfl, hH2, k.Home.cl, k.Home.nf.get ix_Home_owner, lkZ ix_Home_owner rfl, th, _, rfl, SqT.of (s2 _ _ (s1 _ _ hth)), upd_same, H0, so, Kf, fs, Ky, f, x, rfl, hS2, hf, hx, nx, fun H4 D kd o4 hS4 hD hk hv => ⟨_, _, rfl, ?_⟩⟩
    obtain ⟨kv, hkv, _⟩ := hS.kn
    have hkv1 := s1 _ _ hkv
    have LK : L ≠ Kf := fun z => by rw [z, hkv] at nL; cases nL
    have hoK : ho ≠ Kf := fun z => by rw [z, hkv] at hH; cases hH
    have hL4 := o4 _ _ LK (s2 _ _ hL1)
    have hH4 := o4 _ _ hoK hH2
    have o04 : Off Kf H H4 := fun a y na e => o4 a y na (s2 a y (s1 a y e))
    obtain ⟨fo, v0, n0, _, _, hDd, ⟨df, hfo⟩, _⟩ := id hD
    obtain ⟨d3, l, be, p0, e0, gb0, gl0, gE⟩ := id hB
    have gb := hS4.sm _ _ gb0
    have gl := hS4.sm _ _ gl0
    refine ⟨.ref b, rfl, _, _, _, _, _, rfl, gb, k.Body.cl, k.Body.nf.get ix_Body_entries, lkZ ix_Body_entries rfl, l, rfl, ⟨_, SqL.of gl⟩, ?_⟩
    refine for_list (K := K) (a := l) (xs := [.ref be]) (fun i σ Hi => ∃ (y4 y5 y6 y7 : Option V), σ = [some (.ref ho), some (.ref b), some (.ref L), some (.ref D), y4, y5, y6, y7] ∧ Same H4 Hi) ⟨_, _, _, _, rfl, fun _ _ e => e⟩ (fun i σ Hi _ hP => by obtain ⟨_, _, _, _, _, sm⟩ := hP; exact SqL.of (sm _ _ gl)) (fun i2 x1 σ Hi hx1 hP => ?_) (fun σ Hi hP => ?_)
    · obtain ⟨y4, y5, y6, y7, rfl, sm⟩ := hP
      obtain ⟨_, rfl⟩ := one_at hx1
      obtain ⟨de, v, p, y0, e1, ge, gv⟩ := gE.same (hS4.sm.trans sm)
      have hDi := dget1 (sm _ _ hDd)
      have hfi := sm _ _ hfo
      refine ⟨.ref D, rfl, .ref be, rfl, _, _, _, _, _, rfl, ge, k.Entry.cl, k.Entry.nf.get ix_Entry_name, lkZ ix_Entry_name rfl, D, .ref fo, rfl, hDi, .ref ho, rfl, ⟨_, _, rfl, ?_⟩⟩
      refine ⟨.ref fo, rfl, _, _, _, _, _, rfl, hfi, k.Field.cl, k.Field.nf.get ix_Field_loop, lkZ ix_Field_loop rfl, rfl, _, rfl, iteF ?_⟩
      refine ⟨.ref be, rfl, _, _, _, _, _, rfl, ge, k.Entry.cl, k.Entry.nf.get ix_Entry_value, lkZ ix_Entry_value rfl, v, 1, rfl, gv, fun H5 L5 s5 n5 h5 => ⟨L5, rfl, ⟨_, SqL.of h5⟩, ?_⟩⟩
      refine for_list (K := K) (a := L5) (xs := []) (fun i σ Hj => ∃ (y7 : Option V), σ = [some (.ref ho), some (.ref b), some (.ref L), some (.ref D), some (.ref be), some (.ref fo), some (.ref ho), y7] ∧ Hj = H5) ⟨_, rfl, rfl⟩ (fun i σ Hj _ hP => by obtain ⟨_, _, rfl⟩ := hP; exact SqL.of h5) (fun i2 x1 σ Hi hx1 hP => by simp at hx1) (fun σ Hj hP => ?_)
      obtain ⟨y7, rfl, rfl⟩ := hP
      have gei := s5 _ _ ge
      refine ⟨.ref L, rfl, .ref ho, rfl, .ref be, rfl, _, _, _, _, _, rfl, gei, k.Entry.cl, k.Entry.nf.get ix_Entry_value, lkZ ix_Entry_value rfl, ho, v, 1, rfl, gv.same s5, fun H6 L6 s6 h6 => ?_⟩
      have sm6 := (sm.trans s5).trans s6
      have hL6 := sm6 _ _ hL4
      exact ⟨L, L6, [], [], rfl, rfl, hL6, h6, by decide, _, _, _, _, rfl, sm6.trans (same_self hL6)⟩
    · obtain ⟨y4, y5, y6, y7, rfl, sm⟩ := hP
      exact ⟨.ref L, rfl, q _ L (fun a y na e => sm a y (o04 a y na e)) (hS4.same sm) (sm _ _ hL4)⟩
/-- of a file no field is wrong -/
def spWF (k : Ks K mg) : Sp := fun vs H Q _ => ∃ (so Kf a : Addr) (H0 : Hp) (fs : List Fd) (Ky : List (List L2.Key)) (f : Fd), vs = [.ref so, .ref a] ∧ StS k H0 H so Kf fs Ky ∧ FilA k H0 a f.nm f.T f.ims f.own ∧ f ∈ fs ∧ (∀ q ∈ f.own, q.2.1 ≠ "") ∧
  ∀ H' L, Off Kf H H' → StS k H0 H' so Kf fs Ky → H' L = some (.lst []) → Q (.ref L) H'
theorem tems_ne {l : List (Bool × Str × Nat)} (h : ∀ q ∈ l, q.2.1 ≠ "") {y : Str × Nat} (hy : y ∈ tems l) : y.1 ≠ "" := by
  obtain ⟨q, hq, e⟩ := List.mem_filterMap.mp hy
  cases z : q.1 with
  | true => simp [z] at e
  | false =>
    simp [z] at e
    rw [← e]
    exact h q hq
theorem ok_wf {f : Addr} {fd : FuncData} (F : Fun K "wrong_fields" "wrong_fields" s_wrong_fields f fd) (T : Bl K mg) (k : Ks K mg) (i_Home : Mkr P w K mg base k.Home 1 ["self", "sources", "file", "owner"] (fun _ => spHo k)) (d_wrong_declared : DnO P w K mg base "wrong_declared" 5 ["home", "body"] (spWD k)) : FnOk P w K mg base CX0 6 f fd ["sources", "file"] (spWF k) := by
  refine F.ok scWF (fun vs H Q E h => ?_) (fun cdv A outer s H vs Q E hr h => ?_)
  · obtain ⟨_, _, _, _, _, _, _, rfl, _⟩ := h
    rfl
  · obtain ⟨so, Kf, a, H0, fs, Ky, f, rfl, hS, hA, hf, hne, q⟩ := h
    refine ⟨_, (pss_cons (ps_set (i := 2) scWF.nd rfl (Or.inl rfl) (pe_lst pa_nil))
      (pss_cons (ps_if (pt_cmpR op_notN (pe_fld (pv 1) rfl) pe_non (nomark _))
        (pss_one ps_never)
        pss_nil)
      (pss_cons (ps_for PassesOwn.never rfl (pi_list (pe_fld (pv 1) rfl)) (pg_name (i := 3) scWF.nd rfl (Or.inl rfl))
        (pss_cons (ps_set (i := 4) scWF.nd rfl (Or.inl rfl) (pe_make i_Home.mak i_Home.ok (hr.mono (by omega)) (by rfl) k.Home.g i_Home.b .nil pass0 (pa_cons (pv 0) (pa_cons (pe_fld (pv 1) rfl) (pa_cons (pe_fld (pv 3) rfl) pa_nil)))))
        (pss_one (ps_if (pt_cmpR op_isN (pe_fld (pv 3) rfl) pe_non (nomark _))
          (pss_one (ps_aug (i := 2) scWF.nd rfl (Or.inl rfl) (pe_call d_wrong_declared.ok (hr.mono (by omega)) (by rfl) d_wrong_declared.g d_wrong_declared.kp d_wrong_declared.b .nil pass0 (pa_cons (pv 4) (pa_cons (pe_fld (pv 3) rfl) pa_nil))) pip_ext))
          (pss_one ps_never)))))
      (pss_cons (ps_for PassesOwn.never rfl (pi_list (pe_fld (pv 1) rfl)) (pg_name (i := 5) scWF.nd rfl (Or.inr rfl))
        (pss_one (ps_for PassesOwn.never rfl (pi_list (pe_fld (pv 5) rfl)) (pg_name (i := 6) scWF.nd rfl (Or.inl rfl))
          (pss_one ps_never))))
      (pss_one (ps_ret (pv 2))))))), ?_⟩
    obtain ⟨da, l1, l2, l3, ds, ts, us, vs, g1, g2, g3, g4, g5, g6, g7⟩ := id hA
    refine ⟨by show 0 ≤ sizeLine; decide, fun L nL => ?_⟩
    have s1 := same_new (o := .lst []) nL
    have hL1 := upd_same (H := H) (a := L) (o := .lst [])
    generalize upd H L (.lst []) = H1 at s1 hL1
    have hS1 := hS.same s1
    obtain ⟨kv, hkv, _⟩ := hS.kn
    have LK : L ≠ Kf := fun z => by rw [z, hkv] at nL; cases nL
    have g11 := hS1.sm _ _ g1
    refine ⟨.ref a, rfl, _, _, _, _, _, rfl, g11, k.FileSource.cl, k.FileSource.nf.get ix_FileSource_document, lkZ ix_FileSource_document rfl, rfl, _, rfl, iteF ?_⟩
    refine ⟨.ref a, rfl, _, _, _, _, _, rfl, g11, k.FileSource.cl, k.FileSource.nf.get ix_FileSource_templates, lkZ ix_FileSource_templates rfl, l2, rfl, ⟨_, SqL.of (hS1.sm _ _ g4)⟩, ?_⟩
    refine for_list (K := K) (a := l2) (xs := refs us) (fun i σ Hi => ∃ (y3 y4 : Option V), σ = [some (.ref so), some (.ref a), some (.ref L), y3, y4, none, none, none] ∧ Off Kf H1 Hi ∧ StS k H0 Hi so Kf fs Ky) ⟨_, _, rfl, fun _ _ _ e => e, hS1⟩ (fun i σ Hi _ hP => by obtain ⟨_, _, _, _, hSi⟩ := hP; exact SqL.of (hSi.sm _ _ g4)) (fun i x1 σ Hi hx1 hP => ?_) (fun σ Hi hP => ?_)
    · obtain ⟨y3, y4, rfl, oi, hSi⟩ := hP
      obtain ⟨u, rfl, hu⟩ := ref_at hx1
      obtain ⟨y, hy, dd, bb, hT0, hBd⟩ := g5.at hu
      have g1i := hSi.sm _ _ g1
      have hTi := hSi.sm _ _ hT0
      have hyt := List.mem_of_getElem? hy
      refine ⟨.ref so, rfl, .ref a, rfl, _, _, _, _, _, rfl, g1i, k.FileSource.cl, k.FileSource.nf.get ix_FileSource_name, lkZ ix_FileSource_name rfl, .ref u, rfl, _, _, _, _, _, rfl, hTi, k.Template.cl, k.Template.nf.get ix_Template_name, lkZ ix_Template_name rfl, fun ho dx nho ndx ne => ⟨ho, dx, so, f.nm, y.1, rfl, upd_same, fun H2 o2 hHo => ⟨rfl, ?_⟩⟩⟩
      have s2 := same_made nho ndx o2
      have hS2 := hSi.same s2
      have hT2 := s2 _ _ hTi
      refine ⟨.ref u, rfl, _, _, _, _, _, rfl, hT2, k.Template.cl, k.Template.nf.get ix_Template_base, lkZ ix_Template_base rfl, rfl, _, rfl, iteT ⟨.ref L, rfl, .ref ho, rfl, .ref u, rfl, _, _, _, _, _, rfl, hT2, k.Template.cl, k.Template.nf.get ix_Template_body, lkZ ix_Template_body rfl, ?_⟩⟩
      refine ⟨ho, bb, so, Kf, H0, fs, Ky, f, y.1, rfl, hS2, hHo, hf, List.mem_map_of_mem hyt, tems_ne hne hyt, hBd, fun H3 L3 o3 hS3 h3 => ?_⟩
      have oi3 : Off Kf H1 H3 := fun a y na e => o3 a y na (s2 a y (oi a y na e))
      have hL3 := oi3 _ _ LK hL1
      have ss := same_self hL3
      exact ⟨L, L3, [], [], rfl, rfl, hL3, h3, by decide, _, _, rfl, fun a y na e => ss a y (oi3 a y na e), hS3.same ss⟩
    · obtain ⟨y3, y4, rfl, oi, hSi⟩ := hP
      have g1i := hSi.sm _ _ g1
      refine ⟨.ref a, rfl, _, _, _, _, _, rfl, g1i, k.FileSource.cl, k.FileSource.nf.get ix_FileSource_list_sources, lkZ ix_FileSource_list_sources rfl, l3, rfl, ⟨_, SqL.of (hSi.sm _ _ g6)⟩, ?_⟩
      refine for_list (K := K) (a := l3) (xs := refs vs) (fun i σ Hj => ∃ (y5 : Option V), σ = [some (.ref so), some (.ref a), some (.ref L), y3, y4, y5, none, none] ∧ Hj = Hi) ⟨_, rfl, rfl⟩ (fun i σ Hj _ hP => by obtain ⟨_, _, rfl⟩ := hP; exact SqL.of (hSi.sm _ _ g6)) (fun i x1 σ Hj hx1 hP => ?_) (fun σ Hj hP => ?_)
      · obtain ⟨y5, rfl, rfl⟩ := hP
        obtain ⟨u, rfl, hu⟩ := ref_at hx1
        obtain ⟨y, hy, d5, f5, i5, e5, d6, o5, c5, p5, hL0, hI0, _⟩ := g7.at hu
        have hLi := hSi.sm _ _ hL0
        have hIi := hSi.sm _ _ hI0
        refine ⟨.ref u, rfl, _, _, _, _, _, rfl, hLi, k.ListSource.cl, k.ListSource.nf.get ix_ListSource_item_bodies, lkZ ix_ListSource_item_bodies rfl, i5, rfl, ⟨_, SqL.of hIi⟩, ?_⟩
        exact for_list (K := K) (a := i5) (xs := []) (fun i σ Hk => σ = [some (.ref so), some (.ref a), some (.ref L), y3, y4, some (.ref u), none, none] ∧ Hk = Hj) ⟨rfl, rfl⟩ (fun i σ Hk _ hP => by rw [hP.2]; exact SqL.of hIi) (fun i2 x1 σ Hi hx1 hP => by simp at hx1) (fun σ Hk hP => ⟨_, hP.1, hP.2⟩)
      · obtain ⟨y5, rfl, rfl⟩ := hP
        exact ⟨.ref L, rfl, q _ L (fun a y na e => oi a y na (s1 a y e)) hSi (oi _ _ LK hL1)⟩
end
end M05

set_option Elab.async false
set_option linter.all false
set_option maxRecDepth 100000
set_option maxHeartbeats 4000000
/-! literal_kind, wrong_side, wrong_value, wrong_in_declared, wrong_items, wrong_kinds: once settled nothing is found -/
namespace M05
open PySem PySem.Spec PyProof.Rows L2 GL
theorem scLK : FnScope ["literal"] ["literal"] (defScope s_literal_kind) := ⟨rfl, rfl, rfl, by decide +kernel, rfl, by decide +kernel, by decide +kernel⟩
theorem scWS : FnScope ["home", "value", "kind", "kinds", "is_fine", "path", "one"] ["home", "value", "kind"] (defScope s_wrong_side) := ⟨rfl, rfl, rfl, by decide +kernel, rfl, by decide +kernel, by decide +kernel⟩
theorem scWV : FnScope ["home", "value", "kind", "found"] ["home", "value", "kind"] (defScope s_wrong_value) := ⟨rfl, rfl, rfl, by decide +kernel, rfl, by decide +kernel, by decide +kernel⟩
theorem scWI2 : FnScope ["home", "body", "found", "fields", "entry", "field", "inner", "part"] ["home", "body"] (defScope s_wrong_in_declared) := ⟨rfl, rfl, rfl, by decide +kernel, rfl, by decide +kernel, by decide +kernel⟩
theorem scWIt : FnScope ["source", "found", "item", "names", "entry", "field"] ["source"] (defScope s_wrong_items) := ⟨rfl, rfl, rfl, by decide +kernel, rfl, by decide +kernel, by decide +kernel⟩
theorem scWK : FnScope ["sources", "file", "found", "template", "home", "source"] ["sources", "file"] (defScope s_wrong_kinds) := ⟨rfl, rfl, rfl, by decide +kernel, rfl, by decide +kernel, by decide +kernel⟩
section
variable {P : Program} {w : World} {K : PySem.W.Frag} {mg : Str → Option Value} {base : Heap}
def spLK (k : Ks K mg) : Sp := fun vs H Q _ => ∃ (v : Addr) (n : Int), vs = [.ref v] ∧ LitA k H v n ∧ Q (.str "number") H
theorem ok_lk {f : Addr} {fd : FuncData} (F : Fun K "literal_kind" "literal_kind" s_literal_kind f fd) (T : Bl K mg) (k : Ks K mg) : FnOk P w K mg base CX0 1 f fd ["literal"] (spLK k) := by
  refine F.ok scLK (fun vs H Q E h => ?_) (fun cdv A outer s H vs Q E hr h => ?_)
  · obtain ⟨_, _, rfl, _⟩ := h
    rfl
  · obtain ⟨v, n, rfl, ⟨d, y, e, hv⟩, q⟩ := h
    refine ⟨_, (pss_one (ps_ret (pe_ifExp (pt_val (pe_callB call_isi (by rfl) T.isinstance (by decide +kernel) (pa_cons (pe_fld (pv 0) rfl) (pa_cons (pe_bltn (v := .ty "str") (by rfl) T.str (by decide +kernel) rfl) pa_nil)))) (pe_glob (v := .str "text") (by rfl) T.ctext.choose_spec ⟨_, rfl⟩) (pe_glob (v := .str "number") (by rfl) T.cnumber.choose_spec ⟨_, rfl⟩)))), ?_⟩
    exact ⟨.ref v, rfl, _, _, _, _, _, rfl, hv, k.Literal.cl, k.Literal.nf.get ix_Literal_value, lkZ ix_Literal_value rfl, .int n, .ty "str", _, _, false, rfl, .ty "str", .base (.int n), rfl, false, rfl, iteF q⟩
def spWS (k : Ks K mg) : Sp := fun vs H Q _ => ∃ (ho v : Addr) (n : Int), vs = [.ref ho, .ref v, .str "number"] ∧ LitA k H v n ∧ ∀ H' L, Same H H' → H' L = some (.lst []) → Q (.ref L) H'
abbrev spWV := @spWS
theorem ok_ws {f : Addr} {fd : FuncData} (F : Fun K "wrong_side" "wrong_side" s_wrong_side f fd) (T : Bl K mg) (k : Ks K mg) (I : Isi k) (d_literal_kind : DnO P w K mg base "literal_kind" 1 ["literal"] (spLK k)) : FnOk P w K mg base CX0 2 f fd ["home", "value", "kind"] (spWS k) := by
  refine F.ok scWS (fun vs H Q E h => ?_) (fun cdv A outer s H vs Q E hr h => ?_)
  · obtain ⟨_, _, _, rfl, _⟩ := h
    rfl
  · obtain ⟨ho, v, n, rfl, hv, q⟩ := h
    refine ⟨_, (pss_cons (ps_if (pt_val (pe_callB call_isi (by rfl) T.isinstance (by decide +kernel) (pa_cons (pv 1) (pa_cons (pe_glob (v := .ref I.Literal.C) (by rfl) I.Literal.g rfl) pa_nil))))
        (pss_one (ps_ret (pe_ifExp (pt_cmpR op_ne (pe_call d_literal_kind.ok (hr.mono (by omega)) (by rfl) d_literal_kind.g d_literal_kind.kp d_literal_kind.b .nil pass0 (pa_cons (pv 1) pa_nil)) (pv 2) (nomark _)) (pe_lst (pa_cons (pe_fld (pv 1) rfl) pa_nil)) (pe_lst pa_nil))))
        pss_nil)
      (pss_cons ps_never
      (pss_cons ps_never
      (pss_one ps_never)))), ?_⟩
    refine ⟨.ref v, rfl, .ref v, .ref I.Literal.C, _, _, true, rfl, .own _, I.ty hv, I.yLit, true, rfl, iteT ?_⟩
    refine ⟨.ref v, rfl, v, n, rfl, hv, .str "number", rfl, rfl, _, rfl, ?_⟩
    refine iteF ⟨by show 0 ≤ sizeLine; decide, fun L nL => q _ L (same_new nL) upd_same⟩
theorem ok_wv {f : Addr} {fd : FuncData} (F : Fun K "wrong_value" "wrong_value" s_wrong_value f fd) (T : Bl K mg) (k : Ks K mg) (I : Isi k) (d_wrong_side : DnO P w K mg base "wrong_side" 2 ["home", "value", "kind"] (spWS k)) : FnOk P w K mg base CX0 3 f fd ["home", "value", "kind"] (spWV k) := by
  refine F.ok scWV (fun vs H Q E h => ?_) (fun cdv A outer s H vs Q E hr h => ?_)
  · obtain ⟨_, _, _, rfl, _⟩ := h
    rfl
  · obtain ⟨ho, v, n, rfl, hv, q⟩ := h
    refine ⟨_, (pss_cons (ps_if (pt_not (pt_val (pe_callB call_isi (by rfl) T.isinstance (by decide +kernel) (pa_cons (pv 1) (pa_cons (pe_glob (v := .ref I.Choice.C) (by rfl) I.Choice.g rfl) pa_nil)))))
        (pss_one (ps_ret (pe_call d_wrong_side.ok (hr.mono (by omega)) (by rfl) d_wrong_side.g d_wrong_side.kp d_wrong_side.b .nil pass0 (pa_cons (pv 0) (pa_cons (pv 1) (pa_cons (pv 2) pa_nil))))))
        pss_nil)
      (pss_cons ps_never
      (pss_one ps_never))), ?_⟩
    refine ⟨.ref v, rfl, .ref v, .ref I.Choice.C, _, _, false, rfl, .own _, I.ty hv, I.nChoice, false, rfl, iteT ?_⟩
    exact ⟨.ref ho, rfl, .ref v, rfl, .str "number", rfl, ho, v, n, rfl, hv, q⟩
def spWIt (k : Ks K mg) : Sp := fun vs H Q _ => ∃ (u : Addr) (x : Str) (p : Nat), vs = [.ref u] ∧ LstA k H u x p ∧ ∀ H' L, Same H H' → H' L = some (.lst []) → Q (.ref L) H'
theorem ok_wit {f : Addr} {fd : FuncData} (F : Fun K "wrong_items" "wrong_items" s_wrong_items f fd) (T : Bl K mg) (k : Ks K mg) : FnOk P w K mg base CX0 1 f fd ["source"] (spWIt k) := by
  refine F.ok scWIt (fun vs H Q E h => ?_) (fun cdv A outer s H vs Q E hr h => ?_)
  · obtain ⟨_, _, _, rfl, _⟩ := h
    rfl
  · obtain ⟨u, x, p, rfl, hL0, q⟩ := h
    refine ⟨_, (pss_cons (ps_set (i := 1) scWIt.nd rfl (Or.inl rfl) (pe_lst pa_nil))
      (pss_cons (ps_for PassesOwn.never rfl (pi_list (pe_fld (pv 0) rfl)) (pg_name (i := 2) scWIt.nd rfl (Or.inl rfl))
        (pss_cons ps_never
        (pss_cons ps_never
        (pss_one ps_never))))
      (pss_one (ps_ret (pv 1))))), ?_⟩
    refine ⟨by show 0 ≤ sizeLine; decide, fun L nL => ?_⟩
    have s1 := same_new (o := .lst []) nL
    obtain ⟨d5, f5, i5, e5, d6, o5, c5, p5, hL0, hI0, _⟩ := hL0.same s1
    refine ⟨.ref u, rfl, _, _, _, _, _, rfl, hL0, k.ListSource.cl, k.ListSource.nf.get ix_ListSource_item_bodies, lkZ ix_ListSource_item_bodies rfl, i5, rfl, ⟨_, SqL.of hI0⟩, ?_⟩
    refine for_list (K := K) (a := i5) (xs := []) (fun i σ Hk => σ = [some (.ref u), some (.ref L), none, none, none, none] ∧ Hk = upd H L (.lst [])) ⟨rfl, rfl⟩ (fun i σ Hk _ hP => by rw [hP.2]; exact SqL.of hI0) (fun i2 x1 σ Hi hx1 hP => by simp at hx1) (fun σ Hk hP => ?_)
    obtain ⟨rfl, rfl⟩ := hP
    exact ⟨.ref L, rfl, q _ L s1 upd_same⟩
def spWI2 (k : Ks K mg) : Sp := fun vs H Q _ => ∃ (ho b so Kf : Addr) (H0 : Hp) (fs : List Fd) (Ky : List (List L2.Key)) (f : Fd) (x : Str), vs = [.ref ho, .ref b] ∧ StS k H0 H so Kf fs Ky ∧ HomA k H ho so f.nm x ∧ f ∈ fs ∧ x ∈ (tems f.own).map (·.1) ∧ x ≠ "" ∧ BodA k H0 b "n" 1 ∧ kyOf f.nm x ∈ Ky ∧
  ∀ H' L, Off Kf H H' → StS k H0 H' so Kf fs Ky → H' L = some (.lst []) → Q (.ref L) H'
theorem ok_wi2 {f : Addr} {fd : FuncData} (F : Fun K "wrong_in_declared" "wrong_in_declared" s_wrong_in_declared f fd) (T : Bl K mg) (k : Ks K mg) (m_fields_of : DnM P w K mg base k.Sources "fields_of" 4 ["self", "file", "owner"] (spFO k)) (b_fields_of : BMeth K k.Sources.C "fields_of" m_fields_of.f)
    (d_bodies_in : DnO P w K mg base "bodies_in" 1 ["value"] (spBI k)) (I : Isi k) (d_wrong_value : DnO P w K mg base "wrong_value" 3 ["home", "value", "kind"] (spWV k)) : FnOk P w K mg base CX0 5 f fd ["home", "body"] (spWI2 k) := by
  refine F.ok scWI2 (fun vs H Q E h => ?_) (fun cdv A outer s H vs Q E hr h => ?_)
  · obtain ⟨_, _, _, _, _, _, _, _, _, rfl, _⟩ := h
    rfl
  · obtain ⟨ho, b, so, Kf, H0, fs, Ky, f, x, rfl, hS, ⟨dh, th, hH, hth⟩, hf, hx, nx, hB, hKy, q⟩ := h
    refine ⟨_, (pss_cons (ps_par (i := 2) (j := 3) (by rfl) scWI2.nd rfl rfl (by decide) rfl rfl (pa_cons (pe_lst pa_nil) (pa_cons (pe_methS (pe_fld (pv 0) rfl) k.Sources.cl b_fields_of (m_fields_of.ok.raw m_fields_of.b .nil) (hr.mono (by omega)) pass0 (pe_fld (pv 0) rfl)) pa_nil)) (by rfl))
      (pss_cons (ps_for PassesOwn.never rfl (pi_list (pe_fld (pv 1) rfl)) (pg_name (i := 4) scWI2.nd rfl (Or.inl rfl))
        (pss_cons (ps_par (i := 5) (j := 6) (by rfl) scWI2.nd rfl rfl (by decide) rfl rfl (pa_cons (pe_dget (u1 hr) (pv 3) (pe_fld (pv 4) rfl) (fun _ _ => rfl)) (pa_cons (pv 0) pa_nil)) (by rfl))
        (pss_cons (ps_if (pt_val (pe_callB call_isi (by rfl) T.isinstance (by decide +kernel) (pa_cons (pe_fld (pv 4) rfl) (pa_cons (pe_glob (v := .ref I.Loop.C) (by rfl) I.Loop.g rfl) pa_nil))))
          (pss_cons ps_never
          (pss_one ps_never))
          pss_nil)
        (pss_cons (ps_for PassesOwn.never rfl (pi_list (pe_call d_bodies_in.ok (hr.mono (by omega)) (by rfl) d_bodies_in.g d_bodies_in.kp d_bodies_in.b .nil pass0 (pa_cons (pe_fld (pv 4) rfl) pa_nil))) (pg_name (i := 7) scWI2.nd rfl (Or.inl rfl))
          (pss_one ps_never))
        (pss_one (ps_if (pt_cmpR op_isN (pe_fld (pv 5) rfl) pe_non (nomark _))
          (pss_one (ps_aug (i := 2) scWI2.nd rfl (Or.inl rfl) (pe_call d_wrong_value.ok (hr.mono (by omega)) (by rfl) d_wrong_value.g d_wrong_value.kp d_wrong_value.b .nil pass0 (pa_cons (pv 0) (pa_cons (pe_fld (pv 4) rfl) (pa_cons (pe_fld (pv 5) rfl) pa_nil)))) pip_ext))
          pss_nil))))))
      (pss_one (ps_ret (pv 2))))), ?_⟩
    obtain ⟨B, as, ⟨d, hso0⟩, hsr⟩ := id hS.src
    refine ⟨by show 0 ≤ sizeLine; decide, fun L nL => ?_⟩
    have s1 := same_new (o := .lst []) nL
    have hL1 := upd_same (H := H) (a := L) (o := .lst [])
    generalize upd H L (.lst []) = H1 at s1 hL1
    have hS1 := hS.same s1
    have hH1 := s1 _ _ hH
    refine ⟨.ref ho, rfl, _, _, _, _, _, rfl, hH1, k.Home.cl, k.Home.nf.get ix_Home_sources, lkZ ix_Home_sources rfl, so, d, _, rfl, hS1.sm _ _ hso0, lkN nx_Sources_fields_of, fun q1 n1 => ?_⟩
    have s2 := same_new (o := .met m_fields_of.f so) n1
    have hS2 := hS1.same s2
    have hH2 := s2 _ _ hH1
    refine ⟨.ref ho, rfl, _, _, _, _, _, rfl, hH2, k.Home.cl, k.Home.nf.get ix_Home_owner, lkZ ix_Home_owner rfl, th, _, rfl, SqT.of (s2 _ _ (s1 _ _ hth)), upd_same, H0, so, Kf, fs, Ky, f, x, rfl, hS2, hf, hx, nx, fun H4 D kd o4 hS4 hD hk hv => ⟨_, _, rfl, ?_⟩⟩
    obtain ⟨kv, hkv, _⟩ := hS.kn
    have hkv1 := s1 _ _ hkv
    have LK : L ≠ Kf := fun z => by rw [z, hkv] at nL; cases nL
    have hoK : ho ≠ Kf := fun z => by rw [z, hkv] at hH; cases hH
    have hL4 := o4 _ _ LK (s2 _ _ hL1)
    have hH4 := o4 _ _ hoK hH2
    have o04 : Off Kf H H4 := fun a y na e => o4 a y na (s2 a y (s1 a y e))
    obtain rfl := hk hKy
    obtain ⟨fo, v0, n0, _, _, hDd, ⟨df, hfo⟩, _⟩ := id hD
    obtain ⟨d3, l, be, p0, e0, gb0, gl0, gE⟩ := id hB
    have gb := hS4.sm _ _ gb0
    have gl := hS4.sm _ _ gl0
    refine ⟨.ref b, rfl, _, _, _, _, _, rfl, gb, k.Body.cl, k.Body.nf.get ix_Body_entries, lkZ ix_Body_entries rfl, l, rfl, ⟨_, SqL.of gl⟩, ?_⟩
    refine for_list (K := K) (a := l) (xs := [.ref be]) (fun i σ Hi => ∃ (y4 y5 y6 y7 : Option V), σ = [some (.ref ho), some (.ref b), some (.ref L), some (.ref D), y4, y5, y6, y7] ∧ Same H4 Hi) ⟨_, _, _, _, rfl, fun _ _ e => e⟩ (fun i σ Hi _ hP => by obtain ⟨_, _, _, _, _, sm⟩ := hP; exact SqL.of (sm _ _ gl)) (fun i2 x1 σ Hi hx1 hP => ?_) (fun σ Hi hP => ?_)
    · obtain ⟨y4, y5, y6, y7, rfl, sm⟩ := hP
      obtain ⟨_, rfl⟩ := one_at hx1
      obtain ⟨de, v, p, y0, e1, ge, gv⟩ := gE.same (hS4.sm.trans sm)
      have hDi := dget1 (sm _ _ hDd)
      have hfi := sm _ _ hfo
      refine ⟨.ref D, rfl, .ref be, rfl, _, _, _, _, _, rfl, ge, k.Entry.cl, k.Entry.nf.get ix_Entry_name, lkZ ix_Entry_name rfl, D, .ref fo, rfl, hDi, .ref ho, rfl, ⟨_, _, rfl, ?_⟩⟩
      refine ⟨.ref be, rfl, _, _, _, _, _, rfl, ge, k.Entry.cl, k.Entry.nf.get ix_Entry_value, lkZ ix_Entry_value rfl, .ref v, .ref I.Loop.C, _, _, false, rfl, .own _, I.ty gv, I.nLoop, false, rfl, iteF ?_⟩
      refine ⟨.ref be, rfl, _, _, _, _, _, rfl, ge, k.Entry.cl, k.Entry.nf.get ix_Entry_value, lkZ ix_Entry_value rfl, v, 1, rfl, gv, fun H5 L5 s5 n5 h5 => ⟨L5, rfl, ⟨_, SqL.of h5⟩, ?_⟩⟩
      refine for_list (K := K) (a := L5) (xs := []) (fun i σ Hj => ∃ (y7 : Option V), σ = [some (.ref ho), some (.ref b), some (.ref L), some (.ref D), some (.ref be), some (.ref fo), some (.ref ho), y7] ∧ Hj = H5) ⟨_, rfl, rfl⟩ (fun i σ Hj _ hP => by obtain ⟨_, _, rfl⟩ := hP; exact SqL.of h5) (fun i2 x1 σ Hi hx1 hP => by simp at hx1) (fun σ Hj hP => ?_)
      obtain ⟨y7, rfl, rfl⟩ := hP
      have gei := s5 _ _ ge
      have hf5 := s5 _ _ hfi
      refine ⟨.ref fo, rfl, _, _, _, _, _, rfl, hf5, k.Field.cl, k.Field.nf.get ix_Field_target, lkZ ix_Field_target rfl, rfl, _, rfl, iteT ?_⟩
      refine ⟨.ref L, rfl, .ref ho, rfl, .ref be, rfl, _, _, _, _, _, rfl, gei, k.Entry.cl, k.Entry.nf.get ix_Entry_value, lkZ ix_Entry_value rfl, .ref fo, rfl, _, _, _, _, _, rfl, hf5, k.Field.cl, k.Field.nf.get ix_Field_kind, lkZ ix_Field_kind rfl, ho, v, 1, rfl, gv.same s5, fun H6 L6 s6 h6 => ?_⟩
      have sm6 := (sm.trans s5).trans s6
      have hL6 := sm6 _ _ hL4
      exact ⟨L, L6, [], [], rfl, rfl, hL6, h6, by decide, _, _, _, _, rfl, sm6.trans (same_self hL6)⟩
    · obtain ⟨y4, y5, y6, y7, rfl, sm⟩ := hP
      exact ⟨.ref L, rfl, q _ L (fun a y na e => sm a y (o04 a y na e)) (hS4.same sm) (sm _ _ hL4)⟩
/-- of a file no kind is wrong -/
def spWK (k : Ks K mg) : Sp := fun vs H Q _ => ∃ (so Kf a : Addr) (H0 : Hp) (fs : List Fd) (Ky : List (List L2.Key)) (f : Fd), vs = [.ref so, .ref a] ∧ StS k H0 H so Kf fs Ky ∧ FilA k H0 a f.nm f.T f.ims f.own ∧ f ∈ fs ∧ (∀ q ∈ f.own, q.2.1 ≠ "") ∧ (∀ y ∈ tems f.own, kyOf f.nm y.1 ∈ Ky) ∧
  ∀ H' L, Off Kf H H' → StS k H0 H' so Kf fs Ky → H' L = some (.lst []) → Q (.ref L) H'
theorem ok_wk {f : Addr} {fd : FuncData} (F : Fun K "wrong_kinds" "wrong_kinds" s_wrong_kinds f fd) (T : Bl K mg) (k : Ks K mg) (i_Home : Mkr P w K mg base k.Home 1 ["self", "sources", "file", "owner"] (fun _ => spHo k)) (d_wrong_in_declared : DnO P w K mg base "wrong_in_declared" 5 ["home", "body"] (spWI2 k)) (d_wrong_items : DnO P w K mg base "wrong_items" 1 ["source"] (spWIt k)) : FnOk P w K mg base CX0 6 f fd ["sources", "file"] (spWK k) := by
  refine F.ok scWK (fun vs H Q E h => ?_) (fun cdv A outer s H vs Q E hr h => ?_)
  · obtain ⟨_, _, _, _, _, _, _, rfl, _⟩ := h
    rfl
  · obtain ⟨so, Kf, a, H0, fs, Ky, f, rfl, hS, hA, hf, hne, hKy, q⟩ := h
    refine ⟨_, (pss_cons (ps_set (i := 2) scWK.nd rfl (Or.inl rfl) (pe_lst pa_nil))
      (pss_cons (ps_if (pt_cmpR op_notN (pe_fld (pv 1) rfl) pe_non (nomark _))
        (pss_one ps_never)
        pss_nil)
      (pss_cons (ps_for PassesOwn.never rfl (pi_list (pe_fld (pv 1) rfl)) (pg_name (i := 3) scWK.nd rfl (Or.inl rfl))
        (pss_cons (ps_set (i := 4) scWK.nd rfl (Or.inl rfl) (pe_make i_Home.mak i_Home.ok (hr.mono (by omega)) (by rfl) k.Home.g i_Home.b .nil pass0 (pa_cons (pv 0) (pa_cons (pe_fld (pv 1) rfl) (pa_cons (pe_fld (pv 3) rfl) pa_nil)))))
        (pss_one (ps_if (pt_cmpR op_isN (pe_fld (pv 3) rfl) pe_non (nomark _))
          (pss_one (ps_aug (i := 2) scWK.nd rfl (Or.inl rfl) (pe_call d_wrong_in_declared.ok (hr.mono (by omega)) (by rfl) d_wrong_in_declared.g d_wrong_in_declared.kp d_wrong_in_declared.b .nil pass0 (pa_cons (pv 4) (pa_cons (pe_fld (pv 3) rfl) pa_nil))) pip_ext))
          (pss_one ps_never)))))
      (pss_cons (ps_for PassesOwn.never rfl (pi_list (pe_fld (pv 1) rfl)) (pg_name (i := 5) scWK.nd rfl (Or.inl rfl))
        (pss_one (ps_aug (i := 2) scWK.nd rfl (Or.inl rfl) (pe_call d_wrong_items.ok (hr.mono (by omega)) (by rfl) d_wrong_items.g d_wrong_items.kp d_wrong_items.b .nil pass0 (pa_cons (pv 5) pa_nil)) pip_ext)))
      (pss_one (ps_ret (pv 2))))))), ?_⟩
    obtain ⟨da, l1, l2, l3, ds, ts, us, vs, g1, g2, g3, g4, g5, g6, g7⟩ := id hA
    refine ⟨by show 0 ≤ sizeLine; decide, fun L nL => ?_⟩
    have s1 := same_new (o := .lst []) nL
    have hL1 := upd_same (H := H) (a := L) (o := .lst [])
    generalize upd H L (.lst []) = H1 at s1 hL1
    have hS1 := hS.same s1
    obtain ⟨kv, hkv, _⟩ := hS.kn
    have LK : L ≠ Kf := fun z => by rw [z, hkv] at nL; cases nL
    have g11 := hS1.sm _ _ g1
    refine ⟨.ref a, rfl, _, _, _, _, _, rfl, g11, k.FileSource.cl, k.FileSource.nf.get ix_FileSource_document, lkZ ix_FileSource_document rfl, rfl, _, rfl, iteF ?_⟩
    refine ⟨.ref a, rfl, _, _, _, _, _, rfl, g11, k.FileSource.cl, k.FileSource.nf.get ix_FileSource_templates, lkZ ix_FileSource_templates rfl, l2, rfl, ⟨_, SqL.of (hS1.sm _ _ g4)⟩, ?_⟩
    refine for_list (K := K) (a := l2) (xs := refs us) (fun i σ Hi => ∃ (y3 y4 : Option V), σ = [some (.ref so), some (.ref a), some (.ref L), y3, y4, none] ∧ Off Kf H1 Hi ∧ StS k H0 Hi so Kf fs Ky) ⟨_, _, rfl, fun _ _ _ e => e, hS1⟩ (fun i σ Hi _ hP => by obtain ⟨_, _, _, _, hSi⟩ := hP; exact SqL.of (hSi.sm _ _ g4)) (fun i x1 σ Hi hx1 hP => ?_) (fun σ Hi hP => ?_)
    · obtain ⟨y3, y4, rfl, oi, hSi⟩ := hP
      obtain ⟨u, rfl, hu⟩ := ref_at hx1
      obtain ⟨y, hy, dd, bb, hT0, hBd⟩ := g5.at hu
      have g1i := hSi.sm _ _ g1
      have hTi := hSi.sm _ _ hT0
      have hyt := List.mem_of_getElem? hy
      refine ⟨.ref so, rfl, .ref a, rfl, _, _, _, _, _, rfl, g1i, k.FileSource.cl, k.FileSource.nf.get ix_FileSource_name, lkZ ix_FileSource_name rfl, .ref u, rfl, _, _, _, _, _, rfl, hTi, k.Template.cl, k.Template.nf.get ix_Template_name, lkZ ix_Template_name rfl, fun ho dx nho ndx ne => ⟨ho, dx, so, f.nm, y.1, rfl, upd_same, fun H2 o2 hHo => ⟨rfl, ?_⟩⟩⟩
      have s2 := same_made nho ndx o2
      have hS2 := hSi.same s2
      have hT2 := s2 _ _ hTi
      refine ⟨.ref u, rfl, _, _, _, _, _, rfl, hT2, k.Template.cl, k.Template.nf.get ix_Template_base, lkZ ix_Template_base rfl, rfl, _, rfl, iteT ⟨.ref L, rfl, .ref ho, rfl, .ref u, rfl, _, _, _, _, _, rfl, hT2, k.Template.cl, k.Template.nf.get ix_Template_body, lkZ ix_Template_body rfl, ?_⟩⟩
      refine ⟨ho, bb, so, Kf, H0, fs, Ky, f, y.1, rfl, hS2, hHo, hf, List.mem_map_of_mem hyt, tems_ne hne hyt, hBd, hKy _ hyt, fun H3 L3 o3 hS3 h3 => ?_⟩
      have oi3 : Off Kf H1 H3 := fun a y na e => o3 a y na (s2 a y (oi a y na e))
      have hL3 := oi3 _ _ LK hL1
      have ss := same_self hL3
      exact ⟨L, L3, [], [], rfl, rfl, hL3, h3, by decide, _, _, rfl, fun a y na e => ss a y (oi3 a y na e), hS3.same ss⟩
    · obtain ⟨y3, y4, rfl, oi, hSi⟩ := hP
      have g1i := hSi.sm _ _ g1
      refine ⟨.ref a, rfl, _, _, _, _, _, rfl, g1i, k.FileSource.cl, k.FileSource.nf.get ix_FileSource_list_sources, lkZ ix_FileSource_list_sources rfl, l3, rfl, ⟨_, SqL.of (hSi.sm _ _ g6)⟩, ?_⟩
      have hLi := oi _ _ LK hL1
      refine for_list (K := K) (a := l3) (xs := refs vs) (fun i σ Hj => ∃ (y5 : Option V), σ = [some (.ref so), some (.ref a), some (.ref L), y3, y4, y5] ∧ Same Hi Hj) ⟨_, rfl, fun _ _ e => e⟩ (fun i σ Hj _ hP => by obtain ⟨_, _, sm⟩ := hP; exact SqL.of (sm _ _ (hSi.sm _ _ g6))) (fun i x1 σ Hj hx1 hP => ?_) (fun σ Hj hP => ?_)
      · obtain ⟨y5, rfl, sm⟩ := hP
        obtain ⟨u, rfl, hu⟩ := ref_at hx1
        obtain ⟨y, hy, hL0⟩ := g7.at hu
        refine ⟨.ref L, rfl, .ref u, rfl, u, y.1, y.2, rfl, hL0.same (hSi.sm.trans sm), fun H3 L3 s3 h3 => ?_⟩
        have hL3 := s3 _ _ (sm _ _ hLi)
        exact ⟨L, L3, [], [], rfl, rfl, hL3, h3, by decide, _, rfl, (sm.trans s3).trans (same_self hL3)⟩
      · obtain ⟨y5, rfl, sm⟩ := hP
        exact ⟨.ref L, rfl, q _ L (fun a y na e => sm a y (oi a y na (s1 a y e))) (hSi.same sm) (sm _ _ hLi)⟩
end
end M05

set_option Elab.async false
set_option linter.all false
set_option maxRecDepth 100000
set_option maxHeartbeats 4000000
/-! a dict of one entry whose key is a nested tuple: its display, len, dict(d) -/
namespace M05
open PySem PySem.Spec PyProof.Rows L2 GL PySem.SeqAt PySem.W
/-- some dict of one entry: its key, where it stands -/
def oneO (P : Program) (w : World) (d b : Addr) (k : NestedKey) : HO := .ext fun h => ∃ o es ep v, h.get? d = some o ∧ o.ExactDict ∧ o.data = .dict es ep ∧ es.toList = [(k, b, v)].map (entryOfKey (nestedKind P w))
structure One (P : Program) (w : World) (K : PySem.W.Frag) (H : Hp) (d b : Addr) (k : NestedKey) : Prop where
  ob : H d = some (oneO P w d b k)
  lo : (d == sysModules) = false
  ky : TV K H (.ref b) k.data ∧ k.depth ≤ 8
theorem oneO_ok {P : Program} {w : World} {H : Hp} {h : Heap} {d b : Addr} {k : NestedKey} (x : ∃ o es ep v, h.get? d = some o ∧ o.ExactDict ∧ o.data = .dict es ep ∧ es.toList = [(k, b, v)].map (entryOfKey (nestedKind P w))) : ObjOk P w H h d (oneO P w d b k) := by
  refine ⟨x, ?_, fun h1 h2 y k => ?_⟩
  · obtain ⟨o, _, _, _, ho, _⟩ := x
    exact ⟨o, ho⟩
  · obtain ⟨o, es, ep, v, ho, r⟩ := y
    exact ⟨o, es, ep, v, k o ho, r⟩
section
variable {X : Cx} {pins : List (Addr × Obj)} {σ : L2.St} {H : Hp} {s : Shared}
mutual
theorem nested_of (I : Inv X pins σ H s) : ∀ (k : NestedKey) {v : V} {u : Value}, TV X.K H v k.data → RelV v u → NestedIs s.heap k u
  | .none, _, _, t, r => by
    rw [NestedKey.data] at t
    cases t
    cases r
    exact .none
  | .num i, _, _, t, r => by
    rw [NestedKey.data] at t
    cases t
    obtain ⟨t, rfl⟩ := r
    exact .int i t
  | .text x, _, _, t, r => by
    rw [NestedKey.data] at t
    cases t
    obtain ⟨t, rfl⟩ := r
    exact .text x t
  | .tup ks, _, _, t, r => by
    rw [NestedKey.data] at t
    obtain ⟨a, xs, rfl, h, ts⟩ := t.ofTup
    cases r
    obtain ⟨its, rv, ⟨o, ho, hc, m, hd⟩, _⟩ := I.tuple h
    exact .tup ho hc hd (by simpa using nesteds_of I ks ts rv)
theorem nesteds_of (I : Inv X pins σ H s) : ∀ (ks : List NestedKey) {vs : List V} {us : List Value}, TVs X.K H vs (NestedKey.datas ks) → Vals vs us → NestedAll s.heap ks us
  | [], _, _, t, r => by
    rw [NestedKey.datas] at t
    obtain rfl := t.ofNil
    cases r
    exact .nil
  | k :: ks, _, _, t, r => by
    rw [NestedKey.datas] at t
    obtain ⟨v, rest, rfl, t1, t2⟩ := t.ofCons
    cases r with
    | cons r1 r2 => exact .cons (nested_of I k t1 r1) (nesteds_of I ks t2 r2)
end
theorem One.dict {d b : Addr} {k : NestedKey} (I : Inv X pins σ H s) (N : One X.prog X.w X.K H d b k) : ∃ v, s.heap.DictOfH (nestedKind X.prog X.w) d [(k, b, v)] := by
  obtain ⟨⟨o, es, ep, v, ho, hx, hd, he⟩, _⟩ := I.hok d _ N.ob
  refine ⟨v, o, es, ep, ho, hx, hd, he, fun x hx => ?_, by simp⟩
  obtain rfl := List.mem_singleton.mp hx
  exact ⟨nested_of I k N.ky.1 rfl, N.ky.2⟩
/-- {k: v} -/
def tDisp1N (P : Program) (w : World) (K : PySem.W.Frag) (tk tv : TE) : TE := fun σ H Q => ∀ d, H d = none → tk σ (upd H d (.dT [])) fun x H1 => tv σ H1 fun y H2 => H2 d = some (.dT []) ∧ ∃ (b : Addr) (k : NestedKey), x = .ref b ∧ TV K H2 (.ref b) k.data ∧ k.depth ≤ 8 ∧
  (One P w K (upd H2 d (oneO P w d b k)) d b k → Q (.ref d) (upd H2 d (oneO P w d b k)))
theorem pe_disp1N {pos : Pos} {ke ve : Expr} {tk tv : TE} (hu : X.A.units + 64 < cLine) (hk : PE X ke tk) (hv : PE X ve tv) : PE X (.Dict [some ke] [ve] pos) (tDisp1N X.prog X.w X.K tk tv) := by
  refine ⟨fun pins s σ H Q I q => ?_⟩
  have hn := I.hok.fresh (Nat.le_refl s.heap.objs.size)
  have I1 := I.laid (a := s.heap.objs.size) (o := .dT []) (h' := s.heap.push { cls := .type "dict", data := .dict #[] }) (t' := s.toks) (fun _ _ q => Heap.get?_push_of_some _ q) (Nat.le_refl _) (dt_empty s.heap I.big)
  rw [arm_eval_Dict, zip_pairTrees [some ke] [ve] X.env pos rfl rfl, dictDisplay_pairs _ (by simp [pairTrees]) (by simp [pairTrees])]
  refine wpAny_bind (wpAny_standAt (wpAny_bind (wpAny_subDictH (knd := nestedKind X.prog X.w) (show X.A.units + 8 < cLine by omega) (by simp [pairTrees]) ?_)))
  refine pairTrees_cons_walk (thn (hk.run pins _ σ _ _ I1 (q _ hn)) fun u s1 ⟨x, H1, I2, rx, q1⟩ => thn (hv.run pins s1 σ H1 _ I2 q1) fun v s2 ⟨y, H2, I3, ry, hd, b, k, ex, tb, dk, q2⟩ => pairTrees_nil_walk ?_)
  subst ex
  obtain rfl : u = Value.ref b := rx
  obtain ⟨_, lo, xs, kt, dd⟩ := dt_of I3.hok hd
  cases kt
  obtain ⟨o, es, ep, ho, hx, hdat, he, _, hnd⟩ := id dd
  refine ⟨[(k, b, v)], ⟨rfl, rfl, ⟨nested_of I3 k tb rfl, dk⟩, trivial⟩, ⟨o, es, ep, ho, hx, hdat, he, fun _ z => (by cases z), List.nodup_nil⟩, fun h' tk dd' sb => wpAny_pure ?_⟩
  rw [storedAllH_nil_of_nodup _ (by simp)] at dd'
  obtain ⟨o', es', ep', ho', hx', hd', he', _, _⟩ := dd'
  refine ⟨.ref s.heap.objs.size, _, d_write I3 (by rw [hd]; exact True.intro) sb ⟨o', ho'⟩ (oneO_ok ⟨o', es', ep', v, ho', hx', hd', he'⟩), rfl, q2 ⟨upd_same, lo, tb.tk (tk_put (TK.refl _) fun xs => ?_), dk⟩⟩
  rw [hd]
  exact ⟨fun z => (by cases z), fun o z => (by cases z)⟩
/-- len(d) -/
def rLen1 (P : Program) (w : World) (K : PySem.W.Frag) : List V → Hp → VK → Prop := fun xs H Q => ∃ (d b : Addr) (k : NestedKey), xs = [.ref d] ∧ One P w K H d b k ∧ Q (.int 1) H
theorem call_len1 : CallR X (.builtin "len") (rLen1 X.prog X.w X.K) := by
  intro pins s σ H xs us Q I r h
  obtain ⟨d, b, k, rfl, N, q⟩ := h
  obtain ⟨u, rfl, rx⟩ := vals1 r
  obtain rfl : u = .ref d := rx
  obtain ⟨v, dd⟩ := N.dict I
  exact call_len_dictH N.lo dd (by rw [List.length_singleton]; decide) ⟨.int 1, H, I.tok _, ⟨_, rfl⟩, q⟩
end
section
variable {prog : Program} {w : World} {K : Type} [DecidableEq K] {knd : HeapKind prog w K} {A : Around} {E : Value → Shared → Prop} {s : Shared}
theorem kt_call_dictH {o : Addr} {more : List (K × Addr × Value)} {Q : Value → Shared → Prop} (hu : knd.room A.in1.in1) (hoS : (o == sysModules) = false) (ho : s.heap.DictOfH knd o more) (hty : ∀ x ∈ more, ∃ ob, s.heap.get? x.2.1 = some ob ∧ ob.cls = .type "tuple") (hap : (more.map fun x => knd.hash x.1).Nodup) (hsz : more.length ≤ sizeLine) (hst : ∀ ob, ∀ x ∈ more, knd.is (s.heap.push ob) x.1 x.2.1)
    (h : ∀ h', h'.DictOfH knd s.heap.objs.size more → Heap.SameBut s.heap.objs.size (s.heap.push { cls := .type "dict", data := .dict #[] }) h' → Q (.ref s.heap.objs.size) { s with heap := h' }) :
    wpAny (model prog w) A (call (.type "dict") [.ref o]) Q E s := by
  refine callType_codes (Q₁ := fun obj s₁ => obj = .ref s.heap.objs.size ∧ s₁ = { s with heap := s.heap.push { cls := .type "dict", data := .dict #[] } }) F.kt_called_dict (F.kt_typeCall_dict_1 _) F.entry_dict_init (kt_code_dict_new _ ⟨rfl, rfl⟩) ?_
  rintro obj s₁ ⟨rfl, rfl⟩
  have hnew : (s.heap.push { cls := .type "dict", data := .dict #[] }).DictOfH knd s.heap.objs.size [] := ⟨_, #[], 0, Heap.get?_push_size _ rfl, ⟨rfl, rfl, rfl⟩, rfl, rfl, fun _ z => (by cases z), List.nodup_nil⟩
  obtain ⟨ob, es, ep, hg, hx, hd, he, his, hn⟩ := id ho
  have ho' : (s.heap.push { cls := .type "dict", data := .dict #[] }).DictOfH knd o more := ⟨ob, es, ep, Heap.get?_push_of_some _ hg, hx, hd, he, hst _, hn⟩
  have hdo : s.heap.objs.size ≠ o := fun e => absurd (Heap.lt_size hg) (by rw [e]; exact Nat.lt_irrefl _)
  have hT : ∀ x ∈ more, Shared.TypeIs { s with heap := s.heap.push { cls := .type "dict", data := .dict #[] } } (.ref x.2.1) "tuple" := fun x hx => by
    obtain ⟨ob, h1, h2⟩ := hty x hx
    exact ⟨ob, Heap.get?_push_of_some _ h1, h2⟩
  have hnT : Shared.TypeIs { s with heap := s.heap.push { cls := .type "dict", data := .dict #[] } } (.ref s.heap.objs.size) "dict" := ⟨_, Heap.get?_push_size _ rfl, rfl⟩
  refine ⟨hnT, F.args_dict_init_2 _ _, ?_⟩
  unfold Builtin.«dict.__init__»
  refine wpAny_bind ?_
  unfold Builtin.Dict.selfAndRest
  refine wpAny_bind (wpAny_notOrdered_dict hnT ?_)
  show wpAny _ _ (pure (s.heap.objs.size, [Value.ref o])) _ _ _
  refine wpAny_pure ?_
  show wpAny _ _ (Builtin.Dict.updateFrom "dict.__init__" s.heap.objs.size (.ref o) [] .none) _ _ _
  refine updateFrom_dictH .none hu hdo hoS hnew ho' (.inr ⟨hT, hap⟩) (by simpa using hsz) fun h' hd' _ hs' => ?_
  rw [storedAllH_nil_of_nodup more hn] at hd'
  exact ⟨rfl, h h' hd' hs'⟩
end
section
variable {X : Cx}
/-- dict(d): a copy -/
def rDict1 (P : Program) (w : World) (K : PySem.W.Frag) : List V → Hp → VK → Prop := fun xs H Q => ∃ (d b : Addr) (k : NestedKey), xs = [.ref d] ∧ One P w K H d b k ∧ ∀ p, H p = none → Q (.ref p) (upd H p (oneO P w p b k))
theorem call_dict1 (hu : X.A.units + 64 < cLine) : CallR X (.type "dict") (rDict1 X.prog X.w X.K) := by
  intro pins s σ H xs us Q I r h
  obtain ⟨d, b, k, rfl, N, q⟩ := h
  obtain ⟨u, rfl, rx⟩ := vals1 r
  obtain rfl : u = .ref d := rx
  obtain ⟨v, dd⟩ := N.dict I
  have hk := nested_of I k N.ky.1 (show RelV (.ref b) (.ref b) from rfl)
  refine kt_call_dictH (knd := nestedKind X.prog X.w) (show X.A.in1.in1.units + 8 < cLine by simp only [Around.in1_units]; omega) N.lo dd (fun x hx => ?_) (by simp) (by rw [List.length_singleton]; decide) (fun ob x hx => ?_) fun h' d' hs => ?_
  · obtain rfl := List.mem_singleton.mp hx
    cases hk with
    | tup ho hc hd _ => exact ⟨_, ho, hc⟩
  · obtain rfl := List.mem_singleton.mp hx
    exact ⟨NestedIs.at (fun b ob vs n hb hc => Heap.get?_push_of_some _ hb) k _ hk, N.ky.2⟩
  · obtain ⟨o', es', ep', ho', hx', hd', he', _, _⟩ := d'
    exact ⟨.ref s.heap.objs.size, _, I.laid (t' := s.toks) (fun b u e => (hs.2 b (Nat.ne_of_lt (Heap.lt_size e))).trans (Heap.get?_push_of_some _ e)) (Nat.le_refl _) (oneO_ok ⟨o', es', ep', v, ho', hx', hd', he'⟩), rfl, q _ (I.hok.fresh (Nat.le_refl _))⟩
end
end M05

set_option Elab.async false
set_option linter.all false
set_option maxRecDepth 100000
set_option maxHeartbeats 4000000
/-! Sources: owners, kind_of, settle -/
namespace M05
open PySem PySem.Spec PyProof.Rows L2 GL
/-- what e gives is locked -/
def tLockR (H0 : Hp) (t : TE) : TE := fun σ H Q => t σ H fun v H1 => ∃ d u, v = .ref d ∧ H1 d = some u ∧ Mut (some u) ∧ ∀ od, (∀ o' u', H0 d ≠ some (.frz o' u')) → Q v (upd H1 d (.frz od u))
theorem pe_lockR {X : Cx} {e : Expr} {t : TE} (h : PE X e t) : PE X e (tLockR X.H_0 t) := by
  refine ⟨fun pins s σ H Q I hw => ?_⟩
  refine thn (h.run pins s σ H _ I hw) fun v s1 ⟨x, H1, I1, r, d, u, ex, hd, mu, q⟩ => ?_
  obtain ⟨od, I2⟩ := I1.lock hd mu
  exact ⟨x, _, I2, r, q od (I1.nofrz hd mu)⟩
/-- the statement, and behind it a lock is loosed -/
def tUnl (H0 : Hp) (t : TS) : TS := fun D σ H => t ⟨fun σ' H' => ∃ d od u, H' d = some (.frz od u) ∧ (∀ o' u', H0 d ≠ some (.frz o' u')) ∧ D.nx σ' (upd H' d u), fun v H' => ∃ d od u, H' d = some (.frz od u) ∧ (∀ o' u', H0 d ≠ some (.frz o' u')) ∧ D.rt v (upd H' d u),
  fun σ' H' => ∃ d od u, H' d = some (.frz od u) ∧ (∀ o' u', H0 d ≠ some (.frz o' u')) ∧ D.bk σ' (upd H' d u), fun σ' H' => ∃ d od u, H' d = some (.frz od u) ∧ (∀ o' u', H0 d ≠ some (.frz o' u')) ∧ D.ct σ' (upd H' d u)⟩ σ H
theorem ps_unl {X : Cx} {st : Stmt} {t : TS} (h : PS X st t) : PS X st (tUnl X.H_0 t) := by
  refine ⟨fun pins s σ H D I hw => ?_⟩
  refine thn (h.run pins s σ _ _ I hw) fun f s1 q => ?_
  cases f with
  | next => obtain ⟨σ', H', I2, d, od, u, e, n, q⟩ := q; exact ⟨σ', _, I2.unlock e n, q⟩
  | brk => obtain ⟨σ', H', I2, d, od, u, e, n, q⟩ := q; exact ⟨σ', _, I2.unlock e n, q⟩
  | cont => obtain ⟨σ', H', I2, d, od, u, e, n, q⟩ := q; exact ⟨σ', _, I2.unlock e n, q⟩
  | ret v => obtain ⟨x, σ', H', I2, r, d, od, u, e, n, q⟩ := q; exact ⟨x, σ', _, I2.unlock e n, r, q⟩
section
variable {d : Addr} {o : Obj} {kvs : List (L2.Key × V)} {g : TG} {tb : TS} {D : Ends} {σ : L2.St} {H : Hp}
theorem for_keys (Pv : Nat → L2.St → Hp → Prop) (h0 : Pv 0 σ H) (hl : ∀ i σ H, i ≤ kvs.length → Pv i σ H → H d = some (.frz o (.dK kvs)))
    (hs : ∀ i k v σ H, kvs[i]? = some (k, v) → Pv i σ H → g (kV k) σ H fun σ2 H2 => tb { D with nx := Pv (i + 1), ct := Pv (i + 1), bk := D.nx } σ2 H2) (hd : ∀ σ H, Pv kvs.length σ H → D.nx σ H) :
    ∃ W : Nat → Nat → L2.St → Hp → Prop, (∃ m, W 0 m σ H) ∧ ∀ i m σ H, W i m σ H →
      ((Itk d o kvs).stop i H ∧ D.nx σ H) ∨ ((Itk d o kvs).go i H ∧ ∃ N : L2.St → Hp → Prop, (∀ σ' H', N σ' H' → ∃ m', m' < m ∧ W (i + 1) m' σ' H') ∧ ∀ x H', (Itk d o kvs).yld i H x H' → g x σ H' fun σ2 H2 => tb { D with nx := N, ct := N, bk := D.nx } σ2 H2) := by
  refine ⟨fun i m σ H => m = kvs.length - i ∧ i ≤ kvs.length ∧ Pv i σ H, ⟨_, rfl, Nat.zero_le _, h0⟩, ?_⟩
  rintro i m σ H ⟨rfl, hi, p⟩
  have q := hl i σ H hi p
  by_cases hlt : i < kvs.length
  · refine .inr ⟨⟨q, hlt⟩, Pv (i + 1), fun σ' H' p' => ⟨kvs.length - (i + 1), by omega, rfl, hlt, p'⟩, fun x H' y => ?_⟩
    obtain ⟨rfl, k, v, e, rfl⟩ := y
    exact hs i k v σ _ e p
  · have e : i = kvs.length := by omega
    subst e
    exact .inl ⟨⟨q, Nat.le_refl _⟩, hd σ H p⟩
theorem for_vals (Pv : Nat → L2.St → Hp → Prop) (h0 : Pv 0 σ H) (hl : ∀ i σ H, i ≤ kvs.length → Pv i σ H → H d = some (.frz o (.dK kvs)))
    (hs : ∀ i k v σ H, kvs[i]? = some (k, v) → Pv i σ H → g v σ H fun σ2 H2 => tb { D with nx := Pv (i + 1), ct := Pv (i + 1), bk := D.nx } σ2 H2) (hd : ∀ σ H, Pv kvs.length σ H → D.nx σ H) :
    ∃ W : Nat → Nat → L2.St → Hp → Prop, (∃ m, W 0 m σ H) ∧ ∀ i m σ H, W i m σ H →
      ((Itd d o kvs).stop i H ∧ D.nx σ H) ∨ ((Itd d o kvs).go i H ∧ ∃ N : L2.St → Hp → Prop, (∀ σ' H', N σ' H' → ∃ m', m' < m ∧ W (i + 1) m' σ' H') ∧ ∀ x H', (Itd d o kvs).yld i H x H' → g x σ H' fun σ2 H2 => tb { D with nx := N, ct := N, bk := D.nx } σ2 H2) := by
  refine ⟨fun i m σ H => m = kvs.length - i ∧ i ≤ kvs.length ∧ Pv i σ H, ⟨_, rfl, Nat.zero_le _, h0⟩, ?_⟩
  rintro i m σ H ⟨rfl, hi, p⟩
  have q := hl i σ H hi p
  by_cases hlt : i < kvs.length
  · refine .inr ⟨⟨q, hlt⟩, Pv (i + 1), fun σ' H' p' => ⟨kvs.length - (i + 1), by omega, rfl, hlt, p'⟩, fun x H' y => ?_⟩
    obtain ⟨rfl, k, e⟩ := y
    exact hs i k x σ _ e p
  · have e : i = kvs.length := by omega
    subst e
    exact .inl ⟨⟨q, Nat.le_refl _⟩, hd σ H p⟩
end
theorem byN_at : ∀ {fs : List Fd} {as : List Addr} {i : Nat} {k : L2.Key} {v : V}, (byN fs as)[i]? = some (k, v) → ∃ f, fs[i]? = some f ∧ k = .inr f.nm
  | [], _, _, _, _, h => by simp [byN] at h
  | _ :: _, [], _, _, _, h => by simp [byN] at h
  | f :: fs, a :: as, 0, k, v, h => ⟨f, rfl, (congrArg Prod.fst (Option.some.inj (show some ((Sum.inr f.nm : L2.Key), V.ref a) = some (k, v) from h))).symm⟩
  | f :: fs, a :: as, i + 1, k, v, h => byN_at (fs := fs) (as := as) (i := i) (by simpa [byN] using h)
theorem byN_full : ∀ {fs : List Fd} {as : List Addr}, as.length = fs.length → (byN fs as).length = fs.length
  | [], _, _ => rfl
  | _ :: _, [], h => by cases h
  | f :: fs, a :: as, h => by
    show (byN fs as).length + 1 = _
    rw [byN_full (Nat.succ.inj h), List.length_cons]
theorem scOs : FnScope ["self", "name", "file", "found", "template"] ["self", "name"] (defScope m_Sources_owners) := ⟨rfl, rfl, rfl, by decide +kernel, rfl, by decide +kernel, by decide +kernel⟩
theorem scKO : FnScope ["self", "home", "value", "seen", "many", "way", "names", "file", "owner", "there", "name", "found"] ["self", "home", "value", "seen"] (defScope m_Sources_kind_of) := ⟨rfl, rfl, rfl, by decide +kernel, rfl, by decide +kernel, by decide +kernel⟩
theorem scSt : FnScope ["self", "name", "owner", "field", "kind"] ["self"] (defScope m_Sources_settle) := ⟨rfl, rfl, rfl, by decide +kernel, rfl, by decide +kernel, by decide +kernel⟩
section
variable {P : Program} {w : World} {K : PySem.W.Frag} {mg : Str → Option Value} {base : Heap}
/-- the names of a file's templates -/
abbrev temN (f : Fd) : List V := (tems f.own).map fun y => .str y.1
def spOs (k : Ks K mg) : Sp := fun vs H Q _ => ∃ (so B Kf : Addr) (as : List Addr) (fs : List Fd) (f : Fd) (H0 : Hp), vs = [.ref so, .str f.nm] ∧ SrcA k H0 so B Kf as fs ∧ Same H0 H ∧ f ∈ fs ∧ f.own.length ≤ 100 ∧ ∀ H' L, Same H H' → H L = none → H' L = some (.lst (temN f)) → Q (.ref L) H'
theorem ok_os {f : Addr} {fd : FuncData} (F : Fun K "owners" "Sources.owners" m_Sources_owners f fd) (T : Bl K mg) (k : Ks K mg) : FnOk P w K mg base CX0 1 f fd ["self", "name"] (spOs k) := by
  refine F.ok scOs (fun vs H Q E h => ?_) (fun cdv A outer s H vs Q E hr h => ?_)
  · obtain ⟨_, _, _, _, _, _, _, rfl, _⟩ := h
    rfl
  · obtain ⟨so, B, Kf, as, fs, f, H0, rfl, hS0, s0, hf, hlen, q⟩ := h
    refine ⟨_, (pss_cons (ps_set (i := 2) scOs.nd rfl (Or.inl rfl) (pe_dget (u1 hr) (pe_fld (pv 0) rfl) (pv 1) (fun _ _ => rfl)))
      (pss_cons (ps_setLc (i := 3) (own := [("template", 4)]) (g := gName 4) (by rfl) scOs.nd rfl rfl (sw_true rfl rfl rfl (by decide +kernel)) (pi_list (pe_fld (pv 2) rfl)) (blkOk_by (own := [("template", 4)]) (N := ["self", "name", "file", "found", "template"]) (sc := defScope m_Sources_owners) (by decide +kernel)) (fun _ _ _ _ _ => (pg_name (i := 4) scOs.nd rfl (Or.inl rfl))) (fun _ _ _ _ _ => (pts_one (pt_cmpR op_isN (pe_fldK (K := K) rfl (pv 4) rfl) pe_non (nomark _)))) (fun _ _ _ _ _ => (pe_fldK (K := K) rfl (pv 4) rfl)))
      (pss_one (ps_ret (pe_ifExp (pt_cmpR op_notN (pe_fld (pv 2) rfl) pe_non (nomark _)) pe_never (pv 3)))))), ?_⟩
    obtain ⟨⟨d, hso⟩, hB, hF, hn, hl⟩ := hS0.same s0
    obtain ⟨i0, hi0⟩ := mem_at hf
    obtain ⟨a, ha, hA⟩ := hF.get hi0
    obtain ⟨da, l1, l2, l3, ds, ts, us, vs, g1, g2, g3, g4, g5, g6, g7⟩ := id hA
    have hlu := g5.len
    have hlt := tems_len f.own
    have hDG : DGet H B (.str f.nm) (some (.ref a)) := by
      have z := byN_some (f := f) (a := a) hn hi0 ha
      rw [← z]
      exact DGet.kR (k := Sum.inr f.nm) hB
    refine ⟨.ref so, rfl, _, _, _, _, _, rfl, hso, k.Sources.cl, k.Sources.nf.get ix_Sources_by_name, lkZ ix_Sources_by_name rfl, .str f.nm, rfl, B, .ref a, rfl, hDG, .ref a, rfl, _, _, _, _, _, rfl, g1, k.FileSource.cl, k.FileSource.nf.get ix_FileSource_templates, lkZ ix_FileSource_templates rfl, l2, rfl, ⟨_, SqL.of g4⟩, fun D nD => ?_⟩
    refine lc_list (K := K) (a := l2) (xs := refs us) (fun i Hi => Same H Hi ∧ Hi D = some (.lst ((temN f).take i))) ⟨same_new nD, upd_same⟩ (fun i Hi _ hP => SqL.of (hP.1 _ _ g4)) (fun i x1 Hi hx1 hP => ?_) (fun Hi hP => ?_)
    · obtain ⟨sm, hD⟩ := hP
      obtain ⟨u, rfl, hu⟩ := ref_at hx1
      obtain ⟨y, hy, hT⟩ := g5.at hu
      obtain ⟨dd, bb, hTt, hBd⟩ := id hT
      have hTi := sm _ _ hTt
      have hi : i < us.length := (List.getElem?_eq_some_iff.mp hu).1
      have hsz : ((temN f).take i).length < sizeLine := by rw [List.length_take]; exact small1000 (by omega)
      refine ⟨rfl, .ref u, rfl, _, _, _, _, _, rfl, hTi, k.Template.cl, k.Template.nf.get ix_Template_base, lkZ ix_Template_base rfl, rfl, _, rfl, iteT ⟨.ref u, rfl, _, _, _, _, _, rfl, hTi, k.Template.cl, k.Template.nf.get ix_Template_name, lkZ ix_Template_name rfl, _, hD, hsz, ?_, ?_⟩⟩
      · exact fun b o eb => by
          rw [upd_ne (ne_of_none eb nD)]
          exact sm b o eb
      · rw [upd_same, List.take_add_one, List.getElem?_map, hy]
        rfl
    · obtain ⟨sm, hD⟩ := hP
      have e : (refs us).length = (temN f).length := by
        unfold refs
        rw [List.length_map, List.length_map, hlu]
      rw [e, List.take_length] at hD
      have g1i := sm _ _ g1
      exact ⟨.ref a, rfl, _, _, _, _, _, rfl, g1i, k.FileSource.cl, k.FileSource.nf.get ix_FileSource_document, lkZ ix_FileSource_document rfl, rfl, _, rfl, iteF ⟨.ref D, rfl, q Hi D sm nD hD⟩⟩
def spKO (P : Program) (w : World) (k : Ks K mg) : Sp := fun vs H Q _ => ∃ (so ho v d b : Addr) (n : Int) (kk : NestedKey), vs = [.ref so, .ref ho, .ref v, .ref d] ∧ LitA k H v n ∧ One P w K H d b kk ∧ ∀ H', Same H H' → Q (.str "number") H'
theorem ok_ko {f : Addr} {fd : FuncData} (F : Fun K "kind_of" "Sources.kind_of" m_Sources_kind_of f fd) (T : Bl K mg) (k : Ks K mg) (I : Isi k) (d_literal_kind : DnO P w K mg base "literal_kind" 1 ["literal"] (spLK k)) : FnOk P w K mg base CX0 2 f fd ["self", "home", "value", "seen"] (spKO P w k) := by
  refine F.ok scKO (fun vs H Q E h => ?_) (fun cdv A outer s H vs Q E hr h => ?_)
  · obtain ⟨_, _, _, _, _, _, _, rfl, _⟩ := h
    rfl
  · obtain ⟨so, ho, v, d, b, n, kk, rfl, hv, hN, q⟩ := h
    refine ⟨_, (pss_cons (ps_par (i := 4) (j := 5) (by rfl) scKO.nd rfl rfl (by decide) rfl rfl (pa_cons (pe_callB call_len1 (by rfl) T.len PySem.boot_len (pa_cons (pv 3) pa_nil)) (pa_cons (pe_callTy (call_dict1 hr.units) (by rfl) T.dict (by decide +kernel) (pa_cons (pv 3) pa_nil)) pa_nil)) (by rfl))
      (pss_cons (ps_while PassesOwn.never (PW.pt (pw_and (pt_not (pt_val (pe_callB call_isi (by rfl) T.isinstance (by decide +kernel) (pa_cons (pv 2) (pa_cons (pe_glob (v := .ref I.Literal.C) (by rfl) I.Literal.g rfl) pa_nil))))) (pw_and pt_never (pw_and1 pt_never))))
        (pss_cons ps_never
        (pss_cons ps_never
        (pss_cons ps_never
        (pss_cons ps_never
        (pss_one ps_never))))))
      (pss_cons (ps_if (pt_val (pe_callB call_isi (by rfl) T.isinstance (by decide +kernel) (pa_cons (pv 2) (pa_cons (pe_glob (v := .ref I.Literal.C) (by rfl) I.Literal.g rfl) pa_nil))))
        (pss_one (ps_ret (pe_call d_literal_kind.ok (hr.mono (by omega)) (by rfl) d_literal_kind.g d_literal_kind.kp d_literal_kind.b .nil pass0 (pa_cons (pv 2) pa_nil))))
        pss_nil)
      (pss_cons ps_never
      (pss_one ps_never))))), ?_⟩
    refine ⟨.ref d, rfl, d, b, kk, rfl, hN, .ref d, rfl, d, b, kk, rfl, hN, fun p np => ?_⟩
    have s1 := same_new (o := oneO P w p b kk) np
    have hv1 := hv.same s1
    refine ⟨_, _, rfl, fun m σ' H' => m = 0 ∧ σ' = [some (.ref so), some (.ref ho), some (.ref v), some (.ref d), some (.int 1), some (.ref p), none, none, none, none, none, none] ∧ H' = upd H p (oneO P w p b kk), ⟨0, rfl, rfl, rfl⟩, ?_⟩
    rintro m σ' H' ⟨rfl, rfl, rfl⟩
    refine ⟨.ref v, rfl, .ref v, .ref I.Literal.C, _, _, true, rfl, .own _, I.ty hv1, I.yLit, true, rfl, iteF ?_⟩
    exact ⟨.ref v, rfl, .ref v, .ref I.Literal.C, _, _, true, rfl, .own _, I.ty hv1, I.yLit, true, rfl, iteT ⟨.ref v, rfl, v, n, rfl, hv1, q _ s1⟩⟩
theorem upd_self {H : Hp} {a : Addr} {o : HO} (h : H a = some o) : upd H a o = H := by
  funext b
  by_cases z : b = a
  · rw [z, upd_same, h]
  · rw [upd_ne z]
theorem valV_uniq {κ : Type} [DecidableEq κ] {kv : List (κ × V)} {y : κ} {r : V} (hn : (kv.map Prod.fst).Nodup) (h : (y, r) ∈ kv) : valV kv y = some r := by
  induction kv with
  | nil => cases h
  | cons p l ih =>
    rw [List.map_cons, List.nodup_cons] at hn
    rcases List.mem_cons.mp h with h | h
    · rw [← h]
      exact valV_pos rfl
    · have ne : ¬ p.1 = y := fun z => hn.1 (by rw [z]; exact List.mem_map_of_mem (f := Prod.fst) h)
      rw [valV_neg ne]
      exact ih hn.2 h
/-- the files' dict is locked or loosed -/
theorem StS.swap {k : Ks K mg} {H00 H0 H : Hp} {so B Kf : Addr} {as : List Addr} {fs : List Fd} {Ky : List (List L2.Key)} {u x : HO} (h : StS k H0 H so Kf fs Ky) (hso : ∃ d, H0 so = some (.ins k.Sources.C d (nSources.zip [.ref B, .ref Kf]))) (hB : H0 B = some x) (hx : ∀ C d l, x ≠ .ins C d l)
    (hF : Fils k H00 as fs) (n0 : H00 B = none) (s00 : Same H00 H0) (hu : L2.Rd (upd H0 B u) B (.dK (byN fs as))) : SrcA k (upd H0 B u) so B Kf as fs ∧ StS k (upd H0 B u) (upd H B u) so Kf fs Ky := by
  have nB : ∀ {b}, H0 b = none → b ≠ B := fun e z => by rw [z, hB] at e; cases e
  have iB : ∀ {b C d l}, H0 b = some (.ins C d l) → b ≠ B := fun e z => by rw [z, hB] at e; exact hx _ _ _ (Option.some.inj e)
  obtain ⟨B', as', hS⟩ := h.src
  obtain ⟨d, hso⟩ := hso
  have hSA : SrcA k (upd H0 B u) so B Kf as fs := ⟨⟨d, by rw [upd_ne (iB hso)]; exact hso⟩, hu, Fils.same hF (fun b y e => by rw [upd_ne (ne_of_none e n0)]; exact s00 b y e), hS.2.2.2⟩
  refine ⟨hSA, ⟨B, as, hSA⟩, ?_, fun b y e => ?_, h.own, ?_⟩
  · rw [upd_ne (nB h.n0)]
    exact h.n0
  · by_cases z : b = B
    · rw [z, upd_same] at e ⊢
      exact e
    · rw [upd_ne z] at e ⊢
      exact h.sm _ _ e
  · obtain ⟨kv, h1, h2, h3, h4⟩ := h.kn
    refine ⟨kv, by rw [upd_ne (nB h.n0)]; exact h1, h2, h3, fun y hy => ?_⟩
    obtain ⟨hm, D, kd, e, ⟨fo, v, n, e1, e2, e3, ⟨df, e4⟩, ⟨dl, y1, y2, e5⟩, e6⟩, hk⟩ := h4 y hy
    exact ⟨hm, D, kd, e, ⟨fo, v, n, by rw [upd_ne (nB e1)]; exact e1, by rw [upd_ne (nB e2)]; exact e2, by rw [upd_ne (nB e1)]; exact e3, ⟨df, by rw [upd_ne (nB e2)]; exact e4⟩, ⟨dl, y1, y2, by rw [upd_ne (iB e5)]; exact e5⟩, e6⟩, hk⟩
/-- a field's kind is settled -/
theorem StS.put {k : Ks K mg} {H0 H H' : Hp} {so Kf D fo v : Addr} {n : Int} {fs : List Fd} {Ky : List (List L2.Key)} {y : List L2.Key} {kv : List (List L2.Key × V)} (h : StS k H0 H so Kf fs Ky) (hkv : H Kf = some (.dT kv)) (hv : valV kv y = some (.ref D)) (o : Off fo H H')
    (hD : H D = some (.dK [(.inr "n", .ref fo)])) (nfo : H0 fo = none) (hfo : ∃ C d l, H fo = some (.ins C d l)) (hf' : FldA k H' fo v "number") (hl : LitA k H0 v n) : StS k H0 H' so Kf fs (y :: Ky) := by
  obtain ⟨C, d, l, hfo⟩ := hfo
  have nK : Kf ≠ fo := fun z => by rw [z, hfo] at hkv; cases hkv
  obtain ⟨kv2, h1, h2, h3, h4⟩ := h.kn
  obtain rfl : kv2 = kv := by
    rw [hkv] at h1
    cases h1
    rfl
  refine ⟨h.src, h.n0, fun b x e => o b x (ne_of_none e nfo) (h.sm b x e), h.own, kv2, o _ _ nK hkv, h2, fun y' hy' => ?_, fun p hp => ?_⟩
  · rcases List.mem_cons.mp hy' with rfl | hy'
    · exact List.mem_map_of_mem (f := Prod.fst) (valV_some_of hv)
    · exact h3 _ hy'
  · obtain ⟨hm, D1, kd, e, ⟨fo1, v1, n1, e1, e2, e3, ⟨df, e4⟩, e5, e6⟩, hk⟩ := h4 p hp
    have nD : D1 ≠ fo := fun z => by rw [z, hfo] at e3; cases e3
    by_cases z : fo1 = fo
    · exact ⟨hm, D1, "number", e, ⟨fo, v, n, e1, nfo, by rw [← z]; exact o _ _ nD e3, hf', hl, .inr rfl⟩, fun _ => rfl⟩
    · refine ⟨hm, D1, kd, e, ⟨fo1, v1, n1, e1, e2, o _ _ nD e3, ⟨df, o _ _ z e4⟩, e5, e6⟩, fun hy => ?_⟩
      rcases List.mem_cons.mp hy with hy | hy
      · have h5 := valV_uniq (y := p.1) (r := p.2) h2 hp
        rw [hy, hv] at h5
        have h6 : V.ref D = .ref D1 := by rw [← e]; exact Option.some.inj h5
        cases h6
        rw [hD] at e3
        cases e3
        exact absurd rfl z
      · exact hk hy
def spSt (k : Ks K mg) : Sp := fun vs H Q _ => ∃ (so B Kf : Addr) (as : List Addr) (fs : List Fd) (H00 H0 : Hp), vs = [.ref so] ∧ SrcA k H0 so B Kf as fs ∧ H0 B = some (.dK (byN fs as)) ∧ StS k H0 H so Kf fs [] ∧ Fils k H00 as fs ∧ H00 B = none ∧ Same H00 H0 ∧ (∀ f ∈ fs, ∀ q ∈ f.own, q.2.1 ≠ "") ∧
  ∀ H' Ky, StS k H0 H' so Kf fs Ky → (∀ f ∈ fs, ∀ y ∈ tems f.own, kyOf f.nm y.1 ∈ Ky) → Q .non H'
theorem ok_st {f : Addr} {fd : FuncData} (F : Fun K "settle" "Sources.settle" m_Sources_settle f fd) (T : Bl K mg) (k : Ks K mg) (m_owners : DnM P w K mg base k.Sources "owners" 1 ["self", "name"] (spOs k)) (m_fields_of : DnM P w K mg base k.Sources "fields_of" 4 ["self", "file", "owner"] (spFO k))
    (m_kind_of : DnM P w K mg base k.Sources "kind_of" 2 ["self", "home", "value", "seen"] (spKO P w k)) : FnOk P w K mg base CX0 5 f fd ["self"] (spSt k) := by
  refine F.ok scSt (fun vs H Q E h => ?_) (fun cdv A outer s H vs Q E hr h => ?_)
  · obtain ⟨_, _, _, _, _, _, _, rfl, _⟩ := h
    rfl
  · obtain ⟨so, B, Kf, as, fs, H00, H0, rfl, hSA, hB0, hS, hF, n0, s00, hne, q⟩ := h
    refine ⟨_, (pss_one (ps_lock (ps_for PassesOwn.never rfl (pi_keys (pe_fld (pv 0) rfl)) (pg_name (i := 1) scSt.nd rfl (Or.inl rfl))
        (pss_one (ps_for PassesOwn.never rfl (pi_list (pe_meth (pv 0) k.Sources.cl m_owners.mt m_owners.ok (hr.mono (by omega)) m_owners.b .nil pass0 (pa_cons (pv 1) pa_nil))) (pg_name (i := 2) scSt.nd rfl (Or.inl rfl))
          (pss_one (ps_unl (ps_for PassesOwn.never rfl (pi_values (pe_lockR (pe_meth (pv 0) k.Sources.cl m_fields_of.mt m_fields_of.ok (hr.mono (by omega)) m_fields_of.b .nil pass0 (pa_cons (pv 1) (pa_cons (pv 2) pa_nil))))) (pg_name (i := 3) scSt.nd rfl (Or.inl rfl))
            (pss_one (ps_if (pt_cmpR op_eq (pe_fld (pv 3) rfl) (pe_glob (v := .str "plain") (by rfl) T.cplain.choose_spec ⟨_, rfl⟩) (nomark _))
              (pss_cons (ps_set (i := 4) scSt.nd rfl (Or.inl rfl) (pe_meth (pv 0) k.Sources.cl m_kind_of.mt m_kind_of.ok (hr.mono (by omega)) m_kind_of.b .nil pass0 (pa_cons (pe_tup (pa_cons (pv 1) (pa_cons (pv 2) pa_nil))) (pa_cons (pe_fld (pv 3) rfl) (pa_cons (pe_disp1N hr.units (pe_tup (pa_cons (pe_tup (pa_cons (pv 1) (pa_cons (pv 2) pa_nil))) (pa_cons (pe_fld (pv 3) rfl) pa_nil))) pe_int) pa_nil)))))
              (pss_one (ps_fldZ (pv 3) (pe_ifExp (pt_val (pe_callB call_isi (by rfl) T.isinstance (by decide +kernel) (pa_cons (pv 4) (pa_cons (pe_bltn (v := .ty "str") (by rfl) T.str (by decide +kernel) rfl) pa_nil)))) (pv 4) (pe_glob (v := .str "number") (by rfl) T.cnumber.choose_spec ⟨_, rfl⟩)) rfl)))
              pss_nil)))))))))), ?_⟩
    obtain ⟨⟨d, hso0⟩, _⟩ := id hSA
    have la := hSA.2.2.1.len
    refine ⟨B, _, hS.sm _ _ hB0, trivial, fun od => ?_⟩
    obtain ⟨hSL, hSS⟩ := hS.swap (u := .frz od (.dK (byN fs as))) ⟨d, hso0⟩ hB0 (fun _ _ _ z => by cases z) hF n0 s00 (.inr ⟨od, upd_same⟩)
    obtain ⟨⟨d2, hsoL⟩, _⟩ := id hSL
    have hBL := upd_same (H := H0) (a := B) (o := .frz od (.dK (byN fs as)))
    have s0L : Same H00 (upd H0 B (.frz od (.dK (byN fs as)))) := fun b y e => by rw [upd_ne (ne_of_none e n0)]; exact s00 b y e
    have back : upd (upd H0 B (.frz od (.dK (byN fs as)))) B (.dK (byN fs as)) = H0 := by rw [upd_upd, upd_self hB0]
    generalize upd H0 B (.frz od (.dK (byN fs as))) = HL at hSL hSS hsoL hBL s0L back
    have hso := hSS.sm _ _ hsoL
    have hBb := hSS.sm _ _ hBL
    refine ⟨.ref so, rfl, _, _, _, _, _, rfl, hso, k.Sources.cl, k.Sources.nf.get ix_Sources_by_name, lkZ ix_Sources_by_name rfl, B, od, rfl, .inl ⟨_, hBb, ?_⟩⟩
    refine for_keys (fun i σ Hi => ∃ (y1 y2 y3 y4 : Option V) (Ky : List (List L2.Key)), σ = [some (.ref so), y1, y2, y3, y4] ∧ StS k HL Hi so Kf fs Ky ∧ ∀ f ∈ fs.take i, ∀ y ∈ tems f.own, kyOf f.nm y.1 ∈ Ky) ⟨_, _, _, _, _, rfl, hSS, fun _ z => by cases z⟩ (fun i σ Hi _ hP => by obtain ⟨_, _, _, _, _, _, hSi, _⟩ := hP; exact hSi.sm _ _ hBL) (fun i kk vv σ Hi hx hP => ?_) (fun σ Hi hP => ?_)
    · obtain ⟨y1, y2, y3, y4, Ky, rfl, hSi, hall⟩ := hP
      obtain ⟨f, hfi, rfl⟩ := byN_at hx
      have hf := List.mem_of_getElem? hfi
      have hlen := hSi.own f hf
      have hsoi := hSi.sm _ _ hsoL
      refine ⟨.ref so, rfl, _, _, _, rfl, hsoi, lkN nx_Sources_owners, .str f.nm, rfl, so, B, Kf, as, fs, f, HL, rfl, hSL, hSi.sm, hf, hlen, fun H1 L s1 nL hL => ⟨L, rfl, ⟨_, SqL.of hL⟩, ?_⟩⟩
      have hS1 := hSi.same s1
      refine for_list (K := K) (a := L) (xs := temN f) (fun j σ Hj => ∃ (y2 y3 y4 : Option V) (Kz : List (List L2.Key)), σ = [some (.ref so), some (.str f.nm), y2, y3, y4] ∧ StS k HL Hj so Kf fs Kz ∧ Hj L = some (.lst (temN f)) ∧ (∀ y ∈ Ky, y ∈ Kz) ∧ ∀ y ∈ (tems f.own).take j, kyOf f.nm y.1 ∈ Kz) ⟨_, _, _, Ky, rfl, hS1, hL, fun _ e => e, fun _ z => by cases z⟩ (fun j σ Hj _ hP => by obtain ⟨_, _, _, _, _, _, hLj, _⟩ := hP; exact SqL.of hLj) (fun j x1 σ Hj hx1 hP => ?_) (fun σ Hj hP => ?_)
      · obtain ⟨y2, y3, y4, Kz, rfl, hSj, hLj, hin, hdn⟩ := hP
        rw [List.getElem?_map] at hx1
        obtain ⟨y, hy, rfl⟩ := Option.map_eq_some_iff.mp hx1
        have hym := List.mem_of_getElem? hy
        have hsoj := hSj.sm _ _ hsoL
        refine ⟨.ref so, rfl, _, _, _, rfl, hsoj, lkN nx_Sources_fields_of, .str f.nm, rfl, .str y.1, rfl, HL, so, Kf, fs, Kz, f, y.1, rfl, hSj, hf, List.mem_map_of_mem (f := Prod.fst) hym, tems_ne (hne f hf) hym, fun H2 D kd o2 hS2 hD hk ⟨kv, hkv, hvv⟩ => ?_⟩
        obtain ⟨fo, v, n, nD, nfo, hDd, ⟨df, hfo⟩, hlit, hkd⟩ := hD
        have hkn := hk
        have LK : L ≠ Kf := fun z => by
          obtain ⟨kv0, e, _⟩ := hSj.kn
          rw [← z, hLj] at e
          cases e
        have hL2 := o2 _ _ LK hLj
        have Lfo : L ≠ fo := fun z => by rw [z, hfo] at hL2; cases hL2
        have Dfo : D ≠ fo := fun z => by rw [z, hfo] at hDd; cases hDd
        have LD : L ≠ D := fun z => by rw [z, hDd] at hL2; cases hL2
        have hso2 := hS2.sm _ _ hsoL
        have sofo : so ≠ fo := fun z => by rw [z, nfo] at hsoL; cases hsoL
        have soD : so ≠ D := fun z => by rw [z, nD] at hsoL; cases hsoL
        refine ⟨D, _, rfl, hDd, trivial, fun od2 nf => ⟨D, od2, _, rfl, upd_same, ?_⟩⟩
        refine for_vals (fun i σ Hi => ∃ (y3 y4 : Option V) (kz : Str), σ = [some (.ref so), some (.str f.nm), some (.str y.1), y3, y4] ∧ (∀ b x, b ≠ fo → b ≠ D → H2 b = some x → Hi b = some x) ∧ Hi D = some (.frz od2 (.dK [(.inr "n", .ref fo)])) ∧ FldA k Hi fo v kz ∧ (kz = "plain" ∨ kz = "number") ∧ (i = 1 → kz = "number")) ⟨_, _, kd, rfl, fun b x _ nb e => by rw [upd_ne nb]; exact e, upd_same, ⟨df, by rw [upd_ne Dfo.symm]; exact hfo⟩, hkd, fun z => by cases z⟩ (fun i σ Hi _ hP => by obtain ⟨_, _, _, _, _, hDi, _⟩ := hP; exact hDi) (fun i k1 v1 σ Hi hx1 hP => ?_) (fun σ Hi hP => ?_)
        · obtain ⟨y3, y4, kz, rfl, oi, hDi, ⟨dfi, hfi2⟩, hkz, _⟩ := hP
          obtain ⟨rfl, rfl, rfl⟩ : i = 0 ∧ k1 = .inr "n" ∧ v1 = .ref fo := by
            cases i with
            | zero => simpa [eq_comm] using hx1
            | succ i => simp at hx1
          refine ⟨.ref fo, rfl, _, _, _, _, _, rfl, hfi2, k.Field.cl, k.Field.nf.get ix_Field_kind, lkZ ix_Field_kind rfl, rfl, _, rfl, ?_⟩
          rcases hkz with rfl | rfl
          · have eq : decide (V.str "plain" = V.str "plain") = true := decide_eq_true rfl
            rw [eq]
            have hsoi := oi _ _ sofo soD hso2
            have hlitv := hlit.same hS2.sm
            obtain ⟨dl, yl, el, hvl⟩ := hlitv
            have vfo : v ≠ fo := fun z => by rw [z] at hvl; obtain ⟨_, _, _, hv0⟩ := hlit; rw [z, nfo] at hv0; cases hv0
            have vD : v ≠ D := fun z => by rw [z, hDd] at hvl; cases hvl
            refine iteT ⟨.ref so, rfl, _, _, _, rfl, hsoi, lkN nx_Sources_kind_of, .str f.nm, rfl, .str y.1, rfl, by show 2 ≤ sizeLine; decide, fun ho nho => ?_⟩
            have s3 := same_new (o := .tup [.str f.nm, .str y.1]) nho
            generalize upd Hi ho (.tup [.str f.nm, .str y.1]) = H3 at s3
            have hf3 := s3 _ _ hfi2
            refine ⟨.ref fo, rfl, _, _, _, _, _, rfl, hf3, k.Field.cl, k.Field.nf.get ix_Field_value, lkZ ix_Field_value rfl, fun dd ndd => ?_⟩
            have s4 := same_new (o := .dT []) ndd
            have hd4 := upd_same (H := H3) (a := dd) (o := .dT [])
            generalize upd H3 dd (.dT []) = H4 at s4 hd4
            refine ⟨.str f.nm, rfl, .str y.1, rfl, by show 2 ≤ sizeLine; decide, fun t1 nt1 => ?_⟩
            have s5 := same_new (o := .tup [.str f.nm, .str y.1]) nt1
            have ht5 := upd_same (H := H4) (a := t1) (o := .tup [.str f.nm, .str y.1])
            generalize upd H4 t1 (.tup [.str f.nm, .str y.1]) = H5 at s5 ht5
            have hf5 := s5 _ _ (s4 _ _ hf3)
            refine ⟨.ref fo, rfl, _, _, _, _, _, rfl, hf5, k.Field.cl, k.Field.nf.get ix_Field_name, lkZ ix_Field_name rfl, by show 2 ≤ sizeLine; decide, fun t2 nt2 => ?_⟩
            have s6 := same_new (o := .tup [.ref t1, .str "n"]) nt2
            have ht6 := upd_same (H := H5) (a := t2) (o := .tup [.ref t1, .str "n"])
            generalize upd H5 t2 (.tup [.ref t1, .str "n"]) = H6 at s6 ht6
            have hd6 := s6 _ _ (s5 _ _ hd4)
            have ht56 := s6 _ _ ht5
            refine ⟨hd6, t2, .tup [.tup [.text f.nm, .text y.1], .text "n"], rfl, ?_, ?_, fun one => ?_⟩
            · exact .tup (SqT.of ht6) (.cons (.tup (SqT.of ht56) (.cons (.str _) (.cons (.str _) .nil))) (.cons (.str _) .nil))
            · simp [NestedKey.depth, NestedKey.depthAll]
            · have fdd : fo ≠ dd := ne_of_none hf3 ndd
              have odd : ∀ b x, b ≠ dd → H3 b = some x → upd H6 dd (oneO P w dd t2 (.tup [.tup [.text f.nm, .text y.1], .text "n"])) b = some x := fun b x nb e => by rw [upd_ne nb]; exact s6 _ _ (s5 _ _ (s4 _ _ e))
              have vdd : v ≠ dd := ne_of_none (s3 _ _ (oi _ _ vfo vD hvl)) ndd
              have Ddd : D ≠ dd := ne_of_none (s3 _ _ hDi) ndd
              refine ⟨so, ho, v, dd, t2, n, _, rfl, ⟨dl, yl, el, odd _ _ vdd (s3 _ _ (oi _ _ vfo vD hvl))⟩, one, fun H7 s7 => ?_⟩
              have hf7 := s7 _ _ (odd _ _ fdd hf3)
              refine ⟨.str "number", rfl, .str "number", .ty "str", _, _, true, rfl, .ty "str", .base (.str "number"), rfl, true, rfl, iteT ⟨.str "number", rfl, .ref fo, rfl, _, _, _, _, _, _, rfl, hf7, k.Field.cl, k.Field.nf.get ix_Field_kind, ix_Field_kind, Nat.le_of_ble_eq_true rfl, k.Field.len, fun H8 o8 h8 => ?_⟩⟩
              refine ⟨_, _, "number", rfl, fun b x nb nb2 e => ?_, o8 _ _ Dfo (s7 _ _ (odd _ _ Ddd (s3 _ _ hDi))), ⟨dfi, h8⟩, .inr rfl, fun _ => rfl⟩
              have e3 := s3 _ _ (oi _ _ nb nb2 e)
              exact o8 _ _ nb (s7 _ _ (odd _ _ (ne_of_none e3 ndd) e3))
          · have eq : decide (V.str "number" = V.str "plain") = false := by decide
            rw [eq]
            exact iteF ⟨_, _, "number", rfl, oi, hDi, ⟨dfi, hfi2⟩, .inr rfl, fun _ => rfl⟩
        · obtain ⟨y3, y4, kz, rfl, oi, hDi, hfz, _, hkz⟩ := hP
          obtain rfl := hkz rfl
          refine ⟨D, od2, _, hDi, nf, ?_⟩
          have oo : Off fo H2 (upd Hi D (.dK [(.inr "n", .ref fo)])) := fun b x nb e => by
            by_cases z : b = D
            · rw [z] at e ⊢
              rw [upd_same, ← e, hDd]
            · rw [upd_ne z]
              exact oi _ _ nb z e
          obtain ⟨dz, hfz⟩ := hfz
          have hS3 := hS2.put hkv hvv oo hDd nfo ⟨_, _, _, hfo⟩ ⟨dz, by rw [upd_ne Dfo.symm]; exact hfz⟩ hlit
          refine ⟨_, _, _, _, rfl, hS3, oo _ _ Lfo hL2, fun z hz => List.mem_cons_of_mem _ (hin z hz), fun z hz => ?_⟩
          rw [List.take_add_one, hy] at hz
          rcases List.mem_append.mp hz with hz | hz
          · exact List.mem_cons_of_mem _ (hdn z hz)
          · obtain rfl : z = y := by simpa using hz
            exact List.mem_cons_self ..
      · obtain ⟨y2, y3, y4, Kz, rfl, hSj, hLj, hin, hdn⟩ := hP
        rw [List.length_map, List.take_length] at hdn
        refine ⟨_, _, _, _, _, rfl, hSj, fun g hg y hy => ?_⟩
        rw [List.take_add_one, hfi] at hg
        rcases List.mem_append.mp hg with hg | hg
        · exact hin _ (hall g hg y hy)
        · obtain rfl : g = f := by simpa using hg
          exact hdn y hy
    · obtain ⟨y1, y2, y3, y4, Ky, rfl, hSi, hall⟩ := hP
      rw [byN_full la, List.take_length] at hall
      refine ⟨hSi.sm _ _ hBL, ?_⟩
      have hz := (hSi.swap (u := .dK (byN fs as)) ⟨d2, hsoL⟩ hBL (fun _ _ _ z => by cases z) hF n0 s0L (.inl upd_same)).2
      rw [back] at hz
      exact q _ Ky hz hall
end
end M05

set_option Elab.async false
set_option linter.all false
set_option maxRecDepth 100000
set_option maxHeartbeats 4000000
/-! the error SourceError: its class, its making; raise_first -/
namespace M05
open PySem PySem.Spec PyProof.Rows L2 GL
theorem scX : FnScope ["self", "word", "file", "index"] ["self", "word", "file", "index"] (defScope m_SourceError_init) := ⟨rfl, rfl, rfl, by decide +kernel, rfl, by decide +kernel, by decide +kernel⟩
section
variable {X : Cx} {e : Expr} {es : List Expr} {ta : TA} {p1 p2 pos : Pos}
/-- C0.__init__(self, ..), C0 a class over ValueError without an __init__ of its own -/
theorem pe_bkinit {C0 : Addr} {x : Str} {pl : Sem Bool} (hg : Gl X x) (hm : X.mg x = some (.ref C0)) (gA : PySem.W.specialIn X.K (.ref C0) "__getattribute__" = some (some (.builtin "type.__getattribute__"))) (ty : PySem.W.typeIn X.K (.ref C0) = some (.type "type"))
    (rd : PySem.W.readsIn X.K C0 (.type "type") = true) (vV : PySem.W.findCls X.K (.ref C0) (.type "type") "__init__" = some (.val (.builtin "ValueError.__init__"))) (ha : PA X (e :: es) ta) (hdb : (x == ("__debug__" : Str)) = false := by decide)
    (hc : eval (.Call (.Attribute (.Name x p1) "__init__" p2) (e :: es) [] pos) X.env = (do
      let ov ← eval (.Name x p1) X.env
      standAt p2.atName
      let (f, first) ← holding [ov] (getMethod ov "__init__" pl)
      callWith pos f first (backTo pos (starEach (e :: es) X.env)) (backToKw pos (keywordEach [] X.env))) := by rfl)
    (he : starEach (e :: es) X.env = (false, eval e X.env) :: starEach es X.env := by rfl) (hpl : (backTo pos (starEach es X.env)).any (·.1) = false := by rfl) :
    PE X (.Call (.Attribute (.Name x p1) "__init__" p2) (e :: es) [] pos) (tVeI X.K ta) := by
  refine ⟨fun pins s σ H Q I h => ?_⟩
  refine PySem.W.methodCall_KW (ld_glob I hg hm ?_ hdb) hc
  obtain ⟨m, fr⟩ := I.fr
  refine PySem.W.method_of_cls fr I.ok.mod.kin gA (PySem.W.cls_val fr I.ok.mod.kin ty rd vV (by decide +kernel) ?_)
  show wpAny _ _ (callWith pos (Value.builtin "ValueError.__init__") [] (backTo pos (starEach (e :: es) X.env)) []) _ _ _
  refine PyProof.Rows.callWith_method1 (thn (ha.run pos pins _ σ H _ (I.tok _) h) fun us s1 ⟨vs, H1, I1, r1, a, C, ws, ev, hl, T, ea, q⟩ => ?_) he hpl
  subst ev
  cases r1 with
  | @cons _ u0 _ ur ra rw' =>
    obtain rfl : u0 = Value.ref a := ra
    exact oinit_ok T I1 ea (by rw [← Paired.length rw', sizeLine_eq]; omega) fun s' J => ⟨.non, H1, J, rfl, q⟩
end
/-- the class SourceError at C, its base BackError at C0 -/
structure ErrC (K : PySem.W.Frag) (mg : Str → Option Value) (C C0 : Addr) : Prop where
  ox : OexC K C
  nW : PySem.W.findIn K (.ref C) "word" = some none
  nF : PySem.W.findIn K (.ref C) "file" = some none
  nI : PySem.W.findIn K (.ref C) "index" = some none
  mgC : mg "SourceError" = some (.ref C)
  mg0 : mg "BackError" = some (.ref C0)
  gA : PySem.W.specialIn K (.ref C0) "__getattribute__" = some (some (.builtin "type.__getattribute__"))
  ty : PySem.W.typeIn K (.ref C0) = some (.type "type")
  rd : PySem.W.readsIn K C0 (.type "type") = true
  fi : PySem.W.findCls K (.ref C0) (.type "type") "__init__" = some (.val (.builtin "ValueError.__init__"))
/-- the error's own fields -/
abbrev errF (w f i : V) : List (Str × V) := [("index", i), ("file", f), ("word", w)]
section
variable {P : Program} {w : World} {K : PySem.W.Frag} {mg : Str → Option Value} {base : Heap} {C C0 : Addr}
def spErr (C : Addr) : Sp := fun vs H Q _ => ∃ (a : Addr) (v1 v2 v3 : V), vs = [.ref a, v1, v2, v3] ∧ H a = some (exo a C none) ∧ ∀ dx H', H dx = none → dx ≠ a → (∀ b o, b ≠ a → H b = some o → H' b = some o) → H' a = some (exo a C (some dx)) → H' dx = some (exd dx (errF v1 v2 v3)) → Q .non H'
theorem ok_err {f : Addr} {fd : FuncData} (F : Fun K "__init__" "SourceError.__init__" m_SourceError_init f fd) (B : ErrC K mg C C0) : FnOk P w K mg base CX0 1 f fd ["self", "word", "file", "index"] (spErr C) := by
  refine F.ok scX (fun vs H Q E h => ?_) (fun cdv A outer s H vs Q E hr h => ?_)
  · obtain ⟨a, v1, v2, v3, rfl, _⟩ := h
    rfl
  · obtain ⟨a, v1, v2, v3, rfl, ha, q⟩ := h
    refine ⟨_, pss_cons (ps_expr (pe_bkinit rfl B.mg0 B.gA B.ty B.rd B.fi (pa_cons (pv 0) (pa_cons pe_str pa_nil)))) (pss_cons (ps_ost (pv 0) (pv 1)) (pss_cons (ps_ost (pv 0) (pv 2)) (pss_one (ps_ost (pv 0) (pv 3))))), ?_⟩
    refine ⟨.ref a, rfl, a, C, _, rfl, by decide, B.ox, ha, ?_⟩
    refine ⟨v1, rfl, .ref a, rfl, a, C, rfl, B.ox, B.nW, .inl ⟨ha, fun dx nd ne => ?_⟩⟩
    have ne' : a ≠ dx := fun z => ne z.symm
    refine ⟨v2, rfl, .ref a, rfl, a, C, rfl, B.ox, B.nF, .inr ⟨dx, [("word", v1)], upd_same, by rw [upd_ne ne, upd_same], by show 1 ≤ 900; decide, ?_⟩⟩
    refine ⟨v3, rfl, .ref a, rfl, a, C, rfl, B.ox, B.nI, .inr ⟨dx, [("file", v2), ("word", v1)], by rw [upd_ne ne', upd_same], upd_same, by show 2 ≤ 900; decide, ?_⟩⟩
    refine q dx _ nd ne (fun b o hb e => ?_) ?_ upd_same
    · have nb : b ≠ dx := ne_of_none e nd
      rw [upd_ne nb, upd_ne nb, upd_ne hb, upd_ne nb]
      exact e
    · rw [upd_ne ne', upd_ne ne', upd_same]
/-- the def that makes a SourceError -/
structure DnE (P : Program) (w : World) (K : PySem.W.Frag) (mg : Str → Option Value) (base : Heap) (C C0 : Addr) where
  f : Addr
  fd : FuncData
  ok : FnOk P w K mg base CX0 1 f fd ["self", "word", "file", "index"] (spErr C)
  b : Binds K fd ["self", "word", "file", "index"] []
  er : ErrC K mg C C0
  iC : PySem.W.findIn K (.ref C) "__init__" = some (some (.ref f))
  tI : PySem.W.typeIn K (.ref f) = some (.type "function")
/-- what is asked where an error of these fields is raised -/
theorem err_ans {Q : Value → Option Addr → Hp → Prop} {v1 v2 v3 : V} {H1 : Hp} (h : ∀ d H2, H1 d = none → Same H1 H2 → H2 d = some (.xd (errF v1 v2 v3)) → Q (.ref C) (some d) H2) : [v1, v2, v3].length ≤ 1000 ∧ ∀ a, H1 a = none → spErr C (.ref a :: ([v1, v2, v3] ++ [])) (upd H1 a (exo a C none))
    (fun x H2 => x = .non ∧ ∃ (d : Addr) (fs : List (Str × V)), H2 a = some (exo a C (some d)) ∧ H2 d = some (exd d fs) ∧ H1 d = none ∧ Q (.ref C) (some d) (upd (del H2 a) d (.xd fs))) (fun _ _ _ => False) := by
  refine ⟨by show 3 ≤ 1000; decide, fun a na => ⟨a, v1, v2, v3, rfl, upd_same, fun dx H' nd ne k1 k2 k3 => ?_⟩⟩
  rw [upd_ne ne] at nd
  refine ⟨rfl, dx, _, k2, k3, nd, h dx _ nd (fun b o hb => ?_) upd_same⟩
  have n1 : b ≠ dx := ne_of_none hb nd
  have n2 : b ≠ a := ne_of_none hb na
  rw [upd_ne n1, del_ne n2]
  exact k1 b o n2 (by rw [upd_ne n2]; exact hb)
/-- raise SourceError(..) -/
theorem ps_err {X : Cx} {W : WX} {e : Expr} {es : List Expr} {ta : TA} {p q pos : Pos} (D : DnE X.prog X.w X.K X.mg X.base C C0) (hc : X.calm = true) (hr : Room 2 X.A) (tk : Takes X W) (hg : Gl X "SourceError") (ha : PA X (e :: es) ta)
    (hs : starEach (e :: es) X.env = (false, eval e X.env) :: starEach es X.env := by rfl) (hpl : (backTo q (starEach es X.env)).any (·.1) = false := by rfl) : PS X (.Raise (some (.Call (.Name "SourceError" p) (e :: es) [] q)) none pos) (fun _ σ H => tMkO C (spErr C) [] ta σ H fun cls d H' => W cls d σ H') :=
  ps_raise (pos := pos) hc tk (pmk_oex (p := p) (pos := q) (x := "SourceError") D.er.ox D.iC D.tI D.ok hr D.b (.nil) pass0 hg D.er.mgC ha (by decide) hs hpl)
end
end M05

set_option Elab.async false
set_option linter.all false
set_option maxRecDepth 100000
set_option maxHeartbeats 4000000
/-! raise_first, check_names, sources_of -/
namespace M05
open PySem PySem.Spec PyProof.Rows L2 GL
theorem scFi1 : FnScope ["word", "name", "found"] ["word", "name", "found"] (defScope s_raise_first) := ⟨rfl, rfl, rfl, by decide +kernel, rfl, by decide +kernel, by decide +kernel⟩
theorem scCN : FnScope ["sources", "files", "word", "look", "file"] ["sources", "files"] (defScope s_check_names) := ⟨rfl, rfl, rfl, by decide +kernel, rfl, by decide +kernel, by decide +kernel⟩
theorem scSF : FnScope ["files", "sources"] ["files"] (defScope s_sources_of) := ⟨rfl, rfl, rfl, by decide +kernel, rfl, by decide +kernel, by decide +kernel⟩
/-- look(e, ..): what the slot holds keeps a promise -/
def tCallH (P : Program) (w : World) (K : PySem.W.Frag) (mg : Str → Option Value) (base : Heap) (k i : Nat) (t : TA) : TE := fun σ H Q => ∃ f sp, σ[i]? = some (some (.ref f)) ∧ Held P w K mg base k f sp ∧ t σ H fun vs H1 => sp vs H1 Q (fun _ _ _ => False)
theorem pe_callH {X : Cx} {e : Expr} {es : List Expr} {t : TA} {x : Str} {p pos : Pos} {k i : Nat} (hr : Room k X.A) (hN : X.N[i]? = some x) (hv : Vis X.env.scope x) (ha : PA X (e :: es) t)
    (hdb : (x == ("__debug__" : Str)) = false := by decide) (hcd : (x == ("__classdict__" : Str)) = false := by decide)
    (he : starEach (e :: es) X.env = (false, eval e X.env) :: starEach es X.env := by rfl) (hpl : (backTo pos (starEach es X.env)).any (·.1) = false := by rfl) : PE X (.Call (.Name x p) (e :: es) [] pos) (tCallH X.prog X.w X.K X.mg X.base k i t) := by
  refine ⟨fun pins s σ H Q I h => ?_⟩
  obtain ⟨f, sp, hs, ⟨fd, ps, F, hk, hb⟩, ht⟩ := h
  refine (pe_callL (i := i) (f := f) (sp := sp) (dvs := []) (E := fun _ _ _ => False) F hr hN hv hk hb .nil (fun _ _ _ _ _ _ _ z => z.elim) ha hdb hcd he hpl).run pins s σ H Q I ⟨hs, ?_⟩
  have e0 : (fun (vs : List V) (H1 : Hp) => sp (vs ++ []) H1 Q (fun _ _ _ => False)) = fun vs H1 => sp vs H1 Q (fun _ _ _ => False) := by
    funext vs H1
    rw [List.append_nil]
  show t σ H (fun vs H1 => sp (vs ++ []) H1 Q (fun _ _ _ => False))
  rw [e0]
  exact ht
/-! the first error -/
def minN : List Nat → Nat
  | [] => 0
  | [a] => a
  | a :: r => min a (minN r)
theorem minN_of : ∀ {l : List Nat} {m : Nat}, m ∈ l → (∀ y ∈ l, m ≤ y) → m = minN l
  | [a], m, h, _ => by
    show m = a
    simpa using h
  | a :: b :: r, m, h, k => by
    show m = min a (minN (b :: r))
    rcases List.mem_cons.mp h with rfl | h
    · have : ∀ {l : List Nat}, l ≠ [] → (∀ y ∈ l, m ≤ y) → m ≤ minN l := fun {l} => by
        induction l with
        | nil => exact fun z => absurd rfl z
        | cons c l ih =>
          intro _ hc
          cases l with
          | nil => exact hc c (List.mem_cons_self ..)
          | cons d l => exact Nat.le_min.mpr ⟨hc c (List.mem_cons_self ..), ih (by simp) fun y hy => hc y (List.mem_cons_of_mem _ hy)⟩
      rw [Nat.min_eq_left (this (by simp) fun y hy => k y (List.mem_cons_of_mem _ hy))]
    · have := minN_of h fun y hy => k y (List.mem_cons_of_mem _ hy)
      rw [← this, Nat.min_eq_right (k a (List.mem_cons_self ..))]
def firstP (b : Fd → List Nat) : List Fd → Option (Str × Nat)
  | [] => none
  | f :: r => if b f = [] then firstP b r else some (f.nm, minN (b f))
theorem firstP_none {b : Fd → List Nat} : ∀ {fs : List Fd}, (∀ g ∈ fs, b g = []) → firstP b fs = none
  | [], _ => rfl
  | f :: r, h => by
    show (if _ then _ else _) = _
    rw [if_pos (h f (List.mem_cons_self ..)), firstP_none fun g hg => h g (List.mem_cons_of_mem _ hg)]
theorem firstP_at {b : Fd → List Nat} {f : Fd} (hb : b f ≠ []) : ∀ {fs : List Fd} {i : Nat}, (∀ g ∈ fs.take i, b g = []) → fs[i]? = some f → firstP b fs = some (f.nm, minN (b f))
  | [], _, _, h => by simp at h
  | g :: r, 0, _, h => by
    obtain rfl : g = f := by simpa using h
    show (if _ then _ else _) = _
    rw [if_neg hb]
  | g :: r, i + 1, k, h => by
    rw [List.take_succ_cons] at k
    rw [List.getElem?_cons_succ] at h
    show (if _ then _ else _) = _
    rw [if_pos (k g (List.mem_cons_self ..)), firstP_at hb (fun z hz => k z (List.mem_cons_of_mem _ hz)) h]
/-- the looks' words, what each finds -/
def lkW : Nat → Str
  | 0 => "\x69mport"
  | 1 => "twice"
  | 2 => "name"
  | 3 => "ring"
  | _ => "field"
def lkB (fs : List Fd) : Nat → Fd → List Nat
  | 0 => fun f => badI (fs.map Fd.nm) [f.nm] f.ims
  | 1 => fun f => twice fs f
  | _ => fun _ => []
def firstBad (fs : List Fd) : Option (Str × Str × Nat) := match firstP (lkB fs 0) fs with
  | some (n, m) => some ("\x69mport", n, m)
  | none => match firstP (lkB fs 1) fs with
    | some (n, m) => some ("twice", n, m)
    | none => none
theorem firstBad_none {fs : List Fd} (h : ∀ j, j < 5 → ∀ g ∈ fs, lkB fs j g = []) : firstBad fs = none := by
  unfold firstBad
  rw [firstP_none (h 0 (by decide)), firstP_none (h 1 (by decide))]
theorem firstBad_at {fs : List Fd} {f : Fd} {i j : Nat} (h : ∀ k, k < j → ∀ g ∈ fs, lkB fs k g = []) (hi : ∀ g ∈ fs.take i, lkB fs j g = []) (hf : fs[i]? = some f) (hb : lkB fs j f ≠ []) : firstBad fs = some (lkW j, f.nm, minN (lkB fs j f)) := by
  unfold firstBad
  match j, h, hi, hb with
  | 0, h, hi, hb => rw [firstP_at hb hi hf]; rfl
  | 1, h, hi, hb => rw [firstP_none (h 0 (by decide)), firstP_at hb hi hf]; rfl
  | j + 2, h, hi, hb => exact absurd rfl hb
theorem badI_nil (all : List Str) : ∀ {kn : List Str} {l : List (Str × Nat)}, badI all kn l = [] → ∀ q ∈ l, q.1 ∈ all
  | _, [], _, _, hq => by cases hq
  | kn, p :: r, h, q, hq => by
    have h : (if p.1 ∈ kn ∨ p.1 ∉ all then [p.2] else []) ++ badI all (kn ++ [p.1]) r = [] := h
    obtain ⟨h1, h2⟩ := List.append_eq_nil_iff.mp h
    rcases List.mem_cons.mp hq with rfl | hq
    · by_cases c : q.1 ∈ kn ∨ q.1 ∉ all
      · rw [if_pos c] at h1
        cases h1
      · exact Classical.byContradiction fun z => c (.inr z)
    · exact badI_nil all h2 q hq
section
variable {P : Program} {w : World} {K : PySem.W.Frag} {mg : Str → Option Value} {base : Heap} {C C0 : Addr}
/-- a def that may raise -/
structure DnX (P : Program) (w : World) (K : PySem.W.Frag) (mg : Str → Option Value) (base : Heap) (x : Str) (k : Nat) (ps : List Str) (sp : Sp) where
  f : Addr
  fd : FuncData
  ok : FnOk P w K mg base (L2.CX P w) k f fd ps sp
  g : mg x = some (.ref f)
  kp : PySem.W.keepIn K (.ref f) = true
  b : Binds K fd ps []
def spF1 (C : Addr) : Sp := fun vs H Q E => ∃ (wd nm : Str) (L : Addr) (ns : List Nat), vs = [.str wd, .str nm, .ref L] ∧ H L = some (.lst (iN ns)) ∧ (ns = [] → ∀ H', Same H H' → Q .non H') ∧
  (ns ≠ [] → ∀ H' d, Same H H' → H' d = some (.xd (errF (.str wd) (.str nm) (.int (minN ns : Nat)))) → E (.ref C) (some d) H')
theorem ok_f1 {f : Addr} {fd : FuncData} (F : Fun K "raise_first" "raise_first" s_raise_first f fd) (T : Bl K mg) (D_e : DnE P w K mg base C C0) : FnOk P w K mg base (L2.CX P w) 3 f fd ["word", "name", "found"] (spF1 C) := by
  refine F.okX scFi1 (fun vs H Q E h => ?_) (fun cdv A outer s H vs Q E hr h => ?_)
  · obtain ⟨_, _, _, _, rfl, _⟩ := h
    rfl
  · obtain ⟨wd, nm, L, ns, rfl, hL, q, e⟩ := h
    refine ⟨_, (pss_one (ps_if (pt_cmpR (op_neE hr.units0) (pv 2) (pe_lst pa_nil) (nomark _))
        (pss_one (ps_err D_e rfl (hr.mono (by omega)) (takes_of rfl rfl rfl rfl) (by rfl) (pa_cons (pv 0) (pa_cons (pv 1) (pa_cons (pe_callB (cr_min rfl) (by rfl) T.min (by decide +kernel) (pa_cons (pv 2) pa_nil)) pa_nil)))))
        pss_nil)), ?_⟩
    refine ⟨.ref L, rfl, by show 0 ≤ sizeLine; decide, fun E0 nE => ?_⟩
    have s1 := same_new (o := .lst []) nE
    have hL1 := s1 _ _ hL
    refine ⟨L, E0, _, rfl, rfl, SqL.of hL1, SqL.of upd_same, _, rfl, ?_⟩
    cases ns with
    | nil => exact iteF (q rfl _ s1)
    | cons a r =>
      refine iteT ⟨.str wd, rfl, .str nm, rfl, .ref L, rfl, L, (a :: r).map Int.ofNat, rfl, ?_, by simp, fun m hm hy => ?_⟩
      · unfold iN at hL1
        rw [List.map_map]
        exact SqL.of hL1
      · obtain ⟨m, hm2, rfl⟩ := List.mem_map.mp hm
        have hmin := minN_of hm2 fun y hy' => Int.ofNat_le.mp (hy _ (List.mem_map_of_mem hy'))
        exact err_ans fun d H2 _ s2 hd => e (by simp) H2 d (s1.trans s2) (by rw [← hmin]; exact hd)
/-- what a look keeps -/
structure Ph (P : Program) (w : World) (K : PySem.W.Frag) (mg : Str → Option Value) (base : Heap) (k : Ks K mg) (H0 : Hp) (so Kf : Addr) (fs : List Fd) (g : Addr) (b : Fd → List Nat) : Prop where
  ex : ∃ sp, Held P w K mg base 6 g sp ∧ ∀ f ∈ fs, ∀ a, FilA k H0 a f.nm f.T f.ims f.own → ∀ (Hi : Hp) (Q : VK), StS k H0 Hi so Kf fs [] →
    (∀ H' L, Off Kf Hi H' → StS k H0 H' so Kf fs [] → H' L = some (.lst (iN (b f))) → Q (.ref L) H') → sp [.ref so, .ref a] Hi Q (fun _ _ _ => False)
theorem DnO.held {x : Str} {j : Nat} {ps : List Str} {sp : Sp} (d : DnO P w K mg base x j ps sp) (h : j ≤ 6) : Held P w K mg base 6 d.f sp := ⟨d.fd, ps, d.ok.mono h, d.kp, d.b⟩
variable {k : Ks K mg} {H0 : Hp} {so Kf : Addr} {fs : List Fd}
theorem StS.srcA {H : Hp} {Ky : List (List L2.Key)} (h : StS k H0 H so Kf fs Ky) : ∃ B as, SrcA k H so B Kf as fs := let ⟨B, as, e⟩ := h.src; ⟨B, as, e.same h.sm⟩
theorem ph_wi (d : DnO P w K mg base "wrong_imports" 1 ["sources", "file"] (spWI k)) (hok : ∀ f ∈ fs, f.ok) : Ph P w K mg base k H0 so Kf fs d.f (lkB fs 0) := ⟨_, d.held (by decide), fun f hf a hA Hi Q hS q => by
  obtain ⟨B, as, hSA⟩ := hS.srcA
  exact ⟨so, B, Kf, a, as, fs, f, rfl, hSA, hA.same hS.sm, (hok f hf).li, fun H' L s1 hL => q H' L (fun _ _ _ e => s1 _ _ e) (hS.same s1) hL⟩⟩
theorem ph_rn (d : DnO P w K mg base "repeated_names" 4 ["sources", "file"] (spRN k)) (hok : ∀ f ∈ fs, f.ok) (him : ∀ f ∈ fs, ∀ q ∈ f.ims, q.1 ∈ fs.map Fd.nm) : Ph P w K mg base k H0 so Kf fs d.f (lkB fs 1) := ⟨_, d.held (by decide), fun f hf a hA Hi Q hS q => by
  obtain ⟨B, as, hSA⟩ := hS.srcA
  exact ⟨so, B, Kf, a, as, fs, f, rfl, hSA, hA.same hS.sm, hok f hf, hok, him f hf, fun H' L s1 hL => q H' L (fun _ _ _ e => s1 _ _ e) (hS.same s1) hL⟩⟩
theorem ph_no {x : Str} {j : Nat} (hj : j ≤ 6) (d : DnO P w K mg base x j ["sources", "file"] (spNone k)) : Ph P w K mg base k H0 so Kf fs d.f (fun _ => []) := ⟨_, d.held hj, fun f hf a hA Hi Q hS q => ⟨so, a, f, rfl, hA.same hS.sm, hS.own f hf, fun H' L s1 hL => q H' L (fun _ _ _ e => s1 _ _ e) (hS.same s1) hL⟩⟩
theorem ph_wf (d : DnO P w K mg base "wrong_fields" 6 ["sources", "file"] (spWF k)) (hne : ∀ f ∈ fs, ∀ q ∈ f.own, q.2.1 ≠ "") : Ph P w K mg base k H0 so Kf fs d.f (fun _ => []) := ⟨_, d.held (by decide), fun f hf a hA Hi Q hS q => ⟨so, Kf, a, H0, fs, [], f, rfl, hS, hA, hf, hne f hf, fun H' L o1 hS' hL => q H' L o1 hS' hL⟩⟩
def spCN (C : Addr) (k : Ks K mg) : Sp := fun vs H Q E => ∃ (so Kf L B : Addr) (as : List Addr) (H0 : Hp) (fs : List Fd), vs = [.ref so, .ref L] ∧ StS k H0 H so Kf fs [] ∧ SrcA k H0 so B Kf as fs ∧ H0 L = some (.lst (refs as)) ∧ (∀ f ∈ fs, f.ok) ∧ (∀ f ∈ fs, ∀ q ∈ f.own, q.2.1 ≠ "") ∧
  (firstBad fs = none → ∀ H', StS k H0 H' so Kf fs [] → Q .non H') ∧
  (∀ wd nm i, firstBad fs = some (wd, nm, i) → ∀ H' d, Same H0 H' → H' d = some (.xd (errF (.str wd) (.str nm) (.int (i : Nat)))) → E (.ref C) (some d) H')
theorem ok_cn {f : Addr} {fd : FuncData} (F : Fun K "check_names" "check_names" s_check_names f fd) (T : Bl K mg) (k : Ks K mg) (d_raise_first : DnX P w K mg base "raise_first" 3 ["word", "name", "found"] (spF1 C)) (d_wrong_imports : DnO P w K mg base "wrong_imports" 1 ["sources", "file"] (spWI k)) (d_repeated_names : DnO P w K mg base "repeated_names" 4 ["sources", "file"] (spRN k))
    (d_unknown_names : DnO P w K mg base "unknown_names" 2 ["sources", "file"] (spNone k)) (d_rings : DnO P w K mg base "rings" 3 ["sources", "file"] (spNone k)) (d_wrong_fields : DnO P w K mg base "wrong_fields" 6 ["sources", "file"] (spWF k)) : FnOk P w K mg base (L2.CX P w) 7 f fd ["sources", "files"] (spCN C k) := by
  refine F.okX scCN (fun vs H Q E h => ?_) (fun cdv A outer s H vs Q E hr h => ?_)
  · obtain ⟨_, _, _, _, _, _, _, rfl, _⟩ := h
    rfl
  · obtain ⟨so, Kf, L, B, as, H0, fs, rfl, hS, hSA, hL0, hok, hne, q, hE⟩ := h
    refine ⟨_, (pss_one (ps_for (passes_of rfl) rfl (pi_tup (pe_tup (pa_cons (pe_tup (pa_cons pe_str (pa_cons (pe_glob (v := .ref d_wrong_imports.f) (by rfl) d_wrong_imports.g rfl) pa_nil))) (pa_cons (pe_tup (pa_cons pe_str (pa_cons (pe_glob (v := .ref d_repeated_names.f) (by rfl) d_repeated_names.g rfl) pa_nil))) (pa_cons (pe_tup (pa_cons pe_str (pa_cons (pe_glob (v := .ref d_unknown_names.f) (by rfl) d_unknown_names.g rfl) pa_nil))) (pa_cons (pe_tup (pa_cons pe_str (pa_cons (pe_glob (v := .ref d_rings.f) (by rfl) d_rings.g rfl) pa_nil))) (pa_cons (pe_tup (pa_cons pe_str (pa_cons (pe_glob (v := .ref d_wrong_fields.f) (by rfl) d_wrong_fields.g rfl) pa_nil))) pa_nil))))))) (pg_tup rfl (pgs_cons (pg_name (i := 2) scCN.nd rfl (Or.inl rfl)) (pgs_cons (pg_name (i := 3) scCN.nd rfl (Or.inl rfl)) pgs_nil)))
        (pss_one (ps_for (passes_of rfl) rfl (pi_list (pv 1)) (pg_name (i := 4) scCN.nd rfl (Or.inl rfl))
          (pss_one (ps_expr (pe_call d_raise_first.ok (hr.mono (by omega)) (by rfl) d_raise_first.g d_raise_first.kp d_raise_first.b .nil (passes_call (takes_of rfl rfl rfl rfl) (fun _ _ _ _ h => h)) (pa_cons (pv 2) (pa_cons (pe_fld (pv 4) rfl) (pa_cons (pe_callH (k := 6) (i := 3) (hr.mono (by omega)) rfl (Or.inl rfl) (pa_cons (pv 0) (pa_cons (pv 4) pa_nil))) pa_nil)))))))))), ?_⟩
    obtain ⟨kv, hkv, _⟩ := hS.kn
    have la := hSA.2.2.1.len
    refine ⟨by show 2 ≤ sizeLine; decide, fun t0 n0 => ⟨by show 2 ≤ sizeLine; decide, fun t1 n1 => ⟨by show 2 ≤ sizeLine; decide, fun t2 n2 => ⟨by show 2 ≤ sizeLine; decide, fun t3 n3 => ⟨by show 2 ≤ sizeLine; decide, fun t4 n4 => ⟨by show 5 ≤ sizeLine; decide, fun tt ntt => ?_⟩⟩⟩⟩⟩⟩
    have s0 := same_new (o := .tup [.str "\x69mport", .ref d_wrong_imports.f]) n0
    have s1 := same_new (o := .tup [.str "twice", .ref d_repeated_names.f]) n1
    have s2 := same_new (o := .tup [.str "name", .ref d_unknown_names.f]) n2
    have s3 := same_new (o := .tup [.str "ring", .ref d_rings.f]) n3
    have s4 := same_new (o := .tup [.str "field", .ref d_wrong_fields.f]) n4
    have st := same_new (o := .tup [.ref t0, .ref t1, .ref t2, .ref t3, .ref t4]) ntt
    have h0 := st _ _ (s4 _ _ (s3 _ _ (s2 _ _ (s1 _ _ (upd_same (H := H) (a := t0) (o := .tup [.str "\x69mport", .ref d_wrong_imports.f]))))))
    have h1 := st _ _ (s4 _ _ (s3 _ _ (s2 _ _ (upd_same (a := t1) (o := .tup [.str "twice", .ref d_repeated_names.f])))))
    have h2 := st _ _ (s4 _ _ (s3 _ _ (upd_same (a := t2) (o := .tup [.str "name", .ref d_unknown_names.f]))))
    have h3 := st _ _ (s4 _ _ (upd_same (a := t3) (o := .tup [.str "ring", .ref d_rings.f])))
    have h4 := st _ _ (upd_same (a := t4) (o := .tup [.str "field", .ref d_wrong_fields.f]))
    have ht := upd_same (a := tt) (o := .tup [.ref t0, .ref t1, .ref t2, .ref t3, .ref t4]) (H := upd (upd (upd (upd (upd H t0 (.tup [.str "\x69mport", .ref d_wrong_imports.f])) t1 (.tup [.str "twice", .ref d_repeated_names.f])) t2 (.tup [.str "name", .ref d_unknown_names.f])) t3 (.tup [.str "ring", .ref d_rings.f])) t4 (.tup [.str "field", .ref d_wrong_fields.f]))
    have sA := ((((s0.trans s1).trans s2).trans s3).trans s4).trans st
    clear s0 s1 s2 s3 s4 st
    refine ⟨tt, rfl, ⟨_, SqT.of ht⟩, ?_⟩
    generalize upd (upd (upd (upd (upd (upd H t0 (.tup [.str "\x69mport", .ref d_wrong_imports.f])) t1 (.tup [.str "twice", .ref d_repeated_names.f])) t2 (.tup [.str "name", .ref d_unknown_names.f])) t3 (.tup [.str "ring", .ref d_rings.f])) t4 (.tup [.str "field", .ref d_wrong_fields.f])) tt (.tup [.ref t0, .ref t1, .ref t2, .ref t3, .ref t4]) = H1 at h0 h1 h2 h3 h4 ht sA
    have hS1 := hS.same sA
    have hkv1 := sA _ _ hkv
    have tK : ∀ {t : Addr} {ys : List V}, H1 t = some (.tup ys) → t ≠ Kf := fun e z => by rw [z, hkv1] at e; cases e
    refine for_tup (K := K) (a := tt) (xs := [.ref t0, .ref t1, .ref t2, .ref t3, .ref t4]) (fun j σ Hj => ∃ (y2 y3 y4 : Option V), σ = [some (.ref so), some (.ref L), y2, y3, y4] ∧ Off Kf H1 Hj ∧ StS k H0 Hj so Kf fs [] ∧ ∀ j', j' < j → ∀ g ∈ fs, lkB fs j' g = []) ⟨_, _, _, rfl, fun _ _ _ e => e, hS1, fun _ z => absurd z (Nat.not_lt_zero _)⟩ (fun j σ Hj _ hP => by obtain ⟨_, _, _, _, oj, _⟩ := hP; exact SqT.of (oj _ _ (tK ht) ht)) (fun j x σ Hj hx hP => ?_) (fun σ Hj hP => ?_)
    · obtain ⟨y2, y3, y4, rfl, oj, hSj, hcl⟩ := hP
      obtain ⟨t, g, rfl, htg, hPh⟩ : ∃ t g, x = .ref t ∧ H1 t = some (.tup [.str (lkW j), .ref g]) ∧ Ph P w K mg base k H0 so Kf fs g (lkB fs j) := by
        match j, hx, hcl with
        | 0, hx, _ => exact ⟨t0, _, (Option.some.inj hx).symm, h0, ph_wi d_wrong_imports hok⟩
        | 1, hx, hcl => exact ⟨t1, _, (Option.some.inj hx).symm, h1, ph_rn d_repeated_names hok fun f hf => badI_nil _ (hcl 0 (by decide) f hf)⟩
        | 2, hx, _ => exact ⟨t2, _, (Option.some.inj hx).symm, h2, ph_no (by decide) d_unknown_names⟩
        | 3, hx, _ => exact ⟨t3, _, (Option.some.inj hx).symm, h3, ph_no (by decide) d_rings⟩
        | 4, hx, _ => exact ⟨t4, _, (Option.some.inj hx).symm, h4, ph_wf d_wrong_fields hne⟩
        | j + 5, hx, _ => simp at hx
      have hj5 : j < 5 := by
        have := (List.getElem?_eq_some_iff.mp hx).1
        simpa using this
      refine ⟨t, _, rfl, SqT.of (oj _ _ (tK htg) htg), rfl, _, _, rfl, _, _, rfl, rfl, ?_⟩
      refine ⟨.ref L, rfl, L, rfl, ⟨_, SqL.of (hSj.sm _ _ hL0)⟩, ?_⟩
      refine for_list (K := K) (a := L) (xs := refs as) (fun i σ Hi => ∃ (y4 : Option V), σ = [some (.ref so), some (.ref L), some (.str (lkW j)), some (.ref g), y4] ∧ Off Kf H1 Hi ∧ StS k H0 Hi so Kf fs [] ∧ ∀ g ∈ fs.take i, lkB fs j g = []) ⟨_, rfl, oj, hSj, fun _ z => by cases z⟩ (fun i σ Hi _ hP => by obtain ⟨_, _, _, hSi, _⟩ := hP; exact SqL.of (hSi.sm _ _ hL0)) (fun i x1 σ Hi hx1 hP => ?_) (fun σ Hi hP => ?_)
      · obtain ⟨y4, rfl, oi, hSi, hci⟩ := hP
        obtain ⟨a, rfl, ha⟩ := ref_at hx1
        obtain ⟨fi, hfi, hA⟩ := hSA.2.2.1.at ha
        have hf := List.mem_of_getElem? hfi
        obtain ⟨da, l1, l2, l3, ds, ts, us, vs, g1, _⟩ := id hA
        have g1i := hSi.sm _ _ g1
        obtain ⟨sp, hHeld, hsp⟩ := hPh.ex
        refine ⟨.str (lkW j), rfl, .ref a, rfl, _, _, _, _, _, rfl, g1i, k.FileSource.cl, k.FileSource.nf.get ix_FileSource_name, lkZ ix_FileSource_name rfl, g, sp, rfl, hHeld, .ref so, rfl, .ref a, rfl, hsp fi hf a hA Hi _ hSi fun H2 L2 o2 hS2 hL2 => ?_⟩
        refine ⟨lkW j, fi.nm, L2, lkB fs j fi, rfl, hL2, fun hz H3 s3 => ?_, fun hz H3 d s3 hd => ?_⟩
        · refine ⟨_, rfl, fun b y nb e => s3 _ _ (o2 b y nb (oi b y nb e)), hS2.same s3, fun z hz2 => ?_⟩
          rw [List.take_add_one, hfi] at hz2
          rcases List.mem_append.mp hz2 with hz2 | hz2
          · exact hci z hz2
          · obtain rfl : z = fi := by simpa using hz2
            exact hz
        · exact hE _ _ _ (firstBad_at (fun j' hj' => hcl j' hj') hci hfi hz) H3 d (hS2.sm.trans s3) hd
      · obtain ⟨y4, rfl, oi, hSi, hci⟩ := hP
        have e : (refs as).length = fs.length := by
          unfold refs
          rw [List.length_map, la]
        rw [e, List.take_length] at hci
        refine ⟨_, _, _, rfl, oi, hSi, fun j' hj' => ?_⟩
        by_cases z : j' = j
        · rw [z]
          exact hci
        · exact hcl j' (by omega)
    · obtain ⟨y2, y3, y4, rfl, oj, hSj, hcl⟩ := hP
      exact q (firstBad_none fun j hj => hcl j hj) Hj hSj
end
end M05

set_option Elab.async false
set_option linter.all false
set_option maxRecDepth 100000
set_option maxHeartbeats 4000000
/-! sources_of, check_kinds, check_circles, read_sources -/
namespace M05
open PySem PySem.Spec PyProof.Rows L2 GL
theorem scCK : FnScope ["sources", "files", "file"] ["sources", "files"] (defScope s_check_kinds) := ⟨rfl, rfl, rfl, by decide +kernel, rfl, by decide +kernel, by decide +kernel⟩
theorem scCC : FnScope ["sources", "files", "file"] ["sources", "files"] (defScope s_check_circles) := ⟨rfl, rfl, rfl, by decide +kernel, rfl, by decide +kernel, by decide +kernel⟩
theorem scRS : FnScope ["files", "read", "sources", "name", "text"] ["files"] (defScope s_read_sources) := ⟨rfl, rfl, rfl, by decide +kernel, rfl, by decide +kernel, by decide +kernel⟩
theorem none_of_same {H H' : Hp} {a : Addr} (s : Same H H') (n : H' a = none) : H a = none := by
  cases z : H a with
  | none => rfl
  | some y =>
    have := s _ _ z
    rw [n] at this
    cases this
section
variable {P : Program} {w : World} {K : PySem.W.Frag} {mg : Str → Option Value} {base : Heap} {C C0 : Addr}
def spSF (C : Addr) (k : Ks K mg) : Sp := fun vs H Q E => ∃ (L : Addr) (as : List Addr) (fs : List Fd), vs = [.ref L] ∧ H L = some (.lst (refs as)) ∧ Fils k H as fs ∧ (fs.map Fd.nm).Nodup ∧ fs.length ≤ 100 ∧ (∀ f ∈ fs, f.ok) ∧ (∀ f ∈ fs, ∀ q ∈ f.own, q.2.1 ≠ "") ∧
  (firstBad fs = none → ∀ H' H0 so B Kf, StS k H0 H' so Kf fs [] → SrcA k H0 so B Kf as fs → H0 B = some (.dK (byN fs as)) → H B = none → H so = none → Same H H0 → Q (.ref so) H') ∧
  (∀ wd nm i, firstBad fs = some (wd, nm, i) → ∀ H' d, Same H H' → H' d = some (.xd (errF (.str wd) (.str nm) (.int (i : Nat)))) → E (.ref C) (some d) H')
theorem ok_sf {f : Addr} {fd : FuncData} (F : Fun K "sources_of" "sources_of" s_sources_of f fd) (T : Bl K mg) (k : Ks K mg) (i_Sources : Mkr P w K mg base k.Sources 1 ["self", "files"] (fun _ => spSoI k)) (d_check_names : DnX P w K mg base "check_names" 7 ["sources", "files"] (spCN C k)) : FnOk P w K mg base (L2.CX P w) 8 f fd ["files"] (spSF C k) := by
  refine F.okX scSF (fun vs H Q E h => ?_) (fun cdv A outer s H vs Q E hr h => ?_)
  · obtain ⟨_, _, _, rfl, _⟩ := h
    rfl
  · obtain ⟨L, as, fs, rfl, hL, hF, hnd, hlen, hok, hne, q, hE⟩ := h
    refine ⟨_, (pss_cons (ps_set (i := 1) scSF.nd rfl (Or.inl rfl) (pe_make i_Sources.mak i_Sources.ok (hr.mono (by omega)) (by rfl) k.Sources.g i_Sources.b .nil pass0 (pa_cons (pv 0) pa_nil)))
      (pss_cons (ps_expr (pe_call d_check_names.ok (hr.mono (by omega)) (by rfl) d_check_names.g d_check_names.kp d_check_names.b .nil (passes_call (takes_of rfl rfl rfl rfl) (fun _ _ _ _ h => h)) (pa_cons (pv 1) (pa_cons (pv 0) pa_nil))))
      (pss_one (ps_ret (pv 1))))), ?_⟩
    refine ⟨.ref L, rfl, fun a dx na nda ne => ⟨a, dx, L, as, fs, H, rfl, upd_same, ?_, ?_, ?_, hF, hnd, hlen, fun H1 B Kf o1 nB nK BK hK hB hSA => ⟨rfl, ?_⟩⟩⟩
    · rw [upd_ne (ne_of_none hL na), upd_ne (ne_of_none hL nda)]
      exact hL
    · exact na
    · exact fun b y eb => by
        rw [upd_ne (ne_of_none eb na), upd_ne (ne_of_none eb nda)]
        exact eb
    have s1 := same_made na nda o1
    have sx : Same H (upd (upd H dx (.own a)) a (.ins k.Sources.C dx [])) := fun b y eb => by
      rw [upd_ne (ne_of_none eb na), upd_ne (ne_of_none eb nda)]
      exact eb
    have nB0 : H B = none := none_of_same sx nB
    have nK0 : H Kf = none := none_of_same sx nK
    have dn : ∀ {b}, b ≠ Kf → L2.del H1 Kf b = H1 b := fun h => L2.del_ne h
    obtain ⟨⟨d2, hso⟩, hB2, hF2, hn2, hl2⟩ := id hSA
    have soK : a ≠ Kf := fun z => by rw [z, hK] at hso; cases hso
    have sD : Same H (L2.del H1 Kf) := fun b y e => by
      rw [dn (ne_of_none e nK0)]
      exact s1 _ _ e
    have hSA0 : SrcA k (L2.del H1 Kf) a B Kf as fs := ⟨⟨d2, by rw [dn soK]; exact hso⟩, .inl (by rw [dn BK]; exact hB), Fils.same hF sD, hn2, hl2⟩
    have hSt : StS k (L2.del H1 Kf) H1 a Kf fs [] := ⟨⟨B, as, hSA0⟩, L2.del_same, fun b y e => by
      by_cases z : b = Kf
      · rw [z, L2.del_same] at e
        cases e
      · rw [dn z] at e
        exact e, fun f hf => (hok f hf).lo, [], hK, List.nodup_nil, fun _ z => (by cases z), fun _ z => (by cases z)⟩
    refine ⟨.ref a, rfl, .ref L, rfl, a, Kf, L, B, as, L2.del H1 Kf, fs, rfl, hSt, hSA0, sD _ _ hL, hok, hne, fun hz H2 hS2 => ?_, fun wd nm i e H2 d s2 hd => hE wd nm i e H2 d (sD.trans s2) hd⟩
    exact ⟨.ref a, rfl, q hz H2 _ a B Kf hS2 hSA0 (by rw [dn BK]; exact hB) nB0 na sD⟩
def spCK (k : Ks K mg) : Sp := fun vs H Q _ => ∃ (so B Kf L : Addr) (as : List Addr) (fs : List Fd) (H00 H0 : Hp), vs = [.ref so, .ref L] ∧ SrcA k H0 so B Kf as fs ∧ H0 B = some (.dK (byN fs as)) ∧ StS k H0 H so Kf fs [] ∧ Fils k H00 as fs ∧ H00 B = none ∧ Same H00 H0 ∧ (∀ f ∈ fs, ∀ q ∈ f.own, q.2.1 ≠ "") ∧
  H0 L = some (.lst (refs as)) ∧ ∀ H' Ky, StS k H0 H' so Kf fs Ky → Q .non H'
theorem ok_ck {f : Addr} {fd : FuncData} (F : Fun K "check_kinds" "check_kinds" s_check_kinds f fd) (T : Bl K mg) (k : Ks K mg) (m_settle : DnM P w K mg base k.Sources "settle" 5 ["self"] (spSt k)) (d_raise_first : DnX P w K mg base "raise_first" 3 ["word", "name", "found"] (spF1 C)) (d_wrong_kinds : DnO P w K mg base "wrong_kinds" 6 ["sources", "file"] (spWK k)) :
    FnOk P w K mg base (L2.CX P w) 7 f fd ["sources", "files"] (spCK k) := by
  refine F.okX scCK (fun vs H Q E h => ?_) (fun cdv A outer s H vs Q E hr h => ?_)
  · obtain ⟨_, _, _, _, _, _, _, _, rfl, _⟩ := h
    rfl
  · obtain ⟨so, B, Kf, L, as, fs, H00, H0, rfl, hSA, hB, hS, hF, nB, s00, hne, hL, q⟩ := h
    refine ⟨_, (pss_cons (ps_expr (pe_meth0 (pv 0) k.Sources.cl m_settle.mt m_settle.ok (hr.mono (by omega)) m_settle.b .nil pass0))
      (pss_one (ps_for (passes_of rfl) rfl (pi_list (pv 1)) (pg_name (i := 2) scCK.nd rfl (Or.inl rfl))
        (pss_one (ps_expr (pe_call d_raise_first.ok (hr.mono (by omega)) (by rfl) d_raise_first.g d_raise_first.kp d_raise_first.b .nil (passes_call (takes_of rfl rfl rfl rfl) (fun _ _ _ _ h => h)) (pa_cons pe_str (pa_cons (pe_fld (pv 2) rfl) (pa_cons (pe_call d_wrong_kinds.ok (hr.mono (by omega)) (by rfl) d_wrong_kinds.g d_wrong_kinds.kp d_wrong_kinds.b .nil pass0 (pa_cons (pv 0) (pa_cons (pv 2) pa_nil))) pa_nil))))))))), ?_⟩
    obtain ⟨⟨d, hso0⟩, _⟩ := id hSA
    have hso := hS.sm _ _ hso0
    refine ⟨.ref so, rfl, _, _, _, rfl, hso, lkN nx_Sources_settle, so, B, Kf, as, fs, H00, H0, rfl, hSA, hB, hS, hF, nB, s00, hne, fun H1 Ky hS1 hKy => ?_⟩
    refine ⟨.ref L, rfl, L, rfl, ⟨_, SqL.of (hS1.sm _ _ hL)⟩, ?_⟩
    refine for_list (K := K) (a := L) (xs := refs as) (fun i σ Hi => ∃ (y2 : Option V), σ = [some (.ref so), some (.ref L), y2] ∧ StS k H0 Hi so Kf fs Ky) ⟨_, rfl, hS1⟩ (fun i σ Hi _ hP => by obtain ⟨_, _, hSi⟩ := hP; exact SqL.of (hSi.sm _ _ hL)) (fun i x1 σ Hi hx1 hP => ?_) (fun σ Hi hP => ?_)
    · obtain ⟨y2, rfl, hSi⟩ := hP
      obtain ⟨a, rfl, ha⟩ := ref_at hx1
      obtain ⟨fi, hfi, hA⟩ := hSA.2.2.1.at ha
      have hf := List.mem_of_getElem? hfi
      obtain ⟨da, l1, l2, l3, ds, ts, us, vs, g1, _⟩ := id hA
      have g1i := hSi.sm _ _ g1
      refine ⟨.ref a, rfl, _, _, _, _, _, rfl, g1i, k.FileSource.cl, k.FileSource.nf.get ix_FileSource_name, lkZ ix_FileSource_name rfl, .ref so, rfl, .ref a, rfl, so, Kf, a, H0, fs, Ky, fi, rfl, hSi, hA, hf, hne fi hf, hKy fi hf, fun H2 L2 o2 hS2 hL2 => ?_⟩
      exact ⟨"kind", fi.nm, L2, [], rfl, hL2, fun _ H3 s3 => ⟨_, rfl, hS2.same s3⟩, fun z => absurd rfl z⟩
    · obtain ⟨y2, rfl, hSi⟩ := hP
      exact q Hi Ky hSi
def spCC (k : Ks K mg) : Sp := fun vs H Q _ => ∃ (so L : Addr) (as : List Addr) (fs : List Fd), vs = [.ref so, .ref L] ∧ H L = some (.lst (refs as)) ∧ Fils k H as fs ∧ Q .non H
theorem ok_cc {f : Addr} {fd : FuncData} (F : Fun K "check_circles" "check_circles" s_check_circles f fd) (T : Bl K mg) (k : Ks K mg) : FnOk P w K mg base (L2.CX P w) 1 f fd ["sources", "files"] (spCC k) := by
  refine F.okX scCC (fun vs H Q E h => ?_) (fun cdv A outer s H vs Q E hr h => ?_)
  · obtain ⟨_, _, _, _, rfl, _⟩ := h
    rfl
  · obtain ⟨so, L, as, fs, rfl, hL, hF, q⟩ := h
    refine ⟨_, (pss_one (ps_for (passes_of rfl) rfl (pi_list (pv 1)) (pg_name (i := 2) scCC.nd rfl (Or.inl rfl))
        (pss_one (ps_if (PW.pt (pw_and (pt_cmpR op_notN (pe_fld (pv 2) rfl) pe_non (nomark _)) (pw_and1 pt_never)))
          (pss_one ps_never)
          pss_nil)))), ?_⟩
    refine ⟨.ref L, rfl, L, rfl, ⟨_, SqL.of hL⟩, ?_⟩
    refine for_list (K := K) (a := L) (xs := refs as) (fun i σ Hi => ∃ (y2 : Option V), σ = [some (.ref so), some (.ref L), y2] ∧ Hi = H) ⟨_, rfl, rfl⟩ (fun i σ Hi _ hP => by obtain ⟨_, _, rfl⟩ := hP; exact SqL.of hL) (fun i x1 σ Hi hx1 hP => ?_) (fun σ Hi hP => ?_)
    · obtain ⟨y2, rfl, rfl⟩ := hP
      obtain ⟨a, rfl, ha⟩ := ref_at hx1
      obtain ⟨fi, hfi, hA⟩ := hF.at ha
      obtain ⟨da, l1, l2, l3, ds, ts, us, vs, g1, _⟩ := id hA
      exact ⟨.ref a, rfl, _, _, _, _, _, rfl, g1, k.FileSource.cl, k.FileSource.nf.get ix_FileSource_document, lkZ ix_FileSource_document rfl, rfl, _, rfl, iteF ⟨_, rfl, rfl⟩⟩
    · obtain ⟨y2, rfl, rfl⟩ := hP
      exact q
/-- files as they are told: pairs of texts -/
abbrev PrF (H : Hp) (us : List Addr) (fs : List Fd) : Prop := Each (fun u f => H u = some (.tup [.str f.nm, .str (S f.T)])) us fs
/-- a file that can be read -/
structure Fd.rd (f : Fd) : Prop where
  ok : f.ok
  ne : ∀ q ∈ f.own, q.2.1 ≠ ""
  pg : ∃ ps, Pag f.T ps ∧ FilAt f.T ps 0 f.ims f.own
def spRS (C : Addr) (k : Ks K mg) : Sp := fun vs H Q E => ∃ (t : Addr) (us : List Addr) (fs : List Fd), vs = [.ref t] ∧ SqT K H t (refs us) ∧ PrF H us fs ∧ (fs.map Fd.nm).Nodup ∧ fs.length ≤ 100 ∧ (∀ f ∈ fs, f.rd) ∧
  (firstBad fs = none → ∀ H' so B Kf as, Same H H' → SrcA k (Nw H H') so B Kf as fs → Q (.ref so) H') ∧
  (∀ wd nm i, firstBad fs = some (wd, nm, i) → ∀ H' d, Same H H' → H' d = some (.xd (errF (.str wd) (.str nm) (.int (i : Nat)))) → E (.ref C) (some d) H')
theorem ok_rs {f : Addr} {fd : FuncData} (F : Fun K "read_sources" "read_sources" s_read_sources f fd) (T : Bl K mg) (k : Ks K mg) (d_read_file : DnO P w K mg base "read_file" 12 ["name", "text"] (spRF k)) (d_sources_of : DnX P w K mg base "sources_of" 8 ["files"] (spSF C k)) (d_check_kinds : DnX P w K mg base "check_kinds" 7 ["sources", "files"] (spCK k))
    (d_check_circles : DnX P w K mg base "check_circles" 1 ["sources", "files"] (spCC k)) : FnOk P w K mg base (L2.CX P w) 13 f fd ["files"] (spRS C k) := by
  refine F.okX scRS (fun vs H Q E h => ?_) (fun cdv A outer s H vs Q E hr h => ?_)
  · obtain ⟨_, _, _, rfl, _⟩ := h
    rfl
  · obtain ⟨t, us, fs, rfl, ht, hP, hnd, hlen, hrd, q, hE⟩ := h
    refine ⟨_, (pss_cons (ps_setLc (i := 1) (own := [("name", 3), ("text", 4)]) (g := gTup K 2 (gCons (gName 3) (gCons (gName 4) gNil))) (by rfl) scRS.nd rfl rfl (sw_true rfl rfl rfl (by decide +kernel)) (pi_tup (pv 0)) (blkOk_by (own := [("name", 3), ("text", 4)]) (N := ["files", "read", "sources", "name", "text"]) (sc := defScope s_read_sources) (by decide +kernel)) (fun _ _ _ _ _ => (pg_tup rfl (pgs_cons (pg_name (i := 3) scRS.nd rfl (Or.inl rfl)) (pgs_cons (pg_name (i := 4) scRS.nd rfl (Or.inl rfl)) pgs_nil)))) (fun _ _ _ _ _ => pts_nil) (fun _ _ _ _ _ => (pe_call d_read_file.ok (hr.mono (by omega)) (by rfl) d_read_file.g d_read_file.kp d_read_file.b .nil pass0 (pa_cons (pv 3) (pa_cons (pv 4) pa_nil)))))
      (pss_cons (ps_set (i := 2) scRS.nd rfl (Or.inl rfl) (pe_call d_sources_of.ok (hr.mono (by omega)) (by rfl) d_sources_of.g d_sources_of.kp d_sources_of.b .nil (passes_call (takes_of rfl rfl rfl rfl) (fun _ _ _ _ h => h)) (pa_cons (pv 1) pa_nil)))
      (pss_cons (ps_expr (pe_call d_check_kinds.ok (hr.mono (by omega)) (by rfl) d_check_kinds.g d_check_kinds.kp d_check_kinds.b .nil (passes_call (takes_of rfl rfl rfl rfl) (fun _ _ _ _ h => h)) (pa_cons (pv 2) (pa_cons (pv 1) pa_nil))))
      (pss_cons (ps_expr (pe_call d_check_circles.ok (hr.mono (by omega)) (by rfl) d_check_circles.g d_check_circles.kp d_check_circles.b .nil (passes_call (takes_of rfl rfl rfl rfl) (fun _ _ _ _ h => h)) (pa_cons (pv 2) (pa_cons (pv 1) pa_nil))))
      (pss_one (ps_ret (pv 2))))))), ?_⟩
    have lu := hP.len
    have hok : ∀ f ∈ fs, f.ok := fun f hf => (hrd f hf).ok
    have hne : ∀ f ∈ fs, ∀ q ∈ f.own, q.2.1 ≠ "" := fun f hf => (hrd f hf).ne
    refine ⟨.ref t, rfl, t, rfl, ⟨_, ht⟩, fun D nD => ?_⟩
    refine lc_tup (K := K) (a := t) (xs := refs us) (fun i Hi => ∃ (as : List Addr) (Hz : Hp), Same H Hi ∧ Hi D = some (.lst (refs as)) ∧ as.length = i ∧ Hz D = none ∧ (∀ b o, Hz b = some o → H b = none) ∧ Same Hz Hi ∧ Fils k Hz as (fs.take i)) ⟨[], fun _ => none, same_new nD, upd_same, rfl, rfl, fun _ _ e => (by cases e), fun _ _ e => (by cases e), trivial⟩ (fun i Hi _ hP => by obtain ⟨_, _, s, _⟩ := hP; exact SqT.tk (tk_same s) ht) (fun i x1 Hi hx1 hQ => ?_) (fun Hi hQ => ?_)
    · obtain ⟨as, Hz, sm, hD, hal, nz, hzn, sz, hFz⟩ := hQ
      obtain ⟨u, rfl, hu⟩ := ref_at hx1
      obtain ⟨fi, hfi, hT⟩ := hP.at hu
      have hf := List.mem_of_getElem? hfi
      obtain ⟨hfo, _, ps, hpg, hfa⟩ := hrd fi hf
      have hi : i < fs.length := (List.getElem?_eq_some_iff.mp hfi).1
      refine ⟨u, _, rfl, SqT.of (sm _ _ hT), rfl, _, _, rfl, _, _, rfl, rfl, rfl, .str fi.nm, rfl, .str (S fi.T), rfl, fi.nm, fi.T, ps, fi.ims, fi.own, rfl, hpg, hfa, hfo.li, hfo.lo, fun H1 a s1 hA => ?_⟩
      have hD1 := s1 _ _ hD
      refine ⟨_, hD1, by unfold refs; rw [List.length_map]; exact small1000 (by omega), as ++ [a], Nw H (L2.del H1 D), ?_, ?_, by rw [List.length_append, hal]; rfl, ?_, fun b o e => (Nw.of e).1, ?_, ?_⟩
      · exact fun b y e => by
          rw [upd_ne (ne_of_none e nD)]
          exact s1 _ _ (sm _ _ e)
      · rw [upd_same]
        unfold refs
        rw [List.map_append]
        rfl
      · unfold Nw
        rw [nD]
        exact L2.del_same
      · intro b y e
        obtain ⟨e1, e2⟩ := Nw.of e
        by_cases z : b = D
        · rw [z, L2.del_same] at e2
          cases e2
        · rw [L2.del_ne z] at e2
          rw [upd_ne z]
          exact e2
      · have s2 : Same Hz (Nw H (L2.del H1 D)) := fun b y e => Nw.at (hzn _ _ e) (by
          rw [L2.del_ne (ne_of_none e nz)]
          exact s1 _ _ (sz _ _ e))
        have s3 : Same (Nw Hi H1) (Nw H (L2.del H1 D)) := fun b y e => by
          obtain ⟨e1, e2⟩ := Nw.of e
          refine Nw.at (none_of_same sm e1) ?_
          rw [L2.del_ne (fun z => by rw [z, hD] at e1; cases e1)]
          exact e2
        rw [List.take_add_one, hfi]
        exact Each.snoc (hA.same s3) (Fils.same hFz s2)
    · obtain ⟨as, Hz, sm, hD, hal, nz, hzn, sz, hFz⟩ := hQ
      have e : (refs us).length = fs.length := by
        unfold refs
        rw [List.length_map, lu]
      rw [e, List.take_length] at hFz
      have hF := Fils.same hFz sz
      refine ⟨.ref D, rfl, D, as, fs, rfl, hD, hF, hnd, hlen, hok, hne, fun hz H1 H0 so B Kf hS hSA hB nB nso s0 => ?_, fun wd nm i e2 H1 d s1 hd => hE wd nm i e2 H1 d (sm.trans s1) hd⟩
      have hD0 := s0 _ _ hD
      refine ⟨.ref so, rfl, .ref D, rfl, so, B, Kf, D, as, fs, Hi, H0, rfl, hSA, hB, hS, hF, nB, s0, hne, hD0, fun H2 Ky hS2 => ?_⟩
      have s02 := s0.trans hS2.sm
      refine ⟨.ref so, rfl, .ref D, rfl, so, D, as, fs, rfl, s02 _ _ hD, Fils.same hF s02, ?_⟩
      obtain ⟨⟨d2, hso2⟩, hB2, _, hn2, hl2⟩ := hSA.same hS2.sm
      have sN : Same Hz (Nw H H2) := fun b y e => Nw.at (hzn _ _ e) (s02 _ _ (sz _ _ e))
      have nB2 := none_of_same sm nB
      exact ⟨.ref so, rfl, q hz H2 so B Kf as (sm.trans s02) ⟨⟨d2, Nw.at (none_of_same sm nso) hso2⟩, hB2.elim (fun e => .inl (Nw.at nB2 e)) (fun ⟨o, e⟩ => .inr ⟨o, Nw.at nB2 e⟩), Fils.same hFz sN, hn2, hl2⟩⟩
end
end M05

set_option Elab.async false
set_option linter.all false
set_option maxRecDepth 100000
set_option maxHeartbeats 6000000
/-! len(set(l)) of unlike texts -/
namespace M05
open PySem PySem.Spec PyProof.Rows L2 GL
abbrev set0 (w : World) : Obj := { cls := .type "set", dict := none, data := .set #[] 0 (.fresh 0 0 (!w.params.followText "set-order")) }
section
variable {P : Program} {w : World} {A : Around} {E : Value → Shared → Prop} {s : Shared}
theorem setOf_move {S : Addr} {f : Str → Bool} {n : Nat} {h h' : Heap} (x : h.SetOf (strKind P w) S f n) (k : ∀ o, h.get? S = some o → h'.get? S = some o) : h'.SetOf (strKind P w) S f n := by
  obtain ⟨o, es, ep, t, ho, r⟩ := x
  exact ⟨o, es, ep, t, k o ho, r⟩
theorem loopZ {I : Addr} {fp wr : List Addr} {G : Array GenState → Array GenState → Prop} {n : Nat} {Pv : Nat → Value → Prop} {St : Nat → Shared → Prop} {R : Result → Shared → Prop} (W : WalksS P w A.in1 I fp wr G n Pv St) (S : Addr) (hSf : S ∉ fp)
    (xs : List Str) (hn : n = xs.length) (few : xs.length ≤ 18) (nd : xs.Nodup) (hval : ∀ i v, Pv i v → ∃ x t, xs[i]? = some x ∧ v = .str x t) :
    ∀ (d i : Nat) (s : Shared), n - i = d → i ≤ n → St i s → s.heap.SetOf (strKind P w) S (fun k => decide (k ∈ xs.take i)) i →
      (∀ s', Moved (S :: wr) G s s' → s'.heap.SetOf (strKind P w) S (fun k => decide (k ∈ xs)) n → R (.ok (.ret .none)) s') → codeAny (model P w) A (.builtin "set.update.loop" ⟨[.ref S, .ref I], []⟩) R s := by
  have hSw : S ∉ wr := fun h => hSf (W.sub _ h)
  have more : ∀ b ∈ wr, b ∈ S :: wr := fun b hb => List.mem_cons_of_mem _ hb
  intro d
  induction d with
  | zero =>
    intro i s hd hi hst hS fin
    obtain rfl : i = n := by omega
    refine codeAny_builtin F.entry_set_update_loop ?_
    rw [Around.under_plainId F.plain_set_update_loop _]
    show wpAny _ A.in1 (pyNext (.ref I) >>= _) _ _ s
    refine wpAny_bind (W.done s _ _ hst fun s' hm => wpAny_pure (fin s' (hm.mono more) ?_))
    rw [hn, List.take_length] at hS
    rw [hn]
    exact setOf_move hS fun o e => hm.heap S o hSw e
  | succ d ih =>
    intro i s hd hi hst hS fin
    have lt : i < n := by omega
    refine codeAny_builtin F.entry_set_update_loop ?_
    rw [Around.under_plainId F.plain_set_update_loop _]
    show wpAny _ A.in1 (pyNext (.ref I) >>= _) _ _ s
    refine wpAny_bind (W.item i s _ _ lt hst fun v s' hP hst' hm => ?_)
    obtain ⟨x, t, hx, rfl⟩ := hval i v hP
    have hS' := setOf_move (h' := s'.heap) hS fun o e => hm.heap S o hSw e
    show wpAny _ A.in1 (holding [Value.str x t] (setAdd S (.str x t)) >>= _) _ _ s'
    refine wpAny_bind (wpAny_holding ?_)
    unfold setAdd
    refine wpAny_holding (wpAny_bind ((strKind P w).pyHash (k := x) (strKind_is P w x t) ?_))
    refine wpAny_setAddHashed_of (knd := strKind P w) (s := { s' with toks := s'.toks + 1 }) (strKind_is P w x t) rfl hS' (by unfold scanBound; omega) fun h2 sb hS2 => ?_
    have new : x ∉ xs.take i := fun hm => by
      have hl := List.getElem?_eq_some_iff.mp hx
      have nd2 := nd
      rw [← List.take_append_drop i xs, List.nodup_append] at nd2
      refine nd2.2.2 x hm x ?_ rfl
      rw [List.drop_eq_getElem_cons hl.1, hl.2]
      exact List.mem_cons_self ..
    have hS3 : h2.SetOf (strKind P w) S (fun k => decide (k ∈ xs.take (i + 1))) (i + 1) := by
      refine SetOf_congr hS2 (fun k => ?_) (by rw [decide_eq_false new]; rfl)
      have e : xs.take (i + 1) = xs.take i ++ [x] := by
        rw [List.take_succ, hx]
        rfl
      rw [e]
      by_cases h1 : k ∈ xs.take i
      · simp [h1]
      · by_cases h2 : k = x
        · simp [h2]
        · simp [h1, h2]
    refine wpAny_pure ⟨plainId_quiet F.plain_set_update_loop _, ih (i + 1) _ (by omega) lt (W.frame _ s' _ _ hst' (Nat.le_succ _) fun b hb o e => ?_) hS3 fun s'' hm2 hS4 => ?_⟩
    · rw [sb.2 b fun h => hSf (h ▸ hb)]
      exact e
    · refine fin s'' (Moved.trans W.gtrans ((hm.mono more).then_heap (Nat.le_succ _) fun b o hb e => ?_) hm2) hS4
      rw [sb.2 b fun h => hb (h ▸ List.mem_cons_self)]
      exact e
theorem call_setZ {l : Addr} {items : Array Value} (xs : List Str) {Q : Value → Shared → Prop} (hh : A.handled = none) (hl : s.heap.IsList l items) (hit : Vals (xs.map V.str) items.toList) (few : xs.length ≤ 18) (nd : xs.Nodup)
    (h : ∀ (h' : Heap) (tk : Nat), h'.SetOf (strKind P w) s.heap.objs.size (fun k => decide (k ∈ xs)) xs.length → (∀ b o, s.heap.get? b = some o → h'.get? b = some o) → Q (.ref s.heap.objs.size) { s with heap := h', toks := tk }) : wpAny (model P w) A (call (.type "set") [.ref l]) Q E s := by
  have hisz : items.size = xs.length := by rw [← Array.length_toList, ← hit.length, List.length_map]
  obtain ⟨c, tl, hmro⟩ := F.called_set.mro
  have hmade := F.called_set.made
  have hsub := F.called_set.sub
  refine wpAny_call (codeAny_of_tree ?_)
  show wpAny _ _ (callAny (.type "set") _) _ _ _
  refine wpAny_pure ⟨Code.quiet_builtin _ (by decide +kernel), codeAny_builtin F.entry_type_call ?_⟩
  rw [Around.under_plain (weight_type_call_type "set" [.ref l] []) rfl]
  have h1 := F.called_set.notType
  have h2 := F.called_set.canCreate
  have hct := F.typeCall_set_1 (.ref l)
  repeat (any_goals (first | assumption | wp_step))
  refine codeAny_mono (code_set_led1 (.ref l) (E := E) (Q₁ := fun obj s₁ => obj = .ref s.heap.objs.size ∧ s₁ = { s with heap := s.heap.push (set0 w) }) ⟨rfl, rfl⟩) fun r s₁ hr => ?_
  match r, hr with
  | .error e, hr => exact hr
  | .ok .next, hr => exact hr.elim
  | .ok .brk, hr => exact hr.elim
  | .ok .cont, hr => exact hr.elim
  | .ok (.ret obj), hr =>
    obtain ⟨rfl, rfl⟩ := hr
    have hS : (s.heap.push (set0 w)).get? s.heap.objs.size = some (set0 w) := Heap.get?_push_size _ rfl
    have hT : Shared.TypeIs { s with heap := s.heap.push (set0 w) } (.ref s.heap.objs.size) "set" := ⟨_, hS, rfl⟩
    have hli := F.called_set.init.lookup
    have hbi := F.called_set.init.bind (.ref s.heap.objs.size)
    repeat (any_goals (first | assumption | wp_step))
    refine codeAny_mono (codeAny_call_builtin (R := wants (fun r s₂ => r = .none ∧ ∃ h' tk, s₂ = { s with heap := h', toks := tk } ∧ h'.SetOf (strKind P w) s.heap.objs.size (fun k => decide (k ∈ xs)) xs.length ∧ (∀ b o, s.heap.get? b = some o → h'.get? b = some o)) E)
      F.called_set.init.plain F.entry_set_init (check_set_init_1 hT ?_)) fun r₂ s₂ hr₂ => ?_
    · obtain ⟨⟨ocls, odict, odata, oslots⟩, hol, hcl, nl, hdl⟩ := hl
      simp only at hcl hdl
      subst hcl
      subst hdl
      have hol' := Heap.get?_push_of_some (set0 w) hol
      have hsls := F.sub_list_set
      have hslf := F.sub_list_frozenset
      have hne : (Value.type "list" == Value.type "dict") = false := by decide
      have hl1 : (s.heap.push (set0 w)).IsList l items := ⟨_, hol', rfl, nl, rfl⟩
      unfold Builtin.«set.__init__» noKeywords Builtin.Frozenset.updateFrom
      generalize hPI : pyIter = PI
      wp_walk
      subst hPI
      refine wpAny_pyIter_list hl1 (wpAny_bind (wpAny_runValue ?_))
      have hlS : l < s.heap.objs.size := Heap.lt_size hol
      have hh3 : A.in1.in1.in1.handled = none := by simp [hh]
      have sz : (s.heap.push (set0 w)).objs.size = s.heap.objs.size + 1 := Heap.size_push ..
      have hval : ∀ (i : Nat) (v : Value), items[i]? = some v → ∃ x t, xs[i]? = some x ∧ v = .str x t := fun i v hv => by
        rw [← Array.getElem?_toList] at hv
        have hi : i < xs.length := by
          have := (List.getElem?_eq_some_iff.mp hv).1
          rw [Array.length_toList, hisz] at this
          exact this
        obtain ⟨w', e1, t, e2⟩ := hit.get (i := i) (x := .str xs[i]) (by simp [hi])
        rw [hv] at e1
        cases e1
        exact ⟨xs[i], t, by simp [hi], e2⟩
      refine loopZ ((Walks.list hh3 _ l (by rw [sz]; exact Nat.ne_of_lt (Nat.lt_succ_of_lt hlS)) items).toS) s.heap.objs.size (by rw [sz]; simp only [List.mem_cons, List.not_mem_nil, or_false, not_or]; exact ⟨Nat.ne_of_lt (Nat.lt_succ_self _), Nat.ne_of_gt hlS⟩) xs hisz few nd hval
        (items.size - 0) 0 _ (by omega) (Nat.zero_le _) ⟨⟨_, Heap.get?_push_size _ rfl, rfl, rfl⟩, hl1.push _⟩ (SetOf_congr ((setObjOf_fresh (knd := strKind P w) _).setOf (Heap.get?_push_of_some _ hS) (by unfold scanBound; omega)) (fun _ => by simp) rfl) fun s' hm hS2 => ?_
      obtain ⟨h', g2, d', tk', os'⟩ := s'
      obtain rfl : g2 = s.gens := hm.gens
      obtain rfl : d' = s.drawn := hm.drawn
      obtain rfl : os' = s.os := hm.os
      show wpAny _ _ _ _ _ _
      refine wpAny_pure ?_
      show wpAny _ _ (ret Value.none) _ _ _
      rw [hisz] at hS2
      refine wpAny_pure ⟨rfl, h', tk', rfl, hS2, fun b o e => ?_⟩
      have hb := Heap.lt_size e
      refine hm.heap b o ?_ (Heap.get?_push_of_some _ (Heap.get?_push_of_some _ e))
      rw [sz]
      simp only [List.mem_cons, List.not_mem_nil, or_false, not_or]
      exact ⟨Nat.ne_of_lt hb, Nat.ne_of_lt (Nat.lt_succ_of_lt hb)⟩
    · match r₂, hr₂ with
      | .error e, hr₂ => exact hr₂
      | .ok .next, hr₂ => exact hr₂.elim
      | .ok .brk, hr₂ => exact hr₂.elim
      | .ok .cont, hr₂ => exact hr₂.elim
      | .ok (.ret r), hr₂ =>
        obtain ⟨rfl, h', tk, rfl, R, kp⟩ := hr₂
        repeat (any_goals (first | assumption | wp_step))
        exact h _ _ R kp
end
section
variable {X : Cx}
/-- len(set(l)) of unlike texts -/
def tLenSetZ (K : PySem.W.Frag) (ta : TE) : TE := fun σ H Q => ta σ H fun x H1 => ∃ (l : Addr) (xs : List Str), x = .ref l ∧ SqL K H1 l (xs.map V.str) ∧ xs.length ≤ 18 ∧ xs.Nodup ∧ Q (.int xs.length) H1
theorem pe_lenSetZ {a : Expr} {ta : TE} {p p2 q pos : Pos} (hc : X.calm = true) (hg : Gl X "len") (hm : X.mg "len" = none) (hg2 : Gl X "set") (hm2 : X.mg "set" = none) (ha : PE X a ta) (na : starEach [a] X.env = (false, eval a X.env) :: starEach [] X.env := by rfl) :
    PE X (.Call (.Name "len" p) [.Call (.Name "set" p2) [a] [] q] [] pos) (tLenSetZ X.K ta) := by
  refine ⟨fun pins s σ H Q I h => Call_ (ld_blt I hg hm PySem.boot_len ?_)⟩
  refine PyProof.Rows.callWith_builtin1 (PyProof.Rows.args_cons (Call_ (ld_blt I hg2 hm2 PyProof.Rows.boot_set ?_)) rfl) rfl rfl
  refine PyProof.Rows.callWith_type1 (PyProof.Rows.args_cons (thn (ha.run pins s σ H _ I h) fun v s1 ⟨x, H1, I1, r1, q1⟩ => PyProof.Rows.args_nil ?_) na) na rfl
  obtain ⟨l, xs, rfl, hs, h18, nd, q1⟩ := q1
  cases r1
  obtain ⟨its, rv, pl, _⟩ := I1.list hs
  refine call_setZ xs (I1.ok.hd hc) pl.isList (by simpa using rv) h18 nd fun h' tk hS kp => PyProof.Rows.args_nil ?_
  obtain ⟨o, es, ep, t, ho, hex, hd, _, _, _, hf, hn⟩ := hS
  have I2 : Inv X pins σ H1 { s1 with heap := h', toks := tk } := I1.kept kp
  exact call_len_set ho hex hd hf (by rw [hn] <;> omega) ⟨.int xs.length, H1, I2.tok _, ⟨_, by rw [hn]⟩, q1⟩
end
end M05

set_option Elab.async false
set_option linter.all false
set_option maxRecDepth 100000
set_option maxHeartbeats 4000000
/-! rules: len(o) by an own __len__, d.items() with tuple keys, sorted(t), dict(t) of pairs, t a tuple -/
namespace M05
open PySem PySem.Spec PyProof.Rows L2 GL PySem.SeqAt PySem.W
section
variable {prog : Program} {w : World} {A : Around} {E : Value → Shared → Prop} {s : Shared}
theorem len_own2 {K : PySem.W.Frag} {x C f : Addr} {ox : Obj} {od : Option Obj} {Q : Value → Shared → Prop} (X : K.In s.heap) (I : PySem.W.InstAt s.heap x ox C od) (hs : PySem.W.findIn K (.ref C) "__len__" = some (some (.ref f))) (hf : PySem.W.typeIn K (.ref f) = some (.type "function"))
    (hcall : wpAny (model prog w) A.in1 (call (.ref f) [.ref x]) (fun r s' => ∃ n u, r = .int n u ∧ 0 ≤ n ∧ n < 2 ^ 63 ∧ Q (.int n s'.toks) { s' with toks := s'.toks + 1 }) E s) :
    wpAny (model prog w) A (call (.builtin "len") [.ref x]) Q E s := by
  refine Calls.call_function_entry kind_len plain_len entry_len (args_len1 _) ?_
  unfold Builtin.«len»
  refine wpAny_bind (m := oneArg "len" _) (wpAny_pure ?_)
  refine wpAny_bind (m := callSpecial? (.ref x) (Str.ofString "__len__")) (PySem.W.special_fn X I hs hf (wpAny_mono hcall (fun r s' hr => ?_) fun _ _ y => y))
  obtain ⟨n, u, rfl, h0, h1, hq⟩ := hr
  refine wpAny_bind (wpAny_holding (wpAny_pure ?_))
  refine wpAny_bind (wpAny_letGo ?_)
  show wpAny _ _ (if n < 0 then _ else _) _ _ _
  rw [if_neg (by omega)]
  show wpAny _ _ (if n ≥ 2 ^ 63 then _ else _) _ _ _
  rw [if_neg (by omega)]
  exact wpAny_bind (wpAny_mkInt (wpAny_pure ⟨_, rfl, hq⟩))
theorem collect_tuple {l : Addr} {vs : List Value} {Q : List Value → Shared → Prop} (hl : s.heap.IsTuple l vs.toArray)
    (h : Q vs { s with heap := (s.heap.push (seqObj "list" #[] 0)).update s.heap.objs.size (Obj.mapSeq (· ++ vs.toArray)) }) (hsz : vs.length ≤ sizeLine) :
    wpAny (model prog w) A (collect (.ref l)) Q E s := by
  obtain ⟨o, ho, hc, n, hd⟩ := id hl
  unfold collect
  refine wpAny_bind (wpAny_runValue (codeAny_builtin entry_proto_collect' ?_))
  show wpAny _ _ (do again (.builtin "list.__iadd__" ⟨[← newList [], .ref l], []⟩)) _ _ s
  refine wpAny_bind (wpAny_newList (wpAny_pure ⟨Code.quiet_builtin _ (by decide +kernel), codeAny_builtin entry_list_iadd' ?_⟩))
  show wpAny _ _ (Builtin.List.listExtendWith (.ref s.heap.objs.size) (.ref l) (.ref s.heap.objs.size)) _ _ { s with heap := s.heap.push (seqObj "list" #[] 0) }
  unfold Builtin.List.listExtendWith
  have ho' : (s.heap.push (seqObj "list" #[] 0)).get? l = some o := Heap.get?_push_of_some _ ho
  refine wpAny_bind (wpAny_typeOf (T := "tuple") ⟨o, ho', hc⟩ ?_)
  have ht : (Value.type "tuple" == Value.type "tuple") = true := by rfl
  rw [if_pos (by rw [ht]; simp)]
  refine wpAny_bind (listItems_at ho' hd ?_)
  refine wpAny_bind (listItems_at (xs := #[]) (n := 0) (Heap.get?_push_size _ rfl) rfl ?_)
  rw [if_neg (by simp)]
  refine wpAny_bind (listUpdate_at (xs := #[]) (n := 0) (Heap.get?_push_size _ rfl) rfl ?_ (Nat.zero_le _) (by show (#[] ++ vs.toArray).size ≤ sizeLine + 1; simp only [Array.size_append, List.size_toArray, List.length_nil]; omega))
  refine wpAny_pure ?_
  show wpAny (model prog w) A (do
      let o ← load s.heap.objs.size
      match o.data with
      | .seq xs _ => pure xs.toList
      | _ => unsupported "internal:collect") Q E { s with heap := (s.heap.push (seqObj "list" #[] 0)).update s.heap.objs.size (Obj.mapSeq (· ++ vs.toArray)) }
  refine wpAny_bind (wpAny_load (get?_update_seq (Heap.get?_push_size _ rfl) _) ?_)
  show wpAny _ _ (pure ((#[] : Array Value) ++ vs.toArray).toList) Q E _
  rw [show ((#[] : Array Value) ++ vs.toArray).toList = vs by simp]
  exact wpAny_pure h
end
section
variable {X : Cx}
/-- len(o), o of a class with a __len__ of its own -/
def rLenI (C : Addr) (sp : Sp) : List V → Hp → VK → Prop := fun xs H Q => ∃ (a dx : Addr) (fs : List (Str × V)), xs = [.ref a] ∧ H a = some (.ins C dx fs) ∧ sp [.ref a] H (fun v H' => ∃ n : Int, v = .int n ∧ 0 ≤ n ∧ n < 2 ^ 63 ∧ Q (.int n) H') (fun _ _ _ => False)
theorem call_lenI {C f : Addr} {k : Nat} {sp : Sp} (M : Meth X.K C "__len__" f) (F : FnR X.prog X.w X.K X.mg X.base CX0 k f sp) (hr : Room (k + 1) X.A) : CallR X (.builtin "len") (rLenI C sp) := by
  intro pins s σ H xs us Q I r h
  obtain ⟨a, dx, fs, rfl, ha, q⟩ := h
  obtain ⟨u, rfl, ru⟩ := vals1 r
  obtain rfl : u = Value.ref a := ru
  obtain ⟨mA, hM, _⟩ := ins_get I.hok ha
  obtain ⟨od, J, _⟩ := hM.look
  refine len_own2 I.kIn J M.at_ (beq_iff_eq.mp M.fn) (wpAny_mono (wpAny_call (SlX.run_at (E := fun _ _ _ => False) (us := [.ref a]) (ws := [.ref a]) F hr.in1 I.env0.in1 pass0 I (.cons rfl .nil) q)) (fun w s' z => ?_) fun _ _ x => x)
  obtain ⟨z', H', I', rz, n, ei, h0, h1, qz⟩ := z
  subst ei
  obtain ⟨t, rfl⟩ := (show ∃ t, w = Value.int n t from rz)
  exact ⟨n, t, rfl, h0, h1, .int n, H', I'.tok _, ⟨_, rfl⟩, qz⟩
/-- sorted(t), t a tuple -/
def rSortDT (K : PySem.W.Frag) : List V → Hp → VK → Prop := fun vs H Q => ∃ (a : Addr) (as : List Addr) (dt : Addr → PyData), vs = [.ref a] ∧ SqT K H a (as.map V.ref) ∧ GoodD K H dt as ∧ ∀ ys p, SrtO.Srtd (ltA dt) ys → ys.Perm as → H p = none → Q (.ref p) (upd H p (.lst (ys.map V.ref)))
theorem cr_sortDT (hu : X.A.units + 64 < cLine) : CallR X (.builtin "sorted") (rSortDT X.K) := by
  intro pins s σ H vs us Q I r h
  obtain ⟨a, as, dt, rfl, hs, G, q⟩ := h
  obtain ⟨its, rv, hl, hz⟩ := I.tuple hs
  obtain rfl := refs_as rv
  obtain ⟨u, rfl, ru⟩ := vals1 r
  obtain rfl : u = Value.ref a := ru
  rw [List.length_map] at hz
  refine sorted_by (ltv := ltW dt) (swo_toks fun v => keyToks (dtv dt v)) (by rw [List.length_map]; exact hz) (fun R E' k => ?_) (fun h₁ tk a at1 old h2 => G.sortable I hu h₁ tk a at1 old h2) (fun out h' tk d h1 h2 kp hd hn => sorted_end I hz q out h' tk d h1 h2 kp hd hn)
  refine collect_tuple hl (k _ s.toks (fun b o e => ?_) ?_) (by rw [List.length_map]; exact hz)
  · rw [Heap.get?_update_ne _ _ _ _ (Nat.ne_of_lt (Heap.lt_size e))]
    exact Heap.get?_push_of_some _ e
  · rw [Heap.size_update, size_push']
    exact Nat.lt_succ_self _
/-- tuple(l): the object as it stands -/
def rTupF (K : PySem.W.Frag) : List V → Hp → VK → Prop := fun xs H Q => ∃ (p : Addr) (ys : List V), xs = [.ref p] ∧ SqL K H p ys ∧ ∀ l o, H l = none → o.dict = none → Q (.ref l) (upd H l (.frz o (.tup ys)))
theorem call_tupF : CallR X (.type "tuple") (rTupF X.K) := by
  intro pins s σ H xs us Q I r h
  obtain ⟨p, ys, rfl, hq, q⟩ := h
  obtain ⟨u, rfl, rx⟩ := vals1 r
  cases rx
  obtain ⟨its, r', pl, hz⟩ := I.list hq
  have hlen := r'.length
  refine call_tuple_list pl.isList (fun h' kp => ?_) (by simp only [List.size_toArray] <;> omega)
  have I1 : Inv X pins σ H { s with heap := h' } := I.kept (t' := s.toks) kp
  have I2 : Inv X pins σ (upd H h'.objs.size (.frz { cls := .type "tuple", data := .seq its.toArray } (.tup ys))) { s with heap := h'.push { cls := .type "tuple", data := .seq its.toArray } } :=
    I1.laid (t' := s.toks) (fun b o e => Heap.get?_push_of_some _ e) (Nat.le_refl _) (show ObjOk X.prog X.w _ _ _ (.frz _ (.tup ys)) from ⟨Heap.get?_push_size _ rfl, hz, its, r', IsTup.new _ _⟩)
  exact ⟨.ref h'.objs.size, _, I2, rfl, q _ _ (I1.hok.fresh (Nat.le_refl _)) rfl⟩
/-- dict(t) of a tuple of pairs -/
def rDictTP (K : PySem.W.Frag) : List V → Hp → VK → Prop := fun xs H Q => ∃ (a : Addr) (o : Obj) (ps : List Addr) (kvs : List (L2.Key × V)), xs = [.ref a] ∧ H a = some (.frz o (.tup (ps.map V.ref))) ∧ o.dict = none ∧ Paired (fun p kv => SqT K H p [kV kv.1, kv.2]) ps kvs ∧
    ∀ p, H p = none → Q (.ref p) (upd H p (.dK (mergeK [] kvs)))
theorem call_dictTP (hcalm : X.calm = true) : CallR X (.type "dict") (rDictTP X.K) := by
  intro pins s σ H xs us Q I r q
  obtain ⟨a, o, ps, kvs, rfl, ha, ho0, hp, q⟩ := q
  obtain ⟨u, rfl, rx⟩ := vals1 r
  cases rx
  obtain ⟨go, hz, its, rv, ⟨o2, go2, hc, n, hdat⟩⟩ := I.hok a _ ha
  obtain rfl : o2 = o := by
    rw [go] at go2
    exact (Option.some.inj go2).symm
  obtain rfl := refs_at rv
  rw [List.length_map] at hz
  obtain ⟨prs, rel, hl, hpr⟩ := pairs_of I hp
  have hq : ∀ j : Nat, ∃ p : Value × Value, j < prs.length → ∃ k, prs[j]? = some (k, p.2) ∧ ∃ b, ps[j]? = some b ∧ IsTup s.heap b #[p.1, p.2] ∧ keyIs k p.1 = true := fun j => by
    by_cases hj : j < prs.length
    · obtain ⟨b, u, e1, e2, e3⟩ := hpr j prs[j] (List.getElem?_eq_getElem hj)
      exact ⟨(u, prs[j].2), fun _ => ⟨prs[j].1, List.getElem?_eq_getElem hj, b, e1, e2, e3⟩⟩
    · exact ⟨(.none, .none), fun z => absurd z hj⟩
  obtain ⟨g, hg⟩ := Classical.axiomOfChoice hq
  have gl : ((List.range prs.length).map g).length = prs.length := by rw [List.length_map, List.length_range]
  have ok : PlainSeq "tuple" s.heap a (ps.map Value.ref).toArray ∧ PairItems s.heap (ps.map Value.ref).toArray (fun j => ps.getD j 0) ((List.range prs.length).map g) := by
    refine ⟨⟨o2, n, go, hc, ho0, hdat⟩, by rw [List.size_toArray, List.length_map, gl, hl], fun j k v e => ?_⟩
    rw [List.getElem?_map] at e
    obtain ⟨i, e1, e2⟩ := Option.map_eq_some_iff.mp e
    obtain ⟨hj, rfl⟩ : j < prs.length ∧ j = i := by
      have h1 := (List.getElem?_eq_some_iff.mp e1)
      obtain ⟨h2, h3⟩ := h1
      rw [List.length_range] at h2
      rw [List.getElem_range] at h3
      exact ⟨h2, h3⟩
    obtain ⟨k2, f1, b, f2, f3, f4⟩ := hg j hj
    rw [e2] at f3
    have f5 : ps.getD j 0 = b := by rw [List.getD_eq_getElem?_getD, f2]; rfl
    refine ⟨?_, ?_⟩
    · show (ps.map Value.ref).toArray[j]? = some (.ref (ps.getD j 0))
      rw [f5, List.getElem?_toArray, List.getElem?_map, f2]
      rfl
    · show PairAt s.heap (ps.getD j 0) k v
      rw [f5]
      exact .inl f3
  refine PySem.call_dict_pairs (knd := mixKind X.prog X.w) (kvs := prs) (PairArg.tuple a _ _ _) (I.ok.hd hcalm) ok ⟨gl.symm, fun i key v e => ?_⟩ (by rw [gl, hl]; exact hz) fun h' tk hd' k => ?_
  · have e : ((List.range prs.length).map g)[i]? = some (key, v) := e
    rw [List.getElem?_map] at e
    obtain ⟨j, e1, e2⟩ := Option.map_eq_some_iff.mp e
    obtain ⟨hj, rfl⟩ : i < prs.length ∧ i = j := by
      obtain ⟨h2, h3⟩ := (List.getElem?_eq_some_iff.mp e1)
      rw [List.length_range] at h2
      rw [List.getElem_range] at h3
      exact ⟨h2, h3⟩
    obtain ⟨k2, f1, b, f2, f3, f4⟩ := hg i hj
    rw [e2] at f1 f4
    exact ⟨k2, f1, f4⟩
  · have hm : (s.heap.objs.size == sysModules) = false := beq_eq_false_iff_ne.mpr (Nat.ne_of_gt I.big)
    have hlen : (mergeK [] kvs).length ≤ sizeLine := by
      refine Nat.le_trans (length_mergeK kvs []) ?_
      rw [List.length_nil, Nat.zero_add, rel.length, hl]
      exact hz
    exact ⟨.ref s.heap.objs.size, upd H s.heap.objs.size (.dK (mergeK [] kvs)), I.laid (t' := tk) (fun b o e => k b o (by simp) e) (Nat.le_refl _) (show ObjOk X.prog X.w _ _ _ (.dK (mergeK [] kvs)) from ⟨hlen, hm, merged [] prs, KV.merge rel .nil, hd'⟩), rfl, q _ (I.hok.fresh (Nat.le_refl _))⟩
end
end M05

set_option Elab.async false
set_option linter.all false
set_option maxRecDepth 100000
set_option maxHeartbeats 4000000
/-! for (k, v) in d.items(), the keys tuples -/
namespace M05
open PySem PySem.Spec PyProof.Rows L2 GL
theorem frzTv {X : Cx} {pins : List (Addr × Obj)} {σ : L2.St} {H : Hp} {s : Shared} {d : Addr} {o : Obj} {kvs : List (List L2.Key × V)} (I : Inv X pins σ H s) (h : H d = some (.frz o (.dT kvs))) :
    (d == sysModules) = false ∧ s.heap.get? d = some o ∧ o.ExactDict ∧ ∃ (es : Array DictEntry) (ep : Nat), o.data = .dict es ep ∧ es.size = kvs.length ∧
      ∀ (i : Nat) (k : List L2.Key) (v : V), kvs[i]? = some (k, v) → ∃ (en : DictEntry) (q : Addr), es[i]? = some en ∧ en.key = .ref q ∧ H q = some (.tup (k.map kV)) ∧ RelV v en.val := by
  obtain ⟨hd, z, hs, xs, pr, o', es, ep, ho, hx, hdt, he, _⟩ := I.hok d _ h
  rw [hd] at ho
  cases ho
  refine ⟨hs, hd, hx, es, ep, hdt, ?_, fun i k v e => ?_⟩
  · have l1 : es.size = xs.length := size_of_entries he
    have l2 : kvs.length = xs.length := Paired.length pr
    omega
  · obtain ⟨b, hb, e1, e2, e3⟩ := paired_get pr e
    have q := entry_at he i
    rw [hb] at q
    exact ⟨_, b.2.1, q, rfl, e2, e3⟩
/-- the pairs, each a new tuple; the key's own tuple -/
def ItiT (d : Addr) (o : Obj) (kvs : List (List L2.Key × V)) : It :=
  ⟨fun i H => H d = some (.frz o (.dT kvs)) ∧ i < kvs.length, fun i H x H' => ∃ T k v q, kvs[i]? = some (k, v) ∧ x = .ref T ∧ H T = none ∧ H q = some (.tup (k.map kV)) ∧ H' = upd H T (.tup [.ref q, v]), fun i H => H d = some (.frz o (.dT kvs)) ∧ kvs.length ≤ i⟩
theorem turn_itemsT {P : Program} {w : World} {K : PySem.W.Frag} {d : Addr} {o : Obj} {es : Array DictEntry} {ep : Nat} {kvs : List (List L2.Key × V)} {elts : List Expr} {kk : Nat} {tpos : Pos} (it : Addr) (hod : o.data = .dict es ep) :
    Turn P w K (.Tuple elts kk tpos) (ItiT d o kvs) [it] it (fun i h => ∃ ok ov, IsItemIter h it d i es.size ep ok ov) where
  mem := by simp
  obj := fun i h st b hb => by
    have e : b = it := by simpa using hb
    subst e
    obtain ⟨ok, ov, e⟩ := st
    exact ⟨_, e, fun v z => nomatch z⟩
  keep := fun i h h' st k => let ⟨ok, ov, e⟩ := st; ⟨ok, ov, k it (by simp) _ e⟩
  item := by
    intro X hP hw hK hc i pins s σ H E I hf st hg
    subst hP hw hK
    obtain ⟨hd, hi⟩ := hg
    obtain ⟨hs, hgd, hx, es', ep', hdt, hsz, hm⟩ := frzTv I hd
    obtain ⟨rfl, rfl⟩ := dict_ep hod hdt
    obtain ⟨⟨k, v⟩, hkv⟩ : ∃ p, kvs[i]? = some p := ⟨kvs[i], List.getElem?_eq_getElem hi⟩
    obtain ⟨en, q, hen, hkey, hq, hv⟩ := hm i k v hkv
    obtain ⟨hlt2, rfl⟩ := Array.getElem?_eq_some_iff.mp hen
    obtain ⟨ok, ov, he⟩ := st
    have hlt : it < s.heap.objs.size := Heap.lt_size he
    refine wpAny_pyNext_items_item_raw he ⟨o, hgd, hx, hdt⟩ hlt2 fun h' ho hT hz hk => ?_
    refine ⟨_, rfl, wpAny_letOwnedTupleGo_items (s := { s with heap := h' }) ho fun h'' he' sb => ?_⟩
    have hT2 : h''.get? s.heap.objs.size = some { cls := .type "tuple", data := .seq #[es'[i].key, es'[i].val] } := (sb.2 _ (Nat.ne_of_gt hlt)).trans hT
    have new : ObjOk X.prog X.w (upd H s.heap.objs.size (.tup [.ref q, v])) h'' s.heap.objs.size (.tup [.ref q, v]) :=
      ⟨by show 2 ≤ sizeLine; decide, [es'[i].key, es'[i].val], .cons hkey (.cons hv .nil), ⟨_, hT2, rfl, _, rfl⟩⟩
    have I1 : Inv X pins σ (upd H s.heap.objs.size (.tup [.ref q, v])) { s with heap := h'' } :=
      I.turnedNew (t' := s.toks) (ch := [it]) (fun b ob hb e => (sb.2 b (by simpa using hb)).trans (hk b ob (by simpa using hb) e)) hf (Nat.le_refl _) new
    refine ⟨.ref s.heap.objs.size, _, I1, rfl, ⟨_, k, v, q, hkv, rfl, I.hok.fresh (Nat.le_refl _), hq, rfl⟩, ⟨_, _, he'⟩, fun b hb => ?_⟩
    have e : b = it := by simpa using hb
    rw [e, upd_ne (Nat.ne_of_lt hlt)]
    exact (hf it (by simp)).1
  done := by
    intro X hP hw hK hc i pins s σ H E I hf st hg
    subst hP hw hK
    obtain ⟨hd, hi⟩ := hg
    obtain ⟨f0, f1, f2, f3, f4, f5⟩ := hf it (by simp)
    obtain ⟨hs, hgd, hx, es', ep', hdt, hsz, hm⟩ := frzTv I hd
    obtain ⟨rfl, rfl⟩ := dict_ep hod hdt
    obtain ⟨ok, ov, he⟩ := st
    exact wpAny_pyNext_items_end_raw (I.ok.hd hc) he ⟨o, hgd, hx, hdt⟩ (by omega) fun h' eb => ⟨rfl, I.turned (t' := s.toks) (fun b ob hb e => eb b ob hb e) f0 f1 f3 f4 f5⟩
  self := fun A i s Q E st h => let ⟨_, _, e⟩ := st; PySem.W.kcp_self e h
def iItemsT (td : TE) : TI := fun σ H R => td σ H fun x H1 => ∃ d o kvs, x = .ref d ∧ H1 d = some (.frz o (.dT kvs)) ∧ R (ItiT d o kvs) H1
theorem pi_itemsT {X : Cx} {e : Expr} {td : TE} {apos cpos : Pos} {elts : List Expr} {kk : Nat} {tpos : Pos} (he : PE X e td) (hbase : attributeBase e "items" X.env (eval e X.env) = eval e X.env := by rfl) (hline : (apos.endLine == cpos.line) = true := by rfl) :
    PI X (.Tuple elts kk tpos) (.Call (.Attribute e "items" apos) [] [] cpos) (iItemsT td) := by
  refine ⟨fun pins s σ H R I h => ?_⟩
  refine wpAny_Call_method (T := "dict") (id := "dict.items") hbase rfl hline F.plainAttrs_dict F.slot_dict_items F.type_dict_items (thn (he.run pins s σ H _ I h) fun u s1 ⟨x, H1, I1, rx, d, o, kvs, ex, hd, q⟩ => ?_)
  subst ex
  obtain rfl : u = Value.ref d := rx
  obtain ⟨hs, hgd, hx, es, ep, hdt, hsz, hm⟩ := frzTv I1 hd
  refine ⟨⟨o, hgd, hx.1⟩, fun b e => ?_, ?_⟩
  · cases e
    exact ⟨o, hgd, hx.2.1⟩
  have I2 : Inv X pins σ H1 { s1 with heap := s1.heap.push { cls := .type "dict_items", data := .fields #[.ref d] } } := I1.kept (t' := s1.toks) fun b ob q => Heap.get?_push_of_some _ q
  have hr2 : Heap.DictRaw (s1.heap.push { cls := .type "dict_items", data := .fields #[.ref d] }) d es ep := ⟨o, Heap.get?_push_of_some _ hgd, hx, hdt⟩
  have fin : wpAny (model X.prog X.w) X.A (pyIter (.ref s1.heap.objs.size)) (PIE X pins σ (.Tuple elts kk tpos) R) X.xe { s1 with heap := s1.heap.push { cls := .type "dict_items", data := .fields #[.ref d] } } :=
    wpAny_pyIter_items_raw (d := d) ⟨_, Heap.get?_push_size _ rfl, rfl, rfl⟩ hr2 (pi_one (tk := s1.toks) I2 _ (turn_itemsT _ hdt) ⟨.none, .none, Heap.get?_push_size _ rfl⟩ q)
  show wpAny _ _ (callWith cpos (.builtin "dict.items") [.ref d] [] []) _ X.xe s1
  exact method_meetsIn F.slot_dict_items F.entry_dict_items rfl (PySem.evalArgs_none ⟨rfl, ⟨o, hgd, hx.1⟩, F.args_dict_items_1 _, _, meets_dict_items_raw d hs, ⟨⟨es, ep, o, hgd, hx, hdt⟩, fin⟩⟩)
theorem for_itemsT {d : Addr} {o : Obj} {kvs : List (List L2.Key × V)} {g : TG} {tb : TS} {D : Ends} {σ : L2.St} {H : Hp} (Pv : Nat → L2.St → Hp → Prop) (h0 : Pv 0 σ H) (hl : ∀ i σ H, i ≤ kvs.length → Pv i σ H → H d = some (.frz o (.dT kvs)))
    (hs : ∀ i k v σ H T q, kvs[i]? = some (k, v) → Pv i σ H → H T = none → H q = some (.tup (k.map kV)) → g (.ref T) σ (upd H T (.tup [.ref q, v])) fun σ2 H2 => tb { D with nx := Pv (i + 1), ct := Pv (i + 1), bk := D.nx } σ2 H2) (hd : ∀ σ H, Pv kvs.length σ H → D.nx σ H) :
    ∃ W : Nat → Nat → L2.St → Hp → Prop, (∃ m, W 0 m σ H) ∧ ∀ i m σ H, W i m σ H →
      ((ItiT d o kvs).stop i H ∧ D.nx σ H) ∨ ((ItiT d o kvs).go i H ∧ ∃ N : L2.St → Hp → Prop, (∀ σ' H', N σ' H' → ∃ m', m' < m ∧ W (i + 1) m' σ' H') ∧ ∀ x H', (ItiT d o kvs).yld i H x H' → g x σ H' fun σ2 H2 => tb { D with nx := N, ct := N, bk := D.nx } σ2 H2) := by
  refine ⟨fun i m σ H => m = kvs.length - i ∧ i ≤ kvs.length ∧ Pv i σ H, ⟨_, rfl, Nat.zero_le _, h0⟩, ?_⟩
  rintro i m σ H ⟨rfl, hi, p⟩
  have q := hl i σ H hi p
  by_cases hlt : i < kvs.length
  · refine .inr ⟨⟨q, hlt⟩, Pv (i + 1), fun σ' H' p' => ⟨kvs.length - (i + 1), by omega, rfl, hlt, p'⟩, fun x H' y => ?_⟩
    obtain ⟨T, k, v, q2, e, rfl, n, hq, rfl⟩ := y
    exact hs i k v σ H T q2 e p n hq
  · have e : i = kvs.length := by omega
    subst e
    exact .inl ⟨⟨q, Nat.le_refl _⟩, hd σ H p⟩
end M05

set_option Elab.async false
set_option linter.all false
set_option maxRecDepth 100000
set_option maxHeartbeats 4000000
/-! file_named, __len__, is_file, are_files -/
namespace M05
open PySem PySem.Spec PyProof.Rows L2 GL
theorem scFN : FnScope ["self", "name"] ["self", "name"] (defScope m_Sources_file_named) := ⟨rfl, rfl, rfl, by decide +kernel, rfl, by decide +kernel, by decide +kernel⟩
theorem scPL : FnScope ["self"] ["self"] (defScope m_Project_len) := ⟨rfl, rfl, rfl, by decide +kernel, rfl, by decide +kernel, by decide +kernel⟩
theorem scIF : FnScope ["value", "sign"] ["value"] (defScope s_is_file) := ⟨rfl, rfl, rfl, by decide +kernel, rfl, by decide +kernel, by decide +kernel⟩
theorem scAF : FnScope ["value", "one", "name", "text"] ["value"] (defScope s_are_files) := ⟨rfl, rfl, rfl, by decide +kernel, rfl, by decide +kernel, by decide +kernel⟩
section
variable {P : Program} {w : World} {K : PySem.W.Frag} {mg : Str → Option Value} {base : Heap} {C : Addr}
def spFN (k : Ks K mg) : Sp := fun vs H Q _ => ∃ (so B Kf : Addr) (as : List Addr) (fs : List Fd) (f : Fd) (H0 : Hp), vs = [.ref so, .str f.nm] ∧ SrcA k H0 so B Kf as fs ∧ Same H0 H ∧ f ∈ fs ∧ ∀ a, FilA k H0 a f.nm f.T f.ims f.own → Q (.ref a) H
theorem ok_fn {f : Addr} {fd : FuncData} (F : Fun K "file_named" "Sources.file_named" m_Sources_file_named f fd) (T : Bl K mg) (k : Ks K mg) : FnOk P w K mg base CX0 1 f fd ["self", "name"] (spFN k) := by
  refine F.ok scFN (fun vs H Q E h => ?_) (fun cdv A outer s H vs Q E hr h => ?_)
  · obtain ⟨_, _, _, _, _, _, _, rfl, _⟩ := h
    rfl
  · obtain ⟨so, B, Kf, as, fs, f, H0, rfl, hS0, s0, hf, q⟩ := h
    refine ⟨_, (pss_one (ps_ret (pe_dget (u1 hr) (pe_fld (pv 0) rfl) (pv 1) (fun _ _ => rfl)))), ?_⟩
    obtain ⟨⟨d, hso⟩, hB, _, hn, hl⟩ := hS0.same s0
    have hF := hS0.2.2.1
    obtain ⟨i0, hi0⟩ := mem_at hf
    obtain ⟨a, ha, hA⟩ := hF.get hi0
    have hDG : DGet H B (.str f.nm) (some (.ref a)) := by
      have z := byN_some (f := f) (a := a) hn hi0 ha
      rw [← z]
      exact DGet.kR (k := Sum.inr f.nm) hB
    exact ⟨.ref so, rfl, _, _, _, _, _, rfl, hso, k.Sources.cl, k.Sources.nf.get ix_Sources_by_name, lkZ ix_Sources_by_name rfl, .str f.nm, rfl, B, .ref a, rfl, hDG, q a hA⟩
def spPL (k : Ks K mg) : Sp := fun vs H Q _ => ∃ (p d t : Addr) (xs vals : List V), vs = [.ref p] ∧ H p = some (.ins k.Project.C d (nProject.zip (.ref t :: vals))) ∧ SqT K H t xs ∧ Q (.int xs.length) H
theorem ok_pl {f : Addr} {fd : FuncData} (F : Fun K "__len__" "Project.__len__" m_Project_len f fd) (T : Bl K mg) (k : Ks K mg) : FnOk P w K mg base CX0 1 f fd ["self"] (spPL k) := by
  refine F.ok scPL (fun vs H Q E h => ?_) (fun cdv A outer s H vs Q E hr h => ?_)
  · obtain ⟨_, _, _, _, _, rfl, _⟩ := h
    rfl
  · obtain ⟨p, d, t, xs, vals, rfl, hp, ht, q⟩ := h
    refine ⟨_, (pss_one (ps_ret (pe_callB call_len_seq (by rfl) T.len (by decide +kernel) (pa_cons (pe_fld (pv 0) rfl) pa_nil)))), ?_⟩
    exact ⟨.ref p, rfl, _, _, _, _, _, rfl, hp, k.Project.cl, k.Project.nf.get ix_Project_own_files, lkZ ix_Project_own_files rfl, t, xs, rfl, .inr ht, q⟩
/-- a text that may stand in a file -/
def Sgn (T : Cd) : Prop := T.length ≤ 100000 ∧ ∀ c ∈ T, c = 10 ∨ (32 ≤ c ∧ c ≤ 126 ∧ c ≠ 92)
def spIF : Sp := fun vs H Q _ => ∃ (u : Addr) (nm : Str) (T : Cd), vs = [.ref u] ∧ H u = some (.tup [.str nm, .str (S T)]) ∧ isName nm = true ∧ nm.length ≤ 1000 ∧ Sgn T ∧ ∀ H', Same H H' → Q (.bl true) H'
theorem ok_if {f : Addr} {fd : FuncData} (F : Fun K "is_file" "is_file" s_is_file f fd) (T : Bl K mg) (d_is_name : DnO P w K mg base "is_name" 2 ["value"] spNm) : FnOk P w K mg base CX0 3 f fd ["value"] spIF := by
  refine F.ok scIF (fun vs H Q E h => ?_) (fun cdv A outer s H vs Q E hr h => ?_)
  · obtain ⟨_, _, _, rfl, _⟩ := h
    rfl
  · obtain ⟨u, nm, b, rfl, hu, hn, hl, hz, q⟩ := h
    refine ⟨_, (pss_cons (ps_if (PW.pt (pw_or (pt_not (pt_val (pe_callB call_isi (by rfl) T.isinstance (by decide +kernel) (pa_cons (pv 0) (pa_cons (pe_bltn (v := .ty "tuple") (by rfl) T.tuple (by decide +kernel) rfl) pa_nil))))) (pw_or (pt_cmpR op_ne (pe_callB call_len_seq (by rfl) T.len (by decide +kernel) (pa_cons (pv 0) pa_nil)) (pe_glob (v := .int 2) (by rfl) T.cpair.choose_spec ⟨_, rfl⟩) (nomark _)) (pw_or (pt_not (pt_val (pe_call d_is_name.ok (hr.mono (by omega)) (by rfl) d_is_name.g d_is_name.kp d_is_name.b .nil pass0 (pa_cons (pe_ix (r := rIxT K) ix_tup (pv 0) pe_int (fun _ _ => rfl)) pa_nil)))) (pw_or1 (pt_not (pt_val (pe_callB call_isi (by rfl) T.isinstance (by decide +kernel) (pa_cons (pe_ix (r := rIxT K) ix_tup (pv 0) pe_int (fun _ _ => rfl)) (pa_cons (pe_bltn (v := .ty "str") (by rfl) T.str (by decide +kernel) rfl) pa_nil))))))))))
        (pss_one (ps_ret pe_bl))
        pss_nil)
      (pss_one (ps_ret (pe_callB (cr_all rfl) (by rfl) T.all (by decide +kernel) (pa_cons (pe_lc (own := [("sign", 1)]) (g := gName 1) (by rfl) scIF.nd (pi_str (pe_ix (r := rIxT K) ix_tup (pv 0) pe_int (fun _ _ => rfl))) (blkOk_by (own := [("sign", 1)]) (N := ["value", "sign"]) (sc := defScope s_is_file) (by decide +kernel)) (fun _ _ _ _ _ => (pg_name (i := 1) scIF.nd rfl (Or.inl rfl))) (fun _ _ _ _ _ => pts_nil) (fun _ _ _ _ _ => (pe_or (pe_cmpR op_eq (pv 1) (pe_glob (v := .str "\n") (by rfl) T.cfeed.choose_spec ⟨_, rfl⟩) (nomark _)) (pe_one (pe_and (pe_chain op_le op_le (pe_glob (v := .int 32) (by rfl) T.cleastcode.choose_spec ⟨_, rfl⟩) (pe_callB call_ord (by rfl) T.ord (by decide +kernel) (pa_cons (pv 1) pa_nil)) (pe_glob (v := .int 126) (by rfl) T.cmostcode.choose_spec ⟨_, rfl⟩)) (pe_one (pe_cmpR op_ne (pv 1) (pe_glob (v := .str "\\") (by rfl) T.cbackslash.choose_spec ⟨_, rfl⟩) (nomark _)))))))) pa_nil))))), ?_⟩
    refine ⟨.ref u, rfl, .ref u, .ty "tuple", _, _, true, rfl, .ty "tuple", .base (.tup hu), rfl, true, rfl, iteF ?_⟩
    refine ⟨.ref u, rfl, u, _, rfl, .inr (SqT.of hu), rfl, _, rfl, iteF ?_⟩
    refine ⟨.ref u, rfl, u, [.str nm, .str (S b)], 0, .str nm, rfl, rfl, SqT.of hu, atI_nat (j := 0) rfl, nm, rfl, hl, fun H1 s1 => ?_⟩
    have hu1 := s1 _ _ hu
    rw [hn]
    refine ⟨true, rfl, iteF ?_⟩
    refine ⟨.ref u, rfl, u, [.str nm, .str (S b)], 1, .str (S b), rfl, rfl, SqT.of hu1, atI_nat (j := 1) rfl, .str (S b), .ty "str", _, _, true, rfl, .ty "str", .base (.str (S b)), rfl, true, rfl, iteF ?_⟩
    refine ⟨.ref u, rfl, u, [.str nm, .str (S b)], 1, .str (S b), rfl, rfl, SqT.of hu1, atI_nat (j := 1) rfl, S b, rfl, fun D nD => ?_⟩
    refine lc_it (walk_str (z := S b)) (fun i H2 => Same H1 H2 ∧ H2 D = some (.lst ((List.replicate i true).map V.bl))) ⟨same_new nD, upd_same⟩ (fun _ _ _ _ => trivial) (fun i x H2 H3 hi hP hY => ?_) (fun H2 hP => ?_)
    · obtain ⟨sm, hD⟩ := hP
      obtain ⟨rfl, c, hc, rfl⟩ := hY
      have hm : c ∈ b := by
        have : (cs (S b))[i]? = some c := by rw [Array.getElem?_toList]; exact hc
        rw [cs_S] at this
        exact List.mem_of_getElem? this
      have hi' : i < (S b).length := hi
      have hlen : (S b).length ≤ 100000 := by rw [len_S]; exact hz.1
      have hstep : ∃ ws, H3 D = some (.lst ws) ∧ ws.length < sizeLine ∧ Same H1 (upd H3 D (.lst (ws ++ [.bl true]))) ∧ upd H3 D (.lst (ws ++ [.bl true])) D = some (.lst ((List.replicate (i + 1) true).map V.bl)) := by
        refine ⟨_, hD, ?_, same_put sm nD, ?_⟩
        · simp
          exact Nat.lt_of_lt_of_le (by omega : i < 100000) (by decide)
        · rw [upd_same, List.replicate_succ', List.map_append]
          rfl
      refine ⟨rfl, .str (ch c), rfl, rfl, _, rfl, ?_⟩
      by_cases c10 : c = 10
      · have eq : decide (V.str (ch c) = V.str "\n") = true := decide_eq_true (by rw [c10]; rfl)
        rw [eq]
        exact iteT hstep
      · have eq : decide (V.str (ch c) = V.str "\n") = false := decide_eq_false fun z => c10 (ch_inj (V.str.inj z))
        rw [eq]
        obtain ⟨c1, c2, c3⟩ := (hz.2 c hm).resolve_left c10
        refine iteF ⟨.str (ch c), rfl, ch c, rfl, rfl, 32, (c : Int), rfl, rfl, _, rfl, ?_⟩
        rw [decide_eq_true (show (32 : Int) ≤ (c : Int) by omega)]
        refine iteT ?_
        refine ⟨(c : Int), 126, rfl, rfl, _, rfl, ?_⟩
        rw [decide_eq_true (show (c : Int) ≤ 126 by omega)]
        refine iteT ⟨.str (ch c), rfl, rfl, ?_⟩
        have e1 : (!decide (V.str (ch c) = V.str "\\")) = true := by
          have : decide (V.str (ch c) = V.str "\\") = false := decide_eq_false fun z => c3 (ch_inj (V.str.inj z))
          rw [this]
          rfl
        rw [e1]
        exact hstep
    · obtain ⟨sm, hD⟩ := hP
      refine ⟨D, _, rfl, SqL.of hD, ?_⟩
      have e5 : ∀ n, (List.replicate n true).all id = true := fun n => by simp
      rw [e5]
      exact q _ (s1.trans sm)
/-- files as they are given -/
abbrev PrG (H : Hp) (us : List Addr) (gs : List (Str × Cd)) : Prop := Each (fun u g => H u = some (.tup [.str g.1, .str (S g.2)])) us gs
def GvF (g : Str × Cd) : Prop := isName g.1 = true ∧ g.1.length ≤ 1000 ∧ Sgn g.2
def spAF : Sp := fun vs H Q _ => ∃ (t : Addr) (us : List Addr) (gs : List (Str × Cd)), vs = [.ref t] ∧ H t = some (.tup (refs us)) ∧ PrG H us gs ∧ 1 ≤ gs.length ∧ gs.length ≤ 6 ∧ (gs.map Prod.fst).Nodup ∧ (∀ g ∈ gs, GvF g) ∧ ∀ H', Same H H' → Q (.bl true) H'
theorem ok_af {f : Addr} {fd : FuncData} (F : Fun K "are_files" "are_files" s_are_files f fd) (T : Bl K mg) (d_is_file : DnO P w K mg base "is_file" 3 ["value"] spIF) : FnOk P w K mg base CX0 4 f fd ["value"] spAF := by
  refine F.ok scAF (fun vs H Q E h => ?_) (fun cdv A outer s H vs Q E hr h => ?_)
  · obtain ⟨_, _, _, rfl, _⟩ := h
    rfl
  · obtain ⟨t, us, gs, rfl, ht, hP, h1, h6, hnd, hg, q⟩ := h
    refine ⟨_, (pss_cons (ps_if (PW.pt (pw_or (pt_not (pt_val (pe_callB call_isi (by rfl) T.isinstance (by decide +kernel) (pa_cons (pv 0) (pa_cons (pe_bltn (v := .ty "tuple") (by rfl) T.tuple (by decide +kernel) rfl) pa_nil))))) (pw_or (pt_not (pt_chain op_le op_le pe_int (pe_callB call_len_seq (by rfl) T.len (by decide +kernel) (pa_cons (pv 0) pa_nil)) (pe_glob (v := .int 6) (by rfl) T.cmostfiles.choose_spec ⟨_, rfl⟩))) (pw_or1 (pt_not (pt_val (pe_callB (cr_all rfl) (by rfl) T.all (by decide +kernel) (pa_cons (pe_lc (own := [("one", 1)]) (g := gName 1) (by rfl) scAF.nd (pi_tup (pv 0)) (blkOk_by (own := [("one", 1)]) (N := ["value", "one", "name", "text"]) (sc := defScope s_are_files) (by decide +kernel)) (fun _ _ _ _ _ => (pg_name (i := 1) scAF.nd rfl (Or.inl rfl))) (fun _ _ _ _ _ => pts_nil) (fun _ _ _ _ _ => (pe_call d_is_file.ok (hr.mono (by omega)) (by rfl) d_is_file.g d_is_file.kp d_is_file.b .nil pass0 (pa_cons (pv 1) pa_nil)))) pa_nil))))))))
        (pss_one (ps_ret pe_bl))
        pss_nil)
      (pss_one (ps_ret (pe_cmpR op_eq (pe_lenSetZ rfl (by rfl) T.len (by rfl) T.set (pe_lc (own := [("name", 2), ("text", 3)]) (g := gTup K 2 (gCons (gName 2) (gCons (gName 3) gNil))) (by rfl) scAF.nd (pi_tup (pv 0)) (blkOk_by (own := [("name", 2), ("text", 3)]) (N := ["value", "one", "name", "text"]) (sc := defScope s_are_files) (by decide +kernel)) (fun _ _ _ _ _ => (pg_tup rfl (pgs_cons (pg_name (i := 2) scAF.nd rfl (Or.inl rfl)) (pgs_cons (pg_name (i := 3) scAF.nd rfl (Or.inl rfl)) pgs_nil)))) (fun _ _ _ _ _ => pts_nil) (fun _ _ _ _ _ => (pv 2)))) (pe_callB call_len_seq (by rfl) T.len (by decide +kernel) (pa_cons (pv 0) pa_nil)) (nomark _))))), ?_⟩
    have lu := hP.len
    have lr : (refs us).length = gs.length := by
      unfold refs
      rw [List.length_map, lu]
    refine ⟨.ref t, rfl, .ref t, .ty "tuple", _, _, true, rfl, .ty "tuple", .base (.tup ht), rfl, true, rfl, iteF ?_⟩
    refine ⟨.ref t, rfl, t, refs us, rfl, .inr (SqT.of ht), 1, ((refs us).length : Int), rfl, rfl, _, rfl, ?_⟩
    rw [decide_eq_true (show (1 : Int) ≤ ((refs us).length : Int) by omega)]
    refine iteT ?_
    refine ⟨((refs us).length : Int), 6, rfl, rfl, _, rfl, ?_⟩
    rw [decide_eq_true (show ((refs us).length : Int) ≤ 6 by omega)]
    refine iteF ?_
    refine ⟨.ref t, rfl, t, rfl, ⟨_, SqT.of ht⟩, fun D nD => ?_⟩
    refine lc_tup (K := K) (a := t) (xs := refs us) (fun i Hi => Same H Hi ∧ Hi D = some (.lst ((List.replicate i true).map V.bl))) ⟨same_new nD, upd_same⟩ (fun i Hi _ hQ => SqT.of (hQ.1 _ _ ht)) (fun i x1 Hi hx1 hQ => ?_) (fun Hi hQ => ?_)
    · obtain ⟨sm, hD⟩ := hQ
      obtain ⟨u, rfl, hu⟩ := ref_at hx1
      obtain ⟨g, hgi, hT⟩ := hP.at hu
      obtain ⟨g1, g2, g3⟩ := hg g (List.mem_of_getElem? hgi)
      have hi : i < gs.length := (List.getElem?_eq_some_iff.mp hgi).1
      refine ⟨rfl, .ref u, rfl, u, g.1, g.2, rfl, sm _ _ hT, g1, g2, g3, fun H2 s2 => ⟨_, s2 _ _ hD, by simp; exact Nat.lt_of_lt_of_le (by omega : i < 100) (by decide), same_put (sm.trans s2) nD, ?_⟩⟩
      rw [upd_same, List.replicate_succ', List.map_append]
      rfl
    · obtain ⟨sm, hD⟩ := hQ
      refine ⟨D, _, rfl, SqL.of hD, ?_⟩
      have e5 : ∀ n, (List.replicate n true).all id = true := fun n => by simp
      rw [e5]
      refine ⟨true, rfl, iteF ?_⟩
      refine ⟨.ref t, rfl, t, rfl, ⟨_, SqT.of (sm _ _ ht)⟩, fun D2 nD2 => ?_⟩
      refine lc_tup (K := K) (a := t) (xs := refs us) (fun i H2 => Same Hi H2 ∧ H2 D2 = some (.lst (((gs.map Prod.fst).take i).map V.str))) ⟨same_new nD2, upd_same⟩ (fun i H2 _ hQ => SqT.of (hQ.1 _ _ (sm _ _ ht))) (fun i x1 H2 hx1 hQ => ?_) (fun H2 hQ => ?_)
      · obtain ⟨sm2, hD2⟩ := hQ
        obtain ⟨u, rfl, hu⟩ := ref_at hx1
        obtain ⟨g, hgi, hT⟩ := hP.at hu
        have hi : i < gs.length := (List.getElem?_eq_some_iff.mp hgi).1
        refine ⟨u, _, rfl, SqT.of (sm2 _ _ (sm _ _ hT)), rfl, _, _, rfl, _, _, rfl, rfl, rfl, .str g.1, rfl, _, hD2, ?_, same_put sm2 nD2, ?_⟩
        · rw [List.length_map, List.length_take]
          exact Nat.lt_of_lt_of_le (by omega : _ < 100) (by decide)
        · rw [upd_same, List.take_add_one, List.getElem?_map, hgi, List.map_append]
          rfl
      · obtain ⟨sm2, hD2⟩ := hQ
        have e : (refs us).length = (gs.map Prod.fst).length := by rw [lr, List.length_map]
        rw [e, List.take_length] at hD2
        refine ⟨D2, gs.map Prod.fst, rfl, SqL.of hD2, by rw [List.length_map]; omega, hnd, .ref t, rfl, t, refs us, rfl, .inr (SqT.of (sm2 _ _ (sm _ _ ht))), rfl, ?_⟩
        have eq : decide (V.int ((gs.map Prod.fst).length : Nat) = V.int ((refs us).length : Nat)) = true := decide_eq_true (by rw [e])
        rw [eq]
        exact q _ (sm.trans sm2)
end
end M05

set_option Elab.async false
set_option linter.all false
set_option maxRecDepth 100000
set_option maxHeartbeats 4000000
/-! list_sizes; files sorted by their names -/
namespace M05
open PySem PySem.Spec PyProof.Rows L2 GL
theorem scLZ : FnScope ["self", "found", "name", "source"] ["self"] (defScope m_Project_list_sizes) := ⟨rfl, rfl, rfl, by decide +kernel, rfl, by decide +kernel, by decide +kernel⟩
/-! ### plain lists -/
theorem putK_len {κ : Type} [DecidableEq κ] (kvs : List (κ × V)) (k : κ) (v : V) : (putK kvs k v).length ≤ kvs.length + 1 := by
  unfold putK
  split
  · rw [List.length_map]; omega
  · rw [List.length_append]; exact Nat.le_refl _
theorem putK_mem {κ : Type} [DecidableEq κ] {kvs : List (κ × V)} {k : κ} {v : V} {e : κ × V} (h : e ∈ putK kvs k v) : e ∈ kvs ∨ e.2 = v := by
  unfold putK at h
  split at h
  · obtain ⟨f, hf, rfl⟩ := List.mem_map.mp h
    by_cases q : f.1 = k
    · simp [q]
    · simp [q]
      exact .inl hf
  · rcases List.mem_append.mp h with h | h
    · exact .inl h
    · obtain rfl := List.mem_singleton.mp h
      exact .inr rfl
theorem asc_eqB {α : Type} {R : α → α → Bool} : ∀ {l m : List α}, l.Perm m → l.Pairwise (fun a b => R b a = false) → m.Pairwise (fun a b => R a b = true) → l = m
  | [], m, p, _, _ => (List.nil_perm.mp p).symm
  | x :: l, [], p, _, _ => absurd p.length_eq (by simp)
  | x :: l, y :: m, p, h1, h2 => by
    rw [List.pairwise_cons] at h1 h2
    have hx : x ∈ y :: m := p.subset List.mem_cons_self
    have hy : y ∈ x :: l := p.symm.subset List.mem_cons_self
    have e : x = y := by
      rcases List.mem_cons.mp hx with e | e
      · exact e
      · rcases List.mem_cons.mp hy with e2 | e2
        · exact e2.symm
        · have a := h2.1 _ e
          have b := h1.1 _ e2
          rw [b] at a
          cases a
    subst e
    rw [asc_eqB (List.perm_cons x |>.mp p) h1.2 h2.2]
/-- the order of names -/
def sLt (a b : Str) : Bool := decide (a.cps.toList < b.cps.toList)
/-- what a pair of texts at an address is -/
def datG (H : Hp) (a : Addr) : Str × Cd := match H a with
  | some (.tup [.str x, .str y]) => (x, y.cps.toList)
  | _ => ("", [])
theorem datG_of {H : Hp} {a : Addr} {g : Str × Cd} (h : H a = some (.tup [.str g.1, .str (S g.2)])) : datG H a = g := by
  unfold datG
  rw [h]
  show (g.1, (S g.2).cps.toList) = g
  simp [S]
def dtG (H : Hp) (a : Addr) : PyData := .tuple [.str (datG H a).1, .str (S (datG H a).2)]
theorem PrG.map {H : Hp} : ∀ {ts : List Addr} {qs : List (Str × Cd)}, PrG H ts qs → ts.map (datG H) = qs
  | [], [], _ => rfl
  | t :: ts, q :: qs, z => by rw [List.map_cons, datG_of z.1, PrG.map z.2]
  | [], _ :: _, z => z.elim
  | _ :: _, [], z => z.elim
theorem PrG.of_map {H : Hp} : ∀ {ts : List Addr}, (∀ t ∈ ts, ∃ q : Str × Cd, H t = some (.tup [.str q.1, .str (S q.2)])) → PrG H ts (ts.map (datG H))
  | [], _ => trivial
  | t :: ts, h => by
    obtain ⟨q, hq⟩ := h t List.mem_cons_self
    refine ⟨?_, PrG.of_map fun s hs => h s (List.mem_cons_of_mem _ hs)⟩
    rw [datG_of hq]
    exact hq
theorem PrG.same {H H' : Hp} {ts : List Addr} {qs : List (Str × Cd)} (h : PrG H ts qs) (s : Same H H') : PrG H' ts qs := Each.mono (fun _ _ z => s _ _ z) h
theorem good_prG {K : PySem.W.Frag} {H : Hp} {ts : List Addr} {qs : List (Str × Cd)} (h : PrG H ts qs) : GoodD K H (dtG H) ts := by
  have at_ : ∀ a ∈ ts, ∃ q : Str × Cd, H a = some (.tup [.str q.1, .str (S q.2)]) ∧ dtG H a = .tuple [.str q.1, .str (S q.2)] := fun a ha => by
    obtain ⟨q, _, e⟩ := Each.mem h ha
    refine ⟨q, e, ?_⟩
    unfold dtG
    rw [datG_of e]
  refine ⟨fun a ha => ?_, fun a ha => ?_, fun a ha => ?_, .inl fun a ha => ?_, fun a ha b hb => ?_⟩
  · obtain ⟨q, e, d⟩ := at_ a ha
    rw [d]
    exact .tup (SqT.of e) (.cons (.str _) (.cons (.str _) .nil))
  · obtain ⟨q, e, d⟩ := at_ a ha
    rw [d]
    rfl
  · obtain ⟨q, e, d⟩ := at_ a ha
    rw [d]
    show 1 ≤ 60
    decide
  · exact ⟨_, _, rfl⟩
  · show akins _ _ = true
    rw [akins]
    split
    · rw [akins]
      split
      · rfl
      · rfl
    · rfl
open PySem.SeqAt PySem.W in
theorem lt_prG {H : Hp} {a b : Addr} (h : sLt (datG H a).1 (datG H b).1 = true) : ltA (dtG H) a b = true := by
  unfold ltA dtG
  simp only [keyToks]
  have h := of_decide_eq_true h
  have e : PyData.eqv (.str (datG H a).1) (.str (datG H b).1) = false := by
    show decide ((datG H a).1 = (datG H b).1) = false
    exact decide_eq_false fun z => by
      rw [z] at h
      exact absurd h (List.lt_irrefl _)
  rw [lx_no rfl rfl rfl e, dataLt_str]
  exact decide_eq_true h
theorem sorted_files {H : Hp} {us ys : List Addr} {gs ms : List (Str × Cd)} (h : PrG H us gs) (pm : gs.Perm ms) (ho : ms.Pairwise fun a b => sLt a.1 b.1 = true) (hs : SrtO.Srtd (ltA (dtG H)) ys) (hp : ys.Perm us) : PrG H ys ms := by
  have hm : ∀ t ∈ ys, ∃ q : Str × Cd, H t = some (.tup [.str q.1, .str (S q.2)]) := fun t ht => by
    obtain ⟨q, _, e⟩ := Each.mem h (hp.subset ht)
    exact ⟨q, e⟩
  have p1 : (ys.map (datG H)).Perm ms := by
    have := hp.map (datG H)
    rw [PrG.map h] at this
    exact this.trans pm
  have le : (ys.map (datG H)).Pairwise fun a b => sLt b.1 a.1 = false := by
    rw [List.pairwise_map]
    refine List.Pairwise.imp (fun {a b} z => ?_) hs
    cases w : sLt (datG H b).1 (datG H a).1 with
    | false => rfl
    | true =>
      rw [lt_prG w] at z
      cases z
  rw [← asc_eqB (R := fun a b : Str × Cd => sLt a.1 b.1) p1 le ho]
  exact PrG.of_map hm
section
variable {P : Program} {w : World} {K : PySem.W.Frag} {mg : Str → Option Value} {base : Heap} {C : Addr}
/-- the texts by their names -/
abbrev txK (fs : List Fd) : List (L2.Key × V) := fs.map fun f => (.inr f.nm, .str (S f.T))
def spLZ (k : Ks K mg) : Sp := fun vs H Q _ => ∃ (p d oD so B Kf : Addr) (as : List Addr) (fs : List Fd) (a : V) (vals : List V) (HS : Hp), vs = [.ref p] ∧ H p = some (.ins k.Project.C d (nProject.zip (a :: .ref oD :: .ref so :: vals))) ∧ H oD = some (.dK (txK fs)) ∧ SrcA k HS so B Kf as fs ∧ Same HS H ∧ HS oD = none ∧ (∀ f ∈ fs, f.own.length ≤ 100) ∧
  ∀ H' FD kvs, Same H H' → H FD = none → H' FD = some (.dT kvs) → kvs.length ≤ 10000 → (∀ e ∈ kvs, e.2 = .int 0) → Q (.ref FD) H'
theorem ok_lz {f : Addr} {fd : FuncData} (F : Fun K "list_sizes" "Project.list_sizes" m_Project_list_sizes f fd) (T : Bl K mg) (k : Ks K mg) (m_file_named : DnM P w K mg base k.Sources "file_named" 1 ["self", "name"] (spFN k)) : FnOk P w K mg base CX0 2 f fd ["self"] (spLZ k) := by
  refine F.ok scLZ (fun vs H Q E h => ?_) (fun cdv A outer s H vs Q E hr h => ?_)
  · obtain ⟨_, _, _, _, _, _, _, _, _, _, _, rfl, _⟩ := h
    rfl
  · obtain ⟨p, d, oD, so, B, Kf, as, fs, a, vals, HS, rfl, hp, hO, hSA, sS, nO, hlo, q⟩ := h
    refine ⟨_, (pss_cons (ps_set (i := 1) scLZ.nd rfl (Or.inl rfl) pe_dnewT)
      (pss_cons (ps_lock (ps_for PassesOwn.never rfl (pi_keys (pe_fld (pv 0) rfl)) (pg_name (i := 2) scLZ.nd rfl (Or.inl rfl))
        (pss_one (ps_for PassesOwn.never rfl (pi_list (pe_fld (pe_meth (pe_fld (pv 0) rfl) k.Sources.cl m_file_named.mt m_file_named.ok (hr.mono (by omega)) m_file_named.b .nil pass0 (pa_cons (pv 2) pa_nil)) rfl)) (pg_name (i := 3) scLZ.nd rfl (Or.inl rfl))
          (pss_one (ps_dput (u1 hr) (pv 1) (pe_tup (pa_cons (pv 2) (pa_cons (pe_fld (pv 3) rfl) pa_nil))) (pe_callB call_len_seq (by rfl) T.len (by decide +kernel) (pa_cons (pe_fld (pv 3) rfl) pa_nil)) rfl))))))
      (pss_one (ps_ret (pv 1))))), ?_⟩
    obtain ⟨⟨d2, hso⟩, _, hF, _, hl100⟩ := id hSA
    refine fun FD nF => ?_
    have s1 := same_new (o := .dT []) nF
    have hF1 := upd_same (H := H) (a := FD) (o := .dT [])
    generalize upd H FD (.dT []) = H1 at s1 hF1
    have hO1 := s1 _ _ hO
    have FO : FD ≠ oD := fun z => by rw [z, hO] at nF; cases nF
    have nFS : HS FD = none := none_of_same sS nF
    refine ⟨oD, _, hO1, trivial, fun od => ?_⟩
    have hp1 := s1 _ _ hp
    have pO : p ≠ oD := fun z => by rw [z, hO] at hp; cases hp
    have pF : p ≠ FD := ne_of_none hp nF
    refine ⟨.ref p, rfl, _, _, _, _, _, rfl, (by rw [upd_ne pO]; exact hp1), k.Project.cl, k.Project.nf.get ix_Project_own_texts, lkZ ix_Project_own_texts rfl, oD, od, rfl, .inl ⟨_, upd_same, ?_⟩⟩
    refine for_keys (fun i σ Hi => ∃ (y2 y3 : Option V) (kvs : List (List L2.Key × V)), σ = [some (.ref p), some (.ref FD), y2, y3] ∧ (∀ b o, b ≠ FD → b ≠ oD → H1 b = some o → Hi b = some o) ∧ Hi oD = some (.frz od (.dK (txK fs))) ∧ Hi FD = some (.dT kvs) ∧ kvs.length ≤ 100 * i ∧ ∀ e ∈ kvs, e.2 = .int 0) ⟨_, _, [], rfl, fun b o _ nb e => by rw [upd_ne nb]; exact e, upd_same, by rw [upd_ne FO]; exact hF1, Nat.zero_le _, fun _ z => by cases z⟩ (fun i σ Hi _ hP => by obtain ⟨_, _, _, _, _, h, _⟩ := hP; exact h) (fun i kk vv σ Hi hx hP => ?_) (fun σ Hi hP => ?_)
    · obtain ⟨y2, y3, kvs, rfl, oi, hOi, hFi, hki, hei⟩ := hP
      have hil : i < fs.length := by
        have := (List.getElem?_eq_some_iff.mp hx).1
        rwa [List.length_map] at this
      rw [List.getElem?_map] at hx
      obtain ⟨f, hfi, e⟩ := Option.map_eq_some_iff.mp hx
      cases e
      have hf := List.mem_of_getElem? hfi
      have sSi : Same HS Hi := fun b o e => oi b o (ne_of_none e nFS) (ne_of_none e nO) (s1 _ _ (sS _ _ e))
      have hpi := oi _ _ pF pO hp1
      have hsoi := sSi _ _ hso
      refine ⟨.ref p, rfl, _, _, _, _, _, rfl, hpi, k.Project.cl, k.Project.nf.get ix_Project_sources, lkZ ix_Project_sources rfl, _, _, _, rfl, hsoi, lkN nx_Sources_file_named, .str f.nm, rfl, so, B, Kf, as, fs, f, HS, rfl, hSA, sSi, hf, fun u hA => ?_⟩
      obtain ⟨da, l1, l2, l3, ds, ts, us, vs, g1, g2, g3, g4, g5, g6, g7⟩ := id hA
      have g1i := sSi _ _ g1
      have fl : (lsts f.own).length ≤ f.own.length := List.length_filterMap_le _ _
      have lv := g7.len
      have hlof := hlo f hf
      refine ⟨_, _, _, _, _, rfl, g1i, k.FileSource.cl, k.FileSource.nf.get ix_FileSource_list_sources, lkZ ix_FileSource_list_sources rfl, l3, rfl, ⟨_, SqL.of (sSi _ _ g6)⟩, ?_⟩
      refine for_list (K := K) (a := l3) (xs := refs vs) (fun j σ Hj => ∃ (y3 : Option V) (kvs : List (List L2.Key × V)), σ = [some (.ref p), some (.ref FD), some (.str f.nm), y3] ∧ (∀ b o, b ≠ FD → b ≠ oD → H1 b = some o → Hj b = some o) ∧ Hj oD = some (.frz od (.dK (txK fs))) ∧ Hj FD = some (.dT kvs) ∧ kvs.length ≤ 100 * i + j ∧ ∀ e ∈ kvs, e.2 = .int 0) ⟨_, kvs, rfl, oi, hOi, hFi, hki, hei⟩ (fun j σ Hj _ hP => by
        obtain ⟨_, _, _, oj, _⟩ := hP
        exact SqL.of (oj _ _ (ne_of_none g6 nFS) (ne_of_none g6 nO) (s1 _ _ (sS _ _ g6)))) (fun j x1 σ Hj hx1 hP => ?_) (fun σ Hj hP => ?_)
      · obtain ⟨y3, kvs, rfl, oj, hOj, hFj, hkj, hej⟩ := hP
        obtain ⟨v, rfl, hv⟩ := ref_at hx1
        obtain ⟨y, hy, d5, f5, i5, e5, d6, o5, c5, p5, hL0, hI0, _⟩ := g7.at hv
        have hj : j < vs.length := (List.getElem?_eq_some_iff.mp hv).1
        have sSj : Same HS Hj := fun b o e => oj b o (ne_of_none e nFS) (ne_of_none e nO) (s1 _ _ (sS _ _ e))
        have hLj := sSj _ _ hL0
        have hIj := sSj _ _ hI0
        refine ⟨.ref v, rfl, _, _, _, _, _, rfl, hLj, k.ListSource.cl, k.ListSource.nf.get ix_ListSource_item_bodies, lkZ ix_ListSource_item_bodies rfl, i5, [], rfl, .inl (SqL.of hIj), .ref FD, rfl, .str f.nm, rfl, .ref v, rfl, _, _, _, _, _, rfl, hLj, k.ListSource.cl, k.ListSource.nf.get ix_ListSource_name, lkZ ix_ListSource_name rfl, by show 2 ≤ sizeLine; decide, fun t nt => ?_⟩
        have s2 := same_new (o := .tup [.str f.nm, .str y.1]) nt
        have ht := upd_same (H := Hj) (a := t) (o := .tup [.str f.nm, .str y.1])
        generalize upd Hj t (.tup [.str f.nm, .str y.1]) = H2 at s2 ht
        have ht' : H2 t = some (.tup ((kyOf f.nm y.1).map kV)) := ht
        have hF2 := s2 _ _ hFj
        have hsz : kvs.length < sizeLine := Nat.lt_of_le_of_lt hkj (Nat.lt_of_lt_of_le (by omega : _ < 20000) (by decide))
        refine ⟨FD, _, rfl, DPut.t hF2 ht' hsz, _, _, rfl, fun b o nb nb2 e => ?_, ?_, upd_same, ?_, fun e he => ?_⟩
        · rw [upd_ne nb]
          exact s2 _ _ (oj b o nb nb2 e)
        · rw [upd_ne FO.symm]
          exact s2 _ _ hOj
        · have := putK_len kvs (kyOf f.nm y.1) (.int ((([] : List V).length : Nat) : Int))
          omega
        · exact (putK_mem he).elim (hej e) fun z => z
      · obtain ⟨y3, kvs, rfl, oj, hOj, hFj, hkj, hej⟩ := hP
        have e : (refs vs).length = vs.length := List.length_map ..
        rw [e] at hkj
        exact ⟨_, _, kvs, rfl, oj, hOj, hFj, by omega, hej⟩
    · obtain ⟨y2, y3, kvs, rfl, oi, hOi, hFi, hki, hei⟩ := hP
      refine ⟨hOi, .ref FD, rfl, ?_⟩
      rw [List.length_map] at hki
      refine q _ FD kvs (fun b o e => ?_) nF (by rw [upd_ne FO]; exact hFi) (by omega) hei
      by_cases z : b = oD
      · rw [z] at e ⊢
        rw [upd_same, ← e, hO]
      · rw [upd_ne z]
        exact oi b o (ne_of_none e nF) z (s1 _ _ e)
end
end M05

set_option Elab.async false
set_option linter.all false
set_option maxRecDepth 100000
set_option maxHeartbeats 4000000
/-! Project.__init__ -/
namespace M05
open PySem PySem.Spec PyProof.Rows L2 GL
theorem scPI : FnScope ["self", "files", "some", "key", "many", "name"] ["self", "files"] (defScope m_Project_init) := ⟨rfl, rfl, rfl, by decide +kernel, rfl, by decide +kernel, by decide +kernel⟩
theorem txK_none {nm : Str} : ∀ {fs : List Fd}, nm ∉ fs.map Fd.nm → valV (txK fs) (.inr nm) = none
  | [], _ => rfl
  | f :: fs, h => by
    rw [List.map_cons, List.mem_cons, not_or] at h
    show valV ((_, _) :: txK fs) _ = _
    rw [valV_neg (fun e => h.1 (Sum.inr.inj e).symm), txK_none h.2]
theorem mergeK_txK : ∀ {fs gs : List Fd}, ((gs ++ fs).map Fd.nm).Nodup → mergeK (txK gs) (txK fs) = txK (gs ++ fs)
  | [], gs, _ => by
    rw [List.append_nil]
    rfl
  | f :: fs, gs, h => by
    have e : gs ++ f :: fs = (gs ++ [f]) ++ fs := by simp
    have h2 : ((gs ++ [f] ++ fs).map Fd.nm).Nodup := by rw [← e]; exact h
    show mergeK (putK (txK gs) (.inr f.nm) (.str (S f.T))) (txK fs) = _
    have hn : f.nm ∉ gs.map Fd.nm := by
      rw [List.map_append, List.nodup_append] at h
      intro hm
      exact h.2.2 _ hm f.nm (by simp) rfl
    rw [putK_new _ (txK_none hn), e, ← mergeK_txK h2]
    unfold txK
    rw [List.map_append]
    rfl
theorem PrG.prF {H : Hp} : ∀ {us : List Addr} {fs : List Fd}, PrG H us (fs.map fun f => (f.nm, f.T)) → PrF H us fs
  | [], [], _ => trivial
  | _ :: _, _ :: _, z => ⟨z.1, PrG.prF z.2⟩
  | [], _ :: _, z => z.elim
  | _ :: _, [], z => z.elim
theorem PrG.pairs {K : PySem.W.Frag} {H : Hp} : ∀ {us : List Addr} {fs : List Fd}, PrG H us (fs.map fun f => (f.nm, f.T)) → Paired (fun (p : Addr) (kv : L2.Key × V) => SqT K H p [kV kv.1, kv.2]) us (txK fs)
  | [], [], _ => .nil
  | _ :: _, _ :: _, z => .cons (SqT.of z.1) (PrG.pairs z.2)
  | [], _ :: _, z => z.elim
  | _ :: _, [], z => z.elim
section
variable {P : Program} {w : World} {K : PySem.W.Frag} {mg : Str → Option Value} {base : Heap} {C : Addr}
structure MkrX (P : Program) (w : World) (K : PySem.W.Frag) (mg : Str → Option Value) (base : Heap) {x : Str} {N : List Str} (c : Kl K mg x N) (k : Nat) (ps : List Str) (sp : Sp) where
  f : Addr
  fd : FuncData
  mak : Mk K c.C f
  ok : FnOk P w K mg base (L2.CX P w) k f fd ps sp
  b : Binds K fd ps []
/-- what is given and what is read of it -/
structure Prj (gs : List (Str × Cd)) (fs : List Fd) : Prop where
  lo : 1 ≤ gs.length
  hi : gs.length ≤ 6
  nd : (gs.map Prod.fst).Nodup
  gv : ∀ g ∈ gs, GvF g
  pm : gs.Perm (fs.map fun f => (f.nm, f.T))
  asc : (fs.map fun f => (f.nm, f.T)).Pairwise fun a b => sLt a.1 b.1 = true
  rd : ∀ f ∈ fs, f.rd
theorem Prj.len {gs : List (Str × Cd)} {fs : List Fd} (h : Prj gs fs) : fs.length = gs.length := by
  have := h.pm.length_eq
  rw [List.length_map] at this
  exact this.symm
theorem Prj.nodup {gs : List (Str × Cd)} {fs : List Fd} (h : Prj gs fs) : (fs.map Fd.nm).Nodup := by
  have := (h.pm.map Prod.fst).nodup_iff.mp h.nd
  rw [List.map_map] at this
  exact this
def spPI (C : Addr) (k : Ks K mg) : Sp := fun vs H Q E => ∃ (p dx t : Addr) (us : List Addr) (gs : List (Str × Cd)) (fs : List Fd), vs = [.ref p, .ref t] ∧ H p = some (.ins k.Project.C dx []) ∧ H t = some (.tup (refs us)) ∧ PrG H us gs ∧ Prj gs fs ∧
  (firstBad fs = none → ∀ H' d tF xs vals, Off p H H' → H' p = some (.ins k.Project.C d (nProject.zip (.ref tF :: vals))) → SqT K H' tF xs → xs.length = gs.length → Q .non H') ∧
  (∀ wd nm i, firstBad fs = some (wd, nm, i) → ∀ H' d, Off p H H' → H' d = some (.xd (errF (.str wd) (.str nm) (.int (i : Nat)))) → E (.ref C) (some d) H')
theorem ok_pi {f : Addr} {fd : FuncData} (F : Fun K "__init__" "Project.__init__" m_Project_init f fd) (T : Bl K mg) (k : Ks K mg) (d_are_files : DnO P w K mg base "are_files" 4 ["value"] spAF) (d_read_sources : DnX P w K mg base "read_sources" 13 ["files"] (spRS C k)) (m_file_named : DnM P w K mg base k.Sources "file_named" 1 ["self", "name"] (spFN k)) (m_list_sizes : DnM P w K mg base k.Project "list_sizes" 2 ["self"] (spLZ k)) :
    FnOk P w K mg base (L2.CX P w) 14 f fd ["self", "files"] (spPI C k) := by
  refine F.okX scPI (fun vs H Q E h => ?_) (fun cdv A outer s H vs Q E hr h => ?_)
  · obtain ⟨_, _, _, _, _, _, rfl, _⟩ := h
    rfl
  · obtain ⟨p, dx, t, us, gs, fs, rfl, hp, ht, hP, hJ, q, hE⟩ := h
    refine ⟨_, (pss_cons (ps_if (pt_not (pt_val (pe_call d_are_files.ok (hr.mono (by omega)) (by rfl) d_are_files.g d_are_files.kp d_are_files.b .nil pass0 (pa_cons (pv 1) pa_nil))))
        (pss_one ps_never)
        pss_nil)
      (pss_cons (ps_fldZ (pv 0) (pe_callTy call_tupF (by rfl) T.tuple (by decide +kernel) (pa_cons (pe_callB (cr_sortDT hr.units) (by rfl) T.sorted (by decide +kernel) (pa_cons (pv 1) pa_nil)) pa_nil)) rfl)
      (pss_cons (ps_fldZ (pv 0) (pe_callTy (call_dictTP rfl) (by rfl) T.dict (by decide +kernel) (pa_cons (pe_fld (pv 0) rfl) pa_nil)) rfl)
      (pss_cons (ps_fldZ (pv 0) (pe_call d_read_sources.ok (hr.mono (by omega)) (by rfl) d_read_sources.g d_read_sources.kp d_read_sources.b .nil (passes_call (takes_of rfl rfl rfl rfl) (fun _ _ _ _ h => h)) (pa_cons (pe_fld (pv 0) rfl) pa_nil)) rfl)
      (pss_cons (ps_lock (ps_setLc (i := 2) (own := [("name", 5)]) (g := gName 5) (by rfl) scPI.nd rfl rfl (sw_true rfl rfl rfl (by decide +kernel)) (pi_keys (pe_fld (pv 0) rfl)) (blkOk_by (own := [("name", 5)]) (N := ["self", "files", "some", "key", "many", "name"]) (sc := defScope m_Project_init) (by decide +kernel)) (fun _ _ _ _ _ => (pg_name (i := 5) scPI.nd rfl (Or.inl rfl))) (fun _ _ _ _ _ => (pts_one (pt_cmpR op_notN (pe_fldK (K := K) rfl (pe_meth (pe_fldK (K := K) rfl (pv 0) rfl) k.Sources.cl m_file_named.mt m_file_named.ok (hr.mono (by omega)) m_file_named.b .nil pass0 (pa_cons (pv 5) pa_nil)) rfl) pe_non (nomark _)))) (fun _ _ _ _ _ => (pv 5))))
      (pss_cons (ps_fldZ (pv 0) (pe_callTy call_tuple_of (by rfl) T.tuple (by decide +kernel) (pa_cons (pv 2) pa_nil)) rfl)
      (pss_cons (ps_fldZ (pv 0) pe_non rfl)
      (pss_cons (ps_fldZ (pv 0) pe_non rfl)
      (pss_cons (ps_fldZ (pv 0) pe_dnewT rfl)
      (pss_cons (ps_fldZ (pv 0) pe_dnewT rfl)
      (pss_one (ps_unl (ps_for (passes_of rfl) rfl (pi_itemsT (pe_lockR (pe_meth0 (pv 0) k.Project.cl m_list_sizes.mt m_list_sizes.ok (hr.mono (by omega)) m_list_sizes.b .nil pass0))) (pg_tup rfl (pgs_cons (pg_name (i := 3) scPI.nd rfl (Or.inl rfl)) (pgs_cons (pg_name (i := 4) scPI.nd rfl (Or.inl rfl)) pgs_nil)))
        (pss_one (ps_asg (pe_tup (pa_cons (pe_tupRg rfl (by rfl) T.tuple (prg_1 (by rfl) T.range (pv 4))) (pa_cons (pv 4) pa_nil))) (pg_tup rfl (pgs_cons (pg_sub (pe_fld (pv 0) rfl) (pv 3) (set_dict (u1 hr))) (pgs_cons (pg_sub (pe_fld (pv 0) rfl) (pv 3) (set_dict (u1 hr))) pgs_nil)))))))))))))))))), ?_⟩
    have hp0 : H p = some (.ins k.Project.C dx (nProject.zip [])) := hp
    have hl := hJ.len
    have h6 := hJ.hi
    have hlo : ∀ f ∈ fs, f.own.length ≤ 100 := fun f hf => (hJ.rd f hf).ok.lo
    refine ⟨.ref t, rfl, t, us, gs, rfl, ht, hP, hJ.lo, hJ.hi, hJ.nd, hJ.gv, fun H1 s1 => ⟨true, rfl, iteF ?_⟩⟩
    refine ⟨.ref t, rfl, t, us, dtG H1, rfl, SqT.of (s1 _ _ ht), good_prG (hP.same s1), fun ys L hsrt hperm nL => ⟨L, refs ys, rfl, SqL.of upd_same, fun tF oF ntF hoF => ?_⟩⟩
    have hY := sorted_files (hP.same s1) hJ.pm hJ.asc hsrt hperm
    have ly : ys.length = fs.length := by
      have := Each.len hY
      rw [List.length_map] at this
      exact this
    have s2 := same_new (o := .lst (ys.map V.ref)) nL
    have s3 := same_new (o := .frz oF (.tup (refs ys))) ntF
    have htF := upd_same (H := upd H1 L (.lst (ys.map V.ref))) (a := tF) (o := .frz oF (.tup (refs ys)))
    have sA := (s1.trans s2).trans s3
    have sB := s2.trans s3
    generalize upd (upd H1 L (.lst (ys.map V.ref))) tF (.frz oF (.tup (refs ys))) = HA at sA sB htF
    have hpA := sA _ _ hp0
    have tp : tF ≠ p := fun z => by rw [z, hpA] at htF; cases htF
    have hYA := hY.same sB
    have yp : ∀ (Ha Hb : Hp), Off p Ha Hb → (∃ C d l, Ha p = some (.ins C d l)) → ∀ {zs : List Addr} {ms : List (Str × Cd)}, PrG Ha zs ms → PrG Hb zs ms := fun Ha Hb o ⟨C, d, l, e⟩ zs ms h => Each.mono (fun a m z => o a _ (fun w => by rw [w, e] at z; cases z) z) h
    refine ⟨.ref p, rfl, _, _, _, _, _, _, rfl, hpA, k.Project.cl, k.Project.nf.get ix_Project_own_files, ix_Project_own_files, Nat.le_of_ble_eq_true rfl, k.Project.len, fun H2 o2 h2 => ?_⟩
    have hY2 := yp _ _ o2 ⟨_, _, _, hpA⟩ hYA
    have ht2 := o2 _ _ tp htF
    refine ⟨.ref p, rfl, _, _, _, _, _, rfl, h2, k.Project.cl, k.Project.nf.get ix_Project_own_files, lkZ ix_Project_own_files rfl, tF, oF, ys, txK fs, rfl, ht2, hoF, PrG.pairs hY2, fun oD nO => ?_⟩
    have emg : mergeK [] (txK fs) = txK fs := mergeK_txK (gs := []) hJ.nodup
    rw [emg]
    have s4 := same_new (o := .dK (txK fs)) nO
    have hO3 := upd_same (H := H2) (a := oD) (o := .dK (txK fs))
    generalize upd H2 oD (.dK (txK fs)) = H3 at s4 hO3
    have h3 := s4 _ _ h2
    have ht3 := s4 _ _ ht2
    have hY3 := hY2.same s4
    have Op : oD ≠ p := fun z => by rw [z, h3] at hO3; cases hO3
    refine ⟨.ref p, rfl, _, _, _, _, _, _, rfl, h3, k.Project.cl, k.Project.nf.get ix_Project_own_texts, ix_Project_own_texts, Nat.le_of_ble_eq_true rfl, k.Project.len, fun H4 o4 h4 => ?_⟩
    have ht4 := o4 _ _ tp ht3
    have hO4 := o4 _ _ Op hO3
    have hY4 := yp _ _ o4 ⟨_, _, _, h3⟩ hY3
    have oH4 : Off p H H4 := fun b o nb e => o4 b o nb (s4 _ _ (o2 b o nb (sA _ _ e)))
    refine ⟨.ref p, rfl, _, _, _, _, _, rfl, h4, k.Project.cl, k.Project.nf.get ix_Project_own_files, lkZ ix_Project_own_files rfl, tF, ys, fs, rfl, .inl (.inr ⟨oF, ht4⟩), hY4.prF, hJ.nodup, by omega, hJ.rd, fun hz H5 so B Kf as s5 hSA => ?_, fun wd nm i e H5 d s5 hd => hE wd nm i e H5 d (fun b o nb e2 => s5 _ _ (oH4 b o nb e2)) hd⟩
    have sS5 : Same (Nw H4 H5) H5 := fun b o e => (Nw.of e).2
    have nSp : Nw H4 H5 p = none := by unfold Nw; rw [h4]
    have nSO : Nw H4 H5 oD = none := by unfold Nw; rw [hO4]
    generalize Nw H4 H5 = HS at hSA sS5 nSp nSO
    have h5 := s5 _ _ h4
    have ht5 := s5 _ _ ht4
    have hO5 := s5 _ _ hO4
    refine ⟨.ref p, rfl, _, _, _, _, _, _, rfl, h5, k.Project.cl, k.Project.nf.get ix_Project_sources, ix_Project_sources, Nat.le_of_ble_eq_true rfl, k.Project.len, fun H6 o6 h6' => ?_⟩
    have sS6 : Same HS H6 := fun b o e => o6 b o (ne_of_none e nSp) (sS5 _ _ e)
    have ht6 := o6 _ _ tp ht5
    have hO6 := o6 _ _ Op hO5
    have oH6 : Off p H H6 := fun b o nb e => o6 b o nb (s5 _ _ (oH4 b o nb e))
    obtain ⟨⟨dS, hso⟩, _, hF, _⟩ := id hSA
    refine ⟨oD, _, hO6, trivial, fun od => ?_⟩
    have pO : p ≠ oD := Op.symm
    have tO : tF ≠ oD := fun z => by rw [z, hO6] at ht6; cases ht6
    have hL6 := upd_same (H := H6) (a := oD) (o := .frz od (.dK (txK fs)))
    have oL : ∀ b o, b ≠ oD → H6 b = some o → upd H6 oD (.frz od (.dK (txK fs))) b = some o := fun b o nb e => by rw [upd_ne nb]; exact e
    have sSL : Same HS (upd H6 oD (.frz od (.dK (txK fs)))) := fun b o e => oL b o (ne_of_none e nSO) (sS6 _ _ e)
    generalize upd H6 oD (.frz od (.dK (txK fs))) = HL at hL6 oL sSL
    have hpL := oL _ _ pO h6'
    refine ⟨.ref p, rfl, _, _, _, _, _, rfl, hpL, k.Project.cl, k.Project.nf.get ix_Project_own_texts, lkZ ix_Project_own_texts rfl, oD, od, rfl, .inl ⟨_, hL6, fun D nD => ?_⟩⟩
    refine lc_it (walk_keys (kvs := txK fs)) (fun i Hi => Same HL Hi ∧ Hi D = some (.lst [])) ⟨same_new nD, upd_same⟩ (fun i Hi _ hQ => hQ.1 _ _ hL6) (fun i x Hi Hi' hi hQ hY => ?_) (fun Hi hQ => ?_)
    · obtain ⟨sm, hD⟩ := hQ
      obtain ⟨rfl, kk, vv, hx, rfl⟩ := hY
      rw [List.getElem?_map] at hx
      obtain ⟨f, hfi, e⟩ := Option.map_eq_some_iff.mp hx
      cases e
      have hf := List.mem_of_getElem? hfi
      have hpi := sm _ _ hpL
      have sSi := sSL.trans sm
      have hsoi := sSi _ _ hso
      refine ⟨rfl, .ref p, rfl, _, _, _, _, _, rfl, hpi, k.Project.cl, k.Project.nf.get ix_Project_sources, lkZ ix_Project_sources rfl, _, _, _, rfl, hsoi, lkN nx_Sources_file_named, .str f.nm, rfl, so, B, Kf, as, fs, f, HS, rfl, hSA, sSi, hf, fun u hA => ?_⟩
      obtain ⟨da, l1, l2, l3, ds, ts, us, vs, g1, _⟩ := id hA
      have g1i := sSi _ _ g1
      exact ⟨_, _, _, _, _, rfl, g1i, k.FileSource.cl, k.FileSource.nf.get ix_FileSource_document, lkZ ix_FileSource_document rfl, rfl, _, rfl, iteF ⟨sm, hD⟩⟩
    · obtain ⟨sm, hD⟩ := hQ
      refine ⟨sm _ _ hL6, ?_⟩
      have DO : D ≠ oD := fun z => by rw [z, sm _ _ hL6] at hD; cases hD
      have s6 : Same H6 (upd Hi oD (.dK (txK fs))) := fun b o e => by
        by_cases z : b = oD
        · rw [z] at e ⊢
          rw [upd_same, ← e, hO6]
        · rw [upd_ne z]
          exact sm _ _ (oL b o z e)
      have hD7 : upd Hi oD (.dK (txK fs)) D = some (.lst []) := by rw [upd_ne DO]; exact hD
      generalize upd Hi oD (.dK (txK fs)) = H7 at s6 hD7
      have h7 := s6 _ _ h6'
      refine ⟨.ref D, rfl, D, [], rfl, .inl ⟨SqL.of hD7, fun tD ntD => ?_⟩⟩
      have s7 := same_new (o := .tup []) ntD
      generalize upd H7 tD (.tup []) = H8 at s7
      have h8 := s7 _ _ h7
      refine ⟨.ref p, rfl, _, _, _, _, _, _, rfl, h8, k.Project.cl, k.Project.nf.get ix_Project_own_documents, ix_Project_own_documents, Nat.le_of_ble_eq_true rfl, k.Project.len, fun H9 o9 h9 => ?_⟩
      refine ⟨.ref p, rfl, _, _, _, _, _, _, rfl, h9, k.Project.cl, k.Project.nf.get ix_Project_evaluation, ix_Project_evaluation, Nat.le_of_ble_eq_true rfl, k.Project.len, fun H10 o10 h10 => ?_⟩
      refine ⟨.ref p, rfl, _, _, _, _, _, _, rfl, h10, k.Project.cl, k.Project.nf.get ix_Project_places, ix_Project_places, Nat.le_of_ble_eq_true rfl, k.Project.len, fun H11 o11 h11 => ?_⟩
      refine fun A8 nA8 => ?_
      have s12 := same_new (o := .dT []) nA8
      have hA12 := upd_same (H := H11) (a := A8) (o := .dT [])
      generalize upd H11 A8 (.dT []) = H12 at s12 hA12
      have h12 := s12 _ _ h11
      refine ⟨.ref p, rfl, _, _, _, _, _, _, rfl, h12, k.Project.cl, k.Project.nf.get ix_Project_own_serials, ix_Project_own_serials, Nat.le_of_ble_eq_true rfl, k.Project.len, fun H13 o13 h13 => fun A9 nA9 => ?_⟩
      have A8p : A8 ≠ p := fun z => by rw [z, h12] at hA12; cases hA12
      have hA13 := o13 _ _ A8p hA12
      have s14 := same_new (o := .dT []) nA9
      have hB14 := upd_same (H := H13) (a := A9) (o := .dT [])
      generalize upd H13 A9 (.dT []) = H14 at s14 hB14
      have h14 := s14 _ _ h13
      have hA14 := s14 _ _ hA13
      have A89 : A8 ≠ A9 := ne_of_none hA13 nA9
      refine ⟨.ref p, rfl, _, _, _, _, _, _, rfl, h14, k.Project.cl, k.Project.nf.get ix_Project_own_nexts, ix_Project_own_nexts, Nat.le_of_ble_eq_true rfl, k.Project.len, fun H15 o15 h15 => ?_⟩
      have A9p : A9 ≠ p := fun z => by rw [z, h14] at hB14; cases hB14
      have hA15 := o15 _ _ A8p hA14
      have hB15 := o15 _ _ A9p hB14
      have o615 : Off p H6 H15 := fun b o nb e => o15 b o nb (s14 _ _ (o13 b o nb (s12 _ _ (o11 b o nb (o10 b o nb (o9 b o nb (s7 _ _ (s6 _ _ e))))))))
      have ht15 := o615 _ _ tp ht6
      have hO15 := o615 _ _ Op hO6
      have oH15 : Off p H H15 := fun b o nb e => o615 b o nb (oH6 b o nb e)
      have sS15 : Same HS H15 := fun b o e => o615 b o (ne_of_none e nSp) (sS6 _ _ e)
      refine ⟨.ref p, rfl, _, _, _, rfl, h15, lkN nx_Project_list_sizes, p, _, oD, so, B, Kf, as, fs, _, _, HS, rfl, h15, hO15, hSA, sS15, nSO, hlo, fun H16 FD kvs s16 nFD hFD hkl hz0 => ⟨FD, _, rfl, hFD, trivial, fun od2 nf => ⟨FD, od2, kvs, rfl, upd_same, ?_⟩⟩⟩
      have h16 := s16 _ _ h15
      have hA16 := s16 _ _ hA15
      have hB16 := s16 _ _ hB15
      have pF : p ≠ FD := ne_of_none h15 nFD
      have A8F : A8 ≠ FD := ne_of_none hA15 nFD
      have A9F : A9 ≠ FD := ne_of_none hB15 nFD
      have tFF : tF ≠ FD := ne_of_none ht15 nFD
      have t8 : tF ≠ A8 := fun z => by rw [z, hA15] at ht15; cases ht15
      have t9 : tF ≠ A9 := fun z => by rw [z, hB15] at ht15; cases ht15
      have o816 : ∀ b o, b ≠ p → H b = some o → b ≠ A8 ∧ b ≠ A9 ∧ b ≠ FD ∧ H16 b = some o := fun b o nb e => by
        have e6 := oH6 b o nb e
        have e11 := o11 b o nb (o10 b o nb (o9 b o nb (s7 _ _ (s6 _ _ e6))))
        have e13 := o13 b o nb (s12 _ _ e11)
        exact ⟨ne_of_none e11 nA8, ne_of_none e13 nA9, ne_of_none (oH15 b o nb e) nFD, s16 _ _ (oH15 b o nb e)⟩
      refine for_itemsT (fun i σ Hi => ∃ (y3 y4 : Option V) (kS kN : List (List L2.Key × V)), σ = [some (.ref p), some (.ref t), some (.ref D), y3, y4, none] ∧ (∀ b o, b ≠ A8 → b ≠ A9 → b ≠ FD → H16 b = some o → Hi b = some o) ∧ Hi FD = some (.frz od2 (.dT kvs)) ∧ Hi A8 = some (.dT kS) ∧ Hi A9 = some (.dT kN) ∧ kS.length ≤ i ∧ kN.length ≤ i) ⟨_, _, [], [], rfl, fun b o _ _ nb e => by rw [upd_ne nb]; exact e, upd_same, by rw [upd_ne A8F]; exact hA16, by rw [upd_ne A9F]; exact hB16, Nat.zero_le _, Nat.zero_le _⟩ (fun i σ Hi _ hP => by obtain ⟨_, _, _, _, _, _, h, _⟩ := hP; exact h) (fun i kk vv σ Hi TT qq hx hP nT hq => ?_) (fun σ Hi hP => ?_)
      · obtain ⟨y3, y4, kS, kN, rfl, oi, hFi, hAi, hBi, hl1, hl2⟩ := hP
        obtain rfl : vv = .int 0 := hz0 _ (List.mem_of_getElem? hx)
        have hi : i < kvs.length := (List.getElem?_eq_some_iff.mp hx).1
        have sT := same_new (o := .tup [.ref qq, .int 0]) nT
        have hT := upd_same (H := Hi) (a := TT) (o := .tup [.ref qq, .int 0])
        generalize upd Hi TT (.tup [.ref qq, .int 0]) = Hj at sT hT
        refine ⟨TT, _, rfl, SqT.of hT, rfl, _, _, rfl, _, _, rfl, rfl, ?_⟩
        refine ⟨.int 0, rfl, 0, rfl, RgOk.of_le (by decide) (by decide) (by decide) (by decide), fun tr ntr => ⟨.int 0, rfl, by show 2 ≤ sizeLine; decide, fun tt ntt => ?_⟩⟩
        have s20 := same_new (o := .tup (rgV 0 0)) ntr
        generalize upd Hj tr (.tup (rgV 0 0)) = Hk at s20 ntt
        have s21 := same_new (o := .tup [.ref tr, .int 0]) ntt
        have htt := upd_same (H := Hk) (a := tt) (o := .tup [.ref tr, .int 0])
        generalize upd Hk tt (.tup [.ref tr, .int 0]) = Hm at s21 htt
        have sim := (sT.trans s20).trans s21
        have hpm := sim _ _ (oi _ _ A8p.symm A9p.symm pF h16)
        have hAm := sim _ _ hAi
        have hBm := sim _ _ hBi
        have hqm : Hm qq = some (.tup (kk.map kV)) := sim _ _ hq
        have q8 : qq ≠ A8 := fun z => by rw [z, hAm] at hqm; cases hqm
        have sz1 : kS.length < sizeLine := Nat.lt_of_le_of_lt hl1 (Nat.lt_of_lt_of_le (by omega : _ < 20000) (by decide))
        have sz2 : kN.length < sizeLine := Nat.lt_of_le_of_lt hl2 (Nat.lt_of_lt_of_le (by omega : _ < 20000) (by decide))
        refine ⟨tt, _, rfl, SqT.of htt, rfl, _, _, rfl, ?_⟩
        refine ⟨.ref p, rfl, _, _, _, _, _, rfl, hpm, k.Project.cl, k.Project.nf.get ix_Project_own_serials, lkZ ix_Project_own_serials rfl, .ref qq, rfl, A8, _, rfl, DPut.t hAm hqm sz1, ?_⟩
        have hp2 : upd Hm A8 (.dT (putK kS kk (.ref tr))) p = _ := (upd_ne A8p.symm).trans hpm
        have hq2 : upd Hm A8 (.dT (putK kS kk (.ref tr))) qq = _ := (upd_ne q8).trans hqm
        have hB2 : upd Hm A8 (.dT (putK kS kk (.ref tr))) A9 = _ := (upd_ne A89.symm).trans hBm
        refine ⟨_, _, rfl, .ref p, rfl, _, _, _, _, _, rfl, hp2, k.Project.cl, k.Project.nf.get ix_Project_own_nexts, lkZ ix_Project_own_nexts rfl, .ref qq, rfl, A9, _, rfl, DPut.t hB2 hq2 sz2, rfl, ?_⟩
        refine ⟨_, _, putK kS kk (.ref tr), putK kN kk (.int 0), rfl, fun b o n8 n9 nF e => ?_, ?_, ?_, upd_same, ?_, ?_⟩
        · rw [upd_ne n9, upd_ne n8]
          exact sim _ _ (oi b o n8 n9 nF e)
        · rw [upd_ne A9F.symm, upd_ne A8F.symm]
          exact sim _ _ hFi
        · rw [upd_ne A89, upd_same]
        · have := putK_len kS kk (.ref tr)
          omega
        · have := putK_len kN kk (.int 0)
          omega
      · obtain ⟨y3, y4, kS, kN, rfl, oi, hFi, hAi, hBi, hl1, hl2⟩ := hP
        refine ⟨FD, od2, _, hFi, nf, ?_⟩
        refine q hz _ _ tF (refs ys) _ (fun b o nb e => ?_) ((upd_ne pF).trans (oi _ _ A8p.symm A9p.symm pF h16)) (.inl (.inr ⟨oF, (upd_ne tFF).trans (oi _ _ t8 t9 tFF (s16 _ _ ht15))⟩)) ?_
        · obtain ⟨n8, n9, nF, e16⟩ := o816 b o nb e
          rw [upd_ne nF]
          exact oi b o n8 n9 nF e16
        · unfold refs
          rw [List.length_map, ly, hl]
end
end M05

set_option Elab.async false
set_option linter.all false
set_option maxRecDepth 100000
set_option maxHeartbeats 4000000
/-! drawn pages can be read -/
namespace M05
open PySem PySem.Spec PyProof.Rows L2 GL
abbrev wImp : Cd := [105, 109, 112, 111, 114, 116]
abbrev wTem : Cd := [116, 101, 109, 112, 108, 97, 116, 101]
abbrev wLis : Cd := [108, 105, 115, 116]
abbrev wNum : Cd := [110, 117, 109, 98, 101, 114]
abbrev bTem : Cd := [123, 32, 110, 58, 32, 49, 32, 125]
abbrev bLis : Cd := [40, 110, 58, 32, 110, 117, 109, 98, 101, 114, 41, 32, 91, 32, 93]
theorem e_imp : cs "\x69mport" = wImp := by decide +kernel
theorem e_tem : cs "template" = wTem := by decide +kernel
theorem e_lis : cs "list" = wLis := by decide +kernel
theorem e_bTem : cs "{ n: 1 }" = bTem := by decide +kernel
theorem e_bLis : cs "(n: number) [ ]" = bLis := by decide +kernel
def impT : List Str → Cd
  | [] => []
  | o :: r => wImp ++ 32 :: (cs o ++ 32 :: impT r)
def impP (n : Nat) : List Str → List (Nat × Cd)
  | [] => []
  | o :: r => (n, wImp) :: (n + 7, cs o) :: impP (n + 7 + (cs o).length + 1) r
def impL (n : Nat) : List Str → List (Str × Nat)
  | [] => []
  | o :: r => (o, n + 7) :: impL (n + 7 + (cs o).length + 1) r
def ownT : List (Bool × Str) → Cd
  | [] => []
  | (false, w) :: r => wTem ++ 32 :: (cs w ++ 32 :: (bTem ++ 32 :: ownT r))
  | (true, w) :: r => wLis ++ 32 :: (cs w ++ 32 :: (bLis ++ 32 :: ownT r))
def ownP (n : Nat) : List (Bool × Str) → List (Nat × Cd)
  | [] => []
  | (false, w) :: r => (n, wTem) :: (n + 9, cs w) :: (n + 9 + (cs w).length + 1, [123]) :: (n + 9 + (cs w).length + 3, [110]) :: (n + 9 + (cs w).length + 4, [58]) :: (n + 9 + (cs w).length + 6, [49]) :: (n + 9 + (cs w).length + 8, [125]) :: ownP (n + 9 + (cs w).length + 10) r
  | (true, w) :: r => (n, wLis) :: (n + 5, cs w) :: (n + 5 + (cs w).length + 1, [40]) :: (n + 5 + (cs w).length + 2, [110]) :: (n + 5 + (cs w).length + 3, [58]) :: (n + 5 + (cs w).length + 5, wNum) :: (n + 5 + (cs w).length + 11, [41]) :: (n + 5 + (cs w).length + 13, [91]) :: (n + 5 + (cs w).length + 15, [93]) :: ownP (n + 5 + (cs w).length + 17) r
def ownL (n : Nat) : List (Bool × Str) → List (Bool × Str × Nat)
  | [] => []
  | (false, w) :: r => (false, w, n + 9) :: ownL (n + 9 + (cs w).length + 10) r
  | (true, w) :: r => (true, w, n + 5) :: ownL (n + 5 + (cs w).length + 17) r
/-- a name that can be drawn -/
def nmB (o : Str) : Bool := isName o && !(cs o).isEmpty && (cs o).all (fun c => decide (97 ≤ c) && decide (c ≤ 122)) && decide ((cs o).length ≤ 12) && !decide (o = "")
structure NmOk (o : Str) : Prop where
  nm : isName o = true
  ne : cs o ≠ []
  lt : ∀ c ∈ cs o, c ∈ lets
  ln : (cs o).length ≤ 12
  n0 : o ≠ ""
theorem NmOk.of {o : Str} (h : nmB o = true) : NmOk o := by
  unfold nmB at h
  simp only [Bool.and_eq_true, Bool.not_eq_true', List.isEmpty_eq_false_iff, List.all_eq_true, decide_eq_true_eq, decide_eq_false_iff_not] at h
  obtain ⟨⟨⟨⟨h1, h2⟩, h3⟩, h4⟩, h5⟩ := h
  exact ⟨h1, h2, fun c hc => mem_lets.mpr (h3 c hc), h4, h5⟩
theorem prt {t r : Cd} : Parts t (32 :: r) := fun c d hc hd => by
  obtain rfl : 32 = c := by simpa using hc
  exact ⟨fun _ => by rw [mem_lets]; omega, fun _ => by rw [mem_digs]; omega⟩
theorem prtS {t r : Cd} {e : Nat} (h : e ∈ sgns) : Parts t (e :: r) := fun c d hc hd => by
  obtain rfl : e = c := by simpa using hc
  rw [mem_sgns] at h
  exact ⟨fun _ => by rw [mem_lets]; omega, fun _ => by rw [mem_digs]; omega⟩
theorem sgp {t r : Cd} {d : Nat} (ht : t = [d]) (h : d ∈ sgns) : Parts t r := fun c e hc he => by
  subst ht
  obtain rfl : d = e := by simpa using he
  rw [mem_sgns] at h
  exact ⟨fun z => by rw [mem_lets] at z; omega, fun z => by rw [mem_digs] at z; omega⟩
theorem sgn_ (d : Nat) (h : d = 123 ∨ d = 125 ∨ d = 91 ∨ d = 93 ∨ d = 40 ∨ d = 41 ∨ d = 58) : d ∈ sgns := mem_sgns.mpr (by omega)
theorem tokW {t : Cd} (h : t ≠ []) (l : ∀ c ∈ t, 97 ≤ c ∧ c ≤ 122) : Tok t := .word h fun c hc => mem_lets.mpr (l c hc)
theorem NmOk.tok {o : Str} (h : NmOk o) : Tok (cs o) := .word h.ne h.lt
theorem lx_imp {R : Cd} {ps : List (Nat × Cd)} : ∀ {l : List Str} {n : Nat}, (∀ o ∈ l, NmOk o) → Lx (n + (impT l).length) R ps → Lx n (impT l ++ R) (impP n l ++ ps)
  | [], n, _, h => h
  | o :: r, n, hn, h => by
    have ho := hn o (List.mem_cons_self ..)
    have e : impT (o :: r) ++ R = wImp ++ (32 :: (cs o ++ (32 :: (impT r ++ R)))) := by
      show (wImp ++ 32 :: (cs o ++ 32 :: impT r)) ++ R = _
      simp [List.append_assoc]
    have el : n + (impT (o :: r)).length = n + 7 + (cs o).length + 1 + (impT r).length := by
      show n + (wImp ++ 32 :: (cs o ++ 32 :: impT r)).length = _
      simp only [List.length_append, List.length_cons, List.length_nil]
      omega
    rw [el] at h
    have h2 := lx_imp (n := n + 7 + (cs o).length + 1) (fun z hz => hn z (List.mem_cons_of_mem _ hz)) h
    rw [e]
    show Lx n _ ((n, wImp) :: (n + 7, cs o) :: (impP (n + 7 + (cs o).length + 1) r ++ ps))
    exact .tok (tokW (by simp) (by simp)) prt (.gap (.inl rfl) (.tok ho.tok prt (.gap (.inl rfl) h2)))
theorem lx_own : ∀ {l : List (Bool × Str)} {n : Nat}, (∀ q ∈ l, NmOk q.2) → Lx n (ownT l) (ownP n l)
  | [], n, _ => .nil
  | (false, w) :: r, n, hn => by
    have hw : NmOk w := hn _ (List.mem_cons_self ..)
    have h2 := lx_own (l := r) (n := n + 9 + (cs w).length + 10) (fun z hz => hn z (List.mem_cons_of_mem _ hz))
    have e : ownT ((false, w) :: r) = wTem ++ (32 :: (cs w ++ (32 :: ([123] ++ (32 :: ([110] ++ ([58] ++ (32 :: ([49] ++ (32 :: ([125] ++ (32 :: ownT r)))))))))))) := rfl
    rw [e]
    exact .tok (tokW (by simp) (by simp)) prt (.gap (.inl rfl) (.tok hw.tok prt (.gap (.inl rfl) (.tok (.sign (sgn_ _ (by omega))) prt (.gap (.inl rfl) (.tok (tokW (by simp) (by simp)) (prtS (sgn_ _ (by omega))) (.tok (.sign (sgn_ _ (by omega))) prt (.gap (.inl rfl) (.tok (.num (by simp) (fun c hc => mem_digs.mpr (by simp at hc; omega)) (fun _ => rfl)) prt (.gap (.inl rfl) (.tok (.sign (sgn_ _ (by omega))) prt (.gap (.inl rfl) h2))))))))))))
  | (true, w) :: r, n, hn => by
    have hw : NmOk w := hn _ (List.mem_cons_self ..)
    have h2 := lx_own (l := r) (n := n + 5 + (cs w).length + 17) (fun z hz => hn z (List.mem_cons_of_mem _ hz))
    have e : ownT ((true, w) :: r) = wLis ++ (32 :: (cs w ++ (32 :: ([40] ++ ([110] ++ ([58] ++ (32 :: (wNum ++ ([41] ++ (32 :: ([91] ++ (32 :: ([93] ++ (32 :: ownT r)))))))))))))) := rfl
    rw [e]
    exact .tok (tokW (by simp) (by simp)) prt (.gap (.inl rfl) (.tok hw.tok prt (.gap (.inl rfl) (.tok (.sign (sgn_ _ (by omega))) (sgp rfl (sgn_ _ (by omega))) (.tok (tokW (by simp) (by simp)) (prtS (sgn_ _ (by omega))) (.tok (.sign (sgn_ _ (by omega))) prt (.gap (.inl rfl) (.tok (tokW (by simp) (by simp)) (prtS (sgn_ _ (by omega))) (.tok (.sign (sgn_ _ (by omega))) prt (.gap (.inl rfl) (.tok (.sign (sgn_ _ (by omega))) prt (.gap (.inl rfl) (.tok (.sign (sgn_ _ (by omega))) prt (.gap (.inl rfl) h2))))))))))))))
/-! ### the file from its tokens -/
theorem tk_drop (ps : List (Nat × Cd)) (i j : Nat) : tk ps (i + j) = tk (ps.drop i) j := by
  unfold tk
  rw [List.getElem?_drop]
theorem pos_drop {T : Cd} {ps : List (Nat × Cd)} {i j : Nat} {n : Nat} {t : Cd} (h : (ps.drop i)[j]? = some (n, t)) : pos T ps (i + j) = n := by
  unfold pos
  rw [← List.getElem?_drop, h]
  rfl
theorem lt_drop {ps : List (Nat × Cd)} {i j : Nat} {x : Nat × Cd} (h : (ps.drop i)[j]? = some x) : i + j < ps.length := by
  rw [List.getElem?_drop] at h
  exact (List.getElem?_eq_some_iff.mp h).1
theorem num1 : PySem.intText? (S [49]) = some 1 := by decide +kernel
theorem isn : isName (S [110]) = true := by decide +kernel
theorem own_at {T : Cd} {ps : List (Nat × Cd)} : ∀ {l : List (Bool × Str)} {n i : Nat}, (∀ q ∈ l, NmOk q.2) → ps.drop i = ownP n l → OwnAt T ps i (ownL n l)
  | [], n, i, _, h => .nil (List.drop_eq_nil_iff.mp h)
  | (false, w) :: r, n, i, hn, h => by
    have hw : NmOk w := hn _ (List.mem_cons_self ..)
    have g : ∀ j, tk ps (i + j) = tk (ownP n ((false, w) :: r)) j := fun j => by rw [tk_drop, h]
    have p1 : pos T ps (i + 1) = n + 9 := pos_drop (t := cs w) (by rw [h]; rfl)
    have hd : ps.drop (i + 7) = ownP (n + 9 + (cs w).length + 10) r := by
      rw [← List.drop_drop, h]
      rfl
    have nx := own_at (T := T) (fun z hz => hn z (List.mem_cons_of_mem _ hz)) hd
    have e1 : tk ps (i + 1) = cs w := g 1
    have lt : i + 6 < ps.length := lt_drop (x := (n + 9 + (cs w).length + 8, [125])) (by rw [h]; rfl)
    have tm : TemAt ps i := by
      refine ⟨by rw [show tk ps i = wTem from g 0]; decide +kernel, by rw [e1, S_cs]; exact hw.nm, by rw [e1]; have := hw.ln; omega, ⟨?_, ?_, ?_, ?_, ?_, ⟨⟨49, ?_, ?_⟩, ?_, ?_, ?_, ?_, ?_⟩, ?_, lt⟩, ?_⟩
      · rw [show tk ps (i + 2) = [123] from g 2]; decide +kernel
      · rw [show tk ps (i + 2 + 1) = [110] from g 3]; decide +kernel
      · rw [show tk ps (i + 2 + 1) = [110] from g 3]; decide +kernel
      · rw [show tk ps (i + 2 + 1) = [110] from g 3]; decide
      · rw [show tk ps (i + 2 + 2) = [58] from g 4]; decide +kernel
      · rw [show tk ps (i + 2 + 3) = [49] from g 5]; rfl
      · exact mem_digs.mpr (by omega)
      · rw [show tk ps (i + 2 + 3) = [49] from g 5]; exact num1
      · rw [show tk ps (i + 2 + 3) = [49] from g 5]; decide
      · rw [show tk ps (i + 2 + 3 + 1) = [125] from g 6]; decide +kernel
      · rw [show tk ps (i + 2 + 3 + 1) = [125] from g 6]; decide +kernel
      · rw [show tk ps (i + 2 + 3 + 1) = [125] from g 6]; decide +kernel
      · rw [show tk ps (i + 2 + 4) = [125] from g 6]; decide +kernel
      · rw [show tk ps (i + 3) = [110] from g 3]; decide +kernel
    have := OwnAt.tem (T := T) tm nx
    rw [e1, p1, S_cs] at this
    exact this
  | (true, w) :: r, n, i, hn, h => by
    have hw : NmOk w := hn _ (List.mem_cons_self ..)
    have g : ∀ j, tk ps (i + j) = tk (ownP n ((true, w) :: r)) j := fun j => by rw [tk_drop, h]
    have p1 : pos T ps (i + 1) = n + 5 := pos_drop (t := cs w) (by rw [h]; rfl)
    have hd : ps.drop (i + 9) = ownP (n + 5 + (cs w).length + 17) r := by
      rw [← List.drop_drop, h]
      rfl
    have nx := own_at (T := T) (fun z hz => hn z (List.mem_cons_of_mem _ hz)) hd
    have e1 : tk ps (i + 1) = cs w := g 1
    have lt : i + 8 < ps.length := lt_drop (x := (n + 5 + (cs w).length + 15, [93])) (by rw [h]; rfl)
    have tm : LstAt ps i := by
      refine ⟨by rw [show tk ps i = wLis from g 0]; decide +kernel, by rw [e1, S_cs]; exact hw.nm, by rw [e1]; have := hw.ln; omega, ?_, ⟨?_, ?_, ?_, ?_, by omega⟩, ?_, ?_, ?_, ?_, lt⟩
      · rw [show tk ps (i + 2) = [40] from g 2]; decide +kernel
      · rw [show tk ps (i + 3) = [110] from g 3]; decide +kernel
      · rw [show tk ps (i + 3) = [110] from g 3]; decide
      · rw [show tk ps (i + 3 + 1) = [58] from g 4]; decide +kernel
      · rw [show tk ps (i + 3 + 2) = wNum from g 5]; decide +kernel
      · rw [show tk ps (i + 3) = [110] from g 3]; decide +kernel
      · rw [show tk ps (i + 6) = [41] from g 6]; decide +kernel
      · rw [show tk ps (i + 7) = [91] from g 7]; decide +kernel
      · rw [show tk ps (i + 8) = [93] from g 8]; decide +kernel
    have := OwnAt.lst (T := T) tm nx
    rw [e1, p1, S_cs] at this
    exact this
theorem fil_at {T : Cd} {ps : List (Nat × Cd)} {m : Nat} {os : List (Bool × Str)} (ho : ∀ q ∈ os, NmOk q.2) : ∀ {l : List Str} {n i : Nat}, (∀ o ∈ l, NmOk o) → ps.drop i = impP n l ++ ownP m os → FilAt T ps i (impL n l) (ownL m os)
  | [], n, i, _, h => .own (own_at ho h)
  | o :: r, n, i, hn, h => by
    have hw : NmOk o := hn _ (List.mem_cons_self ..)
    have g : ∀ j, tk ps (i + j) = tk (impP n (o :: r) ++ ownP m os) j := fun j => by rw [tk_drop, h]
    have p1 : pos T ps (i + 1) = n + 7 := pos_drop (t := cs o) (by rw [h]; rfl)
    have hd : ps.drop (i + 2) = impP (n + 7 + (cs o).length + 1) r ++ ownP m os := by
      rw [← List.drop_drop, h]
      rfl
    have e1 : tk ps (i + 1) = cs o := g 1
    have := FilAt.imp (T := T) (by rw [show tk ps i = wImp from g 0]; decide +kernel) (by rw [e1, S_cs]; exact hw.nm) (by rw [e1]; have := hw.ln; omega) (lt_drop (x := (n + 7, cs o)) (by rw [h]; rfl)) (fil_at ho (fun z hz => hn z (List.mem_cons_of_mem _ hz)) hd)
    rw [e1, p1, S_cs] at this
    exact this
/-! ### drawn files -/
theorem impT_snoc (o : Str) : ∀ l : List Str, impT (l ++ [o]) = impT l ++ cs "\x69mport" ++ [32] ++ cs o ++ [32]
  | [] => by
    rw [e_imp]
    show wImp ++ 32 :: (cs o ++ 32 :: []) = _
    simp [impT]
  | a :: l => by
    show wImp ++ 32 :: (cs a ++ 32 :: impT (l ++ [o])) = (wImp ++ 32 :: (cs a ++ 32 :: impT l)) ++ _ ++ _ ++ _ ++ _
    rw [impT_snoc o l]
    simp [List.append_assoc]
theorem impL_snoc (o : Str) : ∀ (l : List Str) (n : Nat), impL n (l ++ [o]) = impL n l ++ [(o, n + (impT l).length + 7)]
  | [], n => rfl
  | a :: l, n => by
    show (a, n + 7) :: impL _ (l ++ [o]) = (a, n + 7) :: impL _ l ++ _
    rw [impL_snoc o l]
    have : n + 7 + (cs a).length + 1 + (impT l).length + 7 = n + (impT (a :: l)).length + 7 := by
      show _ = n + (wImp ++ 32 :: (cs a ++ 32 :: impT l)).length + 7
      simp only [List.length_append, List.length_cons, List.length_nil]
      omega
    rw [this]
    rfl
def kwT : Bool → Str
  | false => "template"
  | true => "list"
def bdT : Bool → Str
  | false => "{ n: 1 }"
  | true => "(n: number) [ ]"
theorem ownT_snoc (b : Bool) (w : Str) : ∀ l : List (Bool × Str), ownT (l ++ [(b, w)]) = ownT l ++ cs (kwT b) ++ [32] ++ cs w ++ [32] ++ cs (bdT b) ++ [32]
  | [] => by
    cases b with
    | false =>
      show wTem ++ 32 :: (cs w ++ 32 :: (bTem ++ 32 :: [])) = [] ++ cs "template" ++ [32] ++ cs w ++ [32] ++ cs "{ n: 1 }" ++ [32]
      rw [e_tem, e_bTem]
      simp [List.append_assoc]
    | true =>
      show wLis ++ 32 :: (cs w ++ 32 :: (bLis ++ 32 :: [])) = [] ++ cs "list" ++ [32] ++ cs w ++ [32] ++ cs "(n: number) [ ]" ++ [32]
      rw [e_lis, e_bLis]
      simp [List.append_assoc]
  | (false, a) :: l => by
    show wTem ++ 32 :: (cs a ++ 32 :: (bTem ++ 32 :: ownT (l ++ [(b, w)]))) = (wTem ++ 32 :: (cs a ++ 32 :: (bTem ++ 32 :: ownT l))) ++ _ ++ _ ++ _ ++ _ ++ _ ++ _
    rw [ownT_snoc b w l]
    simp [List.append_assoc]
  | (true, a) :: l => by
    show wLis ++ 32 :: (cs a ++ 32 :: (bLis ++ 32 :: ownT (l ++ [(b, w)]))) = (wLis ++ 32 :: (cs a ++ 32 :: (bLis ++ 32 :: ownT l))) ++ _ ++ _ ++ _ ++ _ ++ _ ++ _
    rw [ownT_snoc b w l]
    simp [List.append_assoc]
theorem ownL_snoc (b : Bool) (w : Str) : ∀ (l : List (Bool × Str)) (n : Nat), ownL n (l ++ [(b, w)]) = ownL n l ++ [(b, w, n + (ownT l).length + (cs (kwT b)).length + 1)]
  | [], n => by
    cases b with
    | false =>
      have : n + (ownT []).length + (cs (kwT false)).length + 1 = n + 9 := by
        show n + 0 + (cs "template").length + 1 = _
        rw [e_tem]
        rfl
      rw [this]
      rfl
    | true =>
      have : n + (ownT []).length + (cs (kwT true)).length + 1 = n + 5 := by
        show n + 0 + (cs "list").length + 1 = _
        rw [e_lis]
        rfl
      rw [this]
      rfl
  | (false, a) :: l, n => by
    show (false, a, n + 9) :: ownL _ (l ++ [(b, w)]) = (false, a, n + 9) :: ownL _ l ++ _
    rw [ownL_snoc b w l]
    have : n + (ownT ((false, a) :: l)).length = n + 9 + (cs a).length + 10 + (ownT l).length := by
      show n + (wTem ++ 32 :: (cs a ++ 32 :: (bTem ++ 32 :: ownT l))).length = _
      simp only [List.length_append, List.length_cons, List.length_nil]
      omega
    rw [this]
    rfl
  | (true, a) :: l, n => by
    show (true, a, n + 5) :: ownL _ (l ++ [(b, w)]) = (true, a, n + 5) :: ownL _ l ++ _
    rw [ownL_snoc b w l]
    have : n + (ownT ((true, a) :: l)).length = n + 5 + (cs a).length + 17 + (ownT l).length := by
      show n + (wLis ++ 32 :: (cs a ++ 32 :: (bLis ++ 32 :: ownT l))).length = _
      simp only [List.length_append, List.length_cons, List.length_nil]
      omega
    rw [this]
    rfl
theorem ownL_len : ∀ (l : List (Bool × Str)) (n : Nat), (ownL n l).length = l.length
  | [], _ => rfl
  | (false, _) :: l, n => congrArg (· + 1) (ownL_len l _)
  | (true, _) :: l, n => congrArg (· + 1) (ownL_len l _)
theorem impL_len : ∀ (l : List Str) (n : Nat), (impL n l).length = l.length
  | [], _ => rfl
  | _ :: l, n => congrArg (· + 1) (impL_len l _)
theorem ownL_mem : ∀ {l : List (Bool × Str)} {n : Nat} {q : Bool × Str × Nat}, q ∈ ownL n l → n ≤ q.2.2 ∧ (q.1, q.2.1) ∈ l
  | (false, w) :: l, n, q, h => by
    rcases List.mem_cons.mp h with rfl | h
    · exact ⟨Nat.le_add_right _ _, List.mem_cons_self ..⟩
    · have := ownL_mem h
      exact ⟨by omega, List.mem_cons_of_mem _ this.2⟩
  | (true, w) :: l, n, q, h => by
    rcases List.mem_cons.mp h with rfl | h
    · exact ⟨Nat.le_add_right _ _, List.mem_cons_self ..⟩
    · have := ownL_mem h
      exact ⟨by omega, List.mem_cons_of_mem _ this.2⟩
theorem ownL_asc : ∀ (l : List (Bool × Str)) (n : Nat), ((ownL n l).map (·.2)).Pairwise fun a b => a.2 < b.2
  | [], _ => .nil
  | (false, w) :: l, n => by
    refine .cons (fun b hb => ?_) (ownL_asc l _)
    obtain ⟨q, hq, rfl⟩ := List.mem_map.mp hb
    have := (ownL_mem hq).1
    show n + 9 < q.2.2
    omega
  | (true, w) :: l, n => by
    refine .cons (fun b hb => ?_) (ownL_asc l _)
    obtain ⟨q, hq, rfl⟩ := List.mem_map.mp hb
    have := (ownL_mem hq).1
    show n + 5 < q.2.2
    omega
/-- what a page begins with -/
def PreOk (z : Cd) : Prop := z = [] ∨ z = [35, 32, 120, 10] ∨ z = [10]
def pageT (z : Cd) (is : List Str) (os : List (Bool × Str)) : Cd := z ++ impT is ++ ownT os
def fdOf (nm : Str) (z : Cd) (is : List Str) (os : List (Bool × Str)) : Fd := ⟨nm, pageT z is os, impL z.length is, ownL (z ++ impT is).length os⟩
theorem lx_pre {z R : Cd} {ps : List (Nat × Cd)} (h : PreOk z) (l : Lx z.length R ps) : Lx 0 (z ++ R) ps := by
  rcases h with rfl | rfl | rfl
  · exact l
  · exact Lx.rem (b := [32, 120]) (r := 10 :: R) (by simp) (.inr rfl) (.gap (.inr rfl) l)
  · exact .gap (.inr rfl) l
theorem fdOf_rd {nm : Str} {z : Cd} {is : List Str} {os : List (Bool × Str)} (hz : PreOk z) (hi : ∀ o ∈ is, NmOk o) (ho : ∀ q ∈ os, NmOk q.2) (li : is.length ≤ 100) (lo : os.length ≤ 100) (lt : (pageT z is os).length ≤ 100000) : (fdOf nm z is os).rd := by
  refine ⟨⟨ownL_asc _ _, by show (ownL _ _).length ≤ _; rw [ownL_len]; exact lo, by show (impL _ _).length ≤ _; rw [impL_len]; exact li⟩, fun q hq => (ho _ (ownL_mem hq).2).n0, impP z.length is ++ ownP (z ++ impT is).length os, ⟨lt, ?_⟩, fil_at ho hi rfl⟩
  show Lx 0 (z ++ impT is ++ ownT os) _
  rw [List.append_assoc]
  refine lx_pre hz (lx_imp hi ?_)
  rw [← List.length_append]
  exact lx_own ho
/-- signs that may stand in a file -/
def gdC (c : Nat) : Prop := c = 10 ∨ (32 ≤ c ∧ c ≤ 126 ∧ c ≠ 92)
theorem gd_nm {o : Str} (h : NmOk o) : ∀ c ∈ cs o, gdC c := fun c hc => .inr (by have := mem_lets.mp (h.lt c hc); omega)
theorem gd_w {l : Cd} (h : l.all (fun c => decide (c = 10) || (decide (32 ≤ c) && decide (c ≤ 126) && !decide (c = 92))) = true) : ∀ c ∈ l, gdC c := fun c hc => by
  have := List.all_eq_true.mp h c hc
  simp only [Bool.or_eq_true, Bool.and_eq_true, decide_eq_true_eq, Bool.not_eq_true', decide_eq_false_iff_not] at this
  unfold gdC
  omega
theorem gd_app {a b : Cd} (h1 : ∀ c ∈ a, gdC c) (h2 : ∀ c ∈ b, gdC c) : ∀ c ∈ a ++ b, gdC c := fun c hc => (List.mem_append.mp hc).elim (h1 c) (h2 c)
end M05

set_option Elab.async false
set_option linter.all false
set_option maxRecDepth 100000
set_option maxHeartbeats 4000000
/-! the law: _law_of, _law_put -/
namespace M05
open PySem PySem.Spec PyProof.Rows L2 GL
theorem scl1 : FnScope ["_law_state", "_law_part", "_law_at"] ["_law_state", "_law_part"] (defScope s_law_put) := ⟨rfl, rfl, rfl, by decide +kernel, rfl, by decide +kernel, by decide +kernel⟩
section
variable {P : Program} {w : World} {K : PySem.W.Frag} {mg : Str → Option Value} {base : Heap}
theorem ok_of2 {f : Addr} {fd : FuncData} {k : Nat} (F : Fun K "_law_of" "_law_of" sOf f fd) (T : Bl K mg) (d_take : DnO P w K mg base "_law_take" 1 ["_law_box_here", "_law_many"] spTake) : FnOk P w K mg base CX0 (k + 2) f fd ["_law_box_here", "_law_some"] spOf := by
  refine F.ok scO (fun vs H Q E h => ?_) (fun cdv A outer s H vs Q E hr h => ?_)
  · obtain ⟨b, l, xs, n, rfl, _⟩ := h
    rfl
  · obtain ⟨b, l, xs, n, rfl, hl, ne, hB, hn, h0, h1, q⟩ := h
    refine ⟨_, (pss_one (ps_ret (pe_ix ix_list (pv 1) (pe_call d_take.ok (hr.mono (Nat.le_add_left 1 k)) (by rfl) d_take.g d_take.kp d_take.b .nil pass0 (pa_cons (pv 0) (pa_cons (pe_callB call_len_seq (by rfl) T.len (by decide +kernel) (pa_cons (pv 1) pa_nil)) pa_nil))) (fun _ _ => rfl)))), ?_⟩
    refine ⟨.ref l, rfl, .ref b, rfl, .ref l, rfl, l, xs, rfl, .inl (SqL.of hl), b, xs.length, n, rfl, hB, hn, by omega, by omega, fun r u r0 r1 hB2 => ?_⟩
    obtain ⟨j, rfl⟩ : ∃ j : Nat, r = j := ⟨r.toNat, by omega⟩
    have hj : j < xs.length := by omega
    exact ⟨l, xs, j, xs[j], rfl, rfl, SqL.of (by rw [upd_ne ne]; exact hl), atI_nat (List.getElem?_eq_getElem hj), q _ u (List.getElem_mem hj) hB2⟩
/-- the page so far -/
abbrev PgA (H : Hp) (D : Addr) (A : Cd) : Prop := H D = some (.dK [(.inr "page", .str (S A))])
def spPut : Sp := fun vs H Q _ => ∃ (D : Addr) (A : Cd) (x : Str), vs = [.ref D, .str x] ∧ PgA H D A ∧ A.length ≤ 90000 ∧ (cs x).length ≤ 1000 ∧ ∀ H', Off D H H' → PgA H' D (A ++ cs x ++ [32]) → Q (.int (A.length : Nat)) H'
theorem ok_put {f : Addr} {fd : FuncData} (F : Fun K "_law_put" "_law_put" s_law_put f fd) (T : Bl K mg) : FnOk P w K mg base CX0 1 f fd ["_law_state", "_law_part"] spPut := by
  refine F.ok scl1 (fun vs H Q E h => ?_) (fun cdv A outer s H vs Q E hr h => ?_)
  · obtain ⟨_, _, _, rfl, _⟩ := h
    rfl
  · obtain ⟨D, A, x, rfl, hD, hl, hx, q⟩ := h
    refine ⟨_, (pss_cons (ps_set (i := 2) scl1.nd rfl (Or.inl rfl) (pe_callB call_len_str (by rfl) T.len (by decide +kernel) (pa_cons (pe_dget (u1 hr) (pv 0) pe_str (fun _ _ => rfl)) pa_nil)))
      (pss_cons (ps_dput (u1 hr) (pv 0) pe_str (pe_op op_add_str (pe_op op_add_str (pe_dget (u1 hr) (pv 0) pe_str (fun _ _ => rfl)) (pv 1)) pe_str) rfl)
      (pss_one (ps_ret (pv 2))))), ?_⟩
    have hg : DGet H D (.str "page") (some (.str (S A))) := by
      have z : valV [((Sum.inr "page" : L2.Key), V.str (S A))] (.inr "page") = some (.str (S A)) := valV_pos rfl
      rw [← z]
      exact DGet.k (k := Sum.inr "page") hD
    have lA : (S A).length = A.length := len_S A
    have lx : x.length = (cs x).length := len_cs x
    refine ⟨.ref D, rfl, D, .str (S A), rfl, hg, S A, rfl, big_le (by omega), ?_⟩
    refine ⟨.ref D, rfl, D, .str (S A), rfl, hg, .str x, rfl, S A, x, rfl, rfl, big_le (by omega), S A ++ x, " ", rfl, rfl, ?_, ?_⟩
    · show (S A ++ x).length + 1 ≤ sizeLine
      rw [len_cs, cs_app, cs_S, List.length_append]
      exact big_le (by omega)
    · refine ⟨.ref D, rfl, D, _, rfl, DPut.k (k := Sum.inr "page") hD (by show 1 < sizeLine; decide), .int A.length, ?_, q _ (fun c o nc e => by rw [upd_ne nc]; exact e) ?_⟩
      · show some (some (V.int ((S A).length : Nat))) = _
        rw [lA]
      · show upd H D _ D = _
        rw [upd_same]
        have e1 : putK [((Sum.inr "page" : L2.Key), V.str (S A))] (Sum.inr "page") (V.str (S A ++ x ++ " ")) = [((Sum.inr "page" : L2.Key), V.str (S A ++ x ++ " "))] := by
          unfold putK
          simp
        have e2 : S A ++ x ++ " " = S (A ++ cs x ++ [32]) := str_ext (by rw [cs_app, cs_app, cs_S, cs_S]; rfl)
        rw [e1, e2]
end
end M05

set_option Elab.async false
set_option linter.all false
set_option maxRecDepth 100000
set_option maxHeartbeats 8000000
/-! the law: _law_files -/
namespace M05
open PySem PySem.Spec PyProof.Rows L2 GL
theorem scl2 : FnScope ["_law_box_here", "_law_some", "_law_found", "_law_pages", "_law_name", "_law_state", "_law_ahead", "_law_own", "_law_turn", "_law_other", "_law_word", "_law_sort_of"] ["_law_box_here"] (defScope s_law_files) := ⟨rfl, rfl, rfl, by decide +kernel, rfl, by decide +kernel, by decide +kernel⟩
def names6 : List Str := ["a", "b", "c", "d", "main", "zz"]
theorem names6_ok : ∀ o ∈ names6, NmOk o := fun o ho => NmOk.of (List.all_eq_true.mp (by decide +kernel : names6.all nmB = true) o ho)
theorem nofile_ok : NmOk "nofile" := NmOk.of (by decide +kernel)
def words6 : List Str := ["t", "u", "v", "w", "x", "y"]
theorem word_ok {a b : Str} (ha : a ∈ words6) (hb : b = "" ∨ b ∈ names6) : NmOk (a ++ b) := by
  have h : (words6.all fun x => (("" : Str) :: names6).all fun y => nmB (x ++ y)) = true := by decide +kernel
  refine NmOk.of (List.all_eq_true.mp (List.all_eq_true.mp h a ha) b ?_)
  exact hb.elim (fun e => by rw [e]; exact List.mem_cons_self ..) fun e => List.mem_cons_of_mem _ e
/-- a file as it was drawn -/
def FndA (H : Hp) (t : Addr) (f : Fd) : Prop := ∃ (a o : Addr) (ta to : List Addr), H t = some (.tup [.str f.nm, .ref a, .ref o]) ∧ H a = some (.lst (refs ta)) ∧ Prq H ta f.ims ∧ H o = some (.lst (refs to)) ∧ Prq H to (f.own.map (·.2))
theorem FndA.same {H H' : Hp} {t : Addr} {f : Fd} (h : FndA H t f) (s : Same H H') : FndA H' t f := let ⟨a, o, ta, to, h1, h2, h3, h4, h5⟩ := h; ⟨a, o, ta, to, s _ _ h1, s _ _ h2, h3.same s, s _ _ h4, h5.same s⟩
/-- what HT knew not stays -/
def Kp (HT H H' : Hp) : Prop := ∀ c o, HT c = none → H c = some o → H' c = some o
theorem Kp.nw {HT H H' : Hp} (k : Kp HT H H') : Same (Nw HT H) (Nw HT H') := fun c o e => let ⟨e1, e2⟩ := Nw.of e; Nw.at e1 (k c o e1 e2)
structure Drw (f : Fd) : Prop where
  rd : f.rd
  sg : Sgn f.T
  nm : NmOk f.nm
  ia : (f.ims.map (·.2)).Pairwise (· < ·)
/-- the files drawn -/
structure Drwn (fs : List Fd) : Prop where
  lo : 1 ≤ fs.length
  hi : fs.length ≤ 6
  nm : fs.map Fd.nm = names6.take fs.length
  al : ∀ f ∈ fs, Drw f
/-- a turn: its box, its page, its imports, its own things -/
structure Tn (b D A1 A2 : Addr) (Hi HT H : Hp) (A : Cd) (l1 l2 : List (Str × Nat)) (n : Nat) : Prop where
  bx : Box H b n
  of : Off b Hi H
  pg : PgA H D A
  a1 : ∃ ta, H A1 = some (.lst (refs ta)) ∧ Prq (Nw HT H) ta l1
  a2 : ∃ to, H A2 = some (.lst (refs to)) ∧ Prq (Nw HT H) to l2
  dm : ∀ c, H c = none → HT c = none
/-- what stays in a turn -/
structure Tt (b D A1 A2 : Addr) (Hi HT : Hp) : Prop where
  nD : Hi D = none
  n1 : Hi A1 = none
  n2 : Hi A2 = none
  tD : HT D ≠ none
  t1 : HT A1 ≠ none
  t2 : HT A2 ≠ none
  tb : HT b ≠ none
  Db : D ≠ b
  b1 : A1 ≠ b
  b2 : A2 ≠ b
  D1 : D ≠ A1
  D2 : D ≠ A2
  d12 : A1 ≠ A2
theorem Box.same {H H' : Hp} {b : Addr} {n : Nat} (h : Box H b n) (s : Same H H') : Box H' b n := let ⟨o, m, c, h1, h2⟩ := h; ⟨o, m, c, s _ _ h1, h2⟩
theorem Box.has {H : Hp} {b : Addr} {n : Nat} (h : Box H b n) : H b ≠ none := let ⟨_, _, _, h1, _⟩ := h; fun z => by rw [z] at h1; cases h1
theorem Box.off {H H' : Hp} {a b : Addr} {n : Nat} (h : Box H b n) (ne : b ≠ a) (s : Off a H H') : Box H' b n := let ⟨o, m, c, h1, h2⟩ := h; ⟨o, m, c, s _ _ ne h1, h2⟩
section
variable {b D A1 A2 : Addr} {Hi HT H H' : Hp} {A : Cd} {l1 l2 : List (Str × Nat)} {n : Nat}
theorem Tn.same (h : Tn b D A1 A2 Hi HT H A l1 l2 n) (s : Same H H') : Tn b D A1 A2 Hi HT H' A l1 l2 n := by
  have k : Kp HT H H' := fun c o _ e => s _ _ e
  exact ⟨h.bx.same s, fun c o nc e => s _ _ (h.of c o nc e), s _ _ h.pg, let ⟨ta, e1, e2⟩ := h.a1; ⟨ta, s _ _ e1, e2.same k.nw⟩, let ⟨ta, e1, e2⟩ := h.a2; ⟨ta, s _ _ e1, e2.same k.nw⟩, fun c e => h.dm c (none_of_same s e)⟩
theorem Tn.box {u : HO} {m : Nat} (h : Tn b D A1 A2 Hi HT H A l1 l2 n) (t : Tt b D A1 A2 Hi HT) (hB : Box (upd H b u) b m) : Tn b D A1 A2 Hi HT (upd H b u) A l1 l2 m := by
  have k : Kp HT H (upd H b u) := fun c o z e => by rw [upd_ne (fun w => t.tb (by rw [← w]; exact z))]; exact e
  refine ⟨hB, fun c o nc e => by rw [upd_ne nc]; exact h.of c o nc e, by show upd H b u D = _; rw [upd_ne t.Db]; exact h.pg, let ⟨ta, e1, e2⟩ := h.a1; ⟨ta, by rw [upd_ne t.b1]; exact e1, e2.same k.nw⟩, let ⟨ta, e1, e2⟩ := h.a2; ⟨ta, by rw [upd_ne t.b2]; exact e1, e2.same k.nw⟩, fun c e => ?_⟩
  by_cases w : c = b
  · rw [w, upd_same] at e
    cases e
  · rw [upd_ne w] at e
    exact h.dm c e
theorem Tn.put {A' : Cd} (h : Tn b D A1 A2 Hi HT H A l1 l2 n) (t : Tt b D A1 A2 Hi HT) (o : Off D H H') (p : PgA H' D A') : Tn b D A1 A2 Hi HT H' A' l1 l2 n := by
  have k : Kp HT H H' := fun c x z e => o c x (fun w => t.tD (w ▸ z)) e
  refine ⟨h.bx.off t.Db.symm o, fun c x nc e => o c x (ne_of_none e t.nD) (h.of c x nc e), p, let ⟨ta, e1, e2⟩ := h.a1; ⟨ta, o _ _ t.D1.symm e1, e2.same k.nw⟩, let ⟨ta, e1, e2⟩ := h.a2; ⟨ta, o _ _ t.D2.symm e1, e2.same k.nw⟩, fun c e => ?_⟩
  cases z : H c with
  | none => exact h.dm c z
  | some y =>
    by_cases w : c = D
    · rw [w] at e
      exact absurd e (by rw [show H' D = _ from p]; exact fun z => by cases z)
    · rw [o c y w z] at e
      cases e
theorem Tn.app1 {tt : Addr} {x : Str} {m : Nat} {ta : List Addr} (h : Tn b D A1 A2 Hi HT H A l1 l2 n) (t : Tt b D A1 A2 Hi HT) (e1 : H A1 = some (.lst (refs ta))) (ht : H tt = some (.tup [.int (m : Nat), .str x])) (n0 : HT tt = none) (ep : Prq (Nw HT H) ta l1) :
    Tn b D A1 A2 Hi HT (upd H A1 (.lst (refs ta ++ [.ref tt]))) A (l1 ++ [(x, m)]) l2 n := by
  have k : Kp HT H (upd H A1 (.lst (refs ta ++ [.ref tt]))) := fun c o z e => by rw [upd_ne (fun w => t.t1 (by rw [← w]; exact z))]; exact e
  have ne : tt ≠ A1 := fun w => t.t1 (w ▸ n0)
  refine ⟨h.bx.off t.b1.symm (fun c o nc e => by rw [upd_ne nc]; exact e), fun c o nc e => by rw [upd_ne (ne_of_none e t.n1)]; exact h.of c o nc e, by show upd _ _ _ D = _; rw [upd_ne t.D1]; exact h.pg, ⟨ta ++ [tt], by rw [upd_same]; unfold refs; rw [List.map_append]; rfl, Each.snoc (Nw.at n0 (by rw [upd_ne ne]; exact ht)) (ep.same k.nw)⟩, let ⟨ta, e1, e2⟩ := h.a2; ⟨ta, by rw [upd_ne t.d12.symm]; exact e1, e2.same k.nw⟩, fun c e => ?_⟩
  by_cases w : c = A1
  · rw [w, upd_same] at e
    cases e
  · rw [upd_ne w] at e
    exact h.dm c e
theorem Tn.app2 {tt : Addr} {x : Str} {m : Nat} {ta : List Addr} (h : Tn b D A1 A2 Hi HT H A l1 l2 n) (t : Tt b D A1 A2 Hi HT) (e1 : H A2 = some (.lst (refs ta))) (ht : H tt = some (.tup [.int (m : Nat), .str x])) (n0 : HT tt = none) (ep : Prq (Nw HT H) ta l2) :
    Tn b D A1 A2 Hi HT (upd H A2 (.lst (refs ta ++ [.ref tt]))) A l1 (l2 ++ [(x, m)]) n := by
  have k : Kp HT H (upd H A2 (.lst (refs ta ++ [.ref tt]))) := fun c o z e => by rw [upd_ne (fun w => t.t2 (by rw [← w]; exact z))]; exact e
  have ne : tt ≠ A2 := fun w => t.t2 (w ▸ n0)
  refine ⟨h.bx.off t.b2.symm (fun c o nc e => by rw [upd_ne nc]; exact e), fun c o nc e => by rw [upd_ne (ne_of_none e t.n2)]; exact h.of c o nc e, by show upd _ _ _ D = _; rw [upd_ne t.D2]; exact h.pg, let ⟨ta, e1, e2⟩ := h.a1; ⟨ta, by rw [upd_ne t.d12]; exact e1, e2.same k.nw⟩, ⟨ta ++ [tt], by rw [upd_same]; unfold refs; rw [List.map_append]; rfl, Each.snoc (Nw.at n0 (by rw [upd_ne ne]; exact ht)) (ep.same k.nw)⟩, fun c e => ?_⟩
  by_cases w : c = A2
  · rw [w, upd_same] at e
    cases e
  · rw [upd_ne w] at e
    exact h.dm c e
end
theorem cut6 {r : Int} (h0 : 0 ≤ r) (h6 : r < 6) : ∃ m, 1 ≤ m ∧ m ≤ 6 ∧ cutV (names6.map V.str) none (some (1 + r)) = (names6.take m).map V.str := by
  rcases (by omega : r = 0 ∨ r = 1 ∨ r = 2 ∨ r = 3 ∨ r = 4 ∨ r = 5) with rfl | rfl | rfl | rfl | rfl | rfl
  · exact ⟨1, by decide, by decide, rfl⟩
  · exact ⟨2, by decide, by decide, rfl⟩
  · exact ⟨3, by decide, by decide, rfl⟩
  · exact ⟨4, by decide, by decide, rfl⟩
  · exact ⟨5, by decide, by decide, rfl⟩
  · exact ⟨6, by decide, by decide, rfl⟩
theorem len_imp {is : List Str} (h : ∀ o ∈ is, NmOk o) : (impT is).length ≤ 30 * is.length := by
  induction is with
  | nil => exact Nat.zero_le _
  | cons o r ih =>
    have h1 := (h o (List.mem_cons_self ..)).ln
    have h2 := ih fun z hz => h z (List.mem_cons_of_mem _ hz)
    show (wImp ++ 32 :: (cs o ++ 32 :: impT r)).length ≤ 30 * (r.length + 1)
    simp only [List.length_append, List.length_cons, List.length_nil]
    omega
theorem len_own {os : List (Bool × Str)} (h : ∀ q ∈ os, NmOk q.2) : (ownT os).length ≤ 60 * os.length := by
  induction os with
  | nil => exact Nat.zero_le _
  | cons q r ih =>
    obtain ⟨b, w⟩ := q
    have h1 : (cs w).length ≤ 12 := (h _ (List.mem_cons_self ..)).ln
    have h2 := ih fun z hz => h z (List.mem_cons_of_mem _ hz)
    cases b with
    | false =>
      show (wTem ++ 32 :: (cs w ++ 32 :: (bTem ++ 32 :: ownT r))).length ≤ 60 * (r.length + 1)
      simp only [List.length_append, List.length_cons, List.length_nil]
      omega
    | true =>
      show (wLis ++ 32 :: (cs w ++ 32 :: (bLis ++ 32 :: ownT r))).length ≤ 60 * (r.length + 1)
      simp only [List.length_append, List.length_cons, List.length_nil]
      omega
theorem gd_imp {is : List Str} (h : ∀ o ∈ is, NmOk o) : ∀ c ∈ impT is, gdC c := by
  induction is with
  | nil => exact fun c hc => by cases hc
  | cons o r ih =>
    have h2 := ih fun z hz => h z (List.mem_cons_of_mem _ hz)
    show ∀ c ∈ wImp ++ ([32] ++ (cs o ++ ([32] ++ impT r))), gdC c
    exact gd_app (gd_w (by decide)) (gd_app (gd_w (by decide)) (gd_app (gd_nm (h o (List.mem_cons_self ..))) (gd_app (gd_w (by decide)) h2)))
theorem gd_own {os : List (Bool × Str)} (h : ∀ q ∈ os, NmOk q.2) : ∀ c ∈ ownT os, gdC c := by
  induction os with
  | nil => exact fun c hc => by cases hc
  | cons q r ih =>
    obtain ⟨b, w⟩ := q
    have hw : NmOk w := h _ (List.mem_cons_self ..)
    have h2 := ih fun z hz => h z (List.mem_cons_of_mem _ hz)
    cases b with
    | false =>
      show ∀ c ∈ wTem ++ ([32] ++ (cs w ++ ([32] ++ (bTem ++ ([32] ++ ownT r))))), gdC c
      exact gd_app (gd_w (by decide)) (gd_app (gd_w (by decide)) (gd_app (gd_nm hw) (gd_app (gd_w (by decide)) (gd_app (gd_w (by decide)) (gd_app (gd_w (by decide)) h2)))))
    | true =>
      show ∀ c ∈ wLis ++ ([32] ++ (cs w ++ ([32] ++ (bLis ++ ([32] ++ ownT r))))), gdC c
      exact gd_app (gd_w (by decide)) (gd_app (gd_w (by decide)) (gd_app (gd_nm hw) (gd_app (gd_w (by decide)) (gd_app (gd_w (by decide)) (gd_app (gd_w (by decide)) h2)))))
theorem impL_mem : ∀ {l : List Str} {n : Nat} {q : Str × Nat}, q ∈ impL n l → n ≤ q.2
  | o :: l, n, q, h => by
    rcases List.mem_cons.mp h with rfl | h
    · exact Nat.le_add_right _ _
    · have := impL_mem h
      omega
theorem impL_asc : ∀ (l : List Str) (n : Nat), ((impL n l).map (·.2)).Pairwise (· < ·)
  | [], _ => .nil
  | o :: l, n => by
    refine .cons (fun b hb => ?_) (impL_asc l _)
    obtain ⟨q, hq, rfl⟩ := List.mem_map.mp hb
    have := impL_mem hq
    show n + 7 < q.2
    omega
theorem fdOf_drw {nm : Str} {z : Cd} {is : List Str} {os : List (Bool × Str)} (hn : NmOk nm) (hz : PreOk z) (hi : ∀ o ∈ is, NmOk o) (ho : ∀ q ∈ os, NmOk q.2) (li : is.length ≤ 100) (lo : os.length ≤ 100) : Drw (fdOf nm z is os) := by
  have l1 := len_imp hi
  have l2 := len_own ho
  have lz : z.length ≤ 4 := by rcases hz with rfl | rfl | rfl <;> decide
  have lt : (pageT z is os).length ≤ 100000 := by
    unfold pageT
    rw [List.length_append, List.length_append]
    omega
  refine ⟨fdOf_rd hz hi ho li lo lt, ⟨lt, ?_⟩, hn, impL_asc _ _⟩
  show ∀ c ∈ z ++ impT is ++ ownT os, gdC c
  refine gd_app (gd_app ?_ (gd_imp hi)) (gd_own ho)
  rcases hz with rfl | rfl | rfl
  · exact fun c hc => by cases hc
  · exact gd_w (by decide)
  · exact gd_w (by decide)
section
variable {P : Program} {w : World} {K : PySem.W.Frag} {mg : Str → Option Value} {base : Heap}
def spFiles : Sp := fun vs H Q _ => ∃ (b : Addr) (n : Nat), vs = [.ref b] ∧ Box H b n ∧ n < 900000 ∧ ∀ H' n' t Lf Lp ts us (fs : List Fd), n' ≤ n + 1000 → Off b H H' → Box H' b n' → H' t = some (.tup [.ref Lf, .ref Lp]) → H' Lf = some (.lst (refs ts)) → H' Lp = some (.lst (refs us)) →
  H t = none → H Lf = none → H Lp = none → Each (FndA (Nw H H')) ts fs → Each (fun u f => Nw H H' u = some (.tup [.str f.nm, .str (S f.T)])) us fs → Drwn fs → Q (.ref t) H'
set_option maxHeartbeats 20000000 in
theorem ok_files {f : Addr} {fd : FuncData} (F : Fun K "_law_files" "_law_files" s_law_files f fd) (T : Bl K mg) (d_take : DnO P w K mg base "_law_take" 1 ["_law_box_here", "_law_many"] spTake) (d_of : DnO P w K mg base "_law_of" 2 ["_law_box_here", "_law_some"] spOf) (d_put : DnO P w K mg base "_law_put" 1 ["_law_state", "_law_part"] spPut) :
    FnOk P w K mg base CX0 3 f fd ["_law_box_here"] spFiles := by
  refine F.ok scl2 (fun vs H Q E h => ?_) (fun cdv A outer s H vs Q E hr h => ?_)
  · obtain ⟨_, _, rfl, _⟩ := h
    rfl
  · obtain ⟨b, n, rfl, hB, hn, q⟩ := h
    refine ⟨_, (pss_cons (ps_set (i := 1) scl2.nd rfl (Or.inl rfl) (pe_slice sl_list (pe_lst (pa_cons pe_str (pa_cons pe_str (pa_cons pe_str (pa_cons pe_str (pa_cons pe_str (pa_cons pe_str pa_nil))))))) po_none (po_some (pe_op op_add pe_int (pe_call d_take.ok (hr.mono (by omega)) (by rfl) d_take.g d_take.kp d_take.b .nil pass0 (pa_cons (pv 0) (pa_cons pe_int pa_nil)))))))
      (pss_cons (ps_par (i := 2) (j := 3) (by rfl) scl2.nd rfl rfl (by decide) rfl rfl (pa_cons (pe_lst pa_nil) (pa_cons (pe_lst pa_nil) pa_nil)) (by rfl))
      (pss_cons (ps_for PassesOwn.never rfl (pi_list (pv 1)) (pg_name (i := 4) scl2.nd rfl (Or.inl rfl))
        (pss_cons (ps_par3 (i := 5) (j := 6) (l := 7) (by rfl) scl2.nd rfl rfl rfl (by decide) (by decide) (by decide) rfl rfl rfl (pa_cons (pe_disp (pps_cons pe_str (pe_call d_of.ok (hr.mono (by omega)) (by rfl) d_of.g d_of.kp d_of.b .nil pass0 (pa_cons (pv 0) (pa_cons (pe_lst (pa_cons pe_str (pa_cons pe_str (pa_cons pe_str pa_nil)))) pa_nil))) pps_nil) (by rfl) (by rfl) (fun z => by cases z) (by decide)) (pa_cons (pe_lst pa_nil) (pa_cons (pe_lst pa_nil) pa_nil))) (by rfl))
        (pss_cons (ps_for PassesOwn.never rfl (pi_range1 (by rfl) T.range (pa_cons (pe_call d_of.ok (hr.mono (by omega)) (by rfl) d_of.g d_of.kp d_of.b .nil pass0 (pa_cons (pv 0) (pa_cons (pe_lst (pa_cons pe_int (pa_cons pe_int (pa_cons pe_int (pa_cons pe_int (pa_cons pe_int pa_nil)))))) pa_nil))) pa_nil)) (pg_name (i := 8) scl2.nd rfl (Or.inl rfl))
          (pss_cons (ps_set (i := 9) scl2.nd rfl (Or.inl rfl) (pe_call d_of.ok (hr.mono (by omega)) (by rfl) d_of.g d_of.kp d_of.b .nil pass0 (pa_cons (pv 0) (pa_cons (pe_op op_cat (pe_op op_cat (pv 1) (pv 1)) (pe_lst (pa_cons pe_str pa_nil))) pa_nil))))
          (pss_cons (ps_expr (pe_call d_put.ok (hr.mono (by omega)) (by rfl) d_put.g d_put.kp d_put.b .nil pass0 (pa_cons (pv 5) (pa_cons pe_str pa_nil))))
          (pss_one (ps_expr (pe_bm PySem.F.plainAttrs_list PySem.F.slot_list_append PySem.F.type_list_append mt_append (pv 6) (pa_cons (pe_tup (pa_cons (pe_call d_put.ok (hr.mono (by omega)) (by rfl) d_put.g d_put.kp d_put.b .nil pass0 (pa_cons (pv 5) (pa_cons (pv 9) pa_nil))) (pa_cons (pv 9) pa_nil))) pa_nil)))))))
        (pss_cons (ps_for PassesOwn.never rfl (pi_range1 (by rfl) T.range (pa_cons (pe_call d_of.ok (hr.mono (by omega)) (by rfl) d_of.g d_of.kp d_of.b .nil pass0 (pa_cons (pv 0) (pa_cons (pe_lst (pa_cons pe_int (pa_cons pe_int (pa_cons pe_int (pa_cons pe_int pa_nil))))) pa_nil))) pa_nil)) (pg_name (i := 8) scl2.nd rfl (Or.inl rfl))
          (pss_cons (ps_set (i := 10) scl2.nd rfl (Or.inl rfl) (pe_op op_add_str (pe_call d_of.ok (hr.mono (by omega)) (by rfl) d_of.g d_of.kp d_of.b .nil pass0 (pa_cons (pv 0) (pa_cons (pe_lst (pa_cons pe_str (pa_cons pe_str (pa_cons pe_str (pa_cons pe_str (pa_cons pe_str (pa_cons pe_str pa_nil))))))) pa_nil))) (pe_call d_of.ok (hr.mono (by omega)) (by rfl) d_of.g d_of.kp d_of.b .nil pass0 (pa_cons (pv 0) (pa_cons (pe_lst (pa_cons pe_str (pa_cons pe_str (pa_cons (pv 4) pa_nil)))) pa_nil)))))
          (pss_cons (ps_set (i := 11) scl2.nd rfl (Or.inl rfl) (pe_call d_take.ok (hr.mono (by omega)) (by rfl) d_take.g d_take.kp d_take.b .nil pass0 (pa_cons (pv 0) (pa_cons pe_int pa_nil))))
          (pss_cons (ps_expr (pe_call d_put.ok (hr.mono (by omega)) (by rfl) d_put.g d_put.kp d_put.b .nil pass0 (pa_cons (pv 5) (pa_cons (pe_ix (r := rIxL K) ix_list (pe_lst (pa_cons pe_str (pa_cons pe_str pa_nil))) (pv 11) (fun _ _ => rfl)) pa_nil))))
          (pss_cons (ps_expr (pe_bm PySem.F.plainAttrs_list PySem.F.slot_list_append PySem.F.type_list_append mt_append (pv 7) (pa_cons (pe_tup (pa_cons (pe_call d_put.ok (hr.mono (by omega)) (by rfl) d_put.g d_put.kp d_put.b .nil pass0 (pa_cons (pv 5) (pa_cons (pv 10) pa_nil))) (pa_cons (pv 10) pa_nil))) pa_nil)))
          (pss_one (ps_expr (pe_call d_put.ok (hr.mono (by omega)) (by rfl) d_put.g d_put.kp d_put.b .nil pass0 (pa_cons (pv 5) (pa_cons (pe_ix (r := rIxL K) ix_list (pe_lst (pa_cons pe_str (pa_cons pe_str pa_nil))) (pv 11) (fun _ _ => rfl)) pa_nil))))))))))
        (pss_cons (ps_expr (pe_bm PySem.F.plainAttrs_list PySem.F.slot_list_append PySem.F.type_list_append mt_append (pv 2) (pa_cons (pe_tup (pa_cons (pv 4) (pa_cons (pv 6) (pa_cons (pv 7) pa_nil)))) pa_nil)))
        (pss_one (ps_expr (pe_bm PySem.F.plainAttrs_list PySem.F.slot_list_append PySem.F.type_list_append mt_append (pv 3) (pa_cons (pe_tup (pa_cons (pv 4) (pa_cons (pe_dget (u1 hr) (pv 5) pe_str (fun _ _ => rfl)) pa_nil))) pa_nil)))))))))
      (pss_one (ps_ret (pe_tup (pa_cons (pv 2) (pa_cons (pv 3) pa_nil)))))))), ?_⟩
    have bset : ∀ {Hc : Hp} {u : HO}, Off b Hc (upd Hc b u) := fun {Hc u} c o nc e => by rw [upd_ne nc]; exact e
    refine ⟨by show 6 ≤ sizeLine; decide, fun L0 nL0 => ?_⟩
    have L0b : L0 ≠ b := hB.ne nL0
    refine ⟨.ref b, rfl, b, 6, n, rfl, Box.new hB (hB.ne nL0), by omega, by decide, by decide, fun r u0 r0 r6 hB1 => ⟨1, r, rfl, rfl, _, rfl, L0, [.str "a", .str "b", .str "c", .str "d", .str "main", .str "zz"], rfl, SqL.of ((upd_ne L0b).trans upd_same), fun p np => ?_⟩⟩
    obtain ⟨m, hm1, hm6, hcut⟩ := cut6 r0 r6
    have hcut : cutV [.str "a", .str "b", .str "c", .str "d", .str "main", .str "zz"] none (some (1 + r)) = (names6.take m).map V.str := hcut
    have o1 : Off b H (upd (upd H L0 (.lst [.str "a", .str "b", .str "c", .str "d", .str "main", .str "zz"])) b u0) := fun c o nc e => by rw [upd_ne nc]; exact same_new nL0 _ _ e
    have pb : p ≠ b := hB1.ne np
    have o2 : Off b H (upd (upd (upd H L0 (.lst [.str "a", .str "b", .str "c", .str "d", .str "main", .str "zz"])) b u0) p (.lst (cutV [.str "a", .str "b", .str "c", .str "d", .str "main", .str "zz"] none (some (1 + r))))) := fun c o nc e => by rw [upd_ne (ne_of_none (o1 c o nc e) np)]; exact o1 c o nc e
    have hB2 := Box.new (u := .lst (cutV [.str "a", .str "b", .str "c", .str "d", .str "main", .str "zz"] none (some (1 + r)))) hB1 pb
    have hp2 := upd_same (H := upd (upd H L0 (.lst [.str "a", .str "b", .str "c", .str "d", .str "main", .str "zz"])) b u0) (a := p) (o := .lst (cutV [.str "a", .str "b", .str "c", .str "d", .str "main", .str "zz"] none (some (1 + r))))
    rw [hcut] at o2 hB2 hp2 ⊢
    generalize upd (upd (upd H L0 (.lst [.str "a", .str "b", .str "c", .str "d", .str "main", .str "zz"])) b u0) p (.lst ((names6.take m).map V.str)) = H2 at o2 hB2 hp2
    refine ⟨by show 0 ≤ sizeLine; decide, fun Lf nLf => ⟨by show 0 ≤ sizeLine; decide, fun Lp nLp => ⟨_, _, rfl, ?_⟩⟩⟩
    have nfH : H Lf = none := by
      cases z : H Lf with
      | none => rfl
      | some y =>
        have := o2 _ _ (hB2.ne nLf) z
        rw [nLf] at this
        cases this
    have s3 := same_new (o := .lst []) nLf
    have Lfb : Lf ≠ b := hB2.ne nLf
    have hB3 := Box.new (u := .lst []) hB2 Lfb
    have Lpb : Lp ≠ b := hB3.ne nLp
    have hB4 := Box.new (u := .lst []) hB3 Lpb
    have s4 := same_new (o := .lst []) nLp
    have hf4 := s4 _ _ (upd_same (H := H2) (a := Lf) (o := .lst []))
    have hq4 := upd_same (H := upd H2 Lf (.lst [])) (a := Lp) (o := .lst [])
    have fp : Lf ≠ Lp := ne_of_none (upd_same (H := H2) (a := Lf) (o := .lst [])) nLp
    have hp4 := s4 _ _ (s3 _ _ hp2)
    have npH : H Lp = none := by
      cases z : H Lp with
      | none => rfl
      | some y =>
        have := s3 _ _ (o2 _ _ Lpb z)
        rw [nLp] at this
        cases this
    have o4 : Off b H (upd (upd H2 Lf (.lst [])) Lp (.lst [])) := fun c o nc e => s4 _ _ (s3 _ _ (o2 c o nc e))
    generalize upd (upd H2 Lf (.lst [])) Lp (.lst []) = HS at hB4 hf4 hq4 hp4 o4
    clear s3 s4 hB3
    have pf : p ≠ Lf := ne_of_none hp2 nLf
    have pp : p ≠ Lp := fun z => by rw [z, hq4] at hp4; exact absurd (HO.lst.inj (Option.some.inj hp4)) (by
      cases m with
      | zero => omega
      | succ m => intro w; cases w)
    have lm : (names6.take m).length = m := by rw [List.length_take]; show min m 6 = m; omega
    refine ⟨.ref p, rfl, p, rfl, ⟨_, SqL.of hp4⟩, ?_⟩
    refine for_list (K := K) (a := p) (xs := (names6.take m).map V.str) (fun i σ Hi => ∃ (y4 y5 y6 y7 y8 y9 y10 y11 : Option V) (fs : List Fd) (ts us : List Addr) (n' : Nat), σ = [some (.ref b), some (.ref p), some (.ref Lf), some (.ref Lp), y4, y5, y6, y7, y8, y9, y10, y11] ∧ fs.length = i ∧ n' ≤ n + 1 + 40 * i ∧ Box Hi b n' ∧ (∀ c o, c ≠ b → c ≠ Lf → c ≠ Lp → HS c = some o → Hi c = some o) ∧ Hi Lf = some (.lst (refs ts)) ∧ Hi Lp = some (.lst (refs us)) ∧ Each (FndA (Nw HS Hi)) ts fs ∧ Each (fun u f => Nw HS Hi u = some (.tup [.str f.nm, .str (S f.T)])) us fs ∧ fs.map Fd.nm = names6.take i ∧ ∀ f ∈ fs, Drw f) ⟨_, _, _, _, _, _, _, _, [], [], [], n + 1, rfl, rfl, Nat.le_refl _, hB4, fun c o _ _ _ e => e, hf4, hq4, trivial, trivial, rfl, fun _ z => by cases z⟩ (fun i σ Hi _ hP => by
      obtain ⟨_, _, _, _, _, _, _, _, _, _, _, _, _, _, _, _, ho, _⟩ := hP
      exact SqL.of (ho _ _ pb pf pp hp4)) (fun i x1 σ Hi hx1 hP => ?_) (fun σ Hi hP => ?_)
    · obtain ⟨y4, y5, y6, y7, y8, y9, y10, y11, fs, ts, us, n', rfl, hfl, hn', hBi, hoi, hfi, hqi, hEf, hEp, hnm, hal⟩ := hP
      rw [List.getElem?_map] at hx1
      obtain ⟨nm, hnmi, rfl⟩ := Option.map_eq_some_iff.mp hx1
      have him : i < m := by
        have := (List.getElem?_eq_some_iff.mp hnmi).1
        omega
      have hn6 : nm ∈ names6 := List.mem_of_mem_take (List.mem_of_getElem? hnmi)
      have hNm := names6_ok nm hn6
      have hpi := hoi _ _ pb pf pp hp4
      have n9 : n' < 950000 := by omega
      have hpD : ∀ {D : Addr}, Hi D = none → D ≠ b := fun z => hBi.ne z
      refine fun D nD => ⟨.ref b, rfl, by show 3 ≤ sizeLine; decide, fun l nl => ?_⟩
      have Db : D ≠ b := hBi.ne nD
      have hBD := Box.new (u := .dK []) hBi Db
      have lb : l ≠ b := hBD.ne nl
      have Dl : D ≠ l := fun z => by rw [← z, upd_same] at nl; cases nl
      refine ⟨b, l, _, n', rfl, upd_same, lb, Box.new hBD lb, by omega, by show 0 < 3; decide, by show 3 < 1000000; decide, fun x u hx hB1 => ?_⟩
      obtain ⟨z, rfl, hz⟩ : ∃ z : Cd, x = .str (S z) ∧ PreOk z := by
        rcases (by simpa using hx : x = .str "" ∨ x = .str "# x\n" ∨ x = .str "\n") with rfl | rfl | rfl
        · exact ⟨[], rfl, .inl rfl⟩
        · exact ⟨[35, 32, 120, 10], rfl, .inr (.inl rfl)⟩
        · exact ⟨[10], rfl, .inr (.inr rfl)⟩
      have hD1 : upd (upd (upd Hi D (.dK [])) l (.lst [.str "", .str "# x\n", .str "\n"])) b u D = some (.dK []) := by rw [upd_ne Db, upd_ne Dl, upd_same]
      have oD1 : Off b Hi (upd (upd (upd Hi D (.dK [])) l (.lst [.str "", .str "# x\n", .str "\n"])) b u) := fun c o nc e => by
        rw [upd_ne nc, upd_ne (ne_of_none (same_new nD _ _ e) nl), upd_ne (ne_of_none e nD)]
        exact e
      generalize upd (upd (upd Hi D (.dK [])) l (.lst [.str "", .str "# x\n", .str "\n"])) b u = Ha at hB1 hD1 oD1
      refine ⟨hD1, [(.inr "page", .str (S z))], rfl, by show 1 ≤ 15; decide, ?_⟩
      have hDa : PgA (upd Ha D (.dK (mergeK [] [((Sum.inr "page" : L2.Key), V.str (S z))]))) D z := upd_same
      have oDa : Off b Hi (upd Ha D (.dK (mergeK [] [((Sum.inr "page" : L2.Key), V.str (S z))]))) := fun c o nc e => by rw [upd_ne (ne_of_none e nD)]; exact oD1 c o nc e
      have hBa := Box.new (u := .dK (mergeK [] [((Sum.inr "page" : L2.Key), V.str (S z))])) hB1 Db
      generalize upd Ha D (.dK (mergeK [] [((Sum.inr "page" : L2.Key), V.str (S z))])) = Hb at hDa oDa hBa
      refine ⟨by show 0 ≤ sizeLine; decide, fun A1 nA1 => ⟨by show 0 ≤ sizeLine; decide, fun A2 nA2 => ⟨_, _, _, rfl, ?_⟩⟩⟩
      have sA1 := same_new (o := .lst []) nA1
      have sA2 := same_new (o := .lst []) nA2
      have e1 := sA2 _ _ (upd_same (H := Hb) (a := A1) (o := .lst []))
      have e2 := upd_same (H := upd Hb A1 (.lst [])) (a := A2) (o := .lst [])
      have sA := sA1.trans sA2
      have d12 : A1 ≠ A2 := ne_of_none (upd_same (H := Hb) (a := A1) (o := .lst [])) nA2
      have D1 : D ≠ A1 := ne_of_none hDa nA1
      have D2 : D ≠ A2 := ne_of_none (sA1 _ _ hDa) nA2
      have b1 : A1 ≠ b := hBa.ne nA1
      have b2 : A2 ≠ b := (hBa.same sA1).ne nA2
      have n1 : Hi A1 = none := by
        cases w : Hi A1 with
        | none => rfl
        | some y => rw [oDa _ _ b1 w] at nA1; cases nA1
      have n2 : Hi A2 = none := by
        cases w : Hi A2 with
        | none => rfl
        | some y => rw [sA1 _ _ (oDa _ _ b2 w)] at nA2; cases nA2
      have hDc := sA _ _ hDa
      have hBc := hBa.same sA
      have oDc : Off b Hi (upd (upd Hb A1 (.lst [])) A2 (.lst [])) := fun c o nc e => sA _ _ (oDa c o nc e)
      generalize upd (upd Hb A1 (.lst [])) A2 (.lst []) = HT at e1 e2 hDc hBc oDc
      have hTt : Tt b D A1 A2 Hi HT := ⟨nD, n1, n2, fun w => (by rw [show HT D = _ from hDc] at w; cases w), fun w => (by rw [e1] at w; cases w), fun w => (by rw [e2] at w; cases w), hBc.has, Db, b1, b2, D1, D2, d12⟩
      have hT0 : Tn b D A1 A2 Hi HT HT z [] [] (n' + 1) := ⟨hBc, oDc, hDc, ⟨[], e1, trivial⟩, ⟨[], e2, trivial⟩, fun _ e => e⟩
      clear hDa oDa hBa sA1 sA2 sA e1 e2 nA1 nA2
      have oldp : ∀ {Hc : Hp} {A l1 l2 k}, Tn b D A1 A2 Hi HT Hc A l1 l2 k → Hc p = some (.lst ((names6.take m).map V.str)) := fun h => h.of _ _ pb hpi
      refine ⟨.ref b, rfl, by show 5 ≤ sizeLine; decide, fun l2 nl2 => ?_⟩
      have hT1 := hT0.same (same_new (o := .lst [.int 0, .int 0, .int 1, .int 2, .int 3]) nl2)
      have lb2 : l2 ≠ b := hT0.bx.ne nl2
      refine ⟨b, l2, _, n' + 1, rfl, upd_same, lb2, hT1.bx, by omega, by show 0 < 5; decide, by show 5 < 1000000; decide, fun x u hx hB2 => ?_⟩
      have hT2 := hT1.box hTt hB2
      obtain ⟨j, rfl, hj⟩ : ∃ j : Nat, x = .int j ∧ j ≤ 3 := by
        rcases (by simpa using hx : x = .int 0 ∨ x = .int 1 ∨ x = .int 2 ∨ x = .int 3) with rfl | rfl | rfl | rfl
        · exact ⟨0, rfl, by decide⟩
        · exact ⟨1, rfl, by decide⟩
        · exact ⟨2, rfl, by decide⟩
        · exact ⟨3, rfl, by decide⟩
      generalize upd (upd HT l2 (.lst [.int 0, .int 0, .int 1, .int 2, .int 3])) b u = Hc at hT2
      refine ⟨j, rfl, by omega, by omega, ?_⟩
      have lz : z.length ≤ 4 := by rcases hz with rfl | rfl | rfl <;> decide
      refine for_range (lo := 0) (n := (j : Int).toNat) (fun i2 σ Hj => ∃ (y8 y9 y10 y11 : Option V) (is : List Str), σ = [some (.ref b), some (.ref p), some (.ref Lf), some (.ref Lp), some (.str nm), some (.ref D), some (.ref A1), some (.ref A2), y8, y9, y10, y11] ∧ is.length = i2 ∧ (∀ o ∈ is, NmOk o) ∧ Tn b D A1 A2 Hi HT Hj (z ++ impT is) (impL z.length is) [] (n' + 2 + i2)) ⟨_, _, _, _, [], rfl, rfl, fun _ w => (by cases w), by rw [show z ++ impT [] = z from List.append_nil z]; exact hT2⟩ (fun i2 σ Hj hi2 hP => ?_) (fun σ Hj hP => ?_)
      · obtain ⟨y8, y9, y10, y11, is, rfl, hil, his, hTj⟩ := hP
        have hj3 : i2 < 3 := by omega
        have hpj := oldp hTj
        have lnm : ((names6.take m).map V.str).length ≤ 6 := by rw [List.length_map, List.length_take]; exact Nat.min_le_right _ _
        refine ⟨.ref b, rfl, .ref p, rfl, .ref p, rfl, p, p, _, _, rfl, rfl, hpj, hpj, big_le (by omega), fun c1 nc1 => ⟨by show 1 ≤ sizeLine; decide, fun c2 nc2 => ?_⟩⟩
        have sc1 := same_new (o := .lst ((names6.take m).map V.str ++ (names6.take m).map V.str)) nc1
        have sc2 := same_new (o := .lst [.str "nofile"]) nc2
        refine ⟨c1, c2, _, [.str "nofile"], rfl, rfl, sc2 _ _ upd_same, upd_same, by rw [List.length_append]; exact big_le (by simp only [List.length_singleton]; omega), fun c3 nc3 => ?_⟩
        have sc3 := same_new (o := .lst ((names6.take m).map V.str ++ (names6.take m).map V.str ++ [.str "nofile"])) nc3
        have hTk := ((hTj.same sc1).same sc2).same sc3
        have c3b : c3 ≠ b := ((hTj.same sc1).same sc2).bx.ne nc3
        refine ⟨b, c3, _, n' + 2 + i2, rfl, upd_same, c3b, hTk.bx, by omega, by rw [List.length_append]; simp only [List.length_singleton]; omega, by rw [List.length_append, List.length_append]; simp only [List.length_singleton]; omega, fun x u hx hB3 => ?_⟩
        have hTl := hTk.box hTt hB3
        obtain ⟨o, rfl, ho⟩ : ∃ o : Str, x = .str o ∧ NmOk o := by
          rcases List.mem_append.mp hx with hx | hx
          · rcases List.mem_append.mp hx with hx | hx <;>
            · obtain ⟨o, h1, h2⟩ := List.mem_map.mp hx
              exact ⟨o, h2.symm, names6_ok o (List.mem_of_mem_take h1)⟩
          · exact ⟨"nofile", by simpa using hx, nofile_ok⟩
        generalize upd (upd (upd (upd Hj c1 (.lst ((names6.take m).map V.str ++ (names6.take m).map V.str))) c2 (.lst [.str "nofile"])) c3 (.lst ((names6.take m).map V.str ++ (names6.take m).map V.str ++ [.str "nofile"]))) b u = Hl at hTl
        have li := len_imp his
        have lA : (z ++ impT is).length ≤ 1000 := by rw [List.length_append]; omega
        have lo := ho.ln
        refine ⟨.ref D, rfl, D, z ++ impT is, "\x69mport", rfl, hTl.pg, by omega, by rw [e_imp]; decide, fun Hm om hpm => ?_⟩
        have hTm := hTl.put hTt om hpm
        obtain ⟨ta, ea, epa⟩ := hTm.a1
        refine ⟨.ref A1, rfl, .inl ⟨rfl, _, SqL.of ea⟩, .ref D, rfl, .str o, rfl, D, _, o, rfl, hTm.pg, ?_, by omega, fun Hn on hpn => ⟨.str o, rfl, by show 2 ≤ sizeLine; decide, fun tt ntt => ?_⟩⟩
        · rw [List.length_append, List.length_append, e_imp]
          simp only [List.length_cons, List.length_nil]
          omega
        have hTn := hTm.put hTt on hpn
        have stt := same_new (o := .tup [.int ((z ++ impT is ++ cs "\x69mport" ++ [32]).length : Nat), .str o]) ntt
        have hTo := hTn.same stt
        have n0 := hTn.dm _ ntt
        obtain ⟨ta2, ea2, epa2⟩ := hTo.a1
        have lta := Each.len epa2
        rw [impL_len] at lta
        have hTp := hTo.app1 hTt ea2 upd_same n0 epa2
        refine ⟨A1, refs ta2, _, rfl, rfl, ea2, by unfold refs; rw [List.length_map]; exact small1000 (by omega), _, _, _, _, is ++ [o], rfl, by rw [List.length_append, hil]; rfl, fun w hw => (List.mem_append.mp hw).elim (his w) (fun hw => by rw [List.mem_singleton.mp hw]; exact ho), ?_⟩
        have eP : z ++ impT is ++ cs "\x69mport" ++ [32] ++ cs o ++ [32] = z ++ impT (is ++ [o]) := by
          rw [impT_snoc]
          simp [List.append_assoc]
        have eL : impL z.length is ++ [(o, (z ++ impT is ++ cs "\x69mport" ++ [32]).length)] = impL z.length (is ++ [o]) := by
          rw [impL_snoc, List.length_append, List.length_append, List.length_append, e_imp]
          rfl
        rw [eP, eL] at hTp
        exact hTp
      · obtain ⟨y8, y9, y10, y11, is, rfl, hil, his, hTj⟩ := hP
        have hj3 : is.length ≤ 3 := by omega
        have li := len_imp his
        refine ⟨.ref b, rfl, by show 4 ≤ sizeLine; decide, fun l3 nl3 => ?_⟩
        have hTk := hTj.same (same_new (o := .lst [.int 0, .int 1, .int 1, .int 2]) nl3)
        have lb3 : l3 ≠ b := hTj.bx.ne nl3
        refine ⟨b, l3, _, _, rfl, upd_same, lb3, hTk.bx, by omega, by show 0 < 4; decide, by show 4 < 1000000; decide, fun x u hx hB3 => ?_⟩
        have hTl := hTk.box hTt hB3
        obtain ⟨j2, rfl, hj2⟩ : ∃ j : Nat, x = .int j ∧ j ≤ 2 := by
          rcases (by simpa using hx : x = .int 0 ∨ x = .int 1 ∨ x = .int 2) with rfl | rfl | rfl
          · exact ⟨0, rfl, by decide⟩
          · exact ⟨1, rfl, by decide⟩
          · exact ⟨2, rfl, by decide⟩
        generalize upd (upd Hj l3 (.lst [.int 0, .int 1, .int 1, .int 2])) b u = Hl at hTl
        refine ⟨j2, rfl, by omega, by omega, ?_⟩
        refine for_range (lo := 0) (n := (j2 : Int).toNat) (fun i3 σ Hq => ∃ (y8 y9 y10 y11 : Option V) (os : List (Bool × Str)), σ = [some (.ref b), some (.ref p), some (.ref Lf), some (.ref Lp), some (.str nm), some (.ref D), some (.ref A1), some (.ref A2), y8, y9, y10, y11] ∧ os.length = i3 ∧ (∀ o ∈ os, NmOk o.2) ∧ Tn b D A1 A2 Hi HT Hq (pageT z is os) (impL z.length is) ((ownL (z ++ impT is).length os).map (·.2)) (n' + 6 + 3 * i3)) ⟨_, _, _, _, [], rfl, rfl, fun _ w => (by cases w), by
          show Tn b D A1 A2 Hi HT Hl (z ++ impT is ++ []) _ [] _
          rw [List.append_nil]
          exact ⟨hTl.bx.mono (by omega), hTl.of, hTl.pg, hTl.a1, hTl.a2, hTl.dm⟩⟩ (fun i3 σ Hq hi3 hP => ?_) (fun σ Hq hP => ?_)
        · obtain ⟨y8, y9, y10, y11, os, rfl, hol, hos, hTq⟩ := hP
          have h3 : i3 < 2 := by omega
          refine ⟨.ref b, rfl, by show 6 ≤ sizeLine; decide, fun m1 nm1 => ?_⟩
          have hU1 := hTq.same (same_new (o := .lst [.str "t", .str "u", .str "v", .str "w", .str "x", .str "y"]) nm1)
          refine ⟨b, m1, _, _, rfl, upd_same, hTq.bx.ne nm1, hU1.bx, by omega, by show 0 < 6; decide, by show 6 < 1000000; decide, fun x u hx hBx => ?_⟩
          have hU2 := hU1.box hTt hBx
          obtain ⟨w1, rfl, hw1⟩ : ∃ o : Str, x = .str o ∧ o ∈ words6 := by
            rcases (by simpa using hx : x = .str "t" ∨ x = .str "u" ∨ x = .str "v" ∨ x = .str "w" ∨ x = .str "x" ∨ x = .str "y") with rfl | rfl | rfl | rfl | rfl | rfl
            · exact ⟨"t", rfl, by decide⟩
            · exact ⟨"u", rfl, by decide⟩
            · exact ⟨"v", rfl, by decide⟩
            · exact ⟨"w", rfl, by decide⟩
            · exact ⟨"x", rfl, by decide⟩
            · exact ⟨"y", rfl, by decide⟩
          generalize upd (upd Hq m1 (.lst [.str "t", .str "u", .str "v", .str "w", .str "x", .str "y"])) b u = Hr at hU2
          refine ⟨.ref b, rfl, .str nm, rfl, by show 3 ≤ sizeLine; decide, fun m2 nm2 => ?_⟩
          have hU3 := hU2.same (same_new (o := .lst [.str "", .str "", .str nm]) nm2)
          refine ⟨b, m2, _, _, rfl, upd_same, hU2.bx.ne nm2, hU3.bx, by omega, by show 0 < 3; decide, by show 3 < 1000000; decide, fun x2 u2 hx2 hBx2 => ?_⟩
          have hU4 := hU3.box hTt hBx2
          obtain ⟨w2, rfl, hw2⟩ : ∃ o : Str, x2 = .str o ∧ (o = "" ∨ o ∈ names6) := by
            rcases (by simpa using hx2 : x2 = .str "" ∨ x2 = .str nm) with rfl | rfl
            · exact ⟨"", rfl, .inl rfl⟩
            · exact ⟨nm, rfl, .inr hn6⟩
          generalize upd (upd Hr m2 (.lst [.str "", .str "", .str nm])) b u2 = Hs at hU4
          have hW := word_ok hw1 hw2
          have lW := hW.ln
          have eW : w1.length + w2.length = (cs (w1 ++ w2)).length := by rw [len_cs, len_cs, cs_app, List.length_append]
          refine ⟨w1, w2, rfl, rfl, big_le (by omega), .ref b, rfl, b, 2, _, rfl, hU4.bx, by omega, by decide, by decide, fun r u3 r0 r2 hBx3 => ?_⟩
          have hU5 := hU4.box hTt hBx3
          generalize upd Hs b u3 = Ht at hU5
          obtain ⟨kb, jb, rfl, hk1, hk2⟩ : ∃ (kb : Bool) (jb : Nat), r = jb ∧ [V.str "template", .str "list"][jb]? = some (.str (kwT kb)) ∧ [V.str "{ n: 1 }", .str "(n: number) [ ]"][jb]? = some (.str (bdT kb)) := by
            rcases (by omega : r = 0 ∨ r = 1) with rfl | rfl
            · exact ⟨false, 0, rfl, rfl, rfl⟩
            · exact ⟨true, 1, rfl, rfl, rfl⟩
          generalize w1 ++ w2 = wd at hW lW eW
          have lo := len_own hos
          have lA : (pageT z is os).length ≤ 1000 := by
            unfold pageT
            rw [List.length_append, List.length_append]
            omega
          have lk : (cs (kwT kb)).length ≤ 20 := by cases kb <;> decide +kernel
          have lb : (cs (bdT kb)).length ≤ 20 := by cases kb <;> decide +kernel
          refine ⟨.ref D, rfl, by show 2 ≤ sizeLine; decide, fun m3 nm3 => ?_⟩
          have sm3 := same_new (o := .lst [.str "template", .str "list"]) nm3
          have hU6 := hU5.same sm3
          refine ⟨.int jb, rfl, m3, _, (jb : Int), .str (kwT kb), rfl, rfl, SqL.of upd_same, atI_nat hk1, D, pageT z is os, kwT kb, rfl, hU6.pg, by omega, by omega, fun Hm om hpm => ?_⟩
          have hU7 := hU6.put hTt om hpm
          obtain ⟨ta, ea, epa⟩ := hU7.a2
          refine ⟨.ref A2, rfl, .inl ⟨rfl, _, SqL.of ea⟩, .ref D, rfl, .str wd, rfl, D, _, wd, rfl, hU7.pg, ?_, by omega, fun Hn on hpn => ⟨.str wd, rfl, by show 2 ≤ sizeLine; decide, fun tt ntt => ?_⟩⟩
          · rw [List.length_append, List.length_append]
            simp only [List.length_cons, List.length_nil]
            omega
          have hU8 := hU7.put hTt on hpn
          have stt := same_new (o := .tup [.int ((pageT z is os ++ cs (kwT kb) ++ [32]).length : Nat), .str wd]) ntt
          have hU9 := hU8.same stt
          have n0 := hU8.dm _ ntt
          obtain ⟨ta2, ea2, epa2⟩ := hU9.a2
          have lta := Each.len epa2
          rw [List.length_map, ownL_len] at lta
          have hU10 := hU9.app2 hTt ea2 upd_same n0 epa2
          refine ⟨A2, refs ta2, _, rfl, rfl, ea2, by unfold refs; rw [List.length_map]; exact small1000 (by omega), ?_⟩
          generalize upd (upd Hn tt (.tup [.int ((pageT z is os ++ cs (kwT kb) ++ [32]).length : Nat), .str wd])) A2 (.lst (refs ta2 ++ [.ref tt])) = Hu at hU10
          refine ⟨.ref D, rfl, by show 2 ≤ sizeLine; decide, fun m4 nm4 => ?_⟩
          have sm4 := same_new (o := .lst [.str "{ n: 1 }", .str "(n: number) [ ]"]) nm4
          have hU11 := hU10.same sm4
          refine ⟨.int jb, rfl, m4, _, (jb : Int), .str (bdT kb), rfl, rfl, SqL.of upd_same, atI_nat hk2, D, _, bdT kb, rfl, hU11.pg, ?_, by omega, fun Hv ov hpv => ?_⟩
          · rw [List.length_append, List.length_append, List.length_append, List.length_append]
            simp only [List.length_cons, List.length_nil]
            omega
          have hU12 := hU11.put hTt ov hpv
          refine ⟨_, _, _, _, os ++ [(kb, wd)], rfl, by rw [List.length_append, hol]; rfl, fun w hw => (List.mem_append.mp hw).elim (hos w) (fun hw => by rw [List.mem_singleton.mp hw]; exact hW), ?_⟩
          have eP : pageT z is os ++ cs (kwT kb) ++ [32] ++ cs wd ++ [32] ++ cs (bdT kb) ++ [32] = pageT z is (os ++ [(kb, wd)]) := by
            unfold pageT
            rw [ownT_snoc]
            simp [List.append_assoc]
          have eL : (ownL (z ++ impT is).length os).map (·.2) ++ [(wd, (pageT z is os ++ cs (kwT kb) ++ [32]).length)] = (ownL (z ++ impT is).length (os ++ [(kb, wd)])).map (·.2) := by
            rw [ownL_snoc, List.map_append]
            unfold pageT
            simp only [List.length_append, List.length_cons, List.length_nil, List.map_cons, List.map_nil]
          rw [eP, eL] at hU12
          exact ⟨hU12.bx.mono (by omega), hU12.of, hU12.pg, hU12.a1, hU12.a2, hU12.dm⟩
        · obtain ⟨y8, y9, y10, y11, os, rfl, hol, hos, hTq⟩ := hP
          have ho2 : os.length ≤ 2 := by omega
          have hFd := fdOf_drw hNm hz his hos (by omega) (by omega)
          obtain ⟨ta, ea, epa⟩ := hTq.a1
          obtain ⟨to, eo, epo⟩ := hTq.a2
          have hold : ∀ c o, c ≠ b → Hi c = some o → Hq c = some o := hTq.of
          have hfq := hold _ _ Lfb hfi
          refine ⟨.ref Lf, rfl, .inl ⟨rfl, _, SqL.of hfq⟩, .str nm, rfl, .ref A1, rfl, .ref A2, rfl, by show 3 ≤ sizeLine; decide, fun tt ntt => ?_⟩
          have stt := same_new (o := .tup [.str nm, .ref A1, .ref A2]) ntt
          have htt := upd_same (H := Hq) (a := tt) (o := .tup [.str nm, .ref A1, .ref A2])
          have hT13 := hTq.same stt
          have lts := Each.len hEf
          have lus := Each.len hEp
          refine ⟨Lf, refs ts, _, rfl, rfl, stt _ _ hfq, by unfold refs; rw [List.length_map]; exact small1000 (by omega), ?_⟩
          have ft : Lf ≠ tt := ne_of_none hfq ntt
          have h14 := fun c o (nc : c ≠ Lf) (e : upd Hq tt (.tup [.str nm, .ref A1, .ref A2]) c = some o) => (upd_ne (o := .lst (refs ts ++ [.ref tt])) nc).trans e
          have hqq := hold _ _ Lpb hqi
          have hq13 := stt _ _ hqq
          have hq14 := h14 _ _ fp.symm hq13
          have DLf : D ≠ Lf := fun w => by rw [w, hfi] at nD; cases nD
          have DLp : D ≠ Lp := fun w => by rw [w, hqi] at nD; cases nD
          have hD14 := h14 _ _ DLf hT13.pg
          have hf14 := upd_same (H := upd Hq tt (.tup [.str nm, .ref A1, .ref A2])) (a := Lf) (o := .lst (refs ts ++ [.ref tt]))
          have htt14 := h14 _ _ ft.symm htt
          have h014 : ∀ c o, c ≠ Lf → Hq c = some o → upd (upd Hq tt (.tup [.str nm, .ref A1, .ref A2])) Lf (.lst (refs ts ++ [.ref tt])) c = some o := fun c o nc e => h14 c o nc (stt _ _ e)
          generalize upd (upd Hq tt (.tup [.str nm, .ref A1, .ref A2])) Lf (.lst (refs ts ++ [.ref tt])) = H14 at hq14 hD14 hf14 htt14 h014
          have hg14 : DGet H14 D (.str "page") (some (.str (S (pageT z is os)))) := by
            have w : valV [((Sum.inr "page" : L2.Key), V.str (S (pageT z is os)))] (.inr "page") = some (.str (S (pageT z is os))) := valV_pos rfl
            rw [← w]
            exact DGet.k (k := Sum.inr "page") hD14
          refine ⟨.ref Lp, rfl, .inl ⟨rfl, _, SqL.of hq14⟩, .str nm, rfl, .ref D, rfl, D, _, rfl, hg14, by show 2 ≤ sizeLine; decide, fun uu nuu => ?_⟩
          have suu := same_new (o := .tup [.str nm, .str (S (pageT z is os))]) nuu
          have huu := upd_same (H := H14) (a := uu) (o := .tup [.str nm, .str (S (pageT z is os))])
          generalize upd H14 uu (.tup [.str nm, .str (S (pageT z is os))]) = H15 at suu huu
          have pu : Lp ≠ uu := ne_of_none hq14 nuu
          have hq15 := suu _ _ hq14
          have fu : Lf ≠ uu := ne_of_none hf14 nuu
          have hZ : ∀ c o, c ≠ Lf → c ≠ Lp → Hq c = some o → upd H15 Lp (.lst (refs us ++ [.ref uu])) c = some o := fun c o n1 n2 e => by
            rw [upd_ne n2]
            exact suu _ _ (h014 c o n1 e)
          have tp : tt ≠ Lp := fun w => by rw [w, hqq] at ntt; cases ntt
          have bq : Hq b ≠ none := hTq.bx.has
          have nSi : ∀ c, Hi c = none → HS c = none := fun c e => by
            cases w : HS c with
            | none => rfl
            | some y =>
              have := hoi c y (fun v => hBi.has (by rw [← v]; exact e)) (fun v => by rw [v, hfi] at e; cases e) (fun v => by rw [v, hqi] at e; cases e) w
              rw [e] at this
              cases this
          have nT : ∀ c, HT c = none → HS c = none := fun c e => nSi c (by
            cases w : Hi c with
            | none => rfl
            | some y =>
              have := oDc c y (fun v => hTt.tb (by rw [← v]; exact e)) w
              rw [e] at this
              cases this)
          have nQ : ∀ c, Hq c = none → HS c = none := fun c e => nT c (hTq.dm c e)
          have TLf : HT Lf ≠ none := fun w => by rw [oDc _ _ Lfb hfi] at w; cases w
          have TLp : HT Lp ≠ none := fun w => by rw [oDc _ _ Lpb hqi] at w; cases w
          have SLf : HS Lf ≠ none := fun w => by rw [hf4] at w; cases w
          have SLp : HS Lp ≠ none := fun w => by rw [hq4] at w; cases w
          have sNN : Same (Nw HT Hq) (Nw HS (upd H15 Lp (.lst (refs us ++ [.ref uu])))) := fun c o e => by
            obtain ⟨e1, e2⟩ := Nw.of e
            exact Nw.at (nT _ e1) (hZ c o (fun v => TLf (by rw [← v]; exact e1)) (fun v => TLp (by rw [← v]; exact e1)) e2)
          have kS : Kp HS Hi (upd H15 Lp (.lst (refs us ++ [.ref uu]))) := fun c o e1 e2 => hZ c o (fun v => SLf (by rw [← v]; exact e1)) (fun v => SLp (by rw [← v]; exact e1)) (hold c o (fun v => hB4.has (by rw [← v]; exact e1)) e2)
          have a1f : A1 ≠ Lf := fun w => by rw [w, hfi] at n1; cases n1
          have a1p : A1 ≠ Lp := fun w => by rw [w, hqi] at n1; cases n1
          have a2f : A2 ≠ Lf := fun w => by rw [w, hfi] at n2; cases n2
          have a2p : A2 ≠ Lp := fun w => by rw [w, hqi] at n2; cases n2
          have nuq : Hq uu = none := by
            cases w : Hq uu with
            | none => rfl
            | some y =>
              by_cases v : uu = Lf
              · exact absurd v.symm fu
              · have := h014 _ _ v w
                rw [nuu] at this
                cases this
          refine ⟨Lp, refs us, _, rfl, rfl, hq15, by unfold refs; rw [List.length_map]; exact small1000 (by omega), ?_⟩
          refine ⟨_, _, _, _, _, _, _, _, fs ++ [fdOf nm z is os], ts ++ [tt], us ++ [uu], n' + 6 + 3 * j2, rfl, by rw [List.length_append, hfl]; rfl, by omega, ?_, fun c o nb nf np e => ?_, ?_, ?_, ?_, ?_, ?_, fun f hf => (List.mem_append.mp hf).elim (hal f) (fun hf => by rw [List.mem_singleton.mp hf]; exact hFd)⟩
          · obtain ⟨o, mm, c, h1, h2⟩ := hTq.bx
            exact Box.mono ⟨o, mm, c, hZ _ _ Lfb.symm Lpb.symm h1, h2⟩ (by omega)
          · exact hZ _ _ nf np (hold _ _ nb (hoi _ _ nb nf np e))
          · rw [upd_ne fp, suu _ _ hf14]
            unfold refs
            rw [List.map_append]
            rfl
          · rw [upd_same]
            unfold refs
            rw [List.map_append]
            rfl
          · refine Each.snoc ⟨A1, A2, ta, to, Nw.at (nQ _ ntt) ?_, Nw.at (nSi _ n1) (hZ _ _ a1f a1p ea), epa.same sNN, Nw.at (nSi _ n2) (hZ _ _ a2f a2p eo), epo.same sNN⟩ (Each.mono (fun _ _ w => FndA.same w kS.nw) hEf)
            rw [upd_ne tp]
            exact suu _ _ htt14
          · refine Each.snoc (Nw.at (nQ _ nuq) ?_) (Each.mono (fun _ _ w => kS.nw _ _ w) hEp)
            rw [upd_ne pu.symm]
            exact huu
          · rw [List.map_append, hnm, List.take_add_one]
            have : (names6.take m)[i]? = names6[i]? := List.getElem?_take_of_lt him
            rw [← this, hnmi]
            rfl
    · obtain ⟨y4, y5, y6, y7, y8, y9, y10, y11, fs, ts, us, n', rfl, hfl, hn', hBi, hoi, hfi, hqi, hEf, hEp, hnm, hal⟩ := hP
      rw [List.length_map, lm] at hfl hn'
      refine ⟨.ref Lf, rfl, .ref Lp, rfl, by show 2 ≤ sizeLine; decide, fun t nt => ?_⟩
      have st := same_new (o := .tup [.ref Lf, .ref Lp]) nt
      have ht := upd_same (H := Hi) (a := t) (o := .tup [.ref Lf, .ref Lp])
      have oE : Off b H (upd Hi t (.tup [.ref Lf, .ref Lp])) := fun c o nc e => st _ _ (hoi c o nc (fun z => by rw [z, nfH] at e; cases e) (fun z => by rw [z, npH] at e; cases e) (o4 c o nc e))
      have sN : Same (Nw HS Hi) (Nw H (upd Hi t (.tup [.ref Lf, .ref Lp]))) := fun c o e => by
        obtain ⟨e1, e2⟩ := Nw.of e
        refine Nw.at ?_ (st _ _ e2)
        cases z : H c with
        | none => rfl
        | some y =>
          by_cases w : c = b
          · obtain ⟨_, _, _, hb, _⟩ := hB4
            rw [w, hb] at e1
            cases e1
          · have := o4 c y w z
            rw [e1] at this
            cases this
      refine q _ n' t Lf Lp ts us fs (by omega) oE (Box.new hBi (hBi.ne nt)) ht (st _ _ hfi) (st _ _ hqi) ?_ nfH npH (Each.mono (fun _ _ z => FndA.same z sN) hEf) (Each.mono (fun _ _ z => sN _ _ z) hEp) ⟨by omega, by omega, by rw [hfl, hnm, List.length_map, lm], hal⟩
      cases z : H t with
      | none => rfl
      | some y =>
        by_cases w : t = b
        · obtain ⟨_, _, _, hb, _⟩ := hBi
          rw [w, hb] at nt
          cases nt
        · have := oE t y w z
          rw [ht] at this
          have e1 := Option.some.inj this
          have := hoi t y w (fun z2 => by rw [z2, nfH] at z; cases z) (fun z2 => by rw [z2, npH] at z; cases z) (o4 t y w z)
          rw [nt] at this
          cases this
end
end M05

set_option Elab.async false
set_option linter.all false
set_option maxRecDepth 100000
set_option maxHeartbeats 8000000
/-! the law: _law_due -/
namespace M05
open PySem PySem.Spec PyProof.Rows L2 GL
theorem scl3 : FnScope ["_law_found", "_law_names", "_law_name", "_law_ahead", "_law_own", "_law_known", "_law_at", "_law_other", "_law_owns", "_law_word", "_law_wrong"] ["_law_found"] (defScope s_law_due) := ⟨rfl, rfl, rfl, by decide +kernel, rfl, by decide +kernel, by decide +kernel⟩
abbrev dueSc : Scope := { kind := .function, names := [(".0", .local), ("_law_name", .local), ("_law_ahead", .local), ("_law_own", .local)], isGenerator := false, isCoroutine := false }
theorem pi_listK {X : Cx} {K : PySem.W.Frag} {tg l : Expr} {tl : TE} (hK : X.K = K) (hl : PE X l tl) : PI X tg l (iList K tl) := by
  subst hK
  exact pi_list hl
theorem badI_sub (all : List Str) : ∀ (kn : List Str) (l : List (Str × Nat)), (badI all kn l).Sublist (l.map (·.2))
  | _, [] => List.Sublist.refl _
  | kn, q :: r => by
    show ((if q.1 ∈ kn ∨ q.1 ∉ all then [q.2] else []) ++ badI all (kn ++ [q.1]) r).Sublist (q.2 :: r.map (·.2))
    have ih := badI_sub all (kn ++ [q.1]) r
    split
    · exact ih.cons₂ _
    · exact ih.cons _
theorem minN_head {x : Nat} {r : List Nat} (h : (x :: r).Pairwise (· < ·)) : minN (x :: r) = x := (minN_of (List.mem_cons_self ..) fun y hy => by
  rcases List.mem_cons.mp hy with rfl | hy
  · exact Nat.le_refl _
  · exact Nat.le_of_lt ((List.pairwise_cons.mp h).1 y hy)).symm
theorem badI_min {all kn : List Str} {l : List (Str × Nat)} {x : Nat} {r : List Nat} (h : (l.map (·.2)).Pairwise (· < ·)) (e : badI all kn l = x :: r) : minN (badI all kn l) = x := by
  have := h.sublist (badI_sub all kn l)
  rw [e] at this ⊢
  exact minN_head this
theorem rep_snoc (q : Str × Nat) : ∀ (kn : List Str) (l : List (Str × Nat)), rep kn (l ++ [q]) = rep kn l ++ (if q.1 ∈ kn ++ l.map (·.1) then [q.2] else [])
  | kn, [] => by
    show (if _ then _ else _) ++ [] = [] ++ _
    simp
  | kn, a :: l => by
    show (if a.1 ∈ kn then [a.2] else []) ++ rep (kn ++ [a.1]) (l ++ [q]) = ((if a.1 ∈ kn then [a.2] else []) ++ rep (kn ++ [a.1]) l) ++ _
    rw [rep_snoc q, show kn ++ [a.1] ++ l.map (·.1) = kn ++ (a :: l).map (·.1) from by simp, List.append_assoc]
theorem repI_snoc (ow : Str → List Str) (q : Str × Nat) : ∀ (kn : List Str) (l : List (Str × Nat)), repI ow kn (l ++ [q]) = repI ow kn l ++ (if (ow q.1).any (fun z => decide (z ∈ kn ++ l.flatMap fun a => ow a.1)) = true then [q.2] else [])
  | kn, [] => by
    show (if _ then _ else _) ++ [] = [] ++ _
    simp
  | kn, a :: l => by
    show (if (ow a.1).any (fun z => decide (z ∈ kn)) then [a.2] else []) ++ repI ow (kn ++ ow a.1) (l ++ [q]) = ((if (ow a.1).any (fun z => decide (z ∈ kn)) then [a.2] else []) ++ repI ow (kn ++ ow a.1) l) ++ _
    rw [repI_snoc ow q, show kn ++ ow a.1 ++ (l.flatMap fun a => ow a.1) = kn ++ (a :: l).flatMap (fun a => ow a.1) from by simp, List.append_assoc]
theorem badI_snoc (all : List Str) (q : Str × Nat) : ∀ (kn : List Str) (l : List (Str × Nat)), badI all kn (l ++ [q]) = badI all kn l ++ (if q.1 ∈ kn ++ l.map (·.1) ∨ q.1 ∉ all then [q.2] else [])
  | kn, [] => by
    show (if _ then _ else _) ++ [] = [] ++ _
    simp
  | kn, a :: l => by
    show (if a.1 ∈ kn ∨ a.1 ∉ all then [a.2] else []) ++ badI all (kn ++ [a.1]) (l ++ [q]) = ((if a.1 ∈ kn ∨ a.1 ∉ all then [a.2] else []) ++ badI all (kn ++ [a.1]) l) ++ _
    rw [badI_snoc all q, show kn ++ [a.1] ++ l.map (·.1) = kn ++ (a :: l).map (·.1) from by simp, List.append_assoc]
theorem badI_app (all : List Str) (kn : List Str) : ∀ (a b : List (Str × Nat)), ∃ t, badI all kn (a ++ b) = badI all kn a ++ t
  | a, [] => ⟨[], by simp⟩
  | a, q :: b => by
    obtain ⟨t, e⟩ := badI_app all kn (a ++ [q]) b
    rw [List.append_assoc, badI_snoc, List.append_assoc] at e
    exact ⟨_, e⟩
theorem Drwn.nodup {fs : List Fd} (h : Drwn fs) : (fs.map Fd.nm).Nodup := by
  rw [h.nm]
  exact List.Nodup.sublist (List.take_sublist _ _) (by decide)
theorem byN_pairs {K : PySem.W.Frag} {H : Hp} : ∀ {fs : List Fd} {os ps : List Addr}, os.length = fs.length → Each (fun p (x : Fd × Addr) => H p = some (.tup [.str x.1.nm, .ref x.2])) ps (fs.zip os) → Paired (fun (p : Addr) (kv : L2.Key × V) => SqT K H p [kV kv.1, kv.2]) ps (byN fs os)
  | [], [], [], _, _ => .nil
  | _ :: _, _ :: _, _ :: _, h, z => .cons (SqT.of z.1) (byN_pairs (Nat.succ.inj h) z.2)
  | [], [], _ :: _, _, z => z.elim
  | _ :: _, _ :: _, [], _, z => z.elim
  | [], _ :: _, _, h, _ => by cases h
  | _ :: _, [], _, h, _ => by cases h
theorem byN_mergeA : ∀ {fs gs : List Fd} {os ps : List Addr}, ps.length = gs.length → os.length = fs.length → ((gs ++ fs).map Fd.nm).Nodup → mergeK (byN gs ps) (byN fs os) = byN (gs ++ fs) (ps ++ os)
  | [], gs, [], ps, _, _, _ => by
    rw [List.append_nil, List.append_nil]
    rfl
  | f :: fs, gs, o :: os, ps, h1, h2, h => by
    have e : gs ++ f :: fs = (gs ++ [f]) ++ fs := by simp
    have e2 : ps ++ o :: os = (ps ++ [o]) ++ os := by simp
    have h3 : ((gs ++ [f] ++ fs).map Fd.nm).Nodup := by rw [← e]; exact h
    show mergeK (putK (byN gs ps) (.inr f.nm) (.ref o)) (byN fs os) = _
    have hn : f.nm ∉ gs.map Fd.nm := by
      rw [List.map_append, List.nodup_append] at h
      intro hm
      exact h.2.2 _ hm f.nm (by simp) rfl
    rw [putK_new _ (byN_none hn), e, e2, ← byN_mergeA (by simp [h1]) (Nat.succ.inj h2) h3, byN_snoc f o h1.symm]
  | [], _, _ :: _, _, _, h, _ => by cases h
  | _ :: _, _, [], _, _, h, _ => by cases h
theorem byN_merge {fs : List Fd} {os : List Addr} (h : os.length = fs.length) (hn : (fs.map Fd.nm).Nodup) : mergeK [] (byN fs os) = byN fs os := byN_mergeA (gs := []) (ps := []) rfl h hn
/-- what is due -/
def DueV (H : Hp) (v : V) : Option (Str × Str × Nat) → Prop
  | none => v = .non
  | some (wd, nm, i) => ∃ t, v = .ref t ∧ H t = some (.tup [.str wd, .str nm, .int (i : Nat)])
section
variable {P : Program} {w : World} {K : PySem.W.Frag} {mg : Str → Option Value} {base : Heap}
def spDue : Sp := fun vs H Q _ => ∃ (Lf : Addr) (ts : List Addr) (fs : List Fd), vs = [.ref Lf] ∧ H Lf = some (.lst (refs ts)) ∧ Each (FndA H) ts fs ∧ Drwn fs ∧ ∀ H' v, Same H H' → DueV H' v (firstBad fs) → Q v H'
set_option maxHeartbeats 20000000 in
theorem ok_due {f : Addr} {fd : FuncData} (F : Fun K "_law_due" "_law_due" s_law_due f fd) (T : Bl K mg) : FnOk P w K mg base CX0 1 f fd ["_law_found"] spDue := by
  refine F.ok scl3 (fun vs H Q E h => ?_) (fun cdv A outer s H vs Q E hr h => ?_)
  · obtain ⟨_, _, _, rfl, _⟩ := h
    rfl
  · obtain ⟨Lf, ts, fs, rfl, hL, hE, hD, q⟩ := h
    refine ⟨_, (pss_cons (ps_setLc (i := 1) (own := [("_law_name", 2), ("_law_ahead", 3), ("_law_own", 4)]) (g := gTup K 3 (gCons (gName 2) (gCons (gName 3) (gCons (gName 4) gNil)))) (by rfl) scl3.nd rfl rfl (sw_true rfl rfl rfl (by decide +kernel)) (pi_list (pv 0)) (blkOk_by (own := [("_law_name", 2), ("_law_ahead", 3), ("_law_own", 4)]) (N := ["_law_found", "_law_names", "_law_name", "_law_ahead", "_law_own", "_law_known", "_law_at", "_law_other", "_law_owns", "_law_word", "_law_wrong"]) (sc := defScope s_law_due) (by decide +kernel)) (fun _ _ _ _ _ => (pg_tup rfl (pgs_cons (pg_name (i := 2) scl3.nd rfl (Or.inl rfl)) (pgs_cons (pg_name (i := 3) scl3.nd rfl (Or.inl rfl)) (pgs_cons (pg_name (i := 4) scl3.nd rfl (Or.inl rfl)) pgs_nil))))) (fun _ _ _ _ _ => pts_nil) (fun _ _ _ _ _ => (pv 2)))
      (pss_cons (ps_for PassesOwn.never rfl (pi_list (pv 0)) (pg_tup rfl (pgs_cons (pg_name (i := 2) scl3.nd rfl (Or.inl rfl)) (pgs_cons (pg_name (i := 3) scl3.nd rfl (Or.inl rfl)) (pgs_cons (pg_name (i := 4) scl3.nd rfl (Or.inl rfl)) pgs_nil))))
        (pss_cons (ps_set (i := 5) scl3.nd rfl (Or.inr rfl) (pe_lst (pa_cons (pv 2) pa_nil)))
        (pss_one (ps_for PassesOwn.never rfl (pi_list (pv 3)) (pg_tup rfl (pgs_cons (pg_name (i := 6) scl3.nd rfl (Or.inl rfl)) (pgs_cons (pg_name (i := 7) scl3.nd rfl (Or.inl rfl)) pgs_nil)))
          (pss_cons (ps_if (PW.pt (pw_or (pt_cmpR (r := rIn K false) op_in_seq (pv 7) (pv 5) (by rfl)) (pw_or1 (pt_cmpR (r := rIn K true) op_notIn_seq (pv 7) (pv 1) (by rfl)))))
            (pss_one (ps_ret (pe_tup (pa_cons pe_str (pa_cons (pv 2) (pa_cons (pv 6) pa_nil))))))
            pss_nil)
          (pss_one (ps_expr (pe_bm PySem.F.plainAttrs_list PySem.F.slot_list_append PySem.F.type_list_append mt_append (pv 5) (pa_cons (pv 7) pa_nil)))))))))
      (pss_cons (ps_set (i := 8) scl3.nd rfl (Or.inl rfl) (pe_callTy (call_dictP rfl) (by rfl) T.dict (by decide +kernel) (pa_cons (pe_lc (own := [("_law_name", 2), ("_law_ahead", 3), ("_law_own", 4)]) (g := gTup K 3 (gCons (gName 2) (gCons (gName 3) (gCons (gName 4) gNil)))) (by rfl) scl3.nd (pi_list (pv 0)) (blkOk_by (own := [("_law_name", 2), ("_law_ahead", 3), ("_law_own", 4)]) (N := ["_law_found", "_law_names", "_law_name", "_law_ahead", "_law_own", "_law_known", "_law_at", "_law_other", "_law_owns", "_law_word", "_law_wrong"]) (sc := defScope s_law_due) (by decide +kernel)) (fun _ _ _ _ _ => (pg_tup rfl (pgs_cons (pg_name (i := 2) scl3.nd rfl (Or.inl rfl)) (pgs_cons (pg_name (i := 3) scl3.nd rfl (Or.inl rfl)) (pgs_cons (pg_name (i := 4) scl3.nd rfl (Or.inl rfl)) pgs_nil))))) (fun _ _ _ _ _ => pts_nil) (fun _ _ _ _ _ => (pe_tup (pa_cons (pv 2) (pa_cons (pe_lc (own := [("_law_at", 6), ("_law_word", 9)]) (g := gTup K 2 (gCons (gName 6) (gCons (gName 9) gNil))) (by rfl) scl3.nd (pi_listK (K := K) rfl (pv 4)) (blkOk_by (own := [("_law_at", 6), ("_law_word", 9)]) (N := ["_law_found", "_law_names", "_law_name", "_law_ahead", "_law_own", "_law_known", "_law_at", "_law_other", "_law_owns", "_law_word", "_law_wrong"]) (sc := dueSc) (by decide +kernel)) (fun _ _ _ _ _ => (pg_tup rfl (pgs_cons (pg_name (i := 6) scl3.nd rfl (Or.inl rfl)) (pgs_cons (pg_name (i := 9) scl3.nd rfl (Or.inl rfl)) pgs_nil)))) (fun _ _ _ _ _ => pts_nil) (fun _ _ _ _ _ => (pv 9))) pa_nil))))) pa_nil)))
      (pss_cons (ps_for PassesOwn.never rfl (pi_list (pv 0)) (pg_tup rfl (pgs_cons (pg_name (i := 2) scl3.nd rfl (Or.inl rfl)) (pgs_cons (pg_name (i := 3) scl3.nd rfl (Or.inl rfl)) (pgs_cons (pg_name (i := 4) scl3.nd rfl (Or.inl rfl)) pgs_nil))))
        (pss_cons (ps_asg (pe_tup (pa_cons (pe_lst pa_nil) (pa_cons (pe_lst pa_nil) pa_nil))) (pg_tup rfl (pgs_cons (pg_name (i := 10) scl3.nd rfl (Or.inl rfl)) (pgs_cons (pg_name (i := 5) scl3.nd rfl (Or.inr rfl)) pgs_nil))))
        (pss_cons (ps_for PassesOwn.never rfl (pi_list (pv 4)) (pg_tup rfl (pgs_cons (pg_name (i := 6) scl3.nd rfl (Or.inl rfl)) (pgs_cons (pg_name (i := 9) scl3.nd rfl (Or.inl rfl)) pgs_nil)))
          (pss_cons (ps_expr (pe_bm PySem.F.plainAttrs_list PySem.F.slot_list_extend PySem.F.type_list_extend mt_extend (pv 10) (pa_cons (pe_ifExp (pt_cmpR (r := rIn K false) op_in_seq (pv 9) (pv 5) (by rfl)) (pe_lst (pa_cons (pv 6) pa_nil)) (pe_lst pa_nil)) pa_nil)))
          (pss_one (ps_expr (pe_bm PySem.F.plainAttrs_list PySem.F.slot_list_append PySem.F.type_list_append mt_append (pv 5) (pa_cons (pv 9) pa_nil))))))
        (pss_cons (ps_for PassesOwn.never rfl (pi_list (pv 3)) (pg_tup rfl (pgs_cons (pg_name (i := 6) scl3.nd rfl (Or.inl rfl)) (pgs_cons (pg_name (i := 7) scl3.nd rfl (Or.inl rfl)) pgs_nil)))
          (pss_cons (ps_expr (pe_bm PySem.F.plainAttrs_list PySem.F.slot_list_extend PySem.F.type_list_extend mt_extend (pv 10) (pa_cons (pe_ifExp (pt_val (pe_callB (cr_any rfl) (by rfl) T.any (by decide +kernel) (pa_cons (pe_lc (own := [("_law_word", 9)]) (g := gName 9) (by rfl) scl3.nd (pi_list (pe_dget (u1 hr) (pv 8) (pv 7) (fun _ _ => rfl))) (blkOk_by (own := [("_law_word", 9)]) (N := ["_law_found", "_law_names", "_law_name", "_law_ahead", "_law_own", "_law_known", "_law_at", "_law_other", "_law_owns", "_law_word", "_law_wrong"]) (sc := defScope s_law_due) (by decide +kernel)) (fun _ _ _ _ _ => (pg_name (i := 9) scl3.nd rfl (Or.inl rfl))) (fun _ _ _ _ _ => pts_nil) (fun _ _ _ _ _ => (pe_cmpR (r := rIn K false) op_in_seq (pv 9) (pv 5) (by rfl)))) pa_nil))) (pe_lst (pa_cons (pv 6) pa_nil)) (pe_lst pa_nil)) pa_nil)))
          (pss_one (ps_set (i := 5) scl3.nd rfl (Or.inr rfl) (pe_op op_cat (pv 5) (pe_dget (u1 hr) (pv 8) (pv 7) (fun _ _ => rfl)))))))
        (pss_one (ps_if (pt_cmpR (op_neE hr.units0) (pv 10) (pe_lst pa_nil) (nomark _))
          (pss_one (ps_ret (pe_tup (pa_cons pe_str (pa_cons (pv 2) (pa_cons (pe_callB (cr_min rfl) (by rfl) T.min (by decide +kernel) (pa_cons (pv 10) pa_nil)) pa_nil))))))
          pss_nil))))))
      (pss_one (ps_ret pe_non)))))), ?_⟩
    have lt := hE.len
    have lr : (refs ts).length = fs.length := by unfold refs; rw [List.length_map, lt]
    have h6 := hD.hi
    refine ⟨.ref Lf, rfl, Lf, rfl, ⟨_, SqL.of hL⟩, fun N nN => ?_⟩
    refine lc_list (K := K) (a := Lf) (xs := refs ts) (fun i Hi => Same H Hi ∧ Hi N = some (.lst (((fs.map Fd.nm).take i).map V.str))) ⟨same_new nN, upd_same⟩ (fun i Hi _ hP => SqL.of (hP.1 _ _ hL)) (fun i x Hi hx hP => ?_) (fun HN hP => ?_)
    · obtain ⟨sm, hN⟩ := hP
      obtain ⟨t, rfl, ht⟩ := ref_at hx
      obtain ⟨f, hf, a, o, ta, to, g1, g2, g3, g4, g5⟩ := hE.at ht
      have hi : i < fs.length := (List.getElem?_eq_some_iff.mp hf).1
      refine ⟨t, _, rfl, SqT.of (sm _ _ g1), rfl, _, _, rfl, _, _, rfl, _, _, rfl, rfl, rfl, .str f.nm, rfl, _, hN, ?_, same_put sm nN, ?_⟩
      · rw [List.length_map, List.length_take]
        exact small1000 (by omega)
      · rw [upd_same, List.take_add_one, List.getElem?_map, hf, List.map_append]
        rfl
    · obtain ⟨smN, hN⟩ := hP
      have e : (refs ts).length = (fs.map Fd.nm).length := by rw [lr, List.length_map]
      rw [e, List.take_length] at hN
      have hLN := smN _ _ hL
      have lN : (fs.map Fd.nm).length ≤ 6 := by rw [List.length_map]; exact h6
      refine ⟨.ref Lf, rfl, Lf, rfl, ⟨_, SqL.of hLN⟩, ?_⟩
      refine for_list (K := K) (a := Lf) (xs := refs ts) (fun i σ Hi => ∃ (y2 y3 y4 y5 y6 y7 : Option V), σ = [some (.ref Lf), some (.ref N), y2, y3, y4, y5, y6, y7, none, none, none] ∧ Same HN Hi ∧ ∀ g ∈ fs.take i, lkB fs 0 g = []) ⟨_, _, _, _, _, _, rfl, fun _ _ e => e, fun _ z => by cases z⟩ (fun i σ Hi _ hP => by obtain ⟨_, _, _, _, _, _, _, sm, _⟩ := hP; exact SqL.of (sm _ _ hLN)) (fun i x σ Hi hx hP => ?_) (fun σ Hi hP => ?_)
      · obtain ⟨y2, y3, y4, y5, y6, y7, rfl, sm, hcl⟩ := hP
        obtain ⟨t, rfl, ht⟩ := ref_at hx
        obtain ⟨f, hf, a, o, ta, to, g1, g2, g3, g4, g5⟩ := hE.at ht
        have hfm := List.mem_of_getElem? hf
        have hdr := hD.al f hfm
        have sHi := smN.trans sm
        refine ⟨t, _, rfl, SqT.of (sHi _ _ g1), rfl, _, _, rfl, _, _, rfl, _, _, rfl, rfl, .str f.nm, rfl, by show 1 ≤ sizeLine; decide, fun M nM => ?_⟩
        have s1 := same_new (o := .lst [.str f.nm]) nM
        have hM := upd_same (H := Hi) (a := M) (o := .lst [.str f.nm])
        have g21 := s1 _ _ (sHi _ _ g2)
        have nMN : HN M = none := none_of_same sm nM
        have lta := g3.len
        have li := hdr.rd.ok.li
        refine ⟨.ref a, rfl, a, rfl, ⟨_, SqL.of g21⟩, ?_⟩
        refine for_list (K := K) (a := a) (xs := refs ta) (fun j σ Hj => ∃ (y6 y7 : Option V), σ = [some (.ref Lf), some (.ref N), some (.str f.nm), some (.ref a), some (.ref o), some (.ref M), y6, y7, none, none, none] ∧ Same HN Hj ∧ Hj M = some (.lst (([f.nm] ++ (f.ims.take j).map (·.1)).map V.str)) ∧ badI (fs.map Fd.nm) [f.nm] (f.ims.take j) = []) ⟨_, _, rfl, sm.trans s1, hM, rfl⟩ (fun j σ Hj _ hP => by
          obtain ⟨_, _, _, smj, _⟩ := hP
          exact SqL.of (smj _ _ (smN _ _ g2))) (fun j x1 σ Hj hx1 hP => ?_) (fun σ Hj hP => ?_)
        · obtain ⟨y6, y7, rfl, smj, hMj, hbj⟩ := hP
          obtain ⟨t2, rfl, ht2⟩ := ref_at hx1
          obtain ⟨y, hy, hT⟩ := Each.at g3 ht2
          have hTj := smj _ _ (smN _ _ hT)
          have hj : j < f.ims.length := (List.getElem?_eq_some_iff.mp hy).1
          have hNj := smj _ _ hN
          have hsn := badI_snoc (fs.map Fd.nm) y [f.nm] (f.ims.take j)
          have htk : f.ims.take (j + 1) = f.ims.take j ++ [y] := by rw [List.take_add_one, hy]; rfl
          refine ⟨t2, _, rfl, SqT.of hTj, rfl, _, _, rfl, _, _, rfl, rfl, .str y.1, rfl, .ref M, rfl, M, _, rfl, .inl (SqL.of hMj), rfl, flatS _, _, rfl, ?_⟩
          rw [inS]
          have raise : (y.1 ∈ [f.nm] ++ (f.ims.take j).map (·.1) ∨ y.1 ∉ fs.map Fd.nm) → ∀ H' t3, Same Hj H' → H' t3 = some (.tup [.str "\x69mport", .str f.nm, .int (y.2 : Nat)]) → Q (.ref t3) H' := fun c H' t3 s3 h3 => by
            rw [hbj, if_pos c, List.nil_append, ← htk] at hsn
            obtain ⟨tl, et⟩ := badI_app (fs.map Fd.nm) [f.nm] (f.ims.take (j + 1)) (f.ims.drop (j + 1))
            rw [List.take_append_drop, hsn] at et
            have hmin := badI_min hdr.ia et
            have hb0 : lkB fs 0 f ≠ [] := by
              show badI (fs.map Fd.nm) [f.nm] f.ims ≠ []
              rw [et]
              simp
            have hfb := firstBad_at (j := 0) (fun k hk => absurd hk (Nat.not_lt_zero _)) hcl hf hb0
            refine q H' _ ((smN.trans smj).trans s3) ?_
            rw [hfb]
            refine ⟨t3, rfl, ?_⟩
            show H' t3 = some (HO.tup [V.str "\x69mport", .str f.nm, .int ((minN (badI (fs.map Fd.nm) [f.nm] f.ims) : Nat) : Int)])
            rw [hmin, h3]
          have szM : (([f.nm] ++ (f.ims.take j).map (·.1)).map V.str).length < sizeLine := by
            rw [List.length_map, List.length_append, List.length_map, List.length_take]
            exact small1000 (by simp only [List.length_singleton]; omega)
          by_cases c1 : y.1 ∈ [f.nm] ++ (f.ims.take j).map (·.1)
          · rw [decide_eq_true c1]
            refine iteT (iteT ⟨.str f.nm, rfl, .int (y.2 : Nat), rfl, by show 3 ≤ sizeLine; decide, fun t3 nt3 => raise (.inl c1) _ t3 (same_new nt3) upd_same⟩)
          · rw [decide_eq_false c1]
            refine iteF ⟨.str y.1, rfl, .ref N, rfl, N, _, rfl, .inl (SqL.of hNj), rfl, flatS _, _, rfl, ?_⟩
            rw [inS]
            by_cases c2 : y.1 ∈ fs.map Fd.nm
            · rw [decide_eq_true c2]
              refine iteF ⟨.ref M, rfl, .inl ⟨rfl, _, SqL.of hMj⟩, .str y.1, rfl, M, _, _, rfl, rfl, hMj, szM, ?_⟩
              refine ⟨_, _, rfl, same_put smj nMN, ?_, ?_⟩
              · rw [upd_same, htk]
                simp
              · rw [htk, hsn, hbj, if_neg (fun z => z.elim c1 fun z => z c2)]
                rfl
            · rw [decide_eq_false c2]
              refine iteT ⟨.str f.nm, rfl, .int (y.2 : Nat), rfl, by show 3 ≤ sizeLine; decide, fun t3 nt3 => raise (.inr c2) _ t3 (same_new nt3) upd_same⟩
        · obtain ⟨y6, y7, rfl, smj, hMj, hbj⟩ := hP
          have e2 : (refs ta).length = f.ims.length := by unfold refs; rw [List.length_map]; exact g3.len
          rw [e2, List.take_length] at hbj
          refine ⟨_, _, _, _, _, _, rfl, smj, fun g hg => ?_⟩
          rw [List.take_add_one, hf] at hg
          rcases List.mem_append.mp hg with hg | hg
          · exact hcl g hg
          · obtain rfl : g = f := by simpa using hg
            exact hbj
      · obtain ⟨y2, y3, y4, y5, y6, y7, rfl, sm, hcl⟩ := hP
        rw [lr, List.take_length] at hcl
        have himp : ∀ f ∈ fs, ∀ q ∈ f.ims, q.1 ∈ fs.map Fd.nm := fun f hf => badI_nil _ (hcl f hf)
        have sHi := smN.trans sm
        have hLi := sHi _ _ hL
        refine ⟨.ref Lf, rfl, Lf, rfl, ⟨_, SqL.of hLi⟩, fun D nD => ?_⟩
        refine lc_list (K := K) (a := Lf) (xs := refs ts) (fun j Hj => Same Hi Hj ∧ ∃ (os ps : List Addr), Hj D = some (.lst (refs ps)) ∧ Each (fun o f => Hj o = some (.lst ((nmsOf f.own).map V.str)) ∧ o ≠ D) os (fs.take j) ∧ Each (fun p (x : Fd × Addr) => Hj p = some (.tup [.str x.1.nm, .ref x.2])) ps ((fs.take j).zip os)) ⟨same_new nD, [], [], upd_same, trivial, trivial⟩ (fun j Hj _ hP => SqL.of (hP.1 _ _ hLi)) (fun j x Hj hx hP => ?_) (fun HO hP => ?_)
        · obtain ⟨sj, os, ps, hDj, hO, hPs⟩ := hP
          obtain ⟨t, rfl, ht⟩ := ref_at hx
          obtain ⟨f, hf, a, o, ta, to, g1, g2, g3, g4, g5⟩ := hE.at ht
          have hfm := List.mem_of_getElem? hf
          have hlo := (hD.al f hfm).rd.ok.lo
          have sHj := sHi.trans sj
          have hj : j < fs.length := (List.getElem?_eq_some_iff.mp hf).1
          refine ⟨t, _, rfl, SqT.of (sHj _ _ g1), rfl, _, _, rfl, _, _, rfl, _, _, rfl, rfl, rfl, .str f.nm, rfl, .ref o, rfl, o, rfl, ⟨_, SqL.of (sHj _ _ g4)⟩, fun W nW => ?_⟩
          have lto := g5.len
          refine lc_list (K := K) (a := o) (xs := refs to) (fun i2 Hk => Same Hj Hk ∧ Hk W = some (.lst (((nmsOf f.own).take i2).map V.str))) ⟨same_new nW, upd_same⟩ (fun i2 Hk _ hQ => SqL.of (hQ.1 _ _ (sHj _ _ g4))) (fun i2 x Hk hx hQ => ?_) (fun Hk hQ => ?_)
          · obtain ⟨sk, hW⟩ := hQ
            obtain ⟨t2, rfl, ht2⟩ := ref_at hx
            obtain ⟨y, hy, hT⟩ := Each.at g5 ht2
            have hi2 : i2 < (f.own.map (·.2)).length := (List.getElem?_eq_some_iff.mp hy).1
            rw [List.length_map] at hi2
            have hny : (nmsOf f.own)[i2]? = some y.1 := by
              rw [← nms_eq, List.getElem?_map, hy]
              rfl
            refine ⟨t2, _, rfl, SqT.of (sk _ _ (sHj _ _ hT)), rfl, _, _, rfl, _, _, rfl, rfl, rfl, .str y.1, rfl, _, hW, ?_, same_put sk nW, ?_⟩
            · rw [List.length_map, List.length_take]
              exact small1000 (by omega)
            · rw [upd_same, List.take_add_one, hny, List.map_append]
              rfl
          · obtain ⟨sk, hW⟩ := hQ
            have e2 : (refs to).length = (nmsOf f.own).length := by
              unfold refs nmsOf
              rw [List.length_map, List.length_map, lto, List.length_map]
            rw [e2, List.take_length] at hW
            have nWi : Hj W = none := nW
            have WD : W ≠ D := fun z => by rw [z, hDj] at nWi; cases nWi
            refine ⟨by show 2 ≤ sizeLine; decide, fun t3 nt3 => ?_⟩
            have s3 := same_new (o := .tup [.str f.nm, .ref W]) nt3
            have hD3 := s3 _ _ (sk _ _ hDj)
            have lo2 := hO.len
            have lp2 := hPs.len
            rw [List.length_zip, lo2, Nat.min_self, List.length_take] at lp2
            have sD : ∀ c o, c ≠ D → Hj c = some o → upd (upd Hk t3 (.tup [.str f.nm, .ref W])) D (.lst (refs ps ++ [.ref t3])) c = some o := fun c o nc e => by rw [upd_ne nc]; exact s3 _ _ (sk _ _ e)
            have t3D : t3 ≠ D := (ne_of_none (sk _ _ hDj) nt3).symm
            have nDi : Hi D = none := nD
            refine ⟨_, hD3, by unfold refs; rw [List.length_map]; exact small1000 (by omega), same_put ((sj.trans sk).trans s3) nD, os ++ [W], ps ++ [t3], by rw [upd_same]; unfold refs; rw [List.map_append]; rfl, ?_, ?_⟩
            · rw [List.take_add_one, hf]
              refine Each.snoc ⟨?_, WD⟩ (Each.mono (fun c f z => ⟨sD c _ z.2 z.1, z.2⟩) hO)
              rw [upd_ne WD]
              exact s3 _ _ hW
            · rw [List.take_add_one, hf]
              show Each _ _ ((fs.take j ++ [f]).zip (os ++ [W]))
              rw [List.zip_append lo2.symm]
              refine Each.snoc ?_ (Each.mono (fun c x z => sD c _ (fun w => by rw [w, hDj] at z; cases z) z) hPs)
              rw [upd_ne t3D]
              exact upd_same
        · obtain ⟨sO, os, ps, hDO, hO, hPs⟩ := hP
          rw [lr, List.take_length] at hO hPs
          have lo := hO.len
          have hnd := hD.nodup
          have hmg : mergeK [] (byN fs os) = byN fs os := byN_merge lo hnd
          refine ⟨D, ps, byN fs os, rfl, SqL.of hDO, byN_pairs lo hPs, fun OD nOD => ?_⟩
          rw [hmg]
          have sOD := same_new (o := .dK (byN fs os)) nOD
          have hOD := upd_same (H := HO) (a := OD) (o := .dK (byN fs os))
          have hO' : Each (fun o f => upd HO OD (.dK (byN fs os)) o = some (.lst ((nmsOf f.own).map V.str))) os fs := Each.mono (fun o f z => sOD _ _ z.1) hO
          have sHP := (sHi.trans sO).trans sOD
          generalize upd HO OD (.dK (byN fs os)) = HP at hOD hO' sHP
          have hLP := sHP _ _ hL
          refine ⟨.ref Lf, rfl, Lf, rfl, ⟨_, SqL.of hLP⟩, ?_⟩
          refine for_list (K := K) (a := Lf) (xs := refs ts) (fun i σ Hj => ∃ (y2 y3 y4 y5 y6 y7 y9 y10 : Option V), σ = [some (.ref Lf), some (.ref N), y2, y3, y4, y5, y6, y7, some (.ref OD), y9, y10] ∧ Same HP Hj ∧ ∀ g ∈ fs.take i, lkB fs 1 g = []) ⟨_, _, _, _, _, _, _, _, rfl, fun _ _ e => e, fun _ z => by cases z⟩ (fun i σ Hj _ hP => by obtain ⟨_, _, _, _, _, _, _, _, _, sm, _⟩ := hP; exact SqL.of (sm _ _ hLP)) (fun i x σ Hj hx hP => ?_) (fun σ Hj hP => ?_)
          · obtain ⟨y2, y3, y4, y5, y6, y7, y9, y10, rfl, sm, hcl1⟩ := hP
            obtain ⟨t, rfl, ht⟩ := ref_at hx
            obtain ⟨f, hf, a, o, ta, to, g1, g2, g3, g4, g5⟩ := hE.at ht
            have hfm := List.mem_of_getElem? hf
            have hdr := hD.al f hfm
            have sHj := sHP.trans sm
            have li := hdr.rd.ok.li
            have lo1 := hdr.rd.ok.lo
            refine ⟨t, _, rfl, SqT.of (sHj _ _ g1), rfl, _, _, rfl, _, _, rfl, _, _, rfl, rfl, ?_⟩
            refine ⟨by show 0 ≤ sizeLine; decide, fun W nW => ⟨by show 0 ≤ sizeLine; decide, fun M nM => ⟨by show 2 ≤ sizeLine; decide, fun tt ntt => ?_⟩⟩⟩
            have s1 := same_new (o := .lst []) nW
            have s2 := same_new (o := .lst []) nM
            have s3 := same_new (o := .tup [.ref W, .ref M]) ntt
            have hW3 := s3 _ _ (s2 _ _ (upd_same (H := Hj) (a := W) (o := .lst [])))
            have hM3 := s3 _ _ (upd_same (H := upd Hj W (.lst [])) (a := M) (o := .lst []))
            have WM : W ≠ M := ne_of_none (upd_same (H := Hj) (a := W) (o := .lst [])) nM
            have htt := upd_same (H := upd (upd Hj W (.lst [])) M (.lst [])) (a := tt) (o := .tup [.ref W, .ref M])
            have s123 := (s1.trans s2).trans s3
            have nMj : Hj M = none := none_of_same s1 nM
            have nWP : HP W = none := none_of_same sm nW
            have nMP : HP M = none := none_of_same sm nMj
            refine ⟨tt, _, rfl, SqT.of htt, rfl, _, _, rfl, _, _, rfl, rfl, ?_⟩
            generalize upd (upd (upd Hj W (.lst [])) M (.lst [])) tt (.tup [.ref W, .ref M]) = Hk at hW3 hM3 s123
            have sPk := sm.trans s123
            have hok := sPk _ _ (sHP _ _ g4)
            have lto := g5.len
            rw [List.length_map] at lto
            refine ⟨.ref o, rfl, o, rfl, ⟨_, SqL.of hok⟩, ?_⟩
            refine for_list (K := K) (a := o) (xs := refs to) (fun j σ Hq => ∃ (y6 y7 y9 : Option V), σ = [some (.ref Lf), some (.ref N), some (.str f.nm), some (.ref a), some (.ref o), some (.ref M), y6, y7, some (.ref OD), y9, some (.ref W)] ∧ Same HP Hq ∧ Hq W = some (.lst (iN (rep [] ((f.own.map (·.2)).take j)))) ∧ Hq M = some (.lst ((((f.own.map (·.2)).take j).map (·.1)).map V.str))) ⟨_, _, _, rfl, sPk, hW3, hM3⟩ (fun j σ Hq _ hP => by
              obtain ⟨_, _, _, _, smq, _⟩ := hP
              exact SqL.of (smq _ _ (sHP _ _ g4))) (fun j x1 σ Hq hx1 hP => ?_) (fun σ Hq hP => ?_)
            · obtain ⟨y6, y7, y9, rfl, smq, hWq, hMq⟩ := hP
              obtain ⟨t2, rfl, ht2⟩ := ref_at hx1
              obtain ⟨y, hy, hT⟩ := Each.at g5 ht2
              have hTq := smq _ _ (sHP _ _ hT)
              have hj : j < (f.own.map (·.2)).length := (List.getElem?_eq_some_iff.mp hy).1
              rw [List.length_map] at hj
              have htk : (f.own.map (·.2)).take (j + 1) = (f.own.map (·.2)).take j ++ [y] := by rw [List.take_add_one, hy]; rfl
              have hsn := rep_snoc y [] ((f.own.map (·.2)).take j)
              rw [List.nil_append] at hsn
              have lrp := rep_len [] ((f.own.map (·.2)).take j)
              have ltk : ((f.own.map (·.2)).take j).length ≤ j := by rw [List.length_take]; exact Nat.min_le_left _ _
              have szW : ∀ k, k ≤ 1 → (iN (rep [] ((f.own.map (·.2)).take j))).length + k ≤ sizeLine := fun k hk => by
                unfold iN
                rw [List.length_map]
                exact big_le (by omega)
              have szM : ((((f.own.map (·.2)).take j).map (·.1)).map V.str).length < sizeLine := by
                rw [List.length_map, List.length_map]
                exact small1000 (by omega)
              refine ⟨t2, _, rfl, SqT.of hTq, rfl, _, _, rfl, _, _, rfl, rfl, ?_⟩
              refine ⟨.ref W, rfl, .inl ⟨rfl, _, SqL.of hWq⟩, .str y.1, rfl, .ref M, rfl, M, _, rfl, .inl (SqL.of hMq), rfl, flatS _, _, rfl, ?_⟩
              rw [inS]
              by_cases c : y.1 ∈ ((f.own.map (·.2)).take j).map (·.1)
              · rw [decide_eq_true c]
                rw [if_pos c] at hsn
                refine iteT ⟨.int (y.2 : Nat), rfl, by show 1 ≤ sizeLine; decide, fun e1 ne1 => ?_⟩
                have se := same_new (o := .lst [.int (y.2 : Nat)]) ne1
                have hWe := se _ _ hWq
                have hMe := se _ _ hMq
                refine ⟨W, e1, _, _, rfl, rfl, hWe, upd_same, szW 1 (Nat.le_refl _), ?_⟩
                have hM4 : upd (upd Hq e1 (.lst [.int (y.2 : Nat)])) W (.lst (iN (rep [] ((f.own.map (·.2)).take j)) ++ [.int (y.2 : Nat)])) M = _ := (upd_ne WM.symm).trans hMe
                refine ⟨.ref M, rfl, .inl ⟨rfl, _, SqL.of hM4⟩, .str y.1, rfl, M, _, _, rfl, rfl, hM4, szM, _, _, _, rfl, same_put (same_put (smq.trans se) nWP) nMP, ?_, ?_⟩
                · rw [upd_ne WM, upd_same, htk, hsn]
                  unfold iN
                  rw [List.map_append]
                  rfl
                · rw [upd_same, htk]
                  simp
              · rw [decide_eq_false c]
                rw [if_neg c, List.append_nil] at hsn
                refine iteF ⟨by show 0 ≤ sizeLine; decide, fun e1 ne1 => ?_⟩
                have se := same_new (o := .lst []) ne1
                have hWe := se _ _ hWq
                have hMe := se _ _ hMq
                refine ⟨W, e1, _, _, rfl, rfl, hWe, upd_same, szW 0 (Nat.zero_le _), ?_⟩
                have hM4 : upd (upd Hq e1 (.lst [])) W (.lst (iN (rep [] ((f.own.map (·.2)).take j)) ++ [])) M = _ := (upd_ne WM.symm).trans hMe
                refine ⟨.ref M, rfl, .inl ⟨rfl, _, SqL.of hM4⟩, .str y.1, rfl, M, _, _, rfl, rfl, hM4, szM, _, _, _, rfl, same_put (same_put (smq.trans se) nWP) nMP, ?_, ?_⟩
                · rw [upd_ne WM, upd_same, htk, hsn, List.append_nil]
                · rw [upd_same, htk]
                  simp
            · obtain ⟨y6, y7, y9, rfl, smq, hWq, hMq⟩ := hP
              have e2 : (refs to).length = (f.own.map (·.2)).length := by unfold refs; rw [List.length_map, List.length_map]; exact lto
              rw [e2, List.take_length, ] at hWq hMq
              rw [nms_eq] at hMq
              have haq := smq _ _ (sHP _ _ g2)
              have lta := g3.len
              have lrp := rep_len [] (f.own.map (·.2))
              rw [List.length_map] at lrp
              have lnm : (nmsOf f.own).length ≤ 100 := by unfold nmsOf; rw [List.length_map]; exact lo1
              refine ⟨.ref a, rfl, a, rfl, ⟨_, SqL.of haq⟩, ?_⟩
              refine for_list (K := K) (a := a) (xs := refs ta) (fun j σ Hr => ∃ (y6 y7 y9 : Option V) (Mk : Addr), σ = [some (.ref Lf), some (.ref N), some (.str f.nm), some (.ref a), some (.ref o), some (.ref Mk), y6, y7, some (.ref OD), y9, some (.ref W)] ∧ Same HP Hr ∧ W ≠ Mk ∧ Hr W = some (.lst (iN (rep [] (f.own.map (·.2)) ++ repI (ownsOf fs) (nmsOf f.own) (f.ims.take j)))) ∧ Hr Mk = some (.lst ((nmsOf f.own ++ (f.ims.take j).flatMap fun b => ownsOf fs b.1).map V.str)) ∧ (nmsOf f.own ++ (f.ims.take j).flatMap fun b => ownsOf fs b.1).length ≤ 100 + 100 * j ∧ (rep [] (f.own.map (·.2)) ++ repI (ownsOf fs) (nmsOf f.own) (f.ims.take j)).length ≤ 100 + j) ⟨_, _, _, M, rfl, smq, WM, by rw [hWq]; show some (L2.HO.lst (iN _)) = some (L2.HO.lst (iN (_ ++ []))); rw [List.append_nil], by rw [hMq]; show some (L2.HO.lst (List.map V.str _)) = some (L2.HO.lst (List.map V.str (_ ++ []))); rw [List.append_nil], by show (_ ++ []).length ≤ _; rw [List.append_nil]; omega, by show (_ ++ []).length ≤ _; rw [List.append_nil]; omega⟩ (fun j σ Hr _ hP => by
                obtain ⟨_, _, _, _, _, smr, _⟩ := hP
                exact SqL.of (smr _ _ (sHP _ _ g2))) (fun j x1 σ Hr hx1 hP => ?_) (fun σ Hr hP => ?_)
              · obtain ⟨y6, y7, y9, Mk, rfl, smr, WMk, hWr, hMr, hlk, hlw⟩ := hP
                obtain ⟨t2, rfl, ht2⟩ := ref_at hx1
                obtain ⟨y, hy, hT⟩ := Each.at g3 ht2
                have hTr := smr _ _ (sHP _ _ hT)
                have hj : j < f.ims.length := (List.getElem?_eq_some_iff.mp hy).1
                have htk : f.ims.take (j + 1) = f.ims.take j ++ [y] := by rw [List.take_add_one, hy]; rfl
                have hsn := repI_snoc (ownsOf fs) y (nmsOf f.own) (f.ims.take j)
                obtain ⟨gi, g, hgi, hgn, hgo, hgm⟩ := find_of (himp f hfm y (List.mem_of_getElem? hy))
                obtain ⟨og, hog, hOg⟩ := Each.get hO' hgi
                have hglo := (hD.al g hgm).rd.ok.lo
                have lgo : (nmsOf g.own).length ≤ 100 := by unfold nmsOf; rw [List.length_map]; exact hglo
                have hv : valV (byN fs os) (.inr y.1) = some (.ref og) := by
                  have := byN_some hnd hgi hog
                  rw [hgn] at this
                  exact this
                have dg : ∀ {Hc : Hp}, Same HP Hc → DGet Hc OD (.str y.1) (some (.ref og)) := fun sc => by
                  rw [← hv]
                  exact DGet.k (k := Sum.inr y.1) (sc _ _ hOD)
                have hogr := smr _ _ hOg
                generalize hkn : (nmsOf f.own ++ (f.ims.take j).flatMap fun b => ownsOf fs b.1) = kn at hMr hlk hsn
                refine ⟨t2, _, rfl, SqT.of hTr, rfl, _, _, rfl, _, _, rfl, rfl, ?_⟩
                refine ⟨.ref W, rfl, .inl ⟨rfl, _, SqL.of hWr⟩, .ref OD, rfl, .str y.1, rfl, OD, .ref og, rfl, dg smr, og, rfl, ⟨_, SqL.of hogr⟩, fun B nB => ?_⟩
                refine lc_list (K := K) (a := og) (xs := (nmsOf g.own).map V.str) (fun i3 Hk => Same Hr Hk ∧ Hk B = some (.lst ((((nmsOf g.own).take i3).map fun z => decide (z ∈ kn)).map V.bl))) ⟨same_new nB, upd_same⟩ (fun i3 Hk _ hQ => SqL.of (hQ.1 _ _ hogr)) (fun i3 x Hk hx hQ => ?_) (fun Hk hQ => ?_)
                · obtain ⟨sk, hB⟩ := hQ
                  obtain ⟨z, rfl, hz⟩ : ∃ z, x = .str z ∧ (nmsOf g.own)[i3]? = some z := by
                    rw [List.getElem?_map] at hx
                    obtain ⟨t, h1, e⟩ := Option.map_eq_some_iff.mp hx
                    exact ⟨t, e.symm, h1⟩
                  have hi3 : i3 < (nmsOf g.own).length := (List.getElem?_eq_some_iff.mp hz).1
                  refine ⟨rfl, .str z, rfl, .ref Mk, rfl, Mk, _, rfl, .inl (SqL.of (sk _ _ hMr)), rfl, flatS kn, _, hB, by rw [List.length_map, List.length_map, List.length_take]; exact small1000 (by omega), same_put sk nB, ?_⟩
                  rw [upd_same, List.take_add_one, hz, inS, List.map_append, List.map_append]
                  rfl
                · obtain ⟨sk, hB⟩ := hQ
                  rw [List.length_map, List.take_length] at hB
                  have hWk := sk _ _ hWr
                  have hMk := sk _ _ hMr
                  have hok2 := sk _ _ hogr
                  have smk := smr.trans sk
                  have anyE : ((nmsOf g.own).map fun z => decide (z ∈ kn)).any id = (nmsOf g.own).any fun z => decide (z ∈ kn) := by rw [List.any_map]; rfl
                  have szK : (kn.map V.str).length + ((nmsOf g.own).map V.str).length ≤ sizeLine := by
                    rw [List.length_map, List.length_map]
                    exact big_le (by omega)
                  have catK : kn.map V.str ++ (nmsOf g.own).map V.str = ((nmsOf f.own ++ (f.ims.take (j + 1)).flatMap fun b => ownsOf fs b.1)).map V.str := by
                    rw [htk, List.flatMap_append, ← List.append_assoc, hkn, ← List.map_append]
                    show _ = List.map V.str (kn ++ (ownsOf fs y.1 ++ []))
                    rw [List.append_nil, hgo]
                  have lenK : (nmsOf f.own ++ (f.ims.take (j + 1)).flatMap fun b => ownsOf fs b.1).length ≤ 100 + 100 * (j + 1) := by
                    have e := congrArg List.length catK
                    rw [List.length_append, List.length_map, List.length_map, List.length_map] at e
                    omega
                  have hWP : ∀ {Hc : Hp}, Hc W = some (.lst (iN (rep [] (f.own.map (·.2)) ++ repI (ownsOf fs) (nmsOf f.own) (f.ims.take j)))) → True := fun _ => trivial
                  have szW : ∀ k, k ≤ 1 → (iN (rep [] (f.own.map (·.2)) ++ repI (ownsOf fs) (nmsOf f.own) (f.ims.take j))).length + k ≤ sizeLine := fun k hk => by
                    unfold iN
                    rw [List.length_map]
                    exact big_le (by omega)
                  have nWk : HP W = none := nWP
                  refine ⟨B, _, rfl, SqL.of hB, _, rfl, ?_⟩
                  rw [anyE]
                  rw [hgo] at hsn
                  by_cases c : ((nmsOf g.own).any fun z => decide (z ∈ kn)) = true
                  · rw [c]
                    rw [if_pos c] at hsn
                    refine iteT ⟨.int (y.2 : Nat), rfl, by show 1 ≤ sizeLine; decide, fun e1 ne1 => ?_⟩
                    have se := same_new (o := .lst [.int (y.2 : Nat)]) ne1
                    refine ⟨W, e1, _, _, rfl, rfl, se _ _ hWk, upd_same, szW 1 (Nat.le_refl _), ?_⟩
                    have s5 := same_put (smk.trans se) nWP (o := .lst (iN (rep [] (f.own.map (·.2)) ++ repI (ownsOf fs) (nmsOf f.own) (f.ims.take j)) ++ [.int (y.2 : Nat)]))
                    have hM5 : upd (upd Hk e1 (.lst [.int (y.2 : Nat)])) W (.lst (iN (rep [] (f.own.map (·.2)) ++ repI (ownsOf fs) (nmsOf f.own) (f.ims.take j)) ++ [.int (y.2 : Nat)])) Mk = _ := (upd_ne WMk.symm).trans (se _ _ hMk)
                    have hW5 := upd_same (H := upd Hk e1 (.lst [.int (y.2 : Nat)])) (a := W) (o := .lst (iN (rep [] (f.own.map (·.2)) ++ repI (ownsOf fs) (nmsOf f.own) (f.ims.take j)) ++ [.int (y.2 : Nat)]))
                    generalize upd (upd Hk e1 (.lst [.int (y.2 : Nat)])) W (.lst (iN (rep [] (f.own.map (·.2)) ++ repI (ownsOf fs) (nmsOf f.own) (f.ims.take j)) ++ [.int (y.2 : Nat)])) = H5 at s5 hM5 hW5
                    refine ⟨.ref Mk, rfl, .ref OD, rfl, .str y.1, rfl, OD, .ref og, rfl, dg s5, Mk, og, _, _, rfl, rfl, hM5, s5 _ _ hOg, szK, fun M2 nM2 => ?_⟩
                    refine ⟨_, _, _, M2, rfl, s5.trans (same_new nM2), ne_of_none hW5 nM2, ?_, by rw [upd_same, catK], lenK, ?_⟩
                    · rw [upd_ne (ne_of_none hW5 nM2), hW5, htk, hsn]
                      unfold iN
                      simp [List.append_assoc]
                    · rw [htk, hsn, ← List.append_assoc, List.length_append]
                      simp only [List.length_singleton]
                      omega
                  · have c' : ((nmsOf g.own).any fun z => decide (z ∈ kn)) = false := by simpa using c
                    rw [c']
                    rw [if_neg c, List.append_nil] at hsn
                    refine iteF ⟨by show 0 ≤ sizeLine; decide, fun e1 ne1 => ?_⟩
                    have se := same_new (o := .lst []) ne1
                    refine ⟨W, e1, _, _, rfl, rfl, se _ _ hWk, upd_same, szW 0 (Nat.zero_le _), ?_⟩
                    have s5 := same_put (smk.trans se) nWP (o := .lst (iN (rep [] (f.own.map (·.2)) ++ repI (ownsOf fs) (nmsOf f.own) (f.ims.take j)) ++ []))
                    have hM5 : upd (upd Hk e1 (.lst [])) W (.lst (iN (rep [] (f.own.map (·.2)) ++ repI (ownsOf fs) (nmsOf f.own) (f.ims.take j)) ++ [])) Mk = _ := (upd_ne WMk.symm).trans (se _ _ hMk)
                    have hW5 := upd_same (H := upd Hk e1 (.lst [])) (a := W) (o := .lst (iN (rep [] (f.own.map (·.2)) ++ repI (ownsOf fs) (nmsOf f.own) (f.ims.take j)) ++ []))
                    generalize upd (upd Hk e1 (.lst [])) W (.lst (iN (rep [] (f.own.map (·.2)) ++ repI (ownsOf fs) (nmsOf f.own) (f.ims.take j)) ++ [])) = H5 at s5 hM5 hW5
                    refine ⟨.ref Mk, rfl, .ref OD, rfl, .str y.1, rfl, OD, .ref og, rfl, dg s5, Mk, og, _, _, rfl, rfl, hM5, s5 _ _ hOg, szK, fun M2 nM2 => ?_⟩
                    refine ⟨_, _, _, M2, rfl, s5.trans (same_new nM2), ne_of_none hW5 nM2, ?_, by rw [upd_same, catK], lenK, ?_⟩
                    · rw [upd_ne (ne_of_none hW5 nM2), hW5, htk, hsn, List.append_nil]
                    · rw [htk, hsn]
                      omega
              · obtain ⟨y6, y7, y9, Mk, rfl, smr, WMk, hWr, hMr, hlk, hlw⟩ := hP
                have e3 : (refs ta).length = f.ims.length := by unfold refs; rw [List.length_map]; exact lta
                rw [e3, List.take_length] at hWr
                have etw : rep [] (f.own.map (·.2)) ++ repI (ownsOf fs) (nmsOf f.own) f.ims = lkB fs 1 f := rfl
                rw [etw] at hWr
                refine ⟨.ref W, rfl, by show 0 ≤ sizeLine; decide, fun E0 nE => ?_⟩
                have sE := same_new (o := .lst []) nE
                have hWE := sE _ _ hWr
                refine ⟨W, E0, _, rfl, rfl, SqL.of hWE, SqL.of upd_same, _, rfl, ?_⟩
                cases hns : lkB fs 1 f with
                | nil =>
                  refine iteF ⟨_, _, _, _, _, _, _, _, rfl, smr.trans sE, fun g hg => ?_⟩
                  rw [List.take_add_one, hf] at hg
                  rcases List.mem_append.mp hg with hg | hg
                  · exact hcl1 g hg
                  · obtain rfl : g = f := by simpa using hg
                    exact hns
                | cons n0 r0 =>
                  have hne : lkB fs 1 f ≠ [] := by rw [hns]; simp
                  have hfb := firstBad_at (j := 1) (fun k hk => by
                    obtain rfl : k = 0 := by omega
                    exact hcl) hcl1 hf hne
                  rw [hns] at hWE
                  refine iteT ⟨.str f.nm, rfl, .ref W, rfl, W, (n0 :: r0).map Int.ofNat, rfl, ?_, by simp, fun m hm hy => ⟨by show 3 ≤ sizeLine; decide, fun t3 nt3 => ?_⟩⟩
                  · unfold iN at hWE
                    rw [List.map_map]
                    exact SqL.of hWE
                  · obtain ⟨m, hm2, rfl⟩ := List.mem_map.mp hm
                    have hmin := minN_of hm2 fun y hy' => Int.ofNat_le.mp (hy _ (List.mem_map_of_mem hy'))
                    refine q _ _ (((sHP.trans smr).trans sE).trans (same_new nt3)) ?_
                    rw [hfb]
                    refine ⟨t3, rfl, ?_⟩
                    rw [upd_same]
                    show some (L2.HO.tup [V.str "twice", .str f.nm, .int (m : Int)]) = some (L2.HO.tup [V.str "twice", .str f.nm, .int ((minN (lkB fs 1 f) : Nat) : Int)])
                    rw [hns, ← hmin]
          · obtain ⟨y2, y3, y4, y5, y6, y7, y9, y10, rfl, sm, hcl1⟩ := hP
            rw [lr, List.take_length] at hcl1
            refine q Hj .non (sHP.trans sm) ?_
            have : firstBad fs = none := by
              unfold firstBad
              rw [firstP_none hcl, firstP_none hcl1]
            rw [this]
            rfl
end
end M05

set_option Elab.async false
set_option linter.all false
set_option maxRecDepth 100000
set_option maxHeartbeats 4000000
/-! a caught error that is kept behind its except suite -/
namespace TK
open PySem PySem.Spec PyProof.Rows L2
/-- an error of the class cls, its own dict at d -/
def ExO (a : Addr) (cls : Value) (d : Option Addr) : HO := .ext fun h => ∃ (ob : Obj) (fv : Array Value), h.get? a = some ob ∧ Zc cls d ob ∧ ob.data = .fields fv
section
variable {X : Cx} {pins : List (Addr × Obj)} {σ : L2.St} {H : Hp} {s : Shared} {a : Addr} {cls : Value} {d : Option Addr}
theorem exO_at (ok : HOk X.prog X.w H s.heap) (h : H a = some (ExO a cls d)) : ∃ (ob : Obj) (fv : Array Value), s.heap.get? a = some ob ∧ Zc cls d ob ∧ ob.data = .fields fv := (ok a _ h).1
theorem track {ob : Obj} {fv : Array Value} (I : Inv X pins σ H s) (g : s.heap.get? a = some ob) (z : Zc cls d ob) (hd : ob.data = .fields fv) (na : H a = none) (nL : a ≠ X.env.locals) (np : ∀ p ∈ X.pn ++ pins, p.1 ≠ a)
    (n0 : ∀ o, X.s_0.heap.get? a = some o → a ∈ X.ex) : Inv X pins σ (upd H a (ExO a cls d)) s := by
  have off : ∀ {b : Addr} {o : HO}, H b = some o → upd H a (ExO a cls d) b = some o := fun {b o} e => by
    rw [upd_ne (ne_of_none e na)]
    exact e
  refine ⟨I.ok, I.os, I.bare, ⟨I.base.keep, I.base.slot, fun b o e n x => ?_, I.base.there, fun b xs e => off (I.base.tups b xs e), fun b o u e => off (I.base.frzs b o u e), fun b ps e => ?_⟩, I.loc, I.cell, ?_, fun x c e => ?_, fun p hp => ?_, fun b u e => ?_, I.len⟩
  · have nb : b ≠ a := fun q => by
      subst q
      exact x (n0 o e)
    rw [upd_ne nb]
    exact I.base.free b o e n x
  · obtain ⟨more, q⟩ := I.base.tbls b ps e
    exact ⟨more, off q⟩
  · rw [upd_ne nL.symm]
    exact I.free
  · obtain ⟨v, o, ho, hc⟩ := I.cell x c e
    have nc : c ≠ a := fun q => by
      subst q
      rw [g] at ho
      cases ho
      rw [hd] at hc
      cases hc
    rw [upd_ne nc]
    exact I.freeC x c e
  · obtain ⟨p1, p2, p3⟩ := I.pin p hp
    refine ⟨p1, ?_, p3⟩
    rw [upd_ne (np p hp)]
    exact p2
  · by_cases q : b = a
    · subst q
      rw [upd_same] at e
      cases e
      exact ⟨⟨ob, fv, g, z, hd⟩, ⟨ob, g⟩, fun h1 h2 ⟨o, f, e1, e2, e3⟩ k => ⟨o, f, k _ e1, e2, e3⟩⟩
    · rw [upd_ne q] at e
      exact (I.hok b u e).stay (fun _ _ _ r => r) (fun _ r => off r) fun _ _ r => off r
end
/-- what 'except x as n' wishes of an error of the body, the error being kept -/
def wAsK (K : PySem.W.Frag) (c : Value) (i : Nat) (ts : Addr → Value → Option Addr → TS) (Wout : WX) (D : Ends) : WX := fun cls d σ H => ∃ t, PySem.W.exmOne K cls c = some t ∧
  (t = true → ∀ a, H a = none → ts a cls d { nx := fun σ' H' => H' a = none → D.nx (σ'.set i none) (upd H' a (ExO a cls d)), rt := fun _ _ => False, bk := fun _ _ => False, ct := fun _ _ => False } (σ.set i (some (.ref a))) H) ∧ (t = false → Wout cls d σ H)
section
variable {X : Cx} {x n : Str} {c : Value} {i : Nat} {bd su : List Stmt} {st : Stmt} {p1 p2 p3 : Pos} {tb : WX → TS} {ts : Addr → Value → Option Addr → TS} {Wout : WX}
/-- try: .., except x as n: .. -/
theorem ps_tryK (hs : X.stack = X.env :: X.outer) (hf : X.env.frame = some X.env.locals) (nd : X.N.Nodup) (hi : X.N[i]? = some n) (kd : X.env.kindOf n = some .local) (nm : Names X x c) (tk : Takes X Wout)
    (hb : ∀ (W : WX) (pn : List (Addr × Obj)) (xe : Value → Shared → Prop), Takes (X.tr pn xe) W → PassesOwn (model X.prog X.w) X.A X.env xe → PSs (X.tr pn xe) bd (tb W))
    (hh : ∀ (a : Addr) (ob : Obj) (cls : Value) (d : Option Addr) (pn : List (Addr × Obj)), Zc cls d ob → (∃ fv, ob.data = .fields fv) → PSs (X.suite a ((a, ob) :: pn)) (st :: su) (ts a cls d)) :
    PS X (.Try bd [.ExceptHandler (some (.Name x p1)) (some n) (st :: su) p2] [] [] p3) (fun D σ H => tb (wAsK X.K c i ts Wout D) D σ H) := by
  refine ⟨fun pins s σ H D I h => wpAny_Try_except ?_⟩
  have okX := I.ok
  have fr0 : X.A.frames = some (X.env :: X.outer) := by rw [okX.frames, hs]
  refine wpAny_mono ((hb (wAsK X.K c i ts Wout D) (X.pn ++ pins) _ (fun u s' q => ?caught) PassesOwn.looking).run [] s σ H D (I.toTry _) h) (fun f s1 q => ?ran) (fun e s1 q => q)
  case ran =>
    match f, q with
    | .next, ⟨σ1, H1, J, q1⟩ => exact wpAny_execs_nil ⟨σ1, H1, J.ofTry okX, q1⟩
    | .brk, ⟨σ1, H1, J, q1⟩ => exact ⟨σ1, H1, J.ofTry okX, q1⟩
    | .cont, ⟨σ1, H1, J, q1⟩ => exact ⟨σ1, H1, J.ofTry okX, q1⟩
    | .ret _, ⟨v, σ1, H1, J, r, q1⟩ => exact ⟨v, σ1, H1, J.ofTry okX, r, q1⟩
  case caught =>
    obtain ⟨a, G, s0, pi, σ1, H1, cls, d, rfl, J0, gr, up, sky, na, os, ag, t, ht, yes, no⟩ := q
    have J : Inv X pins σ1 H1 s0 := J0.ofTry okX
    rw [show (X.tr (X.pn ++ pins) _).stack = X.env :: X.outer from hs] at sky gr
    show wpAny (model X.prog X.w) X.A (noteFrame (.ref a) X.env) _ _ _
    refine Sky.land Zc.steady fr0 hf sky fun h3 f3 u3 => ?_
    have gr' : ∀ b o, s0.heap.get? b = some o → b ∉ frs X.stack → G.get? b = some o := fun b o e nb => gr b o e (by rw [← hs]; exact nb)
    have J3 : Inv X pins σ1 H1 { s' with heap := h3 } := J.landed gr' f3.1 (up.trans u3) os ag
    obtain ⟨o3, v3, g3, z3, d3⟩ := f3.there
    have nfr : a ∉ frs (X.env :: X.outer) := fun hm => by
      obtain ⟨_, o', e', hnf⟩ := f3.2.2.1.mem hm
      rw [g3] at e'
      cases e'
      exact hnf _ d3
    have nL : a ≠ X.env.locals := fun q => nfr (List.mem_filterMap.mpr ⟨X.env, List.mem_cons_self, by rw [hf, q]⟩)
    have nF : a ∉ X.fs := fun hm => by
      obtain ⟨e, he, q⟩ := List.mem_filterMap.mp hm
      exact nfr (List.mem_filterMap.mpr ⟨e, List.mem_cons_of_mem _ he, q⟩)
    have new0 : ∀ o, s0.heap.get? a ≠ some o := fun o e => by
      have := gr a o e nfr
      rw [f3.2.1] at this
      cases this
    have S3 := J3.suite g3 d3 na nL nF
    refine wpAny_handleBy_cons (codeAny_handlers_test ?_) (by intro q; cases q)
    have LT : PySem.W.Looks (model X.prog X.w) h3 (typeOf (.ref a)) cls := fun A Q E s k q => wpAny_typeOf_ref (k _ _ g3) (by rw [z3.1]; exact q)
    have LM := PySem.W.exm_one (M := model X.prog X.w) J3.kIn LT ht
    have ask : ∀ {Q E : Value → Shared → Prop}, Q c { s' with heap := h3 } → wpAny (model X.prog X.w) (X.A.mark (some (.ref a))) (eval (.Name x p1) X.env) Q E { s' with heap := h3 } := fun {Q E} q => by
      rcases nm with ⟨hg, hdb, hm | ⟨hm, hv, hnn⟩⟩
      · exact ld_glob (X := X.suite a ((a, o3) :: (X.pn ++ pins))) S3 hg hm q hdb
      · exact ld_blt (X := X.suite a ((a, o3) :: (X.pn ++ pins))) S3 hg hm hv q hnn hdb
    refine ask (LM.here ?_)
    cases t with
    | true =>
      refine codeAny_handlers_suite_as (HandSPX.lands_againZ f3 fun h4 f4 u4 => ?_)
      have J4 : Inv X pins σ1 H1 { s' with heap := h4 } := J.landed gr' f4.1 ((up.trans u3).trans u4) os ag
      obtain ⟨o4, v4, g4, z4, d4⟩ := f4.there
      have S4 := J4.suite g4 d4 na nL nF
      refine store_ok (X := X.suite a ((a, o4) :: (X.pn ++ pins))) (v := .ref a) S4 nd hi (.inl kd) rfl (fun s5 S5 => ?_) (.inr kd)
      refine wpAny_mono ((hh a o4 cls d (X.pn ++ pins) z4 ⟨_, d4⟩).run [] s5 _ H1 _ S5 (yes rfl a na)) (fun f s6 q => ?_) (fun _ _ q => False.elim q)
      match f, q with
      | .next, ⟨σ6, H6, S6, q6⟩ =>
        obtain ⟨w1, w2, w3, _⟩ := S6.pin (a, o4) (List.mem_append_left _ List.mem_cons_self)
        have J6 : Inv X pins σ6 H6 s6 := S6.unsuite okX
        have T6 := track J6 w1 z4 d4 w2 nL (fun p hp e => by
          have := (J.pin p hp).1
          rw [e] at this
          exact new0 _ this) (fun o e => Classical.byContradiction fun hx => by
          obtain ⟨o', e'⟩ := J.base.there a o e hx
          exact new0 _ e')
        exact gone_ok T6 nd hi kd fun s7 J7 => ⟨_, _, J7, q6 w2⟩
      | .brk, ⟨_, _, _, q6⟩ => exact q6.elim
      | .cont, ⟨_, _, _, q6⟩ => exact q6.elim
      | .ret _, ⟨_, _, _, _, _, q6⟩ => exact q6.elim
    | false =>
      show wpAny _ X.A (handleBy (.ref a) X.env []) _ _ _
      refine wpAny_handleBy_nil ?_
      obtain ⟨k1, k2, k3, o5, v5, T, oT, t5, g5, z5, d5, e5, r5⟩ := id f3
      unfold PySem.passOn
      refine wpAny_bind (wpAny_field g5 d5 e5 ?_)
      rw [if_neg (show ¬ ((Value.ref T == Value.none) = true) from by simp)]
      have fin : wpAny (model X.prog X.w) X.A (setFlight (.ref a) X.env.frame) (fun _ s4 => wpAny (model X.prog X.w) X.A (throw (.ref a) : Sem Flow) (SP X pins D) X.xe s4) X.xe { s' with heap := h3 } := by
        rw [hf]
        refine HandSPX.setFlight_upZ f3 fun h4 w4 u4 => wpAny_throw (tk _ _ ?_)
        exact ⟨a, G, s0, pins, σ1, H1, cls, d, rfl, J, gr', (up.trans u3).trans u4, .inr (.inr (by rw [hs]; exact w4)), na, os, ag, no rfl⟩
      first
        | exact wpAny_bind (wpAny_pure (wpAny_bind fin))
        | exact wpAny_bind fin
end
end TK

set_option Elab.async false
set_option linter.all false
set_option maxRecDepth 100000
set_option maxHeartbeats 4000000
/-! isinstance of a kept error, its fields -/
namespace TK
open PySem PySem.Spec PyProof.Rows L2
section
variable {prog : Program} {w : World} {A : Around} {E : Value → Shared → Prop} {K : PySem.W.Frag} {x D : Addr} {ob : Obj} {od : Option Obj}
theorem find_bind {nm : Str} {v g : Value} (c : (PySem.W.clsIn K D).isSome = true) (h1 : PySem.W.findIn K (.ref D) nm = some (some v)) (h2 : PySem.W.specialIn K v "__get__" = some (some g)) (h3 : PySem.W.takesIn K v = some true) : PySem.W.findObj K D od nm = some (.bind g v) := by
  obtain ⟨cd, hcd⟩ := Option.isSome_iff_exists.mp c
  unfold PySem.W.findObj
  rw [hcd, Option.bind_some, h1, Option.bind_some]
  simp [h2, h3]
/-- e.__class__ -/
theorem exc_class {Q : Option Value → Shared → Prop} {s : Shared} (C : ExcC K D) (X : K.In s.heap) (I : PySem.W.InstAt s.heap x ob D od) (h : Q (some (.ref D)) { s with toks := s.toks + 1 }) : wpAny (model prog w) A (getAttr? (.ref x) "__class__") Q E s := by
  have cs : (PySem.W.clsIn K D).isSome = true := by
    obtain ⟨cd, hcd, _⟩ := PySem.W.any_some C.hd
    rw [hcd]
    rfl
  have fd := find_bind (od := od) cs C.ha C.hn C.ht
  obtain ⟨hp, gs, dr, n, os⟩ := s
  have T0 := I.type (M := model prog w)
  have T1 := PySem.W.looks_findIn (M := model prog w) X C.hg
  have T2 := PySem.W.looks_findIn (M := model prog w) X C.hk
  have T3 := PySem.W.looks_find (M := model prog w) X I fd
  have T4 : PySem.W.Looks (model prog w) hp (isInstance (.ref x) (.type "BaseException")) true := T0.andThen (PySem.W.looks_subIn X C.hs)
  have n1 : (Value.builtin "BaseException.__getattribute__" == Value.builtin "object.__getattribute__") = false := by decide +kernel
  unfold getAttr?; unfold getAttrBy?; unfold getAttrBy
  refine wpAny_bind (wpAny_mkText (wpAny_bind (wpAny_attempt (wpAny_holding (wpAny_bind (T0.at (wpAny_bind (T1.at ?a))))))))
  show wpAny _ _ (if (onTheHeap (Value.ref D) && (Value.builtin "BaseException.__getattribute__" == Value.builtin "object.__getattribute__")) = true then _ else _) _ _ _
  rw [n1, Bool.and_false, if_neg Bool.false_ne_true]
  unfold getAttrByItsOwn; unfold hookBefore
  refine wpAny_bind ?_
  have oh : onTheHeap (Value.ref D) = true := rfl
  rw [if_pos oh]
  refine T2.at ?_
  refine wpAny_bind (wpAny_attempt (wpAny_holding ?_))
  unfold callGetattribute
  rw [if_neg (show ¬ ((false && onTheHeap (Value.builtin "BaseException.__getattribute__")) = true) from Bool.false_ne_true)]
  unfold boundAndCalled
  rw [PySem.F.excAttr_ValueError.ga.bind (.ref x)]
  refine wpAny_bind (wpAny_pure (wpAny_call (codeAny_call_builtin PySem.F.excAttr_ValueError.ga.plain PySem.F.entry_bexc_ga ?_)))
  refine @PySem.W.check_slot (model prog w) _ _ ⟨hp, gs, dr, n + 1, os⟩ "BaseException.__getattribute__" "BaseException" "__getattribute__" (.ref x) [.str "__class__" n] [] _ (by decide +kernel) (by decide +kernel) T4 (PySem.F.args_bexc_ga (.ref x) (.str "__class__" n)) ?_
  unfold Builtin.«object.__getattribute__»
  refine wpAny_bind (wpAny_of_eq (a := ((Value.ref x : Value), [Value.str "__class__" n])) (by first | rfl | (simp only [slotArgs]; rfl)) ?_)
  refine wpAny_bind (wpAny_pure (wpAny_bind (T0.at (wpAny_bind (T3.at ?_)))))
  refine wpAny_bind (wpAny_holding (wpAny_call (PySem.W.class_get (s := ⟨hp, gs, dr, n + 1, os⟩) (ox := ob) (od := od) X I C.hm (wpAny_pure ?_))))
  show wpAny _ _ (handedOut (.ref D)) _ _ _
  rw [PySem.W.handedOut_of (v := .ref D) rfl]
  first
    | exact wpAny_pure (wpAny_pure h)
    | exact wpAny_pure h
    | exact wpAny_pure (wpAny_bind (wpAny_pure (wpAny_pure h)))
theorem kit_exc (C : ExcC K D) : PySem.W.KitX K (.ref x) (.ref D) (fun h => PySem.W.InstAt h x ob D od) where
  ty := fun _ _ _ I => I.type
  it := fun _ _ X _ => by
    obtain ⟨cd, hcd, _⟩ := PySem.W.any_some C.hd
    unfold PySem.W.clsIn at hcd
    split at hcd
    · rename_i ho
      intro A' Q' E' s' k q
      unfold isType; unfold loadHead
      exact wpAny_bind (wpAny_loadPart (k _ _ (X _ _ ho)) (wpAny_pure q))
    · cases hcd
  ne := fun h tp dd its n sl X e => by
    obtain ⟨cd, hcd, _⟩ := PySem.W.any_some C.hd
    refine Bool.eq_false_iff.mpr fun q => ?_
    obtain rfl : D = tp := Value.ref.inj (beq_iff_eq.mp q)
    unfold PySem.W.clsIn at hcd
    split at hcd
    · rename_i ho
      cases (X _ _ ho).symm.trans e
    · cases hcd
  ca := fun X I k => exc_class C X I k
end
section
variable {X : Cx}
theorem inst_of {pins : List (Addr × Obj)} {σ : L2.St} {H : Hp} {s : Shared} {a D dd : Addr} {fs : List (Str × V)} (I : Inv X pins σ H s) (ha : H a = some (ExO a (.ref D) (some dd))) (hd : H dd = some (.xd fs)) :
    ∃ ob od : Obj, PySem.W.InstAt s.heap a ob D (some od) := by
  obtain ⟨ob, fv, g, z, dt⟩ := exO_at I.hok ha
  have hx : ObjOk X.prog X.w H s.heap dd (.xd fs) := I.hok dd _ hd
  obtain ⟨mA, hns, hr⟩ := hx
  obtain ⟨od, ho, hl⟩ := lookIn_ns hns
  exact ⟨ob, od, ⟨g, z.1, by unfold PySem.W.notCls; rw [dt] <;> rfl, by rw [z.2]; exact ho⟩⟩
/-- isinstance(e, c), e a kept error -/
def rIsO (K : PySem.W.Frag) (D : Addr) : List V → Hp → VK → Prop := fun xs H Q => ∃ (a dd : Addr) (fs : List (Str × V)) (c : V) (u : Value) (b : Bool), xs = [.ref a, c] ∧ H a = some (ExO a (.ref D) (some dd)) ∧ H dd = some (.xd fs) ∧ ClsV c u ∧ PySem.W.kitOne K (.ref D) u = some b ∧ Q (.bl b) H
def rIsOT (K : PySem.W.Frag) (D : Addr) : List V → Hp → VK → Prop := fun xs H Q => ∃ (a dd : Addr) (fs : List (Str × V)) (tp : Addr) (cs : List V) (us : List Value) (b : Bool), xs = [.ref a, .ref tp] ∧ H a = some (ExO a (.ref D) (some dd)) ∧ H dd = some (.xd fs) ∧ H tp = some (.tup cs) ∧ Paired ClsV cs us ∧ PySem.W.kitAny K (.ref D) us = some b ∧ Q (.bl b) H
theorem call_isO {D : Addr} (C : ExcC X.K D) : CallR X (.builtin "isinstance") (rIsO X.K D) := by
  intro pins s σ H xs us Q I r h
  obtain ⟨a, dd, fs, c, u, b, rfl, ha, hd, k, e, q⟩ := h
  obtain ⟨u1, u2, rfl, r1, r2⟩ := vals2 r
  cases (show u1 = Value.ref a from r1)
  have e2 := k.eq r2
  subst e2
  obtain ⟨ob, od, J⟩ := inst_of I ha hd
  exact PySem.W.kia_one (kit_exc C) I.kIn J e (fun z => nomatch z) fun tk => ⟨.bl b, H, I.tok tk, rfl, q⟩
theorem call_isOT {D : Addr} (C : ExcC X.K D) : CallR X (.builtin "isinstance") (rIsOT X.K D) := by
  intro pins s σ H xs us Q I r h
  obtain ⟨a, dd, fs, tp, cs, ws, b, rfl, ha, hd, hT, k, e, q⟩ := h
  obtain ⟨u1, u2, rfl, r1, r2⟩ := vals2 r
  cases (show u1 = Value.ref a from r1)
  cases (show u2 = Value.ref tp from r2)
  obtain ⟨ob, od, J⟩ := inst_of I ha hd
  obtain ⟨_, its, rv, ⟨oc, o2, dt, sl⟩, g1, g2, n, g3⟩ := (show ObjOk X.prog X.w H s.heap tp (.tup cs) from I.hok tp _ hT)
  have e3 := ClsV.all k rv
  subst e3
  simp only at g2 g3
  subst g2 g3
  exact PySem.W.kia_tup (kit_exc C) I.kIn J g1 e (fun z => nomatch z) fun tk => ⟨.bl b, H, I.tok tk, rfl, q⟩
/-- e.f, e a kept error -/
def tXo (C : Addr) (f : Str) (te : TE) : TE := fun σ H Q => te σ H fun x H1 => ∃ (a dd : Addr) (fs : List (Str × V)) (v : V), x = .ref a ∧ H1 a = some (ExO a (.ref C) (some dd)) ∧ H1 dd = some (.xd fs) ∧ fs.lookup f = some v ∧ Q v H1
theorem pe_xo {C : Addr} {e : Expr} {te : TE} {pos : Pos} {f : Str} (T : XfC X.K C) (no : PySem.W.findIn X.K (.ref C) f = some none) (he : PE X e te) (hb : attributeBase e f X.env (eval e X.env) = eval e X.env := by rfl) : PE X (.Attribute e f pos) (tXo C f te) := by
  refine ⟨fun pins s σ H Q I h => attr_of hb (thn (he.run pins s σ H _ I h) fun u s1 hh => ?_)⟩
  obtain ⟨x, H1, I1, rx, a, dd, fs, v, ex, ha, hd, l, q⟩ := hh
  subst ex
  cases (show u = Value.ref a from rx)
  obtain ⟨ob, fv, g, z, dt⟩ := exO_at I1.hok ha
  have hx : ObjOk X.prog X.w H1 s1.heap dd (.xd fs) := I1.hok dd _ hd
  obtain ⟨mA, hns, hr⟩ := hx
  obtain ⟨od, ho, hl⟩ := lookIn_ns hns
  obtain ⟨u, hu, ru⟩ := RelO.some_of (v := v) (o := mA f) (by rw [← l]; exact hr f)
  have J : PySem.W.InstAt s1.heap a ob C (some od) := ⟨g, z.1, by unfold PySem.W.notCls; rw [dt] <;> rfl, by rw [z.2]; exact ho⟩
  exact HandSPX.exc_get I1.kIn J T.ga T.gg T.exC (PySem.W.findObj_own T.hdC no rfl (by rw [hl, hu])) (handed_of ru) ⟨v, H1, I1.tok _, ru, q⟩
end
end TK

set_option Elab.async false
set_option linter.all false
set_option maxRecDepth 100000
set_option maxHeartbeats 4000000
/-! the law: _law_error, handed a lambda -/
namespace M05
open PySem PySem.Spec PyProof.Rows L2 GL
theorem scl4 : FnScope ["_law_ask", "_law_caught", "_law_told", "error"] ["_law_ask"] (defScope s_law_error) := ⟨rfl, rfl, rfl, by decide +kernel, rfl, by decide +kernel, by decide +kernel⟩
theorem takes_len {X : Cx} {W : WX} (t : Takes X W) : Takes X (fun cls d σ H => σ.length = X.N.length → W cls d σ H) := fun u s' ⟨a, B, sI, pins, σ, H, cls, d, e, I, nb, up, sky, na, os, ag, w⟩ => t u s' ⟨a, B, sI, pins, σ, H, cls, d, e, I, nb, up, sky, na, os, ag, w I.len⟩
/-- the classes of errors -/
structure YE (K : PySem.W.Frag) (mg : Str → Option Value) (C C0 BF NF : Addr) : Prop where
  ex : ExcC K C
  xf : XfC K C
  mF : mg "BadFiles" = some (.ref BF)
  mN : mg "NoFile" = some (.ref NF)
  em : PySem.W.exmOne K (.ref C) (.ref C0) = some true
  k1 : PySem.W.kitOne K (.ref C) (.ref C) = some true
  k3 : PySem.W.kitAny K (.ref C) [.ref BF, .ref NF] = some false
  kv : PySem.W.kitOne K (.ref C) (.type "ValueError") = some true
/-- what _law_error makes of what it asks -/
def TTe (C : Addr) : (XK → Hp → VK → Prop) → Hp → VK → Prop := fun tl H Q => ∀ H1, Same H H1 → ∀ (E : XK) (Qn : VK),
  (∀ dd v1 v2 v3 H', H' dd = some (.xd (errF v1 v2 v3)) → (∀ H2 t, Same H' H2 → H2 t = some (.tup [v1, v2, v3]) → Q (.ref t) H2) → E (.ref C) (some dd) H') →
  (∀ v H', (∀ H2 l, Same H' H2 → H2 l = some (.lst [v]) → Q (.ref l) H2) → Qn v H') → tl E H1 Qn
theorem set_at {α : Type} {σ : List α} {i : Nat} {x : α} (h : i < σ.length) : (σ.set i x)[i]? = some x := by simp [h]
theorem err_gives {X : Cx} {C C0 BF NF g : Addr} {cdg : Value} {q : Str} (T : Bl X.K X.mg) (er : ErrC X.K X.mg C C0) (Y : YE X.K X.mg C C0 BF NF) : LamX.GivesTo X ["_law_ask", "_law_caught", "_law_told", "error"] "_law_error" (defScope s_law_error) g cdg (defBody s_law_error) "_law_ask" q (TTe C) := by
  intro f c' s H Q tl act hc h
  refine ⟨_, (pss_cons (ps_asg (pe_tup (pa_cons pe_non (pa_cons pe_non pa_nil))) (pg_tup rfl (pgs_cons (pg_name (i := 1) scl4.nd rfl (Or.inl rfl)) (pgs_cons (pg_name (i := 2) scl4.nd rfl (Or.inl rfl)) pgs_nil))))
      (pss_cons (TK.ps_tryK (i := 3) (Wout := fun _ _ _ _ => False) (tb := fun W D σ H => ∃ Ech : XK, (∀ cls d σ' H', Ech cls d H' → σ'.length = 4 → W cls d σ' H') ∧ σ[0]? = some (some (.ref f)) ∧ H c' = some (LamX.CodeO c' q) ∧ tl Ech H fun v H' => D.nx (σ.set 2 (some v)) H') rfl rfl scl4.nd rfl rfl ⟨by rfl, by decide, .inl er.mg0⟩ LamX.takes0 (fun W pn xe tk po => ?_) (fun a ob cls d pn z f => pss_one (ps_set (i := 1) scl4.nd rfl (Or.inl rfl) (pv 3))))
      (pss_cons (ps_if (pt_cmpR op_isN (pv 1) pe_non (nomark _))
        (pss_one (ps_ret (pe_lst (pa_cons (pv 2) pa_nil))))
        pss_nil)
      (pss_cons (ps_if (PW.pt (pw_or (pt_not (pt_val (pe_callB (r := TK.rIsO X.K C) (TK.call_isO Y.ex) (by rfl) T.isinstance (by decide +kernel) (pa_cons (pv 1) (pa_cons (pe_glob (v := .ref C) (by rfl) er.mgC rfl) pa_nil))))) (pw_or1 (pt_val (pe_callB (r := TK.rIsOT X.K C) (TK.call_isOT Y.ex) (by rfl) T.isinstance (by decide +kernel) (pa_cons (pv 1) (pa_cons (pe_tup (pa_cons (pe_glob (v := .ref BF) (by rfl) Y.mF rfl) (pa_cons (pe_glob (v := .ref NF) (by rfl) Y.mN rfl) pa_nil))) pa_nil)))))))
        (pss_one (ps_ret pe_str))
        pss_nil)
      (pss_cons (ps_if (pt_not (pt_val (pe_callB (r := TK.rIsO X.K C) (TK.call_isO Y.ex) (by rfl) T.isinstance (by decide +kernel) (pa_cons (pv 1) (pa_cons (pe_bltn (v := .ty "ValueError") (by rfl) T.ValueError (by decide +kernel) rfl) pa_nil)))))
        (pss_one (ps_ret pe_str))
        pss_nil)
      (pss_one (ps_ret (pe_tup (pa_cons (TK.pe_xo Y.xf er.nW (pv 1)) (pa_cons (TK.pe_xo Y.xf er.nF (pv 1)) (pa_cons (TK.pe_xo Y.xf er.nI (pv 1)) pa_nil))))))))))), ?_⟩
  · refine ⟨fun pins s' σ H' D I h' => ?_⟩
    obtain ⟨Ech, hW, h1, h2, h3⟩ := h'
    exact (pss_one (ps_set (i := 2) scl4.nd rfl (Or.inl rfl) (act _ pn xe Ech _ _ (takes_len tk) fun cls d σ' H' e l => hW cls d σ' H' e l))).run pins s' σ H' D I ⟨h1, h2, h3⟩
  · refine ⟨by show 2 ≤ sizeLine; decide, fun t0 nt0 => ?_⟩
    have s0 := same_new (o := .tup [.non, .non]) nt0
    refine ⟨t0, [.non, .non], rfl, SqT.of upd_same, rfl, .non, [.non], rfl, .non, [], rfl, rfl, ?_⟩
    refine ⟨fun cls d H' => ∀ σ' : L2.St, σ'.length = 4 → _, fun cls d σ' H' e l => e σ' l, rfl, s0 _ _ hc, h _ s0 _ _ (fun dd v1 v2 v3 H' hd hq σ' l4 => ?_) (fun v H' hq => ?_)⟩
    · refine ⟨true, Y.em, fun _ a na => ⟨.ref a, set_at (by omega), fun na' => ?_⟩, fun z => by cases z⟩
      have sa := same_new (o := TK.ExO a (.ref C) (some dd)) na
      have ha : (upd H' a (TK.ExO a (.ref C) (some dd))) a = some (TK.ExO a (.ref C) (some dd)) := upd_same
      have hd2 := sa _ _ hd
      have hs : (((σ'.set 3 (some (V.ref a))).set 1 (some (V.ref a))).set 3 none)[1]? = some (some (V.ref a)) := by
        rw [List.getElem?_set_ne (by decide)]
        exact set_at (by rw [List.length_set]; omega)
      generalize ((σ'.set 3 (some (V.ref a))).set 1 (some (V.ref a))).set 3 none = σ2 at hs
      generalize upd H' a (TK.ExO a (.ref C) (some dd)) = H2 at sa ha hd2
      refine ⟨.ref a, hs, rfl, _, rfl, iteF ?_⟩
      refine ⟨.ref a, hs, a, dd, _, .ref C, _, true, rfl, ha, hd2, .own C, Y.k1, _, rfl, iteF ?_⟩
      refine ⟨.ref a, hs, by show 2 ≤ sizeLine; decide, fun tp ntp => ?_⟩
      have sp := same_new (o := .tup [.ref BF, .ref NF]) ntp
      refine ⟨a, dd, _, tp, _, _, false, rfl, sp _ _ ha, sp _ _ hd2, upd_same, .cons (.own BF) (.cons (.own NF) .nil), Y.k3, _, rfl, iteF ?_⟩
      have s2 := sa.trans sp
      have ha3 := sp _ _ ha
      have hd3 := sp _ _ hd2
      generalize upd H2 tp (.tup [.ref BF, .ref NF]) = H3 at s2 ha3 hd3
      refine ⟨.ref a, hs, a, dd, _, .ty "ValueError", _, true, rfl, ha3, hd3, .ty "ValueError", Y.kv, _, rfl, iteF ?_⟩
      refine ⟨.ref a, hs, a, dd, _, v1, rfl, ha3, hd3, rfl, .ref a, hs, a, dd, _, v2, rfl, ha3, hd3, rfl, .ref a, hs, a, dd, _, v3, rfl, ha3, hd3, rfl, by show 3 ≤ sizeLine; decide, fun t nt => ?_⟩
      exact hq _ t (s2.trans (same_new nt)) upd_same
    · refine ⟨.non, rfl, rfl, _, rfl, iteT ⟨v, rfl, by show 1 ≤ sizeLine; decide, fun l nl => hq _ l (same_new nl) upd_same⟩⟩
end M05

set_option Elab.async false
set_option linter.all false
set_option maxRecDepth 100000
set_option maxHeartbeats 8000000
/-! the law's own def -/
namespace M05
open PySem PySem.Spec PyProof.Rows L2 GL
theorem scl5 : FnScope ["_law_script", "_law_k", "_law_box_here", "_law_turn", "_law_found", "_law_pages", "_law_due_here", "_law_given", "_law_told"] ["_law_script"] (defScope sLaw) := ⟨rfl, rfl, rfl, by decide +kernel, rfl, by decide +kernel, by decide +kernel⟩
abbrev lamT (Pt : Addr) : List (Addr × Str) := [(Pt, ("law" : Str) ++ ".<locals>." ++ "<lambda>")]
theorem sqL_ext {K : PySem.W.Frag} {H H' : Hp} {a : Addr} {xs : List V} (h : SqL K H a xs) (e : LamX.ExtN H H') : SqL K H' a xs := by
  rcases h with (h | ⟨o, h⟩) | h
  · exact .inl (.inl (e _ _ h fun _ z => by cases z))
  · exact .inl (.inr ⟨o, e _ _ h fun _ z => by cases z⟩)
  · exact .inr h
theorem tabs_off {T : List (Addr × Str)} {H H' : Hp} {b : Addr} {n : Nat} (t : LamX.Tabs T H) (hB : Box H b n) (o : Off b H H') : LamX.Tabs T H' := fun p hp => by
  obtain ⟨ps, h1, h2, h3⟩ := t p hp
  obtain ⟨_, _, _, hb, _⟩ := hB
  refine ⟨ps, o _ _ (fun z => by rw [z, hb] at h1; cases h1) h1, h2, fun pos cv hc => ?_⟩
  obtain ⟨c, e, hc2⟩ := h3 pos cv hc
  exact ⟨c, e, o _ _ (fun z => by
    rw [z, hb] at hc2
    have := Option.some.inj hc2
    unfold LamX.CodeO at this
    cases this) hc2⟩
theorem extN_same {H H' : Hp} (s : Same H H') : LamX.ExtN H H' := LamX.ExtN.of s
theorem Box.ext {H H' : Hp} {b : Addr} {n : Nat} (h : Box H b n) (e : LamX.ExtN H H') : Box H' b n := let ⟨o, m, c, h1, h2⟩ := h; ⟨o, m, c, e _ _ h1 (fun _ z => by cases z), h2⟩
theorem two_ways {K : PySem.W.Frag} {σ : L2.St} {H : Hp} {i : Nat} {l : Addr} {xs : List V} {b : Bool} {Q' : VK} (hσ : σ[i]? = some (some (.ref l))) (hl : H l = some (.lst xs)) (key : ∀ Lq H3 ys, Same H H3 → H3 Lq = some (.lst ys) → (ys = xs ∨ ys = xs.reverse) → Q' (.ref Lq) H3) :
    if b = true then tRevL K (tVar i) σ H Q' else tVar i σ H Q' := by
  cases b with
  | true => exact iteT ⟨.ref l, hσ, l, xs, rfl, SqL.of hl, fun p np => key p _ _ (same_new np) upd_same (.inr rfl)⟩
  | false => exact iteF ⟨.ref l, hσ, key l H xs (fun _ _ e => e) hl (.inl rfl)⟩
theorem firstP_mem {b : Fd → List Nat} : ∀ {fs : List Fd} {n : Str} {m : Nat}, firstP b fs = some (n, m) → n ∈ fs.map Fd.nm
  | [], _, _, h => by cases h
  | f :: r, n, m, h => by
    have h : (if b f = [] then firstP b r else some (f.nm, minN (b f))) = some (n, m) := h
    rw [List.map_cons]
    split at h
    · exact List.mem_cons_of_mem _ (firstP_mem h)
    · cases h
      exact List.mem_cons_self ..
theorem firstBad_mem {fs : List Fd} {wd nm : Str} {m : Nat} (h : firstBad fs = some (wd, nm, m)) : (wd = "\x69mport" ∨ wd = "twice") ∧ nm ∈ fs.map Fd.nm := by
  unfold firstBad at h
  split at h
  · rename_i n k e
    cases h
    exact ⟨.inl rfl, firstP_mem e⟩
  · split at h
    · rename_i n k e
      cases h
      exact ⟨.inr rfl, firstP_mem e⟩
    · cases h
theorem shp {wd nm : Str} {i : Int} (h1 : wd = "\x69mport" ∨ wd = "twice") (h2 : nm ∈ names6) : SeqAt.shaped (.tuple [.str wd, .str nm, .int i]) = true := by
  have e1 : PyData.canLay0 (.str wd) = true := by
    rcases h1 with rfl | rfl
    · decide +kernel
    · decide +kernel
  have e2 : PyData.canLay0 (.str nm) = true := List.all_eq_true.mp (by decide +kernel : (names6.all fun x => PyData.canLay0 (.str x)) = true) nm h2
  show (PyData.canLay0 (.str wd) && (PyData.canLay0 (.str nm) && true)) && true = true
  rw [e1, e2]
  rfl
theorem names6_asc : names6.Pairwise (fun a b => sLt a b = true) := by decide +kernel
theorem PrG.rev {H : Hp} : ∀ {us : List Addr} {gs : List (Str × Cd)}, PrG H us gs → PrG H us.reverse gs.reverse
  | [], [], _ => trivial
  | u :: us, g :: gs, z => by
    rw [List.reverse_cons, List.reverse_cons]
    exact Each.snoc z.1 (PrG.rev z.2)
  | [], _ :: _, z => z.elim
  | _ :: _, [], z => z.elim
theorem PrG.ofF {H : Hp} : ∀ {us : List Addr} {fs : List Fd}, Each (fun u f => H u = some (.tup [.str f.nm, .str (S f.T)])) us fs → PrG H us (fs.map fun f => (f.nm, f.T))
  | [], [], _ => trivial
  | _ :: _, _ :: _, z => ⟨z.1, PrG.ofF z.2⟩
  | [], _ :: _, z => z.elim
  | _ :: _, [], z => z.elim
theorem Drwn.prj {fs : List Fd} (h : Drwn fs) {gs : List (Str × Cd)} (hg : gs.Perm (fs.map fun f => (f.nm, f.T))) : Prj gs fs := by
  have hl := hg.length_eq
  rw [List.length_map] at hl
  have hlo := h.lo
  have hhi := h.hi
  refine ⟨by omega, by omega, ?_, fun g hm => ?_, hg, ?_, fun f hf => (h.al f hf).rd⟩
  · have := (hg.map Prod.fst).nodup_iff.mpr (by rw [List.map_map]; exact h.nodup)
    exact this
  · obtain ⟨f, hf, rfl⟩ := List.mem_map.mp (hg.mem_iff.mp hm)
    have := h.al f hf
    refine ⟨this.nm.nm, ?_, this.sg⟩
    show f.nm.length ≤ 1000
    rw [len_cs]
    have := this.nm.ln
    omega
  · rw [List.pairwise_map]
    have : (fs.map Fd.nm).Pairwise fun a b => sLt a b = true := by
      rw [h.nm]
      exact names6_asc.sublist (List.take_sublist _ _)
    exact List.pairwise_map.mp this
structure FunC (K : PySem.W.Frag) (x : Str) (st : Stmt) (f : Addr) (fd : FuncData) (c : Addr) : Prop where
  ex : ∃ (oc : Value) (od : Option Addr) (kV doc pm : Value) (an : Option Addr) (ct : Value) (osl : Array (Option Value)), fd = PySem.W.fnOf x x (defArgs st) (defBody st) (defScope st) .none kV doc pm an (.ref c) ct ∧ K.lookup f = some ⟨oc, od, .func fd, osl⟩ ∧ PySem.W.codeIn K (.ref c) x = true
/-- the def that is handed the lambda -/
structure DnL (K : PySem.W.Frag) (mg : Str → Option Value) where
  f : Addr
  fd : FuncData
  F : Fun K "_law_error" "_law_error" s_law_error f fd
  g : mg "_law_error" = some (.ref f)
  b : Binds K fd ["_law_ask"] []
section
variable {P : Program} {w : World} {K : PySem.W.Frag} {mg : Str → Option Value} {base : Heap} {C C0 BF NF : Addr}
def spLaw (K : PySem.W.Frag) (Pt : Addr) : Sp := fun vs H Q _ => ∃ (a : Addr) (ns : List Int), vs = [.ref a] ∧ SqL K H a (ns.map V.int) ∧ ns.length ≤ 63 ∧ LamX.Tabs (lamT Pt) H ∧ ∀ H', Q (.bl true) H'
set_option maxHeartbeats 20000000 in
theorem ok_law {f c Pt : Addr} {fd : FuncData} (F : FunC K "law" sLaw f fd c) (T : Bl K mg) (k : Ks K mg) (TB : LamX.TabB base mg c Pt) (er : ErrC K mg C C0) (Y : YE K mg C C0 BF NF) (d_error : DnL K mg) (i_Project : MkrX P w K mg base k.Project 14 ["self", "files"] (spPI C k)) (m_len : DnM P w K mg base k.Project "__len__" 1 ["self"] (spPL k))
    (d_box : DnO P w K mg base "_law_box" 1 ["_law_script", "_law_k"] (spBox K)) (d_take : DnO P w K mg base "_law_take" 1 ["_law_box_here", "_law_many"] spTake) (d_files : DnO P w K mg base "_law_files" 3 ["_law_box_here"] spFiles) (d_due : DnO P w K mg base "_law_due" 1 ["_law_found"] spDue) :
    FnOk P w K mg base CX0 18 f fd ["_law_script"] (spLaw K Pt) := by
  obtain ⟨oc, od, kV, doc, pm, an, ct, osl, rfl, lk, hcd⟩ := F.ex
  refine fn_of lk hcd scl5 (fun vs H Q E h => ?_) fun A outer s H vs Q E hr h => ?_
  · obtain ⟨a, ns, rfl, _⟩ := h
    rfl
  · obtain ⟨a, ns, rfl, hS, hlen, hT, q⟩ := h
    obtain ⟨ocE, odE, kVE, docE, pmE, anE, cdvE, ctE, oslE, eE, lkE, hcdE⟩ := d_error.F.ex
    have bE := d_error.b
    rw [eE] at lkE bE
    refine ⟨_, PSs.nox (pss_cons (ps_for PassesOwn.never rfl (pi_range1 (by rfl) T.range (pa_cons (pe_callB (call_max2 rfl) (by rfl) T.max (by decide +kernel) (pa_cons pe_int (pa_cons (pe_callB (call_min2 rfl) (by rfl) T.min (by decide +kernel) (pa_cons pe_int (pa_cons (pe_callB call_len_seq (by rfl) T.len (by decide +kernel) (pa_cons (pv 0) pa_nil)) pa_nil))) pa_nil))) pa_nil)) (pg_name (i := 1) scl5.nd rfl (Or.inl rfl))
        (pss_cons (ps_set (i := 2) scl5.nd rfl (Or.inl rfl) (pe_call d_box.ok (hr.mono (by omega)) (by rfl) d_box.g d_box.kp d_box.b .nil pass0 (pa_cons (pv 0) (pa_cons (pv 1) pa_nil))))
        (pss_one (ps_for PassesOwn.never rfl (pi_range1 (by rfl) T.range (pa_cons pe_int pa_nil)) (pg_name (i := 3) scl5.nd rfl (Or.inl rfl))
          (pss_cons (ps_asg (pe_call d_files.ok (hr.mono (by omega)) (by rfl) d_files.g d_files.kp d_files.b .nil pass0 (pa_cons (pv 2) pa_nil)) (pg_tup rfl (pgs_cons (pg_name (i := 4) scl5.nd rfl (Or.inl rfl)) (pgs_cons (pg_name (i := 5) scl5.nd rfl (Or.inl rfl)) pgs_nil))))
          (pss_cons (ps_asg (pe_tup (pa_cons (pe_call d_due.ok (hr.mono (by omega)) (by rfl) d_due.g d_due.kp d_due.b .nil pass0 (pa_cons (pv 4) pa_nil)) (pa_cons (pe_callTy call_tuple_of (by rfl) T.tuple (by decide +kernel) (pa_cons (pe_ifExp (pt_cmpR op_eq (pe_call d_take.ok (hr.mono (by omega)) (by rfl) d_take.g d_take.kp d_take.b .nil pass0 (pa_cons (pv 2) (pa_cons pe_int pa_nil))) pe_int (nomark _)) (pe_revL (pv 5)) (pv 5)) pa_nil)) pa_nil))) (pg_tup rfl (pgs_cons (pg_name (i := 6) scl5.nd rfl (Or.inl rfl)) (pgs_cons (pg_name (i := 7) scl5.nd rfl (Or.inr rfl)) pgs_nil))))
          (pss_cons (ps_set (i := 8) scl5.nd rfl (Or.inl rfl) (LamX.pe_lamcall (k := 15) (T := lamT Pt) (TT := TTe C) (x := "_law_error") (a := "_law_ask") (by rfl) d_error.g d_error.F.kp lkE hcdE bE scl4 rfl (Or.inl rfl) (err_gives T er Y) TB rfl (List.mem_cons_self ..) (fun p hp _ => by rw [List.mem_singleton.mp hp]; rfl) (hr.mono (by omega)) (LamX.lamS_by (sc := defScope sLaw) (by decide +kernel)) rfl (fun _ _ _ _ _ => rfl) (fun A2 outer2 s2 H2 E2 f2 c2 hr2 => pe_callB (call_lenI m_len.mt (m_len.ok.raw m_len.b .nil) (hr2.mono (by omega))) (by rfl) T.len (by decide +kernel) (pa_cons (pe_make i_Project.mak i_Project.ok (hr2.mono (by omega)) (by rfl) k.Project.g i_Project.b .nil (passes_call (takes_of rfl rfl rfl rfl) (fun _ _ _ _ h => h)) (pa_cons (pv 7) pa_nil)) pa_nil))))
          (pss_one (ps_if (pt_cmpR (op_neD hr.units) (pv 8) (pe_ifExp (pt_cmpR op_notN (pv 6) pe_non (nomark _)) (pv 6) (pe_lst (pa_cons (pe_callB call_len_seq (by rfl) T.len (by decide +kernel) (pa_cons (pv 5) pa_nil)) pa_nil))) (nomark _))
            (pss_one (ps_ret pe_bl))
            pss_nil)))))))))
      (pss_one (ps_ret pe_bl))), ?_⟩
    refine ⟨.ref a, rfl, a, _, rfl, .inl hS, 3, _, rfl, 1, _, rfl, ((max 1 (min 3 ns.length) : Nat) : Int), ?_, by omega, by omega, for_range (lo := 0) (n := max 1 (min 3 ns.length)) (fun i σ Hi => ∃ y1 y2 y3 y4 y5 y6 y7 y8 : Option V, σ = [some (.ref a), y1, y2, y3, y4, y5, y6, y7, y8] ∧ LamX.ExtN H Hi ∧ LamX.Tabs (lamT Pt) Hi) ⟨_, _, _, _, _, _, _, _, rfl, LamX.ExtN.refl H, hT⟩ (fun i σ Hi hi hP => ?_) (fun σ Hi hP => ?_)⟩
    · show [V.int (if (if ((ns.map V.int).length : Int) < 3 then ((ns.map V.int).length : Int) else 3) > 1 then (if ((ns.map V.int).length : Int) < 3 then ((ns.map V.int).length : Int) else 3) else 1)] = _
      rw [List.length_map]
      congr 2
      split <;> split <;> omega
    · obtain ⟨y1, y2, y3, y4, y5, y6, y7, y8, rfl, eN, hTi⟩ := hP
      have hSi := sqL_ext hS eN
      refine ⟨.ref a, rfl, .int (0 + (i : Int)), rfl, a, ns, i, by rw [Int.zero_add]; rfl, hSi, by omega, fun b u nb hB => ?_⟩
      have sb := same_new (o := u) nb
      have hTb := hTi.ext sb
      have eb := extN_same sb
      generalize upd Hi b u = Hb at sb hTb hB eb
      refine ⟨10, rfl, by decide, by decide, ?_⟩
      refine for_range (lo := 0) (n := (10 : Int).toNat) (fun j σ Hj => ∃ (y3 y4 y5 y6 y7 y8 : Option V) (n' : Nat), σ = [some (.ref a), some (.int (0 + (i : Int))), some (.ref b), y3, y4, y5, y6, y7, y8] ∧ LamX.ExtN Hi Hj ∧ LamX.Tabs (lamT Pt) Hj ∧ Box Hj b n' ∧ n' ≤ 2000 * j) ⟨_, _, _, _, _, _, 0, rfl, eb, hTb, hB, Nat.le_refl _⟩ (fun j σ Hj hj hP => ?_) (fun σ Hj hP => ?_)
      · obtain ⟨y3, y4, y5, y6, y7, y8, n', rfl, ej, hTj, hBj, hnj⟩ := hP
        have hj10 : j < 10 := hj
        refine ⟨.ref b, rfl, b, n', rfl, hBj, by omega, fun H1 n1 t Lf Lp ts us fs hn1 o1 hB1 ht hLf hLp nt nLf nLp hEf hEp hD => ⟨t, _, rfl, SqT.of ht, rfl, _, _, rfl, _, _, rfl, rfl, ?_⟩⟩
        have sN : Same (Nw Hj H1) H1 := fun c o e => (Nw.of e).2
        have hE1 : Each (FndA H1) ts fs := Each.mono (fun _ _ z => FndA.same z sN) hEf
        have hP1 : PrG H1 us (fs.map fun f => (f.nm, f.T)) := PrG.ofF (Each.mono (fun _ _ z => sN _ _ z) hEp)
        have hT1 := tabs_off hTj hBj o1
        refine ⟨.ref Lf, rfl, Lf, ts, fs, rfl, hLf, hE1, hD, fun H2 v s2 hDue => ?_⟩
        have hB2 := hB1.same s2
        refine ⟨.ref b, rfl, b, 2, n1, rfl, hB2, by omega, by decide, by decide, fun r u3 r0 r2 hB3 => ⟨rfl, _, rfl, ?_⟩⟩
        have o3 : Off b H2 (upd H2 b u3) := fun c o nc e => by rw [upd_ne nc]; exact e
        have o13 : Off b H1 (upd H2 b u3) := fun c o nc e => o3 c o nc (s2 _ _ e)
        have bne : ∀ {c o}, H1 c = some o → (∀ xs, o ≠ .lst xs) → c ≠ b := fun e h z => by
          obtain ⟨_, _, _, hb, _⟩ := hB1
          rw [z, hb] at e
          exact h _ (Option.some.inj e).symm
        have Lpb : Lp ≠ b := fun z => by
          obtain ⟨_, _, _, hb, _⟩ := hBj
          rw [z, hb] at nLp
          cases nLp
        have hLp3 := o13 _ _ Lpb hLp
        have hT3 : LamX.Tabs (lamT Pt) (upd H2 b u3) := tabs_off (hT1.ext s2) hB2 o3
        have hP3 : PrG (upd H2 b u3) us (fs.map fun f => (f.nm, f.T)) := Each.mono (fun c g z => o13 c _ (bne z fun xs w => by cases w) z) hP1
        have hDue3 : DueV (upd H2 b u3) v (firstBad fs) := by
          cases hz : firstBad fs with
          | none =>
            rw [hz] at hDue
            exact hDue
          | some x =>
            obtain ⟨wd, nm, m⟩ := x
            rw [hz] at hDue
            obtain ⟨tv, e1, e2⟩ := hDue
            refine ⟨tv, e1, o3 _ _ (fun z => ?_) e2⟩
            obtain ⟨_, _, _, hb, _⟩ := hB2
            rw [z, hb] at e2
            cases e2
        have e13 : LamX.ExtN Hi (upd H2 b u3) := fun c o e hn => by
          have h1 := ej c o e hn
          exact o13 c o (ne_of_none e nb) (o1 c o (ne_of_none e nb) h1)
        generalize upd H2 b u3 = H3 at hB3 hLp3 hT3 hP3 hDue3 e13
        refine two_ways rfl hLp3 (fun Lq H4 ys s4 hq hy => ?_)
        refine ⟨Lq, ys, rfl, .inl ⟨SqL.of hq, fun tg ntg => ⟨by show 2 ≤ sizeLine; decide, fun tp ntp => ⟨tp, _, rfl, SqT.of upd_same, rfl, _, _, rfl, _, _, rfl, rfl, ?_⟩⟩⟩⟩
        have s5 := same_new (o := .tup ys) ntg
        have s6 := same_new (o := .tup [v, .ref tg]) ntp
        have htg := s6 _ _ (upd_same (H := H4) (a := tg) (o := .tup ys))
        have s36 := (s4.trans s5).trans s6
        obtain ⟨us', gs, rfl, hG, hpm⟩ : ∃ (us' : List Addr) (gs : List (Str × Cd)), ys = refs us' ∧ PrG H3 us' gs ∧ gs.Perm (fs.map fun f => (f.nm, f.T)) := by
          rcases hy with rfl | rfl
          · exact ⟨us, _, rfl, hP3, List.Perm.refl _⟩
          · exact ⟨us.reverse, _, by unfold refs; rw [List.map_reverse], hP3.rev, List.reverse_perm _⟩
        have hT6 := hT3.ext s36
        have hB6 := hB3.same s36
        have hLp6 := s36 _ _ hLp3
        have hG6 := hG.same s36
        have hDue6 : DueV (upd (upd H4 tg (.tup (refs us'))) tp (.tup [v, .ref tg])) v (firstBad fs) := by
          cases hz : firstBad fs with
          | none =>
            rw [hz] at hDue3
            exact hDue3
          | some x =>
            obtain ⟨wd, nm, m⟩ := x
            rw [hz] at hDue3
            obtain ⟨tv, e1, e2⟩ := hDue3
            exact ⟨tv, e1, s36 _ _ e2⟩
        have e6 : LamX.ExtN Hi (upd (upd H4 tg (.tup (refs us'))) tp (.tup [v, .ref tg])) := e13.trans (extN_same s36)
        generalize upd (upd H4 tg (.tup (refs us'))) tp (.tup [v, .ref tg]) = H6 at htg hT6 hB6 hLp6 hG6 hDue6 e6
        have hJ := hD.prj hpm
        have lus : us.length = fs.length := by
          have := Each.len hEp
          exact this
        have lgs := hJ.len
        refine ⟨hT6, fun H7 e7 hT7 => fun H8 s8 E Qn hEr hQn => ?_⟩
        have e68 : LamX.ExtN H6 H8 := e7.trans (extN_same s8)
        have hT8 := hT7.ext s8
        have hB8 := hB6.ext e68
        have htg8 := e68 _ _ htg fun _ z => by cases z
        have hLp8 := e68 _ _ hLp6 fun _ z => by cases z
        have hG8 : PrG H8 us' gs := Each.mono (fun c g z => e68 c _ z fun _ w => by cases w) hG6
        refine ⟨.ref tg, rfl, fun p dx np ndx ne => ⟨p, dx, tg, us', gs, fs, rfl, upd_same, ?_, ?_, hJ, fun hz H9 d tF xs vals o9 hp9 htF hxl => ⟨rfl, ?_⟩, fun wd nm m hz H9 d o9 hd => ?_⟩⟩
        · rw [upd_ne (ne_of_none htg8 np), upd_ne (ne_of_none htg8 ndx)]
          exact htg8
        · exact Each.mono (fun c g z => by rw [upd_ne (ne_of_none z np), upd_ne (ne_of_none z ndx)]; exact z) hG8
        · have s89 := same_made np ndx o9
          refine ⟨p, d, _, rfl, hp9, p, d, tF, xs, vals, rfl, hp9, htF, (xs.length : Int), rfl, by omega, by have := hJ.hi; omega, hQn _ _ fun H10 l s10 hl => ?_⟩
          have s810 := s89.trans s10
          rw [hz] at hDue6
          obtain rfl : v = .non := hDue6
          refine ⟨.ref l, rfl, .non, rfl, rfl, _, rfl, iteF ⟨.ref Lp, rfl, Lp, _, rfl, .inl (SqL.of (s810 _ _ hLp8)), by show 1 ≤ sizeLine; decide, fun m nm => ?_⟩⟩
          have s11 := same_new (o := .lst [.int ((refs us).length : Nat)]) nm
          have hx : (xs.length : Int) = (((refs us).length : Nat) : Int) := by
            unfold refs
            rw [List.length_map, lus, hxl, ← lgs]
          refine ⟨.list [.int (xs.length : Int)], .list [.int ((refs us).length : Nat)], .lst (SqL.of (s11 _ _ hl)) (.cons (.int _) .nil), .lst (SqL.of upd_same) (.cons (.int _) .nil), rfl, rfl, _, rfl, ?_⟩
          have eq : (!PyData.eqv (.list [.int (xs.length : Int)]) (.list [.int ((refs us).length : Nat)])) = false := by
            rw [hx]
            simp [PyData.eqv, PyData.eqvAll]
          rw [eq]
          have sE := s810.trans s11
          exact iteF ⟨_, _, _, _, _, _, n1 + 1, rfl, (e6.trans e68).trans (extN_same sE), hT8.ext sE, hB8.same sE, by omega⟩
        · have s89 := same_made np ndx o9
          refine hEr d _ _ _ H9 hd fun H10 t8 s10 ht8 => ?_
          have s810 := s89.trans s10
          rw [hz] at hDue6
          obtain ⟨tv, rfl, htv⟩ := hDue6
          have htv10 := s810 _ _ (e68 _ _ htv fun _ z => by cases z)
          refine ⟨.ref t8, rfl, .ref tv, rfl, rfl, _, rfl, iteT ⟨.ref tv, rfl, ?_⟩⟩
          obtain ⟨w1, w2⟩ := firstBad_mem hz
          rw [hD.nm] at w2
          have hsh := shp (i := (m : Nat)) w1 (List.mem_of_mem_take w2)
          refine ⟨.tuple [.str wd, .str nm, .int (m : Nat)], .tuple [.str wd, .str nm, .int (m : Nat)], .tup (SqT.of ht8) (.cons (.str _) (.cons (.str _) (.cons (.int _) .nil))), .tup (SqT.of htv10) (.cons (.str _) (.cons (.str _) (.cons (.int _) .nil))), hsh, hsh, _, rfl, ?_⟩
          have eq : (!PyData.eqv (.tuple [.str wd, .str nm, .int (m : Nat)]) (.tuple [.str wd, .str nm, .int (m : Nat)])) = false := by
            simp [PyData.eqv, PyData.eqvAll]
          rw [eq]
          exact iteF ⟨_, _, _, _, _, _, n1 + 1, rfl, (e6.trans e68).trans (extN_same s810), hT8.ext s810, hB8.same s810, by omega⟩
      · obtain ⟨y3, y4, y5, y6, y7, y8, n', rfl, ej, hTj, hBj, hnj⟩ := hP
        exact ⟨_, _, _, _, _, _, _, _, rfl, eN.trans ej, hTj⟩
    · obtain ⟨y1, y2, y3, y4, y5, y6, y7, y8, rfl, eN, hTi⟩ := hP
      exact q Hi
end
end M05

set_option Elab.async false
set_option linter.all false
set_option maxRecDepth 100000
set_option maxHeartbeats 4000000
/-! a head: facts made of looks -/
namespace Hk
open PySem PySem.W PySem.Calls PySem.Spec PyProof.Rows L2
/-! ### facts made of looks -/
theorem toFun {K : Frag} {x q : PySem.Str} {st : Stmt} {f : Addr} {fd : FuncData} (F : FunD K x q (defArgs st) (defBody st) (defScope st) [] [] f fd) : L2.Fun K x q st f fd := by
  obtain ⟨⟨oc, od, dV, kV, doc, pm, an, cdv, ct, osl, e, lk, hcd, hD, hK⟩, kp⟩ := F
  rcases hD with ⟨_, rfl⟩ | ⟨z, _⟩
  · exact ⟨⟨oc, od, kV, doc, pm, an, cdv, ct, osl, e, lk, hcd⟩, kp⟩
  · exact absurd rfl z
theorem allF_of {K : Frag} {C : Addr} : ∀ {N : List PySem.Str}, (N.all fun f => He.eqO (findIn K (.ref C) f) (some none)) = true → M05.AllF K C N
  | [], _ => trivial
  | _ :: _, h => ⟨He.eqO_ok (He.ba h).1, allF_of (He.ba h).2⟩
def kl_of {K : Frag} {h : Heap} {mg : PySem.Str → Option Value} {x : PySem.Str} {N : List PySem.Str} (X : K.In h) (G : h.Ns mainGlobals mg) (c : klB K x N = true) (len : N.length < 900) : M05.Kl K mg x N :=
  ⟨He.ga K x, He.cls_ok (He.ba (He.ba c).2).1, allF_of (He.ba (He.ba c).2).2, len, He.glo_ok X G (He.ba c).1⟩
theorem bm_of {K : Frag} {C f : Addr} {m : PySem.Str} (h : bmB K C f = true) (M : Meth K C m f) (cp : copiedNames.contains m = false) : BMeth K C m f :=
  ⟨M, He.eqO_ok (He.ba h).1, of_decide_eq_true (He.ba (He.ba h).2).1, cp, (He.ba (He.ba h).2).2⟩
theorem oexB_ok {K : Frag} {C : Addr} (h : oexB K C = true) : ∃ nm q N bs bm sn sub ab col dd k0 k1 k2 k3 k5, K.lookup C = some (excClassObj nm q C N bs bm true sn sub ab col dd k0 k1 k2 k3 k5 "ValueError.__new__") ∧ PySem.HandSPX.refsVE bm = true := by
  unfold oexB at h
  split at h
  · rename_i c dd cd sl ho
    obtain ⟨h1, h2⟩ := He.ba h
    have e1 := of_decide_eq_true h1
    split at h2
    · rename_i C' bm k0 k1 k2 k3 n k5 hm hs
      obtain ⟨h3, h2⟩ := He.ba h2
      obtain ⟨h4, h2⟩ := He.ba h2
      obtain ⟨h5, h2⟩ := He.ba h2
      obtain ⟨h6, h7⟩ := He.ba h2
      have e3 := of_decide_eq_true h3
      have e4 := of_decide_eq_true h4
      subst e1 e3 e4
      obtain ⟨nm, bs, mro, ns, qn, hd, sn, sub, ab, col, del⟩ := cd
      dsimp only at hm h5 h6
      have hdel : del = false := by simpa using h5
      subst hm hdel h6
      have hsl : sl = #[k0, k1, k2, k3, some (.builtin "ValueError.__new__"), k5] := by
        obtain ⟨l⟩ := sl
        simp only at hs
        rw [hs]
      subst hsl
      exact ⟨nm, qn, ns, bs, bm, sn, sub, ab, col, dd, k0, k1, k2, k3, k5, ho, h7⟩
    · cases h2
  · cases h
theorem valB_ok {K : Frag} {C : Addr} {mc v : Value} {x : PySem.Str} (h : valB K C mc x v = true) : findCls K (.ref C) mc x = some (.val v) := by
  unfold valB at h
  split at h
  · rename_i u e
    rw [e, of_decide_eq_true h]
  · cases h
end Hk

set_option Elab.async false
set_option linter.all false
set_option maxRecDepth 100000
set_option maxHeartbeats 16000000
/-! all promises, made of the looks -/
namespace M05
open PySem PySem.Spec PyProof.Rows L2 GL
theorem toFunC {K : PySem.W.Frag} {x : Str} {st : Stmt} {fd : FuncData} (F : FunD K x x (defArgs st) (defBody st) (defScope st) [] [] (He.fAd K (x, none)) fd) : FunC K x st (He.fAd K (x, none)) fd (He.codeOf K (x, none)) := by
  obtain ⟨⟨oc, od, dV, kV, doc, pm, an, cdv, ct, osl, rfl, lk, hcd, hD, hK⟩, kp⟩ := F
  rcases hD with ⟨_, rfl⟩ | ⟨z, _⟩
  · obtain ⟨c, rfl⟩ := He.codeIn_ref hcd
    have e := He.codeOf_eq lk rfl
    rw [e]
    exact ⟨oc, od, kV, doc, pm, an, ct, osl, rfl, lk, hcd⟩
  · exact absurd rfl z
@[reducible] def ksOf {K : PySem.W.Frag} {h : Heap} {mg : Str → Option Value} (X : K.In h) (G : h.Ns mainGlobals mg) (cT_0 : Hk.Look.see T_0 K = T_0.due) : Ks K mg where
  Reader := Hk.kl_of X G (Hk.Look.test cT_0 0 (t := fun K => Hk.klB K "Reader" nReader) rfl) (Nat.le_of_ble_eq_true rfl)
  Literal := Hk.kl_of X G (Hk.Look.test cT_0 1 (t := fun K => Hk.klB K "Literal" nLiteral) rfl) (Nat.le_of_ble_eq_true rfl)
  Term := Hk.kl_of X G (Hk.Look.test cT_0 2 (t := fun K => Hk.klB K "Term" nTerm) rfl) (Nat.le_of_ble_eq_true rfl)
  Entry := Hk.kl_of X G (Hk.Look.test cT_0 3 (t := fun K => Hk.klB K "Entry" nEntry) rfl) (Nat.le_of_ble_eq_true rfl)
  Body := Hk.kl_of X G (Hk.Look.test cT_0 4 (t := fun K => Hk.klB K "Body" nBody) rfl) (Nat.le_of_ble_eq_true rfl)
  Template := Hk.kl_of X G (Hk.Look.test cT_0 5 (t := fun K => Hk.klB K "Template" nTemplate) rfl) (Nat.le_of_ble_eq_true rfl)
  ListField := Hk.kl_of X G (Hk.Look.test cT_0 6 (t := fun K => Hk.klB K "ListField" nListField) rfl) (Nat.le_of_ble_eq_true rfl)
  ListSource := Hk.kl_of X G (Hk.Look.test cT_0 7 (t := fun K => Hk.klB K "ListSource" nListSource) rfl) (Nat.le_of_ble_eq_true rfl)
  FileSource := Hk.kl_of X G (Hk.Look.test cT_0 8 (t := fun K => Hk.klB K "FileSource" nFileSource) rfl) (Nat.le_of_ble_eq_true rfl)
  Field := Hk.kl_of X G (Hk.Look.test cT_0 9 (t := fun K => Hk.klB K "Field" nField) rfl) (Nat.le_of_ble_eq_true rfl)
  Sources := Hk.kl_of X G (Hk.Look.test cT_0 10 (t := fun K => Hk.klB K "Sources" nSources) rfl) (Nat.le_of_ble_eq_true rfl)
  Home := Hk.kl_of X G (Hk.Look.test cT_0 11 (t := fun K => Hk.klB K "Home" nHome) rfl) (Nat.le_of_ble_eq_true rfl)
  Project := Hk.kl_of X G (Hk.Look.test cT_0 12 (t := fun K => Hk.klB K "Project" nProject) rfl) (Nat.le_of_ble_eq_true rfl)
set_option maxHeartbeats 64000000 in
theorem all_mk {P : Program} {w : World} {K : PySem.W.Frag} {h : Heap} {mg : Str → Option Value} {fa : Addr} (X : K.In h) (G : h.Ns mainGlobals mg) (hfa : mg "law" = some (.ref fa)) (cF_0 : Hk.Look.see F_0 K = F_0.due) (cF_1 : Hk.Look.see F_1 K = F_1.due) (cF_2 : Hk.Look.see F_2 K = F_2.due) (cT_0 : Hk.Look.see T_0 K = T_0.due) (cD_0 : Hk.Look.see D_0 K = D_0.due) (cD_1 : Hk.Look.see D_1 K = D_1.due) (cD_2 : Hk.Look.see D_2 K = D_2.due) (cD_3 : Hk.Look.see D_3 K = D_3.due) :
    ∃ fd : FuncData, (∀ (s : Shared) (v : Value), BindsTo s fd ⟨[v], []⟩ [("_law_script", v)]) ∧ ∀ base : Heap, K.In base → base.Ns mainGlobals mg → LamX.TabB base mg (He.cT K ("law", none)).1 (He.cT K ("law", none)).2 → FnOk P w K mg base CX0 18 fa fd ["_law_script"] (spLaw K (He.cT K ("law", none)).2) := by
  have e := hfa.symm.trans (He.glo_ok X G (Hk.Look.fact cF_0 52 (f := .glo "law") rfl))
  cases e
  have T : Bl K mg := ⟨(He.free_ok X G (Hk.Look.fact cF_0 10 (f := .free "len") rfl)), (He.free_ok X G (Hk.Look.fact cF_0 11 (f := .free "abs") rfl)), (He.free_ok X G (Hk.Look.fact cF_0 12 (f := .free "int") rfl)), (He.free_ok X G (Hk.Look.fact cF_0 13 (f := .free "max") rfl)), (He.free_ok X G (Hk.Look.fact cF_0 14 (f := .free "min") rfl)), (He.free_ok X G (Hk.Look.fact cF_0 15 (f := .free "range") rfl)), (He.free_ok X G (Hk.Look.fact cF_0 16 (f := .free "list") rfl)), (He.free_ok X G (Hk.Look.fact cF_0 17 (f := .free "all") rfl)), (He.free_ok X G (Hk.Look.fact cF_0 18 (f := .free "any") rfl)), (He.free_ok X G (Hk.Look.fact cF_0 19 (f := .free "isinstance") rfl)), (He.free_ok X G (Hk.Look.fact cF_0 20 (f := .free "str") rfl)), (He.free_ok X G (Hk.Look.fact cF_0 21 (f := .free "tuple") rfl)), (He.free_ok X G (Hk.Look.fact cF_0 22 (f := .free "sorted") rfl)), (He.free_ok X G (Hk.Look.fact cF_0 23 (f := .free "ord") rfl)), (He.free_ok X G (Hk.Look.fact cF_0 24 (f := .free "dict") rfl)), (He.free_ok X G (Hk.Look.fact cF_0 25 (f := .free "set") rfl)), (He.free_ok X G (Hk.Look.fact cF_0 26 (f := .free "ValueError") rfl)), (He.str_ok X G (Hk.Look.fact cF_0 27 (f := .str "LETTERS" "abcdefghijklmnopqrstuvwxyz") rfl)), (He.str_ok X G (Hk.Look.fact cF_0 28 (f := .str "DIGITS" "0123456789") rfl)), (He.str_ok X G (Hk.Look.fact cF_0 29 (f := .str "SIGNS" "{}[]():.,=+-*") rfl)), (He.str_ok X G (Hk.Look.fact cF_0 30 (f := .str "QUOTE" "\"") rfl)), (He.str_ok X G (Hk.Look.fact cF_0 31 (f := .str "BACKSLASH" "\\") rfl)), (He.str_ok X G (Hk.Look.fact cF_0 32 (f := .str "REMARK" "#") rfl)), (He.str_ok X G (Hk.Look.fact cF_0 33 (f := .str "FEED" "\n") rfl)), (He.str_ok X G (Hk.Look.fact cF_0 34 (f := .str "END" "") rfl)), (He.str_ok X G (Hk.Look.fact cF_0 35 (f := .str "PLUS" "+") rfl)), (He.str_ok X G (Hk.Look.fact cF_0 36 (f := .str "MINUS" "-") rfl)), (He.str_ok X G (Hk.Look.fact cF_0 37 (f := .str "RECORD" "record") rfl)), (He.str_ok X G (Hk.Look.fact cF_0 38 (f := .str "ROWS" "rows") rfl)), (He.str_ok X G (Hk.Look.fact cF_0 39 (f := .str "NUMBER" "number") rfl)), (He.str_ok X G (Hk.Look.fact cF_0 40 (f := .str "TEXT" "text") rfl)), (He.str_ok X G (Hk.Look.fact cF_0 41 (f := .str "PLAIN" "plain") rfl)), (He.str_ok X G (Hk.Look.fact cF_0 42 (f := .str "DOCUMENT" "") rfl)), (He.int_ok X G (Hk.Look.fact cF_0 43 (f := .int "MOST_IN_STRING" 60) rfl)), (He.int_ok X G (Hk.Look.fact cF_0 44 (f := .int "LEAST_CODE" 32) rfl)), (He.int_ok X G (Hk.Look.fact cF_0 45 (f := .int "MOST_CODE" 126) rfl)), (He.int_ok X G (Hk.Look.fact cF_0 46 (f := .int "MOST_LETTERS" 12) rfl)), (He.int_ok X G (Hk.Look.fact cF_0 47 (f := .int "MOST_FILES" 6) rfl)), (He.int_ok X G (Hk.Look.fact cF_0 48 (f := .int "PAIR" 2) rfl)), ⟨_, (He.glo_ok X G (Hk.Look.fact cF_0 49 (f := .glo "GAPS") rfl)), fun H => He.tupB_ok (Hk.Look.test cT_0 44 (t := fun K => He.tupB K "GAPS" [.str " ", .str "\n"]) rfl) H⟩, ⟨_, (He.glo_ok X G (Hk.Look.fact cF_0 50 (f := .glo "KINDS") rfl)), fun H => He.tupB_ok (Hk.Look.test cT_0 45 (t := fun K => He.tupB K "KINDS" [.str "number", .str "text"]) rfl) H⟩, ⟨_, (He.glo_ok X G (Hk.Look.fact cF_0 51 (f := .glo "KEYWORDS") rfl)), fun H => He.tupB_ok (Hk.Look.test cT_0 46 (t := fun K => He.tupB K "KEYWORDS" [.str "\x69mport", .str "template", .str "list", .str "document", .str "let", .str "new", .str "for", .str "in", .str "where", .str "give", .str "if", .str "then", .str "else"]) rfl) H⟩⟩
  have I : Isi (ksOf X G cT_0) := ⟨⟨_, (He.glo_ok X G (Hk.Look.fact cF_0 0 (f := .glo "Body") rfl))⟩, ⟨_, (He.glo_ok X G (Hk.Look.fact cF_0 1 (f := .glo "Use") rfl))⟩, ⟨_, (He.glo_ok X G (Hk.Look.fact cF_0 2 (f := .glo "Loop") rfl))⟩, ⟨_, (He.glo_ok X G (Hk.Look.fact cF_0 3 (f := .glo "Sum") rfl))⟩, ⟨_, (He.glo_ok X G (Hk.Look.fact cF_0 4 (f := .glo "Choice") rfl))⟩, ⟨_, (He.glo_ok X G (Hk.Look.fact cF_0 5 (f := .glo "Literal") rfl))⟩, (of_decide_eq_true (Hk.Look.test cT_0 13 (t := fun K => decide (PySem.W.findIn K (.ref (He.ga K "Literal")) "__class__" = some (some (.builtin "object.__class__")))) rfl)), (of_decide_eq_true (Hk.Look.test cT_0 14 (t := fun K => decide (PySem.W.specialIn K (.builtin "object.__class__") "__get__" = some (some (.builtin "getset_descriptor.__get__")))) rfl)), (of_decide_eq_true (Hk.Look.test cT_0 15 (t := fun K => decide (PySem.W.takesIn K (.builtin "object.__class__") = some true)) rfl)), (of_decide_eq_true (Hk.Look.test cT_0 16 (t := fun K => decide (PySem.W.mroIn K (He.ga K "Literal") (.type "object") = some true)) rfl)), (of_decide_eq_true (Hk.Look.test cT_0 17 (t := fun K => decide (PySem.W.kitOne K (.ref (He.ga K "Literal")) (.ref (He.ga K "Body")) = some false)) rfl)), (of_decide_eq_true (Hk.Look.test cT_0 18 (t := fun K => decide (PySem.W.kitOne K (.ref (He.ga K "Literal")) (.ref (He.ga K "Use")) = some false)) rfl)), (of_decide_eq_true (Hk.Look.test cT_0 19 (t := fun K => decide (PySem.W.kitOne K (.ref (He.ga K "Literal")) (.ref (He.ga K "Loop")) = some false)) rfl)), (of_decide_eq_true (Hk.Look.test cT_0 20 (t := fun K => decide (PySem.W.kitOne K (.ref (He.ga K "Literal")) (.ref (He.ga K "Sum")) = some false)) rfl)), (of_decide_eq_true (Hk.Look.test cT_0 21 (t := fun K => decide (PySem.W.kitOne K (.ref (He.ga K "Literal")) (.ref (He.ga K "Choice")) = some false)) rfl)), (of_decide_eq_true (Hk.Look.test cT_0 22 (t := fun K => decide (PySem.W.kitOne K (.ref (He.ga K "Literal")) (.ref (He.ga K "Literal")) = some true)) rfl))⟩
  have er : ErrC K mg (He.ga K "SourceError") (He.ga K "BackError") := ⟨⟨Hk.oexB_ok (Hk.Look.test cT_0 23 (t := fun K => Hk.oexB K (He.ga K "SourceError")) rfl), (of_decide_eq_true (Hk.Look.test cT_0 24 (t := fun K => decide (PySem.W.findIn K (.ref (He.ga K "SourceError")) "__setattr__" = some (some (.builtin "object.__setattr__")))) rfl)), (of_decide_eq_true (Hk.Look.test cT_0 25 (t := fun K => decide (PySem.W.subIn K (.ref (He.ga K "SourceError")) (.type "BaseException") = some true)) rfl)), (of_decide_eq_true (Hk.Look.test cT_0 26 (t := fun K => decide (PySem.W.typeIn K (.ref (He.ga K "SourceError")) = some (.type "type"))) rfl)), (Hk.Look.test cT_0 27 (t := fun K => PySem.W.keepIn K (.ref (He.ga K "SourceError"))) rfl)⟩, (of_decide_eq_true (Hk.Look.test cT_0 28 (t := fun K => decide (PySem.W.findIn K (.ref (He.ga K "SourceError")) "word" = some none)) rfl)), (of_decide_eq_true (Hk.Look.test cT_0 29 (t := fun K => decide (PySem.W.findIn K (.ref (He.ga K "SourceError")) "file" = some none)) rfl)), (of_decide_eq_true (Hk.Look.test cT_0 30 (t := fun K => decide (PySem.W.findIn K (.ref (He.ga K "SourceError")) "index" = some none)) rfl)), (He.glo_ok X G (Hk.Look.fact cF_0 6 (f := .glo "SourceError") rfl)), (He.glo_ok X G (Hk.Look.fact cF_0 7 (f := .glo "BackError") rfl)), (of_decide_eq_true (Hk.Look.test cT_0 31 (t := fun K => decide (PySem.W.specialIn K (.ref (He.ga K "BackError")) "__getattribute__" = some (some (.builtin "type.__getattribute__")))) rfl)), (of_decide_eq_true (Hk.Look.test cT_0 32 (t := fun K => decide (PySem.W.typeIn K (.ref (He.ga K "BackError")) = some (.type "type"))) rfl)), (Hk.Look.test cT_0 33 (t := fun K => PySem.W.readsIn K (He.ga K "BackError") (.type "type")) rfl), Hk.valB_ok (Hk.Look.test cT_0 34 (t := fun K => Hk.valB K (He.ga K "BackError") (.type "type") "__init__" (.builtin "ValueError.__init__")) rfl)⟩
  have Y : YE K mg (He.ga K "SourceError") (He.ga K "BackError") (He.ga K "BadFiles") (He.ga K "NoFile") := ⟨⟨(of_decide_eq_true (Hk.Look.test cT_0 35 (t := fun K => decide (PySem.W.findIn K (.ref (He.ga K "SourceError")) "__getattribute__" = some (some (.builtin "BaseException.__getattribute__")))) rfl)), (of_decide_eq_true (Hk.Look.test cT_0 36 (t := fun K => decide (PySem.W.findIn K (.ref (He.ga K "SourceError")) "__getattr__" = some none)) rfl)), (of_decide_eq_true (Hk.Look.test cT_0 25 (t := fun K => decide (PySem.W.subIn K (.ref (He.ga K "SourceError")) (.type "BaseException") = some true)) rfl)), (Hk.Look.test cT_0 37 (t := fun K => PySem.W.hasDictIn K (He.ga K "SourceError")) rfl), (of_decide_eq_true (Hk.Look.test cT_0 38 (t := fun K => decide (PySem.W.findIn K (.ref (He.ga K "SourceError")) "__class__" = some (some (.builtin "object.__class__")))) rfl)), (of_decide_eq_true (Hk.Look.test cT_0 14 (t := fun K => decide (PySem.W.specialIn K (.builtin "object.__class__") "__get__" = some (some (.builtin "getset_descriptor.__get__")))) rfl)), (of_decide_eq_true (Hk.Look.test cT_0 15 (t := fun K => decide (PySem.W.takesIn K (.builtin "object.__class__") = some true)) rfl)), (of_decide_eq_true (Hk.Look.test cT_0 39 (t := fun K => decide (PySem.W.mroIn K (He.ga K "SourceError") (.type "object") = some true)) rfl))⟩, ⟨(of_decide_eq_true (Hk.Look.test cT_0 35 (t := fun K => decide (PySem.W.findIn K (.ref (He.ga K "SourceError")) "__getattribute__" = some (some (.builtin "BaseException.__getattribute__")))) rfl)), (of_decide_eq_true (Hk.Look.test cT_0 36 (t := fun K => decide (PySem.W.findIn K (.ref (He.ga K "SourceError")) "__getattr__" = some none)) rfl)), (of_decide_eq_true (Hk.Look.test cT_0 25 (t := fun K => decide (PySem.W.subIn K (.ref (He.ga K "SourceError")) (.type "BaseException") = some true)) rfl)), (Hk.Look.test cT_0 37 (t := fun K => PySem.W.hasDictIn K (He.ga K "SourceError")) rfl)⟩, (He.glo_ok X G (Hk.Look.fact cF_0 8 (f := .glo "BadFiles") rfl)), (He.glo_ok X G (Hk.Look.fact cF_0 9 (f := .glo "NoFile") rfl)), (of_decide_eq_true (Hk.Look.test cT_0 40 (t := fun K => decide (PySem.W.exmOne K (.ref (He.ga K "SourceError")) (.ref (He.ga K "BackError")) = some true)) rfl)), (of_decide_eq_true (Hk.Look.test cT_0 41 (t := fun K => decide (PySem.W.kitOne K (.ref (He.ga K "SourceError")) (.ref (He.ga K "SourceError")) = some true)) rfl)), (of_decide_eq_true (Hk.Look.test cT_0 42 (t := fun K => decide (PySem.W.kitAny K (.ref (He.ga K "SourceError")) [.ref (He.ga K "BadFiles"), .ref (He.ga K "NoFile")] = some false)) rfl)), (of_decide_eq_true (Hk.Look.test cT_0 43 (t := fun K => decide (PySem.W.kitOne K (.ref (He.ga K "SourceError")) (.type "ValueError") = some true)) rfl))⟩
  obtain ⟨fd_law, D_law⟩ := Hk.Look.def_ cD_3 19 (d := ⟨("law", none), "law", "law", defArgs sLaw, defBody sLaw, defScope sLaw, [], []⟩) rfl
  refine ⟨fd_law, fun s v => FunD.bindsA D_law (ps := ["_law_script"]) (fun _ _ _ _ _ _ us hl => match us, hl with | [_], _ => rfl) s [v] rfl, fun base _ _ TB => ?_⟩
  have FL : FunC K "law" sLaw (He.fAd K ("law", none)) fd_law (He.codeOf K ("law", none)) := toFunC (x := "law") (st := sLaw) D_law
  obtain ⟨fd__law_error, D__law_error⟩ := Hk.Look.def_ cD_0 0 (d := ⟨("_law_error", none), "_law_error", "_law_error", defArgs s_law_error, defBody s_law_error, defScope s_law_error, [], []⟩) rfl
  have F__law_error : Fun K "_law_error" "_law_error" s_law_error (He.fAd K ("_law_error", none)) fd__law_error := Hk.toFun D__law_error
  have b__law_error := F__law_error.binds (ps := ["_law_ask"]) fun _ _ _ _ _ _ us hl => match us, hl with | [_], _ => rfl
  have dL : DnL K mg := ⟨_, _, F__law_error, (He.glo_ok X G (Hk.Look.fact cF_0 53 (f := .glo "_law_error") rfl)), b__law_error⟩
  obtain ⟨fd_Project___init__, D_Project___init__⟩ := Hk.Look.def_ cD_0 1 (d := ⟨("Project", some "__init__"), "__init__", "Project.__init__", defArgs m_Project_init, defBody m_Project_init, defScope m_Project_init, [], []⟩) rfl
  have F_Project___init__ : Fun K "__init__" "Project.__init__" m_Project_init (He.fAd K ("Project", some "__init__")) fd_Project___init__ := Hk.toFun D_Project___init__
  obtain ⟨fd_are_files, D_are_files⟩ := Hk.Look.def_ cD_0 2 (d := ⟨("are_files", none), "are_files", "are_files", defArgs s_are_files, defBody s_are_files, defScope s_are_files, [], []⟩) rfl
  have F_are_files : Fun K "are_files" "are_files" s_are_files (He.fAd K ("are_files", none)) fd_are_files := Hk.toFun D_are_files
  obtain ⟨fd_is_file, D_is_file⟩ := Hk.Look.def_ cD_0 3 (d := ⟨("is_file", none), "is_file", "is_file", defArgs s_is_file, defBody s_is_file, defScope s_is_file, [], []⟩) rfl
  have F_is_file : Fun K "is_file" "is_file" s_is_file (He.fAd K ("is_file", none)) fd_is_file := Hk.toFun D_is_file
  obtain ⟨fd_is_name, D_is_name⟩ := Hk.Look.def_ cD_0 4 (d := ⟨("is_name", none), "is_name", "is_name", defArgs s_is_name, defBody s_is_name, defScope s_is_name, [], []⟩) rfl
  have F_is_name : Fun K "is_name" "is_name" s_is_name (He.fAd K ("is_name", none)) fd_is_name := Hk.toFun D_is_name
  obtain ⟨fd_is_word, D_is_word⟩ := Hk.Look.def_ cD_0 5 (d := ⟨("is_word", none), "is_word", "is_word", defArgs s_is_word, defBody s_is_word, defScope s_is_word, [], []⟩) rfl
  have F_is_word : Fun K "is_word" "is_word" s_is_word (He.fAd K ("is_word", none)) fd_is_word := Hk.toFun D_is_word
  have b_is_word := F_is_word.binds (ps := ["value"]) fun _ _ _ _ _ _ us hl => match us, hl with | [_], _ => rfl
  have d_is_word : DnO P w K mg base "is_word" 1 ["value"] spWord := ⟨_, _, (ok_word F_is_word T), (He.glo_ok X G (Hk.Look.fact cF_0 54 (f := .glo "is_word") rfl)), F_is_word.kp, b_is_word⟩
  have b_is_name := F_is_name.binds (ps := ["value"]) fun _ _ _ _ _ _ us hl => match us, hl with | [_], _ => rfl
  have d_is_name : DnO P w K mg base "is_name" 2 ["value"] spNm := ⟨_, _, (ok_name F_is_name T d_is_word), (He.glo_ok X G (Hk.Look.fact cF_0 55 (f := .glo "is_name") rfl)), F_is_name.kp, b_is_name⟩
  have b_is_file := F_is_file.binds (ps := ["value"]) fun _ _ _ _ _ _ us hl => match us, hl with | [_], _ => rfl
  have d_is_file : DnO P w K mg base "is_file" 3 ["value"] spIF := ⟨_, _, (ok_if F_is_file T d_is_name), (He.glo_ok X G (Hk.Look.fact cF_0 56 (f := .glo "is_file") rfl)), F_is_file.kp, b_is_file⟩
  have b_are_files := F_are_files.binds (ps := ["value"]) fun _ _ _ _ _ _ us hl => match us, hl with | [_], _ => rfl
  have d_are_files : DnO P w K mg base "are_files" 4 ["value"] spAF := ⟨_, _, (ok_af F_are_files T d_is_file), (He.glo_ok X G (Hk.Look.fact cF_0 57 (f := .glo "are_files") rfl)), F_are_files.kp, b_are_files⟩
  obtain ⟨fd_read_sources, D_read_sources⟩ := Hk.Look.def_ cD_0 6 (d := ⟨("read_sources", none), "read_sources", "read_sources", defArgs s_read_sources, defBody s_read_sources, defScope s_read_sources, [], []⟩) rfl
  have F_read_sources : Fun K "read_sources" "read_sources" s_read_sources (He.fAd K ("read_sources", none)) fd_read_sources := Hk.toFun D_read_sources
  obtain ⟨fd_read_file, D_read_file⟩ := Hk.Look.def_ cD_0 7 (d := ⟨("read_file", none), "read_file", "read_file", defArgs s_read_file, defBody s_read_file, defScope s_read_file, [], []⟩) rfl
  have F_read_file : Fun K "read_file" "read_file" s_read_file (He.fAd K ("read_file", none)) fd_read_file := Hk.toFun D_read_file
  obtain ⟨fd_Reader___init__, D_Reader___init__⟩ := Hk.Look.def_ cD_0 8 (d := ⟨("Reader", some "__init__"), "__init__", "Reader.__init__", defArgs m_Reader_init, defBody m_Reader_init, defScope m_Reader_init, [], []⟩) rfl
  have F_Reader___init__ : Fun K "__init__" "Reader.__init__" m_Reader_init (He.fAd K ("Reader", some "__init__")) fd_Reader___init__ := Hk.toFun D_Reader___init__
  obtain ⟨fd_Reader_go_on, D_Reader_go_on⟩ := Hk.Look.def_ cD_0 9 (d := ⟨("Reader", some "go_on"), "go_on", "Reader.go_on", defArgs m_Reader_go_on, defBody m_Reader_go_on, defScope m_Reader_go_on, [], []⟩) rfl
  have F_Reader_go_on : Fun K "go_on" "Reader.go_on" m_Reader_go_on (He.fAd K ("Reader", some "go_on")) fd_Reader_go_on := Hk.toFun D_Reader_go_on
  obtain ⟨fd_behind_gap, D_behind_gap⟩ := Hk.Look.def_ cD_0 10 (d := ⟨("behind_gap", none), "behind_gap", "behind_gap", defArgs sGap, defBody sGap, defScope sGap, [], []⟩) rfl
  have F_behind_gap : Fun K "behind_gap" "behind_gap" sGap (He.fAd K ("behind_gap", none)) fd_behind_gap := Hk.toFun D_behind_gap
  have b_behind_gap := F_behind_gap.binds (ps := ["text", "start"]) fun _ _ _ _ _ _ us hl => match us, hl with | [_, _], _ => rfl
  have d_behind_gap : DnO P w K mg base "behind_gap" 1 ["text", "start"] spGap := ⟨_, _, (ok_gap F_behind_gap T), (He.glo_ok X G (Hk.Look.fact cF_0 58 (f := .glo "behind_gap") rfl)), F_behind_gap.kp, b_behind_gap⟩
  obtain ⟨fd_token_end, D_token_end⟩ := Hk.Look.def_ cD_0 11 (d := ⟨("token_end", none), "token_end", "token_end", defArgs sTokEnd, defBody sTokEnd, defScope sTokEnd, [], []⟩) rfl
  have F_token_end : Fun K "token_end" "token_end" sTokEnd (He.fAd K ("token_end", none)) fd_token_end := Hk.toFun D_token_end
  obtain ⟨fd_run_end, D_run_end⟩ := Hk.Look.def_ cD_0 12 (d := ⟨("run_end", none), "run_end", "run_end", defArgs sRun, defBody sRun, defScope sRun, [], []⟩) rfl
  have F_run_end : Fun K "run_end" "run_end" sRun (He.fAd K ("run_end", none)) fd_run_end := Hk.toFun D_run_end
  have b_run_end := F_run_end.binds (ps := ["text", "start", "signs"]) fun _ _ _ _ _ _ us hl => match us, hl with | [_, _, _], _ => rfl
  have d_run_end : DnO P w K mg base "run_end" 1 ["text", "start", "signs"] spRun := ⟨_, _, (ok_run F_run_end T), (He.glo_ok X G (Hk.Look.fact cF_0 59 (f := .glo "run_end") rfl)), F_run_end.kp, b_run_end⟩
  obtain ⟨fd_is_string_part, D_is_string_part⟩ := Hk.Look.def_ cD_0 13 (d := ⟨("is_string_part", none), "is_string_part", "is_string_part", defArgs sPart, defBody sPart, defScope sPart, [], []⟩) rfl
  have F_is_string_part : Fun K "is_string_part" "is_string_part" sPart (He.fAd K ("is_string_part", none)) fd_is_string_part := Hk.toFun D_is_string_part
  have b_is_string_part := F_is_string_part.binds (ps := ["text"]) fun _ _ _ _ _ _ us hl => match us, hl with | [_], _ => rfl
  have d_is_string_part : DnO P w K mg base "is_string_part" 1 ["text"] spPart := ⟨_, _, (ok_part F_is_string_part T), (He.glo_ok X G (Hk.Look.fact cF_1 0 (f := .glo "is_string_part") rfl)), F_is_string_part.kp, b_is_string_part⟩
  have b_token_end := F_token_end.binds (ps := ["text", "start"]) fun _ _ _ _ _ _ us hl => match us, hl with | [_, _], _ => rfl
  have d_token_end : DnO P w K mg base "token_end" 2 ["text", "start"] spTE := ⟨_, _, (ok_te F_token_end T d_run_end d_is_string_part), (He.glo_ok X G (Hk.Look.fact cF_1 1 (f := .glo "token_end") rfl)), F_token_end.kp, b_token_end⟩
  have b_Reader_go_on := F_Reader_go_on.binds (ps := ["self", "end"]) fun _ _ _ _ _ _ us hl => match us, hl with | [_, _], _ => rfl
  obtain ⟨m_Reader_go_on, h_Reader_go_on⟩ : ∃ z : DnM P w K mg base (ksOf X G cT_0).Reader "go_on" 3 ["self", "end"] (spGo (ksOf X G cT_0).Reader.C), z.f = He.ma K (He.ga K "Reader") "go_on" := ⟨⟨_, _, (ok_go F_Reader_go_on T (ksOf X G cT_0).Reader d_behind_gap d_token_end), He.meth_ok (Hk.Look.fact cF_1 2 (f := .meth "Reader" "go_on") rfl), b_Reader_go_on⟩, rfl⟩
  have b_Reader___init__ := F_Reader___init__.binds (ps := ["self", "name", "signs"]) fun _ _ _ _ _ _ us hl => match us, hl with | [_, _, _], _ => rfl
  have i_Reader___init__ : Mkr P w K mg base (ksOf X G cT_0).Reader 4 ["self", "name", "signs"] spRdI := ⟨_, _, He.mkr_ok (Hk.Look.fact cF_1 3 (f := .mkr "Reader") rfl), (ok_rdI F_Reader___init__ T (ksOf X G cT_0).Reader m_Reader_go_on), b_Reader___init__⟩
  obtain ⟨fd_Reader_read_all, D_Reader_read_all⟩ := Hk.Look.def_ cD_0 14 (d := ⟨("Reader", some "read_all"), "read_all", "Reader.read_all", defArgs m_Reader_read_all, defBody m_Reader_read_all, defScope m_Reader_read_all, [], []⟩) rfl
  have F_Reader_read_all : Fun K "read_all" "Reader.read_all" m_Reader_read_all (He.fAd K ("Reader", some "read_all")) fd_Reader_read_all := Hk.toFun D_Reader_read_all
  obtain ⟨fd_FileSource___init__, D_FileSource___init__⟩ := Hk.Look.def_ cD_0 15 (d := ⟨("FileSource", some "__init__"), "__init__", "FileSource.__init__", defArgs m_FileSource_init, defBody m_FileSource_init, defScope m_FileSource_init, [], []⟩) rfl
  have F_FileSource___init__ : Fun K "__init__" "FileSource.__init__" m_FileSource_init (He.fAd K ("FileSource", some "__init__")) fd_FileSource___init__ := Hk.toFun D_FileSource___init__
  have b_FileSource___init__ := F_FileSource___init__.binds (ps := ["self", "name", "signs"]) fun _ _ _ _ _ _ us hl => match us, hl with | [_, _, _], _ => rfl
  have i_FileSource___init__ : Mkr P w K mg base (ksOf X G cT_0).FileSource 1 ["self", "name", "signs"] spFileI := ⟨_, _, He.mkr_ok (Hk.Look.fact cF_1 4 (f := .mkr "FileSource") rfl), (ok_iFile F_FileSource___init__ (ksOf X G cT_0).FileSource), b_FileSource___init__⟩
  obtain ⟨fd_Reader_accept, D_Reader_accept⟩ := Hk.Look.def_ cD_0 16 (d := ⟨("Reader", some "accept"), "accept", "Reader.accept", defArgs m_Reader_accept, defBody m_Reader_accept, defScope m_Reader_accept, [], []⟩) rfl
  have F_Reader_accept : Fun K "accept" "Reader.accept" m_Reader_accept (He.fAd K ("Reader", some "accept")) fd_Reader_accept := Hk.toFun D_Reader_accept
  have b_Reader_accept := F_Reader_accept.binds (ps := ["self", "wanted"]) fun _ _ _ _ _ _ us hl => match us, hl with | [_, _], _ => rfl
  obtain ⟨m_Reader_accept, h_Reader_accept⟩ : ∃ z : DnM P w K mg base (ksOf X G cT_0).Reader "accept" 4 ["self", "wanted"] (spAcc (ksOf X G cT_0).Reader.C), z.f = He.ma K (He.ga K "Reader") "accept" := ⟨⟨_, _, (ok_acc F_Reader_accept T (ksOf X G cT_0).Reader m_Reader_go_on), He.meth_ok (Hk.Look.fact cF_1 5 (f := .meth "Reader" "accept") rfl), b_Reader_accept⟩, rfl⟩
  obtain ⟨fd_Reader_take_name, D_Reader_take_name⟩ := Hk.Look.def_ cD_0 17 (d := ⟨("Reader", some "take_name"), "take_name", "Reader.take_name", defArgs m_Reader_take_name, defBody m_Reader_take_name, defScope m_Reader_take_name, [], []⟩) rfl
  have F_Reader_take_name : Fun K "take_name" "Reader.take_name" m_Reader_take_name (He.fAd K ("Reader", some "take_name")) fd_Reader_take_name := Hk.toFun D_Reader_take_name
  have b_Reader_take_name := F_Reader_take_name.binds (ps := ["self"]) fun _ _ _ _ _ _ us hl => match us, hl with | [_], _ => rfl
  obtain ⟨m_Reader_take_name, h_Reader_take_name⟩ : ∃ z : DnM P w K mg base (ksOf X G cT_0).Reader "take_name" 4 ["self"] (spTN (ksOf X G cT_0).Reader.C), z.f = He.ma K (He.ga K "Reader") "take_name" := ⟨⟨_, _, (ok_tn F_Reader_take_name T (ksOf X G cT_0).Reader m_Reader_go_on d_is_name), He.meth_ok (Hk.Look.fact cF_1 6 (f := .meth "Reader" "take_name") rfl), b_Reader_take_name⟩, rfl⟩
  obtain ⟨fd_Reader_read_list, D_Reader_read_list⟩ := Hk.Look.def_ cD_0 18 (d := ⟨("Reader", some "read_list"), "read_list", "Reader.read_list", defArgs m_Reader_read_list, defBody m_Reader_read_list, defScope m_Reader_read_list, [], []⟩) rfl
  have F_Reader_read_list : Fun K "read_list" "Reader.read_list" m_Reader_read_list (He.fAd K ("Reader", some "read_list")) fd_Reader_read_list := Hk.toFun D_Reader_read_list
  obtain ⟨fd_ListSource___init__, D_ListSource___init__⟩ := Hk.Look.def_ cD_0 19 (d := ⟨("ListSource", some "__init__"), "__init__", "ListSource.__init__", defArgs m_ListSource_init, defBody m_ListSource_init, defScope m_ListSource_init, [], []⟩) rfl
  have F_ListSource___init__ : Fun K "__init__" "ListSource.__init__" m_ListSource_init (He.fAd K ("ListSource", some "__init__")) fd_ListSource___init__ := Hk.toFun D_ListSource___init__
  have b_ListSource___init__ := F_ListSource___init__.binds (ps := ["self", "name", "name_start", "fields"]) fun _ _ _ _ _ _ us hl => match us, hl with | [_, _, _, _], _ => rfl
  have i_ListSource___init__ : Mkr P w K mg base (ksOf X G cT_0).ListSource 1 ["self", "name", "name_start", "fields"] spListI := ⟨_, _, He.mkr_ok (Hk.Look.fact cF_1 7 (f := .mkr "ListSource") rfl), (ok_iList F_ListSource___init__ (ksOf X G cT_0).ListSource), b_ListSource___init__⟩
  obtain ⟨fd_Reader_take, D_Reader_take⟩ := Hk.Look.def_ cD_0 20 (d := ⟨("Reader", some "take"), "take", "Reader.take", defArgs m_Reader_take, defBody m_Reader_take, defScope m_Reader_take, [], []⟩) rfl
  have F_Reader_take : Fun K "take" "Reader.take" m_Reader_take (He.fAd K ("Reader", some "take")) fd_Reader_take := Hk.toFun D_Reader_take
  have m_Reader_take : DnR P w K mg base (ksOf X G cT_0).Reader "take" 4 (spTk (ksOf X G cT_0).Reader.C) := ⟨_, (ok_tk F_Reader_take T (ksOf X G cT_0).Reader m_Reader_go_on), He.meth_ok (Hk.Look.fact cF_1 8 (f := .meth "Reader" "take") rfl), Hk.bm_of (Hk.Look.test cT_0 47 (t := fun K => Hk.bmB K (He.ga K "Reader") (He.ma K (He.ga K "Reader") "take")) rfl) (He.meth_ok (Hk.Look.fact cF_1 8 (f := .meth "Reader" "take") rfl)) (by decide +kernel)⟩
  obtain ⟨fd_Reader_read_list_field, D_Reader_read_list_field⟩ := Hk.Look.def_ cD_0 21 (d := ⟨("Reader", some "read_list_field"), "read_list_field", "Reader.read_list_field", defArgs m_Reader_read_list_field, defBody m_Reader_read_list_field, defScope m_Reader_read_list_field, [], []⟩) rfl
  have F_Reader_read_list_field : Fun K "read_list_field" "Reader.read_list_field" m_Reader_read_list_field (He.fAd K ("Reader", some "read_list_field")) fd_Reader_read_list_field := Hk.toFun D_Reader_read_list_field
  obtain ⟨fd_ListField___init__, D_ListField___init__⟩ := Hk.Look.def_ cD_0 22 (d := ⟨("ListField", some "__init__"), "__init__", "ListField.__init__", defArgs m_ListField_init, defBody m_ListField_init, defScope m_ListField_init, [], []⟩) rfl
  have F_ListField___init__ : Fun K "__init__" "ListField.__init__" m_ListField_init (He.fAd K ("ListField", some "__init__")) fd_ListField___init__ := Hk.toFun D_ListField___init__
  have b_ListField___init__ := F_ListField___init__.binds (ps := ["self", "name", "start", "kind"]) fun _ _ _ _ _ _ us hl => match us, hl with | [_, _, _, _], _ => rfl
  have i_ListField___init__ : Mkr P w K mg base (ksOf X G cT_0).ListField 1 ["self", "name", "start", "kind"] (sp3 nListField) := ⟨_, _, He.mkr_ok (Hk.Look.fact cF_1 9 (f := .mkr "ListField") rfl), (ok_iListField F_ListField___init__ (ksOf X G cT_0).ListField), b_ListField___init__⟩
  have b_Reader_read_list_field := F_Reader_read_list_field.binds (ps := ["self"]) fun _ _ _ _ _ _ us hl => match us, hl with | [_], _ => rfl
  obtain ⟨m_Reader_read_list_field, h_Reader_read_list_field⟩ : ∃ z : DnM P w K mg base (ksOf X G cT_0).Reader "read_list_field" 5 ["self"] (spLF (ksOf X G cT_0)), z.f = He.ma K (He.ga K "Reader") "read_list_field" := ⟨⟨_, _, (ok_lf F_Reader_read_list_field T (ksOf X G cT_0) i_ListField___init__ m_Reader_take m_Reader_take_name), He.meth_ok (Hk.Look.fact cF_1 10 (f := .meth "Reader" "read_list_field") rfl), b_Reader_read_list_field⟩, rfl⟩
  have b_Reader_read_list := F_Reader_read_list.binds (ps := ["self"]) fun _ _ _ _ _ _ us hl => match us, hl with | [_], _ => rfl
  obtain ⟨m_Reader_read_list, h_Reader_read_list⟩ : ∃ z : DnM P w K mg base (ksOf X G cT_0).Reader "read_list" 6 ["self"] (spLi (ksOf X G cT_0)), z.f = He.ma K (He.ga K "Reader") "read_list" := ⟨⟨_, _, (ok_list F_Reader_read_list T (ksOf X G cT_0) i_ListSource___init__ m_Reader_take m_Reader_take_name m_Reader_read_list_field), He.meth_ok (Hk.Look.fact cF_1 11 (f := .meth "Reader" "read_list") rfl), b_Reader_read_list⟩, rfl⟩
  obtain ⟨fd_Reader_read_template, D_Reader_read_template⟩ := Hk.Look.def_ cD_1 0 (d := ⟨("Reader", some "read_template"), "read_template", "Reader.read_template", defArgs m_Reader_read_template, defBody m_Reader_read_template, defScope m_Reader_read_template, [], []⟩) rfl
  have F_Reader_read_template : Fun K "read_template" "Reader.read_template" m_Reader_read_template (He.fAd K ("Reader", some "read_template")) fd_Reader_read_template := Hk.toFun D_Reader_read_template
  obtain ⟨fd_Template___init__, D_Template___init__⟩ := Hk.Look.def_ cD_1 1 (d := ⟨("Template", some "__init__"), "__init__", "Template.__init__", defArgs m_Template_init, defBody m_Template_init, defScope m_Template_init, [], []⟩) rfl
  have F_Template___init__ : Fun K "__init__" "Template.__init__" m_Template_init (He.fAd K ("Template", some "__init__")) fd_Template___init__ := Hk.toFun D_Template___init__
  have b_Template___init__ := F_Template___init__.binds (ps := ["self", "name", "name_start", "body"]) fun _ _ _ _ _ _ us hl => match us, hl with | [_, _, _, _], _ => rfl
  have i_Template___init__ : Mkr P w K mg base (ksOf X G cT_0).Template 1 ["self", "name", "name_start", "body"] spTemplateI := ⟨_, _, He.mkr_ok (Hk.Look.fact cF_1 12 (f := .mkr "Template") rfl), (ok_iTemplate F_Template___init__ (ksOf X G cT_0).Template), b_Template___init__⟩
  obtain ⟨fd_Reader_read_body, D_Reader_read_body⟩ := Hk.Look.def_ cD_1 2 (d := ⟨("Reader", some "read_body"), "read_body", "Reader.read_body", defArgs m_Reader_read_body, defBody m_Reader_read_body, defScope m_Reader_read_body, [], []⟩) rfl
  have F_Reader_read_body : Fun K "read_body" "Reader.read_body" m_Reader_read_body (He.fAd K ("Reader", some "read_body")) fd_Reader_read_body := Hk.toFun D_Reader_read_body
  obtain ⟨fd_Body___init__, D_Body___init__⟩ := Hk.Look.def_ cD_1 3 (d := ⟨("Body", some "__init__"), "__init__", "Body.__init__", defArgs m_Body_init, defBody m_Body_init, defScope m_Body_init, [], []⟩) rfl
  have F_Body___init__ : Fun K "__init__" "Body.__init__" m_Body_init (He.fAd K ("Body", some "__init__")) fd_Body___init__ := Hk.toFun D_Body___init__
  have b_Body___init__ := F_Body___init__.binds (ps := ["self", "entries", "start", "end"]) fun _ _ _ _ _ _ us hl => match us, hl with | [_, _, _, _], _ => rfl
  have i_Body___init__ : Mkr P w K mg base (ksOf X G cT_0).Body 1 ["self", "entries", "start", "end"] (sp3 nBody) := ⟨_, _, He.mkr_ok (Hk.Look.fact cF_1 13 (f := .mkr "Body") rfl), (ok_iBody F_Body___init__ (ksOf X G cT_0).Body), b_Body___init__⟩
  obtain ⟨fd_Reader_read_entry, D_Reader_read_entry⟩ := Hk.Look.def_ cD_1 4 (d := ⟨("Reader", some "read_entry"), "read_entry", "Reader.read_entry", defArgs m_Reader_read_entry, defBody m_Reader_read_entry, defScope m_Reader_read_entry, [], []⟩) rfl
  have F_Reader_read_entry : Fun K "read_entry" "Reader.read_entry" m_Reader_read_entry (He.fAd K ("Reader", some "read_entry")) fd_Reader_read_entry := Hk.toFun D_Reader_read_entry
  obtain ⟨fd_Entry___init__, D_Entry___init__⟩ := Hk.Look.def_ cD_1 5 (d := ⟨("Entry", some "__init__"), "__init__", "Entry.__init__", defArgs m_Entry_init, defBody m_Entry_init, defScope m_Entry_init, [], []⟩) rfl
  have F_Entry___init__ : Fun K "__init__" "Entry.__init__" m_Entry_init (He.fAd K ("Entry", some "__init__")) fd_Entry___init__ := Hk.toFun D_Entry___init__
  have b_Entry___init__ := F_Entry___init__.binds (ps := ["self", "name", "name_start", "value"]) fun _ _ _ _ _ _ us hl => match us, hl with | [_, _, _, _], _ => rfl
  have i_Entry___init__ : Mkr P w K mg base (ksOf X G cT_0).Entry 1 ["self", "name", "name_start", "value"] (spEntryI K) := ⟨_, _, He.mkr_ok (Hk.Look.fact cF_1 14 (f := .mkr "Entry") rfl), (ok_iEntry F_Entry___init__ (ksOf X G cT_0).Entry), b_Entry___init__⟩
  obtain ⟨fd_Reader_read_value, D_Reader_read_value⟩ := Hk.Look.def_ cD_1 6 (d := ⟨("Reader", some "read_value"), "read_value", "Reader.read_value", defArgs m_Reader_read_value, defBody m_Reader_read_value, defScope m_Reader_read_value, [], []⟩) rfl
  have F_Reader_read_value : Fun K "read_value" "Reader.read_value" m_Reader_read_value (He.fAd K ("Reader", some "read_value")) fd_Reader_read_value := Hk.toFun D_Reader_read_value
  obtain ⟨fd_Reader_read_simple, D_Reader_read_simple⟩ := Hk.Look.def_ cD_1 7 (d := ⟨("Reader", some "read_simple"), "read_simple", "Reader.read_simple", defArgs m_Reader_read_simple, defBody m_Reader_read_simple, defScope m_Reader_read_simple, [], []⟩) rfl
  have F_Reader_read_simple : Fun K "read_simple" "Reader.read_simple" m_Reader_read_simple (He.fAd K ("Reader", some "read_simple")) fd_Reader_read_simple := Hk.toFun D_Reader_read_simple
  obtain ⟨fd_Literal___init__, D_Literal___init__⟩ := Hk.Look.def_ cD_1 8 (d := ⟨("Literal", some "__init__"), "__init__", "Literal.__init__", defArgs m_Literal_init, defBody m_Literal_init, defScope m_Literal_init, [], []⟩) rfl
  have F_Literal___init__ : Fun K "__init__" "Literal.__init__" m_Literal_init (He.fAd K ("Literal", some "__init__")) fd_Literal___init__ := Hk.toFun D_Literal___init__
  have b_Literal___init__ := F_Literal___init__.binds (ps := ["self", "value", "start", "end"]) fun _ _ _ _ _ _ us hl => match us, hl with | [_, _, _, _], _ => rfl
  have i_Literal___init__ : Mkr P w K mg base (ksOf X G cT_0).Literal 1 ["self", "value", "start", "end"] (sp3 nLiteral) := ⟨_, _, He.mkr_ok (Hk.Look.fact cF_1 15 (f := .mkr "Literal") rfl), (ok_iLiteral F_Literal___init__ (ksOf X G cT_0).Literal), b_Literal___init__⟩
  obtain ⟨fd_Reader_is_string, D_Reader_is_string⟩ := Hk.Look.def_ cD_1 9 (d := ⟨("Reader", some "is_string"), "is_string", "Reader.is_string", defArgs m_Reader_is_string, defBody m_Reader_is_string, defScope m_Reader_is_string, [], []⟩) rfl
  have F_Reader_is_string : Fun K "is_string" "Reader.is_string" m_Reader_is_string (He.fAd K ("Reader", some "is_string")) fd_Reader_is_string := Hk.toFun D_Reader_is_string
  have b_Reader_is_string := F_Reader_is_string.binds (ps := ["self"]) fun _ _ _ _ _ _ us hl => match us, hl with | [_], _ => rfl
  obtain ⟨m_Reader_is_string, h_Reader_is_string⟩ : ∃ z : DnM P w K mg base (ksOf X G cT_0).Reader "is_string" 1 ["self"] (spIS (ksOf X G cT_0).Reader.C), z.f = He.ma K (He.ga K "Reader") "is_string" := ⟨⟨_, _, (ok_is F_Reader_is_string T (ksOf X G cT_0).Reader), He.meth_ok (Hk.Look.fact cF_1 16 (f := .meth "Reader" "is_string") rfl), b_Reader_is_string⟩, rfl⟩
  obtain ⟨fd_Reader_read_term, D_Reader_read_term⟩ := Hk.Look.def_ cD_1 10 (d := ⟨("Reader", some "read_term"), "read_term", "Reader.read_term", defArgs m_Reader_read_term, defBody m_Reader_read_term, defScope m_Reader_read_term, [], []⟩) rfl
  have F_Reader_read_term : Fun K "read_term" "Reader.read_term" m_Reader_read_term (He.fAd K ("Reader", some "read_term")) fd_Reader_read_term := Hk.toFun D_Reader_read_term
  obtain ⟨fd_Term___init__, D_Term___init__⟩ := Hk.Look.def_ cD_1 11 (d := ⟨("Term", some "__init__"), "__init__", "Term.__init__", defArgs m_Term_init, defBody m_Term_init, defScope m_Term_init, [], []⟩) rfl
  have F_Term___init__ : Fun K "__init__" "Term.__init__" m_Term_init (He.fAd K ("Term", some "__init__")) fd_Term___init__ := Hk.toFun D_Term___init__
  have b_Term___init__ := F_Term___init__.binds (ps := ["self", "factor", "path", "is_plain"]) fun _ _ _ _ _ _ us hl => match us, hl with | [_, _, _, _], _ => rfl
  have i_Term___init__ : Mkr P w K mg base (ksOf X G cT_0).Term 1 ["self", "factor", "path", "is_plain"] (sp3 nTerm) := ⟨_, _, He.mkr_ok (Hk.Look.fact cF_1 17 (f := .mkr "Term") rfl), (ok_iTerm F_Term___init__ (ksOf X G cT_0).Term), b_Term___init__⟩
  obtain ⟨fd_Reader_is_number, D_Reader_is_number⟩ := Hk.Look.def_ cD_1 12 (d := ⟨("Reader", some "is_number"), "is_number", "Reader.is_number", defArgs m_Reader_is_number, defBody m_Reader_is_number, defScope m_Reader_is_number, [], []⟩) rfl
  have F_Reader_is_number : Fun K "is_number" "Reader.is_number" m_Reader_is_number (He.fAd K ("Reader", some "is_number")) fd_Reader_is_number := Hk.toFun D_Reader_is_number
  have b_Reader_is_number := F_Reader_is_number.binds (ps := ["self"]) fun _ _ _ _ _ _ us hl => match us, hl with | [_], _ => rfl
  obtain ⟨m_Reader_is_number, h_Reader_is_number⟩ : ∃ z : DnM P w K mg base (ksOf X G cT_0).Reader "is_number" 1 ["self"] (spIN (ksOf X G cT_0).Reader.C), z.f = He.ma K (He.ga K "Reader") "is_number" := ⟨⟨_, _, (ok_in F_Reader_is_number T (ksOf X G cT_0).Reader), He.meth_ok (Hk.Look.fact cF_1 18 (f := .meth "Reader" "is_number") rfl), b_Reader_is_number⟩, rfl⟩
  obtain ⟨fd_Reader_take_number, D_Reader_take_number⟩ := Hk.Look.def_ cD_1 13 (d := ⟨("Reader", some "take_number"), "take_number", "Reader.take_number", defArgs m_Reader_take_number, defBody m_Reader_take_number, defScope m_Reader_take_number, [], []⟩) rfl
  have F_Reader_take_number : Fun K "take_number" "Reader.take_number" m_Reader_take_number (He.fAd K ("Reader", some "take_number")) fd_Reader_take_number := Hk.toFun D_Reader_take_number
  have b_Reader_take_number := F_Reader_take_number.binds (ps := ["self"]) fun _ _ _ _ _ _ us hl => match us, hl with | [_], _ => rfl
  obtain ⟨m_Reader_take_number, h_Reader_take_number⟩ : ∃ z : DnM P w K mg base (ksOf X G cT_0).Reader "take_number" 4 ["self"] (spTNum (ksOf X G cT_0).Reader.C), z.f = He.ma K (He.ga K "Reader") "take_number" := ⟨⟨_, _, (ok_tnum F_Reader_take_number T (ksOf X G cT_0).Reader m_Reader_go_on m_Reader_is_number), He.meth_ok (Hk.Look.fact cF_1 19 (f := .meth "Reader" "take_number") rfl), b_Reader_take_number⟩, rfl⟩
  have b_Reader_read_term := F_Reader_read_term.binds (ps := ["self", "sign"]) fun _ _ _ _ _ _ us hl => match us, hl with | [_, _], _ => rfl
  obtain ⟨m_Reader_read_term, h_Reader_read_term⟩ : ∃ z : DnM P w K mg base (ksOf X G cT_0).Reader "read_term" 5 ["self", "sign"] (spTm (ksOf X G cT_0).Reader.C (ksOf X G cT_0).Term.C), z.f = He.ma K (He.ga K "Reader") "read_term" := ⟨⟨_, _, (ok_tm F_Reader_read_term T (ksOf X G cT_0).Reader (ksOf X G cT_0).Term i_Term___init__ m_Reader_is_number m_Reader_take_number m_Reader_accept), He.meth_ok (Hk.Look.fact cF_1 20 (f := .meth "Reader" "read_term") rfl), b_Reader_read_term⟩, rfl⟩
  have b_Reader_read_simple := F_Reader_read_simple.binds (ps := ["self"]) fun _ _ _ _ _ _ us hl => match us, hl with | [_], _ => rfl
  obtain ⟨m_Reader_read_simple, h_Reader_read_simple⟩ : ∃ z : DnM P w K mg base (ksOf X G cT_0).Reader "read_simple" 6 ["self"] (spSi (ksOf X G cT_0).Reader.C (ksOf X G cT_0).Literal.C), z.f = He.ma K (He.ga K "Reader") "read_simple" := ⟨⟨_, _, (ok_si F_Reader_read_simple T (ksOf X G cT_0).Reader (ksOf X G cT_0).Term (ksOf X G cT_0).Literal i_Literal___init__ m_Reader_is_string m_Reader_accept m_Reader_read_term), He.meth_ok (Hk.Look.fact cF_1 21 (f := .meth "Reader" "read_simple") rfl), b_Reader_read_simple⟩, rfl⟩
  have b_Reader_read_value := F_Reader_read_value.binds (ps := ["self", "is_declared", "is_hidden"]) fun _ _ _ _ _ _ us hl => match us, hl with | [_, _, _], _ => rfl
  obtain ⟨m_Reader_read_value, h_Reader_read_value⟩ : ∃ z : DnM P w K mg base (ksOf X G cT_0).Reader "read_value" 7 ["self", "is_declared", "is_hidden"] (spVl (ksOf X G cT_0).Reader.C (ksOf X G cT_0).Literal.C), z.f = He.ma K (He.ga K "Reader") "read_value" := ⟨⟨_, _, (ok_vl F_Reader_read_value T (ksOf X G cT_0).Reader (ksOf X G cT_0).Literal m_Reader_read_simple), He.meth_ok (Hk.Look.fact cF_1 22 (f := .meth "Reader" "read_value") rfl), b_Reader_read_value⟩, rfl⟩
  have b_Reader_read_entry := F_Reader_read_entry.binds (ps := ["self", "is_declared"]) fun _ _ _ _ _ _ us hl => match us, hl with | [_, _], _ => rfl
  obtain ⟨m_Reader_read_entry, h_Reader_read_entry⟩ : ∃ z : DnM P w K mg base (ksOf X G cT_0).Reader "read_entry" 8 ["self", "is_declared"] (spEn (ksOf X G cT_0)), z.f = He.ma K (He.ga K "Reader") "read_entry" := ⟨⟨_, _, (ok_en F_Reader_read_entry T (ksOf X G cT_0) i_Entry___init__ m_Reader_accept m_Reader_take_name m_Reader_take m_Reader_read_value), He.meth_ok (Hk.Look.fact cF_1 23 (f := .meth "Reader" "read_entry") rfl), b_Reader_read_entry⟩, rfl⟩
  have b_Reader_read_body := F_Reader_read_body.binds (ps := ["self", "is_declared"]) fun _ _ _ _ _ _ us hl => match us, hl with | [_, _], _ => rfl
  obtain ⟨m_Reader_read_body, h_Reader_read_body⟩ : ∃ z : DnM P w K mg base (ksOf X G cT_0).Reader "read_body" 9 ["self", "is_declared"] (spBo (ksOf X G cT_0)), z.f = He.ma K (He.ga K "Reader") "read_body" := ⟨⟨_, _, (ok_bo F_Reader_read_body T (ksOf X G cT_0) i_Body___init__ m_Reader_accept m_Reader_take m_Reader_read_entry), He.meth_ok (Hk.Look.fact cF_1 24 (f := .meth "Reader" "read_body") rfl), b_Reader_read_body⟩, rfl⟩
  have b_Reader_read_template := F_Reader_read_template.binds (ps := ["self"]) fun _ _ _ _ _ _ us hl => match us, hl with | [_], _ => rfl
  obtain ⟨m_Reader_read_template, h_Reader_read_template⟩ : ∃ z : DnM P w K mg base (ksOf X G cT_0).Reader "read_template" 10 ["self"] (spTe (ksOf X G cT_0)), z.f = He.ma K (He.ga K "Reader") "read_template" := ⟨⟨_, _, (ok_template F_Reader_read_template T (ksOf X G cT_0) i_Template___init__ m_Reader_accept m_Reader_take m_Reader_take_name m_Reader_read_body), He.meth_ok (Hk.Look.fact cF_1 25 (f := .meth "Reader" "read_template") rfl), b_Reader_read_template⟩, rfl⟩
  have b_Reader_read_all := F_Reader_read_all.binds (ps := ["self"]) fun _ _ _ _ _ _ us hl => match us, hl with | [_], _ => rfl
  obtain ⟨m_Reader_read_all, h_Reader_read_all⟩ : ∃ z : DnM P w K mg base (ksOf X G cT_0).Reader "read_all" 11 ["self"] (spAll (ksOf X G cT_0)), z.f = He.ma K (He.ga K "Reader") "read_all" := ⟨⟨_, _, (ok_all F_Reader_read_all T (ksOf X G cT_0) i_FileSource___init__ m_Reader_accept m_Reader_take_name m_Reader_read_list m_Reader_read_template), He.meth_ok (Hk.Look.fact cF_1 26 (f := .meth "Reader" "read_all") rfl), b_Reader_read_all⟩, rfl⟩
  have b_read_file := F_read_file.binds (ps := ["name", "text"]) fun _ _ _ _ _ _ us hl => match us, hl with | [_, _], _ => rfl
  have d_read_file : DnO P w K mg base "read_file" 12 ["name", "text"] (spRF (ksOf X G cT_0)) := ⟨_, _, (ok_rf F_read_file T (ksOf X G cT_0) i_Reader___init__ m_Reader_read_all), (He.glo_ok X G (Hk.Look.fact cF_1 27 (f := .glo "read_file") rfl)), F_read_file.kp, b_read_file⟩
  obtain ⟨fd_sources_of, D_sources_of⟩ := Hk.Look.def_ cD_1 14 (d := ⟨("sources_of", none), "sources_of", "sources_of", defArgs s_sources_of, defBody s_sources_of, defScope s_sources_of, [], []⟩) rfl
  have F_sources_of : Fun K "sources_of" "sources_of" s_sources_of (He.fAd K ("sources_of", none)) fd_sources_of := Hk.toFun D_sources_of
  obtain ⟨fd_Sources___init__, D_Sources___init__⟩ := Hk.Look.def_ cD_1 15 (d := ⟨("Sources", some "__init__"), "__init__", "Sources.__init__", defArgs m_Sources_init, defBody m_Sources_init, defScope m_Sources_init, [], []⟩) rfl
  have F_Sources___init__ : Fun K "__init__" "Sources.__init__" m_Sources_init (He.fAd K ("Sources", some "__init__")) fd_Sources___init__ := Hk.toFun D_Sources___init__
  have b_Sources___init__ := F_Sources___init__.binds (ps := ["self", "files"]) fun _ _ _ _ _ _ us hl => match us, hl with | [_, _], _ => rfl
  have i_Sources___init__ : Mkr P w K mg base (ksOf X G cT_0).Sources 1 ["self", "files"] (fun _ => spSoI (ksOf X G cT_0)) := ⟨_, _, He.mkr_ok (Hk.Look.fact cF_1 28 (f := .mkr "Sources") rfl), (ok_soI F_Sources___init__ T (ksOf X G cT_0)), b_Sources___init__⟩
  obtain ⟨fd_check_names, D_check_names⟩ := Hk.Look.def_ cD_1 16 (d := ⟨("check_names", none), "check_names", "check_names", defArgs s_check_names, defBody s_check_names, defScope s_check_names, [], []⟩) rfl
  have F_check_names : Fun K "check_names" "check_names" s_check_names (He.fAd K ("check_names", none)) fd_check_names := Hk.toFun D_check_names
  obtain ⟨fd_raise_first, D_raise_first⟩ := Hk.Look.def_ cD_1 17 (d := ⟨("raise_first", none), "raise_first", "raise_first", defArgs s_raise_first, defBody s_raise_first, defScope s_raise_first, [], []⟩) rfl
  have F_raise_first : Fun K "raise_first" "raise_first" s_raise_first (He.fAd K ("raise_first", none)) fd_raise_first := Hk.toFun D_raise_first
  obtain ⟨fd_SourceError___init__, D_SourceError___init__⟩ := Hk.Look.def_ cD_1 18 (d := ⟨("SourceError", some "__init__"), "__init__", "SourceError.__init__", defArgs m_SourceError_init, defBody m_SourceError_init, defScope m_SourceError_init, [], []⟩) rfl
  have F_SourceError___init__ : Fun K "__init__" "SourceError.__init__" m_SourceError_init (He.fAd K ("SourceError", some "__init__")) fd_SourceError___init__ := Hk.toFun D_SourceError___init__
  have b_SourceError___init__ := F_SourceError___init__.binds (ps := ["self", "word", "file", "index"]) fun _ _ _ _ _ _ us hl => match us, hl with | [_, _, _, _], _ => rfl
  have dE : DnE P w K mg base (He.ga K "SourceError") (He.ga K "BackError") := ⟨_, _, ok_err F_SourceError___init__ er, b_SourceError___init__, er, (of_decide_eq_true (Hk.Look.test cT_0 48 (t := fun K => decide (PySem.W.findIn K (.ref (He.ga K "SourceError")) "__init__" = some (some (.ref (He.ma K (He.ga K "SourceError") "__init__"))))) rfl)), (of_decide_eq_true (Hk.Look.test cT_0 49 (t := fun K => decide (PySem.W.typeIn K (.ref (He.ma K (He.ga K "SourceError") "__init__")) = some (.type "function"))) rfl))⟩
  have b_raise_first := F_raise_first.binds (ps := ["word", "name", "found"]) fun _ _ _ _ _ _ us hl => match us, hl with | [_, _, _], _ => rfl
  have d_raise_first : DnX P w K mg base "raise_first" 3 ["word", "name", "found"] (spF1 (He.ga K "SourceError")) := ⟨_, _, (ok_f1 F_raise_first T dE), (He.glo_ok X G (Hk.Look.fact cF_1 29 (f := .glo "raise_first") rfl)), F_raise_first.kp, b_raise_first⟩
  obtain ⟨fd_wrong_imports, D_wrong_imports⟩ := Hk.Look.def_ cD_1 19 (d := ⟨("wrong_imports", none), "wrong_imports", "wrong_imports", defArgs s_wrong_imports, defBody s_wrong_imports, defScope s_wrong_imports, [], []⟩) rfl
  have F_wrong_imports : Fun K "wrong_imports" "wrong_imports" s_wrong_imports (He.fAd K ("wrong_imports", none)) fd_wrong_imports := Hk.toFun D_wrong_imports
  have b_wrong_imports := F_wrong_imports.binds (ps := ["sources", "file"]) fun _ _ _ _ _ _ us hl => match us, hl with | [_, _], _ => rfl
  have d_wrong_imports : DnO P w K mg base "wrong_imports" 1 ["sources", "file"] (spWI (ksOf X G cT_0)) := ⟨_, _, (ok_wi F_wrong_imports T (ksOf X G cT_0)), (He.glo_ok X G (Hk.Look.fact cF_1 30 (f := .glo "wrong_imports") rfl)), F_wrong_imports.kp, b_wrong_imports⟩
  obtain ⟨fd_repeated_names, D_repeated_names⟩ := Hk.Look.def_ cD_1 20 (d := ⟨("repeated_names", none), "repeated_names", "repeated_names", defArgs s_repeated_names, defBody s_repeated_names, defScope s_repeated_names, [], []⟩) rfl
  have F_repeated_names : Fun K "repeated_names" "repeated_names" s_repeated_names (He.fAd K ("repeated_names", none)) fd_repeated_names := Hk.toFun D_repeated_names
  obtain ⟨fd_own_names, D_own_names⟩ := Hk.Look.def_ cD_1 21 (d := ⟨("own_names", none), "own_names", "own_names", defArgs s_own_names, defBody s_own_names, defScope s_own_names, [], []⟩) rfl
  have F_own_names : Fun K "own_names" "own_names" s_own_names (He.fAd K ("own_names", none)) fd_own_names := Hk.toFun D_own_names
  have b_own_names := F_own_names.binds (ps := ["file"]) fun _ _ _ _ _ _ us hl => match us, hl with | [_], _ => rfl
  have d_own_names : DnO P w K mg base "own_names" 1 ["file"] (spON (ksOf X G cT_0)) := ⟨_, _, (ok_on F_own_names T (ksOf X G cT_0)), (He.glo_ok X G (Hk.Look.fact cF_1 31 (f := .glo "own_names") rfl)), F_own_names.kp, b_own_names⟩
  obtain ⟨fd_repeated, D_repeated⟩ := Hk.Look.def_ cD_1 22 (d := ⟨("repeated", none), "repeated", "repeated", defArgs s_repeated, defBody s_repeated, defScope s_repeated, [], []⟩) rfl
  have F_repeated : Fun K "repeated" "repeated" s_repeated (He.fAd K ("repeated", none)) fd_repeated := Hk.toFun D_repeated
  have b_repeated := F_repeated.binds (ps := ["pairs"]) fun _ _ _ _ _ _ us hl => match us, hl with | [_], _ => rfl
  have d_repeated : DnO P w K mg base "repeated" 1 ["pairs"] spRp := ⟨_, _, (ok_rp F_repeated T), (He.glo_ok X G (Hk.Look.fact cF_1 32 (f := .glo "repeated") rfl)), F_repeated.kp, b_repeated⟩
  obtain ⟨fd_repeated_imports, D_repeated_imports⟩ := Hk.Look.def_ cD_2 0 (d := ⟨("repeated_imports", none), "repeated_imports", "repeated_imports", defArgs s_repeated_imports, defBody s_repeated_imports, defScope s_repeated_imports, [], []⟩) rfl
  have F_repeated_imports : Fun K "repeated_imports" "repeated_imports" s_repeated_imports (He.fAd K ("repeated_imports", none)) fd_repeated_imports := Hk.toFun D_repeated_imports
  have b_repeated_imports := F_repeated_imports.binds (ps := ["sources", "file"]) fun _ _ _ _ _ _ us hl => match us, hl with | [_, _], _ => rfl
  have d_repeated_imports : DnO P w K mg base "repeated_imports" 2 ["sources", "file"] (spRI (ksOf X G cT_0)) := ⟨_, _, (ok_ri F_repeated_imports T (ksOf X G cT_0) d_own_names), (He.glo_ok X G (Hk.Look.fact cF_1 33 (f := .glo "repeated_imports") rfl)), F_repeated_imports.kp, b_repeated_imports⟩
  obtain ⟨fd_outer_bodies, D_outer_bodies⟩ := Hk.Look.def_ cD_2 1 (d := ⟨("outer_bodies", none), "outer_bodies", "outer_bodies", defArgs s_outer_bodies, defBody s_outer_bodies, defScope s_outer_bodies, [], []⟩) rfl
  have F_outer_bodies : Fun K "outer_bodies" "outer_bodies" s_outer_bodies (He.fAd K ("outer_bodies", none)) fd_outer_bodies := Hk.toFun D_outer_bodies
  have b_outer_bodies := F_outer_bodies.binds (ps := ["file"]) fun _ _ _ _ _ _ us hl => match us, hl with | [_], _ => rfl
  have d_outer_bodies : DnO P w K mg base "outer_bodies" 1 ["file"] (spOB (ksOf X G cT_0)) := ⟨_, _, (ok_ob F_outer_bodies T (ksOf X G cT_0)), (He.glo_ok X G (Hk.Look.fact cF_1 34 (f := .glo "outer_bodies") rfl)), F_outer_bodies.kp, b_outer_bodies⟩
  obtain ⟨fd_loops_of, D_loops_of⟩ := Hk.Look.def_ cD_2 2 (d := ⟨("loops_of", none), "loops_of", "loops_of", defArgs s_loops_of, defBody s_loops_of, defScope s_loops_of, [], []⟩) rfl
  have F_loops_of : Fun K "loops_of" "loops_of" s_loops_of (He.fAd K ("loops_of", none)) fd_loops_of := Hk.toFun D_loops_of
  have b_loops_of := F_loops_of.binds (ps := ["body"]) fun _ _ _ _ _ _ us hl => match us, hl with | [_], _ => rfl
  have d_loops_of : DnO P w K mg base "loops_of" 1 ["body"] (spLO (ksOf X G cT_0)) := ⟨_, _, (ok_lo F_loops_of T (ksOf X G cT_0) I), (He.glo_ok X G (Hk.Look.fact cF_1 35 (f := .glo "loops_of") rfl)), F_loops_of.kp, b_loops_of⟩
  obtain ⟨fd_all_bodies, D_all_bodies⟩ := Hk.Look.def_ cD_2 3 (d := ⟨("all_bodies", none), "all_bodies", "all_bodies", defArgs s_all_bodies, defBody s_all_bodies, defScope s_all_bodies, [], []⟩) rfl
  have F_all_bodies : Fun K "all_bodies" "all_bodies" s_all_bodies (He.fAd K ("all_bodies", none)) fd_all_bodies := Hk.toFun D_all_bodies
  obtain ⟨fd_bodies_in, D_bodies_in⟩ := Hk.Look.def_ cD_2 4 (d := ⟨("bodies_in", none), "bodies_in", "bodies_in", defArgs s_bodies_in, defBody s_bodies_in, defScope s_bodies_in, [], []⟩) rfl
  have F_bodies_in : Fun K "bodies_in" "bodies_in" s_bodies_in (He.fAd K ("bodies_in", none)) fd_bodies_in := Hk.toFun D_bodies_in
  have b_bodies_in := F_bodies_in.binds (ps := ["value"]) fun _ _ _ _ _ _ us hl => match us, hl with | [_], _ => rfl
  have d_bodies_in : DnO P w K mg base "bodies_in" 1 ["value"] (spBI (ksOf X G cT_0)) := ⟨_, _, (ok_bi F_bodies_in T (ksOf X G cT_0) I), (He.glo_ok X G (Hk.Look.fact cF_1 36 (f := .glo "bodies_in") rfl)), F_bodies_in.kp, b_bodies_in⟩
  obtain ⟨fd_entries_within, D_entries_within⟩ := Hk.Look.def_ cD_2 5 (d := ⟨("entries_within", none), "entries_within", "entries_within", defArgs s_entries_within, defBody s_entries_within, defScope s_entries_within, [], []⟩) rfl
  have F_entries_within : Fun K "entries_within" "entries_within" s_entries_within (He.fAd K ("entries_within", none)) fd_entries_within := Hk.toFun D_entries_within
  have b_entries_within := F_entries_within.binds (ps := ["body"]) fun _ _ _ _ _ _ us hl => match us, hl with | [_], _ => rfl
  have d_entries_within : DnO P w K mg base "entries_within" 2 ["body"] (spEW (ksOf X G cT_0)) := ⟨_, _, (ok_ew F_entries_within T (ksOf X G cT_0) d_bodies_in), (He.glo_ok X G (Hk.Look.fact cF_1 37 (f := .glo "entries_within") rfl)), F_entries_within.kp, b_entries_within⟩
  have b_all_bodies := F_all_bodies.binds (ps := ["body"]) fun _ _ _ _ _ _ us hl => match us, hl with | [_], _ => rfl
  have d_all_bodies : DnO P w K mg base "all_bodies" 3 ["body"] (spAB (ksOf X G cT_0)) := ⟨_, _, (ok_ab F_all_bodies T (ksOf X G cT_0) d_bodies_in d_entries_within), (He.glo_ok X G (Hk.Look.fact cF_1 38 (f := .glo "all_bodies") rfl)), F_all_bodies.kp, b_all_bodies⟩
  have b_repeated_names := F_repeated_names.binds (ps := ["sources", "file"]) fun _ _ _ _ _ _ us hl => match us, hl with | [_, _], _ => rfl
  have d_repeated_names : DnO P w K mg base "repeated_names" 4 ["sources", "file"] (spRN (ksOf X G cT_0)) := ⟨_, _, (ok_rn F_repeated_names T (ksOf X G cT_0) d_own_names d_repeated d_repeated_imports d_outer_bodies d_loops_of d_all_bodies), (He.glo_ok X G (Hk.Look.fact cF_1 39 (f := .glo "repeated_names") rfl)), F_repeated_names.kp, b_repeated_names⟩
  obtain ⟨fd_unknown_names, D_unknown_names⟩ := Hk.Look.def_ cD_2 6 (d := ⟨("unknown_names", none), "unknown_names", "unknown_names", defArgs s_unknown_names, defBody s_unknown_names, defScope s_unknown_names, [], []⟩) rfl
  have F_unknown_names : Fun K "unknown_names" "unknown_names" s_unknown_names (He.fAd K ("unknown_names", none)) fd_unknown_names := Hk.toFun D_unknown_names
  have b_unknown_names := F_unknown_names.binds (ps := ["sources", "file"]) fun _ _ _ _ _ _ us hl => match us, hl with | [_, _], _ => rfl
  have d_unknown_names : DnO P w K mg base "unknown_names" 2 ["sources", "file"] (spNone (ksOf X G cT_0)) := ⟨_, _, (ok_un F_unknown_names T (ksOf X G cT_0) I d_outer_bodies), (He.glo_ok X G (Hk.Look.fact cF_1 40 (f := .glo "unknown_names") rfl)), F_unknown_names.kp, b_unknown_names⟩
  obtain ⟨fd_rings, D_rings⟩ := Hk.Look.def_ cD_2 7 (d := ⟨("rings", none), "rings", "rings", defArgs s_rings, defBody s_rings, defScope s_rings, [], []⟩) rfl
  have F_rings : Fun K "rings" "rings" s_rings (He.fAd K ("rings", none)) fd_rings := Hk.toFun D_rings
  obtain ⟨fd_uses_itself, D_uses_itself⟩ := Hk.Look.def_ cD_2 8 (d := ⟨("uses_itself", none), "uses_itself", "uses_itself", defArgs s_uses_itself, defBody s_uses_itself, defScope s_uses_itself, [], []⟩) rfl
  have F_uses_itself : Fun K "uses_itself" "uses_itself" s_uses_itself (He.fAd K ("uses_itself", none)) fd_uses_itself := Hk.toFun D_uses_itself
  obtain ⟨fd_used_by, D_used_by⟩ := Hk.Look.def_ cD_2 9 (d := ⟨("used_by", none), "used_by", "used_by", defArgs s_used_by, defBody s_used_by, defScope s_used_by, [], []⟩) rfl
  have F_used_by : Fun K "used_by" "used_by" s_used_by (He.fAd K ("used_by", none)) fd_used_by := Hk.toFun D_used_by
  have b_used_by := F_used_by.binds (ps := ["sources", "file", "template"]) fun _ _ _ _ _ _ us hl => match us, hl with | [_, _, _], _ => rfl
  have d_used_by : DnO P w K mg base "used_by" 1 ["sources", "file", "template"] (spUB (ksOf X G cT_0)) := ⟨_, _, (ok_ub F_used_by T (ksOf X G cT_0) I), (He.glo_ok X G (Hk.Look.fact cF_1 41 (f := .glo "used_by") rfl)), F_used_by.kp, b_used_by⟩
  have b_uses_itself := F_uses_itself.binds (ps := ["sources", "file", "template"]) fun _ _ _ _ _ _ us hl => match us, hl with | [_, _, _], _ => rfl
  have d_uses_itself : DnO P w K mg base "uses_itself" 2 ["sources", "file", "template"] (spUI (ksOf X G cT_0)) := ⟨_, _, (ok_ui F_uses_itself T (ksOf X G cT_0) d_used_by), (He.glo_ok X G (Hk.Look.fact cF_1 42 (f := .glo "uses_itself") rfl)), F_uses_itself.kp, b_uses_itself⟩
  have b_rings := F_rings.binds (ps := ["sources", "file"]) fun _ _ _ _ _ _ us hl => match us, hl with | [_, _], _ => rfl
  have d_rings : DnO P w K mg base "rings" 3 ["sources", "file"] (spNone (ksOf X G cT_0)) := ⟨_, _, (ok_rings F_rings T (ksOf X G cT_0) d_uses_itself), (He.glo_ok X G (Hk.Look.fact cF_1 43 (f := .glo "rings") rfl)), F_rings.kp, b_rings⟩
  obtain ⟨fd_wrong_fields, D_wrong_fields⟩ := Hk.Look.def_ cD_2 10 (d := ⟨("wrong_fields", none), "wrong_fields", "wrong_fields", defArgs s_wrong_fields, defBody s_wrong_fields, defScope s_wrong_fields, [], []⟩) rfl
  have F_wrong_fields : Fun K "wrong_fields" "wrong_fields" s_wrong_fields (He.fAd K ("wrong_fields", none)) fd_wrong_fields := Hk.toFun D_wrong_fields
  obtain ⟨fd_Home___init__, D_Home___init__⟩ := Hk.Look.def_ cD_2 11 (d := ⟨("Home", some "__init__"), "__init__", "Home.__init__", defArgs m_Home_init, defBody m_Home_init, defScope m_Home_init, [], []⟩) rfl
  have F_Home___init__ : Fun K "__init__" "Home.__init__" m_Home_init (He.fAd K ("Home", some "__init__")) fd_Home___init__ := Hk.toFun D_Home___init__
  have b_Home___init__ := F_Home___init__.binds (ps := ["self", "sources", "file", "owner"]) fun _ _ _ _ _ _ us hl => match us, hl with | [_, _, _, _], _ => rfl
  have i_Home___init__ : Mkr P w K mg base (ksOf X G cT_0).Home 1 ["self", "sources", "file", "owner"] (fun _ => spHo (ksOf X G cT_0)) := ⟨_, _, He.mkr_ok (Hk.Look.fact cF_1 44 (f := .mkr "Home") rfl), (ok_ho F_Home___init__ T (ksOf X G cT_0)), b_Home___init__⟩
  obtain ⟨fd_wrong_declared, D_wrong_declared⟩ := Hk.Look.def_ cD_2 12 (d := ⟨("wrong_declared", none), "wrong_declared", "wrong_declared", defArgs s_wrong_declared, defBody s_wrong_declared, defScope s_wrong_declared, [], []⟩) rfl
  have F_wrong_declared : Fun K "wrong_declared" "wrong_declared" s_wrong_declared (He.fAd K ("wrong_declared", none)) fd_wrong_declared := Hk.toFun D_wrong_declared
  obtain ⟨fd_Sources_fields_of, D_Sources_fields_of⟩ := Hk.Look.def_ cD_2 13 (d := ⟨("Sources", some "fields_of"), "fields_of", "Sources.fields_of", defArgs m_Sources_fields_of, defBody m_Sources_fields_of, defScope m_Sources_fields_of, [], []⟩) rfl
  have F_Sources_fields_of : Fun K "fields_of" "Sources.fields_of" m_Sources_fields_of (He.fAd K ("Sources", some "fields_of")) fd_Sources_fields_of := Hk.toFun D_Sources_fields_of
  obtain ⟨fd_Sources_base_of, D_Sources_base_of⟩ := Hk.Look.def_ cD_2 14 (d := ⟨("Sources", some "base_of"), "base_of", "Sources.base_of", defArgs m_Sources_base_of, defBody m_Sources_base_of, defScope m_Sources_base_of, [], []⟩) rfl
  have F_Sources_base_of : Fun K "base_of" "Sources.base_of" m_Sources_base_of (He.fAd K ("Sources", some "base_of")) fd_Sources_base_of := Hk.toFun D_Sources_base_of
  obtain ⟨fd_Sources_template_behind, D_Sources_template_behind⟩ := Hk.Look.def_ cD_2 15 (d := ⟨("Sources", some "template_behind"), "template_behind", "Sources.template_behind", defArgs m_Sources_template_behind, defBody m_Sources_template_behind, defScope m_Sources_template_behind, [], []⟩) rfl
  have F_Sources_template_behind : Fun K "template_behind" "Sources.template_behind" m_Sources_template_behind (He.fAd K ("Sources", some "template_behind")) fd_Sources_template_behind := Hk.toFun D_Sources_template_behind
  obtain ⟨fd_Sources_own_template, D_Sources_own_template⟩ := Hk.Look.def_ cD_2 16 (d := ⟨("Sources", some "own_template"), "own_template", "Sources.own_template", defArgs m_Sources_own_template, defBody m_Sources_own_template, defScope m_Sources_own_template, [], []⟩) rfl
  have F_Sources_own_template : Fun K "own_template" "Sources.own_template" m_Sources_own_template (He.fAd K ("Sources", some "own_template")) fd_Sources_own_template := Hk.toFun D_Sources_own_template
  have b_Sources_own_template := F_Sources_own_template.binds (ps := ["self", "file", "owner"]) fun _ _ _ _ _ _ us hl => match us, hl with | [_, _, _], _ => rfl
  obtain ⟨m_Sources_own_template, h_Sources_own_template⟩ : ∃ z : DnM P w K mg base (ksOf X G cT_0).Sources "own_template" 1 ["self", "file", "owner"] (spOT (ksOf X G cT_0)), z.f = He.ma K (He.ga K "Sources") "own_template" := ⟨⟨_, _, (ok_ot F_Sources_own_template T (ksOf X G cT_0)), He.meth_ok (Hk.Look.fact cF_1 45 (f := .meth "Sources" "own_template") rfl), b_Sources_own_template⟩, rfl⟩
  have b_Sources_template_behind := F_Sources_template_behind.binds (ps := ["self", "file", "owner"]) fun _ _ _ _ _ _ us hl => match us, hl with | [_, _, _], _ => rfl
  obtain ⟨m_Sources_template_behind, h_Sources_template_behind⟩ : ∃ z : DnM P w K mg base (ksOf X G cT_0).Sources "template_behind" 2 ["self", "file", "owner"] (spTB (ksOf X G cT_0)), z.f = He.ma K (He.ga K "Sources") "template_behind" := ⟨⟨_, _, (ok_tb F_Sources_template_behind T (ksOf X G cT_0) m_Sources_own_template), He.meth_ok (Hk.Look.fact cF_1 46 (f := .meth "Sources" "template_behind") rfl), b_Sources_template_behind⟩, rfl⟩
  have q_Sources_template_behind : BMeth K (ksOf X G cT_0).Sources.C "template_behind" m_Sources_template_behind.f := by rw [h_Sources_template_behind]; exact Hk.bm_of (Hk.Look.test cT_0 50 (t := fun K => Hk.bmB K (He.ga K "Sources") (He.ma K (He.ga K "Sources") "template_behind")) rfl) (He.meth_ok (Hk.Look.fact cF_1 46 (f := .meth "Sources" "template_behind") rfl)) (by decide +kernel)
  have b_Sources_base_of := F_Sources_base_of.binds (ps := ["self", "file", "owner"]) fun _ _ _ _ _ _ us hl => match us, hl with | [_, _, _], _ => rfl
  obtain ⟨m_Sources_base_of, h_Sources_base_of⟩ : ∃ z : DnM P w K mg base (ksOf X G cT_0).Sources "base_of" 3 ["self", "file", "owner"] (spBa (ksOf X G cT_0)), z.f = He.ma K (He.ga K "Sources") "base_of" := ⟨⟨_, _, (ok_ba F_Sources_base_of T (ksOf X G cT_0) m_Sources_template_behind q_Sources_template_behind), He.meth_ok (Hk.Look.fact cF_1 47 (f := .meth "Sources" "base_of") rfl), b_Sources_base_of⟩, rfl⟩
  obtain ⟨fd_Sources_owner_body, D_Sources_owner_body⟩ := Hk.Look.def_ cD_2 17 (d := ⟨("Sources", some "owner_body"), "owner_body", "Sources.owner_body", defArgs m_Sources_owner_body, defBody m_Sources_owner_body, defScope m_Sources_owner_body, [], []⟩) rfl
  have F_Sources_owner_body : Fun K "owner_body" "Sources.owner_body" m_Sources_owner_body (He.fAd K ("Sources", some "owner_body")) fd_Sources_owner_body := Hk.toFun D_Sources_owner_body
  have b_Sources_owner_body := F_Sources_owner_body.binds (ps := ["self", "file", "owner"]) fun _ _ _ _ _ _ us hl => match us, hl with | [_, _, _], _ => rfl
  obtain ⟨m_Sources_owner_body, h_Sources_owner_body⟩ : ∃ z : DnM P w K mg base (ksOf X G cT_0).Sources "owner_body" 2 ["self", "file", "owner"] (spOw (ksOf X G cT_0)), z.f = He.ma K (He.ga K "Sources") "owner_body" := ⟨⟨_, _, (ok_ow F_Sources_owner_body T (ksOf X G cT_0) m_Sources_own_template), He.meth_ok (Hk.Look.fact cF_1 48 (f := .meth "Sources" "owner_body") rfl), b_Sources_owner_body⟩, rfl⟩
  have q_Sources_owner_body : BMeth K (ksOf X G cT_0).Sources.C "owner_body" m_Sources_owner_body.f := by rw [h_Sources_owner_body]; exact Hk.bm_of (Hk.Look.test cT_0 51 (t := fun K => Hk.bmB K (He.ga K "Sources") (He.ma K (He.ga K "Sources") "owner_body")) rfl) (He.meth_ok (Hk.Look.fact cF_1 48 (f := .meth "Sources" "owner_body") rfl)) (by decide +kernel)
  obtain ⟨fd_Sources_field_for, D_Sources_field_for⟩ := Hk.Look.def_ cD_2 18 (d := ⟨("Sources", some "field_for"), "field_for", "Sources.field_for", defArgs m_Sources_field_for, defBody m_Sources_field_for, defScope m_Sources_field_for, [], []⟩) rfl
  have F_Sources_field_for : Fun K "field_for" "Sources.field_for" m_Sources_field_for (He.fAd K ("Sources", some "field_for")) fd_Sources_field_for := Hk.toFun D_Sources_field_for
  obtain ⟨fd_Field___init__, D_Field___init__⟩ := Hk.Look.def_ cD_2 19 (d := ⟨("Field", some "__init__"), "__init__", "Field.__init__", defArgs m_Field_init, defBody m_Field_init, defScope m_Field_init, [], []⟩) rfl
  have F_Field___init__ : Fun K "__init__" "Field.__init__" m_Field_init (He.fAd K ("Field", some "__init__")) fd_Field___init__ := Hk.toFun D_Field___init__
  have b_Field___init__ := F_Field___init__.binds (ps := ["self", "entry"]) fun _ _ _ _ _ _ us hl => match us, hl with | [_, _], _ => rfl
  have i_Field___init__ : Mkr P w K mg base (ksOf X G cT_0).Field 1 ["self", "entry"] (spFi (ksOf X G cT_0)) := ⟨_, _, He.mkr_ok (Hk.Look.fact cF_1 49 (f := .mkr "Field") rfl), (ok_fi F_Field___init__ T (ksOf X G cT_0)), b_Field___init__⟩
  have b_Sources_field_for := F_Sources_field_for.binds (ps := ["self", "file", "entry"]) fun _ _ _ _ _ _ us hl => match us, hl with | [_, _, _], _ => rfl
  obtain ⟨m_Sources_field_for, h_Sources_field_for⟩ : ∃ z : DnM P w K mg base (ksOf X G cT_0).Sources "field_for" 3 ["self", "file", "entry"] (spFF (ksOf X G cT_0)), z.f = He.ma K (He.ga K "Sources") "field_for" := ⟨⟨_, _, (ok_ff F_Sources_field_for T (ksOf X G cT_0) I i_Field___init__), He.meth_ok (Hk.Look.fact cF_1 50 (f := .meth "Sources" "field_for") rfl), b_Sources_field_for⟩, rfl⟩
  have b_Sources_fields_of := F_Sources_fields_of.binds (ps := ["self", "file", "owner"]) fun _ _ _ _ _ _ us hl => match us, hl with | [_, _, _], _ => rfl
  obtain ⟨m_Sources_fields_of, h_Sources_fields_of⟩ : ∃ z : DnM P w K mg base (ksOf X G cT_0).Sources "fields_of" 4 ["self", "file", "owner"] (spFO (ksOf X G cT_0)), z.f = He.ma K (He.ga K "Sources") "fields_of" := ⟨⟨_, _, (ok_fo F_Sources_fields_of T (ksOf X G cT_0) m_Sources_base_of m_Sources_owner_body q_Sources_owner_body m_Sources_field_for), He.meth_ok (Hk.Look.fact cF_1 51 (f := .meth "Sources" "fields_of") rfl), b_Sources_fields_of⟩, rfl⟩
  have q_Sources_fields_of : BMeth K (ksOf X G cT_0).Sources.C "fields_of" m_Sources_fields_of.f := by rw [h_Sources_fields_of]; exact Hk.bm_of (Hk.Look.test cT_0 52 (t := fun K => Hk.bmB K (He.ga K "Sources") (He.ma K (He.ga K "Sources") "fields_of")) rfl) (He.meth_ok (Hk.Look.fact cF_1 51 (f := .meth "Sources" "fields_of") rfl)) (by decide +kernel)
  obtain ⟨fd_lost_paths, D_lost_paths⟩ := Hk.Look.def_ cD_2 20 (d := ⟨("lost_paths", none), "lost_paths", "lost_paths", defArgs s_lost_paths, defBody s_lost_paths, defScope s_lost_paths, [], []⟩) rfl
  have F_lost_paths : Fun K "lost_paths" "lost_paths" s_lost_paths (He.fAd K ("lost_paths", none)) fd_lost_paths := Hk.toFun D_lost_paths
  obtain ⟨fd_paths_of, D_paths_of⟩ := Hk.Look.def_ cD_2 21 (d := ⟨("paths_of", none), "paths_of", "paths_of", defArgs s_paths_of, defBody s_paths_of, defScope s_paths_of, [], []⟩) rfl
  have F_paths_of : Fun K "paths_of" "paths_of" s_paths_of (He.fAd K ("paths_of", none)) fd_paths_of := Hk.toFun D_paths_of
  have b_paths_of := F_paths_of.binds (ps := ["value"]) fun _ _ _ _ _ _ us hl => match us, hl with | [_], _ => rfl
  have d_paths_of : DnO P w K mg base "paths_of" 1 ["value"] (spPO (ksOf X G cT_0)) := ⟨_, _, (ok_po F_paths_of T (ksOf X G cT_0) I), (He.glo_ok X G (Hk.Look.fact cF_1 52 (f := .glo "paths_of") rfl)), F_paths_of.kp, b_paths_of⟩
  have b_lost_paths := F_lost_paths.binds (ps := ["home", "value"]) fun _ _ _ _ _ _ us hl => match us, hl with | [_, _], _ => rfl
  have d_lost_paths : DnO P w K mg base "lost_paths" 2 ["home", "value"] (spLP (ksOf X G cT_0)) := ⟨_, _, (ok_lp F_lost_paths T (ksOf X G cT_0) d_paths_of), (He.glo_ok X G (Hk.Look.fact cF_1 53 (f := .glo "lost_paths") rfl)), F_lost_paths.kp, b_lost_paths⟩
  have b_wrong_declared := F_wrong_declared.binds (ps := ["home", "body"]) fun _ _ _ _ _ _ us hl => match us, hl with | [_, _], _ => rfl
  have d_wrong_declared : DnO P w K mg base "wrong_declared" 5 ["home", "body"] (spWD (ksOf X G cT_0)) := ⟨_, _, (ok_wd F_wrong_declared T (ksOf X G cT_0) m_Sources_fields_of q_Sources_fields_of d_bodies_in d_lost_paths), (He.glo_ok X G (Hk.Look.fact cF_1 54 (f := .glo "wrong_declared") rfl)), F_wrong_declared.kp, b_wrong_declared⟩
  have b_wrong_fields := F_wrong_fields.binds (ps := ["sources", "file"]) fun _ _ _ _ _ _ us hl => match us, hl with | [_, _], _ => rfl
  have d_wrong_fields : DnO P w K mg base "wrong_fields" 6 ["sources", "file"] (spWF (ksOf X G cT_0)) := ⟨_, _, (ok_wf F_wrong_fields T (ksOf X G cT_0) i_Home___init__ d_wrong_declared), (He.glo_ok X G (Hk.Look.fact cF_1 55 (f := .glo "wrong_fields") rfl)), F_wrong_fields.kp, b_wrong_fields⟩
  have b_check_names := F_check_names.binds (ps := ["sources", "files"]) fun _ _ _ _ _ _ us hl => match us, hl with | [_, _], _ => rfl
  have d_check_names : DnX P w K mg base "check_names" 7 ["sources", "files"] (spCN (He.ga K "SourceError") (ksOf X G cT_0)) := ⟨_, _, (ok_cn F_check_names T (ksOf X G cT_0) d_raise_first d_wrong_imports d_repeated_names d_unknown_names d_rings d_wrong_fields), (He.glo_ok X G (Hk.Look.fact cF_1 56 (f := .glo "check_names") rfl)), F_check_names.kp, b_check_names⟩
  have b_sources_of := F_sources_of.binds (ps := ["files"]) fun _ _ _ _ _ _ us hl => match us, hl with | [_], _ => rfl
  have d_sources_of : DnX P w K mg base "sources_of" 8 ["files"] (spSF (He.ga K "SourceError") (ksOf X G cT_0)) := ⟨_, _, (ok_sf F_sources_of T (ksOf X G cT_0) i_Sources___init__ d_check_names), (He.glo_ok X G (Hk.Look.fact cF_1 57 (f := .glo "sources_of") rfl)), F_sources_of.kp, b_sources_of⟩
  obtain ⟨fd_check_kinds, D_check_kinds⟩ := Hk.Look.def_ cD_2 22 (d := ⟨("check_kinds", none), "check_kinds", "check_kinds", defArgs s_check_kinds, defBody s_check_kinds, defScope s_check_kinds, [], []⟩) rfl
  have F_check_kinds : Fun K "check_kinds" "check_kinds" s_check_kinds (He.fAd K ("check_kinds", none)) fd_check_kinds := Hk.toFun D_check_kinds
  obtain ⟨fd_Sources_settle, D_Sources_settle⟩ := Hk.Look.def_ cD_3 0 (d := ⟨("Sources", some "settle"), "settle", "Sources.settle", defArgs m_Sources_settle, defBody m_Sources_settle, defScope m_Sources_settle, [], []⟩) rfl
  have F_Sources_settle : Fun K "settle" "Sources.settle" m_Sources_settle (He.fAd K ("Sources", some "settle")) fd_Sources_settle := Hk.toFun D_Sources_settle
  obtain ⟨fd_Sources_owners, D_Sources_owners⟩ := Hk.Look.def_ cD_3 1 (d := ⟨("Sources", some "owners"), "owners", "Sources.owners", defArgs m_Sources_owners, defBody m_Sources_owners, defScope m_Sources_owners, [], []⟩) rfl
  have F_Sources_owners : Fun K "owners" "Sources.owners" m_Sources_owners (He.fAd K ("Sources", some "owners")) fd_Sources_owners := Hk.toFun D_Sources_owners
  have b_Sources_owners := F_Sources_owners.binds (ps := ["self", "name"]) fun _ _ _ _ _ _ us hl => match us, hl with | [_, _], _ => rfl
  obtain ⟨m_Sources_owners, h_Sources_owners⟩ : ∃ z : DnM P w K mg base (ksOf X G cT_0).Sources "owners" 1 ["self", "name"] (spOs (ksOf X G cT_0)), z.f = He.ma K (He.ga K "Sources") "owners" := ⟨⟨_, _, (ok_os F_Sources_owners T (ksOf X G cT_0)), He.meth_ok (Hk.Look.fact cF_1 58 (f := .meth "Sources" "owners") rfl), b_Sources_owners⟩, rfl⟩
  obtain ⟨fd_Sources_kind_of, D_Sources_kind_of⟩ := Hk.Look.def_ cD_3 2 (d := ⟨("Sources", some "kind_of"), "kind_of", "Sources.kind_of", defArgs m_Sources_kind_of, defBody m_Sources_kind_of, defScope m_Sources_kind_of, [], []⟩) rfl
  have F_Sources_kind_of : Fun K "kind_of" "Sources.kind_of" m_Sources_kind_of (He.fAd K ("Sources", some "kind_of")) fd_Sources_kind_of := Hk.toFun D_Sources_kind_of
  obtain ⟨fd_literal_kind, D_literal_kind⟩ := Hk.Look.def_ cD_3 3 (d := ⟨("literal_kind", none), "literal_kind", "literal_kind", defArgs s_literal_kind, defBody s_literal_kind, defScope s_literal_kind, [], []⟩) rfl
  have F_literal_kind : Fun K "literal_kind" "literal_kind" s_literal_kind (He.fAd K ("literal_kind", none)) fd_literal_kind := Hk.toFun D_literal_kind
  have b_literal_kind := F_literal_kind.binds (ps := ["literal"]) fun _ _ _ _ _ _ us hl => match us, hl with | [_], _ => rfl
  have d_literal_kind : DnO P w K mg base "literal_kind" 1 ["literal"] (spLK (ksOf X G cT_0)) := ⟨_, _, (ok_lk F_literal_kind T (ksOf X G cT_0)), (He.glo_ok X G (Hk.Look.fact cF_1 59 (f := .glo "literal_kind") rfl)), F_literal_kind.kp, b_literal_kind⟩
  have b_Sources_kind_of := F_Sources_kind_of.binds (ps := ["self", "home", "value", "seen"]) fun _ _ _ _ _ _ us hl => match us, hl with | [_, _, _, _], _ => rfl
  obtain ⟨m_Sources_kind_of, h_Sources_kind_of⟩ : ∃ z : DnM P w K mg base (ksOf X G cT_0).Sources "kind_of" 2 ["self", "home", "value", "seen"] (spKO P w (ksOf X G cT_0)), z.f = He.ma K (He.ga K "Sources") "kind_of" := ⟨⟨_, _, (ok_ko F_Sources_kind_of T (ksOf X G cT_0) I d_literal_kind), He.meth_ok (Hk.Look.fact cF_2 0 (f := .meth "Sources" "kind_of") rfl), b_Sources_kind_of⟩, rfl⟩
  have b_Sources_settle := F_Sources_settle.binds (ps := ["self"]) fun _ _ _ _ _ _ us hl => match us, hl with | [_], _ => rfl
  obtain ⟨m_Sources_settle, h_Sources_settle⟩ : ∃ z : DnM P w K mg base (ksOf X G cT_0).Sources "settle" 5 ["self"] (spSt (ksOf X G cT_0)), z.f = He.ma K (He.ga K "Sources") "settle" := ⟨⟨_, _, (ok_st F_Sources_settle T (ksOf X G cT_0) m_Sources_owners m_Sources_fields_of m_Sources_kind_of), He.meth_ok (Hk.Look.fact cF_2 1 (f := .meth "Sources" "settle") rfl), b_Sources_settle⟩, rfl⟩
  obtain ⟨fd_wrong_kinds, D_wrong_kinds⟩ := Hk.Look.def_ cD_3 4 (d := ⟨("wrong_kinds", none), "wrong_kinds", "wrong_kinds", defArgs s_wrong_kinds, defBody s_wrong_kinds, defScope s_wrong_kinds, [], []⟩) rfl
  have F_wrong_kinds : Fun K "wrong_kinds" "wrong_kinds" s_wrong_kinds (He.fAd K ("wrong_kinds", none)) fd_wrong_kinds := Hk.toFun D_wrong_kinds
  obtain ⟨fd_wrong_in_declared, D_wrong_in_declared⟩ := Hk.Look.def_ cD_3 5 (d := ⟨("wrong_in_declared", none), "wrong_in_declared", "wrong_in_declared", defArgs s_wrong_in_declared, defBody s_wrong_in_declared, defScope s_wrong_in_declared, [], []⟩) rfl
  have F_wrong_in_declared : Fun K "wrong_in_declared" "wrong_in_declared" s_wrong_in_declared (He.fAd K ("wrong_in_declared", none)) fd_wrong_in_declared := Hk.toFun D_wrong_in_declared
  obtain ⟨fd_wrong_value, D_wrong_value⟩ := Hk.Look.def_ cD_3 6 (d := ⟨("wrong_value", none), "wrong_value", "wrong_value", defArgs s_wrong_value, defBody s_wrong_value, defScope s_wrong_value, [], []⟩) rfl
  have F_wrong_value : Fun K "wrong_value" "wrong_value" s_wrong_value (He.fAd K ("wrong_value", none)) fd_wrong_value := Hk.toFun D_wrong_value
  obtain ⟨fd_wrong_side, D_wrong_side⟩ := Hk.Look.def_ cD_3 7 (d := ⟨("wrong_side", none), "wrong_side", "wrong_side", defArgs s_wrong_side, defBody s_wrong_side, defScope s_wrong_side, [], []⟩) rfl
  have F_wrong_side : Fun K "wrong_side" "wrong_side" s_wrong_side (He.fAd K ("wrong_side", none)) fd_wrong_side := Hk.toFun D_wrong_side
  have b_wrong_side := F_wrong_side.binds (ps := ["home", "value", "kind"]) fun _ _ _ _ _ _ us hl => match us, hl with | [_, _, _], _ => rfl
  have d_wrong_side : DnO P w K mg base "wrong_side" 2 ["home", "value", "kind"] (spWS (ksOf X G cT_0)) := ⟨_, _, (ok_ws F_wrong_side T (ksOf X G cT_0) I d_literal_kind), (He.glo_ok X G (Hk.Look.fact cF_2 2 (f := .glo "wrong_side") rfl)), F_wrong_side.kp, b_wrong_side⟩
  have b_wrong_value := F_wrong_value.binds (ps := ["home", "value", "kind"]) fun _ _ _ _ _ _ us hl => match us, hl with | [_, _, _], _ => rfl
  have d_wrong_value : DnO P w K mg base "wrong_value" 3 ["home", "value", "kind"] (spWV (ksOf X G cT_0)) := ⟨_, _, (ok_wv F_wrong_value T (ksOf X G cT_0) I d_wrong_side), (He.glo_ok X G (Hk.Look.fact cF_2 3 (f := .glo "wrong_value") rfl)), F_wrong_value.kp, b_wrong_value⟩
  have b_wrong_in_declared := F_wrong_in_declared.binds (ps := ["home", "body"]) fun _ _ _ _ _ _ us hl => match us, hl with | [_, _], _ => rfl
  have d_wrong_in_declared : DnO P w K mg base "wrong_in_declared" 5 ["home", "body"] (spWI2 (ksOf X G cT_0)) := ⟨_, _, (ok_wi2 F_wrong_in_declared T (ksOf X G cT_0) m_Sources_fields_of q_Sources_fields_of d_bodies_in I d_wrong_value), (He.glo_ok X G (Hk.Look.fact cF_2 4 (f := .glo "wrong_in_declared") rfl)), F_wrong_in_declared.kp, b_wrong_in_declared⟩
  obtain ⟨fd_wrong_items, D_wrong_items⟩ := Hk.Look.def_ cD_3 8 (d := ⟨("wrong_items", none), "wrong_items", "wrong_items", defArgs s_wrong_items, defBody s_wrong_items, defScope s_wrong_items, [], []⟩) rfl
  have F_wrong_items : Fun K "wrong_items" "wrong_items" s_wrong_items (He.fAd K ("wrong_items", none)) fd_wrong_items := Hk.toFun D_wrong_items
  have b_wrong_items := F_wrong_items.binds (ps := ["source"]) fun _ _ _ _ _ _ us hl => match us, hl with | [_], _ => rfl
  have d_wrong_items : DnO P w K mg base "wrong_items" 1 ["source"] (spWIt (ksOf X G cT_0)) := ⟨_, _, (ok_wit F_wrong_items T (ksOf X G cT_0)), (He.glo_ok X G (Hk.Look.fact cF_2 5 (f := .glo "wrong_items") rfl)), F_wrong_items.kp, b_wrong_items⟩
  have b_wrong_kinds := F_wrong_kinds.binds (ps := ["sources", "file"]) fun _ _ _ _ _ _ us hl => match us, hl with | [_, _], _ => rfl
  have d_wrong_kinds : DnO P w K mg base "wrong_kinds" 6 ["sources", "file"] (spWK (ksOf X G cT_0)) := ⟨_, _, (ok_wk F_wrong_kinds T (ksOf X G cT_0) i_Home___init__ d_wrong_in_declared d_wrong_items), (He.glo_ok X G (Hk.Look.fact cF_2 6 (f := .glo "wrong_kinds") rfl)), F_wrong_kinds.kp, b_wrong_kinds⟩
  have b_check_kinds := F_check_kinds.binds (ps := ["sources", "files"]) fun _ _ _ _ _ _ us hl => match us, hl with | [_, _], _ => rfl
  have d_check_kinds : DnX P w K mg base "check_kinds" 7 ["sources", "files"] (spCK (ksOf X G cT_0)) := ⟨_, _, (ok_ck F_check_kinds T (ksOf X G cT_0) m_Sources_settle d_raise_first d_wrong_kinds), (He.glo_ok X G (Hk.Look.fact cF_2 7 (f := .glo "check_kinds") rfl)), F_check_kinds.kp, b_check_kinds⟩
  obtain ⟨fd_check_circles, D_check_circles⟩ := Hk.Look.def_ cD_3 9 (d := ⟨("check_circles", none), "check_circles", "check_circles", defArgs s_check_circles, defBody s_check_circles, defScope s_check_circles, [], []⟩) rfl
  have F_check_circles : Fun K "check_circles" "check_circles" s_check_circles (He.fAd K ("check_circles", none)) fd_check_circles := Hk.toFun D_check_circles
  have b_check_circles := F_check_circles.binds (ps := ["sources", "files"]) fun _ _ _ _ _ _ us hl => match us, hl with | [_, _], _ => rfl
  have d_check_circles : DnX P w K mg base "check_circles" 1 ["sources", "files"] (spCC (ksOf X G cT_0)) := ⟨_, _, (ok_cc F_check_circles T (ksOf X G cT_0)), (He.glo_ok X G (Hk.Look.fact cF_2 8 (f := .glo "check_circles") rfl)), F_check_circles.kp, b_check_circles⟩
  have b_read_sources := F_read_sources.binds (ps := ["files"]) fun _ _ _ _ _ _ us hl => match us, hl with | [_], _ => rfl
  have d_read_sources : DnX P w K mg base "read_sources" 13 ["files"] (spRS (He.ga K "SourceError") (ksOf X G cT_0)) := ⟨_, _, (ok_rs F_read_sources T (ksOf X G cT_0) d_read_file d_sources_of d_check_kinds d_check_circles), (He.glo_ok X G (Hk.Look.fact cF_2 9 (f := .glo "read_sources") rfl)), F_read_sources.kp, b_read_sources⟩
  obtain ⟨fd_Sources_file_named, D_Sources_file_named⟩ := Hk.Look.def_ cD_3 10 (d := ⟨("Sources", some "file_named"), "file_named", "Sources.file_named", defArgs m_Sources_file_named, defBody m_Sources_file_named, defScope m_Sources_file_named, [], []⟩) rfl
  have F_Sources_file_named : Fun K "file_named" "Sources.file_named" m_Sources_file_named (He.fAd K ("Sources", some "file_named")) fd_Sources_file_named := Hk.toFun D_Sources_file_named
  have b_Sources_file_named := F_Sources_file_named.binds (ps := ["self", "name"]) fun _ _ _ _ _ _ us hl => match us, hl with | [_, _], _ => rfl
  obtain ⟨m_Sources_file_named, h_Sources_file_named⟩ : ∃ z : DnM P w K mg base (ksOf X G cT_0).Sources "file_named" 1 ["self", "name"] (spFN (ksOf X G cT_0)), z.f = He.ma K (He.ga K "Sources") "file_named" := ⟨⟨_, _, (ok_fn F_Sources_file_named T (ksOf X G cT_0)), He.meth_ok (Hk.Look.fact cF_2 10 (f := .meth "Sources" "file_named") rfl), b_Sources_file_named⟩, rfl⟩
  obtain ⟨fd_Project_list_sizes, D_Project_list_sizes⟩ := Hk.Look.def_ cD_3 11 (d := ⟨("Project", some "list_sizes"), "list_sizes", "Project.list_sizes", defArgs m_Project_list_sizes, defBody m_Project_list_sizes, defScope m_Project_list_sizes, [], []⟩) rfl
  have F_Project_list_sizes : Fun K "list_sizes" "Project.list_sizes" m_Project_list_sizes (He.fAd K ("Project", some "list_sizes")) fd_Project_list_sizes := Hk.toFun D_Project_list_sizes
  have b_Project_list_sizes := F_Project_list_sizes.binds (ps := ["self"]) fun _ _ _ _ _ _ us hl => match us, hl with | [_], _ => rfl
  obtain ⟨m_Project_list_sizes, h_Project_list_sizes⟩ : ∃ z : DnM P w K mg base (ksOf X G cT_0).Project "list_sizes" 2 ["self"] (spLZ (ksOf X G cT_0)), z.f = He.ma K (He.ga K "Project") "list_sizes" := ⟨⟨_, _, (ok_lz F_Project_list_sizes T (ksOf X G cT_0) m_Sources_file_named), He.meth_ok (Hk.Look.fact cF_2 11 (f := .meth "Project" "list_sizes") rfl), b_Project_list_sizes⟩, rfl⟩
  have b_Project___init__ := F_Project___init__.binds (ps := ["self", "files"]) fun _ _ _ _ _ _ us hl => match us, hl with | [_, _], _ => rfl
  have i_Project___init__ : MkrX P w K mg base (ksOf X G cT_0).Project 14 ["self", "files"] (spPI (He.ga K "SourceError") (ksOf X G cT_0)) := ⟨_, _, He.mkr_ok (Hk.Look.fact cF_2 12 (f := .mkr "Project") rfl), (ok_pi F_Project___init__ T (ksOf X G cT_0) d_are_files d_read_sources m_Sources_file_named m_Project_list_sizes), b_Project___init__⟩
  obtain ⟨fd_Project___len__, D_Project___len__⟩ := Hk.Look.def_ cD_3 12 (d := ⟨("Project", some "__len__"), "__len__", "Project.__len__", defArgs m_Project_len, defBody m_Project_len, defScope m_Project_len, [], []⟩) rfl
  have F_Project___len__ : Fun K "__len__" "Project.__len__" m_Project_len (He.fAd K ("Project", some "__len__")) fd_Project___len__ := Hk.toFun D_Project___len__
  have b_Project___len__ := F_Project___len__.binds (ps := ["self"]) fun _ _ _ _ _ _ us hl => match us, hl with | [_], _ => rfl
  obtain ⟨m_Project___len__, h_Project___len__⟩ : ∃ z : DnM P w K mg base (ksOf X G cT_0).Project "__len__" 1 ["self"] (spPL (ksOf X G cT_0)), z.f = He.ma K (He.ga K "Project") "__len__" := ⟨⟨_, _, (ok_pl F_Project___len__ T (ksOf X G cT_0)), He.meth_ok (Hk.Look.fact cF_2 13 (f := .meth "Project" "__len__") rfl), b_Project___len__⟩, rfl⟩
  obtain ⟨fd__law_box, D__law_box⟩ := Hk.Look.def_ cD_3 13 (d := ⟨("_law_box", none), "_law_box", "_law_box", defArgs sBox, defBody sBox, defScope sBox, [], []⟩) rfl
  have F__law_box : Fun K "_law_box" "_law_box" sBox (He.fAd K ("_law_box", none)) fd__law_box := Hk.toFun D__law_box
  have b__law_box := F__law_box.binds (ps := ["_law_script", "_law_k"]) fun _ _ _ _ _ _ us hl => match us, hl with | [_, _], _ => rfl
  have d__law_box : DnO P w K mg base "_law_box" 1 ["_law_script", "_law_k"] (spBox K) := ⟨_, _, (ok_box F__law_box T), (He.glo_ok X G (Hk.Look.fact cF_2 14 (f := .glo "_law_box") rfl)), F__law_box.kp, b__law_box⟩
  obtain ⟨fd__law_take, D__law_take⟩ := Hk.Look.def_ cD_3 14 (d := ⟨("_law_take", none), "_law_take", "_law_take", defArgs sTake, defBody sTake, defScope sTake, [], []⟩) rfl
  have F__law_take : Fun K "_law_take" "_law_take" sTake (He.fAd K ("_law_take", none)) fd__law_take := Hk.toFun D__law_take
  have b__law_take := F__law_take.binds (ps := ["_law_box_here", "_law_many"]) fun _ _ _ _ _ _ us hl => match us, hl with | [_, _], _ => rfl
  have d__law_take : DnO P w K mg base "_law_take" 1 ["_law_box_here", "_law_many"] spTake := ⟨_, _, (ok_take F__law_take), (He.glo_ok X G (Hk.Look.fact cF_2 15 (f := .glo "_law_take") rfl)), F__law_take.kp, b__law_take⟩
  obtain ⟨fd__law_files, D__law_files⟩ := Hk.Look.def_ cD_3 15 (d := ⟨("_law_files", none), "_law_files", "_law_files", defArgs s_law_files, defBody s_law_files, defScope s_law_files, [], []⟩) rfl
  have F__law_files : Fun K "_law_files" "_law_files" s_law_files (He.fAd K ("_law_files", none)) fd__law_files := Hk.toFun D__law_files
  obtain ⟨fd__law_of, D__law_of⟩ := Hk.Look.def_ cD_3 16 (d := ⟨("_law_of", none), "_law_of", "_law_of", defArgs sOf, defBody sOf, defScope sOf, [], []⟩) rfl
  have F__law_of : Fun K "_law_of" "_law_of" sOf (He.fAd K ("_law_of", none)) fd__law_of := Hk.toFun D__law_of
  have b__law_of := F__law_of.binds (ps := ["_law_box_here", "_law_some"]) fun _ _ _ _ _ _ us hl => match us, hl with | [_, _], _ => rfl
  have d__law_of : DnO P w K mg base "_law_of" 2 ["_law_box_here", "_law_some"] spOf := ⟨_, _, (ok_of2 F__law_of T d__law_take), (He.glo_ok X G (Hk.Look.fact cF_2 16 (f := .glo "_law_of") rfl)), F__law_of.kp, b__law_of⟩
  obtain ⟨fd__law_put, D__law_put⟩ := Hk.Look.def_ cD_3 17 (d := ⟨("_law_put", none), "_law_put", "_law_put", defArgs s_law_put, defBody s_law_put, defScope s_law_put, [], []⟩) rfl
  have F__law_put : Fun K "_law_put" "_law_put" s_law_put (He.fAd K ("_law_put", none)) fd__law_put := Hk.toFun D__law_put
  have b__law_put := F__law_put.binds (ps := ["_law_state", "_law_part"]) fun _ _ _ _ _ _ us hl => match us, hl with | [_, _], _ => rfl
  have d__law_put : DnO P w K mg base "_law_put" 1 ["_law_state", "_law_part"] spPut := ⟨_, _, (ok_put F__law_put T), (He.glo_ok X G (Hk.Look.fact cF_2 17 (f := .glo "_law_put") rfl)), F__law_put.kp, b__law_put⟩
  have b__law_files := F__law_files.binds (ps := ["_law_box_here"]) fun _ _ _ _ _ _ us hl => match us, hl with | [_], _ => rfl
  have d__law_files : DnO P w K mg base "_law_files" 3 ["_law_box_here"] spFiles := ⟨_, _, (ok_files F__law_files T d__law_take d__law_of d__law_put), (He.glo_ok X G (Hk.Look.fact cF_2 18 (f := .glo "_law_files") rfl)), F__law_files.kp, b__law_files⟩
  obtain ⟨fd__law_due, D__law_due⟩ := Hk.Look.def_ cD_3 18 (d := ⟨("_law_due", none), "_law_due", "_law_due", defArgs s_law_due, defBody s_law_due, defScope s_law_due, [], []⟩) rfl
  have F__law_due : Fun K "_law_due" "_law_due" s_law_due (He.fAd K ("_law_due", none)) fd__law_due := Hk.toFun D__law_due
  have b__law_due := F__law_due.binds (ps := ["_law_found"]) fun _ _ _ _ _ _ us hl => match us, hl with | [_], _ => rfl
  have d__law_due : DnO P w K mg base "_law_due" 1 ["_law_found"] spDue := ⟨_, _, (ok_due F__law_due T), (He.glo_ok X G (Hk.Look.fact cF_2 19 (f := .glo "_law_due") rfl)), F__law_due.kp, b__law_due⟩
  exact ok_law FL T (ksOf X G cT_0) TB er Y dL i_Project___init__ m_Project___len__ d__law_box d__law_take d__law_files d__law_due
end M05

set_option Elab.async false
set_option linter.all false
set_option maxRecDepth 100000
open PySem PySem.W PySem.Calls PyProof.Rows
set_option maxHeartbeats 0 in
theorem PySem.Challenge.cw_sourceback_k05_imports_and_names_that_st_holds : PySem.Challenge.rw_sourceback_k05_imports_and_names_that_st.Holds := by
  w_on; o_law
  refine HandSHeadRun.head_any (r := OpenLaw.row PySem.Challenge.rw_sourceback_k05_imports_and_names_that_st) (q := M05.qv) (H := Hk.hook M05.as M05.looks M05.tf) (ob := Hk.ob M05.as M05.looks M05.tf) (M := M05.M) (loose := M05.nms) (d := HandSHeadRun.topDef (OpenLaw.row PySem.Challenge.rw_sourceback_k05_imports_and_names_that_st).prog 123) (kwd := []) Hk.ob_eq
    (by kernel_rfl) (fun s => by kernel_rfl) M05.run (by kernel_rfl) (by kernel_rfl) (by kernel_rfl) (by rfl) (by first | assumption | decide +kernel) (by decide +kernel) ⟨rfl, rfl, rfl, rfl, rfl, by decide +kernel⟩ ?hw ?hc
  case hw => w_witness2
  case hc =>
    refine LamX.walk_ofTsE (l := PySem.Challenge.rw_sourceback_k05_imports_and_names_that_st) (n := 63) (k := 18) (x := "_law_script") (CX := fun _ => L2.CX0) rfl (by decide) (by kernel_rfl) ⟨rfl, by decide, by decide⟩ ?F (fun _ _ _ _ _ z => z)
    intro w mg fa h Y G hmg0
    obtain ⟨K, KX, c⟩ := Y
    have hmg : mg ("law" : PySem.Str) = some (.ref fa) := by
      have e : (HandSHeadRun.topDef (OpenLaw.row PySem.Challenge.rw_sourceback_k05_imports_and_names_that_st).prog 123).name = ("law" : PySem.Str) := by kernel_rfl
      rw [← e]
      exact hmg0
    obtain ⟨fd, hb, hF⟩ := M05.all_mk (P := (PySem.Challenge.rw_sourceback_k05_imports_and_names_that_st).prog) (w := w) KX G hmg (c.see _ (by simp only [M05.looks, List.mem_cons, true_or, or_true])) (c.see _ (by simp only [M05.looks, List.mem_cons, true_or, or_true])) (c.see _ (by simp only [M05.looks, List.mem_cons, true_or, or_true])) (c.see _ (by simp only [M05.looks, List.mem_cons, true_or, or_true])) (c.see _ (by simp only [M05.looks, List.mem_cons, true_or, or_true])) (c.see _ (by simp only [M05.looks, List.mem_cons, true_or, or_true])) (c.see _ (by simp only [M05.looks, List.mem_cons, true_or, or_true])) (c.see _ (by simp only [M05.looks, List.mem_cons, true_or, or_true]))
    have hm : (("law", none) : He.Defn) ∈ M05.tf := List.mem_singleton.mpr rfl
    refine ⟨K, KX, fd, [He.cT K ("law", none)], M05.spLaw K (He.cT K ("law", none)).2, fun p hp => ?_, fun p hp => ?_, fun p hp => ?_, hb, fun H a ns hl _ hT hS => ⟨a, ns, rfl, hS, hl, fun p hp => ?_, fun _ => rfl⟩, fun base b1 b2 b3 => hF base b1 b2 (b3 _ (List.mem_singleton.mpr rfl))⟩
    · rw [List.mem_singleton.mp hp]
      exact c.empty _ hm
    · rw [List.mem_singleton.mp hp]
      exact c.out _ hm
    · rw [List.mem_singleton.mp hp]
      exact codeHd_of_K KX (c.hd _ hm)
    · rw [List.mem_singleton.mp hp]
      exact LamX.TabS.nil (hT _ (List.mem_singleton.mpr rfl))
